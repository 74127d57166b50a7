import PyProof.Rows.All
import Wide.All
import OpenK.AllK
import Wide.FinOn
import HandS.ForMost
import HandS.ForExc
import HandS.TupAny
import HandS.SortInts
import HandS.Conv
import HandS.Style
import HandS.Zip
import HandS.Walk
import HandS.Wide
import HandS.ExcInit
import HandS.Defaults
import HandS.IsInst
import HandS.TryMany
import HandS.DictComp
import HandS.WordsDict
import KE.DataEq
import PyProof.WalkInts
import KE.SortData
import KE.GoesMore
import KE.GoesEnum
import HandS.Strs
import HandS.More
import HandS.TryOnly
import KE.GoesZip
import KE.DataFind
import HandS.TupLen
import HandS.TupSets
import KE.KeyNested
import HandS.SetBool
import KE.KDictPairs
import HandS.RaiseMore
import PyProof.Rows.SetFrom
import PyProof.Rows.StrJoinMade
import HandS.HeadHook3
import KE.KDictDisplayH
import PyProof.ZipIter
import PyProof.CallType
import PyProof.Walk
import PyProof.WalkLemmas
import PyProof.RangeIter
import PyProof.RulesTry
import HandS.ExcValue
import PyProof.Rows.TupTab
import HandS.WordsExc
import HandS.ExcField
import HandS.TupMul
import PySem.Challenge.RW_wholeorders_k07_whole_bent_trees

set_option Elab.async false
set_option linter.all false
set_option maxRecDepth 100000
set_option autoImplicit false
namespace Z
open PySem PySem.Spec PyProof.Rows L2

abbrev D := PyData
abbrev St := L2.St

/-- a tuple that has no dict of its own -/
def TupN (K : PySem.W.Frag) (H : Hp) (a : Addr) (xs : List V) : Prop := (∃ o, H a = some (.frz o (.tup xs)) ∧ o.dict = none) ∨
  ∃ (o : Obj) (its : Array Value) (n : Nat), K.lookup a = some o ∧ o.cls = .type "tuple" ∧ o.dict = none ∧ o.data = .seq its n ∧ its.size ≤ sizeLine ∧ Vals xs its.toList
/-- a dict's key as data -/
def keyD : Key → PyData
  | .inl i => .int i
  | .inr x => .str x
mutual
inductive Dq (K : PySem.W.Frag) (H : Hp) : V → PyData → Prop
  | non : Dq K H .non .none
  | bl (b : Bool) : Dq K H (.bl b) (.bool b)
  | int (i : Int) : Dq K H (.int i) (.int i)
  | str (x : Str) : Dq K H (.str x) (.str x)
  | lst {a : Addr} {xs : List V} {ds : List PyData} : SqL K H a xs → DqAll K H xs ds → Dq K H (.ref a) (.list ds)
  | tup {a : Addr} {xs : List V} {ds : List PyData} : TupN K H a xs → DqAll K H xs ds → Dq K H (.ref a) (.tuple ds)
  | dic {a : Addr} {kvs : List (Key × V)} {ds : List (PyData × PyData)} : H a = some (.dK kvs) → KvAll K H kvs ds → Dq K H (.ref a) (.dict ds)
inductive DqAll (K : PySem.W.Frag) (H : Hp) : List V → List PyData → Prop
  | nil : DqAll K H [] []
  | cons {v : V} {vs : List V} {d : PyData} {ds : List PyData} : Dq K H v d → DqAll K H vs ds → DqAll K H (v :: vs) (d :: ds)
inductive KvAll (K : PySem.W.Frag) (H : Hp) : List (Key × V) → List (PyData × PyData) → Prop
  | nil : KvAll K H [] []
  | cons {k : Key} {v : V} {kvs : List (Key × V)} {d : PyData} {ds : List (PyData × PyData)} : Dq K H v d → KvAll K H kvs ds → KvAll K H ((k, v) :: kvs) ((keyD k, d) :: ds)
end
section
variable {K : PySem.W.Frag} {G H : Hp}
theorem TupN.sq {a : Addr} {xs : List V} (h : TupN K G a xs) : SqT K G a xs := by
  rcases h with ⟨o, h, _⟩ | ⟨o, its, n, h1, h2, _, h3⟩
  · exact .inl (.inr ⟨o, h⟩)
  · exact .inr ⟨o, its, n, h1, h2, h3⟩
theorem TupN.mono {a : Addr} {xs : List V} (e : Same G H) (h : TupN K G a xs) : TupN K H a xs := by
  rcases h with ⟨o, h, k⟩ | h
  · exact .inl ⟨o, e _ _ h, k⟩
  · exact .inr h
theorem TupN.new {a : Addr} {xs : List V} {o : Obj} (h : o.dict = none) : TupN K (upd G a (.frz o (.tup xs))) a xs := .inl ⟨o, upd_same, h⟩
mutual
theorem Dq.dp : ∀ (d : D) (v : V), d.plain = true → Dq K G v d → Dp K G v d
  | .none, _, _, h => by cases h; exact .non
  | .bool b, _, _, h => by cases h; exact .bl b
  | .int i, _, _, h => by cases h; exact .int i
  | .str x, _, _, h => by cases h; exact .str x
  | .list ds, _, p, h => by
    cases h with
    | lst hs ha => exact .lst hs (DqAll.dp ds _ (by rw [PyData.plain] at p; exact p) ha)
  | .tuple ds, _, p, h => by
    cases h with
    | tup hs ha => exact .tup hs.sq (DqAll.dp ds _ (by rw [PyData.plain] at p; exact p) ha)
  | .dict _, _, p, _ => by
    rw [PyData.plain] at p
    cases p
theorem DqAll.dp : ∀ (ds : List D) (vs : List V), PyData.plainAll ds = true → DqAll K G vs ds → DpAll K G vs ds
  | [], _, _, h => by cases h; exact .nil
  | d :: ds, _, p, h => by
    rw [PyData.plainAll, Bool.and_eq_true] at p
    cases h with
    | cons h1 h2 => exact .cons (Dq.dp d _ p.1 h1) (DqAll.dp ds _ p.2 h2)
end
mutual
theorem dq_up (e : Same G H) : ∀ {v : V} {d : D}, Dq K G v d → Dq K H v d
  | _, _, .non => .non
  | _, _, .bl b => .bl b
  | _, _, .int i => .int i
  | _, _, .str x => .str x
  | _, _, .lst hs ha => .lst (e.seq hs) (dqAll_up e ha)
  | _, _, .tup hs ha => .tup (hs.mono e) (dqAll_up e ha)
  | _, _, .dic hk ha => .dic (e _ _ hk) (kvAll_up e ha)
theorem dqAll_up (e : Same G H) : ∀ {vs : List V} {ds : List D}, DqAll K G vs ds → DqAll K H vs ds
  | _, _, .nil => .nil
  | _, _, .cons a b => .cons (dq_up e a) (dqAll_up e b)
theorem kvAll_up (e : Same G H) : ∀ {kvs : List (Key × V)} {ds : List (D × D)}, KvAll K G kvs ds → KvAll K H kvs ds
  | _, _, .nil => .nil
  | _, _, .cons a b => .cons (dq_up e a) (kvAll_up e b)
end
theorem dp_mono (e : Same G H) : ∀ (d : D) (v : V), Dq K G v d → Dq K H v d := fun _ _ h => dq_up e h
theorem dpAll_mono (e : Same G H) : ∀ (ds : List D) (vs : List V), DqAll K G vs ds → DqAll K H vs ds := fun _ _ h => dqAll_up e h
theorem dpa_length : ∀ {vs : List V} {ds : List D}, DqAll K G vs ds → vs.length = ds.length
  | _, _, .nil => rfl
  | _, _, .cons _ h => by rw [List.length_cons, List.length_cons, dpa_length h]
theorem dpa_append : ∀ {vs : List V} {ds : List D} {us : List V} {es : List D}, DqAll K G vs ds → DqAll K G us es → DqAll K G (vs ++ us) (ds ++ es)
  | _, _, _, _, .nil, h => h
  | _, _, _, _, .cons a b, h => .cons a (dpa_append b h)
theorem dpa_get : ∀ {vs : List V} {ds : List D} {i : Nat} {d : D}, DqAll K G vs ds → ds[i]? = some d → ∃ v, vs[i]? = some v ∧ Dq K G v d
  | _, _, _, _, .nil, h => by simp at h
  | _, _, 0, _, .cons a _, h => by
    simp at h
    subst h
    exact ⟨_, rfl, a⟩
  | _, _, i + 1, d, .cons _ b, h => by
    obtain ⟨v, h1, h2⟩ := dpa_get (i := i) b (by simpa using h)
    exact ⟨v, by simpa using h1, h2⟩
theorem dpa_get' : ∀ {vs : List V} {ds : List D} {i : Nat} {v : V}, DqAll K G vs ds → vs[i]? = some v → ∃ d, ds[i]? = some d ∧ Dq K G v d
  | _, _, _, _, .nil, h => by simp at h
  | _, _, 0, _, .cons a _, h => by
    simp at h
    subst h
    exact ⟨_, rfl, a⟩
  | _, _, i + 1, d, .cons _ b, h => by
    obtain ⟨v, h1, h2⟩ := dpa_get' (i := i) b (by simpa using h)
    exact ⟨v, by simpa using h1, h2⟩
theorem dpa_take : ∀ {vs : List V} {ds : List D} (n : Nat), DqAll K G vs ds → DqAll K G (vs.take n) (ds.take n)
  | _, _, 0, _ => by simp; exact .nil
  | _, _, _ + 1, .nil => .nil
  | _, _, n + 1, .cons a b => .cons a (dpa_take n b)
theorem dpa_drop : ∀ {vs : List V} {ds : List D} (n : Nat), DqAll K G vs ds → DqAll K G (vs.drop n) (ds.drop n)
  | _, _, 0, h => h
  | _, _, _ + 1, .nil => .nil
  | _, _, n + 1, .cons _ b => dpa_drop n b
theorem dpa_set {v : V} {d : D} (r : Dq K G v d) : ∀ {vs : List V} {ds : List D} (i : Nat), DqAll K G vs ds → DqAll K G (vs.set i v) (ds.set i d)
  | _, _, _, .nil => .nil
  | _, _, 0, .cons _ b => .cons r b
  | _, _, i + 1, .cons a b => .cons a (dpa_set r i b)
theorem dpa_reverse {vs : List V} {ds : List D} (h : DqAll K G vs ds) : DqAll K G vs.reverse ds.reverse := by
  induction ds generalizing vs with
  | nil => cases h; exact .nil
  | cons d ds ih =>
    cases h with
    | cons a b =>
      rw [List.reverse_cons, List.reverse_cons]
      exact dpa_append (ih b) (.cons a .nil)
theorem dpa_ints : ∀ (ns : List Int), DqAll K G (ns.map V.int) (ns.map PyData.int)
  | [] => .nil
  | n :: ns => .cons (.int n) (dpa_ints ns)
theorem dpa_ints' : ∀ {ns : List Int} {vs : List V}, DqAll K G vs (ns.map PyData.int) → vs = ns.map V.int
  | [], _, h => by cases h; rfl
  | n :: ns, _, h => by
    cases h with
    | cons a b =>
      cases a
      rw [dpa_ints' b]
      rfl
theorem dpa_of_get : ∀ {vs : List V} {ds : List D}, vs.length = ds.length → (∀ (i : Nat) (v : V) (d : D), vs[i]? = some v → ds[i]? = some d → Dq K G v d) → DqAll K G vs ds
  | [], [], _, _ => .nil
  | [], _ :: _, h, _ => by simp at h
  | _ :: _, [], h, _ => by simp at h
  | v :: vs, d :: ds, h, k => .cons (k 0 v d rfl rfl) (dpa_of_get (by simpa using h) fun i v' d' h1 h2 => k (i + 1) v' d' (by simpa using h1) (by simpa using h2))
end

inductive SV where
  /-- not known -/
  | u
  /-- data that stays -/
  | d (x : D)
  /-- a list that is read alone (an argument) -/
  | a (xs : List D)
  /-- a list of one's own; true: the argument that is changed -/
  | own (m : Bool) (xs : List D)
  /-- a dict of one's own: its keys, tuples of ints, and what it holds -/
  | dk (ds : List (List Int × D))
/-- whether a slot holds a thing of one's own -/
def SV.ow : SV → Bool
  | .own _ _ => true
  | .dk _ => true
  | _ => false
abbrev En := List SV
inductive Rs where
  | d (x : D)
  | sl (i : Nat)
/-- what comes of a run: nothing that is spoken of, a value, an exception -/
inductive Ro (α : Type) where
  | bad
  | ok (x : α) (g : En)
  | ex (c : Str) (x : D) (g : En)
abbrev M (α : Type) := En → Ro α
def bnd {α β : Type} (m : M α) (f : α → M β) : M β := fun g => match m g with
  | .bad => .bad
  | .ok x g' => f x g'
  | .ex c x g' => .ex c x g'
def rt {α : Type} (x : α) : M α := fun g => .ok x g
/-- an argument's slot: what is a list is read alone -/
def svA : D → SV
  | .list xs => .a xs
  | x => .d x

def hT (k : List Int) : Int := reduceHash (Builtin.Tuple.tupleHashOf (k.map hashInt))
structure DkRaw (h : Heap) (l : Addr) (es : List (List Int × Addr × V)) : Prop where
  few : es.length ≤ sizeLine
  sys : (l == sysModules) = false
  ex : ∃ xs : List (List Int × Addr × Value), Paired (fun p q => p.1 = q.1 ∧ p.2.1 = q.2.1 ∧ RelV p.2.2 q.2.2) es xs ∧
    ∃ o e ep, h.get? l = some o ∧ o.ExactDict ∧ o.data = .dict e ep ∧ e.toList = xs.map (fun x => (⟨hT x.1, .ref x.2.1, x.2.2⟩ : DictEntry)) ∧ (xs.map (·.1)).Nodup
def DkO (l : Addr) (es : List (List Int × Addr × V)) : HO := .ext fun h => DkRaw h l es
inductive DkAll (K : PySem.W.Frag) (G : Hp) : List (List Int × Addr × V) → List (List Int × D) → Prop
  | nil : DkAll K G [] []
  | cons {k : List Int} {a : Addr} {v : V} {d : D} {es : List (List Int × Addr × V)} {ds : List (List Int × D)} : TupN K G a (k.map V.int) → Dq K G v d → DkAll K G es ds → DkAll K G ((k, a, v) :: es) ((k, d) :: ds)
theorem dkAll_up {K : PySem.W.Frag} {G H : Hp} (g : Same G H) : ∀ {es : List (List Int × Addr × V)} {ds : List (List Int × D)}, DkAll K G es ds → DkAll K H es ds
  | _, _, .nil => .nil
  | _, _, .cons a b c => .cons (a.mono g) (dp_mono g _ _ b) (dkAll_up g c)
/-- what a run leaves as it is: all that the frame holds; the lists that are read alone; places that a step may not make its own -/
structure Fr where
  f : Hp
  a : Hp
  k : Addr → Prop
  af : Same a f
  kf : ∀ l, k l → f l ≠ none
instance : CoeFun Fr (fun _ => Addr → Option HO) := ⟨Fr.f⟩
instance : Coe Fr Hp := ⟨Fr.f⟩
def SlotRel (K : PySem.W.Frag) (F : Fr) (G H : Hp) (Mu : Option Addr) (sv : SV) (s : Option V) : Prop := match sv with
  | .u => True
  | .d x => ∃ v, s = some v ∧ Dq K G v x
  | .a xs => ∃ l vs, s = some (.ref l) ∧ SqL K F.a l vs ∧ DqAll K G vs xs
  | .own m xs => ∃ l vs, s = some (.ref l) ∧ H l = some (.lst vs) ∧ DqAll K G vs xs ∧ F l = none ∧ G l = none ∧ (m = true → Mu = some l) ∧ (m = false → Mu ≠ some l)
  | .dk ds => ∃ l es, s = some (.ref l) ∧ H l = some (DkO l es) ∧ DkAll K G es ds ∧ F l = none ∧ G l = none ∧ Mu ≠ some l
def Owns (Γ : En) (σ : St) (i : Nat) (l : Addr) : Prop := ∃ sv : SV, Γ[i]? = some sv ∧ sv.ow = true ∧ σ[i]? = some (some (.ref l))
structure Rel (K : PySem.W.Frag) (F : Fr) (G : Hp) (Mu : Option Addr) (Γ : En) (σ : St) (H : Hp) : Prop where
  fh : Same F.f H
  lk : ∀ l, F.k l → G l = none
  gh : Same G H
  mu : ∀ l, Mu = some l → F l = none ∧ G l = none ∧ H l ≠ none
  len : Γ.length = σ.length
  sl : ∀ (i : Nat) (sv : SV), Γ[i]? = some sv → SlotRel K F G H Mu sv (σ[i]?.join)
  sep : ∀ (i j : Nat) (l : Addr), Owns Γ σ i l → Owns Γ σ j l → i = j

section
variable {K : PySem.W.Frag} {F : Fr} {G H H' G' : Hp} {Mu : Option Addr} {Γ : En} {σ : St}
theorem join_some {α : Type} {o : Option (Option α)} {v : α} (h : o.join = some v) : o = some (some v) := by
  cases o with
  | none => cases h
  | some x =>
    cases x with
    | none => cases h
    | some y =>
      cases h
      rfl
theorem Rel.owned (R : Rel K F G Mu Γ σ H) {i : Nat} {m : Bool} {xs : List D} (h : Γ[i]? = some (.own m xs)) : ∃ l vs, σ[i]? = some (some (.ref l)) ∧ H l = some (.lst vs) ∧ DqAll K G vs xs ∧ F l = none ∧ G l = none ∧ (m = true → Mu = some l) ∧ (m = false → Mu ≠ some l) ∧ Owns Γ σ i l := by
  obtain ⟨l, vs, h1, h2, h3, h4, h5, h6, h7⟩ := R.sl i _ h
  have e := join_some h1
  exact ⟨l, vs, e, h2, h3, h4, h5, h6, h7, _, h, rfl, e⟩
theorem Rel.dkd (R : Rel K F G Mu Γ σ H) {i : Nat} {ds : List (List Int × D)} (h : Γ[i]? = some (.dk ds)) : ∃ l es, σ[i]? = some (some (.ref l)) ∧ H l = some (DkO l es) ∧ DkAll K G es ds ∧ F l = none ∧ G l = none ∧ Mu ≠ some l ∧ Owns Γ σ i l := by
  obtain ⟨l, es, h1, h2, h3, h4, h5, h6⟩ := R.sl i _ h
  have e := join_some h1
  exact ⟨l, es, e, h2, h3, h4, h5, h6, _, h, rfl, e⟩
theorem Rel.data (R : Rel K F G Mu Γ σ H) {i : Nat} {x : D} (h : Γ[i]? = some (.d x)) : ∃ v, σ[i]? = some (some v) ∧ Dq K G v x := by
  obtain ⟨v, h1, h2⟩ := R.sl i _ h
  exact ⟨v, join_some h1, h2⟩
theorem Rel.arg (R : Rel K F G Mu Γ σ H) {i : Nat} {xs : List D} (h : Γ[i]? = some (.a xs)) : ∃ l vs, σ[i]? = some (some (.ref l)) ∧ SqL K F.a l vs ∧ DqAll K G vs xs := by
  obtain ⟨l, vs, h1, h2, h3⟩ := R.sl i _ h
  exact ⟨l, vs, join_some h1, h2, h3⟩
theorem Rel.mono {Mu' : Option Addr} (R : Rel K F G Mu Γ σ H) (f : Same F.f H') (g : Same G G') (gh : Same G' H') (mu : ∀ l, Mu = some l → G' l = none ∧ H' l ≠ none)
    (own : ∀ i l, Owns Γ σ i l → G' l = none ∧ H' l = H l) (lk : ∀ l, F.k l → G' l = none) : Rel K F G' Mu Γ σ H' where
  fh := f
  lk := lk
  gh := gh
  mu := fun l e => ⟨(R.mu l e).1, (mu l e).1, (mu l e).2⟩
  len := R.len
  sl := fun i sv h => by
    have q := R.sl i sv h
    cases sv with
    | u => exact True.intro
    | d x =>
      obtain ⟨v, h1, h2⟩ := q
      exact ⟨v, h1, dp_mono g x v h2⟩
    | a xs =>
      obtain ⟨l, vs, h1, h2, h3⟩ := q
      exact ⟨l, vs, h1, h2, dpAll_mono g _ _ h3⟩
    | own m xs =>
      obtain ⟨l, vs, h1, h2, h3, h4, h5, h6, h7⟩ := q
      obtain ⟨o1, o2⟩ := own i l ⟨_, h, rfl, join_some h1⟩
      exact ⟨l, vs, h1, by rw [o2]; exact h2, dpAll_mono g _ _ h3, h4, o1, h6, h7⟩
    | dk ds =>
      obtain ⟨l, es, h1, h2, h3, h4, h5, h6⟩ := q
      obtain ⟨o1, o2⟩ := own i l ⟨_, h, rfl, join_some h1⟩
      exact ⟨l, es, h1, by rw [o2]; exact h2, dkAll_up g h3, h4, o1, h6⟩
  sep := R.sep
theorem Rel.there (R : Rel K F G Mu Γ σ H) {i : Nat} {l : Addr} (h : Owns Γ σ i l) : F l = none ∧ G l = none ∧ ∃ o, H l = some o := by
  obtain ⟨sv, h1, ho, h2⟩ := h
  cases sv with
  | own m xs =>
    obtain ⟨l', vs, e, h3, _, h4, h5, _⟩ := R.owned h1
    rw [h2] at e
    cases e
    exact ⟨h4, h5, _, h3⟩
  | dk ds =>
    obtain ⟨l', es, e, h3, _, h4, h5, _⟩ := R.dkd h1
    rw [h2] at e
    cases e
    exact ⟨h4, h5, _, h3⟩
  | u => cases ho
  | d x => cases ho
  | a xs => cases ho
theorem same_upd {p : Addr} {o : HO} (n : H p = none) : Same H (upd H p o) := fun b x e => by
  rw [upd_ne (ne_of_none e n)]
  exact e
theorem same_upd2 {p : Addr} {o : HO} (e : Same G H) : Same (upd G p o) (upd H p o) := fun b x h => by
  by_cases hb : b = p
  · subst hb
    rw [upd_same] at h ⊢
    exact h
  · rw [upd_ne hb] at h ⊢
    exact e b x h
theorem same_updR {p : Addr} {o : HO} (e : Same G H) (n : G p = none) : Same G (upd H p o) := fun b x h => by
  rw [upd_ne (ne_of_none h n)]
  exact e b x h
/-- a new object that stays -/
theorem Rel.new (R : Rel K F G Mu Γ σ H) {p : Addr} {o : HO} (n : H p = none) : Rel K F (upd G p o) Mu Γ σ (upd H p o) ∧ Same G (upd G p o) := by
  have nG : G p = none := R.gh.free n
  refine ⟨R.mono (Mu' := Mu) (fun b x h => same_upd n b x (R.fh b x h)) (same_upd nG) (same_upd2 R.gh) (fun l e => ?_) (fun i l h => ?_) (fun l e => ?_), same_upd nG⟩
  · obtain ⟨_, h2, h3⟩ := R.mu l e
    have hne : l ≠ p := fun z => by rw [z] at h3; exact h3 n
    rw [upd_ne hne, upd_ne hne]
    exact ⟨h2, h3⟩
  · obtain ⟨h1, h2, vs, h3⟩ := R.there h
    have hne : l ≠ p := ne_of_none h3 n
    rw [upd_ne hne, upd_ne hne]
    exact ⟨h2, rfl⟩
  · have hne : l ≠ p := fun z => by
      obtain ⟨o, q⟩ := Option.ne_none_iff_exists'.mp (F.kf l e)
      have := R.fh l o q
      rw [z, n] at this
      cases this
    rw [upd_ne hne]
    exact R.lk l e
/-- a new object that is not told of -/
theorem Rel.newX (R : Rel K F G Mu Γ σ H) {p : Addr} {o : HO} (n : H p = none) : Rel K F G Mu Γ σ (upd H p o) := by
  refine R.mono (Mu' := Mu) (fun b x h => same_upd n b x (R.fh b x h)) (Same.refl _) (fun b x h => same_upd n b x (R.gh b x h)) (fun l e => ?_) (fun i l h => ?_) R.lk
  · obtain ⟨_, h2, h3⟩ := R.mu l e
    have hne : l ≠ p := fun z => by rw [z] at h3; exact h3 n
    rw [upd_ne hne]
    exact ⟨h2, h3⟩
  · obtain ⟨h1, h2, vs, h3⟩ := R.there h
    have hne : l ≠ p := ne_of_none h3 n
    rw [upd_ne hne]
    exact ⟨h2, rfl⟩
theorem owns_set {i j : Nat} {sv : SV} {l : Addr} (h : Owns (Γ.set j sv) σ i l) (hn : sv.ow = false) : Owns Γ σ i l ∧ i ≠ j := by
  obtain ⟨m, h1, xs, h2⟩ := h
  by_cases e : i = j
  · subst e
    by_cases hl : i < Γ.length
    · rw [List.getElem?_set_self hl] at h1
      cases h1
      rw [hn] at xs
      cases xs
    · rw [List.getElem?_eq_none (by simpa using hl)] at h1
      cases h1
  · rw [List.getElem?_set_ne (Ne.symm e)] at h1
    exact ⟨⟨m, h1, xs, h2⟩, e⟩
/-- an own list becomes data that stays -/
theorem Rel.freeze (R : Rel K F G Mu Γ σ H) {i : Nat} {xs : List D} (h : Γ[i]? = some (.own false xs)) :
    ∃ (l : Addr) (G' : Hp), σ[i]? = some (some (.ref l)) ∧ Rel K F G' Mu (Γ.set i (.d (.list xs))) σ H ∧ Same G G' ∧ Dq K G' (.ref l) (.list xs) := by
  obtain ⟨l, vs, e, h2, h3, h4, h5, _, h7, ho⟩ := R.owned h
  have hs : Same G (upd G l (.lst vs)) := same_upd h5
  have gh : Same (upd G l (.lst vs)) H := fun b x q => by
    by_cases hb : b = l
    · subst hb
      rw [upd_same] at q
      rw [h2]
      exact q
    · rw [upd_ne hb] at q
      exact R.gh b x q
  have lk' : ∀ l', F.k l' → upd G l (.lst vs) l' = none := fun l' e' => by
    rw [upd_ne (fun z => F.kf l' e' (by rw [z]; exact h4))]
    exact R.lk l' e'
  have dp : Dq K (upd G l (.lst vs)) (.ref l) (.list xs) := .lst (.of upd_same) (dpAll_mono hs _ _ h3)
  have hi : i < Γ.length := by
    have := (List.getElem?_eq_some_iff.mp h).1
    exact this
  refine ⟨l, _, e, ⟨R.fh, lk', gh, fun l' q => ?_, by rw [List.length_set]; exact R.len, fun j sv hj => ?_, fun j k l' a b => ?_⟩, hs, dp⟩
  · obtain ⟨m1, m2, m3⟩ := R.mu l' q
    have hne : l' ≠ l := fun z => h7 rfl (by rw [q, z])
    rw [upd_ne hne]
    exact ⟨m1, m2, m3⟩
  · by_cases hji : j = i
    · subst hji
      rw [List.getElem?_set_self hi] at hj
      cases hj
      exact ⟨_, by rw [e] <;> rfl, dp⟩
    · rw [List.getElem?_set_ne (Ne.symm hji)] at hj
      have q := R.sl j sv hj
      cases sv with
      | u => exact True.intro
      | d x =>
        obtain ⟨v, q1, q2⟩ := q
        exact ⟨v, q1, dp_mono hs x v q2⟩
      | a ys =>
        obtain ⟨l', vs', q1, q2, q3⟩ := q
        exact ⟨l', vs', q1, q2, dpAll_mono hs _ _ q3⟩
      | own m ys =>
        obtain ⟨l', vs', q1, q2, q3, q4, q5, q6, q7⟩ := q
        have hne : l' ≠ l := fun z => by
          subst z
          exact hji (R.sep j i l' ⟨_, hj, rfl, join_some q1⟩ ho)
        exact ⟨l', vs', q1, q2, dpAll_mono hs _ _ q3, q4, by rw [upd_ne hne]; exact q5, q6, q7⟩
      | dk ds =>
        obtain ⟨l', es, q1, q2, q3, q4, q5, q6⟩ := q
        have hne : l' ≠ l := fun z => by
          subst z
          exact hji (R.sep j i l' ⟨_, hj, rfl, join_some q1⟩ ho)
        exact ⟨l', es, q1, q2, dkAll_up hs q3, q4, by rw [upd_ne hne]; exact q5, q6⟩
  · obtain ⟨a1, _⟩ := owns_set a rfl
    obtain ⟨b1, _⟩ := owns_set b rfl
    exact R.sep j k l' a1 b1
/-- an own list's content is another -/
theorem Rel.change (R : Rel K F G Mu Γ σ H) {i : Nat} {m : Bool} {xs ys : List D} {l : Addr} {us : List V} (h : Γ[i]? = some (.own m xs)) (e : σ[i]? = some (some (.ref l))) (d : DqAll K G us ys) :
    Rel K F G Mu (Γ.set i (.own m ys)) σ (upd H l (.lst us)) := by
  obtain ⟨l0, vs, e0, h2, h3, h4, h5, h6, h7, ho⟩ := R.owned h
  rw [e] at e0
  cases e0
  have hi : i < Γ.length := (List.getElem?_eq_some_iff.mp h).1
  have own' : ∀ j l', Owns (Γ.set i (.own m ys)) σ j l' → Owns Γ σ j l' := fun j l' z => by
    obtain ⟨m', z1, zs, z2⟩ := z
    by_cases hji : j = i
    · subst hji
      rw [e] at z2
      cases z2
      exact ho
    · rw [List.getElem?_set_ne (Ne.symm hji)] at z1
      exact ⟨m', z1, zs, z2⟩
  refine ⟨same_updR R.fh h4, R.lk, same_updR R.gh h5, fun l' q => ?_, by rw [List.length_set]; exact R.len, fun j sv hj => ?_, fun j k l' a b => R.sep j k l' (own' _ _ a) (own' _ _ b)⟩
  · obtain ⟨m1, m2, m3⟩ := R.mu l' q
    refine ⟨m1, m2, ?_⟩
    by_cases hl : l' = l
    · rw [hl, upd_same]
      exact fun z => nomatch z
    · rw [upd_ne hl]
      exact m3
  · by_cases hji : j = i
    · subst hji
      rw [List.getElem?_set_self hi] at hj
      cases hj
      exact ⟨l, us, by rw [e] <;> rfl, upd_same, d, h4, h5, h6, h7⟩
    · rw [List.getElem?_set_ne (Ne.symm hji)] at hj
      have q := R.sl j sv hj
      cases sv with
      | u => exact True.intro
      | d x => exact q
      | a ys => exact q
      | own m' zs =>
        obtain ⟨l', vs', q1, q2, q3, q4, q5, q6, q7⟩ := q
        have hne : l' ≠ l := fun z => by
          subst z
          exact hji (R.sep j i l' ⟨_, hj, rfl, join_some q1⟩ ho)
        exact ⟨l', vs', q1, by rw [upd_ne hne]; exact q2, q3, q4, q5, q6, q7⟩
      | dk ds =>
        obtain ⟨l', es, q1, q2, q3, q4, q5, q6⟩ := q
        have hne : l' ≠ l := fun z => by
          subst z
          exact hji (R.sep j i l' ⟨_, hj, rfl, join_some q1⟩ ho)
        exact ⟨l', es, q1, by rw [upd_ne hne]; exact q2, q3, q4, q5, q6⟩
/-- a slot is stored -/
theorem Rel.store (R : Rel K F G Mu Γ σ H) {i : Nat} {sv : SV} {v : V} (q : SlotRel K F G H Mu sv (some v)) (hn : sv.ow = true → ∀ j l, v = .ref l → Owns Γ σ j l → j = i) : Rel K F G Mu (Γ.set i sv) (σ.set i (some v)) H := by
  have own' : ∀ j l', Owns (Γ.set i sv) (σ.set i (some v)) j l' → (j ≠ i ∧ Owns Γ σ j l') ∨ (j = i ∧ sv.ow = true ∧ v = .ref l') := fun j l' z => by
    obtain ⟨m', z1, zs, z2⟩ := z
    by_cases hji : j = i
    · subst hji
      have hi : j < Γ.length := by
        have := (List.getElem?_eq_some_iff.mp z1).1
        simpa using this
      rw [List.getElem?_set_self hi] at z1
      rw [List.getElem?_set_self (by rw [← R.len]; exact hi)] at z2
      cases z1
      cases z2
      exact .inr ⟨rfl, zs, rfl⟩
    · rw [List.getElem?_set_ne (Ne.symm hji)] at z1 z2
      exact .inl ⟨hji, m', z1, zs, z2⟩
  refine ⟨R.fh, R.lk, R.gh, R.mu, by rw [List.length_set, List.length_set]; exact R.len, fun j sv' hj => ?_, fun j k l' a b => ?_⟩
  · by_cases hji : j = i
    · subst hji
      have hi : j < Γ.length := by
        have := (List.getElem?_eq_some_iff.mp hj).1
        simpa using this
      rw [List.getElem?_set_self hi] at hj
      cases hj
      rw [List.getElem?_set_self (by rw [← R.len]; exact hi)]
      exact q
    · rw [List.getElem?_set_ne (Ne.symm hji)] at hj
      rw [List.getElem?_set_ne (Ne.symm hji)]
      exact R.sl j sv' hj
  · rcases own' j l' a with ⟨a1, a2⟩ | ⟨a1, a2, a3⟩
    · rcases own' k l' b with ⟨b1, b2⟩ | ⟨b1, b2, b3⟩
      · exact R.sep j k l' a2 b2
      · exact absurd (hn b2 j l' b3 a2) a1
    · rcases own' k l' b with ⟨b1, b2⟩ | ⟨b1, b2, b3⟩
      · exact absurd (hn a2 k l' a3 b2) b1
      · rw [a1, b1]
/-- a slot is forgotten -/
theorem Rel.forget (R : Rel K F G Mu Γ σ H) (i : Nat) {o : Option V} : Rel K F G Mu (Γ.set i .u) (σ.set i o) H := by
  have own' : ∀ j l', Owns (Γ.set i .u) (σ.set i o) j l' → Owns Γ σ j l' := fun j l' z => by
    obtain ⟨m', z1, zs, z2⟩ := z
    by_cases hji : j = i
    · subst hji
      have hi : j < Γ.length := by
        have := (List.getElem?_eq_some_iff.mp z1).1
        simpa using this
      rw [List.getElem?_set_self hi] at z1
      cases z1
      cases zs
    · rw [List.getElem?_set_ne (Ne.symm hji)] at z1 z2
      exact ⟨m', z1, zs, z2⟩
  refine ⟨R.fh, R.lk, R.gh, R.mu, by rw [List.length_set, List.length_set]; exact R.len, fun j sv' hj => ?_, fun j k l' a b => R.sep j k l' (own' _ _ a) (own' _ _ b)⟩
  by_cases hji : j = i
  · subst hji
    have hi : j < Γ.length := by
      have := (List.getElem?_eq_some_iff.mp hj).1
      simpa using this
    rw [List.getElem?_set_self hi] at hj
    cases hj
    exact True.intro
  · rw [List.getElem?_set_ne (Ne.symm hji)] at hj
    rw [List.getElem?_set_ne (Ne.symm hji)]
    exact R.sl j sv' hj
end
end Z

set_option Elab.async false
set_option linter.all false
set_option maxRecDepth 100000
set_option autoImplicit false
set_option maxHeartbeats 1000000
namespace Z
open PySem PySem.Spec PyProof.Rows L2

structure Ext (G H G' H' : Hp) : Prop where
  g : Same G G'
  gh : Same G' H'
  h : Same H H'
  out : ∀ l, H l ≠ none → G' l = G l
section
variable {K : PySem.W.Frag} {F : Fr} {G H H' G' : Hp} {Mu : Option Addr} {Γ : En} {σ : St}
theorem Ext.refl (e : Same G H) : Ext G H G H := ⟨Same.refl _, e, Same.refl _, fun _ _ => rfl⟩
theorem Ext.new {p : Addr} {o : HO} (e : Same G H) (n : H p = none) : Ext G H (upd G p o) (upd H p o) :=
  ⟨same_upd (e.free n), same_upd2 e, same_upd n, fun l h => by rw [upd_ne (fun z => h (by rw [z]; exact n))]⟩
theorem Ext.trans {G1 H1 : Hp} (a : Ext G H G1 H1) (b : Ext G1 H1 G' H') : Ext G H G' H' :=
  ⟨a.g.trans b.g, b.gh, a.h.trans b.h, fun l h => (b.out l (fun z => h (a.h.free z))).trans (a.out l h)⟩
theorem Rel.ext (R : Rel K F G Mu Γ σ H) (e : Ext G H G' H') : Rel K F G' Mu Γ σ H' := by
  refine R.mono (Mu' := Mu) (R.fh.trans e.h) e.g e.gh (fun l q => ?_) (fun i l h => ?_) (fun l q => ?_)
  · obtain ⟨_, h2, h3⟩ := R.mu l q
    exact ⟨(e.out l h3).trans h2, fun z => h3 (e.h.free z)⟩
  · obtain ⟨h1, h2, vs, h3⟩ := R.there h
    exact ⟨(e.out l (by rw [h3]; exact fun z => nomatch z)).trans h2, by rw [h3]; exact e.h l _ h3⟩
  · obtain ⟨o, w⟩ := Option.ne_none_iff_exists'.mp (F.kf l q)
    exact (e.out l (by rw [R.fh l o w]; exact fun z => nomatch z)).trans (R.lk l q)
end

abbrev Rho (α β : Type) := PySem.W.Frag → Fr → Hp → Option Addr → En → St → Hp → α → β → Prop
def zpost {α β : Type} (X : Cx) (W : WX) (σ : St) (ρ : Rho α β) (F : Fr) (G : Hp) (Mu : Option Addr) (Q : β → Hp → Prop) (o : Ro α) : Prop := match o with
  | .bad => False
  | .ok r Γ' => ∀ v H' G', Same G G' → Rel X.K F G' Mu Γ' σ H' → ρ X.K F G' Mu Γ' σ H' r v → Q v H'
  | .ex c x Γ' => ∀ C a v H' G', X.mg c = some (.ref C) → Same G G' → Rel X.K F G' Mu Γ' σ H' → H' a = some (.xd [("value", v)]) → Dq X.K G' v x → W (.ref C) (some a) σ H'
def zt {α β : Type} (X : Cx) (W : WX) (ρ : Rho α β) (m : M α) : St → Hp → (β → Hp → Prop) → Prop := fun σ H Q =>
  ∃ F G Mu Γ, Rel X.K F G Mu Γ σ H ∧ zpost X W σ ρ F G Mu Q (m Γ)
def rhoD : Rho D V := fun K _ G _ _ _ _ x v => Dq K G v x
def rhoR : Rho Rs V := fun K _ G _ _ σ _ r v => match r with
  | .d x => Dq K G v x
  | .sl i => σ[i]? = some (some v)
def rhoO : Rho (List D) V := fun K F G Mu Γ σ H xs v => ∃ l vs, v = .ref l ∧ H l = some (.lst vs) ∧ DqAll K G vs xs ∧ F l = none ∧ G l = none ∧ Mu ≠ some l ∧ ∀ i, ¬ Owns Γ σ i l
def rhoB : Rho Bool Bool := fun _ _ _ _ _ _ _ x b => x = b
def rhoDs : Rho (List D) (List V) := fun K _ G _ _ _ _ xs vs => DqAll K G vs xs
def RsAll (K : PySem.W.Frag) (G : Hp) (σ : St) : List Rs → List V → Prop
  | [], vs => vs = []
  | r :: rs, vs => ∃ v us, vs = v :: us ∧ (match r with | .d x => Dq K G v x | .sl i => σ[i]? = some (some v)) ∧ RsAll K G σ rs us
def rhoRs : Rho (List Rs) (List V) := fun K _ G _ _ σ _ rs vs => RsAll K G σ rs vs

/-- an expression gives data that stays -/
def DP (X : Cx) (e : Expr) (m : M D) : Prop := ∀ W, Takes X W → PE X e (zt X W rhoD m)
/-- .. data, or a name -/
def DV (X : Cx) (e : Expr) (m : M Rs) : Prop := ∀ W, Takes X W → PE X e (zt X W rhoR m)
/-- .. a new list -/
def DO (X : Cx) (e : Expr) (m : M (List D)) : Prop := ∀ W, Takes X W → PE X e (zt X W rhoO m)
def DT (X : Cx) (e : Expr) (m : M Bool) : Prop := ∀ W, Takes X W → PT X e (zt X W rhoB m)
/-- .. as a part of and, or -/
def DW (X : Cx) (e : Expr) (m : M Bool) : Prop := ∀ W, Takes X W → PW X e (zt X W rhoB m)
def DPs (X : Cx) (es : List Expr) (m : M (List D)) : Prop := ∀ W, Takes X W → PA X es (zt X W rhoDs m)
def DVs (X : Cx) (es : List Expr) (m : M (List Rs)) : Prop := ∀ W, Takes X W → PA X es (zt X W rhoRs m)

theorem pe_imp {X : Cx} {e : Expr} {t t' : TE} (p : PE X e t) (h : ∀ σ H Q, t' σ H Q → t σ H Q) : PE X e t' := ⟨fun pins s σ H Q I q => p.run pins s σ H Q I (h σ H Q q)⟩
theorem pt_imp {X : Cx} {e : Expr} {t t' : TT} (p : PT X e t) (h : ∀ σ H Q, t' σ H Q → t σ H Q) : PT X e t' := ⟨fun pins s σ H Q I q => p.run pins s σ H Q I (h σ H Q q)⟩
theorem pw_imp {X : Cx} {e : Expr} {t t' : TT} (p : PW X e t) (h : ∀ σ H Q, t' σ H Q → t σ H Q) : PW X e t' := ⟨fun wh pins s σ H Q I q => p.run wh pins s σ H Q I (h σ H Q q)⟩
theorem pa_imp {X : Cx} {es : List Expr} {t t' : TA} (p : PA X es t) (h : ∀ σ H Q, t' σ H Q → t σ H Q) : PA X es t' := ⟨fun pos pins s σ H Q I q => p.run pos pins s σ H Q I (h σ H Q q)⟩
theorem ps_imp {X : Cx} {st : Stmt} {t t' : TS} (p : PS X st t) (h : ∀ D σ H, t' D σ H → t D σ H) : PS X st t' := ⟨fun pins s σ H D I q => p.run pins s σ H D I (h D σ H q)⟩
theorem pss_imp {X : Cx} {st : List Stmt} {t t' : TS} (p : PSs X st t) (h : ∀ D σ H, t' D σ H → t D σ H) : PSs X st t' := ⟨fun pins s σ H D I q => p.run pins s σ H D I (h D σ H q)⟩

section
variable {X : Cx} {W : WX} {σ : St} {H : Hp} {α β γ δ ε ζ : Type} {ρ : Rho α β} {ρ' : Rho γ δ} {ρ'' : Rho ε ζ} {F : Fr} {G G' : Hp} {Mu : Option Addr}
theorem zpost.rebase {Q : β → Hp → Prop} {o : Ro α} (e : Same G G') (p : zpost X W σ ρ F G Mu Q o) : zpost X W σ ρ F G' Mu Q o := by
  cases o with
  | bad => exact p
  | ok r Γ' => exact fun v H' G2 h => p v H' G2 (e.trans h)
  | ex c x Γ' => exact fun C a v H' G2 h1 h2 => p C a v H' G2 h1 (e.trans h2)
theorem zpost.imp {Q Q' : β → Hp → Prop} {o : Ro α} (p : zpost X W σ ρ F G Mu Q o) (h : ∀ v H', Q v H' → Q' v H') : zpost X W σ ρ F G Mu Q' o := by
  cases o with
  | bad => exact p
  | ok r Γ' => exact fun v H' G2 h1 h2 h3 => h _ _ (p v H' G2 h1 h2 h3)
  | ex c x Γ' => exact p
theorem zt.imp {m : M α} {Q Q' : β → Hp → Prop} (p : zt X W ρ m σ H Q) (h : ∀ v H', Q v H' → Q' v H') : zt X W ρ m σ H Q' := by
  obtain ⟨F, G, Mu, Γ, R, q⟩ := p
  exact ⟨F, G, Mu, Γ, R, q.imp h⟩
/-- the first part of a run, the rest behind it -/
theorem zt_bnd {m : M α} {f : α → M γ} {Q : δ → Hp → Prop} (p : zt X W ρ' (bnd m f) σ H Q) :
    zt X W ρ m σ H fun v H1 => ∃ r F G Mu Γ, Rel X.K F G Mu Γ σ H1 ∧ ρ X.K F G Mu Γ σ H1 r v ∧ zpost X W σ ρ' F G Mu Q (f r Γ) := by
  obtain ⟨F, G, Mu, Γ, R, q⟩ := p
  refine ⟨F, G, Mu, Γ, R, ?_⟩
  unfold bnd at q
  cases e : m Γ with
  | bad => rw [e] at q; exact q
  | ok r Γ1 =>
    rw [e] at q
    exact fun v H1 G1 h1 R1 h2 => ⟨r, F, G1, Mu, Γ1, R1, h2, q.rebase h1⟩
  | ex c x Γ1 => rw [e] at q; exact q
/-- two parts in a row; what the first gave still stands -/
theorem zt_bnd2 {m : M α} {n : M γ} {f : α → γ → M ε} {Q : ζ → Hp → Prop} (st : ∀ K F G Mu Γ σ H r v F' G' Mu' Γ' H', Same G G' → ρ K F G Mu Γ σ H r v → ρ K F' G' Mu' Γ' σ H' r v)
    (p : zt X W ρ'' (bnd m fun r => bnd n fun s => f r s) σ H Q) :
    zt X W ρ m σ H fun v H1 => zt X W ρ' n σ H1 fun u H2 => ∃ r s F G Mu Γ, Rel X.K F G Mu Γ σ H2 ∧ ρ X.K F G Mu Γ σ H2 r v ∧ ρ' X.K F G Mu Γ σ H2 s u ∧ zpost X W σ ρ'' F G Mu Q (f r s Γ) := by
  obtain ⟨F, G, Mu, Γ, R, q⟩ := p
  refine ⟨F, G, Mu, Γ, R, ?_⟩
  unfold bnd at q
  cases e : m Γ with
  | bad => rw [e] at q; exact q
  | ok r Γ1 =>
    rw [e] at q
    refine fun v H1 G1 h1 R1 h2 => ⟨F, G1, Mu, Γ1, R1, ?_⟩
    dsimp only at q
    cases e2 : n Γ1 with
    | bad => rw [e2] at q; exact q
    | ok s Γ2 =>
      rw [e2] at q
      exact fun u H2 G2 k1 R2 k2 => ⟨r, s, F, G2, Mu, Γ2, R2, st _ _ _ _ _ _ _ _ _ _ _ _ _ _ k1 h2, k2, q.rebase (h1.trans k1)⟩
    | ex c x Γ2 => rw [e2] at q; exact q.rebase h1
  | ex c x Γ1 => rw [e] at q; exact q
end
theorem stD : ∀ K F G Mu Γ σ H r v F' G' Mu' Γ' H', Same G G' → rhoD K F G Mu Γ σ H r v → rhoD K F' G' Mu' Γ' σ H' r v := fun _ _ _ _ _ _ _ _ _ _ _ _ _ _ e h => dp_mono e _ _ h
theorem stR : ∀ K F G Mu Γ σ H r v F' G' Mu' Γ' H', Same G G' → rhoR K F G Mu Γ σ H r v → rhoR K F' G' Mu' Γ' σ H' r v := fun _ _ _ _ _ _ _ r _ _ _ _ _ _ e h => by
  cases r with
  | d x => exact dp_mono e _ _ h
  | sl i => exact h
def vl (g : En) : Rs → Option D
  | .d x => some x
  | .sl i => match g[i]? with
    | some (.d x) => some x
    | some (.a xs) => some (.list xs)
    | some (.own _ xs) => some (.list xs)
    | _ => none
/-- what is read: data, or a list whose items are such -/
def Rdb (K : PySem.W.Frag) (G H : Hp) (v : V) (x : D) : Prop := Dq K G v x ∨ ∃ l vs xs, v = .ref l ∧ x = .list xs ∧ SqL K H l vs ∧ DqAll K G vs xs
section
variable {K : PySem.W.Frag} {F : Fr} {G H H' G' : Hp} {Mu : Option Addr} {Γ : En} {σ : St}
theorem Rdb.dp (e : Same G H) {v : V} {x : D} (h : Rdb K G H v x) : Dq K H v x := by
  rcases h with h | ⟨l, vs, xs, rfl, rfl, h1, h2⟩
  · exact dp_mono e _ _ h
  · exact .lst h1 (dpAll_mono e _ _ h2)
theorem Rdb.list (e : Same G H) {v : V} {xs : List D} (h : Rdb K G H v (.list xs)) : ∃ l vs, v = .ref l ∧ SqL K H l vs ∧ DqAll K G vs xs := by
  rcases h with h | ⟨l, vs, xs, rfl, q, h1, h2⟩
  · cases h with
    | lst h1 h2 => exact ⟨_, _, rfl, e.seq h1, h2⟩
  · cases q
    exact ⟨l, vs, rfl, h1, h2⟩
theorem Rdb.tup (e : Same G H) {v : V} {xs : List D} (h : Rdb K G H v (.tuple xs)) : ∃ l vs, v = .ref l ∧ TupN K H l vs ∧ DqAll K G vs xs := by
  rcases h with h | ⟨l, vs, xs, rfl, q, h1, h2⟩
  · cases h with
    | tup h1 h2 => exact ⟨_, _, rfl, h1.mono e, h2⟩
  · cases q
theorem Rdb.int {v : V} {i : Int} (h : Rdb K G H v (.int i)) : v = .int i := by
  rcases h with h | ⟨l, vs, xs, rfl, q, h1, h2⟩
  · cases h; rfl
  · cases q
theorem Rdb.bool {v : V} {i : Bool} (h : Rdb K G H v (.bool i)) : v = .bl i := by
  rcases h with h | ⟨l, vs, xs, rfl, q, h1, h2⟩
  · cases h; rfl
  · cases q
theorem Rdb.str {v : V} {i : Str} (h : Rdb K G H v (.str i)) : v = .str i := by
  rcases h with h | ⟨l, vs, xs, rfl, q, h1, h2⟩
  · cases h; rfl
  · cases q
theorem Rdb.none {v : V} (h : Rdb K G H v .none) : v = .non := by
  rcases h with h | ⟨l, vs, xs, rfl, q, h1, h2⟩
  · cases h; rfl
  · cases q
theorem Rel.read (R : Rel K F G Mu Γ σ H) {r : Rs} {v : V} {x : D} (h : rhoR K F G Mu Γ σ H r v) (e : vl Γ r = some x) : Rdb K G H v x := by
  cases r with
  | d y =>
    cases e
    exact .inl h
  | sl i =>
    have h' : σ[i]? = some (some v) := h
    unfold vl at e
    dsimp only at e
    split at e
    · rename_i y q
      cases e
      obtain ⟨v', h1, h2⟩ := R.data q
      rw [h'] at h1
      cases h1
      exact .inl h2
    · rename_i ys q
      cases e
      obtain ⟨l, vs, h1, h2, h3⟩ := R.arg q
      rw [h'] at h1
      cases h1
      exact .inr ⟨l, vs, ys, rfl, rfl, (F.af.trans R.fh).seq h2, h3⟩
    · rename_i m ys q
      cases e
      obtain ⟨l, vs, h1, h2, h3, _⟩ := R.owned q
      rw [h'] at h1
      cases h1
      exact .inr ⟨l, vs, ys, rfl, rfl, .of h2, h3⟩
    · cases e
end
def dName (i : Nat) : M Rs := fun g => match g[i]? with
  | some (.d x) => .ok (.d x) g
  | some (.a _) => .ok (.sl i) g
  | some (.own _ _) => .ok (.sl i) g
  | _ => .bad
def dv (m : M D) : M Rs := bnd m fun x => rt (.d x)
/-- to let a name's list go into data: an own one stays as it is from now on -/
def esc (r : Rs) : M D := fun g => match r with
  | .d x => .ok x g
  | .sl i => match g[i]? with
    | some (.d x) => .ok x g
    | some (.own false xs) => .ok (.list xs) (g.set i (.d (.list xs)))
    | _ => .bad
def dEsc (m : M Rs) : M D := bnd m esc
def dFz (m : M (List D)) : M D := bnd m fun xs => rt (.list xs)
section
variable {X : Cx} {e : Expr} {es : List Expr} {pos : Pos}
theorem zpost_ok {α β : Type} {W : WX} {σ : St} {ρ : Rho α β} {F : Fr} {G H : Hp} {Mu : Option Addr} {Γ : En} {Q : β → Hp → Prop} {r : α} {v : β} (R : Rel X.K F G Mu Γ σ H) (h : ρ X.K F G Mu Γ σ H r v) (p : zpost X W σ ρ F G Mu Q (.ok r Γ)) : Q v H := p v H G (Same.refl _) R h
theorem dv_name {i : Nat} {x : Str} (hN : X.N[i]? = some x) (hv : Vis X.env.scope x) (hd : (x == ("__debug__" : Str)) = false := by decide) (hcd : (x == ("__classdict__" : Str)) = false := by decide) : DV X (.Name x pos) (dName i) := fun W _ => by
  refine pe_imp (pe_var hN hv hd hcd) fun σ H Q h => ?_
  obtain ⟨F, G, Mu, Γ, R, p⟩ := h
  unfold dName at p
  split at p
  · rename_i y q
    obtain ⟨v, h1, h2⟩ := R.data q
    exact ⟨v, h1, zpost_ok R (show rhoR _ _ _ _ _ _ _ (.d y) v from h2) p⟩
  · rename_i ys q
    obtain ⟨l, vs, h1, h2, h3⟩ := R.arg q
    exact ⟨_, h1, zpost_ok R (show rhoR _ _ _ _ _ _ _ (.sl i) _ from h1) p⟩
  · rename_i m ys q
    obtain ⟨l, vs, h1, h2, h3, _⟩ := R.owned q
    exact ⟨_, h1, zpost_ok R (show rhoR _ _ _ _ _ _ _ (.sl i) _ from h1) p⟩
  · exact p.elim
theorem dv_of {m : M D} (h : DP X e m) : DV X e (dv m) := fun W tk => by
  refine pe_imp (h W tk) fun σ H Q p => ?_
  refine (zt_bnd (ρ := rhoD) p).imp fun v H1 ⟨r, F, G, Mu, Γ, R, h1, q⟩ => ?_
  exact zpost_ok R (show rhoR _ _ _ _ _ _ _ (.d r) v from h1) q
theorem dp_esc {m : M Rs} (h : DV X e m) : DP X e (dEsc m) := fun W tk => by
  refine pe_imp (h W tk) fun σ H Q p => ?_
  refine (zt_bnd (ρ := rhoR) p).imp fun v H1 ⟨r, F, G, Mu, Γ, R, h1, q⟩ => ?_
  unfold esc at q
  cases r with
  | d x => exact zpost_ok R (show rhoD _ _ _ _ _ _ _ x v from h1) q
  | sl i =>
    have h1' : σ[i]? = some (some v) := h1
    dsimp only at q
    split at q
    · rename_i y g
      obtain ⟨v', k1, k2⟩ := R.data g
      rw [h1'] at k1
      cases k1
      exact zpost_ok R (show rhoD _ _ _ _ _ _ _ y v from k2) q
    · rename_i ys g
      obtain ⟨l, G', k1, R', k2, k3⟩ := R.freeze g
      rw [h1'] at k1
      cases k1
      exact q _ H1 G' k2 R' k3
    · exact q.elim
/-- a new list that stays -/
theorem Rel.keep {K : PySem.W.Frag} {F : Fr} {G H : Hp} {Mu : Option Addr} {Γ : En} {σ : St} {xs : List D} {v : V} (R : Rel K F G Mu Γ σ H) (h : rhoO K F G Mu Γ σ H xs v) : ∃ G', Same G G' ∧ Rel K F G' Mu Γ σ H ∧ Dq K G' v (.list xs) := by
  obtain ⟨l, vs, rfl, h1, h2, h3, h4, h5, h6⟩ := h
  have hs : Same G (upd G l (.lst vs)) := same_upd h4
  have gh : Same (upd G l (.lst vs)) H := fun b x q => by
    by_cases hb : b = l
    · subst hb
      rw [upd_same] at q
      rw [h1]
      exact q
    · rw [upd_ne hb] at q
      exact R.gh b x q
  refine ⟨_, hs, R.mono (Mu' := Mu) R.fh hs gh (fun l' q => ?_) (fun i l' ho => ?_) (fun l' q => ?_), .lst (.of upd_same) (dpAll_mono hs _ _ h2)⟩
  · obtain ⟨_, m2, m3⟩ := R.mu l' q
    have hne : l' ≠ l := fun z => h5 (by rw [q, z])
    rw [upd_ne hne]
    exact ⟨m2, m3⟩
  · have hne : l' ≠ l := fun z => h6 i (by rw [← z]; exact ho)
    rw [upd_ne hne]
    exact ⟨(R.there ho).2.1, rfl⟩
  · rw [upd_ne (fun z => F.kf l' q (by rw [z]; exact h3))]
    exact R.lk l' q
theorem dp_fz {m : M (List D)} (h : DO X e m) : DP X e (dFz m) := fun W tk => by
  refine pe_imp (h W tk) fun σ H Q p => ?_
  refine (zt_bnd (ρ := rhoO) p).imp fun v H1 ⟨r, F, G, Mu, Γ, R, h1, q⟩ => ?_
  obtain ⟨G', k1, R', k2⟩ := R.keep h1
  exact q v H1 G' k1 R' k2

def dC (x : D) : M D := rt x
theorem zt_c {W : WX} {σ : St} {H : Hp} {Q : VK} {x : D} {v : V} (hv : ∀ K G, Dq K G v x) (h : zt X W rhoD (dC x) σ H Q) : Q v H := by
  obtain ⟨F, G, Mu, Γ, R, p⟩ := h
  exact zpost_ok R (show rhoD _ _ _ _ _ _ _ x v from hv _ _) p
theorem dp_int {i : Int} {j} : DP X (.Constant (.int i) j pos) (dC (.int i)) := fun W _ => pe_imp pe_int fun σ H Q h => zt_c (fun _ _ => .int i) h
theorem dp_bool {b : Bool} {j} : DP X (.Constant (.bool b) j pos) (dC (.bool b)) := fun W _ => pe_imp pe_bl fun σ H Q h => zt_c (fun _ _ => .bl b) h
theorem dp_none {j} : DP X (.Constant .none j pos) (dC .none) := fun W _ => pe_imp pe_non fun σ H Q h => zt_c (fun _ _ => .non) h
theorem dp_str {x : Str} {j} : DP X (.Constant (.str x) j pos) (dC (.str x)) := fun W _ => pe_imp pe_str fun σ H Q h => zt_c (fun _ _ => .str x) h

def dNil : M (List D) := rt []
def dCons (m : M D) (n : M (List D)) : M (List D) := bnd m fun x => bnd n fun xs => rt (x :: xs)
theorem dps_nil : DPs X [] dNil := fun W _ => pa_imp pa_nil fun σ H Q ⟨F, G, Mu, Γ, R, p⟩ => zpost_ok R (show rhoDs _ _ _ _ _ _ _ [] [] from .nil) p
theorem dps_cons {m : M D} {n : M (List D)} (h : DP X e m) (k : DPs X es n) (hs : starEach (e :: es) X.env = (false, eval e X.env) :: starEach es X.env := by rfl) : DPs X (e :: es) (dCons m n) := fun W tk => by
  refine pa_imp (pa_cons (h W tk) (k W tk) hs) fun σ H Q p => ?_
  refine (zt_bnd2 (ρ := rhoD) (ρ' := rhoDs) stD p).imp fun v H1 q => q.imp fun vs H2 ⟨x, xs, F, G, Mu, Γ, R, h1, h2, q2⟩ => ?_
  exact zpost_ok R (show rhoDs _ _ _ _ _ _ _ (x :: xs) (v :: vs) from .cons h1 h2) q2
def vNil : M (List Rs) := rt []
def vCons (m : M Rs) (n : M (List Rs)) : M (List Rs) := bnd m fun x => bnd n fun xs => rt (x :: xs)
theorem dvs_nil : DVs X [] vNil := fun W _ => pa_imp pa_nil fun σ H Q ⟨F, G, Mu, Γ, R, p⟩ => zpost_ok R (show rhoRs _ _ _ _ _ _ _ [] [] from rfl) p
theorem dvs_cons {m : M Rs} {n : M (List Rs)} (h : DV X e m) (k : DVs X es n) (hs : starEach (e :: es) X.env = (false, eval e X.env) :: starEach es X.env := by rfl) : DVs X (e :: es) (vCons m n) := fun W tk => by
  refine pa_imp (pa_cons (h W tk) (k W tk) hs) fun σ H Q p => ?_
  refine (zt_bnd2 (ρ := rhoR) (ρ' := rhoRs) stR p).imp fun v H1 q => q.imp fun vs H2 ⟨x, xs, F, G, Mu, Γ, R, h1, h2, q2⟩ => ?_
  exact zpost_ok R (show rhoRs _ _ _ _ _ _ _ (x :: xs) (v :: vs) from ⟨v, vs, rfl, h1, h2⟩) q2
end
def vls (g : En) : List Rs → Option (List D)
  | [] => some []
  | r :: rs => match vl g r with
    | none => none
    | some x => match vls g rs with
      | none => none
      | some xs => some (x :: xs)
def RdbAll (K : PySem.W.Frag) (G H : Hp) : List V → List D → Prop
  | [], xs => xs = []
  | v :: vs, xs => ∃ y ys, xs = y :: ys ∧ Rdb K G H v y ∧ RdbAll K G H vs ys
theorem Rel.reads {K : PySem.W.Frag} {F : Fr} {G H : Hp} {Mu : Option Addr} {Γ : En} {σ : St} (R : Rel K F G Mu Γ σ H) : ∀ {rs : List Rs} {vs : List V} {xs : List D}, RsAll K G σ rs vs → vls Γ rs = some xs → RdbAll K G H vs xs
  | [], vs, xs, h, e => by
    cases (show vs = [] from h)
    cases e
    rfl
  | r :: rs, vs, xs, h, e => by
    obtain ⟨v, us, rfl, h1, h2⟩ := h
    unfold vls at e
    split at e
    · cases e
    · rename_i y q
      split at e
      · cases e
      · rename_i ys q2
        cases e
        exact ⟨y, ys, rfl, R.read (show rhoR K F G Mu Γ σ H r v from h1) q, R.reads h2 q2⟩
theorem RdbAll.one {K : PySem.W.Frag} {G H : Hp} {vs : List V} {x : D} (h : RdbAll K G H vs [x]) : ∃ v, vs = [v] ∧ Rdb K G H v x := by
  cases vs with
  | nil => cases (show [x] = [] from h)
  | cons v us =>
    obtain ⟨y, ys, e, h1, h2⟩ := h
    cases e
    cases us with
    | nil => exact ⟨v, rfl, h1⟩
    | cons _ _ =>
      obtain ⟨_, _, e, _⟩ := h2
      cases e
theorem RdbAll.two {K : PySem.W.Frag} {G H : Hp} {vs : List V} {x y : D} (h : RdbAll K G H vs [x, y]) : ∃ v u, vs = [v, u] ∧ Rdb K G H v x ∧ Rdb K G H u y := by
  cases vs with
  | nil => cases (show [x, y] = [] from h)
  | cons v us =>
    obtain ⟨_, _, e, h1, h2⟩ := h
    cases e
    obtain ⟨u, rfl, h3⟩ := RdbAll.one h2
    exact ⟨v, u, rfl, h1, h3⟩

def op2 (f : D → D → Option D) (m n : M Rs) : M D := bnd m fun r => bnd n fun s => fun g => match vl g r with
  | none => .bad
  | some x => match vl g s with
    | none => .bad
    | some y => match f x y with
      | none => .bad
      | some z => .ok z g
def rD2 (K : PySem.W.Frag) (f : D → D → Option D) : R2 := fun x y H Q => ∃ G dx dy z, Same G H ∧ Rdb K G H x dx ∧ Rdb K G H y dy ∧ f dx dy = some z ∧ ∀ v H' G', Ext G H G' H' → Dq K G' v z → Q v H'
theorem op2_run {X : Cx} {W : WX} {σ : St} {H : Hp} {Q : VK} {f : D → D → Option D} {m n : M Rs} (p : zt X W rhoD (op2 f m n) σ H Q) : tOp (rD2 X.K f) (zt X W rhoR m) (zt X W rhoR n) σ H Q := by
  refine (zt_bnd2 (ρ := rhoR) (ρ' := rhoR) stR p).imp fun v H1 q => q.imp fun u H2 ⟨r, s, F, G, Mu, Γ, R, h1, h2, q2⟩ => ?_
  cases e1 : vl Γ r with
  | none => rw [e1] at q2; exact q2.elim
  | some x =>
    cases e2 : vl Γ s with
    | none => rw [e1, e2] at q2; exact q2.elim
    | some y =>
      cases e3 : f x y with
      | none =>
        rw [e1, e2] at q2
        dsimp only at q2
        rw [e3] at q2
        exact q2.elim
      | some z =>
        rw [e1, e2] at q2
        dsimp only at q2
        rw [e3] at q2
        exact ⟨G, x, y, z, R.gh, R.read h1 e1, R.read h2 e2, e3, fun w H' G' ex d => q2 w H' G' ex.g (R.ext ex) d⟩
def rO2 (K : PySem.W.Frag) (f : D → D → Option (List D)) : R2 := fun x y H Q => ∃ G dx dy zs, Same G H ∧ Rdb K G H x dx ∧ Rdb K G H y dy ∧ f dx dy = some zs ∧ ∀ l vs, H l = none → DqAll K G vs zs → Q (.ref l) (upd H l (.lst vs))
theorem Rel.newO {K : PySem.W.Frag} {F : Fr} {G H : Hp} {Mu : Option Addr} {Γ : En} {σ : St} {l : Addr} {vs : List V} {zs : List D} (R : Rel K F G Mu Γ σ H) (n : H l = none) (d : DqAll K G vs zs) : Rel K F G Mu Γ σ (upd H l (.lst vs)) ∧ rhoO K F G Mu Γ σ (upd H l (.lst vs)) zs (.ref l) :=
  ⟨R.newX n, l, vs, rfl, upd_same, d, R.fh.free n, R.gh.free n, fun z => (R.mu l z).2.2 n, fun i h => by
    obtain ⟨_, _, us, q⟩ := R.there h
    rw [n] at q
    cases q⟩
def op1 (f : D → Option D) (m : M Rs) : M D := bnd m fun r => fun g => match vl g r with
  | none => .bad
  | some x => match f x with
    | none => .bad
    | some z => .ok z g
def rD1 (K : PySem.W.Frag) (f : D → Option D) : V → Hp → VK → Prop := fun x H Q => ∃ G dx z, Same G H ∧ Rdb K G H x dx ∧ f dx = some z ∧ ∀ v H' G', Ext G H G' H' → Dq K G' v z → Q v H'
theorem op1_run {X : Cx} {W : WX} {σ : St} {H : Hp} {Q : VK} {f : D → Option D} {m : M Rs} (p : zt X W rhoD (op1 f m) σ H Q) : tUn (rD1 X.K f) (zt X W rhoR m) σ H Q := by
  refine (zt_bnd (ρ := rhoR) p).imp fun v H1 ⟨r, F, G, Mu, Γ, R, h1, q2⟩ => ?_
  cases e1 : vl Γ r with
  | none => rw [e1] at q2; exact q2.elim
  | some x =>
    cases e3 : f x with
    | none =>
      rw [e1] at q2
      dsimp only at q2
      rw [e3] at q2
      exact q2.elim
    | some z =>
      rw [e1] at q2
      dsimp only at q2
      rw [e3] at q2
      exact ⟨G, x, z, R.gh, R.read h1 e1, e3, fun w H' G' ex d => q2 w H' G' ex.g (R.ext ex) d⟩
/-- a built-in by its arguments -/
def opN (f : List D → Option D) (m : M (List Rs)) : M D := bnd m fun rs => fun g => match vls g rs with
  | none => .bad
  | some xs => match f xs with
    | none => .bad
    | some z => .ok z g
def rDN (K : PySem.W.Frag) (f : List D → Option D) : List V → Hp → VK → Prop := fun vs H Q => ∃ G xs z, Same G H ∧ RdbAll K G H vs xs ∧ f xs = some z ∧ ∀ v H' G', Ext G H G' H' → Dq K G' v z → Q v H'
theorem opN_run {X : Cx} {W : WX} {σ : St} {H : Hp} {Q : VK} {f : List D → Option D} {m : M (List Rs)} (p : zt X W rhoD (opN f m) σ H Q) : tCB (rDN X.K f) (zt X W rhoRs m) σ H Q := by
  refine (zt_bnd (ρ := rhoRs) p).imp fun v H1 ⟨r, F, G, Mu, Γ, R, h1, q2⟩ => ?_
  cases e1 : vls Γ r with
  | none => rw [e1] at q2; exact q2.elim
  | some x =>
    cases e3 : f x with
    | none =>
      rw [e1] at q2
      dsimp only at q2
      rw [e3] at q2
      exact q2.elim
    | some z =>
      rw [e1] at q2
      dsimp only at q2
      rw [e3] at q2
      exact ⟨G, x, z, R.gh, R.reads h1 e1, e3, fun w H' G' ex d => q2 w H' G' ex.g (R.ext ex) d⟩
def opNo (f : List D → Option (List D)) (m : M (List Rs)) : M (List D) := bnd m fun rs => fun g => match vls g rs with
  | none => .bad
  | some xs => match f xs with
    | none => .bad
    | some z => .ok z g
def rON (K : PySem.W.Frag) (f : List D → Option (List D)) : List V → Hp → VK → Prop := fun vs H Q => ∃ G xs zs, Same G H ∧ RdbAll K G H vs xs ∧ f xs = some zs ∧ ∀ l vs, H l = none → DqAll K G vs zs → Q (.ref l) (upd H l (.lst vs))
theorem opNo_run {X : Cx} {W : WX} {σ : St} {H : Hp} {Q : VK} {f : List D → Option (List D)} {m : M (List Rs)} (p : zt X W rhoO (opNo f m) σ H Q) : tCB (rON X.K f) (zt X W rhoRs m) σ H Q := by
  refine (zt_bnd (ρ := rhoRs) p).imp fun v H1 ⟨r, F, G, Mu, Γ, R, h1, q2⟩ => ?_
  cases e1 : vls Γ r with
  | none => rw [e1] at q2; exact q2.elim
  | some x =>
    cases e3 : f x with
    | none =>
      rw [e1] at q2
      dsimp only at q2
      rw [e3] at q2
      exact q2.elim
    | some z =>
      rw [e1] at q2
      dsimp only at q2
      rw [e3] at q2
      refine ⟨G, x, z, R.gh, R.reads h1 e1, e3, fun l vs n d => ?_⟩
      obtain ⟨R', o⟩ := R.newO n d
      exact q2 _ _ G (Same.refl _) R' o
section
variable {X : Cx} {a b e : Expr} {es : List Expr} {pos : Pos}
theorem dp_bin {op : Operator} {f : D → D → Option D} {m n : M Rs} (ho : OpR X (binaryOp op) (rD2 X.K f)) (ha : DV X a m) (hb : DV X b n) : DP X (.BinOp a op b pos) (op2 f m n) := fun W tk => pe_imp (pe_op ho (ha W tk) (hb W tk)) fun _ _ _ p => op2_run p
theorem dp_un {op : UnaryOp} {f : D → Option D} {m : M Rs} (ho : UnR X (unaryOp op) (rD1 X.K f)) (ha : DV X a m) : DP X (.UnaryOp op a pos) (op1 f m) := fun W tk => pe_imp (pe_un ho (ha W tk)) fun _ _ _ p => op1_run p
theorem dp_cmp {op : CmpOp} {f : D → D → Option D} {m n : M Rs} (ho : OpR X (compareOp op) (rD2 X.K f)) (ha : DV X a m) (hb : DV X b n) (hm : behindInMarks op b = false) : DP X (.Compare a [op] [b] pos) (op2 f m n) := fun W tk => pe_imp (pe_cmpR ho (ha W tk) (hb W tk) hm) fun _ _ _ p => op2_run p
theorem dp_ix {f : D → D → Option D} {m n : M Rs} (ho : IxR X (rD2 X.K f)) (ha : DV X a m) (hb : DV X b n) (hs : PlainIx b) : DP X (.Subscript a b pos) (op2 f m n) := fun W tk => pe_imp (pe_ix ho (ha W tk) (hb W tk) hs) fun _ _ _ p => op2_run p
end
end Z

set_option Elab.async false
set_option linter.all false
set_option maxRecDepth 100000
set_option autoImplicit false
set_option maxHeartbeats 1000000
namespace Z
open PySem PySem.Spec PyProof.Rows L2
section
variable {X : Cx} {pins : List (Addr × Obj)} {σ : St} {H : Hp} {s : Shared}
/-- the tuple just pushed is tracked, its object known -/
theorem laidT {its : List Value} {xs : List V} {h : Heap} {tk : Nat} (I : L2.Inv X pins σ H { s with heap := h, toks := tk }) (r : Vals xs its) (hz : xs.length ≤ sizeLine) :
    L2.Inv X pins σ (upd H h.objs.size (.frz { cls := .type "tuple", data := .seq its.toArray } (.tup xs))) { s with heap := h.push { cls := .type "tuple", data := .seq its.toArray }, toks := tk } := by
  have e := Heap.get?_push_size h (o := { cls := .type "tuple", data := .seq its.toArray }) rfl
  exact I.laid (t' := tk) (o := .frz { cls := .type "tuple", data := .seq its.toArray } (.tup xs)) (fun b u q => Heap.get?_push_of_some _ q) (Nat.le_refl _)
    ⟨e, hz, its, r, IsTup.new _ _⟩
theorem tryNew {its : List Value} {xs : List V} {Q : VK} (I : L2.Inv X pins σ H s) (r : Vals xs its) (hz : xs.length ≤ sizeLine)
    (q : ∀ p o, H p = none → o.dict = none → Q (.ref p) (upd H p (.frz o (.tup xs)))) : EP X pins σ Q (.ref s.heap.objs.size) { s with heap := s.heap.push { cls := .type "tuple", data := .seq its.toArray } } :=
  ⟨.ref s.heap.objs.size, _, laidT (tk := s.toks) I r hz, rfl, q _ _ (I.hok.fresh (Nat.le_refl _)) rfl⟩
end
def tTupZ (t : TA) : TE := fun σ H Q => t σ H fun xs H1 => xs.length ≤ sizeLine ∧ ∀ p o, H1 p = none → o.dict = none → Q (.ref p) (upd H1 p (.frz o (.tup xs)))
section
variable {X : Cx} {es : List Expr} {t : TA} {pos : Pos}
theorem pe_tupZ {k} (h : PA X es t) : PE X (.Tuple es k pos) (tTupZ t) := by
  refine ⟨fun pins s σ H Q I hq => wpAny_Tuple_spliced (thn (h.run pos pins s σ H _ I hq) fun us s1 ⟨xs, H1, I1, r, z, q⟩ => ⟨by rw [← r.length]; exact z, ?_⟩)⟩
  exact tryNew I1 r z q
/-- t + u -/
def rCatZ (K : PySem.W.Frag) : R2 := fun x y H Q => ∃ a b xs ys, x = .ref a ∧ y = .ref b ∧ SqT K H a xs ∧ SqT K H b ys ∧ xs.length + ys.length ≤ sizeLine ∧
  (xs = [] → Q (.ref b) H) ∧ (xs ≠ [] → ys = [] → Q (.ref a) H) ∧ (xs ≠ [] → ys ≠ [] → ∀ p o, H p = none → o.dict = none → Q (.ref p) (upd H p (.frz o (.tup (xs ++ ys)))))
theorem op_catZ : OpR X (binaryOp .Add) (rCatZ X.K) := by
  intro pins s σ H x y v u Q I rx ry h
  obtain ⟨a, b, xs, ys, rfl, rfl, ha, hb, hz, q0, q1, q2⟩ := h
  cases rx
  cases ry
  obtain ⟨ia, ra, pa, _⟩ := I.tuple ha
  obtain ⟨ib, rb, pb, _⟩ := I.tuple hb
  by_cases hx : xs = []
  · subst hx
    cases ra
    exact cat_tup0 pa pb ⟨.ref b, H, I, rfl, q0 rfl⟩
  · refine HT.cat_tup pa pb (fun z => hx (ra.nil_iff.mp z)) (fun z => ⟨.ref a, H, I, rfl, q1 hx (rb.nil_iff.mp z)⟩) (fun z => ?_) (by rw [← ra.length, ← rb.length]; exact hz)
    exact tryNew I (ra.append rb) (by rw [List.length_append]; exact hz) (q2 hx fun w => z (rb.nil_iff.mpr w))
/-- t[lo:hi] -/
def rSlZ (K : PySem.W.Frag) : V → Option Int → Option Int → Hp → VK → Prop := fun x lo hi H Q => ∃ a xs, x = .ref a ∧ SqT K H a xs ∧
  (HT.sIx xs.length 0 lo = 0 ∧ HT.sIx xs.length xs.length hi = xs.length → Q (.ref a) H) ∧
  (¬ (HT.sIx xs.length 0 lo = 0 ∧ HT.sIx xs.length xs.length hi = xs.length) → ∀ p o, H p = none → o.dict = none → Q (.ref p) (upd H p (.frz o (.tup (cutV xs lo hi)))))
theorem sl_tupZ : SlR X (rSlZ X.K) := by
  intro pins s σ H x v vl vu lo hi sl Q I rx hs pl pu h
  obtain ⟨a, xs, rfl, hx, q1, q2⟩ := h
  cases rx
  obtain ⟨its, r, ht, hz⟩ := I.tuple hx
  have hn : its.toArray.size = xs.length := by rw [List.size_toArray]; exact r.length.symm
  refine ⟨"tuple", _, PyProof.Rows.slot_tuple_getitem.lookup, ht.typeIs, ?_⟩
  by_cases hw : HT.sIx xs.length 0 lo = 0 ∧ HT.sIx xs.length xs.length hi = xs.length
  · exact getItem_tuple_whole ht hs pl pu (by rw [hn]; exact hw) ⟨.ref a, H, I, rfl, q1 hw⟩
  · refine HT.getItem_tuple_cut ht hs pl pu (by rw [hn]; exact hw) ?_ (by rw [hn]; exact hz)
    rw [hn]
    exact tryNew I ((r.drop (HT.sIx xs.length 0 lo)).take (HT.sIx xs.length xs.length hi - HT.sIx xs.length 0 lo)) (Nat.le_trans (cutV_length xs lo hi) hz) (q2 hw)
/-- tuple(x) -/
theorem call_tupleZ : CallR X (.type "tuple") (fun xs H Q => ∃ p ys, xs = [.ref p] ∧ ((SqL X.K H p ys ∧ ∀ l o, H l = none → o.dict = none → Q (.ref l) (upd H l (.frz o (.tup ys)))) ∨ (SqT X.K H p ys ∧ Q (.ref p) H))) := by
  intro pins s σ H xs us Q I r h
  obtain ⟨p, ys, rfl, h⟩ := h
  obtain ⟨u, rfl, rx⟩ := vals1 r
  cases rx
  rcases h with ⟨hq, q⟩ | ⟨hq, q⟩
  · obtain ⟨its, rv, pl, hz⟩ := I.list hq
    refine call_tuple_list pl.isList (fun h' kp => ?_) (by rw [List.size_toArray, ← rv.length]; exact hz)
    have J : L2.Inv X pins σ H { s with heap := h' } := I.kept (t' := s.toks) kp
    exact tryNew J rv hz q
  · obtain ⟨its, rv, pl, hz⟩ := I.tuple hq
    exact call_tuple_same pl ⟨.ref p, H, I, rfl, q⟩
def tTupRgZ (te : St → Hp → (Int → Int → Hp → Prop) → Prop) : TE := fun σ H Q => te σ H fun a b H1 => RgOk a b ∧ ∀ q o, H1 q = none → o.dict = none → Q (.ref q) (upd H1 q (.frz o (.tup (rgV a b))))
theorem pe_tupRgZ {e : Expr} {te : St → Hp → (Int → Int → Hp → Prop) → Prop} {p pos : Pos} (hc : X.calm = true) (hg : Gl X "tuple") (hm : X.mg "tuple" = none) (he : PRg X e te) (na : starEach [e] X.env = (false, eval e X.env) :: starEach [] X.env := by rfl) :
    PE X (.Call (.Name "tuple" p) [e] [] pos) (tTupRgZ te) := by
  refine ⟨fun pins s σ H Q I h => Call_ (ld_blt I hg hm boot_tuple (PyProof.Rows.callWith_type1 (args_cons (thn (he pins s σ H _ I h) fun x s1 ⟨r, a, b, t, u, v, H1, ex, hr, I1, ok, q⟩ => args_nil ?_) na) na))⟩
  subst ex
  obtain ⟨b1, b2, b3, b4, b5⟩ := ok
  refine call_tuple_range (n := (b - a).toNat) (I1.ok.hd hc) hr (small_one b1 b2 b3 b4) (rangeSize_nat a b) b5 fun h' tk acc hk hi => ?_
  have J : L2.Inv X pins σ H1 { s1 with heap := h', toks := tk } := I1.kept hk
  have K2 := laidT (its := acc.toList) (xs := rgV a b) (h := h') (tk := tk) J (vals_rg hi) (by rw [rgV_length, sizeLine_eq]; omega)
  rw [Array.toArray_toList] at K2
  exact ⟨.ref h'.objs.size, _, K2, rfl, q _ _ (J.hok.fresh (Nat.le_refl _)) rfl⟩
end
end Z

set_option Elab.async false
set_option linter.all false
set_option maxRecDepth 100000
set_option autoImplicit false
set_option maxHeartbeats 1000000
namespace Z
open PySem PySem.Spec PyProof.Rows L2

def fAdd : D → D → Option D
  | .int i, .int j => some (.int (i + j))
  | .str a, .str b => if a.length + b.length ≤ sizeLine then some (.str (a ++ b)) else none
  | .tuple xs, .tuple ys => if xs.length + ys.length ≤ sizeLine then some (.tuple (xs ++ ys)) else none
  | _, _ => none
def fSub : D → D → Option D
  | .int i, .int j => some (.int (i - j))
  | _, _ => none
def okMul (i j : Int) : Bool := decide (i.natAbs < 18446744073709551616) || decide (j.natAbs < 18446744073709551616) || decide (i.natAbs.log2 + j.natAbs.log2 < 1000000)
def fMul : D → D → Option D
  | .int i, .int j => if okMul i j then some (.int (i * j)) else none
  | _, _ => none
def okDiv (j : Int) : Bool := decide (0 < j) && (decide (j < 1073741824) || decide (j.natAbs.log2 < 9000))
def fDiv : D → D → Option D
  | .int i, .int j => if okDiv j then some (.int (i / j)) else none
  | _, _ => none
def fMod : D → D → Option D
  | .int i, .int j => if 0 < j then some (.int (i % j)) else none
  | _, _ => none
def fPow : D → D → Option D
  | .int i, .int j => if 0 ≤ j ∧ j ≤ 1000000 ∧ i.natAbs < 18446744073709551616 then some (.int (i ^ j.toNat)) else none
  | _, _ => none
def fNeg : D → Option D
  | .int i => some (.int (-i))
  | _ => none
/-- comparisons of ints -/
def fCmpI (p : Int → Int → Bool) : D → D → Option D
  | .int i, .int j => some (.bool (p i j))
  | _, _ => none
def fLt := fCmpI fun i j => decide (i < j)
def fLe := fCmpI fun i j => decide (i ≤ j)
def fGt := fCmpI fun i j => decide (j < i)
def fGe := fCmpI fun i j => decide (j ≤ i)
def fEq (x y : D) : Option D := if SeqAt.shaped x && SeqAt.shaped y then some (.bool (PyData.eqv x y)) else none
def fNe (x y : D) : Option D := if SeqAt.shaped x && SeqAt.shaped y then some (.bool (!PyData.eqv x y)) else none
def isNone : D → Bool
  | .none => true
  | _ => false
def fIsN (x y : D) : Option D := if isNone y then some (.bool (isNone x)) else none
section
variable {X : Cx}
theorem or_ints {F : Value → Value → Sem Value} {f : D → D → Option D} {c : Int → Int → Prop} {g : Int → Int → Int} (ho : OpR X F (rI c fun i j => .int (g i j)))
    (hf : ∀ x y z, f x y = some z → ∃ i j, x = .int i ∧ y = .int j ∧ c i j ∧ z = .int (g i j)) : OpR X F (rD2 X.K f) := by
  intro pins s σ H x y v u Q I rx ry h
  obtain ⟨G, dx, dy, z, gh, r1, r2, e, q⟩ := h
  obtain ⟨i, j, rfl, rfl, hc, rfl⟩ := hf _ _ _ e
  have e1 := r1.int
  have e2 := r2.int
  subst e1 e2
  exact ho pins s σ H _ _ v u Q I rx ry ⟨i, j, rfl, rfl, hc, q _ _ _ (Ext.refl gh) (.int _)⟩
theorem or_cmpI {F : Value → Value → Sem Value} {g : Int → Int → Bool} (ho : OpR X F (rI0 fun i j => .bl (g i j))) : OpR X F (rD2 X.K (fCmpI g)) := by
  intro pins s σ H x y v u Q I rx ry h
  obtain ⟨G, dx, dy, z, gh, r1, r2, e, q⟩ := h
  unfold fCmpI at e
  split at e
  · cases e
    have e1 := r1.int
    have e2 := r2.int
    subst e1 e2
    exact ho pins s σ H _ _ v u Q I rx ry ⟨_, _, rfl, rfl, q _ _ _ (Ext.refl gh) (.bl _)⟩
  · cases e
theorem or_lt : OpR X (compareOp .Lt) (rD2 X.K fLt) := or_cmpI op_lt
theorem or_gt : OpR X (compareOp .Gt) (rD2 X.K fGt) := or_cmpI op_gt
theorem or_ge : OpR X (compareOp .GtE) (rD2 X.K fGe) := or_cmpI op_ge
theorem or_sub : OpR X (binaryOp .Sub) (rD2 X.K fSub) := by
  refine or_ints (c := fun _ _ => True) (g := fun i j => i - j) ?_ fun x y z e => ?_
  · exact opI fun _ _ _ _ _ _ _ _ q => sub_int q
  · unfold fSub at e
    split at e
    · cases e
      exact ⟨_, _, rfl, rfl, trivial, rfl⟩
    · cases e
theorem okMul_ok {i j : Int} (h : okMul i j = true) : IntMulOk i j := by
  unfold okMul at h
  simp only [Bool.or_eq_true, decide_eq_true_eq] at h
  rcases h with (h | h) | h
  · exact CMul.ok (.inl (by omega))
  · exact CMul.ok (.inr (by omega))
  · exact CMulW.ok h
theorem or_mul : OpR X (binaryOp .Mult) (rD2 X.K fMul) := by
  refine or_ints (c := fun i j => okMul i j = true) (g := fun i j => i * j) ?_ fun x y z e => ?_
  · exact opI fun _ _ _ _ _ _ _ hc q => mul_int q (okMul_ok hc)
  · unfold fMul at e
    split at e
    · split at e
      · cases e
        exact ⟨_, _, rfl, rfl, by assumption, rfl⟩
      · cases e
    · cases e
theorem or_div : OpR X (binaryOp .FloorDiv) (rD2 X.K fDiv) := by
  refine or_ints (c := fun _ j => okDiv j = true) (g := fun i j => i / j) ?_ fun x y z e => ?_
  · refine opI fun i j _ _ _ _ _ hc q => ?_
    unfold okDiv at hc
    simp only [Bool.and_eq_true, Bool.or_eq_true, decide_eq_true_eq] at hc
    obtain ⟨h1, h2⟩ := hc
    refine floordiv_int (by omega) (by rw [Int.fdiv_eq_ediv_of_nonneg i (by omega)]; exact q) ?_
    rcases h2 with h2 | h2
    · exact .inl (PyProof.noPylong_small (by omega))
    · exact .inl (PyProof.noPylong_of_log2 h2)
  · unfold fDiv at e
    split at e
    · split at e
      · cases e
        exact ⟨_, _, rfl, rfl, by assumption, rfl⟩
      · cases e
    · cases e
theorem or_mod : OpR X (binaryOp .Mod) (rD2 X.K fMod) := by
  refine or_ints (c := fun _ j => 0 < j) (g := fun i j => i % j) op_mod fun x y z e => ?_
  unfold fMod at e
  split at e
  · split at e
    · cases e
      exact ⟨_, _, rfl, rfl, by assumption, rfl⟩
    · cases e
  · cases e
theorem or_pow : OpR X (binaryOp .Pow) (rD2 X.K fPow) := by
  refine or_ints (c := fun i j => 0 ≤ j ∧ j ≤ 1000000 ∧ i.natAbs < 18446744073709551616) (g := fun i j => i ^ j.toNat) ?_ fun x y z e => ?_
  · exact opI fun _ _ _ _ _ _ _ hc q => pow_int_small hc.1 hc.2.1 hc.2.2 q
  · unfold fPow at e
    split at e
    · split at e
      · cases e
        exact ⟨_, _, rfl, rfl, by assumption, rfl⟩
      · cases e
    · cases e
theorem or_add : OpR X (binaryOp .Add) (rD2 X.K fAdd) := by
  intro pins s σ H x y v u Q I rx ry h
  obtain ⟨G, dx, dy, z, gh, r1, r2, e, q⟩ := h
  unfold fAdd at e
  split at e
  · cases e
    have e1 := r1.int
    have e2 := r2.int
    subst e1 e2
    exact op_add pins s σ H _ _ v u Q I rx ry ⟨_, _, rfl, rfl, q _ _ _ (Ext.refl gh) (.int _)⟩
  · split at e
    · cases e
      have e1 := r1.str
      have e2 := r2.str
      subst e1 e2
      exact op_add_str pins s σ H _ _ v u Q I rx ry ⟨_, _, rfl, rfl, by assumption, q _ _ _ (Ext.refl gh) (.str _)⟩
    · cases e
  · rename_i xs ys
    split at e
    · rename_i hz
      cases e
      obtain ⟨l1, vs1, rfl, s1, d1⟩ := r1.tup gh
      obtain ⟨l2, vs2, rfl, s2, d2⟩ := r2.tup gh
      have n1 := dpa_length d1
      have n2 := dpa_length d2
      have dt1 : Dq X.K G (.ref l1) (.tuple xs) := by
        rcases r1 with r1 | ⟨_, _, _, _, c, _⟩
        · exact r1
        · cases c
      have dt2 : Dq X.K G (.ref l2) (.tuple ys) := by
        rcases r2 with r2 | ⟨_, _, _, _, c, _⟩
        · exact r2
        · cases c
      refine op_catZ pins s σ H _ _ v u Q I rx ry ⟨l1, l2, vs1, vs2, rfl, rfl, s1.sq, s2.sq, by omega, fun z => ?_, fun _ z => ?_, fun _ _ p o n ho => ?_⟩
      · subst z
        have : xs = [] := by
          cases xs with
          | nil => rfl
          | cons _ _ => simp at n1
        subst this
        exact q _ _ _ (Ext.refl gh) dt2
      · subst z
        have : ys = [] := by
          cases ys with
          | nil => rfl
          | cons _ _ => simp at n2
        subst this
        rw [List.append_nil] at q
        exact q _ _ _ (Ext.refl gh) dt1
      · have E := Ext.new (o := .frz o (.tup (vs1 ++ vs2))) gh n
        exact q _ _ _ E (.tup (.new ho) (dpAll_mono E.g _ _ (dpa_append d1 d2)))
    · cases e
  · cases e
theorem un_negD : UnR X (unaryOp .USub) (rD1 X.K fNeg) := by
  intro pins s σ H x v Q I rx h
  obtain ⟨G, dx, z, gh, r1, e, q⟩ := h
  unfold fNeg at e
  split at e
  · cases e
    have e1 := r1.int
    subst e1
    exact un_neg pins s σ H _ v Q I rx ⟨_, rfl, q _ _ _ (Ext.refl gh) (.int _)⟩
  · cases e
theorem shaped_plain {d : D} (h : SeqAt.shaped d = true) : d.plain = true := by
  unfold SeqAt.shaped at h
  rw [Bool.and_eq_true] at h
  exact PyData.plain_of_canLay0 d h.1
theorem or_eq (hu : X.A.units + 64 < cLine) : OpR X (compareOp .Eq) (rD2 X.K fEq) := by
  intro pins s σ H x y v u Q I rx ry h
  obtain ⟨G, dx, dy, z, gh, r1, r2, e, q⟩ := h
  unfold fEq at e
  split at e
  · rename_i hs
    cases e
    rw [Bool.and_eq_true] at hs
    exact op_eqD hu pins s σ H _ _ v u Q I rx ry ⟨dx, dy, (r1.dp gh).dp _ _ (shaped_plain hs.1), (r2.dp gh).dp _ _ (shaped_plain hs.2), hs.1, hs.2, q _ _ _ (Ext.refl gh) (.bl _)⟩
  · cases e
theorem or_ne (hu : X.A.units + 64 < cLine) : OpR X (compareOp .NotEq) (rD2 X.K fNe) := by
  intro pins s σ H x y v u Q I rx ry h
  obtain ⟨G, dx, dy, z, gh, r1, r2, e, q⟩ := h
  unfold fNe at e
  split at e
  · rename_i hs
    cases e
    rw [Bool.and_eq_true] at hs
    exact op_neD hu pins s σ H _ _ v u Q I rx ry ⟨dx, dy, (r1.dp gh).dp _ _ (shaped_plain hs.1), (r2.dp gh).dp _ _ (shaped_plain hs.2), hs.1, hs.2, q _ _ _ (Ext.refl gh) (.bl _)⟩
  · cases e
theorem none_dec {K : PySem.W.Frag} {G H : Hp} {v : V} {x : D} (r : Rdb K G H v x) : decide (v = .non) = isNone x := by
  rcases r with r | ⟨l, vs, xs, rfl, rfl, _, _⟩
  · cases r <;> rfl
  · rfl
theorem or_isN : OpR X (compareOp .Is) (rD2 X.K fIsN) := by
  intro pins s σ H x y v u Q I rx ry h
  obtain ⟨G, dx, dy, z, gh, r1, r2, e, q⟩ := h
  unfold fIsN at e
  split at e
  · rename_i hn
    cases e
    cases dy with
    | none =>
      have e2 := r2.none
      subst e2
      exact op_isN pins s σ H _ _ v u Q I rx ry ⟨rfl, by rw [none_dec r1]; exact q _ _ _ (Ext.refl gh) (.bl _)⟩
    | _ => cases hn
  · cases e
end

/-- a key among data -/
def dkey : D → Option Key
  | .int i => some (.inl i)
  | .str x => some (.inr x)
  | _ => none
theorem dkey_keyD : ∀ k : Key, dkey (keyD k) = some k
  | .inl _ => rfl
  | .inr _ => rfl
theorem keyD_dkey {d : D} {k : Key} (h : dkey d = some k) : d = keyD k := by
  unfold dkey at h
  split at h
  · cases h; rfl
  · cases h; rfl
  · cases h
/-- what a dict holds at a key -/
def dfind : List (D × D) → Key → Option D
  | [], _ => none
  | p :: ds, k => if dkey p.1 = some k then some p.2 else dfind ds k
def dput (ds : List (D × D)) (k : Key) (d : D) : List (D × D) :=
  if (ds.any fun p => decide (dkey p.1 = some k)) = true then ds.map (fun p => if dkey p.1 = some k then (p.1, d) else p) else ds ++ [(keyD k, d)]
theorem kv_find {K : PySem.W.Frag} {G : Hp} {k : Key} {d : D} : ∀ {kvs : List (Key × V)} {ds : List (D × D)}, KvAll K G kvs ds → dfind ds k = some d → ∃ v, valV kvs k = some v ∧ Dq K G v d
  | _, _, .nil, h => nomatch h
  | _, _, .cons (k := k') (kvs := kvs) (ds := ds) a b, h => by
    unfold dfind at h
    rw [dkey_keyD] at h
    by_cases e : k' = k
    · subst e
      rw [if_pos rfl] at h
      cases h
      exact ⟨_, valV_pos rfl, a⟩
    · rw [if_neg (fun z => e (Option.some.inj z))] at h
      obtain ⟨v, h1, h2⟩ := kv_find b h
      exact ⟨v, by rw [valV_neg e]; exact h1, h2⟩
theorem kv_len {K : PySem.W.Frag} {G : Hp} : ∀ {kvs : List (Key × V)} {ds : List (D × D)}, KvAll K G kvs ds → kvs.length = ds.length
  | _, _, .nil => rfl
  | _, _, .cons _ b => by rw [List.length_cons, List.length_cons, kv_len b]
theorem kv_any {K : PySem.W.Frag} {G : Hp} (k : Key) : ∀ {kvs : List (Key × V)} {ds : List (D × D)}, KvAll K G kvs ds → (kvs.any fun kv => decide (kv.1 = k)) = ds.any fun p => decide (dkey p.1 = some k)
  | _, _, .nil => rfl
  | _, _, .cons (k := k') _ b => by
    rw [List.any_cons, List.any_cons, kv_any k b]
    congr 1
    show decide (k' = k) = decide (dkey (keyD k') = some k)
    rw [dkey_keyD]
    exact decide_eq_decide.mpr ⟨fun e => by rw [e], fun e => Option.some.inj e⟩
theorem kv_snoc {K : PySem.W.Frag} {G : Hp} {k : Key} {v : V} {d : D} (r : Dq K G v d) : ∀ {kvs : List (Key × V)} {ds : List (D × D)}, KvAll K G kvs ds → KvAll K G (kvs ++ [(k, v)]) (ds ++ [(keyD k, d)])
  | _, _, .nil => .cons r .nil
  | _, _, .cons a b => .cons a (kv_snoc r b)
theorem kv_over {K : PySem.W.Frag} {G : Hp} {k : Key} {v : V} {d : D} (r : Dq K G v d) : ∀ {kvs : List (Key × V)} {ds : List (D × D)}, KvAll K G kvs ds → KvAll K G (kvs.map fun kv => if kv.1 = k then (kv.1, v) else kv) (ds.map fun p => if dkey p.1 = some k then (p.1, d) else p)
  | _, _, .nil => .nil
  | _, _, .cons (k := k') a b => by
    rw [List.map_cons, List.map_cons]
    dsimp only
    rw [dkey_keyD]
    by_cases e : k' = k
    · rw [if_pos e, if_pos (by rw [e])]
      exact .cons r (kv_over r b)
    · rw [if_neg e, if_neg (fun z => e (Option.some.inj z))]
      exact .cons a (kv_over r b)
theorem kv_put {K : PySem.W.Frag} {G : Hp} {k : Key} {v : V} {d : D} {kvs : List (Key × V)} {ds : List (D × D)} (h : KvAll K G kvs ds) (r : Dq K G v d) : KvAll K G (putK kvs k v) (dput ds k d) := by
  unfold putK dput
  rw [kv_any k h]
  split
  · exact kv_over r h
  · exact kv_snoc r h
theorem dput_len (ds : List (D × D)) (k : Key) (d : D) : (dput ds k d).length ≤ ds.length + 1 := by
  unfold dput
  split
  · rw [List.length_map]
    omega
  · rw [List.length_append]
    exact Nat.le_refl _
theorem key_rel {K : PySem.W.Frag} {G H : Hp} {y : V} {d : D} {k : Key} (r : Rdb K G H y d) (h : dkey d = some k) : y = kV k := by
  have e := keyD_dkey h
  subst e
  cases k with
  | inl i => exact r.int
  | inr x => exact r.str
theorem ix_dk {X : Cx} (hu : X.A.units + 64 < cLine) : IxR X (fun x y H Q => ∃ a v, x = .ref a ∧ DGet H a y (some v) ∧ Q v H) := by
  intro value slice pins s σ H x y v u Q I rx ry h hs
  obtain ⟨a, v', e, g, q⟩ := h
  subst e
  obtain rfl : v = Value.ref a := rx
  exact tail_any (dict_typeIs I g) PySem.F.slot_dict_getitem.lookup (d_getItem (by omega) I g ry fun w' s3 I3 rw' => ⟨v', H, I3, rw', q⟩) hs
def fIx : D → D → Option D
  | .list xs, .int i => atI xs i
  | .tuple xs, .int i => atI xs i
  | .dict ds, k => match dkey k with
    | some k => dfind ds k
    | none => none
  | _, _ => none
theorem dpa_at {K : PySem.W.Frag} {G : Hp} {vs : List V} {xs : List D} {i : Int} {d : D} (h : DqAll K G vs xs) (e : atI xs i = some d) : ∃ v, atI vs i = some v ∧ Dq K G v d := by
  unfold atI at e ⊢
  rw [dpa_length h]
  cases q : ixN xs.length i with
  | none => rw [q] at e; cases e
  | some j =>
    rw [q] at e
    exact dpa_get h e
theorem ixr {X : Cx} (hu : X.A.units + 64 < cLine) : IxR X (rD2 X.K fIx) := by
  intro value slice pins s σ H x y v u Q I rx ry h hs
  obtain ⟨G, dx, dy, z, gh, r1, r2, e, q⟩ := h
  unfold fIx at e
  split at e
  · obtain ⟨l, vs, rfl, s1, d1⟩ := r1.list gh
    have e2 := r2.int
    subst e2
    obtain ⟨w, k1, k2⟩ := dpa_at d1 e
    exact ix_list value slice pins s σ H _ _ v u Q I rx ry ⟨l, vs, _, w, rfl, rfl, s1, k1, q _ _ _ (Ext.refl gh) k2⟩ hs
  · obtain ⟨l, vs, rfl, s1, d1⟩ := r1.tup gh
    have e2 := r2.int
    subst e2
    obtain ⟨w, k1, k2⟩ := dpa_at d1 e
    exact ix_tup value slice pins s σ H _ _ v u Q I rx ry ⟨l, vs, _, w, rfl, rfl, s1.sq, k1, q _ _ _ (Ext.refl gh) k2⟩ hs
  · split at e
    · rename_i k hk
      have e2 := key_rel r2 hk
      subst e2
      rcases r1 with r1 | ⟨_, _, _, _, c, _⟩
      · cases r1 with
        | dic h1 h2 =>
          obtain ⟨w, k1, k2⟩ := kv_find h2 e
          exact ix_dk hu value slice pins s σ H _ _ v u Q I rx ry ⟨_, w, rfl, .inl ⟨_, _, .inl (gh _ _ h1), rfl, k1.symm⟩, q _ _ _ (Ext.refl gh) k2⟩ hs
      · cases c
    · cases e
  · cases e
/-- the items from lo to hi -/
def cutD {α : Type} (xs : List α) (lo hi : Option Int) : List α := (xs.drop (HT.sIx xs.length 0 lo)).take (HT.sIx xs.length xs.length hi - HT.sIx xs.length 0 lo)
theorem dpa_cut {K : PySem.W.Frag} {G : Hp} {vs : List V} {xs : List D} (lo hi : Option Int) (h : DqAll K G vs xs) : DqAll K G (cutV vs lo hi) (cutD xs lo hi) := by
  unfold cutV cutD
  rw [dpa_length h]
  exact dpa_take _ (dpa_drop _ h)
def fCutT (x : D) (lo hi : Option Int) : Option D := match x with
  | .tuple xs => some (.tuple (cutD xs lo hi))
  | _ => none
def fCutL (x : D) (lo hi : Option Int) : Option (List D) := match x with
  | .list xs => some (cutD xs lo hi)
  | _ => none
/-- a slice's bound -/
def DPo (X : Cx) (e : Option Expr) (m : M (Option Int)) : Prop := ∀ W, Takes X W → PO X e (zt X W (fun _ _ _ _ _ _ _ x y => x = y) m)
def oNone : M (Option Int) := rt none
def oSome (m : M D) : M (Option Int) := bnd m fun x => match x with
  | .int i => rt (some i)
  | _ => fun _ => .bad
theorem po_imp {X : Cx} {e : Option Expr} {t t' : TO} (p : PO X e t) (h : ∀ σ H Q, t' σ H Q → t σ H Q) : PO X e t' := ⟨fun pins s σ H Q I q => p.run pins s σ H Q I (h σ H Q q)⟩
section
variable {X : Cx} {e : Expr} {pos p2 : Pos} {lo hi : Option Expr}
theorem dpo_none : DPo X none oNone := fun W _ => po_imp po_none fun σ H Q ⟨F, G, Mu, Γ, R, p⟩ => p none H G (Same.refl _) R rfl
theorem dpo_some {m : M D} (h : DP X e m) : DPo X (some e) (oSome m) := fun W tk => by
  refine po_imp (po_some (h W tk)) fun σ H Q p => ?_
  refine (zt_bnd (ρ := rhoD) p).imp fun v H1 ⟨r, F, G, Mu, Γ, R, h1, q⟩ => ?_
  cases r with
  | int i =>
    cases h1
    exact ⟨i, rfl, q _ _ G (Same.refl _) R rfl⟩
  | _ => exact q.elim
theorem zt_bnd3 {W : WX} {σ : St} {H : Hp} {α ζ : Type} {ρ'' : Rho α ζ} {m : M Rs} {a b : M (Option Int)} {f : Rs → Option Int → Option Int → M α} {Q : ζ → Hp → Prop} (p : zt X W ρ'' (bnd m fun r => bnd a fun lo => bnd b fun hi => f r lo hi) σ H Q) :
    zt X W rhoR m σ H fun v H1 => zt X W (fun _ _ _ _ _ _ _ x y => x = y) a σ H1 fun l H2 => zt X W (fun _ _ _ _ _ _ _ x y => x = y) b σ H2 fun u H3 =>
      ∃ r F G Mu Γ, Rel X.K F G Mu Γ σ H3 ∧ rhoR X.K F G Mu Γ σ H3 r v ∧ zpost X W σ ρ'' F G Mu Q (f r l u Γ) := by
  obtain ⟨F, G, Mu, Γ, R, q⟩ := p
  refine ⟨F, G, Mu, Γ, R, ?_⟩
  unfold bnd at q
  cases e : m Γ with
  | bad => rw [e] at q; exact q
  | ex c x Γ1 => rw [e] at q; exact q
  | ok r Γ1 =>
    rw [e] at q
    refine fun v H1 G1 h1 R1 h2 => ⟨F, G1, Mu, Γ1, R1, ?_⟩
    dsimp only at q
    cases e2 : a Γ1 with
    | bad => rw [e2] at q; exact q
    | ex c x Γ2 => rw [e2] at q; exact q.rebase h1
    | ok l Γ2 =>
      rw [e2] at q
      refine fun l' H2 G2 k1 R2 k2 => ⟨F, G2, Mu, Γ2, R2, ?_⟩
      subst k2
      dsimp only at q
      cases e3 : b Γ2 with
      | bad => rw [e3] at q; exact q
      | ex c x Γ3 => rw [e3] at q; exact q.rebase (h1.trans k1)
      | ok u Γ3 =>
        rw [e3] at q
        refine fun u' H3 G3 j1 R3 j2 => ?_
        subst j2
        exact ⟨r, F, G3, Mu, Γ3, R3, stR _ _ _ _ _ _ _ _ _ _ _ _ _ _ (k1.trans j1) h2, q.rebase ((h1.trans k1).trans j1)⟩
end
end Z

set_option Elab.async false
set_option linter.all false
set_option maxRecDepth 100000
set_option autoImplicit false
set_option maxHeartbeats 1000000
namespace Z
open PySem PySem.Spec PyProof.Rows L2
section
variable {X : Cx}
/-- the numbers behind the items -/
theorem vals_num {ns : List Int} {us : List Value} (r : Vals (ns.map V.int) us) (i : Nat) (v : Value) (h : us.toArray[i]? = some v) : ∃ t, v = .int (ns.getD i 0) t := by
  have hl : i < us.length := by
    rw [List.getElem?_toArray] at h
    exact (List.getElem?_eq_some_iff.mp h).1
  have hn : i < ns.length := by
    have := r.length
    rw [List.length_map] at this
    omega
  obtain ⟨u, hu, ru⟩ := r.get (i := i) (x := V.int (ns.getD i 0)) (by rw [List.getElem?_map, List.getD_eq_getElem?_getD, List.getElem?_eq_getElem hn]; rfl)
  rw [List.getElem?_toArray, hu] at h
  cases h
  exact ru
theorem getD_in {ns : List Int} {i : Nat} (h : i < ns.length) : ns.getD i 0 ∈ ns := by
  rw [List.getD_eq_getElem?_getD, List.getElem?_eq_getElem h]
  exact List.getElem_mem h
theorem in_getD {ns : List Int} {y : Int} (h : y ∈ ns) : ∃ i, i < ns.length ∧ ns.getD i 0 = y := by
  obtain ⟨i, hi, e⟩ := List.getElem_of_mem h
  exact ⟨i, hi, by rw [List.getD_eq_getElem?_getD, List.getElem?_eq_getElem hi]; exact e⟩
def rMaxT (K : PySem.W.Frag) : List V → Hp → VK → Prop := fun vs H Q => ∃ (a : Addr) (ns : List Int), vs = [.ref a] ∧ SqT K H a (ns.map .int) ∧ ns ≠ [] ∧ ∀ m, m ∈ ns → (∀ y, y ∈ ns → y ≤ m) → Q (.int m) H
def rMinT (K : PySem.W.Frag) : List V → Hp → VK → Prop := fun vs H Q => ∃ (a : Addr) (ns : List Int), vs = [.ref a] ∧ SqT K H a (ns.map .int) ∧ ns ≠ [] ∧ ∀ m, m ∈ ns → (∀ y, y ∈ ns → m ≤ y) → Q (.int m) H
theorem cr_maxT (hc : X.calm = true) : CallR X (.builtin "max") (rMaxT X.K) := by
  intro pins s σ H vs us Q I r h
  obtain ⟨a, ns, e, hs, hne, q⟩ := h
  subst e
  obtain ⟨its, rv, p, hz⟩ := I.tuple hs
  rw [Vals.ref1 r]
  have pt : s.heap.IsTuple a its.toArray := p
  have la : a < s.heap.objs.size := by
    obtain ⟨o, k, _⟩ := id pt
    exact Heap.lt_size k
  have n1 : its.length = ns.length := by rw [← rv.length, List.length_map]
  have n0 : 0 < ns.length := List.length_pos_iff.mpr hne
  refine call_max_walk (wpAny_pyIter_tuple pt ?_)
  refine ⟨_, _, _, _, _, _, _, rfl, Walks.tuple (A := X.A.in1) (I.ok.hd hc) s.heap.objs.size a (Nat.ne_of_lt la) its.toArray, ⟨⟨_, Heap.get?_push_size _ rfl, rfl, rfl⟩, pt.push _⟩, fun b hb => ?_, ?_, CmpOf.ints_gt (fun i => ns.getD i 0) (vals_num rv), fun v h' tk hv hk => ?_⟩
  · show b < (s.heap.push _).objs.size
    rw [Heap.size_push]
    simp only [List.mem_cons, List.not_mem_nil, or_false] at hb
    rcases hb with rfl | rfl
    · exact Nat.lt_succ_self _
    · exact Nat.lt_succ_of_lt la
  · rw [List.size_toArray]
    omega
  · obtain ⟨t, rfl⟩ := vals_num rv _ _ hv
    obtain ⟨b1, b2⟩ := argBest_gt (fun i => ns.getD i 0) (its.toArray.size - 1)
    rw [List.size_toArray] at b1 b2 ⊢
    refine ⟨.int _, H, I.kept fun b u hb => hk b u (fun hm => ?_) (Heap.get?_push_of_some _ hb), ⟨_, rfl⟩, q _ (getD_in (by omega)) fun y hy => ?_⟩
    · rw [List.mem_singleton.mp hm] at hb
      exact absurd (Heap.lt_size hb) (Nat.lt_irrefl _)
    · obtain ⟨j, hj, rfl⟩ := in_getD hy
      exact b2 j (by omega)
theorem cr_minT (hc : X.calm = true) : CallR X (.builtin "min") (rMinT X.K) := by
  intro pins s σ H vs us Q I r h
  obtain ⟨a, ns, e, hs, hne, q⟩ := h
  subst e
  obtain ⟨its, rv, p, hz⟩ := I.tuple hs
  rw [Vals.ref1 r]
  have pt : s.heap.IsTuple a its.toArray := p
  have la : a < s.heap.objs.size := by
    obtain ⟨o, k, _⟩ := id pt
    exact Heap.lt_size k
  have n1 : its.length = ns.length := by rw [← rv.length, List.length_map]
  have n0 : 0 < ns.length := List.length_pos_iff.mpr hne
  refine call_min_walk (wpAny_pyIter_tuple pt ?_)
  refine ⟨_, _, _, _, _, _, _, rfl, Walks.tuple (A := X.A.in1) (I.ok.hd hc) s.heap.objs.size a (Nat.ne_of_lt la) its.toArray, ⟨⟨_, Heap.get?_push_size _ rfl, rfl, rfl⟩, pt.push _⟩, fun b hb => ?_, ?_, CmpOf.ints_lt (fun i => ns.getD i 0) (vals_num rv), fun v h' tk hv hk => ?_⟩
  · show b < (s.heap.push _).objs.size
    rw [Heap.size_push]
    simp only [List.mem_cons, List.not_mem_nil, or_false] at hb
    rcases hb with rfl | rfl
    · exact Nat.lt_succ_self _
    · exact Nat.lt_succ_of_lt la
  · rw [List.size_toArray]
    omega
  · obtain ⟨t, rfl⟩ := vals_num rv _ _ hv
    obtain ⟨b1, b2⟩ := argBest_lt (fun i => ns.getD i 0) (its.toArray.size - 1)
    rw [List.size_toArray] at b1 b2 ⊢
    refine ⟨.int _, H, I.kept fun b u hb => hk b u (fun hm => ?_) (Heap.get?_push_of_some _ hb), ⟨_, rfl⟩, q _ (getD_in (by omega)) fun y hy => ?_⟩
    · rw [List.mem_singleton.mp hm] at hb
      exact absurd (Heap.lt_size hb) (Nat.lt_irrefl _)
    · obtain ⟨j, hj, rfl⟩ := in_getD hy
      exact b2 j (by omega)
end
end Z

set_option Elab.async false
set_option linter.all false
set_option maxRecDepth 100000
set_option autoImplicit false
set_option maxHeartbeats 1000000
namespace Z
open PySem PySem.Spec PyProof.Rows L2

def dTup (m : M (List D)) : M D := bnd m fun xs => if xs.length ≤ sizeLine then rt (.tuple xs) else fun _ => .bad
def dLst (m : M (List D)) : M (List D) := bnd m fun xs => if xs.length ≤ sizeLine then rt xs else fun _ => .bad
section
variable {X : Cx} {a b c e : Expr} {es : List Expr} {pos : Pos}
theorem dp_tup {k} {m : M (List D)} (h : DPs X es m) : DP X (.Tuple es k pos) (dTup m) := fun W tk => by
  refine pe_imp (pe_tupZ (h W tk)) fun σ H Q p => ?_
  refine (zt_bnd (ρ := rhoDs) p).imp fun vs H1 ⟨xs, F, G, Mu, Γ, R, h1, q⟩ => ?_
  have n1 := dpa_length h1
  split at q
  · rename_i hz
    refine ⟨by omega, fun p o n ho => ?_⟩
    have E := Ext.new (o := .frz o (.tup vs)) R.gh n
    exact q _ _ _ E.g (R.ext E) (show rhoD _ _ _ _ _ _ _ (.tuple xs) _ from .tup (.new ho) (dpAll_mono E.g _ _ h1))
  · exact q.elim
theorem do_lst {m : M (List D)} (h : DPs X es m) : DO X (.List es pos) (dLst m) := fun W tk => by
  refine pe_imp (pe_lst (h W tk)) fun σ H Q p => ?_
  refine (zt_bnd (ρ := rhoDs) p).imp fun vs H1 ⟨xs, F, G, Mu, Γ, R, h1, q⟩ => ?_
  have n1 := dpa_length h1
  split at q
  · rename_i hz
    refine ⟨by omega, fun p n => ?_⟩
    obtain ⟨R', o⟩ := R.newO n h1
    exact q _ _ G (Same.refl _) R' o
  · exact q.elim

theorem dp_callB {id : String} {f : List D → Option D} {x : Str} {p : Pos} {m : M (List Rs)} (hc : CallR X (.builtin id) (rDN X.K f)) (hg : Gl X x) (hm : X.mg x = none) (hv : bootBuiltins x = some (.builtin id)) (ha : DVs X (e :: es) m)
    (hn : x ≠ "__name__" := by decide) (hdb : (x == ("__debug__" : Str)) = false := by decide) (he : starEach (e :: es) X.env = (false, eval e X.env) :: starEach es X.env := by rfl) (hpl : (backTo pos (starEach es X.env)).any (·.1) = false := by rfl) :
    DP X (.Call (.Name x p) (e :: es) [] pos) (opN f m) := fun W tk => pe_imp (pe_callB hc hg hm hv (ha W tk) hn hdb he hpl) fun _ _ _ p => opN_run p
theorem dp_callTy {T : String} {f : List D → Option D} {x : Str} {p : Pos} {m : M (List Rs)} (hc : CallR X (.type T) (rDN X.K f)) (hg : Gl X x) (hm : X.mg x = none) (hv : bootBuiltins x = some (.type T)) (ha : DVs X (e :: es) m)
    (hn : x ≠ "__name__" := by decide) (hdb : (x == ("__debug__" : Str)) = false := by decide) (he : starEach (e :: es) X.env = (false, eval e X.env) :: starEach es X.env := by rfl) (hpl : (backTo pos (starEach es X.env)).any (·.1) = false := by rfl) :
    DP X (.Call (.Name x p) (e :: es) [] pos) (opN f m) := fun W tk => pe_imp (pe_callTy hc hg hm hv (ha W tk) hn hdb he hpl) fun _ _ _ p => opN_run p
theorem do_callB {id : String} {f : List D → Option (List D)} {x : Str} {p : Pos} {m : M (List Rs)} (hc : CallR X (.builtin id) (rON X.K f)) (hg : Gl X x) (hm : X.mg x = none) (hv : bootBuiltins x = some (.builtin id)) (ha : DVs X (e :: es) m)
    (hn : x ≠ "__name__" := by decide) (hdb : (x == ("__debug__" : Str)) = false := by decide) (he : starEach (e :: es) X.env = (false, eval e X.env) :: starEach es X.env := by rfl) (hpl : (backTo pos (starEach es X.env)).any (·.1) = false := by rfl) :
    DO X (.Call (.Name x p) (e :: es) [] pos) (opNo f m) := fun W tk => pe_imp (pe_callB hc hg hm hv (ha W tk) hn hdb he hpl) fun _ _ _ p => opNo_run p
theorem do_callTy {T : String} {f : List D → Option (List D)} {x : Str} {p : Pos} {m : M (List Rs)} (hc : CallR X (.type T) (rON X.K f)) (hg : Gl X x) (hm : X.mg x = none) (hv : bootBuiltins x = some (.type T)) (ha : DVs X (e :: es) m)
    (hn : x ≠ "__name__" := by decide) (hdb : (x == ("__debug__" : Str)) = false := by decide) (he : starEach (e :: es) X.env = (false, eval e X.env) :: starEach es X.env := by rfl) (hpl : (backTo pos (starEach es X.env)).any (·.1) = false := by rfl) :
    DO X (.Call (.Name x p) (e :: es) [] pos) (opNo f m) := fun W tk => pe_imp (pe_callTy hc hg hm hv (ha W tk) hn hdb he hpl) fun _ _ _ p => opNo_run p
end
def toInts : List D → Option (List Int)
  | [] => some []
  | .int i :: r => (toInts r).map (i :: ·)
  | _ :: _ => none
def toBools : List D → Option (List Bool)
  | [] => some []
  | .bool i :: r => (toBools r).map (i :: ·)
  | _ :: _ => none
theorem toInts_ok : ∀ {xs : List D} {ns : List Int}, toInts xs = some ns → xs = ns.map PyData.int
  | [], _, h => by cases h; rfl
  | x :: r, ns, h => by
    unfold toInts at h
    split at h
    · cases ‹_ = []›
    · rename_i i r' e
      cases e
      obtain ⟨ms, h1, h2⟩ := Option.map_eq_some_iff.mp h
      subst h2
      rw [toInts_ok h1]
      rfl
    · cases h
theorem toInts_map (ns : List Int) : toInts (ns.map PyData.int) = some ns := by
  induction ns with
  | nil => rfl
  | cons n r ih =>
    show (toInts (r.map PyData.int)).map (n :: ·) = _
    rw [ih]
    rfl
theorem toBools_ok : ∀ {xs : List D} {ns : List Bool}, toBools xs = some ns → xs = ns.map PyData.bool
  | [], _, h => by cases h; rfl
  | x :: r, ns, h => by
    unfold toBools at h
    split at h
    · cases ‹_ = []›
    · rename_i i r' e
      cases e
      obtain ⟨ms, h1, h2⟩ := Option.map_eq_some_iff.mp h
      subst h2
      rw [toBools_ok h1]
      rfl
    · cases h
theorem toBools_map (ns : List Bool) : toBools (ns.map PyData.bool) = some ns := by
  induction ns with
  | nil => rfl
  | cons n r ih =>
    show (toBools (r.map PyData.bool)).map (n :: ·) = _
    rw [ih]
    rfl
theorem dpa_bools' {K : PySem.W.Frag} {G : Hp} : ∀ {ns : List Bool} {vs : List V}, DqAll K G vs (ns.map PyData.bool) → vs = ns.map V.bl
  | [], _, h => by cases h; rfl
  | n :: ns, _, h => by
    cases h with
    | cons a b =>
      cases a
      rw [dpa_bools' b]
      rfl
def fLen : List D → Option D
  | [.list xs] => some (.int xs.length)
  | [.tuple xs] => some (.int xs.length)
  | [.str z] => if z.length ≤ sizeLine then some (.int z.length) else none
  | [.dict ds] => some (.int ds.length)
  | _ => none
def fInt : List D → Option D
  | [.int i] => some (.int i)
  | [.bool b] => some (.int (if b then 1 else 0))
  | _ => none
def lmax : Int → List Int → Int
  | m, [] => m
  | m, x :: r => lmax (if x > m then x else m) r
def lmin : Int → List Int → Int
  | m, [] => m
  | m, x :: r => lmin (if x < m then x else m) r
theorem lmax_spec : ∀ (r : List Int) (m : Int), (lmax m r = m ∨ lmax m r ∈ r) ∧ m ≤ lmax m r ∧ ∀ y ∈ r, y ≤ lmax m r
  | [], m => ⟨.inl rfl, Int.le_refl _, fun _ h => nomatch h⟩
  | x :: r, m => by
    obtain ⟨h1, h2, h3⟩ := lmax_spec r (if x > m then x else m)
    show (lmax (if x > m then x else m) r = m ∨ lmax (if x > m then x else m) r ∈ x :: r) ∧ m ≤ lmax (if x > m then x else m) r ∧ ∀ y ∈ x :: r, y ≤ lmax (if x > m then x else m) r
    refine ⟨?_, ?_, fun y hy => ?_⟩
    · rcases h1 with h1 | h1
      · by_cases hx : x > m
        · rw [if_pos hx] at h1 ⊢
          rw [h1]
          exact .inr List.mem_cons_self
        · rw [if_neg hx] at h1 ⊢
          exact .inl h1
      · exact .inr (List.mem_cons_of_mem _ h1)
    · refine Int.le_trans ?_ h2
      split <;> omega
    · rcases List.mem_cons.mp hy with e | hy
      · subst e
        refine Int.le_trans ?_ h2
        split <;> omega
      · exact h3 y hy
theorem lmin_spec : ∀ (r : List Int) (m : Int), (lmin m r = m ∨ lmin m r ∈ r) ∧ lmin m r ≤ m ∧ ∀ y ∈ r, lmin m r ≤ y
  | [], m => ⟨.inl rfl, Int.le_refl _, fun _ h => nomatch h⟩
  | x :: r, m => by
    obtain ⟨h1, h2, h3⟩ := lmin_spec r (if x < m then x else m)
    show (lmin (if x < m then x else m) r = m ∨ lmin (if x < m then x else m) r ∈ x :: r) ∧ lmin (if x < m then x else m) r ≤ m ∧ ∀ y ∈ x :: r, lmin (if x < m then x else m) r ≤ y
    refine ⟨?_, ?_, fun y hy => ?_⟩
    · rcases h1 with h1 | h1
      · by_cases hx : x < m
        · rw [if_pos hx] at h1 ⊢
          rw [h1]
          exact .inr List.mem_cons_self
        · rw [if_neg hx] at h1 ⊢
          exact .inl h1
      · exact .inr (List.mem_cons_of_mem _ h1)
    · refine Int.le_trans h2 ?_
      split <;> omega
    · rcases List.mem_cons.mp hy with e | hy
      · subst e
        refine Int.le_trans h2 ?_
        split <;> omega
      · exact h3 y hy
theorem the_max {ns : List Int} {a b : Int} (ha : a ∈ ns) (hb : b ∈ ns) (h1 : ∀ y ∈ ns, y ≤ a) (h2 : ∀ y ∈ ns, y ≤ b) : a = b := Int.le_antisymm (h2 a ha) (h1 b hb)
theorem the_min {ns : List Int} {a b : Int} (ha : a ∈ ns) (hb : b ∈ ns) (h1 : ∀ y ∈ ns, a ≤ y) (h2 : ∀ y ∈ ns, b ≤ y) : a = b := Int.le_antisymm (h1 b hb) (h2 a ha)
def fMax : List D → Option D
  | [.int i, .int j] => some (.int (if j > i then j else i))
  | [.list xs] => match toInts xs with
    | some (n :: ns) => some (.int (lmax n ns))
    | _ => none
  | [.tuple xs] => match toInts xs with
    | some (n :: ns) => some (.int (lmax n ns))
    | _ => none
  | _ => none
def fMin : List D → Option D
  | [.int i, .int j] => some (.int (if j < i then j else i))
  | [.list xs] => match toInts xs with
    | some (n :: ns) => some (.int (lmin n ns))
    | _ => none
  | [.tuple xs] => match toInts xs with
    | some (n :: ns) => some (.int (lmin n ns))
    | _ => none
  | _ => none
def fSum : List D → Option D
  | [.list xs] => (toInts xs).map fun ns => .int ns.sum
  | _ => none
def fAll : List D → Option D
  | [.list xs] => (toBools xs).map fun bs => .bool (bs.all id)
  | _ => none
def fList : List D → Option (List D)
  | [.list xs] => some xs
  | [.tuple xs] => some xs
  | _ => none
def fTuple : List D → Option D
  | [.list xs] => some (.tuple xs)
  | [.tuple xs] => some (.tuple xs)
  | _ => none
section
variable {X : Cx}
theorem cd_len : CallR X (.builtin "len") (rDN X.K fLen) := by
  intro pins s σ H vs us Q I r h
  obtain ⟨G, xs, z, gh, rd, e, q⟩ := h
  unfold fLen at e
  split at e
  · cases e
    obtain ⟨v, rfl, rv⟩ := rd.one
    obtain ⟨l, ws, rfl, s1, d1⟩ := rv.list gh
    rw [← dpa_length d1] at q
    exact call_len_seq pins s σ H _ us Q I r ⟨l, ws, rfl, .inl s1, q _ _ _ (Ext.refl gh) (.int _)⟩
  · cases e
    obtain ⟨v, rfl, rv⟩ := rd.one
    obtain ⟨l, ws, rfl, s1, d1⟩ := rv.tup gh
    rw [← dpa_length d1] at q
    exact call_len_seq pins s σ H _ us Q I r ⟨l, ws, rfl, .inr s1.sq, q _ _ _ (Ext.refl gh) (.int _)⟩
  · split at e
    · cases e
      obtain ⟨v, rfl, rv⟩ := rd.one
      have e1 := rv.str
      subst e1
      exact call_len_str pins s σ H _ us Q I r ⟨_, rfl, by assumption, q _ _ _ (Ext.refl gh) (.int _)⟩
    · cases e
  · cases e
    obtain ⟨v, rfl, rv⟩ := rd.one
    rcases rv with rv | ⟨_, _, _, _, c, _⟩
    · cases rv with
      | dic h1 h2 =>
        rw [← kv_len h2] at q
        exact call_lenD pins s σ H _ us Q I r ⟨_, _, rfl, gh _ _ h1, q _ _ _ (Ext.refl gh) (.int _)⟩
    · cases c
  · cases e
theorem cd_int : CallR X (.type "int") (rDN X.K fInt) := by
  intro pins s σ H vs us Q I r h
  obtain ⟨G, xs, z, gh, rd, e, q⟩ := h
  unfold fInt at e
  split at e
  · cases e
    obtain ⟨v, rfl, rv⟩ := rd.one
    have e1 := rv.int
    subst e1
    exact call_int1 pins s σ H _ us Q I r (.inl ⟨_, rfl, q _ _ _ (Ext.refl gh) (.int _)⟩)
  · cases e
    obtain ⟨v, rfl, rv⟩ := rd.one
    have e1 := rv.bool
    subst e1
    exact call_int1 pins s σ H _ us Q I r (.inr ⟨_, rfl, q _ _ _ (Ext.refl gh) (.int _)⟩)
  · cases e
theorem cd_max (hc : X.calm = true) : CallR X (.builtin "max") (rDN X.K fMax) := by
  intro pins s σ H vs us Q I r h
  obtain ⟨G, xs, z, gh, rd, e, q⟩ := h
  unfold fMax at e
  split at e
  · cases e
    obtain ⟨v, u, rfl, r1, r2⟩ := rd.two
    have e1 := r1.int
    have e2 := r2.int
    subst e1 e2
    exact call_max2 hc pins s σ H _ us Q I r ⟨_, _, rfl, q _ _ _ (Ext.refl gh) (.int _)⟩
  · rename_i xs'
    split at e
    · rename_i n ns hi
      cases e
      obtain ⟨v, rfl, rv⟩ := rd.one
      obtain ⟨l, ws, rfl, s1, d1⟩ := rv.list gh
      rw [toInts_ok hi] at d1
      have e1 := dpa_ints' d1
      subst e1
      refine cr_max hc pins s σ H _ us Q I r ⟨l, n :: ns, rfl, s1, by simp, fun m hm hy => ?_⟩
      obtain ⟨k1, k2, k3⟩ := lmax_spec ns n
      have e2 : m = lmax n ns := the_max hm (by rcases k1 with k | k <;> simp [k]) hy fun y hy => by
        rcases List.mem_cons.mp hy with e | hy
        · subst e
          exact k2
        · exact k3 y hy
      rw [e2]
      exact q _ _ _ (Ext.refl gh) (.int _)
    · cases e
  · rename_i xs'
    split at e
    · rename_i n ns hi
      cases e
      obtain ⟨v, rfl, rv⟩ := rd.one
      obtain ⟨l, ws, rfl, s1, d1⟩ := rv.tup gh
      rw [toInts_ok hi] at d1
      have e1 := dpa_ints' d1
      subst e1
      refine cr_maxT hc pins s σ H _ us Q I r ⟨l, n :: ns, rfl, s1.sq, by simp, fun m hm hy => ?_⟩
      obtain ⟨k1, k2, k3⟩ := lmax_spec ns n
      have e2 : m = lmax n ns := the_max hm (by rcases k1 with k | k <;> simp [k]) hy fun y hy => by
        rcases List.mem_cons.mp hy with e | hy
        · subst e
          exact k2
        · exact k3 y hy
      rw [e2]
      exact q _ _ _ (Ext.refl gh) (.int _)
    · cases e
  · cases e
theorem cd_min (hc : X.calm = true) : CallR X (.builtin "min") (rDN X.K fMin) := by
  intro pins s σ H vs us Q I r h
  obtain ⟨G, xs, z, gh, rd, e, q⟩ := h
  unfold fMin at e
  split at e
  · cases e
    obtain ⟨v, u, rfl, r1, r2⟩ := rd.two
    have e1 := r1.int
    have e2 := r2.int
    subst e1 e2
    exact call_min2 hc pins s σ H _ us Q I r ⟨_, _, rfl, q _ _ _ (Ext.refl gh) (.int _)⟩
  · rename_i xs'
    split at e
    · rename_i n ns hi
      cases e
      obtain ⟨v, rfl, rv⟩ := rd.one
      obtain ⟨l, ws, rfl, s1, d1⟩ := rv.list gh
      rw [toInts_ok hi] at d1
      have e1 := dpa_ints' d1
      subst e1
      refine cr_min hc pins s σ H _ us Q I r ⟨l, n :: ns, rfl, s1, by simp, fun m hm hy => ?_⟩
      obtain ⟨k1, k2, k3⟩ := lmin_spec ns n
      have e2 : m = lmin n ns := the_min hm (by rcases k1 with k | k <;> simp [k]) hy fun y hy => by
        rcases List.mem_cons.mp hy with e | hy
        · subst e
          exact k2
        · exact k3 y hy
      rw [e2]
      exact q _ _ _ (Ext.refl gh) (.int _)
    · cases e
  · rename_i xs'
    split at e
    · rename_i n ns hi
      cases e
      obtain ⟨v, rfl, rv⟩ := rd.one
      obtain ⟨l, ws, rfl, s1, d1⟩ := rv.tup gh
      rw [toInts_ok hi] at d1
      have e1 := dpa_ints' d1
      subst e1
      refine cr_minT hc pins s σ H _ us Q I r ⟨l, n :: ns, rfl, s1.sq, by simp, fun m hm hy => ?_⟩
      obtain ⟨k1, k2, k3⟩ := lmin_spec ns n
      have e2 : m = lmin n ns := the_min hm (by rcases k1 with k | k <;> simp [k]) hy fun y hy => by
        rcases List.mem_cons.mp hy with e | hy
        · subst e
          exact k2
        · exact k3 y hy
      rw [e2]
      exact q _ _ _ (Ext.refl gh) (.int _)
    · cases e
  · cases e
theorem cd_sum (hc : X.calm = true) : CallR X (.builtin "sum") (rDN X.K fSum) := by
  intro pins s σ H vs us Q I r h
  obtain ⟨G, xs, z, gh, rd, e, q⟩ := h
  unfold fSum at e
  split at e
  · obtain ⟨ns, hi, e⟩ := Option.map_eq_some_iff.mp e
    cases e
    obtain ⟨v, rfl, rv⟩ := rd.one
    obtain ⟨l, ws, rfl, s1, d1⟩ := rv.list gh
    rw [toInts_ok hi] at d1
    have e1 := dpa_ints' d1
    subst e1
    exact cr_sum hc pins s σ H _ us Q I r ⟨l, ns, rfl, s1, q _ _ _ (Ext.refl gh) (.int _)⟩
  · cases e
theorem cd_all (hc : X.calm = true) : CallR X (.builtin "all") (rDN X.K fAll) := by
  intro pins s σ H vs us Q I r h
  obtain ⟨G, xs, z, gh, rd, e, q⟩ := h
  unfold fAll at e
  split at e
  · obtain ⟨ns, hi, e⟩ := Option.map_eq_some_iff.mp e
    cases e
    obtain ⟨v, rfl, rv⟩ := rd.one
    obtain ⟨l, ws, rfl, s1, d1⟩ := rv.list gh
    rw [toBools_ok hi] at d1
    have e1 := dpa_bools' d1
    subst e1
    exact cr_all hc pins s σ H _ us Q I r ⟨l, ns, rfl, s1, q _ _ _ (Ext.refl gh) (.bl _)⟩
  · cases e
theorem cd_list : CallR X (.type "list") (rON X.K fList) := by
  intro pins s σ H vs us Q I r h
  obtain ⟨G, xs, zs, gh, rd, e, q⟩ := h
  unfold fList at e
  split at e
  · cases e
    obtain ⟨v, rfl, rv⟩ := rd.one
    obtain ⟨l, ws, rfl, s1, d1⟩ := rv.list gh
    exact call_list_of pins s σ H _ us Q I r ⟨l, ws, rfl, .inl s1, fun p n => q p ws n d1⟩
  · cases e
    obtain ⟨v, rfl, rv⟩ := rd.one
    obtain ⟨l, ws, rfl, s1, d1⟩ := rv.tup gh
    exact call_list_of pins s σ H _ us Q I r ⟨l, ws, rfl, .inr s1.sq, fun p n => q p ws n d1⟩
  · cases e
theorem cd_tuple : CallR X (.type "tuple") (rDN X.K fTuple) := by
  intro pins s σ H vs us Q I r h
  obtain ⟨G, xs, zs, gh, rd, e, q⟩ := h
  unfold fTuple at e
  split at e
  · cases e
    obtain ⟨v, rfl, rv⟩ := rd.one
    obtain ⟨l, ws, rfl, s1, d1⟩ := rv.list gh
    refine call_tupleZ pins s σ H _ us Q I r ⟨l, ws, rfl, .inl ⟨s1, fun p o n ho => ?_⟩⟩
    have E := Ext.new (o := .frz o (.tup ws)) gh n
    exact q _ _ _ E (.tup (.new ho) (dpAll_mono E.g _ _ d1))
  · cases e
    obtain ⟨v, rfl, rv⟩ := rd.one
    obtain ⟨l, ws, rfl, s1, d1⟩ := rv.tup gh
    refine call_tupleZ pins s σ H _ us Q I r ⟨l, ws, rfl, .inr ⟨s1.sq, ?_⟩⟩
    rcases rv with rv | ⟨_, _, _, _, c, _⟩
    · exact q _ _ _ (Ext.refl gh) rv
    · cases c
  · cases e
end
end Z

set_option Elab.async false
set_option linter.all false
set_option maxRecDepth 100000
set_option autoImplicit false
set_option maxHeartbeats 1000000
namespace Z
open PySem PySem.Spec PyProof.Rows L2

def dB (m : M D) : M Bool := bnd m fun x => match x with
  | .bool b => rt b
  | _ => fun _ => .bad
def dNot (m : M Bool) : M Bool := bnd m fun b => rt (!b)
def dAnd (m n : M Bool) : M Bool := bnd m fun b => if b = true then n else rt false
def dOr (m n : M Bool) : M Bool := bnd m fun b => if b = true then rt true else n
def dIfE (t : M Bool) (m n : M D) : M D := bnd t fun b => if b = true then m else n
def dAndV (m n : M D) : M D := bnd m fun x => match x with
  | .bool b => if b = true then n else rt (.bool false)
  | _ => fun _ => .bad
def dOrV (m n : M D) : M D := bnd m fun x => match x with
  | .bool b => if b = true then rt (.bool true) else n
  | _ => fun _ => .bad
def dNotV (m : M D) : M D := bnd m fun x => match x with
  | .bool b => rt (.bool (!b))
  | _ => fun _ => .bad
section
variable {X : Cx} {a b c e : Expr} {rest : List Expr} {pos : Pos}
theorem b_run {W : WX} {σ : St} {H : Hp} {m : M D} {Q : Bool → Hp → Prop} (p : zt X W rhoB (dB m) σ H Q) : zt X W rhoD m σ H fun v H1 => ∃ k, v = .bl k ∧ Q k H1 := by
  refine (zt_bnd (ρ := rhoD) p).imp fun v H1 ⟨r, F, G, Mu, Γ, R, h1, q⟩ => ?_
  cases r with
  | bool k =>
    cases h1
    exact ⟨k, rfl, zpost_ok R (show rhoB _ _ _ _ _ _ _ k k from rfl) q⟩
  | _ => exact q.elim
theorem dt_val {m : M D} (h : DP X e m) (he : ∀ whole, isTrue e X.env whole = (do let v ← whole; standAt e.pos; holding [v] (truthy v)) := by intro _; rfl) : DT X e (dB m) := fun W tk =>
  pt_imp (pt_val (h W tk) he) fun σ H Q p => b_run p
theorem dt_cmp {op : CmpOp} {f : D → D → Option D} {m n : M Rs} (ho : OpR X (compareOp op) (rD2 X.K f)) (ha : DV X a m) (hb : DV X b n) (hm : behindInMarks op b = false) : DT X (.Compare a [op] [b] pos) (dB (op2 f m n)) := fun W tk =>
  pt_imp (pt_cmpR ho (ha W tk) (hb W tk) hm) fun σ H Q p => op2_run (b_run p)
theorem dt_not {m : M Bool} (h : DT X a m) : DT X (.UnaryOp .Not a pos) (dNot m) := fun W tk => pt_imp (pt_not (h W tk)) fun σ H Q p => by
  refine (zt_bnd (ρ := rhoB) p).imp fun v H1 ⟨r, F, G, Mu, Γ, R, h1, q⟩ => ?_
  have e0 : r = v := h1
  subst e0
  exact zpost_ok R (show rhoB _ _ _ _ _ _ _ (!r) (!r) from rfl) q
theorem dw_and1 {m : M Bool} (h : DT X a m) : DW X (.BoolOp .And [a] pos) m := fun W tk => pw_and1 (h W tk)
theorem dw_or1 {m : M Bool} (h : DT X a m) : DW X (.BoolOp .Or [a] pos) m := fun W tk => pw_or1 (h W tk)
theorem dw_and {m n : M Bool} (h : DT X a m) (k : DW X (.BoolOp .And (b :: rest) pos) n) : DW X (.BoolOp .And (a :: b :: rest) pos) (dAnd m n) := fun W tk => pw_imp (pw_and (h W tk) (k W tk)) fun σ H Q p => by
  refine (zt_bnd (ρ := rhoB) p).imp fun v H1 ⟨r, F, G, Mu, Γ, R, h1, q⟩ => ?_
  have e0 : r = v := h1
  subst e0
  cases r with
  | true => exact ⟨F, G, Mu, Γ, R, q⟩
  | false => exact zpost_ok R (show rhoB _ _ _ _ _ _ _ false false from rfl) q
theorem dw_or {m n : M Bool} (h : DT X a m) (k : DW X (.BoolOp .Or (b :: rest) pos) n) : DW X (.BoolOp .Or (a :: b :: rest) pos) (dOr m n) := fun W tk => pw_imp (pw_or (h W tk) (k W tk)) fun σ H Q p => by
  refine (zt_bnd (ρ := rhoB) p).imp fun v H1 ⟨r, F, G, Mu, Γ, R, h1, q⟩ => ?_
  have e0 : r = v := h1
  subst e0
  cases r with
  | false => exact ⟨F, G, Mu, Γ, R, q⟩
  | true => exact zpost_ok R (show rhoB _ _ _ _ _ _ _ true true from rfl) q
theorem dt_w {m : M Bool} (h : DW X e m) : DT X e m := fun W tk => (h W tk).pt
theorem dp_ifE {t : M Bool} {m n : M D} (ht : DT X c t) (ha : DP X a m) (hb : DP X b n) : DP X (.IfExp c a b pos) (dIfE t m n) := fun W tk => pe_imp (pe_ifExp (ht W tk) (ha W tk) (hb W tk)) fun σ H Q p => by
  refine (zt_bnd (ρ := rhoB) p).imp fun v H1 ⟨r, F, G, Mu, Γ, R, h1, q⟩ => ?_
  have e0 : r = v := h1
  subst e0
  cases r with
  | true => exact ⟨F, G, Mu, Γ, R, q⟩
  | false => exact ⟨F, G, Mu, Γ, R, q⟩
theorem dp_one {op} {m : M D} (h : DP X a m) : DP X (.BoolOp op [a] pos) m := fun W tk => pe_one (h W tk)
theorem dp_and {m n : M D} (h : DP X a m) (k : DP X (.BoolOp .And (b :: rest) pos) n) : DP X (.BoolOp .And (a :: b :: rest) pos) (dAndV m n) := fun W tk => pe_imp (pe_and (h W tk) (k W tk)) fun σ H Q p => by
  refine (zt_bnd (ρ := rhoD) p).imp fun v H1 ⟨r, F, G, Mu, Γ, R, h1, q⟩ => ?_
  cases r with
  | bool k =>
    cases h1
    refine ⟨k, rfl, ?_⟩
    cases k with
    | true => exact ⟨F, G, Mu, Γ, R, q⟩
    | false => exact zpost_ok R (show rhoD _ _ _ _ _ _ _ (.bool false) (.bl false) from .bl _) q
  | _ => exact q.elim
theorem dp_not {m : M D} (h : DP X a m) : DP X (.UnaryOp .Not a pos) (dNotV m) := fun W tk => pe_imp (pe_not (h W tk)) fun σ H Q p => by
  refine (zt_bnd (ρ := rhoD) p).imp fun v H1 ⟨r, F, G, Mu, Γ, R, h1, q⟩ => ?_
  cases r with
  | bool k =>
    cases h1
    exact ⟨k, rfl, zpost_ok R (show rhoD _ _ _ _ _ _ _ (.bool (!k)) (.bl (!k)) from .bl _) q⟩
  | _ => exact q.elim
end

def dChain (f g : D → D → Option D) (m n o : M Rs) : M D := bnd m fun r => bnd n fun s => fun Γ => match vl Γ r, vl Γ s with
  | some x, some y => match f x y with
    | some (.bool k) => if k = true then bnd o (fun t => fun Γ' => match vl Γ' s, vl Γ' t with
      | some y', some z => match g y' z with
        | some w => .ok w Γ'
        | none => .bad
      | _, _ => .bad) Γ else .ok (.bool false) Γ
    | _ => .bad
  | _, _ => .bad
section
variable {X : Cx} {a b c : Expr} {pos : Pos} {f g : D → D → Option D}
theorem chain_run {W : WX} {σ : St} {H : Hp} {Q : VK} {m n o : M Rs} (p : zt X W rhoD (dChain f g m n o) σ H Q) : tChain (rD2 X.K f) (rD2 X.K g) (zt X W rhoR m) (zt X W rhoR n) (zt X W rhoR o) σ H Q := by
  refine (zt_bnd2 (ρ := rhoR) (ρ' := rhoR) stR p).imp fun v H1 q => q.imp fun u H2 ⟨r, s, F, G, Mu, Γ, R, h1, h2, q2⟩ => ?_
  cases e1 : vl Γ r with
  | none => rw [e1] at q2; exact q2.elim
  | some x =>
    cases e2 : vl Γ s with
    | none => rw [e1, e2] at q2; exact q2.elim
    | some y =>
      rw [e1, e2] at q2
      dsimp only at q2
      cases e3 : f x y with
      | none => rw [e3] at q2; exact q2.elim
      | some z =>
        rw [e3] at q2
        refine ⟨G, x, y, z, R.gh, R.read h1 e1, R.read h2 e2, e3, fun w H' G' ex d => ?_⟩
        cases z with
        | bool k =>
          cases d
          refine ⟨k, rfl, ?_⟩
          have R' := R.ext ex
          have q3 := q2.rebase ex.g
          cases k with
          | false => exact zpost_ok R' (show rhoD _ _ _ _ _ _ _ (.bool false) (.bl false) from .bl _) q3
          | true =>
            refine ⟨F, G', Mu, Γ, R', ?_⟩
            dsimp only at q3
            rw [if_pos rfl] at q3
            unfold bnd at q3
            cases e4 : o Γ with
            | bad => rw [e4] at q3; exact q3
            | ex c x Γ1 => rw [e4] at q3; exact q3
            | ok t Γ1 =>
              rw [e4] at q3
              dsimp only at q3
              refine fun w4 H4 G4 j1 R4 j2 => ?_
              cases e5 : vl Γ1 s with
              | none => rw [e5] at q3; exact q3.elim
              | some y' =>
                cases e6 : vl Γ1 t with
                | none => rw [e5, e6] at q3; exact q3.elim
                | some z' =>
                  rw [e5, e6] at q3
                  dsimp only at q3
                  cases e7 : g y' z' with
                  | none => rw [e7] at q3; exact q3.elim
                  | some w7 =>
                    rw [e7] at q3
                    refine ⟨G4, y', z', w7, R4.gh, R4.read (stR _ _ _ _ _ _ _ _ _ _ _ _ _ _ (ex.g.trans j1) h2) e5, R4.read j2 e6, e7, fun w H' G' ex' d => ?_⟩
                    exact q3 w H' G' (j1.trans ex'.g) (R4.ext ex') d
        | _ => exact q2.elim
theorem dt_chain {op op' : CmpOp} {m n o : M Rs} (ho : OpR X (compareOp op) (rD2 X.K f)) (ho' : OpR X (compareOp op') (rD2 X.K g)) (ha : DV X a m) (hb : DV X b n) (hc : DV X c o)
    (hm : lastMarks [op, op'] [b, c] = false := by with_unfolding_all rfl) : DT X (.Compare a [op, op'] [b, c] pos) (dB (dChain f g m n o)) := fun W tk => pt_imp (pt_chain ho ho' (ha W tk) (hb W tk) (hc W tk) hm) fun _ _ _ p => chain_run (b_run p)
end

inductive Ty where
  | int | bool | str | list | tuple
def Ty.name : Ty → String
  | .int => "int"
  | .bool => "bool"
  | .str => "str"
  | .list => "list"
  | .tuple => "tuple"
def tyD : D → String
  | .none => "NoneType"
  | .bool _ => "bool"
  | .int _ => "int"
  | .str _ => "str"
  | .list _ => "list"
  | .tuple _ => "tuple"
  | .dict _ => "dict"
def isTy : D → Ty → Bool
  | .bool _, .int => true
  | .bool _, .bool => true
  | .int _, .int => true
  | .str _, .str => true
  | .list _, .list => true
  | .tuple _, .tuple => true
  | _, _ => false
def isTys (x : D) (ts : List Ty) : Bool := ts.any (isTy x)
def fIs (ts : List Ty) (x : D) : Option D := match x with
  | .dict _ => none
  | x => some (.bool (isTys x ts))
theorem fIs_nd {ts : List Ty} {x z : D} (h : fIs ts x = some z) : (∀ kvs, x ≠ .dict kvs) ∧ z = .bool (isTys x ts) := by
  unfold fIs at h
  split at h
  · cases h
  · rename_i hx
    cases h
    exact ⟨fun kvs e => hx kvs e, rfl⟩
section
variable {X : Cx} {pos p p2 : Pos} {a : Expr}
theorem rdb_ty {K : PySem.W.Frag} {G H : Hp} {v : V} {x : D} (gh : Same G H) (r : Rdb K G H v x) (hx : ∀ kvs, x ≠ .dict kvs) : TyX K H v (.type (tyD x)) := by
  have d := r.dp gh
  cases d with
  | dic _ _ => exact absurd rfl (hx _)
  | non => exact .base .non
  | bl b => exact .base (.bl b)
  | int i => exact .base (.int i)
  | str z => exact .base (.str z)
  | lst h1 h2 =>
    rcases h1 with (h1 | ⟨o, h1⟩) | ⟨o, _, _, h1, h3, _⟩
    · exact .base (.lst h1)
    · exact .base (.frz h1)
    · exact .kList h1 h3
  | tup h1 h2 =>
    rcases h1 with ⟨o, h1, _⟩ | ⟨o, _, _, h1, h3, _⟩
    · exact .fTuple h1
    · exact .kTuple h1 h3
theorem kit_D (K : PySem.W.Frag) (x : D) (h : ∀ kvs, x ≠ .dict kvs) : ∀ t : Ty, PySem.W.kitOne K (.type (tyD x)) (.type t.name) = some (isTy x t) := by
  intro t
  cases x with
  | dict kvs => exact absurd rfl (h kvs)
  | none => cases t <;> exact kit_ty (by decide +kernel)
  | bool b =>
    cases t
    · exact kit_ty (show kitB "bool" "int" = some (isTy (.bool true) .int) by decide +kernel)
    · exact kit_ty (show kitB "bool" "bool" = some (isTy (.bool true) .bool) by decide +kernel)
    · exact kit_ty (show kitB "bool" "str" = some (isTy (.bool true) .str) by decide +kernel)
    · exact kit_ty (show kitB "bool" "list" = some (isTy (.bool true) .list) by decide +kernel)
    · exact kit_ty (show kitB "bool" "tuple" = some (isTy (.bool true) .tuple) by decide +kernel)
  | int b =>
    cases t
    · exact kit_ty (show kitB "int" "int" = some (isTy (.int 0) .int) by decide +kernel)
    · exact kit_ty (show kitB "int" "bool" = some (isTy (.int 0) .bool) by decide +kernel)
    · exact kit_ty (show kitB "int" "str" = some (isTy (.int 0) .str) by decide +kernel)
    · exact kit_ty (show kitB "int" "list" = some (isTy (.int 0) .list) by decide +kernel)
    · exact kit_ty (show kitB "int" "tuple" = some (isTy (.int 0) .tuple) by decide +kernel)
  | str b =>
    cases t
    · exact kit_ty (show kitB "str" "int" = some (isTy (.str "") .int) by decide +kernel)
    · exact kit_ty (show kitB "str" "bool" = some (isTy (.str "") .bool) by decide +kernel)
    · exact kit_ty (show kitB "str" "str" = some (isTy (.str "") .str) by decide +kernel)
    · exact kit_ty (show kitB "str" "list" = some (isTy (.str "") .list) by decide +kernel)
    · exact kit_ty (show kitB "str" "tuple" = some (isTy (.str "") .tuple) by decide +kernel)
  | list b =>
    cases t
    · exact kit_ty (show kitB "list" "int" = some (isTy (.list []) .int) by decide +kernel)
    · exact kit_ty (show kitB "list" "bool" = some (isTy (.list []) .bool) by decide +kernel)
    · exact kit_ty (show kitB "list" "str" = some (isTy (.list []) .str) by decide +kernel)
    · exact kit_ty (show kitB "list" "list" = some (isTy (.list []) .list) by decide +kernel)
    · exact kit_ty (show kitB "list" "tuple" = some (isTy (.list []) .tuple) by decide +kernel)
  | tuple b =>
    cases t
    · exact kit_ty (show kitB "tuple" "int" = some (isTy (.tuple []) .int) by decide +kernel)
    · exact kit_ty (show kitB "tuple" "bool" = some (isTy (.tuple []) .bool) by decide +kernel)
    · exact kit_ty (show kitB "tuple" "str" = some (isTy (.tuple []) .str) by decide +kernel)
    · exact kit_ty (show kitB "tuple" "list" = some (isTy (.tuple []) .list) by decide +kernel)
    · exact kit_ty (show kitB "tuple" "tuple" = some (isTy (.tuple []) .tuple) by decide +kernel)
theorem kit_Ds (K : PySem.W.Frag) (x : D) (h : ∀ kvs, x ≠ .dict kvs) : ∀ ts : List Ty, PySem.W.kitAny K (.type (tyD x)) (ts.map fun t => Value.type t.name) = some (isTys x ts)
  | [] => kitAny_nil
  | t :: ts => kitAny_cons (kit_D K x h t) (fun e => by
      rw [kit_Ds K x h ts]
      show some (isTys x ts) = some (isTy x t || isTys x ts)
      rw [e, Bool.false_or]) (fun e => by
      show (isTy x t || isTys x ts) = true
      rw [e, Bool.true_or])
theorem dp_isi {T : Str} {t : Ty} {m : M Rs} (hg : Gl X "isinstance") (hm : X.mg "isinstance" = none) (ha : DV X a m) (hgT : Gl X T) (hmT : X.mg T = none) (hv : bootBuiltins T = some (.type t.name))
    (hnT : T ≠ "__name__" := by decide) (hdT : (T == ("__debug__" : Str)) = false := by decide) (hs : starEach [a, .Name T p2] X.env = (false, eval a X.env) :: starEach [.Name T p2] X.env := by rfl) (hs2 : starEach [.Name T p2] X.env = (false, eval (.Name T p2) X.env) :: starEach [] X.env := by rfl)
    (hpl : (backTo pos (starEach [.Name T p2] X.env)).any (·.1) = false := by rfl) :
    DP X (.Call (.Name "isinstance" p) [a, .Name T p2] [] pos) (op1 (fIs [t]) m) := fun W tk => by
  refine pe_imp (pe_callB call_isi hg hm (by decide +kernel) (pa_cons (ha W tk) (pa_cons (pe_bltn (v := .ty t.name) hgT hmT hv rfl hnT hdT) pa_nil hs2) hs) (he := hs) (hpl := hpl)) fun σ H Q p => ?_
  refine (op1_run p).imp fun v H1 ⟨G, dx, z, gh, r1, e, q⟩ => ?_
  obtain ⟨hx, e⟩ := fIs_nd e
  subst e
  refine ⟨v, .ty t.name, .type (tyD dx), .type t.name, isTy dx t, rfl, .ty _, rdb_ty gh r1 hx, kit_D _ _ hx t, ?_⟩
  have q' := q (.bl (isTys dx [t])) H1 G (Ext.refl gh) (.bl _)
  have e2 : isTys dx [t] = isTy dx t := Bool.or_false _
  rw [e2] at q'
  exact q'
end
end Z

set_option Elab.async false
set_option linter.all false
set_option maxRecDepth 100000
set_option autoImplicit false
set_option maxHeartbeats 1000000
namespace Z
open PySem PySem.Spec PyProof.Rows L2

section
variable {K : PySem.W.Frag} {G H H' : Hp}
theorem Rdb.mono (e : Same H H') {v : V} {x : D} (h : Rdb K G H v x) : Rdb K G H' v x := by
  rcases h with h | ⟨l, vs, xs, rfl, rfl, h1, h2⟩
  · exact .inl h
  · exact .inr ⟨l, vs, xs, rfl, rfl, e.seq h1, h2⟩
end
def tTys (ts : List Ty) : TA := fun _ H Q => Q (ts.map fun t => V.ty t.name) H
section
variable {X : Cx} {pos p p2 : Pos} {a : Expr} {es : List Expr} {k : Nat}
theorem ty_nil : PA X [] (tTys []) := pa_nil
theorem ty_cons {T : Str} {t : Ty} {ts : List Ty} (hgT : Gl X T) (hmT : X.mg T = none) (hv : bootBuiltins T = some (.type t.name)) (h : PA X es (tTys ts))
    (hnT : T ≠ "__name__" := by decide) (hdT : (T == ("__debug__" : Str)) = false := by decide) (hs : starEach (.Name T p :: es) X.env = (false, eval (.Name T p) X.env) :: starEach es X.env := by rfl) : PA X (.Name T p :: es) (tTys (t :: ts)) :=
  pa_cons (pe_bltn (v := .ty t.name) hgT hmT hv rfl hnT hdT) h hs
theorem paired_cls : ∀ ts : List Ty, Paired ClsV (ts.map fun t => V.ty t.name) (ts.map fun t => Value.type t.name)
  | [] => .nil
  | t :: ts => .cons (.ty _) (paired_cls ts)
theorem dp_isiT {ts : List Ty} {m : M Rs} (hg : Gl X "isinstance") (hm : X.mg "isinstance" = none) (ha : DV X a m) (h : PA X es (tTys ts)) (hl : ts.length ≤ 100)
    (hs : starEach [a, .Tuple es k p2] X.env = (false, eval a X.env) :: starEach [.Tuple es k p2] X.env := by rfl) (hs2 : starEach [.Tuple es k p2] X.env = (false, eval (.Tuple es k p2) X.env) :: starEach [] X.env := by rfl)
    (hpl : (backTo pos (starEach [.Tuple es k p2] X.env)).any (·.1) = false := by rfl) :
    DP X (.Call (.Name "isinstance" p) [a, .Tuple es k p2] [] pos) (op1 (fIs ts) m) := fun W tk => by
  refine pe_imp (pe_callB call_isiT hg hm (by decide +kernel) (pa_cons (ha W tk) (pa_cons (pe_tup h) pa_nil hs2) hs) (he := hs) (hpl := hpl)) fun σ H Q p => ?_
  refine (zt_bnd (ρ := rhoR) p).imp fun v H1 ⟨r, F, G, Mu, Γ, R, h1, q⟩ => ?_
  have hz : sizeLine = 16777216 := sizeLine_eq
  refine ⟨by rw [List.length_map]; omega, fun tp n => ?_⟩
  cases e1 : vl Γ r with
  | none => rw [e1] at q; exact q.elim
  | some x =>
    rw [e1] at q
    have r1 := R.read h1 e1
    have gh2 := same_updR (o := .tup (ts.map fun t => V.ty t.name)) R.gh (R.gh.free n)
    have r2 := r1.mono (same_upd (o := .tup (ts.map fun t => V.ty t.name)) n)
    dsimp only at q
    cases e2 : fIs ts x with
    | none => rw [e2] at q; exact q.elim
    | some z =>
    obtain ⟨hx, ez⟩ := fIs_nd e2
    subst ez
    rw [e2] at q
    refine ⟨v, tp, _, .type (tyD x), _, isTys x ts, rfl, upd_same, paired_cls ts, rdb_ty gh2 r2 hx, kit_Ds _ _ hx ts, ?_⟩
    exact q _ _ G (Same.refl _) (R.newX n) (show rhoD _ _ _ _ _ _ _ (.bool (isTys x ts)) (.bl (isTys x ts)) from .bl _)
end

def fCat : D → D → Option (List D)
  | .list xs, .list ys => if xs.length + ys.length ≤ sizeLine then some (xs ++ ys) else none
  | _, _ => none
section
variable {X : Cx}
theorem or_cat : OpR X (binaryOp .Add) (rO2 X.K fCat) := by
  intro pins s σ H x y v u Q I rx ry h
  obtain ⟨G, dx, dy, zs, gh, r1, r2, e, q⟩ := h
  unfold fCat at e
  split at e
  · split at e
    · rename_i hz
      cases e
      obtain ⟨l1, vs1, rfl, s1, d1⟩ := r1.list gh
      obtain ⟨l2, vs2, rfl, s2, d2⟩ := r2.list gh
      have n1 := dpa_length d1
      have n2 := dpa_length d2
      cases rx
      cases ry
      obtain ⟨its, ra, ⟨o1, k1, e1, c1, dn1, t1⟩, _⟩ := I.list s1
      obtain ⟨its2, rb, ⟨o2, k2, e2, c2, dn2, t2⟩, _⟩ := I.list s2
      have m1 := ra.length
      have m2 := rb.length
      obtain ⟨cls1, dd1, dt1, sl1⟩ := o1
      obtain ⟨cls2, dd2, dt2, sl2⟩ := o2
      simp only at c1 dn1 t1 c2 dn2 t2
      subst c1 dn1 t1 c2 dn2 t2
      have ea : its.toArray ++ its2.toArray = (its ++ its2).toArray := by simp
      refine concat_meets ⟨_, e1, rfl⟩ ⟨_, e2, rfl⟩ noFill_list_add seq_list_add PySem.F.slot_list_add PySem.F.entry_list_add (PySem.F.args_list_add_2 _ _)
        (list_addW l1 l2 its.toArray its2.toArray k1 k2 none none sl1 sl2 (by rw [List.size_toArray, List.size_toArray]; omega)) ⟨e1, e2, ?_⟩
      rw [ea]
      exact ⟨.ref _, _, I.lnew (t' := s.toks) (ra.append rb) (by rw [List.length_append]; omega), rfl, q _ _ I.fresh (dpa_append d1 d2)⟩
    · cases e
  · cases e
end
def fRep (xs : List D) (y : D) : Option (List D) := match y with
  | .int k => if -(2 ^ 63) ≤ k ∧ k < 2 ^ 63 ∧ xs.length * k.toNat ≤ sizeLine then some (List.replicate k.toNat xs).flatten else none
  | _ => none
def dRep (m : M (List D)) (n : M Rs) : M (List D) := bnd m fun xs => bnd n fun s => fun g => match vl g s with
  | none => .bad
  | some y => match fRep xs y with
    | none => .bad
    | some z => .ok z g
section
variable {X : Cx} {a b e : Expr} {pos : Pos}
end

def rgD (a b : Int) : List D := (List.range (b - a).toNat).map fun i => .int (a + (i : Nat))
theorem dpa_rg {K : PySem.W.Frag} {G : Hp} (a b : Int) : DqAll K G (rgV a b) (rgD a b) := by
  refine dpa_of_get (by unfold rgD rgV; rw [List.length_map, List.length_map]) fun i v d h1 h2 => ?_
  unfold rgV at h1
  unfold rgD at h2
  rw [List.getElem?_map] at h1 h2
  cases e : (List.range (b - a).toNat)[i]? with
  | none => rw [e] at h1; cases h1
  | some j =>
    rw [e] at h1 h2
    cases h1
    cases h2
    exact .int _
def okRg (a b : Int) : Bool := decide (-(2 ^ 62) ≤ a) && decide (a < 2 ^ 62) && decide (-(2 ^ 62) ≤ b) && decide (b < 2 ^ 62) && decide ((b - a).toNat ≤ 16777216)
theorem okRg_ok {a b : Int} (h : okRg a b = true) : RgOk a b := by
  unfold okRg at h
  simp only [Bool.and_eq_true, decide_eq_true_eq] at h
  exact ⟨h.1.1.1.1, h.1.1.1.2, h.1.1.2, h.1.2, h.2⟩
/-- the bounds of a range, as values -/
def rg1 (m : M Rs) : M (Int × Int) := bnd m fun r => fun g => match vl g r with
  | some (.int n) => .ok (0, n) g
  | _ => .bad
def rg2 (m n : M Rs) : M (Int × Int) := bnd m fun r => bnd n fun s => fun g => match vl g r, vl g s with
  | some (.int i), some (.int j) => .ok (i, j) g
  | _, _ => .bad
def rhoI : Rho (Int × Int) (Int × Int) := fun _ _ _ _ _ _ _ x y => x = y
def DRg (X : Cx) (e : Expr) (m : M (Int × Int)) : Prop := ∀ W, Takes X W → PRg X e (fun σ H Q => zt X W rhoI m σ H fun ij H1 => Q ij.1 ij.2 H1)
section
variable {X : Cx} {a b e : Expr} {p pos : Pos}
theorem rg2_run {W : WX} {σ : St} {H : Hp} {m n : M Rs} {Q : Int × Int → Hp → Prop} (q : zt X W rhoI (rg2 m n) σ H Q) : zt X W rhoR m σ H fun x H1 => zt X W rhoR n σ H1 fun y H2 => ∃ i j, x = .int i ∧ y = .int j ∧ Q (i, j) H2 := by
  refine (zt_bnd2 (ρ := rhoR) (ρ' := rhoR) stR q).imp fun v H1 q1 => q1.imp fun u H2 ⟨r, s, F, G, Mu, Γ, R, h1, h2, q2⟩ => ?_
  split at q2
  · rename_i i j e1 e2
    exact ⟨i, j, (R.read h1 e1).int, (R.read h2 e2).int, q2 _ H2 G (Same.refl _) R rfl⟩
  · exact q2.elim
theorem prg_imp {e : Expr} {t t' : St → Hp → (Int → Int → Hp → Prop) → Prop} (k : PRg X e t) (h : ∀ σ H Q, t' σ H Q → t σ H Q) : PRg X e t' := fun pins s σ H Q I q => k pins s σ H Q I (h σ H Q q)
theorem drg2 {m n : M Rs} (hg : Gl X "range") (hm : X.mg "range" = none) (ha : DV X a m) (hb : DV X b n) (na : starEach [a, b] X.env = (false, eval a X.env) :: starEach [b] X.env := by rfl)
    (nb : starEach [b] X.env = (false, eval b X.env) :: starEach [] X.env := by rfl) (hp : (backTo pos (starEach [b] X.env)).any (·.1) = false := by rfl) : DRg X (.Call (.Name "range" p) [a, b] [] pos) (rg2 m n) := fun W tk =>
  prg_imp (prg_2 hg hm (ha W tk) (hb W tk) na nb hp) fun _ _ _ q => rg2_run q
def dLstRg (m : M (Int × Int)) : M (List D) := bnd m fun ij => if okRg ij.1 ij.2 then rt (rgD ij.1 ij.2) else fun _ => .bad
def dTupRg (m : M (Int × Int)) : M D := bnd m fun ij => if okRg ij.1 ij.2 then rt (.tuple (rgD ij.1 ij.2)) else fun _ => .bad
theorem do_lstRg {m : M (Int × Int)} (hc : X.calm = true) (hg : Gl X "list") (hm : X.mg "list" = none) (he : DRg X e m) (na : starEach [e] X.env = (false, eval e X.env) :: starEach [] X.env := by rfl) : DO X (.Call (.Name "list" p) [e] [] pos) (dLstRg m) := fun W tk => by
  refine pe_imp (pe_listRg hc hg hm (he W tk) na) fun σ H Q q => ?_
  refine (zt_bnd (ρ := rhoI) q).imp fun v H1 ⟨r, F, G, Mu, Γ, R, h1, q2⟩ => ?_
  have e0 : r = v := h1
  subst e0
  split at q2
  · rename_i hk
    refine ⟨okRg_ok hk, fun l n => ?_⟩
    obtain ⟨R', o⟩ := R.newO n (dpa_rg r.1 r.2)
    exact q2 _ _ G (Same.refl _) R' o
  · exact q2.elim
theorem dp_tupRg {m : M (Int × Int)} (hc : X.calm = true) (hg : Gl X "tuple") (hm : X.mg "tuple" = none) (he : DRg X e m) (na : starEach [e] X.env = (false, eval e X.env) :: starEach [] X.env := by rfl) : DP X (.Call (.Name "tuple" p) [e] [] pos) (dTupRg m) := fun W tk => by
  refine pe_imp (pe_tupRgZ hc hg hm (he W tk) na) fun σ H Q q => ?_
  refine (zt_bnd (ρ := rhoI) q).imp fun v H1 ⟨r, F, G, Mu, Γ, R, h1, q2⟩ => ?_
  have e0 : r = v := h1
  subst e0
  split at q2
  · rename_i hk
    refine ⟨okRg_ok hk, fun l o n ho => ?_⟩
    have E := Ext.new (o := .frz o (.tup (rgV r.1 r.2))) R.gh n
    exact q2 _ _ _ E.g (R.ext E) (show rhoD _ _ _ _ _ _ _ (.tuple (rgD r.1 r.2)) _ from .tup (.new ho) (dpa_rg _ _))
  · exact q2.elim
end

def isIntD (k : Int) : D → Bool
  | .int i => i == k
  | _ => false
def ixOf (k : Int) : List Int → Option Nat
  | [] => none
  | n :: r => if n = k then some 0 else (ixOf k r).map (· + 1)
section
variable {X : Cx}
end
end Z

set_option Elab.async false
set_option linter.all false
set_option maxRecDepth 100000
set_option autoImplicit false
set_option maxHeartbeats 1000000
namespace Z
open PySem PySem.Spec PyProof.Rows L2

section
variable {prog : Program} {w : World} {A : Around} {E : Value → Shared → Prop} {s : Shared}
theorem back_places (n : Nat) : Builtin.Slice.slicePlaces ((n : Int) - 1) (-1) (-1) = n := by
  unfold Builtin.Slice.slicePlaces
  have h1 : ¬ ((-1 : Int) > 0) := by decide
  simp only [h1, if_false]
  split
  · rw [show (- -1 : Int) = 1 by decide, Int.ediv_one]
    omega
  · omega
theorem fm_congr {α β : Type} {f g : α → Option β} : ∀ (l : List α), (∀ x ∈ l, f x = g x) → l.filterMap f = l.filterMap g
  | [], _ => rfl
  | x :: l, h => by
    rw [List.filterMap_cons, List.filterMap_cons, h x List.mem_cons_self, fm_congr l fun y hy => h y (List.mem_cons_of_mem _ hy)]
theorem back_adjust (n : Nat) : Builtin.Slice.sliceAdjust none none (-1) (n : Int) = ((n : Int) - 1, -1) := by
  first
  | rfl
  | (unfold Builtin.Slice.sliceAdjust; simp)
theorem back_applied {sl : Addr} {t : Tok} {n : Nat} {Q : Int × Int × Nat → Shared → Prop} (hs : s.heap.IsSliceOf sl .none .none (.int (-1) t))
    (h : Q ((n : Int) - 1, -1, n) s) : wpAny (model prog w) A (Builtin.Slice.sliceApplied (.ref sl) (pure (n : Int))) Q E s := by
  obtain ⟨ob, hob, _, hfd⟩ := id hs
  unfold Builtin.Slice.sliceApplied Builtin.Slice.sliceFields
  refine wpAny_bind (wpAny_bind (wpAny_field hob hfd (x := .none) rfl (wpAny_bind (wpAny_field hob hfd (x := .none) rfl (wpAny_bind (wpAny_field hob hfd (x := .int (-1) t) rfl (wpAny_pure ?_)))))))
  refine wpAny_bind (HT.slicePart_ (.int (-1) t) ?_)
  show wpAny _ _ (if ((-1 : Int) == 0) = true then _ else _) _ _ s
  rw [if_neg (by decide)]
  refine wpAny_bind (HT.slicePart_ .none (wpAny_bind (HT.slicePart_ .none (wpAny_bind (wpAny_pure ?_)))))
  show wpAny _ _ (match Builtin.Slice.sliceAdjust none none (-1) (n : Int) with | (lo, hi) => pure (lo, (-1 : Int), Builtin.Slice.slicePlaces lo hi (-1))) _ _ s
  rw [back_adjust n]
  show wpAny _ _ (pure ((n : Int) - 1, (-1 : Int), Builtin.Slice.slicePlaces ((n : Int) - 1) (-1) (-1))) _ _ s
  rw [back_places]
  exact wpAny_pure h
theorem back_pick (xs : Array Value) : ((List.range xs.size).filterMap fun (m : Nat) => xs[(((xs.size : Int) - 1) + (m : Int) * (-1)).toNat]?).toArray = xs.toList.reverse.toArray := by
  have h : ((List.range xs.size).filterMap fun (m : Nat) => xs[(((xs.size : Int) - 1) + (m : Int) * (-1)).toNat]?) = xs.toList.reverse := by
    rw [← PySem.W.krv_all xs, ← List.filterMap_reverse, ← PySem.W.krv_range, List.filterMap_map]
    refine fm_congr _ fun m hm => ?_
    have := List.mem_range.mp hm
    show xs[(((xs.size : Int) - 1) + (m : Int) * (-1)).toNat]? = xs[xs.size - 1 - m]?
    rw [show (((xs.size : Int) - 1) + (m : Int) * (-1)).toNat = xs.size - 1 - m by omega]
  rw [h]
theorem back_tuple {t sl : Addr} {items : Array Value} {tk : Tok} {Q : Value → Shared → Prop} (ht : IsTup s.heap t items) (hs : s.heap.IsSliceOf sl .none .none (.int (-1) tk))
    (h : Q (.ref s.heap.objs.size) { s with heap := s.heap.push { cls := .type "tuple", data := .seq items.toList.reverse.toArray } }) (hsz : items.size ≤ sizeLine) : wpAny (model prog w) A (getItem (.ref t) (.ref sl)) Q E s := by
  have hfit : sizeOk (.seq items.toList.reverse.toArray) := by
    show items.toList.reverse.toArray.size ≤ sizeLine
    rw [List.size_toArray, List.length_reverse, Array.length_toList]
    exact hsz
  obtain ⟨ob, hob, hcb, _⟩ := id hs
  have hTs : s.TypeIs (.ref sl) "slice" := ⟨ob, hob, hcb⟩
  unfold getItem
  try with_reducible refine wpAny_holding ?_
  first | refine wpAny_bind (wpAny_pure ?_) | skip
  refine wpAny_bind (wpAny_sequenceKey ht.typeIs (by decide) (wpAny_bind (wpAny_callSpecial?_slot (name := Str.ofString "__getitem__") ht.typeIs PyProof.Rows.slot_tuple_getitem
    (wpAny_call_entry PyProof.Rows.slot_tuple_getitem ht.typeIs entry_tuple_getitem ?_ (args_tuple_getitem _ _)))))
  show wpAny _ _ (Builtin.Tuple.tupleItemsOf (.ref t) >>= _) _ _ s
  refine wpAny_bind (tupleItemsOf_ ht (wpAny_bind (wpAny_typeOf hTs ?_)))
  rw [if_pos (by decide)]
  refine wpAny_bind (back_applied hs ?_)
  have hno : ¬ ((((items.size : Int) - 1) == 0 && (-1 : Int) == 1 && items.size == items.size) = true) := by simp
  show wpAny _ _ (if (((items.size : Int) - 1) == 0 && (-1 : Int) == 1 && items.size == items.size) = true then _ else _) _ _ s
  rw [if_neg hno, back_pick]
  first
    | exact wpAny_bind (m := Builtin.Tuple.tupleExact _) (wpAny_newObj_type (wpAny_pure ⟨_, rfl, wpAny_pure h⟩) hfit)
    | exact wpAny_bind (m := Builtin.Tuple.tupleExact _) (wpAny_newObj_type (wpAny_bind (wpAny_pure (wpAny_pure ⟨_, rfl, wpAny_pure h⟩))) hfit)
    | exact wpAny_bind (wpAny_bind (m := Builtin.Tuple.tupleExact _) (wpAny_newObj_type (wpAny_pure (wpAny_pure ⟨_, rfl, wpAny_pure h⟩)) hfit))
    | exact wpAny_bind (wpAny_bind (m := Builtin.Tuple.tupleExact _) (wpAny_newObj_type (wpAny_pure ⟨_, rfl, wpAny_pure h⟩) hfit))
end
def fBack : D → Option D
  | .tuple xs => some (.tuple xs.reverse)
  | _ => none
def fBackL : D → Option (List D)
  | .list xs => some xs.reverse
  | _ => none
def op1o (f : D → Option (List D)) (m : M Rs) : M (List D) := bnd m fun r => fun g => match vl g r with
  | none => .bad
  | some x => match f x with
    | none => .bad
    | some z => .ok z g
section
variable {X : Cx} {e : Expr} {k : Nat} {p1 p2 p3 pos : Pos}
theorem dp_back {m : M Rs} (h : DV X e m) : DP X (.Subscript e (.Slice none none (some (.UnaryOp .USub (.Constant (.int 1) k p1) p2)) p3) pos) (op1 fBack m) := fun W tk => by
  refine ⟨fun pins s σ H Q I hq => Subscript_ (thn ((h W tk).run pins s σ H _ I (op1_run hq)) fun v s1 ⟨x, H1, I1, r1, G, dx, z, gh, rd, e, q⟩ => ?_)⟩
  have hst : PO X (some (.UnaryOp .USub (.Constant (.int 1) k p1) p2)) (tPart (tUn (rU fun i => .int (-i)) (tC (.int 1)))) := po_some (pe_un un_neg pe_int)
  refine wpAny_Slice (thn (po_none.run pins s1 σ H1 (fun o H2 => o = none ∧ H2 = H1) I1 ⟨rfl, rfl⟩) fun vl s2 ⟨l, H2, I2, pl, el, e2⟩ => ?_)
  subst el e2
  refine thn (po_none.run pins s2 σ H2 (fun o H3 => o = none ∧ H3 = H2) I2 ⟨rfl, rfl⟩) fun vu s3 ⟨u, H3, I3, pu, eu, e3⟩ => ?_
  subst eu e3
  refine thn (hst.run pins s3 σ H3 (fun o H4 => o = some (-1) ∧ H4 = H3) I3 ⟨1, rfl, -1, rfl, rfl, rfl⟩) fun vs s4 ⟨o, H4, I4, ps, eo, e4⟩ => ?_
  subst eo e4
  cases pl
  cases pu
  cases ps with
  | int i t =>
    have I5 : L2.Inv X pins σ H4 { s4 with heap := s4.heap.push { cls := .type "slice", data := .fields #[.none, .none, .int (-1) t] } } := I4.kept (t' := s4.toks) fun b ob q => Heap.get?_push_of_some _ q
    cases dx with
    | tuple xs =>
      cases e
      obtain ⟨a, ws, rfl, s1', d1⟩ := rd.tup gh
      cases r1
      obtain ⟨its, r, ht, hz⟩ := I5.tuple s1'.sq
      show wpAny (model X.prog X.w) X.A (subscriptTail e (.Slice none none (some (.UnaryOp .USub (.Constant (.int 1) k p1) p2)) p3) (.ref a) (.ref s4.heap.objs.size)) (EP X pins σ Q) X.xe { s4 with heap := s4.heap.push { cls := .type "slice", data := .fields #[.none, .none, .int (-1) t] } }
      refine tail_any (ops := [.ref a, .ref s4.heap.objs.size]) ht.typeIs PyProof.Rows.slot_tuple_getitem.lookup ?_ (by with_unfolding_all rfl)
      refine back_tuple ht (Heap.IsSliceOf.new ..) ?_ (by rw [List.size_toArray, ← r.length]; exact hz)
      have er : (its.toArray.toList.reverse.toArray) = its.reverse.toArray := by simp
      rw [er]
      refine tryNew I5 r.reverse (by rw [List.length_reverse]; exact hz) fun p o n ho => ?_
      have E := Ext.new (o := .frz o (.tup ws.reverse)) gh n
      exact q _ _ _ E (.tup (.new ho) (dpAll_mono E.g _ _ (dpa_reverse d1)))
    | _ => cases e
theorem do_backL {m : M Rs} (h : DV X e m) : DO X (.Subscript e (.Slice none none (some (.UnaryOp .USub (.Constant (.int 1) k p1) p2)) p3) pos) (op1o fBackL m) := fun W tk => by
  refine pe_imp (pe_revL (h W tk)) fun σ H Q q => ?_
  refine (zt_bnd (ρ := rhoR) q).imp fun v H1 ⟨r, F, G, Mu, Γ, R, h1, q2⟩ => ?_
  cases e1 : vl Γ r with
  | none => rw [e1] at q2; exact q2.elim
  | some x =>
    rw [e1] at q2
    cases x with
    | list xs =>
      obtain ⟨a, ws, rfl, s1', d1⟩ := (R.read h1 e1).list R.gh
      refine ⟨a, ws, rfl, s1', fun l n => ?_⟩
      obtain ⟨R', o⟩ := R.newO n (dpa_reverse d1)
      exact q2 _ _ G (Same.refl _) R' o
    | _ => exact q2.elim
end

section
variable {X : Cx} {o e : Expr} {apos cpos : Pos} {to : TE} {t : TA} {es : List Expr} {name : Str} {id : String} {r : V → List V → Hp → VK → Prop}
def fIxT : D → D → Option D
  | .tuple xs, .int k => match toInts xs with
    | some ns => (ixOf k ns).map fun j => .int (j : Nat)
    | none => none
  | _, _ => none
/-- the receiver is looked at ahead of the argument -/
def dIndexT (m n : M Rs) : M D := bnd m fun r => fun g => match vl g r with
  | some (.tuple _) => op2 fIxT (rt r) n g
  | _ => .bad
end
end Z

set_option Elab.async false
set_option linter.all false
set_option maxRecDepth 100000
set_option autoImplicit false
set_option maxHeartbeats 1000000
namespace Z
open PySem PySem.Spec PyProof.Rows L2

def dMut (i : Nat) (f : List D → List D → Option (List D × D)) (m : M (List D)) : M D := fun g => match g[i]? with
  | some (.own _ _) => bnd m (fun args => fun g' => match g'[i]? with
    | some (.own b xs) => match f xs args with
      | some (ys, r) => .ok r (g'.set i (.own b ys))
      | none => .bad
    | _ => .bad) g
  | _ => .bad
def rMut (K : PySem.W.Frag) (f : List D → List D → Option (List D × D)) : V → List V → Hp → VK → Prop := fun x vs H Q => ∃ l us xs args ys r G, x = .ref l ∧ H l = some (.lst us) ∧ DqAll K G us xs ∧ DqAll K G vs args ∧ f xs args = some (ys, r) ∧ Same G H ∧
  ∀ us' v, DqAll K G us' ys → Dq K G v r → Q v (upd H l (.lst us'))
def mAppend (xs : List D) (as : List D) : Option (List D × D) := match as with
  | [y] => if xs.length < sizeLine then some (xs ++ [y], .none) else none
  | _ => none
def mInsert (xs : List D) (as : List D) : Option (List D × D) := match as with
  | [.int i, y] => if xs.length < sizeLine ∧ 0 ≤ i ∧ i < 2 ^ 63 then some (xs.take i.toNat ++ [y] ++ xs.drop i.toNat, .none) else none
  | _ => none
theorem dpa_two {K : PySem.W.Frag} {G : Hp} {vs : List V} {x y : D} (h : DqAll K G vs [x, y]) : ∃ v u, vs = [v, u] ∧ Dq K G v x ∧ Dq K G u y := by
  cases h with
  | cons a b =>
    cases b with
    | cons c d =>
      cases d
      exact ⟨_, _, rfl, a, c⟩
theorem dpa_one {K : PySem.W.Frag} {G : Hp} {vs : List V} {x : D} (h : DqAll K G vs [x]) : ∃ v, vs = [v] ∧ Dq K G v x := by
  cases h with
  | cons a b =>
    cases b
    exact ⟨_, rfl, a⟩
section
variable {X : Cx}
theorem mr_append : MtR X "list.append" (rMut X.K mAppend) := by
  intro pins s σ H x vs v us Q I rx rv h
  obtain ⟨l, ws, xs, args, ys, r, G, rfl, hl, d1, d2, e, gh, q⟩ := h
  unfold mAppend at e
  split at e
  · split at e
    · rename_i hz
      cases e
      obtain ⟨w, rfl, d3⟩ := dpa_one d2
      refine mt_append pins s σ H _ _ v us Q I rx rv ⟨l, ws, w, rfl, rfl, hl, by rw [dpa_length d1]; exact hz, ?_⟩
      exact q _ _ (dpa_append d1 (.cons d3 .nil)) .non
    · cases e
  · cases e
theorem mr_insert : MtR X "list.insert" (rMut X.K mInsert) := by
  intro pins s σ H x vs v us Q I rx rv h
  obtain ⟨l, ws, xs, args, ys, r, G, rfl, hl, d1, d2, e, gh, q⟩ := h
  unfold mInsert at e
  split at e
  · split at e
    · rename_i hz
      cases e
      obtain ⟨w1, w2, rfl, d3, d4⟩ := dpa_two d2
      cases d3
      refine mt_insert pins s σ H _ _ v us Q I rx rv ⟨l, ws, _, w2, rfl, rfl, hl, by rw [dpa_length d1]; exact hz.1, hz.2.1, hz.2.2, ?_⟩
      exact q _ _ (dpa_append (dpa_append (dpa_take _ d1) (.cons d4 .nil)) (dpa_drop _ d1)) .non
    · cases e
  · cases e
end
section
variable {X : Cx} {e : Expr} {es : List Expr} {apos cpos p : Pos} {x name : Str} {id : String} {i : Nat} {f : List D → List D → Option (List D × D)}
theorem mut_end {W : WX} {σ : St} {F : Fr} {G H : Hp} {Mu : Option Addr} {Γ : En} {Q : VK} {args : List D} {vs : List V} {l : Addr} (R : Rel X.K F G Mu Γ σ H) (hv : DqAll X.K G vs args) (hl : σ[i]? = some (some (.ref l)))
    (q : zpost X W σ rhoD F G Mu Q (match Γ[i]? with
      | some (.own b xs) => match f xs args with
        | some (ys, r) => .ok r (Γ.set i (.own b ys))
        | none => .bad
      | _ => .bad)) : rMut X.K f (.ref l) vs H Q := by
  split at q
  · rename_i b xs hg
    split at q
    · rename_i ys r hf
      obtain ⟨l', us, h1, h2, h3, h4, h5, h6, h7, ho⟩ := R.owned hg
      rw [hl] at h1
      cases h1
      exact ⟨l, us, xs, args, ys, r, G, rfl, h2, h3, hv, hf, R.gh, fun us' v k1 k2 => q v _ G (Same.refl _) (R.change hg hl k1) k2⟩
    · exact q.elim
  · exact q.elim
theorem dp_mut {m : M (List D)} (hN : X.N[i]? = some x) (hv : Vis X.env.scope x) (slot : Slot "list" name id) (hty : typeOf (.builtin id) = pure (.type "method_descriptor")) (hm : MtR X id (rMut X.K f)) (ha : DPs X (e :: es) m)
    (hd : (x == ("__debug__" : Str)) = false := by decide) (hcd : (x == ("__classdict__" : Str)) = false := by decide)
    (hbase : attributeBase (.Name x p) name X.env (eval (.Name x p) X.env) = eval (.Name x p) X.env := by rfl)
    (hfew : ((backTo cpos (starEach (e :: es) X.env)).all (fun x => !x.1) && (backToKw cpos (keywordEach [] X.env)).all (fun x => x.1.isSome)
      && decide ((e :: es).length + ([] : List Keyword).length + (if ([] : List Keyword).isEmpty then 0 else 1) < 30)) = true := by rfl)
    (hline : (apos.endLine == cpos.line) = true := by rfl) (hs : starEach (e :: es) X.env = (false, eval e X.env) :: starEach es X.env := by rfl) (hplain : (backTo cpos (starEach es X.env)).any (·.1) = false := by rfl) :
    DP X (.Call (.Attribute (.Name x p) name apos) (e :: es) [] cpos) (dMut i f m) := fun W tk => by
  refine pe_imp (pe_bm PySem.F.plainAttrs_list slot hty hm (pe_var hN hv hd hcd) (ha W tk) hbase hfew hline hs hplain) fun σ H Q ⟨F, G, Mu, Γ, R, q⟩ => ?_
  unfold dMut at q
  split at q
  · rename_i b xs hg
    obtain ⟨l, us, h1, h2, h3, h4, h5, h6, h7, ho⟩ := R.owned hg
    refine ⟨_, h1, .inl ⟨rfl, us, .of h2⟩, F, G, Mu, Γ, R, ?_⟩
    unfold bnd at q
    dsimp only at q
    cases e1 : m Γ with
    | bad => rw [e1] at q; exact q
    | ex c y Γ1 => rw [e1] at q; exact q
    | ok args Γ1 =>
      rw [e1] at q
      intro vs H1 G1 k1 R1 k2
      exact mut_end (W := W) R1 k2 h1 (q.rebase k1)
  · exact q.elim
end
end Z

set_option Elab.async false
set_option linter.all false
set_option maxRecDepth 100000
set_option autoImplicit false
set_option maxHeartbeats 1000000
namespace Z
open PySem PySem.Spec PyProof.Rows L2

inductive Rt where
  | d (x : D)
  | own (xs : List D)
inductive Fl where
  | nx
  | rt (r : Rt)
  | bk
  | ct
def rhoT : Rho Rt V := fun K F G Mu Γ σ H r v => match r with
  | .d x => Dq K G v x
  | .own xs => rhoO K F G Mu Γ σ H xs v
def spost (X : Cx) (W : WX) (F : Fr) (G : Hp) (Mu : Option Addr) (D : Ends) (o : Ro Fl) : Prop := match o with
  | .bad => False
  | .ok .nx Γ' => ∀ σ' H' G', Same G G' → Rel X.K F G' Mu Γ' σ' H' → D.nx σ' H'
  | .ok (.rt r) Γ' => ∀ v σ' H' G', Same G G' → Rel X.K F G' Mu Γ' σ' H' → rhoT X.K F G' Mu Γ' σ' H' r v → D.rt v H'
  | .ok .bk Γ' => ∀ σ' H' G', Same G G' → Rel X.K F G' Mu Γ' σ' H' → D.bk σ' H'
  | .ok .ct Γ' => ∀ σ' H' G', Same G G' → Rel X.K F G' Mu Γ' σ' H' → D.ct σ' H'
  | .ex c x Γ' => ∀ C a v σ' H' G', X.mg c = some (.ref C) → Same G G' → Rel X.K F G' Mu Γ' σ' H' → H' a = some (.xd [("value", v)]) → Dq X.K G' v x → W (.ref C) (some a) σ' H'
def st (X : Cx) (W : WX) (m : M Fl) : TS := fun D σ H => ∃ F G Mu Γ, Rel X.K F G Mu Γ σ H ∧ spost X W F G Mu D (m Γ)
def DS (X : Cx) (s : Stmt) (m : M Fl) : Prop := ∀ W, Takes X W → PS X s (st X W m)
def DSs (X : Cx) (ss : List Stmt) (m : M Fl) : Prop := ∀ W, Takes X W → PSs X ss (st X W m)
def dSeq (a b : M Fl) : M Fl := fun g => match a g with
  | .ok .nx g' => b g'
  | o => o
def sNx : M Fl := fun g => .ok .nx g
def sBk : M Fl := fun g => .ok .bk g
def sCt : M Fl := fun g => .ok .ct g
section
variable {X : Cx} {W : WX} {F : Fr} {G G' : Hp} {Mu : Option Addr} {D D' : Ends}
theorem spost.rebase {o : Ro Fl} (e : Same G G') (p : spost X W F G Mu D o) : spost X W F G' Mu D o := by
  cases o with
  | bad => exact p
  | ok r Γ' =>
    cases r with
    | nx => exact fun σ' H' G2 h => p σ' H' G2 (e.trans h)
    | rt r => exact fun v σ' H' G2 h => p v σ' H' G2 (e.trans h)
    | bk => exact fun σ' H' G2 h => p σ' H' G2 (e.trans h)
    | ct => exact fun σ' H' G2 h => p σ' H' G2 (e.trans h)
  | ex c x Γ' => exact fun C a v σ' H' G2 h1 h2 => p C a v σ' H' G2 h1 (e.trans h2)
end
section
variable {X : Cx} {s : Stmt} {ss : List Stmt} {e c : Expr} {pos : Pos}
theorem dss_nil : DSs X [] sNx := fun W _ => pss_imp pss_nil fun D σ H ⟨F, G, Mu, Γ, R, p⟩ => p σ H G (Same.refl _) R
theorem dss_cons {m n : M Fl} (h : DS X s m) (k : DSs X ss n) : DSs X (s :: ss) (dSeq m n) := fun W tk => pss_imp (pss_cons (h W tk) (k W tk)) fun D σ H ⟨F, G, Mu, Γ, R, p⟩ => by
  refine ⟨F, G, Mu, Γ, R, ?_⟩
  unfold dSeq at p
  cases e1 : m Γ with
  | bad => rw [e1] at p; exact p
  | ex c x Γ' => rw [e1] at p; exact p
  | ok r Γ' =>
    rw [e1] at p
    cases r with
    | nx => exact fun σ' H' G' h R' => ⟨F, G', Mu, Γ', R', p.rebase h⟩
    | rt r => exact p
    | bk => exact p
    | ct => exact p
theorem dss_one {m : M Fl} (h : DS X s m) : DSs X [s] m := fun W tk => pss_one (h W tk)
theorem ds_continue : DS X (.Continue pos) sCt := fun W _ => ps_imp ps_continue fun D σ H ⟨F, G, Mu, Γ, R, p⟩ => p σ H G (Same.refl _) R
theorem st_bnd {α β : Type} {ρ : Rho α β} {W : WX} {σ : St} {H : Hp} {D : Ends} {m : M α} {f : α → M Fl} (p : st X W (bnd m f) D σ H) : zt X W ρ m σ H fun v H1 => ∃ r F G Mu Γ, Rel X.K F G Mu Γ σ H1 ∧ ρ X.K F G Mu Γ σ H1 r v ∧ spost X W F G Mu D (f r Γ) := by
  obtain ⟨F, G, Mu, Γ, R, q⟩ := p
  refine ⟨F, G, Mu, Γ, R, ?_⟩
  unfold bnd at q
  cases e : m Γ with
  | bad => rw [e] at q; exact q
  | ok r Γ1 =>
    rw [e] at q
    exact fun v H1 G1 h1 R1 h2 => ⟨r, F, G1, Mu, Γ1, R1, h2, q.rebase h1⟩
  | ex c x Γ1 =>
    rw [e] at q
    exact fun C a v H' G' => q C a v σ H' G'
def sExpr (m : M D) : M Fl := bnd m fun _ => sNx
def sRet (m : M D) : M Fl := bnd m fun x => fun g => .ok (.rt (.d x)) g
def sRetO (m : M (List D)) : M Fl := bnd m fun x => fun g => .ok (.rt (.own x)) g
def sRetN : M Fl := fun g => .ok (.rt (.d .none)) g
def sSet (i : Nat) (m : M D) : M Fl := bnd m fun x => fun g => .ok .nx (g.set i (.d x))
def sSetO (i : Nat) (m : M (List D)) : M Fl := bnd m fun x => fun g => .ok .nx (g.set i (.own false x))
def sIf (t : M Bool) (a b : M Fl) : M Fl := bnd t fun k => if k = true then a else b
theorem ds_expr {m : M D} (h : DP X e m) (hs : swapsWith e none pos.line X.env = pure false := by rfl) : DS X (.Expr e pos) (sExpr m) := fun W tk => ps_imp (ps_expr (h W tk) hs) fun D σ H p =>
  (st_bnd (ρ := rhoD) p).imp fun v H1 ⟨r, F, G, Mu, Γ, R, _, q⟩ => q σ H1 G (Same.refl _) R
theorem ds_ret {m : M D} (h : DP X e m) : DS X (.Return (some e) pos) (sRet m) := fun W tk => ps_imp (ps_ret (h W tk)) fun D σ H p =>
  (st_bnd (ρ := rhoD) p).imp fun v H1 ⟨r, F, G, Mu, Γ, R, h1, q⟩ => q v σ H1 G (Same.refl _) R h1
theorem ds_retO {m : M (List D)} (h : DO X e m) : DS X (.Return (some e) pos) (sRetO m) := fun W tk => ps_imp (ps_ret (h W tk)) fun D σ H p =>
  (st_bnd (ρ := rhoO) p).imp fun v H1 ⟨r, F, G, Mu, Γ, R, h1, q⟩ => q v σ H1 G (Same.refl _) R h1
/-- return of a name that holds a list of one's own: it is the caller's -/
def sRetV (i : Nat) : M Fl := fun g => match g[i]? with
  | some (.own false xs) => .ok (.rt (.own xs)) (g.set i .u)
  | some (.d x) => .ok (.rt (.d x)) g
  | _ => .bad
theorem ds_retV {i : Nat} {x : Str} {p : Pos} (hN : X.N[i]? = some x) (hv : Vis X.env.scope x) (hd : (x == ("__debug__" : Str)) = false := by decide) (hcd : (x == ("__classdict__" : Str)) = false := by decide) : DS X (.Return (some (.Name x p)) pos) (sRetV i) := fun W _ =>
  ps_imp (ps_ret (pe_var hN hv hd hcd)) fun D σ H ⟨F, G, Mu, Γ, R, q⟩ => by
    unfold sRetV at q
    split at q
    · rename_i xs hg
      obtain ⟨l, us, h1, h2, h3, h4, h5, h6, h7, ho⟩ := R.owned hg
      have e : σ.set i (σ[i]?.join) = σ := by
        rw [h1]
        exact List.ext_getElem? fun j => by
          by_cases hj : i = j
          · subst hj
            have hi := (List.getElem?_eq_some_iff.mp h1).1
            rw [List.getElem?_set_self hi, h1]
            rfl
          · rw [List.getElem?_set_ne hj]
      have R' := R.forget i (o := σ[i]?.join)
      rw [e] at R'
      refine ⟨_, h1, q _ σ H G (Same.refl _) R' ⟨l, us, rfl, h2, h3, h4, h5, h7 rfl, fun j hj => ?_⟩⟩
      obtain ⟨k1, k2⟩ := owns_set hj rfl
      exact k2 (R.sep j i l k1 ho)
    · rename_i y hg
      obtain ⟨v, h1, h2⟩ := R.data hg
      exact ⟨v, h1, q v σ H G (Same.refl _) R h2⟩
    · exact q.elim
theorem ds_if {t : M Bool} {m n : M Fl} {a b : List Stmt} (hc : DT X c t) (ha : DSs X a m) (hb : DSs X b n) : DS X (.If c a b pos) (sIf t m n) := fun W tk => ps_imp (ps_if (hc W tk) (ha W tk) (hb W tk)) fun D σ H p =>
  (st_bnd (ρ := rhoB) p).imp fun v H1 ⟨r, F, G, Mu, Γ, R, h1, q⟩ => by
    have e0 : r = v := h1
    subst e0
    cases r with
    | true => exact ⟨F, G, Mu, Γ, R, q⟩
    | false => exact ⟨F, G, Mu, Γ, R, q⟩
variable {i : Nat} {x : Str} {pos' : Pos}
theorem ds_set {m : M D} (hN : X.N.Nodup) (hi : X.N[i]? = some x) (hx : Loc X.env.scope x) (h : DP X e m) (hs : swapsWith e (some (.Name x pos')) pos.line X.env = pure false := by rfl)
    (hf : X.fn x = true ∨ X.env.scope.names.lookup x = some .local := by first | exact .inl rfl | exact .inr rfl | assumption) : DS X (.Assign [.Name x pos'] e pos) (sSet i m) := fun W tk =>
  ps_imp (ps_set hN hi hx (h W tk) hs hf) fun D σ H p => (st_bnd (ρ := rhoD) p).imp fun v H1 ⟨r, F, G, Mu, Γ, R, h1, q⟩ =>
    q _ H1 G (Same.refl _) (R.store (sv := .d r) ⟨v, rfl, h1⟩ fun z => nomatch z)
theorem Rel.storeO {K : PySem.W.Frag} {F : Fr} {G H : Hp} {Mu : Option Addr} {Γ : En} {σ : St} {xs : List Z.D} {v : V} (R : Rel K F G Mu Γ σ H) (h : rhoO K F G Mu Γ σ H xs v) (i : Nat) : Rel K F G Mu (Γ.set i (.own false xs)) (σ.set i (some v)) H := by
  obtain ⟨l, vs, rfl, h1, h2, h3, h4, h5, h6⟩ := h
  exact R.store (sv := .own false xs) ⟨l, vs, rfl, h1, h2, h3, h4, (fun z => nomatch z), fun _ => h5⟩ fun _ j l' e ho => by
    cases e
    exact absurd ho (h6 j)
theorem ds_setO {m : M (List Z.D)} (hN : X.N.Nodup) (hi : X.N[i]? = some x) (hx : Loc X.env.scope x) (h : DO X e m) (hs : swapsWith e (some (.Name x pos')) pos.line X.env = pure false := by rfl)
    (hf : X.fn x = true ∨ X.env.scope.names.lookup x = some .local := by first | exact .inl rfl | exact .inr rfl | assumption) : DS X (.Assign [.Name x pos'] e pos) (sSetO i m) := fun W tk =>
  ps_imp (ps_set hN hi hx (h W tk) hs hf) fun D σ H p => (st_bnd (ρ := rhoO) p).imp fun v H1 ⟨r, F, G, Mu, Γ, R, h1, q⟩ => q _ H1 G (Same.refl _) (R.storeO h1 i)
/-- xs[k] = v, xs a name's own list -/
def sSub (i : Nat) (m : M Z.D) (k : M Rs) : M Fl := bnd m fun y => fun g => match g[i]? with
  | some (.own _ _) => bnd k (fun s => fun g' => match g'[i]?, vl g' s with
    | some (.own b xs), some (.int n) => match ixN xs.length n with
      | some j => .ok .nx (g'.set i (.own b (xs.set j y)))
      | none => .bad
    | _, _ => .bad) g
  | _ => .bad
theorem ds_sub {m : M Z.D} {k : M Rs} {ix : Expr} {pn ps : Pos} (hi : X.N[i]? = some x) (hv : Vis X.env.scope x) (he : DP X e m) (hk : DV X ix k) (hd : (x == ("__debug__" : Str)) = false := by decide) (hcd : (x == ("__classdict__" : Str)) = false := by decide)
    (ha : ∀ v, assign (.Subscript (.Name x pn) ix ps) X.env v = (do
      let ov ← holding [v] (eval (.Name x pn) X.env)
      let iv ← holding [v, ov] (eval ix X.env)
      standAt ps
      holding [v, ov, iv] (setItem ov iv v)
      release [v, ov, iv] []) := by intro _; rfl) (hs : swapsWithSole [.Subscript (.Name x pn) ix ps] e pos.line X.env = pure false := by rfl) (hw : swappedStores [.Subscript (.Name x pn) ix ps] e X.env = pure none := by rfl)
    (h1 : (assignEach [.Subscript (.Name x pn) ix ps] X.env).map (·.2) = [assign (.Subscript (.Name x pn) ix ps) X.env] := by rfl) : DS X (.Assign [.Subscript (.Name x pn) ix ps] e pos) (sSub i m k) := fun W tk =>
  ps_imp (ps_asg (he W tk) (pg_sub (pe_var hi hv hd hcd) (hk W tk) set_list ha) hs hw h1) fun D σ H p => (st_bnd (ρ := rhoD) p).imp fun v H1 ⟨y, F, G, Mu, Γ, R, d1, q⟩ => by
    split at q
    · rename_i b xs hg
      obtain ⟨l, us, j1, j2, j3, j4, j5, j6, j7, jo⟩ := R.owned hg
      refine ⟨_, j1, F, G, Mu, Γ, R, ?_⟩
      unfold bnd at q
      cases e1 : k Γ with
      | bad => rw [e1] at q; exact q
      | ex c z Γ1 =>
        rw [e1] at q
        exact fun C a v H' G' => q C a v σ H' G'
      | ok s Γ1 =>
        rw [e1] at q
        intro u H2 G2 k1 R2 k2
        dsimp only at q
        split at q
        · rename_i b' xs' n hg' e2
          split at q
          · rename_i j hj
            obtain ⟨l', us', i1, i2, i3, i4, i5, i6, i7, io⟩ := R2.owned hg'
            rw [j1] at i1
            cases i1
            have e3 := (R2.read k2 e2).int
            subst e3
            refine ⟨l, us', n, j, rfl, rfl, i2, by rw [dpa_length i3]; exact hj, ?_⟩
            exact q σ _ G2 k1 (R2.change hg' j1 (dpa_set (dp_mono k1 _ _ d1) j i3))
          · exact q.elim
        · exact q.elim
    · exact q.elim
end
end Z

set_option Elab.async false
set_option linter.all false
set_option maxRecDepth 100000
set_option autoImplicit false
set_option maxHeartbeats 1000000
namespace Z
open PySem PySem.Spec PyProof.Rows L2

def Fr.lock (F : Fr) (l : Addr) (o : HO) (n : F l = none) : Fr where
  f := upd F.f l o
  a := F.a
  k := fun b => F.k b ∨ b = l
  af := F.af.trans (same_upd n)
  kf := fun b h => by
    rcases h with h | h
    · rw [upd_ne (fun z => F.kf b h (by rw [z]; exact n))]
      exact F.kf b h
    · rw [h, upd_same]
      exact fun z => nomatch z
section
variable {K : PySem.W.Frag} {F : Fr} {G H H' G' : Hp} {Mu : Option Addr} {Γ : En} {σ : St} {l : Addr} {o : HO}
theorem Rel.lock (R : Rel K F G Mu Γ σ H) (n : F l = none) (h : H l = some o) (g : G l = none) (m : Mu ≠ some l) (ow : ∀ i, ¬ Owns Γ σ i l) : Rel K (F.lock l o n) G Mu Γ σ H where
  fh := fun b x q => by
    by_cases hb : b = l
    · subst hb
      rw [show (F.lock b o n).f b = some o from upd_same] at q
      rw [h]
      exact q
    · rw [show (F.lock l o n).f b = F.f b from upd_ne hb] at q
      exact R.fh b x q
  lk := fun b q => by
    rcases q with q | q
    · exact R.lk b q
    · rw [q]
      exact g
  gh := R.gh
  mu := fun b q => by
    obtain ⟨h1, h2, h3⟩ := R.mu b q
    have hne : b ≠ l := fun z => m (by rw [q, z])
    exact ⟨(upd_ne hne).trans h1, h2, h3⟩
  len := R.len
  sl := fun i sv q => by
    have p := R.sl i sv q
    cases sv with
    | u => exact p
    | d x => exact p
    | a xs => exact p
    | own b xs =>
      obtain ⟨l', vs, p1, p2, p3, p4, p5, p6, p7⟩ := p
      have hne : l' ≠ l := fun z => ow i (by rw [← z]; exact ⟨_, q, rfl, join_some p1⟩)
      exact ⟨l', vs, p1, p2, p3, (upd_ne hne).trans p4, p5, p6, p7⟩
    | dk ds =>
      obtain ⟨l', es, p1, p2, p3, p4, p5, p6⟩ := p
      have hne : l' ≠ l := fun z => ow i (by rw [← z]; exact ⟨_, q, rfl, join_some p1⟩)
      exact ⟨l', es, p1, p2, p3, (upd_ne hne).trans p4, p5, p6⟩
  sep := R.sep
theorem Rel.unlock {n : F l = none} (R : Rel K (F.lock l o n) G Mu Γ σ H) : Rel K F G Mu Γ σ H ∧ H l = some o ∧ G l = none ∧ Mu ≠ some l ∧ ∀ i, ¬ Owns Γ σ i l := by
  have back : ∀ b, (F.lock l o n) b = none → F b = none := fun b q => by
    by_cases hb : b = l
    · rw [hb]
      exact n
    · rw [show (F.lock l o n) b = F.f b from upd_ne hb] at q
      exact q
  have at_l : (F.lock l o n) l = some o := upd_same
  refine ⟨⟨fun b x q => R.fh b x (same_upd n b x q), fun b q => R.lk b (.inl q), R.gh, fun b q => ⟨back b (R.mu b q).1, (R.mu b q).2⟩, R.len, fun i sv q => ?_, R.sep⟩, R.fh _ _ at_l, R.lk l (.inr rfl), fun q => ?_, fun i q => ?_⟩
  · have p := R.sl i sv q
    cases sv with
    | u => exact p
    | d x => exact p
    | a xs => exact p
    | own b xs =>
      obtain ⟨l', vs, p1, p2, p3, p4, p5, p6, p7⟩ := p
      exact ⟨l', vs, p1, p2, p3, back l' p4, p5, p6, p7⟩
    | dk ds =>
      obtain ⟨l', es, p1, p2, p3, p4, p5, p6⟩ := p
      exact ⟨l', es, p1, p2, p3, back l' p4, p5, p6⟩
  · have := (R.mu l q).1
    rw [at_l] at this
    cases this
  · have := (R.there q).1
    rw [at_l] at this
    cases this
end

def Apart (l : V) : List Rt → List V → Prop
  | [], _ => True
  | .d _ :: rs, vs => Apart l rs vs.tail
  | .own _ :: rs, vs => vs.head? ≠ some l ∧ Apart l rs vs.tail
def RtAll (K : PySem.W.Frag) (F : Fr) (G : Hp) (Mu : Option Addr) (Γ : En) (σ : St) (H : Hp) : List Rt → List V → Prop
  | [], vs => vs = []
  | .d x :: rs, vs => ∃ v us, vs = v :: us ∧ Dq K G v x ∧ RtAll K F G Mu Γ σ H rs us
  | .own xs :: rs, vs => ∃ v us, vs = v :: us ∧ rhoO K F G Mu Γ σ H xs v ∧ Apart v rs us ∧ RtAll K F G Mu Γ σ H rs us
def rhoMs : Rho (List Rt) (List V) := fun K F G Mu Γ σ H rs vs => RtAll K F G Mu Γ σ H rs vs
def DMs (X : Cx) (es : List Expr) (m : M (List Rt)) : Prop := ∀ W, Takes X W → PA X es (zt X W rhoMs m)
def msNil : M (List Rt) := rt []
def msD (m : M D) (n : M (List Rt)) : M (List Rt) := bnd m fun x => bnd n fun xs => rt (.d x :: xs)
def msO (m : M (List D)) (n : M (List Rt)) : M (List Rt) := bnd m fun x => bnd n fun xs => rt (.own x :: xs)
section
variable {K : PySem.W.Frag} {F : Fr} {G H H' G' : Hp} {Mu : Option Addr} {Γ : En} {σ : St} {l : Addr} {o : HO} {n : F l = none}
theorem rtAll_unlock : ∀ {rs : List Rt} {vs : List V}, RtAll K (F.lock l o n) G Mu Γ σ H rs vs → RtAll K F G Mu Γ σ H rs vs ∧ Apart (.ref l) rs vs
  | [], _, h => ⟨h, trivial⟩
  | .d x :: rs, _, h => by
    obtain ⟨v, us, rfl, h1, h2⟩ := h
    obtain ⟨k1, k2⟩ := rtAll_unlock h2
    exact ⟨⟨v, us, rfl, h1, k1⟩, k2⟩
  | .own x :: rs, _, h => by
    obtain ⟨v, us, rfl, h1, h2, h3⟩ := h
    obtain ⟨k1, k2⟩ := rtAll_unlock h3
    obtain ⟨l', ws, rfl, p1, p2, p3, p4, p5, p6⟩ := h1
    have hne : l' ≠ l := fun z => by
      rw [show (F.lock l o n) l' = upd F.f l o l' from rfl, z, upd_same] at p3
      cases p3
    exact ⟨⟨_, us, rfl, ⟨l', ws, rfl, p1, p2, by rw [show (F.lock l o n) l' = F.f l' from upd_ne hne] at p3; exact p3, p4, p5, p6⟩, h2, k1⟩, fun z => hne (by injection z with z; injection z), k2⟩
end
section
variable {X : Cx} {e : Expr} {es : List Expr} {pos : Pos}
theorem dms_nil : DMs X [] msNil := fun W _ => pa_imp pa_nil fun σ H Q ⟨F, G, Mu, Γ, R, p⟩ => zpost_ok R (show rhoMs _ _ _ _ _ _ _ [] [] from rfl) p
theorem dms_d {m : M D} {n : M (List Rt)} (h : DP X e m) (k : DMs X es n) (hs : starEach (e :: es) X.env = (false, eval e X.env) :: starEach es X.env := by rfl) : DMs X (e :: es) (msD m n) := fun W tk => by
  refine pa_imp (pa_cons (h W tk) (k W tk) hs) fun σ H Q p => ?_
  refine (zt_bnd2 (ρ := rhoD) (ρ' := rhoMs) stD p).imp fun v H1 q => q.imp fun vs H2 ⟨x, xs, F, G, Mu, Γ, R, h1, h2, q2⟩ => ?_
  exact zpost_ok R (show rhoMs _ _ _ _ _ _ _ (.d x :: xs) (v :: vs) from ⟨v, vs, rfl, h1, h2⟩) q2
theorem dms_o {m : M (List D)} {n : M (List Rt)} (h : DO X e m) (k : DMs X es n) (hs : starEach (e :: es) X.env = (false, eval e X.env) :: starEach es X.env := by rfl) : DMs X (e :: es) (msO m n) := fun W tk => by
  refine pa_imp (pa_cons (h W tk) (k W tk) hs) fun σ H Q p => ?_
  refine (zt_bnd (ρ := rhoO) p).imp fun v H1 ⟨xs, F, G, Mu, Γ, R, ⟨l, us, ev, o1, o2, o3, o4, o5, o6⟩, q⟩ => ?_
  subst ev
  refine ⟨F.lock l _ o3, G, Mu, Γ, R.lock o3 o1 o4 o5 o6, ?_⟩
  unfold bnd at q
  cases e1 : n Γ with
  | bad => rw [e1] at q; exact q
  | ex c x Γ1 =>
    rw [e1] at q
    exact fun C a v H' G' w1 w2 w3 => q C a v H' G' w1 w2 w3.unlock.1
  | ok rs Γ1 =>
    rw [e1] at q
    intro vs H2 G2 k1 R2 k2
    obtain ⟨R3, j1, j2, j3, j4⟩ := R2.unlock
    obtain ⟨a1, a2⟩ := rtAll_unlock k2
    exact q (.ref l :: vs) H2 G2 k1 R3 ⟨.ref l, vs, rfl, ⟨l, us, rfl, j1, dpAll_mono k1 _ _ o2, o3, j2, j3, j4⟩, a2, a1⟩
end

def setRs : List Nat → List Rt → En → Option En
  | [], [], g => some g
  | i :: is, .d x :: rs, g => setRs is rs (g.set i (.d x))
  | i :: is, .own xs :: rs, g => setRs is rs (g.set i (.own false xs))
  | _, _, _ => none
def stV : List Nat → List V → St → St
  | i :: is, v :: vs, σ => stV is vs (σ.set i (some v))
  | _, _, σ => σ
section
variable {K : PySem.W.Frag} {F : Fr} {G H : Hp} {Mu : Option Addr}
theorem rhoO_set {Γ : En} {σ : St} {xs : List D} {v w : V} {i : Nat} {sv : SV} (h : rhoO K F G Mu Γ σ H xs w) (hn : sv.ow = false ∨ v ≠ w) : rhoO K F G Mu (Γ.set i sv) (σ.set i (some v)) H xs w := by
  obtain ⟨l, us, rfl, h1, h2, h3, h4, h5, h6⟩ := h
  refine ⟨l, us, rfl, h1, h2, h3, h4, h5, fun j hj => ?_⟩
  obtain ⟨m, k1, ys, k2⟩ := hj
  by_cases e : j = i
  · subst e
    have hj1 : j < Γ.length := by
      have := (List.getElem?_eq_some_iff.mp k1).1
      simpa using this
    have hj2 : j < σ.length := by
      have := (List.getElem?_eq_some_iff.mp k2).1
      simpa using this
    rw [List.getElem?_set_self hj1] at k1
    rw [List.getElem?_set_self hj2] at k2
    cases k1
    cases k2
    rcases hn with hn | hn
    · rw [hn] at ys
      cases ys
    · exact hn rfl
  · rw [List.getElem?_set_ne (Ne.symm e)] at k1 k2
    exact h6 j ⟨m, k1, ys, k2⟩
theorem rtAll_set {Γ : En} {σ : St} {v : V} {i : Nat} {sv : SV} : ∀ {rs : List Rt} {vs : List V}, RtAll K F G Mu Γ σ H rs vs → (sv.ow = false ∨ Apart v rs vs) → RtAll K F G Mu (Γ.set i sv) (σ.set i (some v)) H rs vs
  | [], _, h, _ => h
  | .d x :: rs, _, h, hn => by
    obtain ⟨w, us, rfl, h1, h2⟩ := h
    exact ⟨w, us, rfl, h1, rtAll_set h2 hn⟩
  | .own x :: rs, _, h, hn => by
    obtain ⟨w, us, rfl, h1, h2, h3⟩ := h
    refine ⟨w, us, rfl, rhoO_set h1 (hn.imp id fun z e => z.1 (by rw [e]; rfl)), h2, rtAll_set h3 (hn.imp id fun z => z.2)⟩
theorem Rel.setRs : ∀ {is : List Nat} {rs : List Rt} {vs : List V} {Γ Γ' : En} {σ : St}, Rel K F G Mu Γ σ H → RtAll K F G Mu Γ σ H rs vs → Z.setRs is rs Γ = some Γ' → Rel K F G Mu Γ' (stV is vs σ) H ∧ vs.length = is.length
  | [], [], vs, _, _, _, R, h, e => by
    cases (show vs = [] from h)
    cases e
    exact ⟨R, rfl⟩
  | i :: is, .d x :: rs, _, _, _, _, R, h, e => by
    obtain ⟨w, us, rfl, h1, h2⟩ := h
    have := Rel.setRs (is := is) (R.store (i := i) (sv := .d x) ⟨w, rfl, h1⟩ fun z => nomatch z) (rtAll_set h2 (.inl rfl)) e
    exact ⟨this.1, by rw [List.length_cons, List.length_cons, this.2]⟩
  | i :: is, .own x :: rs, _, _, _, _, R, h, e => by
    obtain ⟨w, us, rfl, h1, h2, h3⟩ := h
    have := Rel.setRs (is := is) (R.storeO h1 i) (rtAll_set h3 (.inr h2)) e
    exact ⟨this.1, by rw [List.length_cons, List.length_cons, this.2]⟩
  | [], _ :: _, _, _, _, _, _, _, e => by cases e
  | _ :: _, [], _, _, _, _, _, _, e => by cases e
end
def sPar (is : List Nat) (m : M (List Rt)) : M Fl := bnd m fun rs => fun g => match setRs is rs g with
  | some g' => .ok .nx g'
  | none => .bad
section
variable {X : Cx} {pos : Pos}
theorem par_end {W : WX} {D : Ends} {σ : St} {H : Hp} {is : List Nat} {m : M (List Rt)} (p : st X W (sPar is m) D σ H) : zt X W rhoMs m σ H fun vs H1 => vs.length = is.length ∧ D.nx (stV is vs σ) H1 :=
  (st_bnd (ρ := rhoMs) p).imp fun v H1 ⟨r, F, G, Mu, Γ, R, h1, q⟩ => by
    split at q
    · rename_i g' e
      obtain ⟨R', hl⟩ := R.setRs h1 e
      exact ⟨hl, q _ H1 G (Same.refl _) R'⟩
    · exact q.elim
theorem ds_par {i j : Nat} {x y : Str} {a b : Expr} {px py pt : Pos} {kt k2 pt2} {m : M (List Rt)} (hc : X.calm = true) (hN : X.N.Nodup) (hi : X.N[i]? = some x) (hj : X.N[j]? = some y) (hij : i ≠ j)
    (hx : X.env.scope.names.lookup x = some .local) (hy : X.env.scope.names.lookup y = some .local) (ha : DMs X [a, b] m)
    (hw : swappedStores [.Tuple [.Name x px, .Name y py] kt pt] (.Tuple [a, b] k2 pt2) X.env = pure (some [x, y]) := by rfl)
    (hs : swapsWithSole [.Tuple [.Name x px, .Name y py] kt pt] (.Tuple [a, b] k2 pt2) pos.line X.env = pure false := by rfl) :
    DS X (.Assign [.Tuple [.Name x px, .Name y py] kt pt] (.Tuple [a, b] k2 pt2) pos) (sPar [i, j] m) := fun W tk =>
  ps_imp (ps_par hc hN hi hj hij hx hy (ha W tk) hw hs) fun D σ H p => (par_end p).imp fun vs H1 ⟨hl, q⟩ => by
    match vs, hl, q with
    | [v, w], _, q => exact ⟨v, w, rfl, q⟩
theorem ds_par3 {i j l : Nat} {x y z : Str} {a b c : Expr} {px py pz pt : Pos} {kt k2 pt2} {m : M (List Rt)} (hc : X.calm = true) (hN : X.N.Nodup) (hi : X.N[i]? = some x) (hj : X.N[j]? = some y) (hl : X.N[l]? = some z) (hij : i ≠ j) (hil : i ≠ l) (hjl : j ≠ l)
    (hx : X.env.scope.names.lookup x = some .local) (hy : X.env.scope.names.lookup y = some .local) (hz : X.env.scope.names.lookup z = some .local) (ha : DMs X [a, b, c] m)
    (hw : swappedStores [.Tuple [.Name x px, .Name y py, .Name z pz] kt pt] (.Tuple [a, b, c] k2 pt2) X.env = pure (some [x, y, z]) := by rfl)
    (hs : swapsWithSole [.Tuple [.Name x px, .Name y py, .Name z pz] kt pt] (.Tuple [a, b, c] k2 pt2) pos.line X.env = pure false := by rfl) :
    DS X (.Assign [.Tuple [.Name x px, .Name y py, .Name z pz] kt pt] (.Tuple [a, b, c] k2 pt2) pos) (sPar [i, j, l] m) := fun W tk =>
  ps_imp (ps_par3 hc hN hi hj hl hij hil hjl hx hy hz (ha W tk) hw hs) fun D σ H p => (par_end p).imp fun vs H1 ⟨hl, q⟩ => by
    match vs, hl, q with
    | [u, v, w], _, q => exact ⟨u, v, w, rfl, q⟩
end

inductive Tg where
  | nm (i : Nat)
  | tup (ts : List Tg)
mutual
def setT : Tg → D → En → Option En
  | .nm i, x, g => some (g.set i (.d x))
  | .tup ts, .tuple xs, g => setTs ts xs g
  | .tup ts, .list xs, g => setTs ts xs g
  | .tup _, _, _ => none
def setTs : List Tg → List D → En → Option En
  | [], [], g => some g
  | t :: ts, x :: xs, g => match setT t x g with
    | some g' => setTs ts xs g'
    | none => none
  | _, _, _ => none
end
mutual
def tgS : Tg → List Nat
  | .nm i => [i]
  | .tup ts => tgsS ts
def tgsS : List Tg → List Nat
  | [] => []
  | t :: ts => tgS t ++ tgsS ts
end
theorem setTs_len : ∀ {ts : List Tg} {xs : List D} {g g' : En}, setTs ts xs g = some g' → xs.length = ts.length
  | [], [], _, _, _ => rfl
  | [], _ :: _, _, _, e => by
    unfold setTs at e
    cases e
  | _ :: _, [], _, _, e => by
    unfold setTs at e
    cases e
  | t :: ts, x :: xs, _, _, e => by
    unfold setTs at e
    split at e
    · rw [List.length_cons, List.length_cons, setTs_len e]
    · cases e
/-- two states that are the same outside of some slots -/
def Off (is : List Nat) (σ σ' : St) : Prop := σ'.length = σ.length ∧ ∀ j, j ∉ is → σ'[j]? = σ[j]?
theorem Off.refl {is : List Nat} {σ : St} : Off is σ σ := ⟨rfl, fun _ _ => rfl⟩
theorem Off.trans {is js : List Nat} {σ σ' σ'' : St} (a : Off is σ σ') (b : Off js σ' σ'') : Off (is ++ js) σ σ'' := ⟨b.1.trans a.1, fun j hj => by
  rw [b.2 j (fun z => hj (List.mem_append_right _ z)), a.2 j (fun z => hj (List.mem_append_left _ z))]⟩
def zG (X : Cx) (t : Tg) : TG := fun v σ H Q => ∃ F G Mu Γ Γ' x, Rel X.K F G Mu Γ σ H ∧ Dq X.K G v x ∧ setT t x Γ = some Γ' ∧ ∀ σ', Rel X.K F G Mu Γ' σ' H → Off (tgS t) σ σ' → Q σ' H
def zGs (X : Cx) (ts : List Tg) : TGs := fun vs σ H Q => ∃ F G Mu Γ Γ' xs, Rel X.K F G Mu Γ σ H ∧ DqAll X.K G vs xs ∧ setTs ts xs Γ = some Γ' ∧ ∀ σ', Rel X.K F G Mu Γ' σ' H → Off (tgsS ts) σ σ' → Q σ' H
def DG (X : Cx) (e : Expr) (t : Tg) : Prop := PG X e (zG X t)
def DGs (X : Cx) (es : List Expr) (ts : List Tg) : Prop := PGs X es (zGs X ts)
theorem pg_imp {X : Cx} {e : Expr} {t t' : TG} (p : PG X e t) (h : ∀ v σ H Q, t' v σ H Q → t v σ H Q) : PG X e t' := ⟨fun pins s σ H v u Q I r q => p.run pins s σ H v u Q I r (h v σ H Q q)⟩
theorem pgs_imp {X : Cx} {es : List Expr} {t t' : TGs} (p : PGs X es t) (h : ∀ v σ H Q, t' v σ H Q → t v σ H Q) : PGs X es t' := ⟨fun pins s σ H v u Q I r q => p.run pins s σ H v u Q I r (h v σ H Q q)⟩
section
variable {X : Cx} {pos : Pos} {x : Str} {i : Nat} {e : Expr} {es : List Expr}
theorem dg_name (hN : X.N.Nodup) (hi : X.N[i]? = some x) (hx : Loc X.env.scope x) (hf : X.fn x = true ∨ X.env.scope.names.lookup x = some .local := by first | exact .inl rfl | exact .inr rfl | assumption) : DG X (.Name x pos) (.nm i) :=
  pg_imp (pg_name hN hi hx hf) fun v σ H Q ⟨F, G, Mu, Γ, Γ', y, R, h1, h2, q⟩ => by
    unfold setT at h2
    cases h2
    refine q _ (R.store (sv := .d y) ⟨v, rfl, h1⟩ fun z => nomatch z) ⟨by rw [List.length_set], fun j hj => ?_⟩
    unfold tgS at hj
    rw [List.getElem?_set_ne (fun z => hj (by rw [z]; exact List.mem_singleton_self _))]
theorem dgs_nil : DGs X [] [] := pgs_imp pgs_nil fun vs σ H Q ⟨F, G, Mu, Γ, Γ', ys, R, h1, h2, q⟩ => by
  cases ys with
  | nil =>
    unfold setTs at h2
    cases h2
    cases h1
    exact ⟨rfl, q _ R .refl⟩
  | cons y ys =>
    unfold setTs at h2
    cases h2
theorem dgs_cons {t : Tg} {ts : List Tg} (h : DG X e t) (k : DGs X es ts) (hs : (assignEach (e :: es) X.env).map (·.2) = assign e X.env :: (assignEach es X.env).map (·.2) := by rfl) : DGs X (e :: es) (t :: ts) :=
  pgs_imp (pgs_cons h k hs) fun vs σ H Q ⟨F, G, Mu, Γ, Γ', ys, R, h1, h2, q⟩ => by
    cases ys with
    | nil => cases h2
    | cons y ys =>
      cases h1 with
      | cons d1 d2 =>
        unfold setTs at h2
        split at h2
        · rename_i g' e1
          exact ⟨_, _, rfl, F, G, Mu, Γ, g', y, R, d1, e1, fun σ1 R1 o1 => ⟨F, G, Mu, g', Γ', ys, R1, d2, h2, fun σ2 R2 o2 => q σ2 R2 (by unfold tgsS; exact o1.trans o2)⟩⟩
        · cases h2
theorem dg_tup {k : Nat} {ts : List Tg} {n : Nat} (hc : X.calm = true) (h : DGs X es ts) (hn : (assignEach es X.env).length = n := by rfl) (hst : (assignEach es X.env).findIdx? (·.1) = none := by rfl) (hl : ts.length = n := by rfl) : DG X (.Tuple es k pos) (.tup ts) :=
  ⟨fun pins s σ H v u Q I r ⟨F, G, Mu, Γ, Γ', y, R, h1, h2, q⟩ => by
    cases y with
    | tuple ys =>
      unfold setT at h2
      cases h1 with
      | tup a b =>
        refine (pg_tup (k := k) (pos := pos) hc h hn hst).run pins s σ H _ u Q I r ⟨_, _, rfl, (a.mono R.gh).sq, ?_, F, G, Mu, Γ, Γ', ys, R, b, h2, fun σ' R' o => q σ' R' (by unfold tgS; exact o)⟩
        rw [dpa_length b, ← hl]
        exact setTs_len h2
    | list ys =>
      unfold setT at h2
      cases h1 with
      | lst a b =>
        refine (pg_lst (k := k) (pos := pos) hc h hn hst).run pins s σ H _ u Q I r ⟨_, _, rfl, R.gh.seq a, ?_, F, G, Mu, Γ, Γ', ys, R, b, h2, fun σ' R' o => q σ' R' (by unfold tgS; exact o)⟩
        rw [dpa_length b, ← hl]
        exact setTs_len h2
    | _ => cases h2⟩
end
end Z

set_option Elab.async false
set_option linter.all false
set_option maxRecDepth 100000
set_option autoImplicit false
set_option maxHeartbeats 1000000
namespace Z
open PySem PySem.Spec PyProof.Rows L2

def YV (b : Bool) (K : PySem.W.Frag) (G H : Hp) (v : V) (x : D) (H' : Hp) : Prop := match b with
  | false => H' = H ∧ Dq K G v x
  | true => ∃ T us ds, v = .ref T ∧ x = .tuple ds ∧ H T = none ∧ H' = upd H T (.tup us) ∧ DqAll K G us ds
def Src (b : Bool) (K : PySem.W.Frag) (F : Fr) (G : Hp) (J : It) (xs : List D) : Prop := Walk J xs.length (fun H => Same F.a H ∧ Same G H) (fun i H v H' => ∃ x, xs[i]? = some x ∧ YV b K G H v x H')
def rhoW (b : Bool) : Rho (List D) It := fun K F G _ _ _ _ xs J => Src b K F G J xs
def DI (b : Bool) (X : Cx) (tg e : Expr) (m : M (List D)) : Prop := ∀ W, Takes X W → PI X tg e (zt X W (rhoW b) m)
theorem pi_imp {X : Cx} {tg e : Expr} {t t' : TI} (p : PI X tg e t) (h : ∀ σ H Q, t' σ H Q → t σ H Q) : PI X tg e t' := ⟨fun pins s σ H Q I q => p.run pins s σ H Q I (h σ H Q q)⟩
theorem src_list {K : PySem.W.Frag} {F : Fr} {G : Hp} {l : Addr} {vs : List V} {xs : List D} (q : ∀ H, Same F.a H → Same G H → SqL K H l vs) (h : DqAll K G vs xs) : Src false K F G (Itl K l) xs := by
  have w := (walk_list (K := K) (a := l) (xs := vs)).mono (G' := fun H => Same F.a H ∧ Same G H) (Y' := fun i H v H' => ∃ x, xs[i]? = some x ∧ YV false K G H v x H') (fun H e => q H e.1 e.2) fun i H v H' hi _ y => by
    obtain ⟨x, h1, h2⟩ := dpa_get' h y.2
    exact ⟨x, h1, y.1, h2⟩
  rw [dpa_length h] at w
  exact w
theorem src_tup {K : PySem.W.Frag} {F : Fr} {G : Hp} {l : Addr} {vs : List V} {xs : List D} (q : ∀ H, Same F.a H → Same G H → SqT K H l vs) (h : DqAll K G vs xs) : Src false K F G (Itt K l) xs := by
  have w := (walk_tup (K := K) (a := l) (xs := vs)).mono (G' := fun H => Same F.a H ∧ Same G H) (Y' := fun i H v H' => ∃ x, xs[i]? = some x ∧ YV false K G H v x H') (fun H e => q H e.1 e.2) fun i H v H' hi _ y => by
    obtain ⟨x, h1, h2⟩ := dpa_get' h y.2
    exact ⟨x, h1, y.1, h2⟩
  rw [dpa_length h] at w
  exact w
/-- lo, lo + c, .. -/
def rngD (lo c : Int) (n : Nat) : List D := (List.range n).map fun (i : Nat) => .int (lo + (i : Int) * c)
theorem rngD_len {lo c : Int} {n : Nat} : (rngD lo c n).length = n := by simp [rngD]
theorem rngD_get {lo c : Int} {n i : Nat} (h : i < n) : (rngD lo c n)[i]? = some (.int (lo + (i : Int) * c)) := by simp [rngD, h]
theorem src_range {K : PySem.W.Frag} {F : Fr} {G : Hp} {lo : Int} {n : Nat} : Src false K F G (Itr lo n) (rngD lo 1 n) := by
  have w := (walk_range (lo := lo) (n := n)).mono (G' := fun H => Same F.a H ∧ Same G H) (Y' := fun i H v H' => ∃ x, (rngD lo 1 n)[i]? = some x ∧ YV false K G H v x H') (fun _ _ => trivial) fun i H v H' hi _ y =>
    ⟨_, rngD_get hi, y.1, by rw [y.2, Int.mul_one]; exact .int _⟩
  unfold Src
  rw [rngD_len]
  exact w
def iSq (K : PySem.W.Frag) (te : TE) : TI := fun σ H R => te σ H fun x H1 => ∃ a, x = .ref a ∧ ((∃ vs, SqL K H1 a vs ∧ R (Itl K a) H1) ∨ ∃ vs, SqT K H1 a vs ∧ R (Itt K a) H1)
theorem pi_sq {X : Cx} {tg e : Expr} {te : TE} (he : PE X e te) : PI X tg e (iSq X.K te) := by
  refine ⟨fun pins s σ H R I h => thn (he.run pins s σ H _ I h) fun v s1 ⟨x, H1, I1, r1, q1⟩ => ?_⟩
  obtain ⟨a, rfl, q⟩ := q1
  cases r1
  rcases q with ⟨vs, hq, q⟩ | ⟨vs, hq, q⟩
  · obtain ⟨its, _, p, _⟩ := I1.list hq
    exact wpAny_pyIter_list p.isList (pi_one (tk := s1.toks) I1 _ (turn_list a _) ⟨_, Heap.get?_push_size _ rfl, rfl, rfl⟩ q)
  · obtain ⟨its, _, p, _⟩ := I1.tuple hq
    exact wpAny_pyIter_tuple (show s1.heap.IsTuple a its.toArray from p) (pi_one (tk := s1.toks) I1 _ (turn_tuple a _) ⟨_, Heap.get?_push_size _ rfl, rfl, rfl⟩ q)
def seqD : D → Option (List D)
  | .list xs => some xs
  | .tuple xs => some xs
  | _ => none
def itR (r : Rs) : M (List D) := fun g => match r with
  | .d x => match seqD x with
    | some xs => .ok xs g
    | none => .bad
  | .sl i => match g[i]? with
    | some (.d x) => match seqD x with
      | some xs => .ok xs g
      | none => .bad
    | some (.a xs) => .ok xs g
    | some (.own false xs) => .ok xs (g.set i (.d (.list xs)))
    | _ => .bad
def iV (m : M Rs) : M (List D) := bnd m itR
theorem it_data {X : Cx} {W : WX} {σ : St} {F : Fr} {G H : Hp} {Mu : Option Addr} {Γ : En} {R : It → Hp → Prop} {v : V} {x : D} (Rl : Rel X.K F G Mu Γ σ H) (h : Dq X.K G v x) (q : zpost X W σ (rhoW false) F G Mu R (match seqD x with
      | some xs => .ok xs Γ
      | none => .bad)) : ∃ a, v = .ref a ∧ ((∃ vs, SqL X.K H a vs ∧ R (Itl X.K a) H) ∨ ∃ vs, SqT X.K H a vs ∧ R (Itt X.K a) H) := by
  cases h with
  | lst a b =>
    rename_i l vs xs
    exact ⟨l, rfl, .inl ⟨vs, Rl.gh.seq a, zpost_ok Rl (src_list (fun H' _ e => e.seq a) b) q⟩⟩
  | tup a b =>
    rename_i l vs xs
    exact ⟨l, rfl, .inr ⟨vs, (a.mono Rl.gh).sq, zpost_ok Rl (src_tup (fun H' _ e => (a.mono e).sq) b) q⟩⟩
  | _ => exact q.elim
theorem di_val {X : Cx} {tg e : Expr} {m : M Rs} (he : DV X e m) : DI false X tg e (iV m) := fun W tk =>
  pi_imp (pi_sq (he W tk)) fun σ H R p => (zt_bnd (ρ := rhoR) p).imp fun v H1 ⟨r, F, G, Mu, Γ, Rl, h1, q⟩ => by
    unfold itR at q
    cases r with
    | d x => exact it_data Rl h1 q
    | sl i =>
      have h1' : σ[i]? = some (some v) := h1
      dsimp only at q
      split at q
      · rename_i x g
        obtain ⟨u, k1, k2⟩ := Rl.data g
        rw [h1'] at k1
        cases k1
        exact it_data Rl k2 q
      · rename_i xs g
        obtain ⟨l, vs, k1, k2, k3⟩ := Rl.arg g
        rw [h1'] at k1
        cases k1
        exact ⟨l, rfl, .inl ⟨vs, (F.af.trans Rl.fh).seq k2, zpost_ok Rl (src_list (fun H' e _ => e.seq k2) k3) q⟩⟩
      · rename_i xs g
        obtain ⟨l, G', k1, R', k2, k3⟩ := Rl.freeze g
        rw [h1'] at k1
        cases k1
        cases k3 with
        | lst a b => exact ⟨l, rfl, .inl ⟨_, R'.gh.seq a, q _ H1 G' k2 R' (src_list (fun H' _ e => e.seq a) b)⟩⟩
      · exact q.elim
/-- a new list -/
def iO (m : M (List D)) : M (List D) := m
def rgLim (i : Int) : Prop := -(2 ^ 62) ≤ i ∧ i < 2 ^ 62
instance {i : Int} : Decidable (rgLim i) := by unfold rgLim; infer_instance
def iR1 (m : M (List Rs)) : M (List D) := bnd m fun rs => fun g => match vls g rs with
  | some [.int j] => if rgLim j then .ok (rngD 0 1 j.toNat) g else .bad
  | _ => .bad
def iR2 (m : M (List Rs)) : M (List D) := bnd m fun rs => fun g => match vls g rs with
  | some [.int i, .int j] => if rgLim i ∧ rgLim j then .ok (rngD i 1 (j - i).toNat) g else .bad
  | _ => .bad
def iR3 (m : M (List Rs)) : M (List D) := bnd m fun rs => fun g => match vls g rs with
  | some [.int i, .int j, .int c] => if rgLim i ∧ rgLim j ∧ c = -1 then .ok (rngD i (-1) (i - j).toNat) g else .bad
  | _ => .bad
section
variable {X : Cx} {tg a b c : Expr} {m : M (List Rs)} {p pos : Pos}
theorem di_range1 (hg : Gl X "range") (hm : X.mg "range" = none) (ha : DVs X [a] m) (hs : starEach [a] X.env = [(false, eval a X.env)] := by rfl) : DI false X tg (.Call (.Name "range" p) [a] [] pos) (iR1 m) := fun W tk =>
  pi_imp (pi_range1 hg hm (ha W tk) hs) fun σ H R q => (zt_bnd (ρ := rhoRs) q).imp fun vs H1 ⟨r, F, G, Mu, Γ, Rl, h1, q⟩ => by
    split at q
    · rename_i j e
      split at q
      · rename_i hj
        obtain ⟨v, rfl, h2⟩ := (Rl.reads h1 e).one
        cases h2.int
        exact ⟨j, rfl, hj.1, hj.2, zpost_ok Rl src_range q⟩
      · exact q.elim
    · exact q.elim
theorem di_range2 (hg : Gl X "range") (hm : X.mg "range" = none) (ha : DVs X [a, b] m) (hs : starEach [a, b] X.env = [(false, eval a X.env), (false, eval b X.env)] := by rfl) (hs2 : starEach [b] X.env = [(false, eval b X.env)] := by rfl) :
    DI false X tg (.Call (.Name "range" p) [a, b] [] pos) (iR2 m) := fun W tk =>
  pi_imp (pi_range2 hg hm (ha W tk) hs hs2) fun σ H R q => (zt_bnd (ρ := rhoRs) q).imp fun vs H1 ⟨r, F, G, Mu, Γ, Rl, h1, q⟩ => by
    split at q
    · rename_i i j e
      split at q
      · rename_i hj
        obtain ⟨v, u, rfl, h2, h3⟩ := (Rl.reads h1 e).two
        cases h2.int
        cases h3.int
        exact ⟨i, j, rfl, ⟨hj.1.1, hj.1.2, hj.2.1, hj.2.2⟩, zpost_ok Rl src_range q⟩
      · exact q.elim
    · exact q.elim
theorem RdbAll.three {K : PySem.W.Frag} {G H : Hp} {vs : List V} {x y z : D} (h : RdbAll K G H vs [x, y, z]) : ∃ v u w, vs = [v, u, w] ∧ Rdb K G H v x ∧ Rdb K G H u y ∧ Rdb K G H w z := by
  cases vs with
  | nil => cases (show [x, y, z] = [] from h)
  | cons v us =>
    obtain ⟨_, _, e, h1, h2⟩ := h
    cases e
    obtain ⟨u, w, rfl, h3, h4⟩ := RdbAll.two h2
    exact ⟨v, u, w, rfl, h1, h3, h4⟩
end

def zGb (b : Bool) (X : Cx) (t : Tg) : TG := fun v σ H Q => ∃ F G Mu Γ Γ' x H0, Rel X.K F G Mu Γ σ H0 ∧ YV b X.K G H0 v x H ∧ setT t x Γ = some Γ' ∧ ∀ σ', Rel X.K F G Mu Γ' σ' H → Off (tgS t) σ σ' → Q σ' H
def DGb (b : Bool) (X : Cx) (e : Expr) (t : Tg) : Prop := PG X e (zGb b X t)
section
variable {X : Cx} {pos : Pos} {e : Expr} {es : List Expr}
theorem dgb_any {t : Tg} (h : DG X e t) : DGb false X e t := pg_imp h fun v σ H Q ⟨F, G, Mu, Γ, Γ', x, H0, R, ⟨e1, d⟩, s, q⟩ => by
  subst e1
  exact ⟨F, G, Mu, Γ, Γ', x, R, d, s, q⟩
theorem dgb_tup {k : Nat} {ts : List Tg} {n : Nat} (hc : X.calm = true) (h : DGs X es ts) (hn : (assignEach es X.env).length = n := by rfl) (hst : (assignEach es X.env).findIdx? (·.1) = none := by rfl) (hl : ts.length = n := by rfl) : DGb true X (.Tuple es k pos) (.tup ts) :=
  pg_imp (pg_tup hc h hn hst) fun v σ H Q ⟨F, G, Mu, Γ, Γ', x, H0, R, ⟨T, us, ds, ev, ex, nT, eH, d⟩, s, q⟩ => by
    subst ev ex eH
    unfold setT at s
    exact ⟨T, us, rfl, .inl (.inl upd_same), by rw [dpa_length d, ← hl]; exact setTs_len s, F, G, Mu, Γ, Γ', ds, R.newX nT, d, s, fun σ' R' o => q σ' R' (by unfold tgS; exact o)⟩
end

def fgt : List Nat → En → En
  | [], g => g
  | i :: is, g => fgt is (g.set i .u)
theorem Rel.forget' {K : PySem.W.Frag} {F : Fr} {G H : Hp} {Mu : Option Addr} {Γ : En} {σ : St} (R : Rel K F G Mu Γ σ H) (i : Nat) : Rel K F G Mu (Γ.set i .u) σ H := by
  cases h : σ[i]? with
  | none =>
    have hl : Γ.length ≤ i := by rw [R.len]; exact List.getElem?_eq_none_iff.mp h
    rw [List.set_eq_of_length_le hl]
    exact R
  | some o =>
    have e : σ.set i o = σ := List.ext_getElem? fun j => by
      by_cases hj : i = j
      · subst hj
        have hi := (List.getElem?_eq_some_iff.mp h).1
        rw [List.getElem?_set_self hi, h]
      · rw [List.getElem?_set_ne hj]
    have R' := R.forget i (o := o)
    rw [e] at R'
    exact R'
theorem Rel.fgt {K : PySem.W.Frag} {F : Fr} {G H : Hp} {Mu : Option Addr} {σ : St} : ∀ {is : List Nat} {Γ : En}, Rel K F G Mu Γ σ H → Rel K F G Mu (Z.fgt is Γ) σ H
  | [], _, R => R
  | i :: is, _, R => Rel.fgt (is := is) (R.forget' i)
/-- a for over xs; ms: the slots that are of no more use behind a turn -/
def forG (t : Tg) (ms : List Nat) (b : M Fl) : List D → M Fl
  | [], g => .ok .nx (fgt ms g)
  | x :: xs, g => match setT t x g with
    | none => .bad
    | some g1 => match b g1 with
      | .ok .nx g2 => forG t ms b xs (fgt ms g2)
      | .ok .ct g2 => forG t ms b xs (fgt ms g2)
      | .ok .bk g2 => .ok .nx (fgt ms g2)
      | o => o
def sFor (t : Tg) (ms : List Nat) (mi : M (List D)) (b : M Fl) : M Fl := bnd mi fun xs => forG t ms b xs
theorem ds_for {X : Cx} {b : Bool} {tg iter : Expr} {body : List Stmt} {pos : Pos} {t : Tg} {mi : M (List D)} {mb : M Fl} (ms : List Nat) (hp : PassesOwn (model X.prog X.w) X.A X.env X.xe) (hc : X.calm = true) (hi : DI b X tg iter mi) (hg : DGb b X tg t) (hb : DSs X body mb)
    (hs : ∀ x, foldedSetIterable iter X.env x = pure x := by intro _; rfl) : DS X (.For tg iter body [] pos) (sFor t ms mi mb) := fun W tk =>
  ps_imp (ps_for hp hc (hi W tk) hg (hb W tk) hs) fun D σ H p => (st_bnd (ρ := rhoW b) p).imp fun J H1 ⟨xs, F, G, Mu, Γ, R, h1, q⟩ => by
    refine for_it h1 (fun i σ' H' => ∃ G' Γ', Same G G' ∧ Rel X.K F G' Mu Γ' σ' H' ∧ spost X W F G' Mu D (forG t ms mb (xs.drop i) Γ')) ⟨G, Γ, Same.refl _, R, q⟩
      (fun i σ' H' _ ⟨G', Γ', g, R', _⟩ => ⟨F.af.trans R'.fh, g.trans R'.gh⟩) (fun i v σ' H' H2 hi ⟨G', Γ', g, R', p'⟩ ⟨x, hx, y⟩ => ?_) fun σ' H' ⟨G', Γ', g, R', p'⟩ => ?_
    · have hd : xs.drop i = x :: xs.drop (i + 1) := by
        obtain ⟨hl, e⟩ := List.getElem?_eq_some_iff.mp hx
        rw [← e]
        exact List.drop_eq_getElem_cons hl
      rw [hd] at p'
      unfold forG at p'
      cases e1 : setT t x Γ' with
      | none => rw [e1] at p'; exact p'.elim
      | some g1 =>
        rw [e1] at p'
        dsimp only at p'
        have y' : YV b X.K G' H' v x H2 := by
          cases b with
          | false => exact ⟨y.1, dp_mono g _ _ y.2⟩
          | true =>
            obtain ⟨T, us, ds, a1, a2, a3, a4, a5⟩ := y
            exact ⟨T, us, ds, a1, a2, a3, a4, dpAll_mono g _ _ a5⟩
        refine ⟨F, G', Mu, Γ', g1, x, H', R', y', e1, fun σ2 R2 _ => ⟨F, G', Mu, g1, R2, ?_⟩⟩
        cases e2 : mb g1 with
        | bad => rw [e2] at p'; exact p'
        | ex c z Γ2 => rw [e2] at p'; exact p'
        | ok f Γ2 =>
          rw [e2] at p'
          cases f with
          | nx => exact fun σ3 H3 G3 k R3 => ⟨G3, _, g.trans k, R3.fgt, p'.rebase k⟩
          | ct => exact fun σ3 H3 G3 k R3 => ⟨G3, _, g.trans k, R3.fgt, p'.rebase k⟩
          | rt r => exact p'
          | bk => exact fun σ3 H3 G3 k R3 => p' σ3 H3 G3 k R3.fgt
    · rw [List.drop_length] at p'
      exact p' σ' H' G' (Same.refl _) R'.fgt
end Z

set_option Elab.async false
set_option linter.all false
set_option maxRecDepth 100000
set_option autoImplicit false
set_option maxHeartbeats 1000000
namespace Z
open PySem PySem.Spec PyProof.Rows L2

def wipG (g : En) : List Nat → En
  | [] => g
  | v :: vs => (wipG g vs).set v .u
def rstG (g g' : En) : List Nat → En
  | [] => g'
  | v :: vs => match g[v]? with
    | some sv => (rstG g g' vs).set v sv
    | none => rstG g g' vs
def noOwn (g : En) (vs : List Nat) : Bool := vs.all fun v => match g[v]? with
  | some (.own _ _) => false
  | some (.dk _) => false
  | _ => true
theorem noOwn_at {g : En} {vs : List Nat} {j : Nat} {sv : SV} (no : noOwn g vs = true) (hj : j ∈ vs) (e : g[j]? = some sv) : sv.ow = false := by
  have := List.all_eq_true.mp no j hj
  rw [e] at this
  cases sv with
  | own m xs => cases this
  | dk ds => cases this
  | u => rfl
  | d x => rfl
  | a xs => rfl
theorem wipG_len {g : En} : ∀ {vs : List Nat}, (wipG g vs).length = g.length
  | [] => rfl
  | v :: vs => by
    unfold wipG
    rw [List.length_set, wipG_len]
theorem rstG_len {g g' : En} : ∀ {vs : List Nat}, (rstG g g' vs).length = g'.length
  | [] => rfl
  | v :: vs => by
    unfold rstG
    split
    · rw [List.length_set, rstG_len]
    · exact rstG_len
theorem rstG_in {g g' : En} (hl : g'.length = g.length) {i : Nat} : ∀ {vs : List Nat}, i ∈ vs → (rstG g g' vs)[i]? = g[i]?
  | [], h => nomatch h
  | v :: vs, h => by
    unfold rstG
    by_cases e : v = i
    · subst e
      split
      · rename_i sv hv
        rw [List.getElem?_set_self (by rw [rstG_len, hl]; exact (List.getElem?_eq_some_iff.mp hv).1), hv]
      · rename_i hv
        rw [hv, List.getElem?_eq_none_iff, rstG_len, hl]
        exact List.getElem?_eq_none_iff.mp hv
    · have h2 : i ∈ vs := by
        rcases List.mem_cons.mp h with z | z
        · exact absurd z.symm e
        · exact z
      split
      · rw [List.getElem?_set_ne e]
        exact rstG_in hl h2
      · exact rstG_in hl h2
theorem rstG_out {g g' : En} {i : Nat} : ∀ {vs : List Nat}, i ∉ vs → (rstG g g' vs)[i]? = g'[i]?
  | [], _ => rfl
  | v :: vs, h => by
    have h1 : v ≠ i := fun e => h (by rw [e]; exact List.mem_cons_self)
    have h2 : i ∉ vs := fun m => h (List.mem_cons_of_mem _ m)
    unfold rstG
    split
    · rw [List.getElem?_set_ne h1]
      exact rstG_out h2
    · exact rstG_out h2
theorem wipe_in {σ : St} {i : Nat} : ∀ {vs : List Nat}, i ∈ vs → (wipe σ vs)[i]? = (σ[i]?).map fun _ => none
  | [], h => nomatch h
  | v :: vs, h => by
    unfold wipe
    by_cases e : v = i
    · subst e
      cases hv : σ[v]? with
      | none =>
        rw [Option.map_none, List.getElem?_eq_none_iff, List.length_set, wipe_length]
        exact List.getElem?_eq_none_iff.mp hv
      | some o =>
        rw [List.getElem?_set_self (by rw [wipe_length]; exact (List.getElem?_eq_some_iff.mp hv).1)]
        rfl
    · have h2 : i ∈ vs := by
        rcases List.mem_cons.mp h with z | z
        · exact absurd z.symm e
        · exact z
      rw [List.getElem?_set_ne e]
      exact wipe_in h2
theorem wipe_off {σ σ' : St} {is vs : List Nat} (h : Off is (wipe σ vs) σ') (hs : ∀ i ∈ is, i ∈ vs) : wipe σ' vs = wipe σ vs := List.ext_getElem? fun j => by
  by_cases hj : j ∈ vs
  · rw [wipe_in hj, wipe_in hj]
    have hl : σ'.length = σ.length := h.1.trans (wipe_length σ vs)
    cases e : σ[j]? with
    | none =>
      have : σ'[j]? = none := by
        rw [List.getElem?_eq_none_iff, hl]
        exact List.getElem?_eq_none_iff.mp e
      rw [this]
    | some o =>
      have hj2 : j < σ'.length := by
        rw [hl]
        exact (List.getElem?_eq_some_iff.mp e).1
      rw [List.getElem?_eq_getElem hj2]
      rfl
  · rw [wipe_out hj, wipe_out hj, h.2 j (fun z => hj (hs j z)), wipe_out hj]
section
variable {K : PySem.W.Frag} {F : Fr} {G H G' H' : Hp} {Mu : Option Addr} {Γ Γ' : En} {σ : St}
theorem Rel.wipe (R : Rel K F G Mu Γ σ H) : ∀ vs : List Nat, Rel K F G Mu (wipG Γ vs) (L2.wipe σ vs) H
  | [] => R
  | v :: vs => (Rel.wipe R vs).forget v
/-- back out of a block -/
theorem Rel.back {vs : List Nat} (R : Rel K F G Mu Γ σ H) (R' : Rel K F G' Mu Γ' (L2.wipe σ vs) H') (g : Same G G') (no : noOwn Γ vs = true) : Rel K F G' Mu (rstG Γ Γ' vs) σ H' := by
  have hl : Γ'.length = Γ.length := by rw [R'.len, R.len, wipe_length]
  have nin : ∀ {j : Nat} {sv : SV}, (rstG Γ Γ' vs)[j]? = some sv → sv.ow = true → j ∉ vs := fun {j sv} e ho hj => by
    rw [rstG_in hl hj] at e
    rw [noOwn_at no hj e] at ho
    cases ho
  have own' : ∀ {j : Nat} {l : Addr}, Owns (rstG Γ Γ' vs) σ j l → Owns Γ' (L2.wipe σ vs) j l := fun {j l} ⟨m, h1, xs, h2⟩ => by
    have hj := nin h1 xs
    exact ⟨m, by rw [← rstG_out hj]; exact h1, xs, by rw [wipe_out hj]; exact h2⟩
  refine ⟨R'.fh, R'.lk, R'.gh, R'.mu, by rw [rstG_len, hl, R.len], fun j sv e => ?_, fun i j l a b => R'.sep i j l (own' a) (own' b)⟩
  by_cases hj : j ∈ vs
  · rw [rstG_in hl hj] at e
    have q := R.sl j sv e
    cases sv with
    | u => exact True.intro
    | d x =>
      obtain ⟨v, h1, h2⟩ := q
      exact ⟨v, h1, dp_mono g _ _ h2⟩
    | a xs =>
      obtain ⟨l, us, h1, h2, h3⟩ := q
      exact ⟨l, us, h1, h2, dpAll_mono g _ _ h3⟩
    | own m xs => exact absurd hj (nin (by rw [rstG_in hl hj]; exact e) rfl)
    | dk ds => exact absurd hj (nin (by rw [rstG_in hl hj]; exact e) rfl)
  · rw [rstG_out hj] at e
    have q := R'.sl j sv e
    rw [wipe_out hj] at q
    exact q
theorem Rel.poke (R : Rel K F G Mu Γ σ H) {l : Addr} {o : HO} (n : F l = none) (g : G l = none) (m : Mu ≠ some l) (ow : ∀ i, ¬ Owns Γ σ i l) : Rel K F G Mu Γ σ (upd H l o) := by
  refine R.mono (Mu' := Mu) (same_updR R.fh n) (Same.refl _) (same_updR R.gh g) (fun b q => ?_) (fun i b h => ?_) R.lk
  · obtain ⟨_, h2, h3⟩ := R.mu b q
    rw [upd_ne (fun z => m (by rw [q, z]))]
    exact ⟨h2, h3⟩
  · rw [upd_ne (fun z => ow i (by rw [← z]; exact h))]
    exact ⟨(R.there h).2.1, rfl⟩
end

def compG (vs : List Nat) (t : Tg) (mt : M Bool) (me : M D) : List D → List D → M (List D)
  | [], ys, g => .ok ys g
  | x :: xs, ys, g => match setT t x g with
    | none => .bad
    | some g1 => match mt g1 with
      | .ok true g2 => match me g2 with
        | .ok y g3 => compG vs t mt me xs (ys ++ [y]) (wipG g3 vs)
        | _ => .bad
      | .ok false g2 => compG vs t mt me xs ys (wipG g2 vs)
      | _ => .bad
def compB (vs : List Nat) (t : Tg) (mt : M Bool) (me : M D) (xs : List D) : M (List D) := fun g => if xs.length ≤ sizeLine ∧ noOwn g vs = true then match compG vs t mt me xs [] (wipG g vs) with
    | .ok ys g' => .ok ys (rstG g g' vs)
    | _ => .bad
  else .bad
def compL (vs : List Nat) (t : Tg) (mi : M (List D)) (mt : M Bool) (me : M D) : M (List D) := bnd mi (compB vs t mt me)
def DTs (X : Cx) (ifs : List Expr) (m : M Bool) : Prop := ∀ W, Takes X W → PTs X ifs (zt X W rhoB m)
theorem pts_imp {X : Cx} {es : List Expr} {t t' : TT} (p : PTs X es t) (h : ∀ σ H Q, t' σ H Q → t σ H Q) : PTs X es t' := ⟨fun pins s σ H Q I q => p.run pins s σ H Q I (h σ H Q q)⟩
theorem dts_nil {X : Cx} : DTs X [] (rt true) := fun W _ => pts_imp pts_nil fun σ H Q ⟨F, G, Mu, Γ, R, p⟩ => zpost_ok R (show rhoB _ _ _ _ _ _ _ true true from rfl) p
theorem dts_one {X : Cx} {c : Expr} {m : M Bool} (h : DT X c m) : DTs X [c] m := fun W tk => pts_one (h W tk)
abbrev W0 : WX := fun _ _ _ _ => False
theorem comp_run {X : Cx} {b : Bool} {W : WX} {σ : St} {H : Hp} {Q : VK} {vs : List Nat} {t : Tg} {mi : M (List D)} {mt : M Bool} {me : M D} (hv : ∀ i ∈ tgS t, i ∈ vs) (p : zt X W rhoO (compL vs t mi mt me) σ H Q) :
    tLc (zt X W (rhoW b) mi) (zGb b X t) (zt X W0 rhoB mt) (zt X W0 rhoD me) vs σ H Q :=
  (zt_bnd (ρ := rhoW b) p).imp fun J H1 ⟨xs, F, G, Mu, Γ, R, h1, q⟩ l nl => by
    unfold compB at q
    split at q
    · rename_i hz
      obtain ⟨hz, no⟩ := hz
      have nF : F l = none := R.fh.free nl
      have nG : G l = none := R.gh.free nl
      have nM : Mu ≠ some l := fun z => (R.mu l z).2.2 nl
      have nO : ∀ i, ¬ Owns (wipG Γ vs) (wipe σ vs) i l := fun i h => by
        obtain ⟨_, _, us, z⟩ := (R.wipe vs).there h
        rw [nl] at z
        cases z
      cases e1 : compG vs t mt me xs [] (wipG Γ vs) with
      | bad => rw [e1] at q; exact q.elim
      | ex c y Γ1 => rw [e1] at q; exact q.elim
      | ok zs Γz =>
        rw [e1] at q
        refine lc_it h1 (fun i H' => ∃ G' Γ' acc ys, Same G G' ∧ Rel X.K (F.lock l (.lst acc) nF) G' Mu Γ' (wipe σ vs) H' ∧ DqAll X.K G' acc ys ∧ ys.length ≤ i ∧ compG vs t mt me (xs.drop i) ys Γ' = .ok zs Γz) ?_
          (fun i H' _ ⟨G', Γ', acc, ys, g, R', _⟩ => ⟨fun a o z => R'.unlock.1.fh a o (F.af a o z), g.trans R'.gh⟩) (fun i v H' H2 hi ⟨G', Γ', acc, ys, g, R', hd, hy, hc⟩ ⟨x, hx, y⟩ => ?_) fun H' ⟨G', Γ', acc, ys, g, R', hd, hy, hc⟩ => ?_
        · exact ⟨G, wipG Γ vs, [], [], Same.refl _, ((R.wipe vs).newX nl).lock nF upd_same nG nM (fun i h => nO i h), .nil, Nat.le_refl _, e1⟩
        · have hdr : xs.drop i = x :: xs.drop (i + 1) := by
            obtain ⟨hl, e⟩ := List.getElem?_eq_some_iff.mp hx
            rw [← e]
            exact List.drop_eq_getElem_cons hl
          rw [hdr] at hc
          unfold compG at hc
          split at hc
          · cases hc
          · rename_i g1 e2
            have y' : YV b X.K G' H' v x H2 := by
              cases b with
              | false => exact ⟨y.1, dp_mono g _ _ y.2⟩
              | true =>
                obtain ⟨T, us, ds, a1, a2, a3, a4, a5⟩ := y
                exact ⟨T, us, ds, a1, a2, a3, a4, dpAll_mono g _ _ a5⟩
            refine ⟨_, G', Mu, Γ', g1, x, H', R', y', e2, fun σ2 R2 off => ⟨wipe_off off hv, ?_⟩⟩
            have ew := wipe_off off hv
            split at hc
            · rename_i g2 e3
              split at hc
              · rename_i z g3 e4
                refine ⟨_, G', Mu, g1, R2, ?_⟩
                rw [e3]
                intro bb H3 G3 k3 R3 hb
                cases (show true = bb from hb)
                rw [if_pos rfl]
                refine ⟨_, G3, Mu, g2, R3, ?_⟩
                rw [e4]
                intro u H4 G4 k4 R4 hu
                obtain ⟨R5, j1, j2, j3, j4⟩ := R4.unlock
                refine ⟨acc, j1, ?_, G4, wipG g3 vs, acc ++ [u], ys ++ [z], (g.trans k3).trans k4, ?_, dpa_append (dpAll_mono k4 _ _ (dpAll_mono k3 _ _ hd)) (.cons hu .nil), by rw [List.length_append]; exact Nat.add_le_add_right hy 1, hc⟩
                · rw [dpa_length hd]
                  omega
                · have R6 := R5.wipe vs
                  rw [ew] at R6
                  have o6 : ∀ i, ¬ Owns (wipG g3 vs) (wipe σ vs) i l := fun i h => by
                    obtain ⟨w1, w2, w3⟩ := R6.there h
                    have R7 := R4.wipe vs
                    rw [ew] at R7
                    have := (R7.there h).1
                    rw [show (F.lock l (HO.lst acc) nF) l = some (.lst acc) from upd_same] at this
                    cases this
                  exact (R6.poke (o := .lst (acc ++ [u])) nF j2 j3 o6).lock nF upd_same j2 j3 o6
              · cases hc
            · rename_i g2 e3
              refine ⟨_, G', Mu, g1, R2, ?_⟩
              rw [e3]
              intro bb H3 G3 k3 R3 hb
              cases (show false = bb from hb)
              rw [if_neg Bool.false_ne_true]
              have R6 := R3.wipe vs
              rw [ew] at R6
              exact ⟨G3, wipG g2 vs, acc, ys, g.trans k3, R6, dpAll_mono k3 _ _ hd, by omega, hc⟩
            · cases hc
        · rw [List.drop_length] at hc
          unfold compG at hc
          cases hc
          obtain ⟨R5, j1, j2, j3, j4⟩ := R'.unlock
          have R6 := R.back R5 g no
          refine q _ H' G' g R6 ⟨l, acc, rfl, j1, hd, nF, j2, j3, fun i h => ?_⟩
          obtain ⟨m, w1, ws, w2⟩ := h
          have hni : i ∉ vs := fun hin => by
            rw [rstG_in (by rw [R5.len, R.len, wipe_length]) hin] at w1
            rw [noOwn_at no hin w1] at ws
            cases ws
          exact j4 i ⟨m, by rw [← rstG_out hni]; exact w1, ws, by rw [wipe_out hni]; exact w2⟩
    · exact q.elim
section
variable {X : Cx} {b : Bool} {elt tg iter : Expr} {ifs : List Expr} {scope : Scope} {pos : Pos} {t : Tg} {mi : M (List D)} {mt : M Bool} {me : M D}
theorem do_comp (own : List (Str × Nat)) (hc : X.calm = true) (hN : X.N.Nodup) (hi : DI b X tg iter mi) (ok : BlkOk X.N X.env.scope scope own)
    (hg : ∀ (s : Shared) (H : Hp) (C : Addr) (cl : List (Str × Addr)) (fp : List Addr), DGb b (X.blk s H scope (compEnvC scope cl C X.env) fp) tg t) (ht : ∀ (s : Shared) (H : Hp) (C : Addr) (cl : List (Str × Addr)) (fp : List Addr), DTs (X.blk s H scope (compEnvC scope cl C X.env) fp) ifs mt)
    (he : ∀ (s : Shared) (H : Hp) (C : Addr) (cl : List (Str × Addr)) (fp : List Addr), DP (X.blk s H scope (compEnvC scope cl C X.env) fp) elt me) (hv : ∀ i ∈ tgS t, i ∈ own.map (·.2)) (hs : ∀ x, foldedSetIterable iter X.env x = pure x := by intro _; rfl) :
    DO X (.ListComp elt [⟨tg, iter, ifs, 0⟩] scope pos) (compL (own.map (·.2)) t mi mt me) := fun W tk =>
  pe_imp (pe_lc (g := zGb b X t) (tt := zt X W0 rhoB mt) (te := zt X W0 rhoD me) hc hN (hi W tk) ok (fun s H C cl fp => hg s H C cl fp) (fun s H C cl fp => ht s H C cl fp W0 takes0) (fun s H C cl fp => he s H C cl fp W0 takes0) hs) fun σ H Q p => comp_run hv p
theorem ds_setComp (own : List (Str × Nat)) {i : Nat} {y : Str} {py spos : Pos} (hc : X.calm = true) (hN : X.N.Nodup) (hy : X.N[i]? = some y) (hyl : X.env.scope.names.lookup y = some .local) (hsw : swapsWith (.ListComp elt [⟨tg, iter, ifs, 0⟩] scope pos) (some (.Name y py)) spos.line X.env = pure true)
    (hi : DI b X tg iter mi) (ok : BlkOk X.N X.env.scope scope own)
    (hg : ∀ (s : Shared) (H : Hp) (C : Addr) (cl : List (Str × Addr)) (fp : List Addr), DGb b (X.blk s H scope (compEnvC scope cl C X.env) fp) tg t) (ht : ∀ (s : Shared) (H : Hp) (C : Addr) (cl : List (Str × Addr)) (fp : List Addr), DTs (X.blk s H scope (compEnvC scope cl C X.env) fp) ifs mt)
    (he : ∀ (s : Shared) (H : Hp) (C : Addr) (cl : List (Str × Addr)) (fp : List Addr), DP (X.blk s H scope (compEnvC scope cl C X.env) fp) elt me) (hv : ∀ i ∈ tgS t, i ∈ own.map (·.2)) (hs : ∀ x, foldedSetIterable iter X.env x = pure x := by intro _; rfl) :
    DS X (.Assign [.Name y py] (.ListComp elt [⟨tg, iter, ifs, 0⟩] scope pos) spos) (sSetO i (compL (own.map (·.2)) t mi mt me)) := fun W tk =>
  ps_imp (ps_setLc (g := zGb b X t) (tt := zt X W0 rhoB mt) (te := zt X W0 rhoD me) hc hN hy hyl hsw (hi W tk) ok (fun s H C cl fp => hg s H C cl fp) (fun s H C cl fp => ht s H C cl fp W0 takes0) (fun s H C cl fp => he s H C cl fp W0 takes0) hs) fun D σ H p =>
    comp_run (W := W) hv ((st_bnd (ρ := rhoO) p).imp fun v H1 ⟨r, F, G, Mu, Γ, R, h1, q⟩ => q _ H1 G (Same.refl _) (R.storeO h1 i))
end
end Z

set_option Elab.async false
set_option linter.all false
set_option maxRecDepth 100000
set_option autoImplicit false
set_option maxHeartbeats 1000000
namespace Z
open PySem PySem.Spec PyProof.Rows L2

/-- how a parameter is taken: read alone; kept; a list that is changed -/
inductive Pk where
  | v
  | p
  | m
inductive Out where
  | bad
  | ret (r : Rt) (ms : List D)
  | ex (c : Str) (x : D) (ms : List D)
def del (H : Hp) (Mu : Option Addr) : Hp := fun b => if Mu = some b then none else H b
theorem del_sub {H : Hp} {Mu : Option Addr} : Same (del H Mu) H := fun b o h => by
  unfold del at h
  split at h
  · cases h
  · exact h
theorem del_at {H : Hp} {Mu : Option Addr} {l : Addr} (h : Mu = some l) : del H Mu l = none := if_pos h
theorem del_ne {H : Hp} {Mu : Option Addr} {l : Addr} (h : Mu ≠ some l) : del H Mu l = H l := if_neg h
def ArgV (K : PySem.W.Frag) (G H : Hp) (Mu : Option Addr) (v : V) (x : D) : Prop := Dq K G v x ∨ ∃ l us ys, v = .ref l ∧ x = .list ys ∧ SqL K (del H Mu) l us ∧ DqAll K G us ys
def ArgM (K : PySem.W.Frag) (G H : Hp) (Mu : Option Addr) (v : V) (x : D) : Prop := ∃ l us ys, x = .list ys ∧ v = .ref l ∧ Mu = some l ∧ H l = some (.lst us) ∧ DqAll K G us ys ∧ G l = none
def ArgK (K : PySem.W.Frag) (G H : Hp) (Mu : Option Addr) : Pk → V → D → Prop
  | .v => ArgV K G H Mu
  | .p => Dq K G
  | .m => ArgM K G H Mu
def ArgsR (K : PySem.W.Frag) (G H : Hp) (Mu : Option Addr) : List Pk → List V → List D → Prop
  | [], vs, xs => vs = [] ∧ xs = []
  | k :: ks, vs, xs => ∃ v us x ys, vs = v :: us ∧ xs = x :: ys ∧ ArgK K G H Mu k v x ∧ ArgsR K G H Mu ks us ys
structure Post (K : PySem.W.Frag) (G H : Hp) (Mu : Option Addr) (G' H' : Hp) (ms : List D) : Prop where
  g : Same G G'
  gh : Same G' H'
  fr : Same (del H Mu) H'
  keep : ∀ b, H b ≠ none → G b = none → G' b = none
  mu : ∀ l, Mu = some l → ∃ us, H' l = some (.lst us) ∧ DqAll K G' us ms
def RetR (K : PySem.W.Frag) (H G' H' : Hp) (r : Rt) (v : V) : Prop := match r with
  | .d x => Dq K G' v x
  | .own xs => ∃ l us, v = .ref l ∧ H' l = some (.lst us) ∧ DqAll K G' us xs ∧ H l = none ∧ G' l = none
def outP (K : PySem.W.Frag) (mg : Str → Option Value) (G H : Hp) (Mu : Option Addr) (Q : VK) (E : XK) : Out → Prop
  | .bad => False
  | .ret r ms => ∀ v H' G', Post K G H Mu G' H' ms → RetR K H G' H' r v → Q v H'
  | .ex c x ms => ∀ C a v H' G', mg c = some (.ref C) → Post K G H Mu G' H' ms → H' a = some (.xd [("value", v)]) → Dq K G' v x → E (.ref C) (some a) H'
def hasM : List Pk → Bool
  | [] => false
  | .m :: _ => true
  | _ :: ks => hasM ks
def spF (K : PySem.W.Frag) (mg : Str → Option Value) (ks : List Pk) (φ : List D → Out) : Sp := fun vs H Q E => ∃ G Mu xs, Same G H ∧ (∀ l, Mu = some l → G l = none ∧ H l ≠ none) ∧ (hasM ks = false → Mu = none) ∧ ArgsR K G H Mu ks vs xs ∧ outP K mg G H Mu Q E (φ xs)

def svK : Pk → D → SV
  | .m, .list ys => .own true ys
  | .m, _ => .u
  | .p, x => .d x
  | .v, x => svA x
def svs : List Pk → List D → List SV
  | k :: ks, x :: xs => svK k x :: svs ks xs
  | _, _ => []
def start0 (n : Nat) (ks : List Pk) (xs : List D) : En := svs ks xs ++ List.replicate (n - ks.length) .u
def muOf : List Pk → En → Option (List D)
  | [], _ => some []
  | .m :: _, .own true ms :: _ => some ms
  | .v :: ks, _ :: g => muOf ks g
  | .p :: ks, _ :: g => muOf ks g
  | _, _ => none
def oneM : List Pk → Bool
  | [] => true
  | .m :: ks => !hasM ks
  | _ :: ks => oneM ks
def outM (ks : List Pk) (r : Rt) (g : En) : Out := match muOf ks g with
  | some ms => .ret r ms
  | none => .bad
/-- a def's answer -/
def runF (n : Nat) (ks : List Pk) (b : M Fl) (xs : List D) : Out := match b (start0 n ks xs) with
  | .ok .nx g => outM ks (.d .none) g
  | .ok (.rt r) g => outM ks r g
  | .ex c x g => match muOf ks g with
    | some ms => .ex c x ms
    | none => .bad
  | _ => .bad
section
variable {K : PySem.W.Frag} {G H : Hp} {Mu : Option Addr}
theorem args_len : ∀ {ks : List Pk} {vs : List V} {xs : List D}, ArgsR K G H Mu ks vs xs → vs.length = ks.length ∧ xs.length = ks.length ∧ (svs ks xs).length = ks.length
  | [], _, _, h => by
    obtain ⟨rfl, rfl⟩ := h
    exact ⟨rfl, rfl, rfl⟩
  | k :: ks, _, _, h => by
    obtain ⟨v, us, x, ys, rfl, rfl, _, h⟩ := h
    obtain ⟨a, b, c⟩ := args_len h
    refine ⟨by rw [List.length_cons, List.length_cons, a], by rw [List.length_cons, List.length_cons, b], ?_⟩
    show (svs ks ys).length + 1 = _
    rw [c, List.length_cons]
theorem args_get : ∀ {ks : List Pk} {vs : List V} {xs : List D} {i : Nat} {sv : SV}, ArgsR K G H Mu ks vs xs → (svs ks xs)[i]? = some sv → ∃ k v x, ks[i]? = some k ∧ vs[i]? = some v ∧ sv = svK k x ∧ ArgK K G H Mu k v x
  | [], _, _, _, _, h, e => by
    obtain ⟨rfl, rfl⟩ := h
    cases e
  | k :: ks, _, _, 0, sv, h, e => by
    obtain ⟨v, us, x, ys, rfl, rfl, h1, h⟩ := h
    have e' : some (svK k x) = some sv := e
    cases e'
    exact ⟨k, v, x, rfl, rfl, rfl, h1⟩
  | k :: ks, _, _, i + 1, sv, h, e => by
    obtain ⟨v, us, x, ys, rfl, rfl, h1, h⟩ := h
    obtain ⟨k', v', x', a, b, c, d⟩ := args_get (i := i) h (show (svs ks ys)[i]? = some sv from e)
    exact ⟨k', v', x', by simpa using a, by simpa using b, c, d⟩
theorem hasM_get : ∀ {ks : List Pk} {i : Nat}, ks[i]? = some .m → hasM ks = true
  | [], _, h => by simp at h
  | .m :: ks, _, _ => rfl
  | .v :: ks, 0, h => by simp at h
  | .p :: ks, 0, h => by simp at h
  | .v :: ks, i + 1, h => hasM_get (ks := ks) (i := i) (by simpa using h)
  | .p :: ks, i + 1, h => hasM_get (ks := ks) (i := i) (by simpa using h)
theorem oneM_eq : ∀ {ks : List Pk} {i j : Nat}, oneM ks = true → ks[i]? = some .m → ks[j]? = some .m → i = j
  | [], _, _, _, h, _ => by simp at h
  | _ :: _, 0, 0, _, _, _ => rfl
  | .m :: ks, 0, j + 1, h, _, e => by
    have := hasM_get (ks := ks) (i := j) (by simpa using e)
    simp [oneM, this] at h
  | .m :: ks, i + 1, 0, h, e, _ => by
    have := hasM_get (ks := ks) (i := i) (by simpa using e)
    simp [oneM, this] at h
  | .v :: ks, 0, j + 1, h, e, _ => by simp at e
  | .p :: ks, 0, j + 1, h, e, _ => by simp at e
  | .v :: ks, i + 1, 0, h, _, e => by simp at e
  | .p :: ks, i + 1, 0, h, _, e => by simp at e
  | .m :: ks, i + 1, j + 1, h, e, e2 => by
    have := hasM_get (ks := ks) (i := i) (by simpa using e)
    simp [oneM, this] at h
  | .v :: ks, i + 1, j + 1, h, e, e2 => by rw [oneM_eq (ks := ks) (i := i) (j := j) h (by simpa using e) (by simpa using e2)]
  | .p :: ks, i + 1, j + 1, h, e, e2 => by rw [oneM_eq (ks := ks) (i := i) (j := j) h (by simpa using e) (by simpa using e2)]
/-- the frame of a def that is called -/
def frD (G H : Hp) (Mu : Option Addr) : Fr where
  f := del H Mu
  a := del H Mu
  k := fun b => del H Mu b ≠ none ∧ G b = none
  af := Same.refl _
  kf := fun _ h => h.1
theorem start_at {N : List Str} {vs : List V} {i : Nat} {v : V} (h : vs[i]? = some v) : (L2.start N vs)[i]? = some (some v) := by
  unfold L2.start
  rw [List.getElem?_append_left (by rw [List.length_map]; exact (List.getElem?_eq_some_iff.mp h).1), List.getElem?_map, h]
  rfl
theorem svK_ow {k : Pk} {x : D} (h : (svK k x).ow = true) : k = .m := by
  cases k with
  | m => rfl
  | p => cases h
  | v =>
    cases x with
    | _ => cases h
theorem rel_start {N : List Str} {ks : List Pk} {vs : List V} {xs : List D} (gh : Same G H) (mu : ∀ l, Mu = some l → G l = none ∧ H l ≠ none) (a : ArgsR K G H Mu ks vs xs) (one : oneM ks = true) (hn : ks.length ≤ N.length) :
    Rel K (frD G H Mu) G Mu (start0 N.length ks xs) (L2.start N vs) H := by
  obtain ⟨l1, l2, l3⟩ := args_len a
  have get : ∀ {i : Nat} {sv : SV}, (start0 N.length ks xs)[i]? = some sv → (∃ k v x, ks[i]? = some k ∧ (L2.start N vs)[i]? = some (some v) ∧ sv = svK k x ∧ ArgK K G H Mu k v x) ∨ sv = .u := fun {i sv} e => by
    unfold start0 at e
    by_cases hi : i < (svs ks xs).length
    · rw [List.getElem?_append_left hi] at e
      obtain ⟨k, v, x, h1, h2, h3, h4⟩ := args_get a e
      exact .inl ⟨k, v, x, h1, start_at h2, h3, h4⟩
    · rw [List.getElem?_append_right (by omega), List.getElem?_replicate] at e
      split at e
      · cases e
        exact .inr rfl
      · cases e
  refine ⟨del_sub, fun l h => h.2, gh, fun l h => ⟨del_at h, mu l h⟩, ?_, fun i sv e => ?_, fun i j l ⟨m, a1, ys, a2⟩ ⟨m', b1, ys', b2⟩ => ?_⟩
  · unfold start0 L2.start
    rw [List.length_append, List.length_append, List.length_map, List.length_replicate, List.length_replicate, l3, l1]
  · rcases get e with ⟨k, v, x, h1, h2, rfl, h4⟩ | rfl
    · rw [h2]
      cases k with
      | p => exact ⟨v, rfl, h4⟩
      | m =>
        obtain ⟨l, us, ys, rfl, rfl, q1, q2, q3, q4⟩ := h4
        exact ⟨l, us, rfl, q2, q3, del_at q1, q4, fun _ => q1, fun z => nomatch z⟩
      | v =>
        rcases h4 with h4 | ⟨l, us, ys, rfl, rfl, q1, q2⟩
        · have hd := h4
          cases h4 with
          | lst q1 q2 =>
            rename_i l us ys
            refine ⟨l, us, rfl, ?_, q2⟩
            rcases q1 with (q1 | ⟨o, q1⟩) | q1
            · exact .inl (.inl ((del_ne fun z => by rw [(mu l z).1] at q1; cases q1).trans (gh _ _ q1)))
            · exact .inl (.inr ⟨o, (del_ne fun z => by rw [(mu l z).1] at q1; cases q1).trans (gh _ _ q1)⟩)
            · exact .inr q1
          | _ => exact ⟨_, rfl, hd⟩
        · exact ⟨l, us, rfl, q1, q2⟩
    · exact True.intro
  · rcases get a1 with ⟨k, v, x, h1, h2, h3, h4⟩ | z
    · rcases get b1 with ⟨k', v', x', i1, i2, i3, i4⟩ | z
      · subst h3
        subst i3
        obtain rfl := svK_ow ys
        obtain rfl := svK_ow ys'
        exact oneM_eq one h1 i1
      · subst z
        cases ys'
    · subst z
      cases ys
theorem mu_end {F : Fr} {G' H' : Hp} {l : Addr} (hM : Mu = some l) : ∀ {ks : List Pk} {Γ' : En} {σ' : St} {ms : List D}, hasM ks = true → Rel K F G' Mu Γ' σ' H' → muOf ks Γ' = some ms → ∃ us, H' l = some (.lst us) ∧ DqAll K G' us ms := by
  have key : ∀ {ks : List Pk} {g : En} {ms : List D}, hasM ks = true → muOf ks g = some ms → ∃ i : Nat, g[i]? = some (SV.own true ms) := by
    intro ks
    induction ks with
    | nil => intro g ms h; cases h
    | cons k ks ih =>
      intro g ms h e
      cases g with
      | nil => cases k <;> cases e
      | cons sv g =>
        cases k with
        | m =>
          cases sv with
          | own b ys =>
            cases b with
            | true =>
              cases e
              exact ⟨0, rfl⟩
            | false => cases e
          | _ => cases e
        | v =>
          obtain ⟨i, hi⟩ := ih h (show muOf ks g = some ms from e)
          exact ⟨i + 1, by simpa using hi⟩
        | p =>
          obtain ⟨i, hi⟩ := ih h (show muOf ks g = some ms from e)
          exact ⟨i + 1, by simpa using hi⟩
  intro ks Γ' σ' ms h R e
  obtain ⟨i, hi⟩ := key h e
  obtain ⟨l', us, _, h2, h3, _, _, h6, _⟩ := R.owned hi
  have := h6 rfl
  rw [hM] at this
  cases this
  exact ⟨us, h2, h3⟩
theorem post_of {G' H' : Hp} {ks : List Pk} {Γ' : En} {σ' : St} {ms : List D} (hm : hasM ks = false → Mu = none) (g : Same G G') (R : Rel K (frD G H Mu) G' Mu Γ' σ' H') (e : muOf ks Γ' = some ms) : Post K G H Mu G' H' ms where
  g := g
  gh := R.gh
  fr := R.fh
  keep := fun b h1 h2 => by
    by_cases hb : Mu = some b
    · exact (R.mu b hb).2.1
    · exact R.lk b ⟨by rw [del_ne hb]; exact h1, h2⟩
  mu := fun l h => by
    cases hh : hasM ks with
    | false =>
      rw [hm hh] at h
      cases h
    | true => exact mu_end h hh R e
end
section
variable {P : Program} {w : World} {K : PySem.W.Frag} {mg : Str → Option Value} {base : Heap}
/-- a def by its body -/
theorem fn_ok {x qual : Str} {stm : Stmt} {f : Addr} {fd : FuncData} {N ps : List Str} {k : Nat} {ks : List Pk} {m : M Fl} (Fn : Fun K x qual stm f fd) (S : FnScope N ps (defScope stm)) (hl : ks.length = ps.length) (one : oneM ks = true)
    (body : ∀ (cdv : Value) (A : Around) (outer : List Env) (s : Shared) (H : Hp) (E : XK), Room k (A.deeper (envOfC qual (defScope stm) s.heap.objs.size f cdv)) → DSs (cxOf (L2.CX P w) P w K mg base N qual (defScope stm) f cdv A outer s H E) (defBody stm) m) :
    FnOk P w K mg base (L2.CX P w) (k + 1) f fd ps (spF K mg ks (runF N.length ks m)) := by
  have hpl : ps.length ≤ N.length := by
    have := congrArg List.length S.pre
    rw [List.length_take] at this
    omega
  refine Fn.okX S (fun vs H Q E ⟨G, Mu, xs, _, _, _, a, _⟩ => by rw [(args_len a).1, hl]) fun cdv A outer s H vs Q E hr ⟨G, Mu, xs, gh, mu, hm, a, q⟩ => ?_
  refine ⟨_, body cdv A outer s H E hr (fun cls d _ H => E cls d H) (takes_of rfl rfl rfl rfl), frD G H Mu, G, Mu, start0 N.length ks xs, rel_start gh mu a one (by omega), ?_⟩
  unfold runF at q
  have ret : ∀ {r : Rt} {Γ' : En}, outP K mg G H Mu Q E (outM ks r Γ') → ∀ v σ' H' G', Same G G' → Rel K (frD G H Mu) G' Mu Γ' σ' H' → rhoT K (frD G H Mu) G' Mu Γ' σ' H' r v → Q v H' := fun {r Γ'} q v σ' H' G' g R h => by
    unfold outM at q
    cases e : muOf ks Γ' with
    | none => rw [e] at q; exact q.elim
    | some ms =>
      rw [e] at q
      refine q v H' G' (post_of hm g R e) ?_
      cases r with
      | d x => exact h
      | own ys =>
        obtain ⟨l, us, rfl, h1, h2, h3, h4, h5, _⟩ := h
        exact ⟨l, us, rfl, h1, h2, by rw [show (frD G H Mu) l = del H Mu l from rfl, del_ne h5] at h3; exact h3, h4⟩
  cases e : m (start0 N.length ks xs) with
  | bad => rw [e] at q; exact q.elim
  | ok fl Γ' =>
    rw [e] at q
    cases fl with
    | nx => exact fun σ' H' G' g R => ret q .non σ' H' G' g R .non
    | rt r => exact fun v σ' H' G' g R h => ret q v σ' H' G' g R h
    | bk => exact q.elim
    | ct => exact q.elim
  | ex c z Γ' =>
    rw [e] at q
    intro C ad v σ' H' G' h1 g R h2 h3
    dsimp only at q
    cases e2 : muOf ks Γ' with
    | none => rw [e2] at q; exact q.elim
    | some ms =>
      rw [e2] at q
      exact q C ad v H' G' h1 (post_of hm g R e2) h2 h3
end

def mIx : List Pk → List Rs → Option Nat
  | .m :: _, .sl i :: _ => some i
  | _ :: ks, _ :: rs => mIx ks rs
  | _, _ => none
def argD (g : En) (mi : Option Nat) : List Pk → List Rs → Option (List D)
  | [], [] => some []
  | k :: ks, r :: rs => match argD g mi ks rs with
    | none => none
    | some xs => match k, r with
      | .m, .sl i => match g[i]? with
        | some (.own _ ys) => if mi = some i then some (.list ys :: xs) else none
        | _ => none
      | .v, .d x => some (x :: xs)
      | .v, .sl i => if mi = some i then none else match vl g (.sl i) with
        | some x => some (x :: xs)
        | none => none
      | .p, .d x => some (x :: xs)
      | _, _ => none
  | _, _ => none
def putM (mi : Option Nat) (ms : List D) (g : En) : En := match mi with
  | none => g
  | some i => match g[i]? with
    | some (.own b _) => g.set i (.own b ms)
    | _ => g
def callM (ks : List Pk) (φ : List D → Out) (rs : List Rs) : M Rt := fun g => match argD g (mIx ks rs) ks rs with
  | none => .bad
  | some xs => match φ xs with
    | .bad => .bad
    | .ret r ms => .ok r (putM (mIx ks rs) ms g)
    | .ex c x ms => .ex c x (putM (mIx ks rs) ms g)
section
variable {K : PySem.W.Frag} {F : Fr} {G H : Hp} {Mu : Option Addr} {Γ : En} {σ : St}
def muA (σ : St) (mi : Option Nat) : Option Addr := match mi with
  | none => none
  | some i => match σ[i]? with
    | some (some (.ref l)) => some l
    | _ => none
theorem muA_own {mi : Option Nat} (hmi : ∀ i, mi = some i → ∃ b ys, Γ[i]? = some (.own b ys)) {l : Addr} (h : muA σ mi = some l) : ∃ j, mi = some j ∧ Owns Γ σ j l := by
  unfold muA at h
  split at h
  · cases h
  · rename_i j
    split at h
    · rename_i l' hl
      cases h
      obtain ⟨b, ys, e⟩ := hmi j rfl
      exact ⟨j, rfl, _, e, rfl, hl⟩
    · cases h
theorem argsM (R : Rel K F G Mu Γ σ H) {mi : Option Nat} (hmi : ∀ i, mi = some i → ∃ b ys, Γ[i]? = some (.own b ys)) : ∀ {ks : List Pk} {rs : List Rs} {vs : List V} {xs : List D}, RsAll K G σ rs vs → argD Γ mi ks rs = some xs → ArgsR K G H (muA σ mi) ks vs xs
  | [], [], _, _, h, e => by
    cases e
    exact ⟨h, rfl⟩
  | [], _ :: _, _, _, _, e => by cases e
  | _ :: _, [], _, _, _, e => by cases e
  | k :: ks, r :: rs, _, _, h, e => by
    obtain ⟨v, us, rfl, h1, h2⟩ := h
    unfold argD at e
    split at e
    · cases e
    · rename_i ys e1
      have ih := argsM R hmi h2 e1
      split at e
      · rename_i i
        split at e
        · rename_i b zs hg
          split at e
          · rename_i hm
            cases e
            obtain ⟨l, ws, k1, k2, k3, k4, k5, _⟩ := R.owned hg
            have h1' : σ[i]? = some (some v) := h1
            rw [h1'] at k1
            cases k1
            refine ⟨_, us, _, ys, rfl, rfl, ⟨l, ws, zs, rfl, rfl, ?_, k2, k3, k5⟩, ih⟩
            rw [hm]
            unfold muA
            dsimp only
            rw [h1']
          · cases e
        · cases e
      · rename_i x
        cases e
        exact ⟨v, us, x, ys, rfl, rfl, .inl h1, ih⟩
      · rename_i i
        split at e
        · cases e
        · rename_i hm
          have h1' : σ[i]? = some (some v) := h1
          split at e
          · rename_i x hx
            cases e
            refine ⟨v, us, x, ys, rfl, rfl, ?_, ih⟩
            unfold vl at hx
            dsimp only at hx
            split at hx
            · rename_i y hg
              cases hx
              obtain ⟨v', w1, w2⟩ := R.data hg
              rw [h1'] at w1
              cases w1
              exact .inl w2
            · rename_i zs hg
              cases hx
              obtain ⟨l, ws, w1, w2, w3⟩ := R.arg hg
              rw [h1'] at w1
              cases w1
              refine .inr ⟨l, ws, zs, rfl, rfl, ?_, w3⟩
              have hne : ∀ o, F.a l = some o → muA σ mi ≠ some l := fun o w z => by
                obtain ⟨j, _, oj⟩ := muA_own hmi z
                have := F.af _ _ w
                rw [(R.there oj).1] at this
                cases this
              rcases w2 with (w2 | ⟨o, w2⟩) | w2
              · exact .inl (.inl ((del_ne (hne _ w2)).trans (R.fh _ _ (F.af _ _ w2))))
              · exact .inl (.inr ⟨o, (del_ne (hne _ w2)).trans (R.fh _ _ (F.af _ _ w2))⟩)
              · exact .inr w2
            · rename_i b zs hg
              cases hx
              obtain ⟨l, ws, w1, w2, w3, _, _, _, _, ow⟩ := R.owned hg
              rw [h1'] at w1
              cases w1
              refine .inr ⟨l, ws, zs, rfl, rfl, .inl (.inl ((del_ne fun z => ?_).trans w2)), w3⟩
              obtain ⟨j, hj, oj⟩ := muA_own hmi z
              exact hm (by rw [hj, R.sep i j l ow oj])
            · cases hx
          · cases e
      · rename_i x
        cases e
        exact ⟨v, us, x, ys, rfl, rfl, h1, ih⟩
      · cases e
theorem mIx_no : ∀ {ks : List Pk} {rs : List Rs}, hasM ks = false → mIx ks rs = none
  | [], _, _ => by unfold mIx; rfl
  | .m :: _, _, h => by cases h
  | .v :: ks, [], _ => rfl
  | .p :: ks, [], _ => rfl
  | .v :: ks, r :: rs, h => mIx_no (ks := ks) (rs := rs) h
  | .p :: ks, r :: rs, h => mIx_no (ks := ks) (rs := rs) h
theorem mIx_own {g : En} {mi : Option Nat} : ∀ {ks : List Pk} {rs : List Rs} {xs : List D}, argD g mi ks rs = some xs → ∀ i, mIx ks rs = some i → ∃ b ys, g[i]? = some (.own b ys)
  | [], _, _, _, _, h => by
    unfold mIx at h
    cases h
  | k :: ks, [], _, e, _, h => by
    cases e
  | k :: ks, r :: rs, xs, e, i, h => by
    unfold argD at e
    split at e
    · cases e
    · rename_i ys e1
      split at e
      · rename_i j
        cases h
        split at e
        · rename_i b zs hg
          exact ⟨b, zs, hg⟩
        · cases e
      · exact mIx_own e1 i h
      · exact mIx_own e1 i h
      · exact mIx_own e1 i h
      · cases e
theorem putM_len {mi : Option Nat} {ms : List D} : (putM mi ms Γ).length = Γ.length := by
  unfold putM
  split
  · rfl
  · split
    · rw [List.length_set]
    · rfl
/-- behind a call -/
theorem Rel.called {G' H' : Hp} {ms : List D} {mi : Option Nat} (R : Rel K F G Mu Γ σ H) (hmi : ∀ i, mi = some i → ∃ b ys, Γ[i]? = some (.own b ys)) (p : Post K G H (muA σ mi) G' H' ms) : Rel K F G' Mu (putM mi ms Γ) σ H' := by
  have same : ∀ {l : Addr} {o : HO}, H l = some o → muA σ mi ≠ some l → H' l = some o := fun {l o} h n => p.fr _ _ ((del_ne n).trans h)
  have at_own : ∀ {i : Nat} {l : Addr}, Owns Γ σ i l → mi ≠ some i → muA σ mi ≠ some l := fun {i l} h n z => by
    obtain ⟨j, hj, oj⟩ := muA_own hmi z
    exact n (by rw [hj, R.sep i j l h oj])
  have own' : ∀ {i : Nat} {l : Addr}, Owns (putM mi ms Γ) σ i l → Owns Γ σ i l := fun {i l} ⟨m, h1, xs, h2⟩ => by
    unfold putM at h1
    split at h1
    · exact ⟨m, h1, xs, h2⟩
    · rename_i j _
      split at h1
      · rename_i b ys hg
        by_cases e : j = i
        · subst e
          exact ⟨_, hg, rfl, h2⟩
        · rw [List.getElem?_set_ne e] at h1
          exact ⟨m, h1, xs, h2⟩
      · exact ⟨m, h1, xs, h2⟩
  refine ⟨fun b o h => same (R.fh b o h) fun z => ?_, fun b h => ?_, p.gh, fun l h => ?_, by rw [putM_len, R.len], fun i sv e => ?_, fun i j l a b => R.sep i j l (own' a) (own' b)⟩
  · obtain ⟨j, _, oj⟩ := muA_own hmi z
    rw [(R.there oj).1] at h
    cases h
  · refine p.keep b (fun z => ?_) (R.lk b h)
    obtain ⟨o, w⟩ := Option.ne_none_iff_exists'.mp (F.kf b h)
    rw [R.fh b o w] at z
    cases z
  · obtain ⟨m1, m2, m3⟩ := R.mu l h
    refine ⟨m1, p.keep l m3 m2, ?_⟩
    by_cases hl : muA σ mi = some l
    · obtain ⟨us, h1, _⟩ := p.mu l hl
      rw [h1]
      exact fun z => nomatch z
    · obtain ⟨o, w⟩ := Option.ne_none_iff_exists'.mp m3
      rw [same w hl]
      exact fun z => nomatch z
  · have old : Γ[i]? = some sv → mi ≠ some i → SlotRel K F G' H' Mu sv (σ[i]?.join) := fun e hn => by
      have q := R.sl i sv e
      cases sv with
      | u => exact True.intro
      | d x =>
        obtain ⟨v, h1, h2⟩ := q
        exact ⟨v, h1, dp_mono p.g _ _ h2⟩
      | a xs =>
        obtain ⟨l, us, h1, h2, h3⟩ := q
        exact ⟨l, us, h1, h2, dpAll_mono p.g _ _ h3⟩
      | own m xs =>
        obtain ⟨l, us, h1, h2, h3, h4, h5, h6, h7⟩ := q
        have ow : Owns Γ σ i l := ⟨_, e, rfl, join_some h1⟩
        exact ⟨l, us, h1, same h2 (at_own ow hn), dpAll_mono p.g _ _ h3, h4, p.keep l (by rw [h2]; exact fun z => nomatch z) h5, h6, h7⟩
      | dk ds =>
        obtain ⟨l, es, h1, h2, h3, h4, h5, h6⟩ := q
        have ow : Owns Γ σ i l := ⟨_, e, rfl, join_some h1⟩
        exact ⟨l, es, h1, same h2 (at_own ow hn), dkAll_up p.g h3, h4, p.keep l (by rw [h2]; exact fun z => nomatch z) h5, h6⟩
    unfold putM at e
    split at e
    · exact old e (fun z => nomatch z)
    · rename_i j
      obtain ⟨b, ys, hg⟩ := hmi j rfl
      rw [hg] at e
      dsimp only at e
      by_cases hji : j = i
      · subst hji
        rw [List.getElem?_set_self (List.getElem?_eq_some_iff.mp hg).1] at e
        cases e
        obtain ⟨l, us, h1, h2, h3, h4, h5, h6, h7, ow⟩ := R.owned hg
        have hl : muA σ (some j) = some l := by
          unfold muA
          dsimp only
          rw [h1]
        obtain ⟨ws, w1, w2⟩ := p.mu l hl
        exact ⟨l, ws, by rw [h1]; rfl, w1, w2, h4, p.keep l (by rw [h2]; exact fun z => nomatch z) h5, h6, h7⟩
      · rw [List.getElem?_set_ne hji] at e
        exact old e (fun z => hji (by cases z; rfl))
end
def DR (X : Cx) (e : Expr) (m : M Rt) : Prop := ∀ W, Takes X W → PE X e (zt X W rhoT m)
section
variable {X : Cx} {W : WX} {σ : St} {F : Fr} {G H : Hp} {Mu : Option Addr} {Γ : En} {Q : VK}
theorem call_end {ks : List Pk} {φ : List D → Out} {rs : List Rs} {vs : List V} (R : Rel X.K F G Mu Γ σ H) (h : RsAll X.K G σ rs vs) (q : zpost X W σ rhoT F G Mu Q (callM ks φ rs Γ)) : spF X.K X.mg ks φ vs H Q (WE W σ) := by
  unfold callM at q
  split at q
  · exact q.elim
  · rename_i xs e
    have hmi := mIx_own e
    have ar := argsM R hmi h e
    refine ⟨G, muA σ (mIx ks rs), xs, R.gh, fun l hl => ?_, fun hm => by rw [mIx_no hm]; rfl, ar, ?_⟩
    · obtain ⟨j, _, oj⟩ := muA_own hmi hl
      obtain ⟨_, h2, us, h3⟩ := R.there oj
      exact ⟨h2, by rw [h3]; exact fun z => nomatch z⟩
    · split at q
      · exact q.elim
      · rename_i r ms e2
        rw [e2]
        intro v H' G' p hr
        refine q v H' G' p.g (R.called hmi p) ?_
        cases r with
        | d x => exact hr
        | own ys =>
          obtain ⟨l, us, rfl, h1, h2, h3, h4⟩ := hr
          have R' := R.called hmi p
          refine ⟨l, us, rfl, h1, h2, R.fh.free h3, h4, fun z => (R.mu l z).2.2 h3, fun i hi => ?_⟩
          obtain ⟨m, w1, ws, w2⟩ := hi
          have : ∃ sv : SV, Γ[i]? = some sv ∧ sv.ow = true := by
            unfold putM at w1
            split at w1
            · exact ⟨m, w1, ws⟩
            · rename_i j _
              split at w1
              · rename_i b zs hg
                by_cases hji : j = i
                · subst hji
                  exact ⟨_, hg, rfl⟩
                · rw [List.getElem?_set_ne hji] at w1
                  exact ⟨m, w1, ws⟩
              · exact ⟨m, w1, ws⟩
          obtain ⟨m', w3, ws'⟩ := this
          obtain ⟨_, _, us', w4⟩ := R.there (i := i) (l := l) ⟨m', w3, ws', w2⟩
          rw [h3] at w4
          cases w4
      · rename_i c x ms e2
        rw [e2]
        exact fun C a v H' G' h1 p h2 h3 => q C a v H' G' h1 p.g (R.called hmi p) h2 h3
end
end Z

set_option Elab.async false
set_option linter.all false
set_option maxRecDepth 100000
set_option autoImplicit false
set_option maxHeartbeats 1000000
namespace Z
open PySem PySem.Spec PyProof.Rows L2

structure FnP (P : Program) (w : World) (K : PySem.W.Frag) (mg : Str → Option Value) (base : Heap) (x : Str) (st : Stmt) (k : Nat) (ps : List Str) (ks : List Pk) (φ : List D → Out) : Prop where
  ex : ∃ f fd qual, Fun K x qual st f fd ∧ mg x = some (.ref f) ∧ FnOk P w K mg base (L2.CX P w) k f fd ps (spF K mg ks φ) ∧ Binds K fd ps []
theorem FnP.mono {P : Program} {w : World} {K : PySem.W.Frag} {mg : Str → Option Value} {base : Heap} {x : Str} {st : Stmt} {j k : Nat} {ps : List Str} {ks : List Pk} {φ : List D → Out} (F : FnP P w K mg base x st j ps ks φ) (h : j ≤ k) : FnP P w K mg base x st k ps ks φ := by
  obtain ⟨f, fd, qual, a, b, c, d⟩ := F.ex
  exact ⟨f, fd, qual, a, b, c.mono h, d⟩
/-- keywords, and positions ahead of them: how the values come to the parameters' order -/
def pick {α : Type} (pm : List Nat) (xs : List α) : List α := pm.filterMap (xs[·]?)
theorem vals_get : ∀ {vs : List V} {us : List Value} {i : Nat}, Vals vs us → (∃ v u, vs[i]? = some v ∧ us[i]? = some u ∧ RelV v u) ∨ (vs[i]? = none ∧ us[i]? = none)
  | _, _, _, .nil => .inr ⟨rfl, rfl⟩
  | _, _, 0, .cons a _ => .inl ⟨_, _, rfl, rfl, a⟩
  | _, _, i + 1, .cons _ b => by
    rcases vals_get (i := i) b with ⟨v, u, h1, h2, h3⟩ | ⟨h1, h2⟩
    · exact .inl ⟨v, u, by simpa using h1, by simpa using h2, h3⟩
    · exact .inr ⟨by simpa using h1, by simpa using h2⟩
theorem vals_pick {vs : List V} {us : List Value} (h : Vals vs us) : ∀ pm : List Nat, Vals (pick pm vs) (pick pm us)
  | [] => .nil
  | i :: pm => by
    unfold pick
    rcases vals_get (i := i) h with ⟨v, u, h1, h2, h3⟩ | ⟨h1, h2⟩
    · rw [List.filterMap_cons_some h1, List.filterMap_cons_some h2]
      exact .cons h3 (vals_pick h pm)
    · rw [List.filterMap_cons_none h1, List.filterMap_cons_none h2]
      exact vals_pick h pm
theorem rsAll_len {K : PySem.W.Frag} {G : Hp} {σ : St} : ∀ {rs : List Rs} {vs : List V}, RsAll K G σ rs vs → rs.length = vs.length
  | [], _, h => by rw [show _ = [] from h]; rfl
  | r :: rs, _, h => by
    obtain ⟨v, us, rfl, _, h2⟩ := h
    rw [List.length_cons, List.length_cons, rsAll_len h2]
theorem rsAll_get {K : PySem.W.Frag} {G : Hp} {σ : St} : ∀ {rs : List Rs} {vs : List V} {i : Nat}, RsAll K G σ rs vs → (∃ r v, rs[i]? = some r ∧ vs[i]? = some v ∧ (match r with | .d x => Dq K G v x | .sl i => σ[i]? = some (some v))) ∨ (rs[i]? = none ∧ vs[i]? = none)
  | [], _, _, h => by
    rw [show _ = [] from h]
    exact .inr ⟨rfl, rfl⟩
  | r :: rs, _, 0, h => by
    obtain ⟨v, us, rfl, h1, _⟩ := h
    exact .inl ⟨r, v, rfl, rfl, h1⟩
  | r :: rs, _, i + 1, h => by
    obtain ⟨v, us, rfl, _, h2⟩ := h
    rcases rsAll_get (i := i) h2 with ⟨r', v', a, b, c⟩ | ⟨a, b⟩
    · exact .inl ⟨r', v', by simpa using a, by simpa using b, c⟩
    · exact .inr ⟨by simpa using a, by simpa using b⟩
theorem rsAll_pick {K : PySem.W.Frag} {G : Hp} {σ : St} {rs : List Rs} {vs : List V} (h : RsAll K G σ rs vs) : ∀ pm : List Nat, RsAll K G σ (pick pm rs) (pick pm vs)
  | [] => rfl
  | i :: pm => by
    unfold pick
    rcases rsAll_get (i := i) h with ⟨r, v, h1, h2, h3⟩ | ⟨h1, h2⟩
    · rw [List.filterMap_cons_some h1, List.filterMap_cons_some h2]
      exact ⟨v, _, rfl, h3, rsAll_pick h pm⟩
    · rw [List.filterMap_cons_none h1, List.filterMap_cons_none h2]
      exact rsAll_pick h pm
theorem rsAll_append {K : PySem.W.Frag} {G : Hp} {σ : St} : ∀ {rs : List Rs} {vs : List V} {rs' : List Rs} {vs' : List V}, RsAll K G σ rs vs → RsAll K G σ rs' vs' → RsAll K G σ (rs ++ rs') (vs ++ vs')
  | [], _, _, _, h, k => by
    rw [show _ = [] from h]
    exact k
  | r :: rs, _, _, _, h, k => by
    obtain ⟨v, us, rfl, h1, h2⟩ := h
    exact ⟨v, us ++ _, rfl, h1, rsAll_append h2 k⟩
def callP (ks : List Pk) (φ : List D → Out) (m : M (List Rs)) : M Rt := bnd m (callM ks φ)
def callK (ks : List Pk) (φ : List D → Out) (pm : List Nat) (m n : M (List Rs)) : M Rt := bnd m fun rs => bnd n fun rs' => callM ks φ (pick pm (rs ++ rs'))
/-- the values of keywords -/
def DKs (X : Cx) (kws : List Keyword) (m : M (List Rs)) : Prop := ∀ W, Takes X W → PK X kws (zt X W rhoRs m)
theorem pk_imp {X : Cx} {kws : List Keyword} {t t' : TA} (p : PK X kws t) (h : ∀ σ H Q, t' σ H Q → t σ H Q) : PK X kws t' := ⟨fun pos pins s σ H Q I q => p.run pos pins s σ H Q I (h σ H Q q)⟩
section
variable {X : Cx} {kws : List Keyword} {nm : Option Str} {e : Expr} {es : List Expr} {kpos p pos : Pos} {x : Str} {st : Stmt} {k : Nat} {ps : List Str} {ks : List Pk} {φ : List D → Out}
theorem dks_nil : DKs X [] vNil := fun W _ => pk_imp pk_nil fun σ H Q ⟨F, G, Mu, Γ, R, p⟩ => zpost_ok R (show rhoRs _ _ _ _ _ _ _ [] [] from rfl) p
theorem dks_cons {m : M Rs} {n : M (List Rs)} (h : DV X e m) (k : DKs X kws n) : DKs X (⟨nm, e, kpos⟩ :: kws) (vCons m n) := fun W tk => by
  refine pk_imp (pk_cons (h W tk) (k W tk)) fun σ H Q p => ?_
  refine (zt_bnd2 (ρ := rhoR) (ρ' := rhoRs) stR p).imp fun v H1 q => q.imp fun vs H2 ⟨x, xs, F, G, Mu, Γ, R, h1, h2, q2⟩ => ?_
  exact zpost_ok R (show rhoRs _ _ _ _ _ _ _ (x :: xs) (v :: vs) from ⟨v, vs, rfl, h1, h2⟩) q2
theorem dr_fn (F : FnP X.prog X.w X.K X.mg X.base x st k ps ks φ) (hr : Room k X.A) (hg : Gl X x) {m : M (List Rs)} (ha : DVs X (e :: es) m)
    (hdb : (x == ("__debug__" : Str)) = false := by decide) (he : starEach (e :: es) X.env = (false, eval e X.env) :: starEach es X.env := by rfl) (hpl : (backTo pos (starEach es X.env)).any (·.1) = false := by rfl) :
    DR X (.Call (.Name x p) (e :: es) [] pos) (callP ks φ m) := fun W tk => by
  obtain ⟨f, fd, qual, f1, f2, f3, f4⟩ := F.ex
  refine pe_imp (pe_callS f3 hr hg f2 f1.kp f4 (passAt tk) (ha W tk) hdb he hpl) fun σ H Q p => ?_
  exact (zt_bnd (ρ := rhoRs) p).imp fun vs H1 ⟨rs, F, G, Mu, Γ, R, h1, q⟩ => call_end R h1 q
theorem run_kw {W : WX} {pins : List (Addr × Obj)} {σ : St} {H : Hp} {s : Shared} {Q : VK} {f : Addr} {fd : FuncData} {us ws : List Value} {vs zs : List V} {kn : List Str} {pm : List Nat} {sp : Sp} (F : FnOk X.prog X.w X.K X.mg X.base (L2.CX X.prog X.w) k f fd ps sp) (hr : Room k X.A) (tk : Takes X W)
    (hb : BindsTo s fd ⟨us, kn.zip ws⟩ (ps.zip (pick pm (us ++ ws)))) (I : Inv X pins σ H s) (r : Vals vs us) (rz : Vals zs ws) (h : sp (pick pm (vs ++ zs)) H Q (WE W σ)) : wpAny (model X.prog X.w) X.A (call (.ref f) us (kn.zip ws)) (EP X pins σ Q) X.xe s := by
  refine wpAny_call (codeAny_mono (F.run X.A X.stack s H ⟨us, kn.zip ws⟩ _ _ Q (WE W σ) hr I.env0 hb (vals_pick (r.append rz) pm) h) fun r s' hq => ?_)
  cases r with
  | error e => exact passAt tk σ pins H s e s' I hq
  | ok fl =>
    cases fl with
    | ret u => exact I.after hq
    | next => exact False.elim hq
    | brk => exact False.elim hq
    | cont => exact False.elim hq
theorem dr_fnK0 (F : FnP X.prog X.w X.K X.mg X.base x st k ps ks φ) (hr : Room k X.A) (hg : Gl X x) (kn : List Str) (pm : List Nat) {n : M (List Rs)} (hkw : DKs X kws n)
    (hb : ∀ (qual : Str) (kV doc pm' : Value) (an : Option Addr) (cdv ct : Value) (ws : List Value), ws.length = kn.length → bindArgs (PySem.W.fnOf x qual (defArgs st) (defBody st) (defScope st) .none kV doc pm' an cdv ct) ⟨[], kn.zip ws⟩ = pure (ps.zip (pick pm ([] ++ ws))))
    (hall : (backToKw pos (keywordEach kws X.env)).all (·.1.isSome) = true := by rfl) (hks : (backToKw pos (keywordEach kws X.env)).filterMap (·.1) = kn := by rfl)
    (hln : ∀ W σ H Q, Takes X W → zt X W rhoRs n σ H Q → zt X W rhoRs n σ H fun vs H' => vs.length = kn.length ∧ Q vs H')
    (hdb : (x == ("__debug__" : Str)) = false := by decide)
    (hpl : ((backTo pos (starEach [] X.env)).any (·.1) || (backToKw pos (keywordEach kws X.env)).any (·.1.isNone)) = false := by rfl) :
    DR X (.Call (.Name x p) [] kws pos) (callK ks φ pm vNil n) := fun W tk => by
  obtain ⟨f, fd, qual, f1, f2, f3, f4⟩ := F.ex
  obtain ⟨oc, od, kV, doc, pm', an, cdv, ct, osl, efd, lk, hcd⟩ := f1.ex
  refine ⟨fun pins s σ H Q I q => ?_⟩
  refine wpAny_Call_Name_kw (ld_glob I hg f2 ?_ hdb)
  have q1 : zt X W rhoRs n σ H fun zs H2 => spF X.K X.mg ks φ (pick pm ([] ++ zs)) H2 Q (WE W σ) :=
    (zt_bnd (ρ := rhoRs) (m := n) (f := fun rs' => callM ks φ (pick pm ([] ++ rs'))) q).imp fun zs H2 ⟨rs', F, G, Mu, Γ, R, h2, q2⟩ => call_end R (rsAll_pick (rsAll_append (rs := []) (vs := []) rfl h2) pm) q2
  refine PySem.W.callWith_KW0 (h₀ := X.base) I.ok.mod.kin f1.kp hall ?_ hpl
  refine thn ((hkw W tk).run pos pins s σ H _ I (hln W σ H _ tk q1)) fun ws s2 ⟨zs, H2, I2, rz, l2, q2⟩ => ⟨I2.kIn, ?_⟩
  rw [hks]
  exact run_kw (us := []) (vs := []) f3 hr tk (.of_eq (by rw [efd]; exact hb qual kV doc pm' an cdv ct ws (by rw [← rz.length, l2]))) I2 .nil rz q2
end
/-- how many values a list of arguments gives -/
def Len (n : Nat) (m : M (List Rs)) : Prop := ∀ g rs g', m g = .ok rs g' → rs.length = n
theorem len_nil : Len 0 vNil := fun g rs g' e => by
  cases e
  rfl
theorem len_cons {m : M Rs} {k : M (List Rs)} {n : Nat} (h : Len n k) : Len (n + 1) (vCons m k) := fun g rs g' e => by
  unfold vCons bnd at e
  cases e1 : m g with
  | bad => rw [e1] at e; cases e
  | ex c x g1 => rw [e1] at e; cases e
  | ok x g1 =>
    rw [e1] at e
    dsimp only at e
    cases e2 : k g1 with
    | bad => rw [e2] at e; cases e
    | ex c x g1 => rw [e2] at e; cases e
    | ok xs g2 =>
      rw [e2] at e
      cases e
      rw [List.length_cons, h _ _ _ e2]
theorem len_zt {X : Cx} {W : WX} {σ : St} {H : Hp} {m : M (List Rs)} {n : Nat} {Q : List V → Hp → Prop} (h : Len n m) (p : zt X W rhoRs m σ H Q) : zt X W rhoRs m σ H fun vs H' => vs.length = n ∧ Q vs H' := by
  obtain ⟨F, G, Mu, Γ, R, q⟩ := p
  refine ⟨F, G, Mu, Γ, R, ?_⟩
  cases e : m Γ with
  | bad => rw [e] at q; exact q
  | ex c x Γ1 => rw [e] at q; exact q
  | ok rs Γ1 =>
    rw [e] at q
    exact fun vs H1 G1 k1 R1 k2 => ⟨by rw [← rsAll_len k2, h Γ rs Γ1 e], q vs H1 G1 k1 R1 k2⟩

def rtD : Rt → M D
  | .d x => rt x
  | .own xs => rt (.list xs)
def rtO : Rt → M (List D)
  | .own xs => rt xs
  | _ => fun _ => .bad
def rD (m : M Rt) : M D := bnd m rtD
def rO (m : M Rt) : M (List D) := bnd m rtO
def msR (m : M Rt) (n : M (List Rt)) : M (List Rt) := bnd m fun r => bnd n fun rs => rt (r :: rs)
def sExprR (m : M Rt) : M Fl := bnd m fun _ => sNx
def sRetR (m : M Rt) : M Fl := bnd m fun r => fun g => .ok (.rt r) g
def sSetR (i : Nat) (m : M Rt) : M Fl := bnd m fun r => fun g => match r with
  | .d x => .ok .nx (g.set i (.d x))
  | .own xs => .ok .nx (g.set i (.own false xs))
section
variable {X : Cx} {e : Expr} {es : List Expr} {pos pos' : Pos} {x : Str} {i : Nat}
theorem dp_ofR {m : M Rt} (h : DR X e m) : DP X e (rD m) := fun W tk => pe_imp (h W tk) fun σ H Q p => (zt_bnd (ρ := rhoT) p).imp fun v H1 ⟨r, F, G, Mu, Γ, R, h1, q⟩ => by
  cases r with
  | d x => exact zpost_ok R (show rhoD _ _ _ _ _ _ _ x v from h1) q
  | own xs =>
    obtain ⟨G', k1, R', k2⟩ := R.keep (show rhoO _ _ _ _ _ _ _ xs v from h1)
    exact q v H1 G' k1 R' k2
theorem dms_r {m : M Rt} {n : M (List Rt)} (h : DR X e m) (k : DMs X es n) (hs : starEach (e :: es) X.env = (false, eval e X.env) :: starEach es X.env := by rfl) : DMs X (e :: es) (msR m n) := fun W tk => by
  refine pa_imp (pa_cons (h W tk) (k W tk) hs) fun σ H Q p => ?_
  refine (zt_bnd (ρ := rhoT) p).imp fun v H1 ⟨r, F, G, Mu, Γ, R, h1, q⟩ => ?_
  cases r with
  | d x =>
    refine ⟨F, G, Mu, Γ, R, ?_⟩
    unfold bnd at q
    cases e1 : n Γ with
    | bad => rw [e1] at q; exact q
    | ex c y Γ1 => rw [e1] at q; exact q
    | ok rs Γ1 =>
      rw [e1] at q
      exact fun vs H2 G2 k1 R2 k2 => q (v :: vs) H2 G2 k1 R2 ⟨v, vs, rfl, dp_mono k1 _ _ h1, k2⟩
  | own xs =>
    obtain ⟨l, us, ev, o1, o2, o3, o4, o5, o6⟩ := (show rhoO _ _ _ _ _ _ _ xs v from h1)
    subst ev
    refine ⟨F.lock l _ o3, G, Mu, Γ, R.lock o3 o1 o4 o5 o6, ?_⟩
    unfold bnd at q
    cases e1 : n Γ with
    | bad => rw [e1] at q; exact q
    | ex c x Γ1 =>
      rw [e1] at q
      exact fun C a v H' G' w1 w2 w3 => q C a v H' G' w1 w2 w3.unlock.1
    | ok rs Γ1 =>
      rw [e1] at q
      intro vs H2 G2 k1 R2 k2
      obtain ⟨R3, j1, j2, j3, j4⟩ := R2.unlock
      obtain ⟨a1, a2⟩ := rtAll_unlock k2
      exact q (.ref l :: vs) H2 G2 k1 R3 ⟨.ref l, vs, rfl, ⟨l, us, rfl, j1, dpAll_mono k1 _ _ o2, o3, j2, j3, j4⟩, a2, a1⟩
theorem ds_exprR {m : M Rt} (h : DR X e m) (hs : swapsWith e none pos.line X.env = pure false := by rfl) : DS X (.Expr e pos) (sExprR m) := fun W tk => ps_imp (ps_expr (h W tk) hs) fun D σ H p =>
  (st_bnd (ρ := rhoT) p).imp fun v H1 ⟨r, F, G, Mu, Γ, R, _, q⟩ => q σ H1 G (Same.refl _) R
theorem ds_retR {m : M Rt} (h : DR X e m) : DS X (.Return (some e) pos) (sRetR m) := fun W tk => ps_imp (ps_ret (h W tk)) fun D σ H p =>
  (st_bnd (ρ := rhoT) p).imp fun v H1 ⟨r, F, G, Mu, Γ, R, h1, q⟩ => q v σ H1 G (Same.refl _) R h1
theorem ds_setR {m : M Rt} (hN : X.N.Nodup) (hi : X.N[i]? = some x) (hx : Loc X.env.scope x) (h : DR X e m) (hs : swapsWith e (some (.Name x pos')) pos.line X.env = pure false := by rfl)
    (hf : X.fn x = true ∨ X.env.scope.names.lookup x = some .local := by first | exact .inl rfl | exact .inr rfl | assumption) : DS X (.Assign [.Name x pos'] e pos) (sSetR i m) := fun W tk =>
  ps_imp (ps_set hN hi hx (h W tk) hs hf) fun D σ H p => (st_bnd (ρ := rhoT) p).imp fun v H1 ⟨r, F, G, Mu, Γ, R, h1, q⟩ => by
    cases r with
    | d y => exact q _ H1 G (Same.refl _) (R.store (sv := .d y) ⟨v, rfl, h1⟩ fun z => nomatch z)
    | own xs => exact q _ H1 G (Same.refl _) (R.storeO h1 i)
end
end Z

set_option Elab.async false
set_option linter.all false
set_option maxRecDepth 100000
set_option autoImplicit false
set_option maxHeartbeats 1000000
namespace Z
open PySem PySem.Spec PyProof.Rows L2

def isTup1 : D → Bool
  | .tuple (_ :: _) => true
  | _ => false
def plainS : D → Bool
  | .none => false
  | .tuple _ => false
  | _ => true
def okSort (xs : List D) : Bool := (xs.all fun d => xs.all (PySem.W.alike d)) && (xs.all isTup1 || xs.all plainS) && decide (xs.length ≤ sizeLine) && xs.all fun d => decide (d.depth ≤ 30)
def sortD (xs : List D) : List D := xs.mergeSort (PySem.W.dataLe false id)
def fSorted : List D → Option (List D)
  | [.list xs] => if okSort xs then some (sortD xs) else none
  | [.tuple xs] => if okSort xs then some (sortD xs) else none
  | _ => none
theorem okSort_ok {xs : List D} (h : okSort xs = true) : PySem.W.AllAlike xs ∧ PySem.W.Sortable xs ∧ xs.length ≤ sizeLine ∧ ∀ d, d ∈ xs → d.depth ≤ 30 := by
  unfold okSort at h
  simp only [Bool.and_eq_true, decide_eq_true_eq, List.all_eq_true, Bool.or_eq_true] at h
  obtain ⟨⟨⟨h1, h2⟩, h3⟩, h4⟩ := h
  refine ⟨fun d hd d' hd' => h1 d hd d' hd', ?_, h3, h4⟩
  rcases h2 with h2 | h2
  · refine .inl fun d hd => ?_
    have := h2 d hd
    unfold isTup1 at this
    split at this
    · exact ⟨_, _, rfl⟩
    · cases this
  · refine .inr fun d hd => ?_
    have := h2 d hd
    refine ⟨fun e => ?_, fun ys e => ?_⟩
    · rw [e] at this
      cases this
    · rw [e] at this
      cases this
section
variable {prog : Program} {w : World} {A : Around} {E : Value → Shared → Prop} {s : Shared}
open PySem.W PySem.Calls in
theorem sorted_any {it : Addr} {T : String} {o : Obj} {n : Nat} {vs : List Value} {xs : List D} {R : Value → D → Prop} {Q : Value → Shared → Prop} (hT : T = "list" ∨ T = "tuple") (ho : s.heap.get? it = some o) (hc : o.cls = .type T) (hd : o.data = .seq vs.toArray n)
    (e : EachIs R vs xs) (er : EachIs (fun v b => ∃ as, Reads s.heap v b as) vs xs) (hok : okSort xs = true) (hu : A.units + 2 + 30 < cLine)
    (h : ∀ (h1 h' : Heap) (out : List Value) (c : Nat), (∀ b ob, s.heap.get? b = some ob → h1.get? b = some ob) → (∀ b ob, h1.get? b = some ob → h'.get? b = some ob) → h'.get? h1.objs.size = some (seqObj "list" out.toArray c) → EachIs R out (sortD xs) → Q (.ref h1.objs.size) { s with heap := h' }) :
    wpAny (model prog w) A (call (.builtin "sorted") [.ref it]) Q E s := by
  obtain ⟨hal, hk, hL, hdp⟩ := okSort_ok hok
  have hlen : vs.length ≤ sizeLine := by rw [e.length]; exact hL
  refine call_function_entry_kw kind_sorted plain_sorted entry_sorted (args_sorted1 _) ?_
  unfold Builtin.«sorted»
  refine wpAny_bind (m := checkCount "sorted" 1 1 _) (wpAny_pure ?_)
  refine wpAny_bind (wpAny_collect_seq (hsz := by rw [List.size_toArray]; exact hlen) it hT ho hc hd fun h1 k1 => ?_)
  refine wpAny_bind (wpAny_newList ?_ hlen)
  show wpAny (model prog w) _ _ _ _ { s with heap := h1.push (seqObj "list" vs.toArray 0) }
  have ho2 : (h1.push (seqObj "list" vs.toArray 0)).get? h1.objs.size = some (seqObj "list" vs.toArray 0) := Heap.get?_push_size _ rfl
  have k2 : ∀ b ob, s.heap.get? b = some ob → (sortingHeap (h1.push (seqObj "list" vs.toArray 0)) h1.objs.size vs).get? b = some ob := fun b ob q => sortingHeap_old (Nat.ne_of_lt (Heap.lt_size (k1 b ob q))) (Heap.get?_push_of_some _ (k1 b ob q))
  have er' : EachIs (fun v d => ∃ as, Reads (sortingHeap (h1.push (seqObj "list" vs.toArray 0)) h1.objs.size vs) v d as) vs xs := er.mono fun _ _ ⟨as, r⟩ => ⟨as, PyProof.Rows.Reads.keeps k2 r⟩
  refine wpAny_bind (wpAny_holding (wpAny_call_entry_kw slot_list_sort ⟨_, ho2, rfl⟩ entry_list_sort ?body (args_list_sort _)))
  case body =>
    have S := SortsAt.data (prog := prog) (w := w) (A := A.in1.in1) (s := { s with heap := sortingHeap (h1.push (seqObj "list" vs.toArray 0)) h1.objs.size vs }) er' hal hk fun d hd => by
      have := hdp d hd
      show A.units + 2 + d.depth < cLine
      omega
    refine list_sort_vals (s := { s with heap := h1.push (seqObj "list" vs.toArray 0) }) ho2 S hlen ?_
    refine ⟨_, rfl, wpAny_pure ?_⟩
    obtain ⟨c, hc'⟩ := sortedHeap_at (h := h1.push (seqObj "list" vs.toArray 0)) (a := h1.objs.size) (vs := vs) (n := 0) (out := (sortVals (dataKind (sortingHeap (h1.push (seqObj "list" vs.toArray 0)) h1.objs.size vs) xs) false vs vs).toArray) ho2
    refine ⟨_, rfl, h h1 _ _ c k1 (fun b ob q => ?_) hc' ?_⟩
    · rw [sortedHeap_old (Nat.ne_of_lt (Heap.lt_size q)) (Heap.lt_size (Heap.get?_push_of_some _ q))]
      exact Heap.get?_push_of_some _ q
    · have q := sortVals_data (R := R) (enc := id) (bs := xs) (vs := vs) false e (by exact er') (by rw [List.map_id]; exact hal)
      rw [List.map_id] at q
      exact q
end
end Z

set_option Elab.async false
set_option linter.all false
set_option maxRecDepth 100000
set_option autoImplicit false
set_option maxHeartbeats 1000000
namespace Z
open PySem PySem.Spec PyProof.Rows L2

theorem meets_enum1 {v : Value} {o : Obj} {Hh : Heap → Prop} (B : Begins v o Hh) :
    Meets (Builtin.«enumerate.__new__» ⟨[.type "enumerate", v], []⟩) (fun _ R s => Hh s.heap ∧
      R (.ok (.ret (.ref (s.heap.push o).objs.size))) { s with heap := (s.heap.push o).push { cls := .type "enumerate", data := .fields #[.none, .bool false, .ref s.heap.objs.size, rawInt 0, .none, .none] } }) :=
  .of_wp fun prog w A R s h => by
    obtain ⟨hp, g, d, tk, os⟩ := s
    obtain ⟨h1, h⟩ := h
    have hsub := sub_enumerate
    have go : ∀ {A' : Around} {E : Value → Shared → Prop} {Q : Value → Shared → Prop}, Q (.ref hp.objs.size) ⟨hp.push o, g, d, tk, os⟩ → wpAny (model prog w) A' (pyIter v) Q E ⟨hp, g, d, tk, os⟩ :=
      fun z => B.iter prog w _ _ ⟨hp, g, d, tk, os⟩ _ h1 z
    wp_walk using go
    refine wpAny_stack_any fun st => wpAny_pure ?_
    split
    · rename_i c _ _ _ _ _
      cases (c == Value.type "enumerate") <;>
      · wp_walk using go
        exact ⟨_, rfl, h⟩
    · wp_walk using go
      exact ⟨_, rfl, h⟩
def IteT (K : PySem.W.Frag) (a : Addr) (n : Nat) : It :=
  ⟨fun i H => ∃ (xs : List V) (x : V), SqT K H a xs ∧ xs.length = n ∧ xs[i]? = some x, fun i H v H' => ∃ T x, v = .ref T ∧ H T = none ∧ H' = upd H T (.tup [.int (i : Nat), x]) ∧ ∀ xs, SqT K H a xs → xs[i]? = some x, fun i H => ∃ xs : List V, SqT K H a xs ∧ xs.length = n ∧ n ≤ i⟩
theorem turn_enumT {P : Program} {w : World} {K : PySem.W.Frag} {elts : List Expr} {kk : Nat} {tpos : Pos} (a e it : Addr) (n : Nat) :
    Turn P w K (.Tuple elts kk tpos) (IteT K a n) [e, it] e (fun i h => (∃ old, IsEnum h e it ((i : Nat) : Int) old) ∧ h.IsTupleIter it a i ∧ e ≠ it ∧ i ≤ n) where
  mem := List.mem_cons_self
  obj := fun i h st b hb => by
    obtain ⟨⟨old, he⟩, ⟨o, ho, hc, hd⟩, _, _⟩ := st
    rcases List.mem_cons.mp hb with z | z
    · rw [z]; exact ⟨_, he, fun v q => nomatch q⟩
    · rw [List.mem_singleton.mp z]; exact ⟨o, ho, fun v q => by rw [hd] at q; cases q⟩
  keep := fun i h h' st k => by
    obtain ⟨⟨old, he⟩, hi, hne, hin⟩ := st
    exact ⟨⟨old, k e List.mem_cons_self _ he⟩, hi.at fun o q => k it (List.mem_cons_of_mem _ List.mem_cons_self) o q, hne, hin⟩
  item := by
    intro X hP hw hK hc i pins s σ H E I hf st hg
    subst hP hw hK
    obtain ⟨⟨old, he⟩, hit, hne, hin⟩ := st
    obtain ⟨xs, x, hq, hn, hx⟩ := hg
    obtain ⟨its, rv, p, hz⟩ := I.tuple hq
    obtain ⟨u, hu, ru⟩ := rv.get hx
    have hel : e < s.heap.objs.size := Heap.lt_size he
    have hil : it < s.heap.objs.size := by obtain ⟨_, q, _⟩ := hit; exact Heap.lt_size q
    have pt : s.heap.IsTuple a its.toArray := p
    have hai : a ≠ it := fun z => by
      obtain ⟨o1, e1, c1, _⟩ := pt
      obtain ⟨o2, e2, c2, _⟩ := hit
      rw [z, e2] at e1
      cases e1
      rw [c1] at c2
      injection c2 with c2
      exact absurd c2 (by decide)
    have hae : a ≠ e := fun z => by
      obtain ⟨o1, e1, c1, _⟩ := pt
      rw [z, he] at e1
      cases e1
      injection c1 with c1
      exact absurd c1 (by decide)
    have Dr := Draws.tuple (prog := X.prog) (w := X.w) (A := X.A.in1) (I.ok.hd hc) it a hai its.toArray
    have hlt : i < its.toArray.size := by
      rw [List.size_toArray]
      exact (List.getElem?_eq_some_iff.mp hu).1
    refine wpAny_pyNext_enum_itemD Dr he ⟨hit, pt⟩ hlt hne (fun z => ?_) fun x' h' tk hP ho hst hT hsz hk => ?_
    · rcases List.mem_cons.mp z with z | z
      · exact hne z
      · exact hae (List.mem_singleton.mp z).symm
    have ex : x' = u := by
      have hP' : its.toArray[i]? = some x' := hP
      rw [List.getElem?_toArray, hu] at hP'
      exact (Option.some.inj hP').symm
    subst ex
    refine ⟨_, rfl, wpAny_letOwnedTupleGo_enum (s := { s with heap := h', toks := tk + 1 }) ho fun h'' he' sb => ?_⟩
    have hT2 : h''.get? s.heap.objs.size = some { cls := .type "tuple", data := .seq #[.int i tk, x'] } := (sb.2 _ (Nat.ne_of_gt hel)).trans hT
    have new : ObjOk X.prog X.w (upd H s.heap.objs.size (.tup [.int (i : Nat), x])) h'' s.heap.objs.size (.tup [.int (i : Nat), x]) :=
      ⟨show 2 ≤ sizeLine by decide, [.int i tk, x'], .cons ⟨_, rfl⟩ (.cons ru .nil), _, hT2, rfl, _, rfl⟩
    have old2 : ∀ b ob, b ∉ [e, it] → s.heap.get? b = some ob → h''.get? b = some ob := fun b ob hb q => (sb.2 b (fun z => hb (by rw [z]; exact List.mem_cons_self))).trans (hk b ob (fun z => hb (by rw [z]; exact List.mem_cons_self)) (fun z => hb (by rw [z]; exact List.mem_cons_of_mem _ List.mem_cons_self)) q)
    have I1 : L2.Inv X pins σ (upd H s.heap.objs.size (.tup [.int (i : Nat), x])) { s with heap := h'', toks := tk + 1 } := I.turnedNew (ch := [e, it]) old2 hf (Nat.le_refl _) new
    refine ⟨.ref s.heap.objs.size, _, I1, rfl, ⟨_, x, rfl, I.hok.fresh (Nat.le_refl _), rfl, fun ys hy => ?_⟩, ⟨⟨x', ?_⟩, hst.1.at fun o q => (sb.2 it (Ne.symm hne)).trans q, hne, by rw [← hn]; exact (List.getElem?_eq_some_iff.mp hx).1⟩, fun b hb => ?_⟩
    · rw [I.tuple_inj hy hq]
      exact hx
    · have e1 : ((i + 1 : Nat) : Int) = (i : Int) + 1 := Int.natCast_succ i
      rw [e1]
      exact he'
    · have hb' : b < s.heap.objs.size := by
        rcases List.mem_cons.mp hb with z | z
        · rw [z]; exact hel
        · rw [List.mem_singleton.mp z]; exact hil
      rw [upd_ne (Nat.ne_of_lt hb')]
      exact (hf b hb).1
  done := by
    intro X hP hw hK hc i pins s σ H E I hf st hg
    subst hP hw hK
    obtain ⟨⟨old, he⟩, hit, hne, hin⟩ := st
    obtain ⟨xs, hq, hn, hx⟩ := hg
    obtain ⟨its, rv, p, hz⟩ := I.tuple hq
    obtain ⟨f0, f1, f2, f3, f4, f5⟩ := hf it (List.mem_cons_of_mem _ List.mem_cons_self)
    have pt : s.heap.IsTuple a its.toArray := p
    have hai : a ≠ it := fun z => by
      obtain ⟨o1, e1, c1, _⟩ := pt
      obtain ⟨o2, e2, c2, _⟩ := hit
      rw [z, e2] at e1
      cases e1
      rw [c1] at c2
      injection c2 with c2
      exact absurd c2 (by decide)
    have Dr := Draws.tuple (prog := X.prog) (w := X.w) (A := X.A.in1) (I.ok.hd hc) it a hai its.toArray
    have en : its.toArray.size = i := by
      rw [List.size_toArray, ← rv.length, hn]
      exact Nat.le_antisymm hx hin
    exact wpAny_pyNext_enum_endD Dr he (show s.heap.IsTupleIter it a its.toArray.size ∧ _ by rw [en]; exact ⟨hit, pt⟩) fun h' eb => ⟨rfl, I.turned (t' := s.toks) (fun b o hb q => eb b o hb q) f0 f1 f3 f4 f5⟩
  self := fun A i s Q E st h => by
    obtain ⟨⟨_, he⟩, _⟩ := st
    exact wpAny_pyIter_enum he h
theorem call_enumT {prog : Program} {w : World} {A : Around} {E : Value → Shared → Prop} {s : Shared} {a : Addr} {items : Array Value} {Q : Value → Shared → Prop} (ht : s.heap.IsTuple a items)
    (h : ∀ h', IsEnum h' (s.heap.objs.size + 1) s.heap.objs.size 0 .none → h'.IsTupleIter s.heap.objs.size a 0 → (∀ b o, s.heap.get? b = some o → h'.get? b = some o) → Q (.ref (s.heap.objs.size + 1)) { s with heap := h' }) :
    wpAny (model prog w) A (call (.type "enumerate") [.ref a]) Q E s := by
  refine callType_new F.called_enumerate (by decide) (F.typeCall_enumerate_1 _) (F.newCall_enumerate_1 _) (fun obj => F.args_object_init_2 obj _) F.entry_enumerate_new (meets_enum1 (begins_tuple a items)) ⟨ht, ?_⟩
  have hz : (s.heap.push { cls := .type "tuple_iterator", data := .fields #[.ref a, .int 0 0] }).objs.size = s.heap.objs.size + 1 := Heap.size_push ..
  show _ ∧ _
  rw [hz]
  have he : IsEnum ((s.heap.push { cls := .type "tuple_iterator", data := .fields #[.ref a, .int 0 0] }).push { cls := .type "enumerate", data := .fields #[.none, .bool false, .ref s.heap.objs.size, rawInt 0, .none, .none] }) (s.heap.objs.size + 1) s.heap.objs.size 0 .none := by
    rw [← hz]
    exact Heap.get?_push_size _ rfl
  exact ⟨⟨_, he, rfl⟩, h _ he ⟨_, Heap.get?_push_of_some _ (Heap.get?_push_size _ rfl), rfl, rfl⟩ fun b o x => Heap.get?_push_of_some _ (Heap.get?_push_of_some _ x)⟩

def enumD : Nat → List D → List D
  | _, [] => []
  | i, x :: xs => .tuple [.int (i : Nat), x] :: enumD (i + 1) xs
theorem enumD_len : ∀ {xs : List D} {i : Nat}, (enumD i xs).length = xs.length
  | [], _ => rfl
  | x :: xs, i => by
    unfold enumD
    rw [List.length_cons, List.length_cons, enumD_len]
theorem enumD_get : ∀ {xs : List D} {i j : Nat} {x : D}, xs[j]? = some x → (enumD i xs)[j]? = some (.tuple [.int ((i + j : Nat) : Int), x])
  | [], _, _, _, h => by simp at h
  | x :: xs, i, 0, _, h => by
    simp at h
    subst h
    rfl
  | x :: xs, i, j + 1, y, h => by
    have := enumD_get (xs := xs) (i := i + 1) (j := j) (x := y) (by simpa using h)
    rw [show i + 1 + j = i + (j + 1) by omega] at this
    simpa [enumD] using this
def iEn (K : PySem.W.Frag) (ta : TA) : TI := fun σ H R => ta σ H fun vs H1 => ∃ a, vs = [.ref a] ∧ ((∃ xs, SqL K H1 a xs ∧ R (Ite K a) H1) ∨ ∃ xs, SqT K H1 a xs ∧ R (IteT K a xs.length) H1)
theorem pi_en {X : Cx} {e : Expr} {ta : TA} {p pos tpos : Pos} {elts : List Expr} {kk : Nat} (hg : Gl X "enumerate") (hm : X.mg "enumerate" = none) (ha : PA X [e] ta) (hs : starEach [e] X.env = [(false, eval e X.env)] := by rfl) :
    PI X (.Tuple elts kk tpos) (.Call (.Name "enumerate" p) [e] [] pos) (iEn X.K ta) := by
  refine ⟨fun pins s σ H R I h => ?_⟩
  refine Call_ (ld_blt I hg hm boot_enumerate (PyProof.Rows.callWith_type1 (thn (ha.run pos pins s σ H _ I h) fun us s1 ⟨vs, H1, I1, r1, q1⟩ => ?_) hs rfl))
  obtain ⟨a, ex, q⟩ := q1
  subst ex
  cases r1 with
  | cons r rr =>
    cases rr
    cases r
    have fp : ∀ b ∈ [s1.heap.objs.size + 1, s1.heap.objs.size], FpOk X pins H1 b := fun b hb => by
      have hle : s1.heap.objs.size ≤ b := by
        rcases List.mem_cons.mp hb with z | z
        · rw [z]; exact Nat.le_succ _
        · rw [List.mem_singleton.mp z]; exact Nat.le_refl _
      exact I1.fpOk hle (I1.hok.fresh hle)
    rcases q with ⟨xs, hq, q⟩ | ⟨xs, hq, q⟩
    · obtain ⟨its, rv, p', _⟩ := I1.list hq
      exact call_enumerate_list p'.isList fun h' he hit _ hk => wpAny_pyIter_enum he ⟨_, _, _, _, H1, rfl, I1.kept (t' := s1.toks) hk, turn_enum a (s1.heap.objs.size + 1) s1.heap.objs.size, ⟨⟨.none, he⟩, hit, Nat.succ_ne_self _⟩, fp, q⟩
    · obtain ⟨its, rv, p', _⟩ := I1.tuple hq
      exact call_enumT (show s1.heap.IsTuple a its.toArray from p') fun h' he hit hk => wpAny_pyIter_enum he ⟨_, _, _, _, H1, rfl, I1.kept (t' := s1.toks) hk, turn_enumT a (s1.heap.objs.size + 1) s1.heap.objs.size _, ⟨⟨.none, he⟩, hit, Nat.succ_ne_self _, Nat.zero_le _⟩, fp, q⟩
theorem src_enum {K : PySem.W.Frag} {F : Fr} {G : Hp} {l : Addr} {vs : List V} {xs : List D} (q : ∀ H, Same F.a H → Same G H → SqL K H l vs) (h : DqAll K G vs xs) : Src true K F G (Ite K l) (enumD 0 xs) := by
  have w := (walk_enum (K := K) (a := l) (xs := vs)).mono (G' := fun H => Same F.a H ∧ Same G H) (Y' := fun i H v H' => ∃ x, (enumD 0 xs)[i]? = some x ∧ YV true K G H v x H') (fun H e => q H e.1 e.2) fun i H v H' hi _ y => by
    obtain ⟨T, x, z, h1, h2, h3, h4, h5⟩ := y
    obtain ⟨d, e1, e2⟩ := dpa_get' h h5
    cases h4
    refine ⟨_, enumD_get e1, T, _, _, h1, rfl, h2, h3, ?_⟩
    rw [Nat.zero_add]
    exact .cons (.int _) (.cons e2 .nil)
  unfold Src
  rw [enumD_len, ← dpa_length h]
  exact w
theorem src_enumT {K : PySem.W.Frag} {F : Fr} {G : Hp} {l : Addr} {vs : List V} {xs : List D} (q : ∀ H, Same F.a H → Same G H → SqT K H l vs) (h : DqAll K G vs xs) : Src true K F G (IteT K l vs.length) (enumD 0 xs) := by
  unfold Src
  rw [enumD_len, ← dpa_length h]
  refine ⟨fun i H hi e => ⟨vs, vs[i], q H e.1 e.2, rfl, by simp [hi]⟩, fun H e => ⟨vs, q H e.1 e.2, rfl, Nat.le_refl _⟩, fun i H v H' hi e y => ?_⟩
  obtain ⟨T, z, h1, h2, h3, h4⟩ := y
  obtain ⟨d, e1, e2⟩ := dpa_get' h (h4 vs (q H e.1 e.2))
  refine ⟨_, enumD_get e1, T, _, _, h1, rfl, h2, h3, ?_⟩
  rw [Nat.zero_add]
  exact .cons (.int _) (.cons e2 .nil)
def iEnV (m : M Rs) : M (List D) := bnd m fun r => bnd (itR r) fun xs => rt (enumD 0 xs)
/-- an iterated value as an argument -/
theorem en_data {X : Cx} {W : WX} {σ : St} {F : Fr} {G H : Hp} {Mu : Option Addr} {Γ : En} {R : It → Hp → Prop} {v : V} {x : D} (Rl : Rel X.K F G Mu Γ σ H) (h : Dq X.K G v x) (q : zpost X W σ (rhoW true) F G Mu R (match seqD x with
      | some xs => .ok (enumD 0 xs) Γ
      | none => .bad)) : ∃ a, v = .ref a ∧ ((∃ vs, SqL X.K H a vs ∧ R (Ite X.K a) H) ∨ ∃ vs, SqT X.K H a vs ∧ R (IteT X.K a vs.length) H) := by
  cases h with
  | lst a b =>
    rename_i l vs xs
    exact ⟨l, rfl, .inl ⟨vs, Rl.gh.seq a, zpost_ok Rl (src_enum (fun H' _ e => e.seq a) b) q⟩⟩
  | tup a b =>
    rename_i l vs xs
    exact ⟨l, rfl, .inr ⟨vs, (a.mono Rl.gh).sq, zpost_ok Rl (src_enumT (fun H' _ e => (a.mono e).sq) b) q⟩⟩
  | _ => exact q.elim
theorem di_enum {X : Cx} {e : Expr} {m : M Rs} {p pos tpos : Pos} {elts : List Expr} {kk : Nat} (hg : Gl X "enumerate") (hm : X.mg "enumerate" = none) (he : DV X e m) (hs : starEach [e] X.env = [(false, eval e X.env)] := by rfl) :
    DI true X (.Tuple elts kk tpos) (.Call (.Name "enumerate" p) [e] [] pos) (iEnV m) := fun W tk =>
  pi_imp (pi_en hg hm (pa_cons (he W tk) pa_nil hs) hs) fun σ H R p => (zt_bnd (ρ := rhoR) p).imp fun v H1 ⟨r, F, G, Mu, Γ, Rl, h1, q⟩ => by
    have fin : ∀ {v : V}, (∃ a, v = .ref a ∧ ((∃ vs, SqL X.K H1 a vs ∧ R (Ite X.K a) H1) ∨ ∃ vs, SqT X.K H1 a vs ∧ R (IteT X.K a vs.length) H1)) → ∃ a, [v] = [.ref a] ∧ ((∃ xs, SqL X.K H1 a xs ∧ R (Ite X.K a) H1) ∨ ∃ xs, SqT X.K H1 a xs ∧ R (IteT X.K a xs.length) H1) := fun {v} ⟨a, e, h⟩ => ⟨a, by rw [e], h⟩
    refine fin ?_
    unfold bnd itR at q
    cases r with
    | d x =>
      refine en_data (W := W) Rl h1 ?_
      dsimp only at q
      cases e1 : seqD x with
      | none => rw [e1] at q; exact q
      | some xs => rw [e1] at q; exact q
    | sl i =>
      have h1' : σ[i]? = some (some v) := h1
      dsimp only at q
      cases hg : Γ[i]? with
      | none => rw [hg] at q; exact q.elim
      | some sv =>
        rw [hg] at q
        cases sv with
        | u => exact q.elim
        | dk ds => exact q.elim
        | d x =>
          obtain ⟨u, k1, k2⟩ := Rl.data hg
          rw [h1'] at k1
          cases k1
          refine en_data (W := W) Rl k2 ?_
          dsimp only at q
          cases e1 : seqD x with
          | none => rw [e1] at q; exact q
          | some xs => rw [e1] at q; exact q
        | a xs =>
          obtain ⟨l, vs, k1, k2, k3⟩ := Rl.arg hg
          rw [h1'] at k1
          cases k1
          exact ⟨l, rfl, .inl ⟨vs, (F.af.trans Rl.fh).seq k2, zpost_ok Rl (src_enum (fun H' e _ => e.seq k2) k3) q⟩⟩
        | own b xs =>
          cases b with
          | true => exact q.elim
          | false =>
            obtain ⟨l, G', k1, R', k2, k3⟩ := Rl.freeze hg
            rw [h1'] at k1
            cases k1
            cases k3 with
            | lst a b => exact ⟨l, rfl, .inl ⟨_, R'.gh.seq a, q _ H1 G' k2 R' (src_enum (fun H' _ e => e.seq a) b)⟩⟩
/-- .. of a new list -/
def iEnO (m : M (List D)) : M (List D) := bnd m fun xs => rt (enumD 0 xs)
theorem di_enumO {X : Cx} {e : Expr} {m : M (List D)} {p pos tpos : Pos} {elts : List Expr} {kk : Nat} (hg : Gl X "enumerate") (hm : X.mg "enumerate" = none) (he : DO X e m) (hs : starEach [e] X.env = [(false, eval e X.env)] := by rfl) :
    DI true X (.Tuple elts kk tpos) (.Call (.Name "enumerate" p) [e] [] pos) (iEnO m) := fun W tk =>
  pi_imp (pi_en hg hm (pa_cons (he W tk) pa_nil hs) hs) fun σ H R p => (zt_bnd (ρ := rhoO) p).imp fun v H1 ⟨xs, F, G, Mu, Γ, Rl, h1, q⟩ => by
    obtain ⟨G2, j1, R2, j2⟩ := Rl.keep h1
    cases j2 with
    | lst a b => exact ⟨_, rfl, .inl ⟨_, R2.gh.seq a, q _ H1 G2 j1 R2 (src_enum (fun H' _ e => e.seq a) b)⟩⟩
end Z

set_option Elab.async false
set_option linter.all false
set_option maxRecDepth 100000
set_option autoImplicit false
set_option maxHeartbeats 1000000
namespace Z
open PySem PySem.Spec PyProof.Rows L2

section
variable {X : Cx}
theorem each_dq {K : PySem.W.Frag} {G : Hp} : ∀ {xs : List D} {vs : List V} {us : List Value}, DqAll K G vs xs → Vals vs us → PySem.W.EachIs (fun u d => ∃ v, RelV v u ∧ Dq K G v d) us xs
  | [], _, _, h, r => by
    cases h
    cases r
    exact .nil
  | d :: xs, _, _, h, r => by
    cases h with
    | cons a b =>
      cases r with
      | cons c e => exact .cons ⟨_, c, a⟩ (each_dq b e)
theorem each_dqP {K : PySem.W.Frag} {G : Hp} : ∀ {xs : List D} {vs : List V} {us : List Value}, (∀ d ∈ xs, d.plain = true) → DqAll K G vs xs → Vals vs us → PySem.W.EachIs (fun u d => ∃ v, RelV v u ∧ Dq K G v d ∧ d.plain = true) us xs
  | [], _, _, _, h, r => by
    cases h
    cases r
    exact .nil
  | d :: xs, _, _, p, h, r => by
    cases h with
    | cons a b =>
      cases r with
      | cons c e => exact .cons ⟨_, c, a, p d List.mem_cons_self⟩ (each_dqP (fun y hy => p y (List.mem_cons_of_mem _ hy)) b e)
mutual
theorem alike_plain : ∀ d : D, PySem.W.alike d d = true → d.plain = true
  | .none, _ => by rw [PyData.plain]
  | .bool _, _ => by rw [PyData.plain]
  | .int _, _ => by rw [PyData.plain]
  | .str _, _ => by rw [PyData.plain]
  | .list xs, h => by
    rw [PyData.plain]
    exact alike_plainA xs (by rw [PySem.W.alike] at h; exact h)
  | .tuple xs, h => by
    rw [PyData.plain]
    exact alike_plainA xs (by rw [PySem.W.alike] at h; exact h)
  | .dict _, h => by
    simp [PySem.W.alike] at h
theorem alike_plainA : ∀ xs : List D, PySem.W.alikeAll xs xs = true → PyData.plainAll xs = true
  | [], _ => by rw [PyData.plainAll]
  | x :: xs, h => by
    rw [PySem.W.alikeAll, Bool.and_eq_true] at h
    rw [PyData.plainAll, Bool.and_eq_true]
    exact ⟨alike_plain x h.1, alike_plainA xs h.2⟩
end
theorem alike_plains {xs : List D} (h : PySem.W.AllAlike xs) : ∀ d ∈ xs, d.plain = true := fun d hd => alike_plain d (h d hd d hd)
theorem dq_each {K : PySem.W.Frag} {G : Hp} : ∀ {xs : List D} {us : List Value}, PySem.W.EachIs (fun u d => ∃ v, RelV v u ∧ Dq K G v d) us xs → ∃ vs, Vals vs us ∧ DqAll K G vs xs
  | [], _, h => by
    cases h
    exact ⟨[], .nil, .nil⟩
  | d :: xs, _, h => by
    cases h with
    | cons a b =>
      obtain ⟨v, h1, h2⟩ := a
      obtain ⟨vs, h3, h4⟩ := dq_each b
      exact ⟨v :: vs, .cons h1 h3, .cons h2 h4⟩
theorem cd_sorted (hu : X.A.units + 64 < cLine) : CallR X (.builtin "sorted") (rON X.K fSorted) := by
  intro pins s σ H vs us Q I r h
  obtain ⟨G, xs, zs, gh, rd, e, q⟩ := h
  have main : ∀ {a : Addr} {T : String} {o : Obj} {n : Nat} {its : List Value} {ws : List V} {ys : List D}, (T = "list" ∨ T = "tuple") → s.heap.get? a = some o → o.cls = .type T → o.data = .seq its.toArray n → Vals ws its → DqAll X.K G ws ys → okSort ys = true → zs = sortD ys →
      wpAny (model X.prog X.w) X.A (call (.builtin "sorted") [.ref a]) (EP X pins σ Q) X.xe s := fun {a T o n its ws ys} hT ho hc hd rv dv ok ez => by
    have er : PySem.W.EachIs (fun u d => ∃ as, Reads s.heap u d as) its ys := (each_dqP (alike_plains (okSort_ok ok).1) dv rv).mono fun u d ⟨v, h1, h2, h3⟩ => Dp.reads I d v u ((dp_mono gh d v h2).dp _ _ h3) h1
    refine sorted_any hT ho hc hd (each_dq dv rv) er ok (by omega) fun h1 h' out c k1 k2 hD he => ?_
    obtain ⟨vs', r1, d1⟩ := dq_each he
    have I1 : L2.Inv X pins σ H { s with heap := h1 } := I.kept (t' := s.toks) k1
    have hz : vs'.length ≤ sizeLine := by
      rw [dpa_length d1]
      obtain ⟨_, _, h3, _⟩ := okSort_ok ok
      unfold sortD
      rw [List.length_mergeSort]
      exact h3
    have I2 : L2.Inv X pins σ (upd H h1.objs.size (.lst vs')) { s with heap := h' } := I1.laid (t' := s.toks) k2 (Nat.le_refl _) (show ObjOk X.prog X.w _ _ _ (.lst vs') from ⟨hz, out, c, r1, hD⟩)
    exact ⟨.ref h1.objs.size, _, I2, rfl, q _ vs' (I1.hok.fresh (Nat.le_refl _)) (by rw [ez]; exact d1)⟩
  unfold fSorted at e
  split at e
  · rename_i ys
    split at e
    · rename_i ok
      cases e
      obtain ⟨v, rfl, rv⟩ := rd.one
      obtain ⟨l, ws, rfl, s1, d1⟩ := rv.list gh
      obtain ⟨u, rfl, rx⟩ := vals1 r
      cases rx
      obtain ⟨its, r', pl, _⟩ := I.list s1
      obtain ⟨o, ho, hc, n, hd⟩ := pl.isList
      exact main (.inl rfl) ho hc hd r' d1 ok rfl
    · cases e
  · rename_i ys
    split at e
    · rename_i ok
      cases e
      obtain ⟨v, rfl, rv⟩ := rd.one
      obtain ⟨l, ws, rfl, s1, d1⟩ := rv.tup gh
      obtain ⟨u, rfl, rx⟩ := vals1 r
      cases rx
      obtain ⟨its, r', pl, _⟩ := I.tuple s1.sq
      obtain ⟨o, ho, hc, n, hd⟩ := pl
      exact main (.inr rfl) ho hc hd r' d1 ok rfl
    · cases e
  · cases e
end

def op2r (f : D → D → Option D) (h : D → D → Option (List D)) (m n : M Rs) : M Rt := bnd m fun r => bnd n fun s => fun g => match vl g r with
  | none => .bad
  | some x => match vl g s with
    | none => .bad
    | some y => match f x y with
      | some z => .ok (.d z) g
      | none => match h x y with
        | some zs => .ok (.own zs) g
        | none => .bad
def cutR (m : M Rs) (a b : M (Option Int)) : M Rt := bnd m fun r => bnd a fun lo => bnd b fun hi => fun g => match vl g r with
  | none => .bad
  | some x => match fCutT x lo hi with
    | some z => .ok (.d z) g
    | none => match fCutL x lo hi with
      | some zs => .ok (.own zs) g
      | none => .bad
section
variable {X : Cx} {a b e : Expr} {pos p2 : Pos} {lo hi : Option Expr}
theorem OpR.both {F : Value → Value → Sem Value} {r r' : R2} (h : OpR X F r) (k : OpR X F r') : OpR X F (fun x y H Q => r x y H Q ∨ r' x y H Q) := by
  intro pins s σ H x y v u Q I rx ry q
  rcases q with q | q
  · exact h pins s σ H x y v u Q I rx ry q
  · exact k pins s σ H x y v u Q I rx ry q
theorem dr_bin {op : Operator} {f : D → D → Option D} {h : D → D → Option (List D)} {m n : M Rs} (ho : OpR X (binaryOp op) (rD2 X.K f)) (ho' : OpR X (binaryOp op) (rO2 X.K h)) (ha : DV X a m) (hb : DV X b n) : DR X (.BinOp a op b pos) (op2r f h m n) := fun W tk =>
  pe_imp (pe_op (OpR.both ho ho') (ha W tk) (hb W tk)) fun σ H Q p => (zt_bnd2 (ρ := rhoR) (ρ' := rhoR) stR p).imp fun v H1 q => q.imp fun u H2 ⟨r, s, F, G, Mu, Γ, R, h1, h2, q2⟩ => by
    cases e1 : vl Γ r with
    | none => rw [e1] at q2; exact q2.elim
    | some x =>
      cases e2 : vl Γ s with
      | none => rw [e1, e2] at q2; exact q2.elim
      | some y =>
        rw [e1, e2] at q2
        dsimp only at q2
        cases e3 : f x y with
        | some z =>
          rw [e3] at q2
          exact .inl ⟨G, x, y, z, R.gh, R.read h1 e1, R.read h2 e2, e3, fun w H' G' ex d => q2 w H' G' ex.g (R.ext ex) d⟩
        | none =>
          rw [e3] at q2
          dsimp only at q2
          cases e4 : h x y with
          | none => rw [e4] at q2; exact q2.elim
          | some zs =>
            rw [e4] at q2
            refine .inr ⟨G, x, y, zs, R.gh, R.read h1 e1, R.read h2 e2, e4, fun l vs n d => ?_⟩
            obtain ⟨R', o⟩ := R.newO n d
            exact q2 _ _ G (Same.refl _) R' o
theorem dr_cut {m : M Rs} {ma mb : M (Option Int)} (h : DV X e m) (ha : DPo X lo ma) (hb : DPo X hi mb) : DR X (.Subscript e (.Slice lo hi none p2) pos) (cutR m ma mb) := fun W tk => by
  refine pe_imp (pe_slice (SlR.or sl_tupZ sl_list) (h W tk) (ha W tk) (hb W tk)) fun σ H Q p => ?_
  refine (zt_bnd3 p).imp fun v H1 q1 => q1.imp fun l H2 q2 => q2.imp fun u H3 ⟨r, F, G, Mu, Γ, R, h1, q⟩ => ?_
  cases e1 : vl Γ r with
  | none => rw [e1] at q; exact q.elim
  | some x =>
    rw [e1] at q
    have rd := R.read h1 e1
    cases x with
    | tuple xs =>
      obtain ⟨a, vs, rfl, s1, d1⟩ := rd.tup R.gh
      have dt : Dq X.K G (.ref a) (.tuple xs) := by
        rcases rd with rd | ⟨_, _, _, _, c, _⟩
        · exact rd
        · cases c
      have n1 := dpa_length d1
      have q' : zpost X W σ rhoT F G Mu Q (.ok (.d (.tuple (cutD xs l u))) Γ) := q
      refine .inl ⟨a, vs, rfl, s1.sq, fun w => ?_, fun _ p o n ho => ?_⟩
      · have : cutD xs l u = xs := by
          unfold cutD
          rw [← n1, w.1, w.2, List.drop_zero, Nat.sub_zero, n1, List.take_length]
        rw [this] at q'
        exact q' _ _ G (Same.refl _) R dt
      · have E := Ext.new (o := .frz o (.tup (cutV vs l u))) R.gh n
        exact q' _ _ _ E.g (R.ext E) (show rhoT _ _ _ _ _ _ _ (.d (.tuple (cutD xs l u))) _ from .tup (.new ho) (dpAll_mono E.g _ _ (dpa_cut l u d1)))
    | list xs =>
      have q' : zpost X W σ rhoT F G Mu Q (.ok (.own (cutD xs l u)) Γ) := q
      obtain ⟨a, vs, rfl, s1, d1⟩ := rd.list R.gh
      refine .inr ⟨a, vs, rfl, s1, fun p n => ?_⟩
      obtain ⟨R', o⟩ := R.newO n (dpa_cut l u d1)
      exact q' _ _ G (Same.refl _) R' o
    | _ => exact q.elim
end
end Z

set_option Elab.async false
set_option linter.all false
set_option maxRecDepth 100000
set_option autoImplicit false
set_option maxHeartbeats 1000000
namespace Z
open PySem PySem.Spec PyProof.Rows L2

def mixR (m : M D) (n : M (List D)) : M Rt := fun g => match m g with
  | .ok x g' => .ok (.d x) g'
  | .ex c x g' => .ex c x g'
  | .bad => match n g with
    | .ok xs g' => .ok (.own xs) g'
    | .ex c x g' => .ex c x g'
    | .bad => .bad
section
variable {X : Cx} {e : Expr} {pos : Pos}
theorem dr_or {m : M D} {n : M (List D)} (h : DP X e m) (k : DO X e n) : DR X e (mixR m n) := fun W tk => ⟨fun pins s σ H Q I ⟨F, G, Mu, Γ, R, q⟩ => by
  unfold mixR at q
  cases e1 : m Γ with
  | ok x g' =>
    rw [e1] at q
    exact (h W tk).run pins s σ H Q I ⟨F, G, Mu, Γ, R, by rw [e1]; exact q⟩
  | ex c x g' =>
    rw [e1] at q
    exact (h W tk).run pins s σ H Q I ⟨F, G, Mu, Γ, R, by rw [e1]; exact q⟩
  | bad =>
    rw [e1] at q
    dsimp only at q
    cases e2 : n Γ with
    | ok x g' =>
      rw [e2] at q
      exact (k W tk).run pins s σ H Q I ⟨F, G, Mu, Γ, R, by rw [e2]; exact q⟩
    | ex c x g' =>
      rw [e2] at q
      exact (k W tk).run pins s σ H Q I ⟨F, G, Mu, Γ, R, by rw [e2]; exact q⟩
    | bad =>
      rw [e2] at q
      exact q.elim⟩
/-- what a proof never comes to -/
def sBad : M Fl := fun _ => .bad
theorem ds_bad {s : Stmt} : DS X s sBad := fun W _ => ps_imp ps_never fun D σ H ⟨F, G, Mu, Γ, R, p⟩ => p
end
theorem passX {P : Program} {w : World} {K : PySem.W.Frag} {mg : Str → Option Value} {base : Heap} {N : List Str} {qual : Str} {scope : Scope} {f : Addr} {cd : Value} {A : Around} {outer : List Env} {s : Shared} {H : Hp} {E : XK} :
    PassesOwn (model (cxOf (L2.CX P w) P w K mg base N qual scope f cd A outer s H E).prog (cxOf (L2.CX P w) P w K mg base N qual scope f cd A outer s H E).w) (cxOf (L2.CX P w) P w K mg base N qual scope f cd A outer s H E).A (cxOf (L2.CX P w) P w K mg base N qual scope f cd A outer s H E).env (cxOf (L2.CX P w) P w K mg base N qual scope f cd A outer s H E).xe := PassesOwn.leaving

theorem rtAll_new {K : PySem.W.Frag} {F : Fr} {G H : Hp} {Mu : Option Addr} {Γ : En} {σ : St} {p : Addr} {o : HO} (n : H p = none) : ∀ {rs : List Rt} {vs : List V}, RtAll K F G Mu Γ σ H rs vs → RtAll K F G Mu Γ σ (upd H p o) rs vs
  | [], _, h => h
  | .d x :: rs, _, h => by
    obtain ⟨v, us, rfl, h1, h2⟩ := h
    exact ⟨v, us, rfl, h1, rtAll_new n h2⟩
  | .own x :: rs, _, h => by
    obtain ⟨v, us, rfl, ⟨l, ws, e, h1, h2⟩, h3, h4⟩ := h
    exact ⟨v, us, rfl, ⟨l, ws, e, by rw [upd_ne (ne_of_none h1 n)]; exact h1, h2⟩, h3, rtAll_new n h4⟩
inductive Nms (X : Cx) : List Expr → List Nat → Prop where
  | nil : Nms X [] []
  | cons {x : Str} {pos : Pos} {i : Nat} {es : List Expr} {is : List Nat} (hi : X.N[i]? = some x) (hx : Loc X.env.scope x) (hf : X.fn x = true ∨ X.env.scope.names.lookup x = some .local) (hs : (assignEach (.Name x pos :: es) X.env).map (·.2) = assign (.Name x pos) X.env :: (assignEach es X.env).map (·.2)) (h : Nms X es is) : Nms X (.Name x pos :: es) (i :: is)
def gNms (is : List Nat) : TGs := fun vs σ H Q => vs.length = is.length ∧ Q (stV is vs σ) H
theorem pgs_nms {X : Cx} (hN : X.N.Nodup) : ∀ {es : List Expr} {is : List Nat}, Nms X es is → PGs X es (gNms is)
  | _, _, .nil => pgs_imp pgs_nil fun vs σ H Q ⟨h, q⟩ => ⟨List.eq_nil_of_length_eq_zero h, by
      rw [List.eq_nil_of_length_eq_zero h] at q
      exact q⟩
  | _, _, .cons hi hx hf hs h => pgs_imp (pgs_cons (pg_name hN hi hx hf) (pgs_nms hN h) hs) fun vs σ H Q ⟨hl, q⟩ => by
      cases vs with
      | nil => cases hl
      | cons v vs => exact ⟨v, vs, rfl, by simpa using hl, q⟩
theorem ds_parG {X : Cx} {ts es : List Expr} {is : List Nat} {kt k2 : Nat} {pt p2 pos : Pos} {m : M (List Rt)} {n : Nat} (hc : X.calm = true) (hN : X.N.Nodup) (hg : Nms X ts is) (ha : DMs X es m) (hz : is.length ≤ sizeLine)
    (hn : (assignEach ts X.env).length = n := by rfl) (hst : (assignEach ts X.env).findIdx? (·.1) = none := by rfl) (hl : is.length = n := by rfl)
    (hs : swapsWithSole [.Tuple ts kt pt] (.Tuple es k2 p2) pos.line X.env = pure false := by rfl) (hw : swappedStores [.Tuple ts kt pt] (.Tuple es k2 p2) X.env = pure none := by rfl)
    (h1 : (assignEach [.Tuple ts kt pt] X.env).map (·.2) = [assign (.Tuple ts kt pt) X.env] := by rfl) : DS X (.Assign [.Tuple ts kt pt] (.Tuple es k2 p2) pos) (sPar is m) := fun W tk =>
  ps_imp (ps_asg (pe_tup (ha W tk)) (pg_tup hc (pgs_nms hN hg) hn hst) hs hw h1) fun D σ H p => (st_bnd (ρ := rhoMs) p).imp fun vs H1 ⟨rs, F, G, Mu, Γ, R, h1, q⟩ => by
    split at q
    · rename_i g' e
      have len : vs.length = is.length := (R.setRs h1 e).2
      refine ⟨by rw [len]; exact hz, fun t nt => ⟨t, vs, rfl, .inl (.inl upd_same), by rw [len, hl], len, ?_⟩⟩
      obtain ⟨R', _⟩ := (R.newX (o := .tup vs) nt).setRs (rtAll_new nt h1) e
      exact q _ _ G (Same.refl _) R'
    · exact q.elim

def dTupRg3 (m : M (List Rs)) : M D := bnd m fun rs => fun g => match vls g rs with
  | some [.int i, .int j, .int c] => if rgLim i ∧ rgLim j ∧ c = -1 ∧ (i - j).toNat ≤ 16777216 then .ok (.tuple (rngD i (-1) (i - j).toNat)) g else .bad
  | _ => .bad
def rngV (lo c : Int) (n : Nat) : List V := (List.range n).map fun (i : Nat) => .int (lo + (i : Int) * c)
theorem dpa_rng {K : PySem.W.Frag} {G : Hp} (lo c : Int) (n : Nat) : DqAll K G (rngV lo c n) (rngD lo c n) := by
  have e1 : rngV lo c n = ((List.range n).map fun (i : Nat) => lo + (i : Int) * c).map V.int := by simp [rngV]
  have e2 : rngD lo c n = ((List.range n).map fun (i : Nat) => lo + (i : Int) * c).map PyData.int := by simp [rngD]
  rw [e1, e2]
  exact dpa_ints _
theorem vals_rng {lo c : Int} {n : Nat} {acc : Array Value} (h : ItemsOf (fun i v => ∃ t, v = .int (lo + i * c) t) acc n) : Vals (rngV lo c n) acc.toList := by
  have e : acc.toList.length = n := by rw [Array.length_toList, h.1]
  unfold rngV
  rw [← e]
  refine vals_of_get acc.toList _ fun j u hj => ?_
  rw [Array.getElem?_toList] at hj
  exact h.2 j u hj
theorem dp_tupRg3 {X : Cx} {a b c : Expr} {m : M (List Rs)} {p p2 pos pos2 : Pos} (hc : X.calm = true) (hg : Gl X "tuple") (hm : X.mg "tuple" = none) (hg2 : Gl X "range") (hm2 : X.mg "range" = none) (ha : DVs X [a, b, c] m)
    (hs : starEach [a, b, c] X.env = (false, eval a X.env) :: starEach [b, c] X.env := by rfl) (hpl : (backTo pos (starEach [b, c] X.env)).any (·.1) = false := by rfl)
    (na : starEach [.Call (.Name "range" p) [a, b, c] [] pos] X.env = (false, eval (.Call (.Name "range" p) [a, b, c] [] pos) X.env) :: starEach [] X.env := by rfl) :
    DP X (.Call (.Name "tuple" p2) [.Call (.Name "range" p) [a, b, c] [] pos] [] pos2) (dTupRg3 m) := fun W tk => by
  refine ⟨fun pins s σ H Q I h => Call_ (ld_blt I hg hm boot_tuple (PyProof.Rows.callWith_type1 (args_cons (Call_ (ld_blt I hg2 hm2 boot_range (PyProof.Rows.callWith_type1 (thn ((ha W tk).run pos pins s σ H _ I (zt_bnd (ρ := rhoRs) h)) fun us s1 ⟨vs, H1, I1, r1, rs, F, G, Mu, Γ, R, h1, q⟩ => ?_) hs hpl))) na) na))⟩
  split at q
  · rename_i i j k e
    split at q
    · rename_i hj
      obtain ⟨v1, v2, v3, rfl, h2, h3, h4⟩ := (R.reads h1 e).three
      cases h2.int
      cases h3.int
      cases h4.int
      obtain ⟨h5, h6, rfl, h7⟩ := hj
      cases r1 with
      | cons r rr =>
        cases rr with
        | cons r' rr =>
          cases rr with
          | cons r'' rr =>
            cases rr
            obtain ⟨t, rfl⟩ := r
            obtain ⟨t', rfl⟩ := r'
            obtain ⟨t'', rfl⟩ := r''
            obtain ⟨c0, c1, c2, c3⟩ := RgC.neg h5.1 h5.2 h6.1 h6.2
            refine call_range_3 c0 ?_ (.inl (PyProof.noPylong_small c1))
            have I2 : L2.Inv X pins σ H1 { s1 with heap := s1.heap.push { cls := .type "range", data := .fields #[.int i t, .int j t', .int (-1) t''] } } := I1.kept (t' := s1.toks) fun b o e => Heap.get?_push_of_some _ e
            refine args_nil ?_
            refine call_tuple_range (n := (i - j).toNat) (I2.ok.hd hc) (IsRange.new ..) c2 c3 (by omega) fun h' tk acc hk hi => ?_
            have J : L2.Inv X pins σ H1 { s1 with heap := h', toks := tk } := I2.kept hk
            have K2 := laidT (its := acc.toList) (xs := rngV i (-1) (i - j).toNat) (h := h') (tk := tk) J (vals_rng hi) (by rw [dpa_length (dpa_rng (K := X.K) (G := G) i (-1) _), rngD_len, sizeLine_eq]; exact h7)
            rw [Array.toArray_toList] at K2
            have E := Ext.new (o := .frz { cls := .type "tuple", data := .seq acc } (.tup (rngV i (-1) (i - j).toNat))) R.gh (J.hok.fresh (Nat.le_refl _))
            exact ⟨.ref h'.objs.size, _, K2, rfl, q _ _ _ E.g (R.ext E) (show rhoD _ _ _ _ _ _ _ (.tuple _) _ from .tup (.new rfl) (dpa_rng _ _ _))⟩
    · exact q.elim
  · exact q.elim
end Z

set_option Elab.async false
set_option linter.all false
set_option maxRecDepth 100000
set_option autoImplicit false
set_option maxHeartbeats 1000000
namespace Z
open PySem PySem.Spec PyProof.Rows L2
section
variable {X : Cx}
theorem zv (i : Nat) {x : Str} {pos : Pos} (hN : X.N[i]? = some x := by rfl) (hv : Vis X.env.scope x := by first | exact Or.inl rfl | exact Or.inr (Or.inl rfl) | exact Or.inr (Or.inr rfl)) (hd : (x == ("__debug__" : Str)) = false := by decide)
    (hcd : (x == ("__classdict__" : Str)) = false := by decide) : DV X (.Name x pos) (dName i) := dv_name hN hv hd hcd
end
section
variable {P : Program} {w : World} {K : PySem.W.Frag} {mg : Str → Option Value} {base : Heap}
theorem fnP_bad {x : Str} {st : Stmt} {k : Nat} {ps : List Str} {ks : List Pk} {f : Addr} {fd : FuncData} {qual : Str} (Fn : Fun K x qual st f fd) (hm : mg x = some (.ref f)) (hb : Binds K fd ps []) : FnP P w K mg base x st k ps ks (fun _ => .bad) :=
  ⟨f, fd, qual, Fn, hm, ⟨fun vs H Q E ⟨_, _, _, _, _, _, _, q⟩ => q.elim, fun _ _ _ _ _ _ _ _ _ _ _ _ _ ⟨_, _, _, _, _, _, _, q⟩ => q.elim⟩, hb⟩
theorem fnP_mk {x : Str} {stm : Stmt} {f : Addr} {fd : FuncData} {N ps : List Str} {k : Nat} {ks : List Pk} {m : M Fl} (Fn : Fun K x x stm f fd) (hm : mg x = some (.ref f)) (hb : Binds K fd ps []) (S : FnScope N ps (defScope stm)) (hl : ks.length = ps.length) (one : oneM ks = true)
    (body : ∀ (cdv : Value) (A : Around) (outer : List Env) (s : Shared) (H : Hp) (E : XK), Room k (A.deeper (envOfC x (defScope stm) s.heap.objs.size f cdv)) → DSs (cxOf (L2.CX P w) P w K mg base N x (defScope stm) f cdv A outer s H E) (defBody stm) m) :
    FnP P w K mg base x stm (k + 1) ps ks (runF N.length ks m) := ⟨f, fd, x, Fn, hm, fn_ok Fn S hl one body, hb⟩
end
end Z

set_option Elab.async false
set_option linter.all false
set_option maxRecDepth 100000
set_option autoImplicit false
set_option maxHeartbeats 1000000
namespace Z
open PySem PySem.Spec PyProof.Rows L2

def call1 (φ : List D → Out) (m : M (List D)) : M Rt := bnd m fun xs => fun g => match φ [.list xs] with
  | .bad => .bad
  | .ret r _ => .ok r g
  | .ex c x _ => .ex c x g
section
variable {K : PySem.W.Frag} {F : Fr} {G H G' H' : Hp} {Mu : Option Addr} {Γ : En} {σ : St} {l : Addr} {ms : List D}
end
section
variable {X : Cx} {e : Expr} {p pos : Pos} {x : Str} {st : Stmt} {k : Nat} {ps : List Str} {φ : List D → Out}
end
end Z

set_option Elab.async false
set_option linter.all false
set_option maxRecDepth 100000
set_option autoImplicit false
set_option maxHeartbeats 1000000
namespace Z
open PySem PySem.Spec PyProof.Rows L2
def spLaw (K : PySem.W.Frag) : Sp := fun vs H Q _ => ∃ (a : Addr) (ns : List Int), vs = [.ref a] ∧ SqL K H a (ns.map V.int) ∧ ns.length ≤ 63 ∧ ∀ v H', v = .bl true → Q v H'
theorem law_sp {K : PySem.W.Frag} {mg : Str → Option Value} {φ : List D → Out} (h : ∀ ns : List Int, ns.length ≤ 63 → φ [.list (ns.map PyData.int)] = .ret (.d (.bool true)) []) (vs : List V) (H : Hp) (Q : VK) (E : XK) (q : spLaw K vs H Q E) : spF K mg [.v] φ vs H Q E := by
  obtain ⟨a, ns, rfl, hs, hl, q⟩ := q
  refine ⟨fun _ => none, none, [.list (ns.map PyData.int)], (fun _ _ z => by cases z), (fun _ z => by cases z), fun _ => rfl, ⟨_, _, _, _, rfl, rfl, .inr ⟨a, ns.map V.int, ns.map PyData.int, rfl, rfl, ?_, dpa_ints ns⟩, rfl, rfl⟩, ?_⟩
  · rcases hs with (hs | ⟨o, hs⟩) | hs
    · exact .inl (.inl ((del_ne (fun z => by cases z)).trans hs))
    · exact .inl (.inr ⟨o, (del_ne (fun z => by cases z)).trans hs⟩)
    · exact .inr hs
  · rw [h ns hl]
    intro v H' G' _ hr
    cases (show Dq K G' v (.bool true) from hr)
    exact q _ H' rfl
theorem law_fn {P : Program} {w : World} {K : PySem.W.Frag} {mg : Str → Option Value} {base : Heap} {x : Str} {st : Stmt} {k : Nat} {ps : List Str} {φ : List D → Out} {fa : Addr} {fd : FuncData}
    (F : FnP P w K mg base x st k ps [.v] φ) (hm : mg x = some (.ref fa)) (hl : ∃ (oc : Value) (od : Option Addr) (osl : Array (Option Value)), K.lookup fa = some ⟨oc, od, .func fd, osl⟩)
    (h : ∀ ns : List Int, ns.length ≤ 63 → φ [.list (ns.map PyData.int)] = .ret (.d (.bool true)) []) : FnOk P w K mg base (L2.CX P w) k fa fd ps (spLaw K) := by
  obtain ⟨f, fd', qual, Fn, hm', ok, _⟩ := F.ex
  rw [hm] at hm'
  cases hm'
  obtain ⟨oc, od, osl, e1⟩ := hl
  obtain ⟨oc', od', kV, doc, pm, an, cdv, ct, osl', rfl, e2, _⟩ := Fn.ex
  rw [e1] at e2
  cases e2
  exact ok.imp fun vs H Q E q => law_sp h vs H Q E q
theorem cx_none {P : Program} {w : World} {H : Hp} {s : Shared} {e : Value} {s' : Shared} (h : L2.CX P w [] H s (fun _ _ _ => False) e s') : False := by
  obtain ⟨_, _, _, _, _, _, _, _, _, _, _, _, z⟩ := h
  exact z
end Z

set_option Elab.async false
set_option linter.all false
set_option maxRecDepth 100000
set_option autoImplicit false
set_option maxHeartbeats 1000000
namespace Z
open PySem PySem.Spec PyProof.Rows L2

class Cont (α β : Type) where
  k : α → En → Ro β
def Ro.thn {α β : Type} (r : Ro α) [c : Cont α β] : Ro β := match r with
  | .bad => .bad
  | .ok x g => c.k x g
  | .ex e x g => .ex e x g
theorem thn_ok {α β : Type} (x : α) (g : En) (f : α → En → Ro β) : (Ro.ok x g).thn (c := ⟨f⟩) = f x g := Eq.trans rfl rfl
theorem thn_ex {α β : Type} (c : Str) (x : D) (g : En) (f : Cont α β) : (Ro.ex c x g).thn (c := f) = .ex c x g := Eq.trans rfl rfl
/-- an answer that may lack -/
def oRo {α : Type} (o : Option α) (g : En) : Ro α := match o with
  | some x => .ok x g
  | none => .bad
theorem oRo_some {α : Type} (x : α) (g : En) : oRo (some x) g = .ok x g := Eq.trans rfl rfl
class OCont (α β : Type) where
  k : α → Option β
def oMap {α β : Type} (o : Option α) [c : OCont α β] : Option β := match o with
  | some x => c.k x
  | none => none
theorem oMap_some {α β : Type} (x : α) (f : α → Option β) : oMap (some x) (c := ⟨f⟩) = f x := Eq.trans rfl rfl
/-- a choice -/
def brn {α : Type} (k : Bool) (a b : M α) (g : En) : Ro α := if k = true then a g else b g
theorem brn_t {α : Type} (a b : M α) (g : En) : brn true a b g = a g := Eq.trans rfl rfl
theorem brn_f {α : Type} (a b : M α) (g : En) : brn false a b g = b g := Eq.trans rfl rfl
def bdz {α : Type} (n : Nat) (a : Ro α) : Ro α := if n ≤ sizeLine then a else .bad
theorem bdz_ok {α : Type} (n : Nat) (a : Ro α) (h : n ≤ sizeLine) : bdz n a = a := if_pos h
section
variable {α β : Type}
theorem bnd_at (m : M α) (f : α → M β) (g : En) : bnd m f g = (m g).thn (c := ⟨f⟩) := Eq.trans rfl rfl
theorem rt_at (x : α) (g : En) : rt x g = .ok x g := Eq.trans rfl rfl
end
/-- what a slot gives -/
def slR (i : Nat) (o : Option SV) (g : En) : Ro Rs := match o with
  | some (.d x) => .ok (.d x) g
  | some (.a _) => .ok (.sl i) g
  | some (.own _ _) => .ok (.sl i) g
  | _ => .bad
theorem dName_at (i : Nat) (g : En) : dName i g = slR i g[i]? g := Eq.trans rfl rfl
theorem slR_d (i : Nat) (x : D) (g : En) : slR i (some (.d x)) g = .ok (.d x) g := Eq.trans rfl rfl
theorem slR_a (i : Nat) (x : List D) (g : En) : slR i (some (.a x)) g = .ok (.sl i) g := Eq.trans rfl rfl
theorem slR_o (i : Nat) (m : Bool) (x : List D) (g : En) : slR i (some (.own m x)) g = .ok (.sl i) g := Eq.trans rfl rfl
def slV (o : Option SV) : Option D := match o with
  | some (.d x) => some x
  | some (.a xs) => some (.list xs)
  | some (.own _ xs) => some (.list xs)
  | _ => none
theorem vl_d (g : En) (x : D) : vl g (.d x) = some x := Eq.trans rfl rfl
theorem vl_s (g : En) (i : Nat) : vl g (.sl i) = slV g[i]? := Eq.trans rfl rfl
theorem slV_d (x : D) : slV (some (.d x)) = some x := Eq.trans rfl rfl
theorem slV_a (x : List D) : slV (some (.a x)) = some (.list x) := Eq.trans rfl rfl
theorem slV_o (m : Bool) (x : List D) : slV (some (.own m x)) = some (.list x) := Eq.trans rfl rfl
theorem dv_at (m : M D) (g : En) : dv m g = (m g).thn (c := ⟨fun x g' => .ok (.d x) g'⟩) := Eq.trans rfl rfl
def escS (i : Nat) (o : Option SV) (g : En) : Ro D := match o with
  | some (.d x) => .ok x g
  | some (.own false xs) => .ok (.list xs) (g.set i (.d (.list xs)))
  | _ => .bad
theorem dEsc_at (m : M Rs) (g : En) : dEsc m g = (m g).thn (c := ⟨esc⟩) := Eq.trans rfl rfl
theorem esc_d (x : D) (g : En) : esc (.d x) g = .ok x g := Eq.trans rfl rfl
theorem esc_s (i : Nat) (g : En) : esc (.sl i) g = escS i g[i]? g := Eq.trans rfl rfl
theorem escS_d (i : Nat) (x : D) (g : En) : escS i (some (.d x)) g = .ok x g := Eq.trans rfl rfl
theorem escS_o (i : Nat) (xs : List D) (g : En) : escS i (some (.own false xs)) g = .ok (.list xs) (g.set i (.d (.list xs))) := Eq.trans rfl rfl
theorem dFz_at (m : M (List D)) (g : En) : dFz m g = (m g).thn (c := ⟨fun xs g' => .ok (.list xs) g'⟩) := Eq.trans rfl rfl
theorem dC_at (x : D) (g : En) : dC x g = .ok x g := Eq.trans rfl rfl
theorem dNil_at (g : En) : dNil g = .ok [] g := Eq.trans rfl rfl
theorem dCons_at (m : M D) (n : M (List D)) (g : En) : dCons m n g = (m g).thn (c := ⟨fun x g1 => (n g1).thn (c := ⟨fun xs g2 => .ok (x :: xs) g2⟩)⟩) := Eq.trans rfl rfl
theorem vNil_at (g : En) : vNil g = .ok [] g := Eq.trans rfl rfl
theorem vCons_at (m : M Rs) (n : M (List Rs)) (g : En) : vCons m n g = (m g).thn (c := ⟨fun x g1 => (n g1).thn (c := ⟨fun xs g2 => .ok (x :: xs) g2⟩)⟩) := Eq.trans rfl rfl
theorem op2_at (f : D → D → Option D) (m n : M Rs) (g : En) : op2 f m n g = (m g).thn (c := ⟨fun r g1 => (n g1).thn (c := ⟨fun s g2 => oRo (oMap (vl g2 r) (c := ⟨fun x => oMap (vl g2 s) (c := ⟨fun y => f x y⟩)⟩)) g2⟩)⟩) := by
  unfold op2 bnd Ro.thn
  cases m g with
  | ok r g1 =>
    dsimp only
    cases n g1 with
    | ok s g2 =>
      dsimp only
      cases vl g2 r with
      | none => rfl
      | some x =>
        cases vl g2 s with
        | none => rfl
        | some y =>
          dsimp only [oMap]
          cases f x y <;> rfl
    | _ => rfl
  | _ => rfl
theorem op2r_at (f : D → D → Option D) (h : D → D → Option (List D)) (m n : M Rs) (g : En) : op2r f h m n g = (m g).thn (c := ⟨fun r g1 => (n g1).thn (c := ⟨fun s g2 => oRo (oMap (vl g2 r) (c := ⟨fun x => oMap (vl g2 s) (c := ⟨fun y => (match f x y with
    | some z => some (Rt.d z)
    | none => match h x y with
      | some zs => some (Rt.own zs)
      | none => none)⟩)⟩)) g2⟩)⟩) := by
  unfold op2r bnd Ro.thn
  cases m g with
  | ok r g1 =>
    dsimp only
    cases n g1 with
    | ok s g2 =>
      dsimp only
      cases vl g2 r with
      | none => rfl
      | some x =>
        cases vl g2 s with
        | none => rfl
        | some y =>
          dsimp only [oMap]
          cases f x y with
          | some z => rfl
          | none => cases h x y <;> rfl
    | _ => rfl
  | _ => rfl
theorem op1_at (f : D → Option D) (m : M Rs) (g : En) : op1 f m g = (m g).thn (c := ⟨fun r g1 => oRo (oMap (vl g1 r) (c := ⟨f⟩)) g1⟩) := by
  unfold op1 bnd Ro.thn
  cases m g with
  | ok r g1 =>
    dsimp only
    cases vl g1 r with
    | none => rfl
    | some x =>
      dsimp only [oMap]
      cases f x <;> rfl
  | _ => rfl
theorem op1o_at (f : D → Option (List D)) (m : M Rs) (g : En) : op1o f m g = (m g).thn (c := ⟨fun r g1 => oRo (oMap (vl g1 r) (c := ⟨f⟩)) g1⟩) := by
  unfold op1o bnd Ro.thn
  cases m g with
  | ok r g1 =>
    dsimp only
    cases vl g1 r with
    | none => rfl
    | some x =>
      dsimp only [oMap]
      cases f x <;> rfl
  | _ => rfl
theorem opN_at (f : List D → Option D) (m : M (List Rs)) (g : En) : opN f m g = (m g).thn (c := ⟨fun rs g1 => oRo (oMap (vls g1 rs) (c := ⟨f⟩)) g1⟩) := by
  unfold opN bnd Ro.thn
  cases m g with
  | ok r g1 =>
    dsimp only
    cases vls g1 r with
    | none => rfl
    | some x =>
      dsimp only [oMap]
      cases f x <;> rfl
  | _ => rfl
theorem opNo_at (f : List D → Option (List D)) (m : M (List Rs)) (g : En) : opNo f m g = (m g).thn (c := ⟨fun rs g1 => oRo (oMap (vls g1 rs) (c := ⟨f⟩)) g1⟩) := by
  unfold opNo bnd Ro.thn
  cases m g with
  | ok r g1 =>
    dsimp only
    cases vls g1 r with
    | none => rfl
    | some x =>
      dsimp only [oMap]
      cases f x <;> rfl
  | _ => rfl
theorem vls_nil (g : En) : vls g [] = some [] := Eq.trans rfl rfl
theorem vls_cons (g : En) (r : Rs) (rs : List Rs) : vls g (r :: rs) = oMap (vl g r) (c := ⟨fun x => oMap (vls g rs) (c := ⟨fun xs => some (x :: xs)⟩)⟩) := by
  rw [vls]
  unfold oMap
  cases vl g r with
  | none => rfl
  | some x => cases vls g rs <;> rfl
theorem cutR_at (m : M Rs) (a b : M (Option Int)) (g : En) : cutR m a b g = (m g).thn (c := ⟨fun r g1 => (a g1).thn (c := ⟨fun lo g2 => (b g2).thn (c := ⟨fun hi g3 => oRo (oMap (vl g3 r) (c := ⟨fun x => match fCutT x lo hi with
    | some z => some (Rt.d z)
    | none => match fCutL x lo hi with
      | some zs => some (Rt.own zs)
      | none => none⟩)) g3⟩)⟩)⟩) := by
  unfold cutR bnd Ro.thn
  cases m g with
  | ok r g1 =>
    dsimp only
    cases a g1 with
    | ok lo g2 =>
      dsimp only
      cases b g2 with
      | ok hi g3 =>
        dsimp only
        cases vl g3 r with
        | none => rfl
        | some x =>
          dsimp only [oMap]
          cases fCutT x lo hi with
          | some z => rfl
          | none => cases fCutL x lo hi <;> rfl
      | _ => rfl
    | _ => rfl
  | _ => rfl
theorem oNone_at (g : En) : oNone g = .ok none g := Eq.trans rfl rfl
theorem oSome_at (m : M D) (g : En) : oSome m g = (m g).thn (c := ⟨fun x g1 => match x with
    | .int i => .ok (some i) g1
    | _ => .bad⟩) := by
  unfold oSome bnd Ro.thn
  cases m g with
  | ok x g1 => cases x <;> rfl
  | _ => rfl
theorem dTup_at (m : M (List D)) (g : En) : dTup m g = (m g).thn (c := ⟨fun xs g1 => bdz xs.length (.ok (.tuple xs) g1)⟩) := by
  unfold dTup bnd Ro.thn bdz
  cases m g with
  | ok x g1 =>
    dsimp only
    split <;> rfl
  | _ => rfl
theorem dLst_at (m : M (List D)) (g : En) : dLst m g = (m g).thn (c := ⟨fun xs g1 => bdz xs.length (.ok xs g1)⟩) := by
  unfold dLst bnd Ro.thn bdz
  cases m g with
  | ok x g1 =>
    dsimp only
    split <;> rfl
  | _ => rfl
def boolD : D → Option Bool
  | .bool b => some b
  | _ => none
theorem dB_at (m : M D) (g : En) : dB m g = (m g).thn (c := ⟨fun x g1 => oRo (boolD x) g1⟩) := by
  unfold dB bnd Ro.thn
  cases m g with
  | ok x g1 => cases x <;> rfl
  | _ => rfl
theorem boolD_b (b : Bool) : boolD (.bool b) = some b := Eq.trans rfl rfl
theorem dNot_at (m : M Bool) (g : En) : dNot m g = (m g).thn (c := ⟨fun b g1 => .ok (!b) g1⟩) := Eq.trans rfl rfl
theorem dAnd_at (m n : M Bool) (g : En) : dAnd m n g = (m g).thn (c := ⟨fun b g1 => brn b n (rt false) g1⟩) := by
  unfold dAnd bnd Ro.thn brn
  cases m g with
  | ok b g1 => cases b <;> rfl
  | _ => rfl
theorem dOr_at (m n : M Bool) (g : En) : dOr m n g = (m g).thn (c := ⟨fun b g1 => brn b (rt true) n g1⟩) := by
  unfold dOr bnd Ro.thn brn
  cases m g with
  | ok b g1 => cases b <;> rfl
  | _ => rfl
theorem dIfE_at (t : M Bool) (m n : M D) (g : En) : dIfE t m n g = (t g).thn (c := ⟨fun b g1 => brn b m n g1⟩) := by
  unfold dIfE bnd Ro.thn brn
  cases t g with
  | ok b g1 => cases b <;> rfl
  | _ => rfl
theorem dAndV_at (m n : M D) (g : En) : dAndV m n g = (m g).thn (c := ⟨fun x g1 => (oRo (boolD x) g1).thn (c := ⟨fun b g2 => brn b n (rt x) g2⟩)⟩) := by
  unfold dAndV bnd Ro.thn brn
  cases m g with
  | ok x g1 =>
    cases x with
    | bool b => cases b <;> rfl
    | _ => rfl
  | _ => rfl
theorem dOrV_at (m n : M D) (g : En) : dOrV m n g = (m g).thn (c := ⟨fun x g1 => (oRo (boolD x) g1).thn (c := ⟨fun b g2 => brn b (rt x) n g2⟩)⟩) := by
  unfold dOrV bnd Ro.thn brn
  cases m g with
  | ok x g1 =>
    cases x with
    | bool b => cases b <;> rfl
    | _ => rfl
  | _ => rfl
theorem dNotV_at (m : M D) (g : En) : dNotV m g = (m g).thn (c := ⟨fun x g1 => (oRo (boolD x) g1).thn (c := ⟨fun b g2 => .ok (.bool (!b)) g2⟩)⟩) := by
  unfold dNotV bnd Ro.thn
  cases m g with
  | ok x g1 => cases x <;> rfl
  | _ => rfl

def dsq (r : Ro Fl) (b : M Fl) : Ro Fl := match r with
  | .ok .nx g => b g
  | o => o
theorem dSeq_at (a b : M Fl) (g : En) : dSeq a b g = dsq (a g) b := by
  unfold dSeq dsq
  cases a g with
  | ok f g1 => cases f <;> rfl
  | _ => rfl
theorem dsq_nx (g : En) (b : M Fl) : dsq (.ok .nx g) b = b g := Eq.trans rfl rfl
theorem dsq_rt (r : Rt) (g : En) (b : M Fl) : dsq (.ok (.rt r) g) b = .ok (.rt r) g := Eq.trans rfl rfl
theorem dsq_bk (g : En) (b : M Fl) : dsq (.ok .bk g) b = .ok .bk g := Eq.trans rfl rfl
theorem dsq_ct (g : En) (b : M Fl) : dsq (.ok .ct g) b = .ok .ct g := Eq.trans rfl rfl
theorem dsq_ex (c : Str) (x : D) (g : En) (b : M Fl) : dsq (.ex c x g) b = .ex c x g := Eq.trans rfl rfl
theorem sNx_at (g : En) : sNx g = .ok .nx g := Eq.trans rfl rfl
theorem sBk_at (g : En) : sBk g = .ok .bk g := Eq.trans rfl rfl
theorem sCt_at (g : En) : sCt g = .ok .ct g := Eq.trans rfl rfl
theorem sExpr_at (m : M D) (g : En) : sExpr m g = (m g).thn (c := ⟨fun _ g1 => .ok .nx g1⟩) := Eq.trans rfl rfl
theorem sRet_at (m : M D) (g : En) : sRet m g = (m g).thn (c := ⟨fun x g1 => .ok (.rt (.d x)) g1⟩) := Eq.trans rfl rfl
theorem sRetO_at (m : M (List D)) (g : En) : sRetO m g = (m g).thn (c := ⟨fun x g1 => .ok (.rt (.own x)) g1⟩) := Eq.trans rfl rfl
theorem sRetN_at (g : En) : sRetN g = .ok (.rt (.d .none)) g := Eq.trans rfl rfl
def retS (i : Nat) (o : Option SV) (g : En) : Ro Fl := match o with
  | some (.own false xs) => .ok (.rt (.own xs)) (g.set i .u)
  | some (.d x) => .ok (.rt (.d x)) g
  | _ => .bad
theorem sRetV_at (i : Nat) (g : En) : sRetV i g = retS i g[i]? g := Eq.trans rfl rfl
theorem retS_d (i : Nat) (x : D) (g : En) : retS i (some (.d x)) g = .ok (.rt (.d x)) g := Eq.trans rfl rfl
theorem retS_o (i : Nat) (xs : List D) (g : En) : retS i (some (.own false xs)) g = .ok (.rt (.own xs)) (g.set i .u) := Eq.trans rfl rfl
theorem sSet_at (i : Nat) (m : M D) (g : En) : sSet i m g = (m g).thn (c := ⟨fun x g1 => .ok .nx (g1.set i (.d x))⟩) := Eq.trans rfl rfl
theorem sSetO_at (i : Nat) (m : M (List D)) (g : En) : sSetO i m g = (m g).thn (c := ⟨fun x g1 => .ok .nx (g1.set i (.own false x))⟩) := Eq.trans rfl rfl
theorem sIf_at (t : M Bool) (a b : M Fl) (g : En) : sIf t a b g = (t g).thn (c := ⟨fun k g1 => brn k a b g1⟩) := by
  unfold sIf bnd Ro.thn brn
  cases t g with
  | ok b g1 => cases b <;> rfl
  | _ => rfl
def ownV (o : Option SV) : Option (Bool × List D) := match o with
  | some (.own b xs) => some (b, xs)
  | _ => none
theorem ownV_o (b : Bool) (xs : List D) : ownV (some (.own b xs)) = some (b, xs) := Eq.trans rfl rfl
def subS (i : Nat) (y : D) (o : Option (Bool × List D)) (v : Option D) (g : En) : Ro Fl := match o, v with
  | some (b, xs), some (.int n) => match ixN xs.length n with
    | some j => .ok .nx (g.set i (.own b (xs.set j y)))
    | none => .bad
  | _, _ => .bad
theorem subS_at (i : Nat) (y : D) (b : Bool) (xs : List D) (n : Int) (g : En) (j : Nat) (h : ixN xs.length n = some j) : subS i y (some (b, xs)) (some (.int n)) g = .ok .nx (g.set i (.own b (xs.set j y))) := by
  unfold subS
  dsimp only
  rw [h]
/-- the list is there -/
class MCont (α : Type) where
  k : M α
def chk {α : Type} (o : Option (Bool × List D)) [c : MCont α] (g : En) : Ro α := match o with
  | some _ => c.k g
  | none => .bad
theorem chk_some {α : Type} (p : Bool × List D) (f : M α) (g : En) : chk (some p) (c := ⟨f⟩) g = f g := Eq.trans rfl rfl
theorem sSub_at (i : Nat) (m : M D) (k : M Rs) (g : En) : sSub i m k g = (m g).thn (c := ⟨fun y g1 => chk (ownV g1[i]?) (c := ⟨fun g1 => (k g1).thn (c := ⟨fun s g2 => subS i y (ownV g2[i]?) (vl g2 s) g2⟩)⟩) g1⟩) := by
  unfold sSub
  rw [bnd_at]
  unfold Ro.thn
  cases m g with
  | ok y g1 =>
    dsimp only
    unfold chk ownV
    cases g1[i]? with
    | none => rfl
    | some sv =>
      cases sv with
      | own b0 xs0 =>
        dsimp only
        unfold bnd
        cases k g1 with
        | ok s g2 =>
          dsimp only
          unfold subS
          cases g2[i]? with
          | none => rfl
          | some sv =>
            cases sv with
            | own b xs =>
              dsimp only
              cases vl g2 s with
              | none => rfl
              | some x => cases x <;> rfl
            | _ => rfl
        | _ => rfl
      | _ => rfl
  | _ => rfl
def mutS (i : Nat) (b : Bool) (o : Option (List D × D)) (g : En) : Ro D := match o with
  | some (ys, r) => .ok r (g.set i (.own b ys))
  | none => .bad
theorem mutS_some (i : Nat) (b : Bool) (ys : List D) (r : D) (g : En) : mutS i b (some (ys, r)) g = .ok r (g.set i (.own b ys)) := Eq.trans rfl rfl
def mutP (f : List D → Option (List D × D)) (i : Nat) (o : Option (Bool × List D)) (g : En) : Ro D := match o with
  | some (b, xs) => mutS i b (f xs) g
  | none => .bad
theorem mutP_some (f : List D → Option (List D × D)) (i : Nat) (b : Bool) (xs : List D) (g : En) : mutP f i (some (b, xs)) g = mutS i b (f xs) g := Eq.trans rfl rfl
theorem dMut_at (i : Nat) (f : List D → List D → Option (List D × D)) (m : M (List D)) (g : En) : dMut i f m g = chk (ownV g[i]?) (c := ⟨fun g => (m g).thn (c := ⟨fun args g' => mutP (fun xs => f xs args) i (ownV g'[i]?) g'⟩)⟩) g := by
  unfold dMut chk ownV
  cases g[i]? with
  | none => rfl
  | some sv =>
    cases sv with
    | own b0 xs0 =>
      dsimp only
      unfold bnd Ro.thn
      cases m g with
      | ok args g' =>
        dsimp only
        unfold mutP mutS
        cases g'[i]? with
        | none => rfl
        | some sv =>
          cases sv with
          | own b xs =>
            dsimp only
            all_goals (cases f xs args <;> rfl)
          | _ => rfl
      | _ => rfl
    | _ => rfl
theorem msNil_at (g : En) : msNil g = .ok [] g := Eq.trans rfl rfl
theorem msD_at (m : M D) (n : M (List Rt)) (g : En) : msD m n g = (m g).thn (c := ⟨fun x g1 => (n g1).thn (c := ⟨fun xs g2 => .ok (.d x :: xs) g2⟩)⟩) := Eq.trans rfl rfl
theorem msO_at (m : M (List D)) (n : M (List Rt)) (g : En) : msO m n g = (m g).thn (c := ⟨fun x g1 => (n g1).thn (c := ⟨fun xs g2 => .ok (.own x :: xs) g2⟩)⟩) := Eq.trans rfl rfl
theorem msR_at (m : M Rt) (n : M (List Rt)) (g : En) : msR m n g = (m g).thn (c := ⟨fun x g1 => (n g1).thn (c := ⟨fun xs g2 => .ok (x :: xs) g2⟩)⟩) := Eq.trans rfl rfl
def gRo (o : Option En) : Ro Fl := match o with
  | some g => .ok .nx g
  | none => .bad
theorem gRo_some (g : En) : gRo (some g) = .ok .nx g := Eq.trans rfl rfl
theorem sPar_at (is : List Nat) (m : M (List Rt)) (g : En) : sPar is m g = (m g).thn (c := ⟨fun rs g1 => gRo (setRs is rs g1)⟩) := Eq.trans rfl rfl
theorem setRs_nil (g : En) : setRs [] [] g = some g := Eq.trans rfl rfl
theorem setRs_d (i : Nat) (is : List Nat) (x : D) (rs : List Rt) (g : En) : setRs (i :: is) (.d x :: rs) g = setRs is rs (g.set i (.d x)) := Eq.trans rfl rfl
theorem setRs_o (i : Nat) (is : List Nat) (x : List D) (rs : List Rt) (g : En) : setRs (i :: is) (.own x :: rs) g = setRs is rs (g.set i (.own false x)) := Eq.trans rfl rfl

theorem callP_at (ks : List Pk) (φ : List D → Out) (m : M (List Rs)) (g : En) : callP ks φ m g = (m g).thn (c := ⟨fun rs g1 => callM ks φ rs g1⟩) := Eq.trans rfl rfl
theorem callK_at (ks : List Pk) (φ : List D → Out) (pm : List Nat) (m n : M (List Rs)) (g : En) : callK ks φ pm m n g = (m g).thn (c := ⟨fun rs g1 => (n g1).thn (c := ⟨fun rs' g2 => callM ks φ (pick pm (rs ++ rs')) g2⟩)⟩) := Eq.trans rfl rfl
def outR (mi : Option Nat) (g : En) (o : Out) : Ro Rt := match o with
  | .bad => .bad
  | .ret r ms => .ok r (putM mi ms g)
  | .ex c x ms => .ex c x (putM mi ms g)
def argO (φ : List D → Out) (o : Option (List D)) : Out := match o with
  | some xs => φ xs
  | none => .bad
theorem argO_some (φ : List D → Out) (xs : List D) : argO φ (some xs) = φ xs := Eq.trans rfl rfl
theorem callM_at (ks : List Pk) (φ : List D → Out) (rs : List Rs) (g : En) : callM ks φ rs g = outR (mIx ks rs) g (argO φ (argD g (mIx ks rs) ks rs)) := by
  unfold callM outR argO
  cases argD g (mIx ks rs) ks rs with
  | none => rfl
  | some xs =>
    dsimp only
    all_goals (cases φ xs <;> rfl)
theorem outR_ret (mi : Option Nat) (g : En) (r : Rt) (ms : List D) : outR mi g (.ret r ms) = .ok r (putM mi ms g) := Eq.trans rfl rfl
theorem outR_ex (mi : Option Nat) (g : En) (c : Str) (x : D) (ms : List D) : outR mi g (.ex c x ms) = .ex c x (putM mi ms g) := Eq.trans rfl rfl
theorem argD_nil (g : En) (mi : Option Nat) : argD g mi [] [] = some [] := Eq.trans rfl rfl
theorem argD_v (g : En) (mi : Option Nat) (ks : List Pk) (x : D) (rs : List Rs) : argD g mi (.v :: ks) (.d x :: rs) = oMap (argD g mi ks rs) (c := ⟨fun xs => some (x :: xs)⟩) := by
  rw [argD]
  unfold oMap
  cases argD g mi ks rs <;> rfl
theorem argD_p (g : En) (mi : Option Nat) (ks : List Pk) (x : D) (rs : List Rs) : argD g mi (.p :: ks) (.d x :: rs) = oMap (argD g mi ks rs) (c := ⟨fun xs => some (x :: xs)⟩) := by
  rw [argD]
  unfold oMap
  cases argD g mi ks rs <;> rfl
theorem argD_vs (g : En) (mi : Option Nat) (ks : List Pk) (i : Nat) (rs : List Rs) (h : mi ≠ some i) : argD g mi (.v :: ks) (.sl i :: rs) = oMap (argD g mi ks rs) (c := ⟨fun xs => oMap (slV g[i]?) (c := ⟨fun x => some (x :: xs)⟩)⟩) := by
  rw [argD]
  unfold oMap
  cases argD g mi ks rs with
  | none => rfl
  | some xs =>
    dsimp only
    rw [if_neg h, vl_s]
    cases slV g[i]? <;> rfl
theorem argD_m (g : En) (ks : List Pk) (i : Nat) (rs : List Rs) : argD g (some i) (.m :: ks) (.sl i :: rs) = oMap (argD g (some i) ks rs) (c := ⟨fun xs => oMap (ownV g[i]?) (c := ⟨fun p => some (.list p.2 :: xs)⟩)⟩) := by
  rw [argD]
  unfold oMap ownV
  cases argD g (some i) ks rs with
  | none => rfl
  | some xs =>
    dsimp only
    cases g[i]? with
    | none => rfl
    | some sv =>
      cases sv with
      | own b ys =>
        dsimp only
        rw [if_pos rfl]
      | _ => rfl
theorem mIx_m (ks : List Pk) (i : Nat) (rs : List Rs) : mIx (.m :: ks) (.sl i :: rs) = some i := Eq.trans rfl rfl
theorem mIx_v (ks : List Pk) (r : Rs) (rs : List Rs) : mIx (.v :: ks) (r :: rs) = mIx ks rs := by cases r <;> rfl
theorem mIx_p (ks : List Pk) (r : Rs) (rs : List Rs) : mIx (.p :: ks) (r :: rs) = mIx ks rs := by cases r <;> rfl
theorem mIx_nil (rs : List Rs) : mIx [] rs = none := by
  unfold mIx
  rfl
theorem putM_none (ms : List D) (g : En) : putM none ms g = g := Eq.trans rfl rfl
def putO (i : Nat) (ms : List D) (g : En) (o : Option SV) : En := match o with
  | some (.own b _) => g.set i (.own b ms)
  | _ => g
theorem putM_some (i : Nat) (ms : List D) (g : En) : putM (some i) ms g = putO i ms g g[i]? := Eq.trans rfl rfl
theorem putO_o (i : Nat) (ms : List D) (g : En) (b : Bool) (xs : List D) : putO i ms g (some (.own b xs)) = g.set i (.own b ms) := Eq.trans rfl rfl
theorem call1_at (φ : List D → Out) (m : M (List D)) (g : En) : call1 φ m g = (m g).thn (c := ⟨fun xs g1 => outR none g1 (φ [.list xs])⟩) := by
  unfold call1 bnd Ro.thn outR
  cases m g with
  | ok xs g1 =>
    dsimp only
    cases φ [.list xs] <;> rfl
  | _ => rfl
theorem rD_at (m : M Rt) (g : En) : rD m g = (m g).thn (c := ⟨fun r g1 => rtD r g1⟩) := Eq.trans rfl rfl
theorem rtD_d (x : D) (g : En) : rtD (.d x) g = .ok x g := Eq.trans rfl rfl
theorem rtD_o (x : List D) (g : En) : rtD (.own x) g = .ok (.list x) g := Eq.trans rfl rfl
theorem rO_at (m : M Rt) (g : En) : rO m g = (m g).thn (c := ⟨fun r g1 => rtO r g1⟩) := Eq.trans rfl rfl
theorem rtO_o (x : List D) (g : En) : rtO (.own x) g = .ok x g := Eq.trans rfl rfl
theorem sExprR_at (m : M Rt) (g : En) : sExprR m g = (m g).thn (c := ⟨fun _ g1 => .ok .nx g1⟩) := Eq.trans rfl rfl
theorem sRetR_at (m : M Rt) (g : En) : sRetR m g = (m g).thn (c := ⟨fun r g1 => .ok (.rt r) g1⟩) := Eq.trans rfl rfl
def setS (i : Nat) (g : En) (r : Rt) : Ro Fl := match r with
  | .d x => .ok .nx (g.set i (.d x))
  | .own xs => .ok .nx (g.set i (.own false xs))
theorem sSetR_at (i : Nat) (m : M Rt) (g : En) : sSetR i m g = (m g).thn (c := ⟨fun r g1 => setS i g1 r⟩) := by
  unfold sSetR bnd Ro.thn setS
  cases m g with
  | ok r g1 => cases r <;> rfl
  | _ => rfl
theorem setS_d (i : Nat) (g : En) (x : D) : setS i g (.d x) = .ok .nx (g.set i (.d x)) := Eq.trans rfl rfl
theorem setS_o (i : Nat) (g : En) (x : List D) : setS i g (.own x) = .ok .nx (g.set i (.own false x)) := Eq.trans rfl rfl
def outF (ks : List Pk) (r : Ro Fl) : Out := match r with
  | .ok .nx g => outM ks (.d .none) g
  | .ok (.rt r) g => outM ks r g
  | .ex c x g => match muOf ks g with
    | some ms => .ex c x ms
    | none => .bad
  | _ => .bad
theorem runF_at (n : Nat) (ks : List Pk) (b : M Fl) (xs : List D) : runF n ks b xs = outF ks (b (start0 n ks xs)) := by
  unfold runF outF
  cases b (start0 n ks xs) with
  | ok f g => cases f <;> rfl
  | _ => rfl
def mOut (o : Option (List D)) (r : Rt) : Out := match o with
  | some ms => .ret r ms
  | none => .bad
theorem outF_nx (ks : List Pk) (g : En) : outF ks (.ok .nx g) = mOut (muOf ks g) (.d .none) := Eq.trans rfl rfl
theorem outF_rt (ks : List Pk) (r : Rt) (g : En) : outF ks (.ok (.rt r) g) = mOut (muOf ks g) r := Eq.trans rfl rfl
theorem mOut_some (ms : List D) (r : Rt) : mOut (some ms) r = .ret r ms := Eq.trans rfl rfl
theorem muOf_nil (g : En) : muOf [] g = some [] := by
  unfold muOf
  rfl
theorem muOf_m (ks : List Pk) (ms : List D) (g : En) : muOf (.m :: ks) (.own true ms :: g) = some ms := Eq.trans rfl rfl
theorem muOf_v (ks : List Pk) (sv : SV) (g : En) : muOf (.v :: ks) (sv :: g) = muOf ks g := Eq.trans rfl rfl
theorem muOf_p (ks : List Pk) (sv : SV) (g : En) : muOf (.p :: ks) (sv :: g) = muOf ks g := Eq.trans rfl rfl

theorem mixR_at (m : M D) (n : M (List D)) (g : En) : mixR m n g = match m g with
  | .ok x g' => .ok (.d x) g'
  | .ex c x g' => .ex c x g'
  | .bad => (n g).thn (c := ⟨fun xs g' => .ok (.own xs) g'⟩) := by
  unfold mixR Ro.thn
  cases m g with
  | bad => cases n g <;> rfl
  | _ => rfl
theorem dChain_at (f h : D → D → Option D) (m n o : M Rs) (g : En) : dChain f h m n o g = (m g).thn (c := ⟨fun r g1 => (n g1).thn (c := ⟨fun s g2 => (oRo (oMap (vl g2 r) (c := ⟨fun x => oMap (vl g2 s) (c := ⟨fun y => oMap (f x y) (c := ⟨boolD⟩)⟩)⟩)) g2).thn (c := ⟨fun k g3 => brn k (fun g3 => (o g3).thn (c := ⟨fun t g4 => oRo (oMap (vl g4 s) (c := ⟨fun y' => oMap (vl g4 t) (c := ⟨fun z => h y' z⟩)⟩)) g4⟩)) (rt (.bool false)) g3⟩)⟩)⟩) := by
  unfold dChain bnd Ro.thn
  cases m g with
  | ok r g1 =>
    dsimp only
    cases n g1 with
    | ok s g2 =>
      dsimp only
      cases vl g2 r with
      | none => rfl
      | some x =>
        cases vl g2 s with
        | none => rfl
        | some y =>
          dsimp only [oMap]
          cases f x y with
          | none => rfl
          | some w =>
            cases w with
            | bool k =>
              dsimp only [boolD, oRo]
              cases k with
              | false => rfl
              | true =>
                unfold brn
                rw [if_pos rfl, if_pos rfl]
                dsimp only
                cases o g2 with
                | ok t g4 =>
                  dsimp only
                  cases vl g4 s with
                  | none => rfl
                  | some y' =>
                    cases vl g4 t with
                    | none => rfl
                    | some z =>
                      dsimp only
                      cases h y' z <;> rfl
                | _ => rfl
            | _ => rfl
    | _ => rfl
  | _ => rfl
theorem dRep_at (m : M (List D)) (n : M Rs) (g : En) : dRep m n g = (m g).thn (c := ⟨fun xs g1 => (n g1).thn (c := ⟨fun s g2 => oRo (oMap (vl g2 s) (c := ⟨fun y => fRep xs y⟩)) g2⟩)⟩) := by
  unfold dRep bnd Ro.thn
  cases m g with
  | ok xs g1 =>
    dsimp only
    cases n g1 with
    | ok s g2 =>
      dsimp only
      cases vl g2 s with
      | none => rfl
      | some y =>
        dsimp only [oMap]
        cases fRep xs y <;> rfl
    | _ => rfl
  | _ => rfl
def intD : D → Option Int
  | .int i => some i
  | _ => none
theorem intD_i (i : Int) : intD (.int i) = some i := Eq.trans rfl rfl
theorem rg1_at (m : M Rs) (g : En) : rg1 m g = (m g).thn (c := ⟨fun r g1 => oRo (oMap (vl g1 r) (c := ⟨fun x => oMap (intD x) (c := ⟨fun i => some (0, i)⟩)⟩)) g1⟩) := by
  unfold rg1 bnd Ro.thn
  cases m g with
  | ok r g1 =>
    dsimp only
    cases vl g1 r with
    | none => rfl
    | some x => cases x <;> rfl
  | _ => rfl
theorem rg2_at (m n : M Rs) (g : En) : rg2 m n g = (m g).thn (c := ⟨fun r g1 => (n g1).thn (c := ⟨fun s g2 => oRo (oMap (vl g2 r) (c := ⟨fun x => oMap (vl g2 s) (c := ⟨fun y => oMap (intD x) (c := ⟨fun i => oMap (intD y) (c := ⟨fun j => some (i, j)⟩)⟩)⟩)⟩)) g2⟩)⟩) := by
  unfold rg2 bnd Ro.thn
  cases m g with
  | ok r g1 =>
    dsimp only
    cases n g1 with
    | ok s g2 =>
      dsimp only
      cases vl g2 r with
      | none => rfl
      | some x =>
        cases vl g2 s with
        | none => cases x <;> rfl
        | some y => cases x <;> cases y <;> rfl
    | _ => rfl
  | _ => rfl
theorem dIndexT_at (m n : M Rs) (g : En) : dIndexT m n g = (m g).thn (c := ⟨fun r g1 => match vl g1 r with
  | some (.tuple _) => op2 fIxT (rt r) n g1
  | _ => .bad⟩) := rfl

def seqS (i : Nat) (o : Option SV) (g : En) : Ro (List D) := match o with
  | some (.d x) => oRo (seqD x) g
  | some (.a xs) => .ok xs g
  | some (.own false xs) => .ok xs (g.set i (.d (.list xs)))
  | _ => .bad
theorem seqS_d (i : Nat) (x : D) (g : En) : seqS i (some (.d x)) g = oRo (seqD x) g := Eq.trans rfl rfl
theorem seqS_a (i : Nat) (x : List D) (g : En) : seqS i (some (.a x)) g = .ok x g := Eq.trans rfl rfl
theorem seqS_o (i : Nat) (x : List D) (g : En) : seqS i (some (.own false x)) g = .ok x (g.set i (.d (.list x))) := Eq.trans rfl rfl
theorem seqD_l (xs : List D) : seqD (.list xs) = some xs := Eq.trans rfl rfl
theorem seqD_t (xs : List D) : seqD (.tuple xs) = some xs := Eq.trans rfl rfl
theorem itR_d (x : D) (g : En) : itR (.d x) g = oRo (seqD x) g := by
  unfold itR oRo
  dsimp only
  cases seqD x <;> rfl
theorem itR_s (i : Nat) (g : En) : itR (.sl i) g = seqS i g[i]? g := by
  unfold itR seqS
  dsimp only
  cases g[i]? with
  | none => rfl
  | some sv =>
    cases sv with
    | d x =>
      dsimp only
      cases seqD x <;> rfl
    | own b xs => cases b <;> rfl
    | _ => rfl
theorem iV_at (m : M Rs) (g : En) : iV m g = (m g).thn (c := ⟨fun r g1 => itR r g1⟩) := Eq.trans rfl rfl
theorem iO_at (m : M (List D)) (g : En) : iO m g = m g := Eq.trans rfl rfl
theorem iEnV_at (m : M Rs) (g : En) : iEnV m g = (m g).thn (c := ⟨fun r g1 => (itR r g1).thn (c := ⟨fun xs g2 => .ok (enumD 0 xs) g2⟩)⟩) := Eq.trans rfl rfl
theorem iEnO_at (m : M (List D)) (g : En) : iEnO m g = (m g).thn (c := ⟨fun xs g2 => .ok (enumD 0 xs) g2⟩) := Eq.trans rfl rfl
theorem sFor_at (t : Tg) (ms : List Nat) (mi : M (List D)) (b : M Fl) (g : En) : sFor t ms mi b g = (mi g).thn (c := ⟨fun xs g1 => forG t ms b xs g1⟩) := Eq.trans rfl rfl
theorem compL_at (vs : List Nat) (t : Tg) (mi : M (List D)) (mt : M Bool) (me : M D) (g : En) : compL vs t mi mt me g = (mi g).thn (c := ⟨fun xs g1 => compB vs t mt me xs g1⟩) := Eq.trans rfl rfl

theorem forG_inv {t : Tg} {ms : List Nat} {b : M Fl} : ∀ (xs : List D) (P : List D → En → Prop) (g : En), P xs g → (∀ x r g, P (x :: r) g → (x :: r) <:+ xs → ∃ g1 g2, setT t x g = some g1 ∧ (b g1 = .ok .nx g2 ∨ b g1 = .ok .ct g2) ∧ P r (fgt ms g2)) → ∃ g', forG t ms b xs g = .ok .nx (fgt ms g') ∧ P [] g' := by
  intro xs P
  have key : ∀ (r : List D) (g : En), P r g → r <:+ xs → (∀ x r g, P (x :: r) g → (x :: r) <:+ xs → ∃ g1 g2, setT t x g = some g1 ∧ (b g1 = .ok .nx g2 ∨ b g1 = .ok .ct g2) ∧ P r (fgt ms g2)) → ∃ g', forG t ms b r g = .ok .nx (fgt ms g') ∧ P [] g' := by
    intro r
    induction r with
    | nil => exact fun g h _ _ => ⟨g, rfl, h⟩
    | cons x r ih =>
      intro g h hs step
      obtain ⟨g1, g2, h1, h2, h3⟩ := step x r g h hs
      obtain ⟨g', h4, h5⟩ := ih (fgt ms g2) h3 (List.IsSuffix.trans (List.suffix_cons x r) hs) step
      refine ⟨g', ?_, h5⟩
      rw [forG, h1]
      dsimp only
      rcases h2 with h2 | h2
      · rw [h2]
        exact h4
      · rw [h2]
        exact h4
  exact fun g h step => key xs g h (List.suffix_refl _) step
theorem compG_ok {β : Type} {vs : List Nat} {t : Tg} {mt : M Bool} {me : M D} {enc f : β → D} {p : β → Bool} {g : En} : ∀ (l : List β) (ys : List D),
    (∀ x ∈ l, ∃ g1, setT t (enc x) g = some g1 ∧ mt g1 = .ok (p x) g1 ∧ (p x = true → me g1 = .ok (f x) g1) ∧ wipG g1 vs = g) → compG vs t mt me (l.map enc) ys g = .ok (ys ++ (l.filter p).map f) g
  | [], ys, _ => by
    show Ro.ok ys g = Ro.ok (ys ++ []) g
    rw [List.append_nil]
  | x :: l, ys, h => by
    obtain ⟨g1, h1, h2, h3, h4⟩ := h x List.mem_cons_self
    have ih := compG_ok (vs := vs) (t := t) (mt := mt) (me := me) (enc := enc) (f := f) (p := p) (g := g) l
    rw [List.map_cons, compG, h1]
    dsimp only
    rw [h2]
    cases hp : p x with
    | true =>
      dsimp only
      rw [h3 hp]
      dsimp only
      rw [h4, ih (ys ++ [f x]) (fun y hy => h y (List.mem_cons_of_mem _ hy)), List.filter_cons_of_pos hp, List.map_cons, List.append_assoc]
      rfl
    | false =>
      dsimp only
      rw [h4, ih ys (fun y hy => h y (List.mem_cons_of_mem _ hy)), List.filter_cons_of_neg (by rw [hp]; exact Bool.false_ne_true)]
theorem wipG_out {g : En} {i : Nat} : ∀ {vs : List Nat}, i ∉ vs → (wipG g vs)[i]? = g[i]?
  | [], _ => rfl
  | v :: vs, h => by
    have h1 : v ≠ i := fun e => h (by rw [e]; exact List.mem_cons_self)
    unfold wipG
    rw [List.getElem?_set_ne h1]
    exact wipG_out fun m => h (List.mem_cons_of_mem _ m)
theorem rst_wip {g : En} : ∀ {vs : List Nat}, rstG g (wipG g vs) vs = g := fun {vs} => List.ext_getElem? fun i => by
  by_cases h : i ∈ vs
  · exact rstG_in wipG_len h
  · rw [rstG_out h, wipG_out h]
theorem compB_ok {β : Type} {vs : List Nat} {t : Tg} {mt : M Bool} {me : M D} {enc f : β → D} {p : β → Bool} {g : En} (l : List β) (hz : l.length ≤ sizeLine) (hn : noOwn g vs = true)
    (h : ∀ x ∈ l, ∃ g1, setT t (enc x) (wipG g vs) = some g1 ∧ mt g1 = .ok (p x) g1 ∧ (p x = true → me g1 = .ok (f x) g1) ∧ wipG g1 vs = wipG g vs) : compB vs t mt me (l.map enc) g = .ok ((l.filter p).map f) g := by
  unfold compB
  rw [if_pos ⟨by rw [List.length_map]; exact hz, hn⟩, compG_ok (p := p) (f := f) l [] h]
  show Ro.ok _ (rstG g (wipG g vs) vs) = _
  rw [rst_wip, List.nil_append]
end Z

set_option Elab.async false
set_option linter.all false
set_option maxRecDepth 100000
set_option autoImplicit false
set_option maxHeartbeats 1000000
namespace Z
open PySem PySem.Spec PyProof.Rows L2

theorem fAdd_i (i j : Int) : fAdd (.int i) (.int j) = some (.int (i + j)) := Eq.trans rfl rfl
theorem fSub_i (i j : Int) : fSub (.int i) (.int j) = some (.int (i - j)) := Eq.trans rfl rfl
theorem fLt_i (i j : Int) : fLt (.int i) (.int j) = some (.bool (decide (i < j))) := Eq.trans rfl rfl
theorem fLe_i (i j : Int) : fLe (.int i) (.int j) = some (.bool (decide (i ≤ j))) := Eq.trans rfl rfl
theorem fGt_i (i j : Int) : fGt (.int i) (.int j) = some (.bool (decide (j < i))) := Eq.trans rfl rfl
theorem fGe_i (i j : Int) : fGe (.int i) (.int j) = some (.bool (decide (j ≤ i))) := Eq.trans rfl rfl
theorem fMod_i (i j : Int) (h : 0 < j) : fMod (.int i) (.int j) = some (.int (i % j)) := if_pos h
theorem fDiv_i (i j : Int) (h : 0 < j) (h2 : j < 1073741824) : fDiv (.int i) (.int j) = some (.int (i / j)) := by
  unfold fDiv
  dsimp only
  rw [if_pos (by unfold okDiv; rw [decide_eq_true h, decide_eq_true h2]; rfl)]
theorem fDiv_33 (i : Int) : fDiv (.int i) (.int 8589934592) = some (.int (i / 8589934592)) := Eq.trans rfl rfl
theorem fMul_r (i j : Int) (h : j.natAbs < 18446744073709551616) : fMul (.int i) (.int j) = some (.int (i * j)) := by
  unfold fMul
  dsimp only
  rw [if_pos (by unfold okMul; rw [decide_eq_true h, Bool.or_true, Bool.true_or])]
theorem fMul_l (i j : Int) (h : i.natAbs < 18446744073709551616) : fMul (.int i) (.int j) = some (.int (i * j)) := by
  unfold fMul
  dsimp only
  rw [if_pos (by unfold okMul; rw [decide_eq_true h, Bool.true_or, Bool.true_or])]
theorem fMul_take (i : Int) : fMul (.int i) (.int 6364136223846793005) = some (.int (i * 6364136223846793005)) := fMul_r i _ (by decide)
theorem fMul_7919 (i : Int) : fMul (.int 7919) (.int i) = some (.int (7919 * i)) := fMul_l _ i (by decide)
theorem fMul_31 (i : Int) : fMul (.int 31) (.int i) = some (.int (31 * i)) := fMul_l _ i (by decide)
theorem fPow_64 : fPow (.int 2) (.int 64) = some (.int 18446744073709551616) := Eq.trans rfl rfl
theorem fPow_33 : fPow (.int 2) (.int 33) = some (.int 8589934592) := Eq.trans rfl rfl
theorem fPow_18 : fPow (.int 10) (.int 18) = some (.int 1000000000000000000) := Eq.trans rfl rfl
theorem fNeg_i (i : Int) : fNeg (.int i) = some (.int (-i)) := Eq.trans rfl rfl
theorem fLen_l (xs : List D) : fLen [.list xs] = some (.int xs.length) := Eq.trans rfl rfl
theorem fLen_t (xs : List D) : fLen [.tuple xs] = some (.int xs.length) := Eq.trans rfl rfl
theorem fInt_i (i : Int) : fInt [.int i] = some (.int i) := Eq.trans rfl rfl
theorem fTuple_l (xs : List D) : fTuple [.list xs] = some (.tuple xs) := Eq.trans rfl rfl
theorem fList_l (xs : List D) : fList [.list xs] = some xs := Eq.trans rfl rfl
theorem fMax_2 (i j : Int) : fMax [.int i, .int j] = some (.int (if j > i then j else i)) := Eq.trans rfl rfl
theorem fMin_2 (i j : Int) : fMin [.int i, .int j] = some (.int (if j < i then j else i)) := Eq.trans rfl rfl
theorem ixN_nat {n i : Nat} (h : i < n) : ixN n (i : Int) = some i := by
  unfold ixN
  rw [if_pos (Int.natCast_nonneg i), if_pos (Int.ofNat_lt.mpr h), Int.toNat_natCast]
theorem atI_of {xs : List D} {i : Nat} {x : D} (h : xs[i]? = some x) : atI xs (i : Int) = some x := by
  unfold atI
  rw [ixN_nat (List.getElem?_eq_some_iff.mp h).1]
  exact h
theorem fIx_l {xs : List D} {i : Nat} {x : D} (h : xs[i]? = some x) : fIx (.list xs) (.int (i : Int)) = some x := atI_of h
theorem fIx_t {xs : List D} {i : Nat} {x : D} (h : xs[i]? = some x) : fIx (.tuple xs) (.int (i : Int)) = some x := atI_of h
theorem fIx_l0 (x : D) (xs : List D) : fIx (.list (x :: xs)) (.int 0) = some x := fIx_l (i := 0) rfl
theorem fIx_l1 (x y : D) (xs : List D) : fIx (.list (x :: y :: xs)) (.int 1) = some y := fIx_l (i := 1) rfl
theorem fIx_l2 (x y z : D) (xs : List D) : fIx (.list (x :: y :: z :: xs)) (.int 2) = some z := fIx_l (i := 2) rfl
theorem fIx_last {xs : List D} {x : D} : fIx (.tuple (xs ++ [x])) (.int (-1)) = some x := by
  show atI (xs ++ [x]) (-1) = some x
  unfold atI ixN
  have h1 : ¬ (0 : Int) ≤ -1 := by decide
  have h2 : -((xs ++ [x]).length : Int) ≤ -1 := by
    rw [List.length_append, List.length_singleton]
    omega
  rw [if_neg h1, if_pos h2]
  have h3 : (-1 + ((xs ++ [x]).length : Int)).toNat = xs.length := by
    rw [List.length_append, List.length_singleton]
    omega
  show (xs ++ [x])[(-1 + ((xs ++ [x]).length : Int)).toNat]? = some x
  rw [h3, List.getElem?_append_right (Nat.le_refl _), Nat.sub_self]
  rfl
theorem subS0 (i : Nat) (y : D) (b : Bool) (x : D) (xs : List D) (g : En) : subS i y (some (b, x :: xs)) (some (.int 0)) g = .ok .nx (g.set i (.own b (y :: xs))) := subS_at i y b (x :: xs) 0 g 0 (ixN_nat (i := 0) (Nat.succ_pos _))
theorem subS1 (i : Nat) (y : D) (b : Bool) (x z : D) (xs : List D) (g : En) : subS i y (some (b, x :: z :: xs)) (some (.int 1)) g = .ok .nx (g.set i (.own b (x :: y :: xs))) := subS_at i y b (x :: z :: xs) 1 g 1 (ixN_nat (i := 1) (by simp))

abbrev ti (p : List Int) : D := .tuple (p.map .int)
abbrev li (p : List Int) : D := .list (p.map .int)
/-- data without dicts, of few levels -/
def Gd (n : Nat) (d : D) : Prop := d.canLay0 = true ∧ d.depth ≤ n
theorem gd_int (n : Nat) (i : Int) : Gd n (.int i) := ⟨rfl, Nat.zero_le _⟩
theorem gd_bool (n : Nat) (i : Bool) : Gd n (.bool i) := ⟨rfl, Nat.zero_le _⟩
theorem gd_none (n : Nat) : Gd n .none := ⟨rfl, Nat.zero_le _⟩
theorem gd_all : ∀ {n : Nat} {xs : List D}, (∀ x ∈ xs, Gd n x) → PyData.canLayAll0 xs = true ∧ PyData.depthAll xs ≤ n
  | _, [], _ => ⟨rfl, Nat.zero_le _⟩
  | n, x :: xs, h => by
    obtain ⟨a, b⟩ := h x List.mem_cons_self
    obtain ⟨c, d⟩ := gd_all (xs := xs) fun y hy => h y (List.mem_cons_of_mem _ hy)
    exact ⟨by show (x.canLay0 && PyData.canLayAll0 xs) = true; rw [a, c]; rfl, Nat.max_le.mpr ⟨b, d⟩⟩
theorem gd_list {n : Nat} {xs : List D} (h : ∀ x ∈ xs, Gd n x) : Gd (n + 1) (.list xs) := by
  obtain ⟨a, b⟩ := gd_all h
  exact ⟨a, Nat.succ_le_succ b⟩
theorem gd_tuple {n : Nat} {xs : List D} (h : ∀ x ∈ xs, Gd n x) : Gd (n + 1) (.tuple xs) := by
  obtain ⟨a, b⟩ := gd_all h
  exact ⟨a, Nat.succ_le_succ b⟩
theorem Gd.mono {m n : Nat} {d : D} (h : Gd m d) (l : m ≤ n) : Gd n d := ⟨h.1, Nat.le_trans h.2 l⟩
theorem gd_ints (n : Nat) (p : List Int) : ∀ x ∈ p.map PyData.int, Gd n x := fun x hx => by
  obtain ⟨i, _, rfl⟩ := List.mem_map.mp hx
  exact gd_int n i
theorem gd_ti (n : Nat) (p : List Int) : Gd (n + 1) (ti p) := gd_tuple (gd_ints n p)
theorem gd_li (n : Nat) (p : List Int) : Gd (n + 1) (li p) := gd_list (gd_ints n p)
theorem Gd.shaped {n : Nat} {d : D} (h : Gd n d) (hn : n ≤ 64) : SeqAt.shaped d = true := by
  unfold SeqAt.shaped
  rw [h.1, decide_eq_true (Nat.le_trans h.2 hn)]
  rfl
theorem Gd.eqv {n : Nat} {d : D} (h : Gd n d) : PyData.eqv d d = true := PySem.SeqAt.eqv_refl d h.1
theorem eqvAll_ints : ∀ p q : List Int, PyData.eqvAll (p.map .int) (q.map .int) = decide (p = q)
  | [], [] => rfl
  | [], _ :: _ => rfl
  | _ :: _, [] => rfl
  | x :: p, y :: q => by
    show ((x == y) && PyData.eqvAll (p.map .int) (q.map .int)) = decide (x :: p = y :: q)
    rw [eqvAll_ints p q]
    by_cases h : x = y
    · subst h
      by_cases h2 : p = q
      · subst h2
        simp
      · simp [h2]
    · simp [h]
theorem fEq_gd {n m : Nat} {x y : D} (h : Gd n x) (k : Gd m y) (hn : n ≤ 64) (hm : m ≤ 64) : fEq x y = some (.bool (PyData.eqv x y)) := by
  unfold fEq
  rw [h.shaped hn, k.shaped hm]
  rfl
theorem fNe_gd {n m : Nat} {x y : D} (h : Gd n x) (k : Gd m y) (hn : n ≤ 64) (hm : m ≤ 64) : fNe x y = some (.bool (!PyData.eqv x y)) := by
  unfold fNe
  rw [h.shaped hn, k.shaped hm]
  rfl
theorem fEq_i (i j : Int) : fEq (.int i) (.int j) = some (.bool (decide (i = j))) := by
  rw [fEq_gd (gd_int 0 i) (gd_int 0 j) (by decide) (by decide)]
  show some (PyData.bool (i == j)) = _
  by_cases h : i = j <;> simp [h]
theorem fEq_li (p q : List Int) : fEq (li p) (li q) = some (.bool (decide (p = q))) := by
  rw [fEq_gd (gd_li 0 p) (gd_li 0 q) (by decide) (by decide)]
  show some (PyData.bool (PyData.eqvAll _ _)) = _
  rw [eqvAll_ints]
theorem dataLe_tot : PySem.W.TotalLe (PySem.W.dataLe (β := D) false id) := PySem.W.sortLe_total _ _ _
theorem sortD_eq {xs ys : List D} (hp : xs.Perm ys) (hs : ys.Pairwise fun a b => PySem.W.dataLe false id a b = true) (anti : ∀ a ∈ ys, ∀ b ∈ ys, PySem.W.dataLe false id a b = true → PySem.W.dataLe false id b a = true → a = b) : sortD xs = ys := by
  unfold sortD
  have p1 := (List.mergeSort_perm xs (PySem.W.dataLe false id)).trans hp
  refine List.Perm.eq_of_pairwise (le := fun a b => PySem.W.dataLe (β := D) false id a b = true) (fun a b ha hb => anti a (p1.mem_iff.mp ha) b hb) (List.pairwise_mergeSort (fun a b c => dataLe_tot.trans a b c) (fun a b => ?_) xs) hs p1
  have := dataLe_tot.total a b
  simpa using this
theorem le_int (i j : Int) : PySem.W.dataLe false id (PyData.int i) (.int j) = decide (i ≤ j) := by
  have := congrFun (congrFun (PySem.W.dataLe_int (β := Int) (fun i => i)) i) j
  exact this
theorem sortD_ints {p q : List Int} (hp : p.Perm q) (hs : q.Pairwise (· ≤ ·)) : sortD (p.map .int) = q.map .int := by
  refine sortD_eq (hp.map _) ?_ ?_
  · rw [List.pairwise_map]
    exact hs.imp fun {a b} h => by rw [le_int]; exact decide_eq_true h
  · intro a ha b hb h1 h2
    obtain ⟨i, _, rfl⟩ := List.mem_map.mp ha
    obtain ⟨j, _, rfl⟩ := List.mem_map.mp hb
    rw [le_int] at h1 h2
    rw [Int.le_antisymm (of_decide_eq_true h1) (of_decide_eq_true h2)]
end Z

set_option Elab.async false
set_option linter.all false
set_option maxRecDepth 100000
set_option autoImplicit false
set_option maxHeartbeats 1000000
namespace Z
open PySem PySem.Spec PyProof.Rows L2

def irange (a : Int) (n : Nat) : List Int := (List.range n).map fun (i : Nat) => a + (i : Int)
theorem irange_len (a : Int) (n : Nat) : (irange a n).length = n := by simp [irange]
theorem irange_zero (a : Int) : irange a 0 = [] := Eq.trans rfl rfl
theorem irange_succ (a : Int) (n : Nat) : irange a (n + 1) = a :: irange (a + 1) n := by
  unfold irange
  rw [List.range_succ_eq_map, List.map_cons, List.map_map]
  congr 1
  · simp
  · apply List.map_congr_left
    intro i _
    simp only [Function.comp, Nat.succ_eq_add_one]
    omega
theorem irange_get (a : Int) (n i : Nat) (h : i < n) : (irange a n)[i]? = some (a + i) := by simp [irange, h]
theorem irange_mem {a : Int} {n : Nat} {x : Int} : x ∈ irange a n ↔ a ≤ x ∧ x < a + n := by
  unfold irange
  rw [List.mem_map]
  constructor
  · rintro ⟨i, hi, rfl⟩
    have := List.mem_range.mp hi
    omega
  · rintro ⟨h1, h2⟩
    exact ⟨(x - a).toNat, List.mem_range.mpr (by omega), by omega⟩
theorem irange_sorted (a : Int) (n : Nat) : (irange a n).Pairwise (· < ·) := by
  unfold irange
  rw [List.pairwise_map]
  exact List.pairwise_lt_range.imp fun {i j} h => by omega
theorem irange_nodup (a : Int) (n : Nat) : (irange a n).Nodup := (irange_sorted a n).imp fun {i j} h => by omega
theorem rngD_irange (a : Int) (n : Nat) : rngD a 1 n = (irange a n).map .int := by
  unfold rngD irange
  rw [List.map_map]
  apply List.map_congr_left
  intro i _
  simp
theorem rgD_irange (a b : Int) : rgD a b = (irange a (b - a).toNat).map .int := by
  unfold rgD irange
  rw [List.map_map]
  rfl

structure IsOrd (p : List Int) : Prop where
  nd : p.Nodup
  lo : ∀ x ∈ p, 1 ≤ x
  hi : ∀ x ∈ p, x ≤ p.length
theorem perm_of_sub {p q : List Int} (hp : p.Nodup) (hq : q.Nodup) (h : ∀ x ∈ p, x ∈ q) (hl : q.length ≤ p.length) : p.Perm q := by
  rw [List.perm_ext_iff_of_nodup hp hq]
  intro a
  refine ⟨h a, fun ha => ?_⟩
  by_cases hn : a ∈ p
  · exact hn
  · have h1 : (a :: p).Nodup := List.nodup_cons.mpr ⟨hn, hp⟩
    have h2 : (a :: p) ⊆ q := fun x hx => by
      rcases List.mem_cons.mp hx with e | e
      · rw [e]; exact ha
      · exact h x e
    have := List.Nodup.length_le_of_subset h1 h2
    rw [List.length_cons] at this
    omega
theorem IsOrd.perm {p : List Int} (h : IsOrd p) : p.Perm (irange 1 p.length) :=
  perm_of_sub h.nd (irange_nodup _ _) (fun x hx => irange_mem.mpr ⟨h.lo x hx, by have := h.hi x hx; omega⟩) (by rw [irange_len]; exact Nat.le_refl _)
theorem IsOrd.of_perm {p : List Int} (h : p.Perm (irange 1 p.length)) : IsOrd p :=
  ⟨h.nodup_iff.mpr (irange_nodup _ _), fun x hx => (irange_mem.mp (h.mem_iff.mp hx)).1, fun x hx => by have := (irange_mem.mp (h.mem_iff.mp hx)).2; omega⟩
theorem IsOrd.mem {p : List Int} (h : IsOrd p) {x : Int} (h1 : 1 ≤ x) (h2 : x ≤ p.length) : x ∈ p := h.perm.mem_iff.mpr (irange_mem.mpr ⟨h1, by omega⟩)
theorem isOrd_nil : IsOrd [] := ⟨List.nodup_nil, fun _ h => (nomatch h), fun _ h => (nomatch h)⟩
theorem isOrd_insert {p : List Int} (h : IsOrd p) (r : Nat) : IsOrd (p.take r ++ [((p.length + 1 : Nat) : Int)] ++ p.drop r) := by
  have hp : (p.take r ++ [((p.length + 1 : Nat) : Int)] ++ p.drop r).Perm (((p.length + 1 : Nat) : Int) :: p) := by
    rw [List.append_assoc, List.singleton_append]
    refine List.perm_middle.trans ?_
    rw [List.take_append_drop]
  have hl : (p.take r ++ [((p.length + 1 : Nat) : Int)] ++ p.drop r).length = p.length + 1 := by rw [hp.length_eq, List.length_cons]
  refine ⟨hp.nodup_iff.mpr (List.nodup_cons.mpr ⟨fun hm => ?_, h.nd⟩), fun x hx => ?_, fun x hx => ?_⟩
  · have := h.hi _ hm
    omega
  · rcases List.mem_cons.mp (hp.mem_iff.mp hx) with e | e
    · omega
    · exact h.lo x e
  · rw [hl]
    rcases List.mem_cons.mp (hp.mem_iff.mp hx) with e | e
    · omega
    · have := h.hi x e
      omega
theorem mInsert_ok (xs : List D) (i : Int) (y : D) (h1 : xs.length < sizeLine) (h0 : 0 ≤ i) (h2 : i < 2 ^ 63) : mInsert xs [.int i, y] = some (xs.take i.toNat ++ [y] ++ xs.drop i.toNat, .none) := if_pos ⟨h1, h0, h2⟩
theorem mAppend_ok (xs : List D) (y : D) (h1 : xs.length < sizeLine) : mAppend xs [y] = some (xs ++ [y], .none) := if_pos h1
theorem setT_nm (i : Nat) (x : D) (g : En) : setT (.nm i) x g = some (g.set i (.d x)) := by
  unfold setT
  rfl
theorem setT_tup (ts : List Tg) (xs : List D) (g : En) : setT (.tup ts) (.tuple xs) g = setTs ts xs g := by rw [setT]
theorem setTs_nil (g : En) : setTs [] [] g = some g := by rw [setTs]
theorem setTs_cons (t : Tg) (ts : List Tg) (x : D) (xs : List D) (g g' : En) (h : setT t x g = some g') : setTs (t :: ts) (x :: xs) g = setTs ts xs g' := by rw [setTs, h]
theorem fgt_nil (g : En) : fgt [] g = g := Eq.trans rfl rfl
theorem fgt_cons (i : Nat) (is : List Nat) (g : En) : fgt (i :: is) g = fgt is (g.set i .u) := Eq.trans rfl rfl
theorem wipG_nil (g : En) : wipG g [] = g := Eq.trans rfl rfl
theorem wipG_cons (g : En) (v : Nat) (vs : List Nat) : wipG g (v :: vs) = (wipG g vs).set v .u := Eq.trans rfl rfl
def rgO1 (o : Option (List D)) (g : En) : Ro (List D) := match o with
  | some [.int j] => if rgLim j then .ok (rngD 0 1 j.toNat) g else .bad
  | _ => .bad
def rgO2 (o : Option (List D)) (g : En) : Ro (List D) := match o with
  | some [.int i, .int j] => if rgLim i ∧ rgLim j then .ok (rngD i 1 (j - i).toNat) g else .bad
  | _ => .bad
def rgO3 (o : Option (List D)) (g : En) : Ro (List D) := match o with
  | some [.int i, .int j, .int c] => if rgLim i ∧ rgLim j ∧ c = -1 then .ok (rngD i (-1) (i - j).toNat) g else .bad
  | _ => .bad
def rgT3 (o : Option (List D)) (g : En) : Ro D := match o with
  | some [.int i, .int j, .int c] => if rgLim i ∧ rgLim j ∧ c = -1 ∧ (i - j).toNat ≤ 16777216 then .ok (.tuple (rngD i (-1) (i - j).toNat)) g else .bad
  | _ => .bad
theorem iR1_go (m : M (List Rs)) (g : En) : iR1 m g = (m g).thn (c := ⟨fun rs g1 => rgO1 (vls g1 rs) g1⟩) := Eq.trans rfl rfl
theorem iR2_go (m : M (List Rs)) (g : En) : iR2 m g = (m g).thn (c := ⟨fun rs g1 => rgO2 (vls g1 rs) g1⟩) := Eq.trans rfl rfl
theorem iR3_go (m : M (List Rs)) (g : En) : iR3 m g = (m g).thn (c := ⟨fun rs g1 => rgO3 (vls g1 rs) g1⟩) := Eq.trans rfl rfl
theorem dTupRg3_go (m : M (List Rs)) (g : En) : dTupRg3 m g = (m g).thn (c := ⟨fun rs g1 => rgT3 (vls g1 rs) g1⟩) := Eq.trans rfl rfl
/-- a bound of a range -/
def Sm (i : Int) : Prop := -1000000 ≤ i ∧ i ≤ 1000000
theorem Sm.rg {i : Int} (h : Sm i) : rgLim i := by
  unfold rgLim
  obtain ⟨h1, h2⟩ := h
  omega
/-- lo, lo - 1, .. -/
def drange (a : Int) (n : Nat) : List Int := (List.range n).map fun (i : Nat) => a - (i : Int)
theorem rngD_drange (a : Int) (n : Nat) : rngD a (-1) n = (drange a n).map .int := by
  unfold rngD drange
  rw [List.map_map]
  apply List.map_congr_left
  intro i _
  simp only [Function.comp]
  congr 1
  omega
theorem drange_len (a : Int) (n : Nat) : (drange a n).length = n := by simp [drange]
theorem drange_get (a : Int) (n i : Nat) (h : i < n) : (drange a n)[i]? = some (a - i) := by simp [drange, h]
theorem rgO1_ok (j : Int) (g : En) (h : Sm j) : rgO1 (some [.int j]) g = .ok ((irange 0 j.toNat).map .int) g := by
  rw [← rngD_irange]
  exact if_pos h.rg
theorem rgO2_ok (i j : Int) (g : En) (h : Sm i) (k : Sm j) : rgO2 (some [.int i, .int j]) g = .ok ((irange i (j - i).toNat).map .int) g := by
  rw [← rngD_irange]
  exact if_pos ⟨h.rg, k.rg⟩
theorem rgO3_ok (i j : Int) (g : En) (h : Sm i) (k : Sm j) : rgO3 (some [.int i, .int j, .int (-1)]) g = .ok ((drange i (i - j).toNat).map .int) g := by
  rw [← rngD_drange]
  exact if_pos ⟨h.rg, k.rg, rfl⟩
theorem rgT3_ok (i j : Int) (g : En) (h : Sm i) (k : Sm j) : rgT3 (some [.int i, .int j, .int (-1)]) g = .ok (.tuple ((drange i (i - j).toNat).map .int)) g := by
  rw [← rngD_drange]
  exact if_pos ⟨h.rg, k.rg, rfl, by obtain ⟨h1, h2⟩ := h; obtain ⟨k1, k2⟩ := k; omega⟩
theorem okRg_sm {i j : Int} (h : Sm i) (k : Sm j) : okRg i j = true := by
  obtain ⟨h1, h2⟩ := h
  obtain ⟨k1, k2⟩ := k
  unfold okRg
  simp only [Bool.and_eq_true, decide_eq_true_eq]
  omega
def rgL (ij : Int × Int) (g : En) : Ro (List D) := if okRg ij.1 ij.2 then .ok (rgD ij.1 ij.2) g else .bad
theorem dLstRg_go (m : M (Int × Int)) (g : En) : dLstRg m g = (m g).thn (c := ⟨fun ij g1 => rgL ij g1⟩) := by
  unfold dLstRg bnd Ro.thn rgL
  cases m g with
  | ok x g1 =>
    dsimp only
    split <;> rfl
  | _ => rfl
theorem rgL_ok (i j : Int) (g : En) (h : Sm i) (k : Sm j) : rgL (i, j) g = .ok ((irange i (j - i).toNat).map .int) g := by
  rw [← rgD_irange]
  exact if_pos (okRg_sm h k)
def rgT (ij : Int × Int) (g : En) : Ro D := if okRg ij.1 ij.2 then .ok (.tuple (rgD ij.1 ij.2)) g else .bad
theorem dTupRg_go (m : M (Int × Int)) (g : En) : dTupRg m g = (m g).thn (c := ⟨fun ij g1 => rgT ij g1⟩) := by
  unfold dTupRg bnd Ro.thn rgT
  cases m g with
  | ok x g1 =>
    dsimp only
    split <;> rfl
  | _ => rfl
theorem rgT_ok (i j : Int) (g : En) (h : Sm i) (k : Sm j) : rgT (i, j) g = .ok (.tuple ((irange i (j - i).toNat).map .int)) g := by
  rw [← rgD_irange]
  exact if_pos (okRg_sm h k)
theorem sm0 : Sm 0 := ⟨by decide, by decide⟩
theorem sm1 : Sm 1 := ⟨by decide, by decide⟩
theorem sm_of {i : Int} (h : 0 ≤ i) (k : i ≤ 1000) : Sm i := ⟨by omega, by omega⟩
theorem sz1 : 1 ≤ sizeLine := by decide
theorem sz2 : 2 ≤ sizeLine := by decide
theorem sz3 : 3 ≤ sizeLine := by decide
theorem sz4 : 4 ≤ sizeLine := by decide
theorem sz5 : 5 ≤ sizeLine := by decide
theorem sz_le {n : Nat} (h : n ≤ 100000) : n ≤ sizeLine := Nat.le_trans h (by decide)
theorem sz_lt {n : Nat} (h : n < 100000) : n < sizeLine := Nat.lt_of_lt_of_le h (by decide)
end Z

set_option Elab.async false
set_option linter.all false
set_option maxRecDepth 100000
set_option autoImplicit false
set_option maxHeartbeats 1000000
namespace Z
open PySem PySem.Spec PyProof.Rows L2
theorem compB_map {β : Type} {vs : List Nat} {t : Tg} {me : M D} {enc f : β → D} {g : En} (l : List β) (hz : l.length ≤ sizeLine) (hn : noOwn g vs = true)
    (h : ∀ x ∈ l, ∃ g1, setT t (enc x) (wipG g vs) = some g1 ∧ me g1 = .ok (f x) g1 ∧ wipG g1 vs = wipG g vs) : compB vs t (rt true) me (l.map enc) g = .ok (l.map f) g := by
  have := compB_ok (vs := vs) (t := t) (mt := rt true) (me := me) (enc := enc) (f := f) (p := fun _ => true) l hz hn fun x hx => by
    obtain ⟨g1, h1, h2, h3⟩ := h x hx
    exact ⟨g1, h1, rfl, fun _ => h2, h3⟩
  rw [this, List.filter_eq_self.mpr (fun _ _ => rfl)]
theorem compB_one {β : Type} {i : Nat} {me : M D} {enc f : β → D} {g : En} (l : List β) (hz : l.length ≤ 100000) (hn : noOwn g [i] = true)
    (h : ∀ x ∈ l, me (g.set i (.d (enc x))) = .ok (f x) (g.set i (.d (enc x)))) : compB [i] (.nm i) (rt true) me (l.map enc) g = .ok (l.map f) g :=
  compB_map l (sz_le hz) hn fun x hx => ⟨g.set i (.d (enc x)), by rw [setT_nm]; show some ((g.set i .u).set i _) = _; rw [List.set_set], h x hx, by show (g.set i _).set i .u = g.set i .u; rw [List.set_set]⟩
theorem compB_fil {β : Type} {i : Nat} {mt : M Bool} {me : M D} {enc f : β → D} {p : β → Bool} {g : En} (l : List β) (hz : l.length ≤ 100000) (hn : noOwn g [i] = true)
    (h : ∀ x ∈ l, mt (g.set i (.d (enc x))) = .ok (p x) (g.set i (.d (enc x))) ∧ (p x = true → me (g.set i (.d (enc x))) = .ok (f x) (g.set i (.d (enc x))))) : compB [i] (.nm i) mt me (l.map enc) g = .ok ((l.filter p).map f) g :=
  compB_ok l (sz_le hz) hn fun x hx => ⟨g.set i (.d (enc x)), by rw [setT_nm]; show some ((g.set i .u).set i _) = _; rw [List.set_set], (h x hx).1, (h x hx).2, by show (g.set i _).set i .u = g.set i .u; rw [List.set_set]⟩
theorem fIs_ii (i : Int) : fIs [.int] (.int i) = some (.bool true) := Eq.trans rfl rfl
theorem fIs_ib (i : Int) : fIs [.bool] (.int i) = some (.bool false) := Eq.trans rfl rfl
theorem fIs_is (i : Int) : fIs [.str] (.int i) = some (.bool false) := Eq.trans rfl rfl
theorem fIs_itl (i : Int) : fIs [.tuple, .list] (.int i) = some (.bool false) := Eq.trans rfl rfl
theorem fIs_tt (xs : List D) : fIs [.tuple] (.tuple xs) = some (.bool true) := Eq.trans rfl rfl
theorem fIs_tl (xs : List D) : fIs [.list] (.tuple xs) = some (.bool false) := Eq.trans rfl rfl
theorem fIs_ttl (xs : List D) : fIs [.tuple, .list] (.tuple xs) = some (.bool true) := Eq.trans rfl rfl
theorem fIs_lt (xs : List D) : fIs [.tuple] (.list xs) = some (.bool false) := Eq.trans rfl rfl
theorem fIs_ll (xs : List D) : fIs [.list] (.list xs) = some (.bool true) := Eq.trans rfl rfl
theorem fIs_ltl (xs : List D) : fIs [.tuple, .list] (.list xs) = some (.bool true) := Eq.trans rfl rfl
theorem fAll_b (bs : List Bool) : fAll [.list (bs.map .bool)] = some (.bool (bs.all id)) := by
  unfold fAll
  dsimp only
  rw [toBools_map]
  rfl
theorem fSum_i (ns : List Int) : fSum [.list (ns.map .int)] = some (.int ns.sum) := by
  unfold fSum
  dsimp only
  rw [toInts_map]
  rfl
theorem okSort_ints (p : List Int) (h : p.length ≤ 100000) : okSort (p.map .int) = true := by
  unfold okSort
  simp only [Bool.and_eq_true, List.all_eq_true, decide_eq_true_eq, Bool.or_eq_true, List.length_map]
  refine ⟨⟨⟨fun x hx y hy => ?_, .inr fun x hx => ?_⟩, sz_le h⟩, fun x hx => ?_⟩
  · obtain ⟨i, _, rfl⟩ := List.mem_map.mp hx
    obtain ⟨j, _, rfl⟩ := List.mem_map.mp hy
    rfl
  · obtain ⟨i, _, rfl⟩ := List.mem_map.mp hx
    rfl
  · obtain ⟨i, _, rfl⟩ := List.mem_map.mp hx
    exact Nat.zero_le _
theorem fSorted_t (xs : List D) (h : okSort xs = true) : fSorted [.tuple xs] = some (sortD xs) := if_pos h
theorem fSorted_l (xs : List D) (h : okSort xs = true) : fSorted [.list xs] = some (sortD xs) := if_pos h
theorem fBack_t (xs : List D) : fBack (.tuple xs) = some (.tuple xs.reverse) := Eq.trans rfl rfl
theorem fBackL_l (xs : List D) : fBackL (.list xs) = some xs.reverse := Eq.trans rfl rfl
theorem all_true (n : Nat) : (List.replicate n true).all id = true := by
  rw [List.all_eq_true]
  intro x hx
  rw [List.eq_of_mem_replicate hx]
  rfl
theorem map_true {α : Type} (l : List α) : l.map (fun _ => PyData.bool true) = (List.replicate l.length true).map PyData.bool := by
  induction l with
  | nil => rfl
  | cons x l ih => rw [List.map_cons, ih]; rfl
end Z

set_option Elab.async false
set_option linter.all false
set_option maxRecDepth 100000
set_option autoImplicit false
set_option maxHeartbeats 1000000
namespace Z
open PySem PySem.Spec PyProof.Rows L2
def tu (p : List Int) : List Int := p.reverse
def mi (p : List Int) : List Int := p.map fun x => p.length + 1 - x
theorem tu_len (p : List Int) : (tu p).length = p.length := List.length_reverse
theorem mi_len (p : List Int) : (mi p).length = p.length := List.length_map ..
theorem isOrd_tu {p : List Int} (h : IsOrd p) : IsOrd (tu p) := ⟨by unfold tu; exact List.pairwise_reverse.mpr (h.nd.imp fun {a b} e => Ne.symm e), fun x hx => h.lo x (List.mem_reverse.mp hx), fun x hx => by rw [tu_len]; exact h.hi x (List.mem_reverse.mp hx)⟩
theorem isOrd_mi {p : List Int} (h : IsOrd p) : IsOrd (mi p) := by
  refine ⟨?_, fun x hx => ?_, fun x hx => ?_⟩
  · unfold mi
    exact List.pairwise_map.mpr (h.nd.imp fun {a b} e => by omega)
  · obtain ⟨y, hy, rfl⟩ := List.mem_map.mp hx
    have := h.hi y hy
    omega
  · obtain ⟨y, hy, rfl⟩ := List.mem_map.mp hx
    have := h.lo y hy
    rw [mi_len]
    omega
end Z

set_option Elab.async false
set_option linter.all false
set_option maxRecDepth 100000
set_option autoImplicit false
set_option maxHeartbeats 1000000
namespace Z
open PySem PySem.Spec PyProof.Rows L2
theorem argD_vn (g : En) (ks : List Pk) (i : Nat) (rs : List Rs) : argD g none (.v :: ks) (.sl i :: rs) = oMap (argD g none ks rs) (c := ⟨fun xs => oMap (slV g[i]?) (c := ⟨fun x => some (x :: xs)⟩)⟩) := argD_vs g none ks i rs (fun z => nomatch z)
def like (c : List Int) : List Int := c.map fun y => 1 + ((c.filter fun x => decide (x < y)).length : Int)
theorem like_len (c : List Int) : (like c).length = c.length := List.length_map ..
theorem cnt_lt : ∀ {c : List Int} {a b : Int}, a < b → a ∈ c → (c.filter fun x => decide (x < a)).length < (c.filter fun x => decide (x < b)).length
  | [], _, _, _, h => nomatch h
  | x :: c, a, b, hab, h => by
    have le : (c.filter fun x => decide (x < a)).length ≤ (c.filter fun x => decide (x < b)).length := by
      clear h
      induction c with
      | nil => exact Nat.le_refl _
      | cons y c ih =>
        by_cases h1 : y < a
        · rw [List.filter_cons_of_pos (by simpa using h1), List.filter_cons_of_pos (by simp; omega)]
          exact Nat.succ_le_succ ih
        · rw [List.filter_cons_of_neg (by simpa using h1)]
          by_cases h2 : y < b
          · rw [List.filter_cons_of_pos (by simpa using h2)]
            exact Nat.le_succ_of_le ih
          · rw [List.filter_cons_of_neg (by simpa using h2)]
            exact ih
    by_cases e : x = a
    · subst e
      rw [List.filter_cons_of_neg (by simp), List.filter_cons_of_pos (by simpa using hab)]
      exact Nat.lt_succ_of_le le
    · have hm : a ∈ c := by
        rcases List.mem_cons.mp h with z | z
        · exact absurd z.symm e
        · exact z
      have ih := cnt_lt hab hm
      by_cases h1 : x < a
      · rw [List.filter_cons_of_pos (by simpa using h1), List.filter_cons_of_pos (by simp; omega)]
        exact Nat.succ_lt_succ ih
      · rw [List.filter_cons_of_neg (by simpa using h1)]
        by_cases h2 : x < b
        · rw [List.filter_cons_of_pos (by simpa using h2)]
          exact Nat.lt_succ_of_lt ih
        · rw [List.filter_cons_of_neg (by simpa using h2)]
          exact ih
theorem isOrd_like {c : List Int} (h : c.Nodup) : IsOrd (like c) := by
  refine ⟨?_, fun x hx => ?_, fun x hx => ?_⟩
  · unfold like
    refine List.pairwise_map.mpr ?_
    refine List.Pairwise.imp_of_mem (fun {a b} ha hb hab e => ?_) h
    rcases Int.lt_trichotomy a b with z | z | z
    · have := cnt_lt z ha
      omega
    · exact hab z
    · have := cnt_lt z hb
      omega
  · obtain ⟨y, hy, rfl⟩ := List.mem_map.mp hx
    omega
  · obtain ⟨y, hy, rfl⟩ := List.mem_map.mp hx
    rw [like_len]
    have h1 : (c.filter fun x => decide (x < y)).length < (c.filter fun x => decide (x < y + 1)).length := cnt_lt (by omega) hy
    have h2 := List.length_filter_le (fun x => decide (x < y + 1)) c
    omega
def wsum (w : Nat → Nat) (P : Nat → Bool) : Nat → Nat
  | 0 => 0
  | n + 1 => wsum w P n + if P n = true then w n else 0
theorem wsum_le {w : Nat → Nat} {P Q : Nat → Bool} : ∀ {n : Nat}, (∀ j, j < n → P j = true → Q j = true) → wsum w P n ≤ wsum w Q n
  | 0, _ => Nat.le_refl _
  | n + 1, h => by
    have ih := wsum_le (w := w) (P := P) (Q := Q) (n := n) fun j hj => h j (by omega)
    unfold wsum
    by_cases hp : P n = true
    · rw [if_pos hp, if_pos (h n (Nat.lt_succ_self n) hp)]
      omega
    · rw [if_neg hp]
      omega
theorem wsum_lt {w : Nat → Nat} {P Q : Nat → Bool} : ∀ {n a : Nat}, a < n → P a = false → Q a = true → (∀ j, j < n → P j = true → Q j = true) → wsum w P n + w a ≤ wsum w Q n
  | 0, _, ha, _, _, _ => absurd ha (Nat.not_lt_zero _)
  | n + 1, a, ha, h1, h2, h => by
    unfold wsum
    by_cases e : a = n
    · subst e
      have ih := wsum_le (w := w) (P := P) (Q := Q) (n := a) fun j hj => h j (by omega)
      rw [h1, h2, if_neg Bool.false_ne_true, if_pos rfl]
      omega
    · have ih := wsum_lt (w := w) (P := P) (Q := Q) (n := n) (a := a) (by omega) h1 h2 fun j hj => h j (by omega)
      by_cases hp : P n = true
      · rw [if_pos hp, if_pos (h n (Nat.lt_succ_self n) hp)]
        omega
      · rw [if_neg hp]
        omega
theorem irange_snoc (a : Int) (n : Nat) : irange a (n + 1) = irange a n ++ [a + n] := by
  unfold irange
  rw [List.range_succ, List.map_append]
  rfl
theorem wsum_eq (w : Nat → Nat) (P : Nat → Bool) : ∀ n : Nat, (((irange 0 n).filter fun i => P i.toNat).map fun i => ((w i.toNat : Nat) : Int)).sum = (wsum w P n : Int)
  | 0 => rfl
  | n + 1 => by
    rw [irange_snoc, List.filter_append, List.map_append, List.sum_append, wsum_eq w P n]
    have e : ((0 : Int) + (n : Int)).toNat = n := by omega
    rw [show wsum w P (n + 1) = wsum w P n + (if P n = true then w n else 0) from rfl]
    by_cases h : P n = true
    · rw [List.filter_cons_of_pos (by rw [e]; exact h), List.filter_nil, if_pos h, List.map_cons, List.map_nil, e]
      simp
    · rw [List.filter_cons_of_neg (by rw [e]; exact h), List.filter_nil, if_neg h]
      simp
def lessOf (p : List Int) (R : List (List Int)) (k : Nat) : Nat := wsum (fun j => (R.getD j []).length) (fun j => decide (p.getD j 0 < p.getD k 0)) p.length
def fillL (p : List Int) (R : List (List Int)) : Nat → List Int
  | 0 => []
  | k + 1 => fillL p R k ++ (R.getD k []).map fun x => (lessOf p R k : Int) + x
def total (R : List (List Int)) (n : Nat) : Nat := wsum (fun j => (R.getD j []).length) (fun _ => true) n
theorem fillL_len (p : List Int) (R : List (List Int)) : ∀ k : Nat, (fillL p R k).length = total R k
  | 0 => rfl
  | k + 1 => by
    unfold fillL total wsum
    rw [List.length_append, fillL_len p R k, List.length_map, if_pos rfl]
    rfl
theorem fillL_mem {p : List Int} {R : List (List Int)} {y : Int} : ∀ {k : Nat}, y ∈ fillL p R k → ∃ j x, j < k ∧ x ∈ R.getD j [] ∧ y = (lessOf p R j : Int) + x
  | 0, h => nomatch h
  | k + 1, h => by
    unfold fillL at h
    rcases List.mem_append.mp h with h | h
    · obtain ⟨j, x, h1, h2, h3⟩ := fillL_mem h
      exact ⟨j, x, by omega, h2, h3⟩
    · obtain ⟨x, h1, h2⟩ := List.mem_map.mp h
      exact ⟨k, x, Nat.lt_succ_self k, h1, h2.symm⟩
theorem less_total {p : List Int} {R : List (List Int)} {k : Nat} (hk : k < p.length) : lessOf p R k + (R.getD k []).length ≤ total R p.length := wsum_lt (w := fun j => (R.getD j []).length) hk (by simp) rfl fun _ _ _ => rfl
theorem less_less {p : List Int} {R : List (List Int)} {i j : Nat} (hi : i < p.length) (h : p.getD i 0 < p.getD j 0) : lessOf p R i + (R.getD i []).length ≤ lessOf p R j :=
  wsum_lt (w := fun j => (R.getD j []).length) hi (by simp) (by simpa using h) fun k _ hk => by
    have := of_decide_eq_true hk
    exact decide_eq_true (by omega)
theorem isOrd_fill {p : List Int} {R : List (List Int)} (hp : p.Nodup) (hR : ∀ j, j < p.length → IsOrd (R.getD j [])) : IsOrd (fillL p R p.length) := by
  have bl : ∀ {j : Nat} {x : Int}, j < p.length → x ∈ R.getD j [] → 1 ≤ x ∧ x ≤ (R.getD j []).length := fun {j x} hj hx => ⟨(hR j hj).lo x hx, (hR j hj).hi x hx⟩
  refine ⟨?_, fun y hy => ?_, fun y hy => ?_⟩
  · have : ∀ k : Nat, k ≤ p.length → (fillL p R k).Nodup := by
      intro k
      induction k with
      | zero => exact fun _ => List.nodup_nil
      | succ k ih =>
        intro hk
        unfold fillL
        refine List.nodup_append.mpr ⟨ih (by omega), List.pairwise_map.mpr ((hR k (by omega)).nd.imp fun {a b} e => by omega), fun a ha b hb e => ?_⟩
        subst e
        obtain ⟨j, x, h1, h2, h3⟩ := fillL_mem ha
        obtain ⟨x', h4, h5⟩ := List.mem_map.mp hb
        have b1 := bl (show j < p.length by omega) h2
        have b2 := bl (show k < p.length by omega) h4
        have hne : p.getD j 0 ≠ p.getD k 0 := by
          rw [List.getD_eq_getElem?_getD, List.getD_eq_getElem?_getD, List.getElem?_eq_getElem (show j < p.length by omega), List.getElem?_eq_getElem (show k < p.length by omega)]
          intro z
          have := (List.getElem_inj (h₀ := show j < p.length by omega) (h₁ := show k < p.length by omega) hp).mp z
          omega
        rcases Int.lt_or_gt_of_ne hne with z | z
        · have := less_less (R := R) (show j < p.length by omega) z
          omega
        · have := less_less (R := R) (show k < p.length by omega) z
          omega
    exact this _ (Nat.le_refl _)
  · obtain ⟨j, x, h1, h2, rfl⟩ := fillL_mem hy
    have := bl h1 h2
    omega
  · obtain ⟨j, x, h1, h2, rfl⟩ := fillL_mem hy
    have := bl h1 h2
    have h3 := less_total (R := R) h1
    rw [fillL_len]
    omega
theorem total_snoc {R : List (List Int)} {r : List Int} : total (R ++ [r]) (R.length + 1) = total R R.length + r.length := by
  unfold total
  rw [wsum, if_pos rfl]
  congr 1
  · have : ∀ n : Nat, n ≤ R.length → wsum (fun j => ((R ++ [r]).getD j []).length) (fun _ => true) n = wsum (fun j => (R.getD j []).length) (fun _ => true) n := by
      intro n
      induction n with
      | zero => exact fun _ => rfl
      | succ n ih =>
        intro hn
        unfold wsum
        rw [ih (by omega), if_pos rfl, if_pos rfl, List.getD_eq_getElem?_getD, List.getElem?_append_left (by omega), List.getD_eq_getElem?_getD]
    exact this _ (Nat.le_refl _)
  · rw [List.getD_eq_getElem?_getD, List.getElem?_append_right (Nat.le_refl _), Nat.sub_self]
    rfl
end Z

set_option Elab.async false
set_option linter.all false
set_option maxRecDepth 100000
set_option autoImplicit false
set_option maxHeartbeats 1000000
namespace Z
open PySem PySem.Spec PyProof.Rows L2
def mx : List Int → Int
  | [] => 0
  | n :: ns => lmax n ns
def mn : List Int → Int
  | [] => 0
  | n :: ns => lmin n ns
theorem mx_mem {l : List Int} (h : l ≠ []) : mx l ∈ l := by
  cases l with
  | nil => exact absurd rfl h
  | cons n ns =>
    rcases (lmax_spec ns n).1 with e | e
    · show lmax n ns ∈ n :: ns
      rw [e]
      exact List.mem_cons_self
    · exact List.mem_cons_of_mem _ e
theorem mx_ge {l : List Int} {x : Int} (h : x ∈ l) : x ≤ mx l := by
  cases l with
  | nil => exact nomatch h
  | cons n ns =>
    rcases List.mem_cons.mp h with e | e
    · rw [e]
      exact (lmax_spec ns n).2.1
    · exact (lmax_spec ns n).2.2 x e
theorem mn_mem {l : List Int} (h : l ≠ []) : mn l ∈ l := by
  cases l with
  | nil => exact absurd rfl h
  | cons n ns =>
    rcases (lmin_spec ns n).1 with e | e
    · show lmin n ns ∈ n :: ns
      rw [e]
      exact List.mem_cons_self
    · exact List.mem_cons_of_mem _ e
theorem mn_le {l : List Int} {x : Int} (h : x ∈ l) : mn l ≤ x := by
  cases l with
  | nil => exact nomatch h
  | cons n ns =>
    rcases List.mem_cons.mp h with e | e
    · rw [e]
      exact (lmin_spec ns n).2.1
    · exact (lmin_spec ns n).2.2 x e
theorem fMax_l {l : List Int} (h : l ≠ []) : fMax [.list (l.map .int)] = some (.int (mx l)) := by
  cases l with
  | nil => exact absurd rfl h
  | cons n ns =>
    show (match toInts ((n :: ns).map .int) with
      | some (n :: ns) => some (PyData.int (lmax n ns))
      | _ => none) = _
    rw [toInts_map]
    rfl
theorem fCutT_take (xs : List D) (i : Nat) : fCutT (.tuple xs) none (some (i : Int)) = some (.tuple (xs.take i)) := by
  show some (PyData.tuple (cutD xs none (some (i : Int)))) = _
  unfold cutD
  rw [HT.sIx_none, HT.sIx_nat, List.drop_zero, Nat.sub_zero]
  congr 2
  by_cases h : i ≤ xs.length
  · rw [Nat.min_eq_left h]
  · rw [Nat.min_eq_right (by omega), List.take_length, List.take_of_length_le (by omega)]
def qAt (q : List Int) (a : Nat) : Int := q.getD a 0
def lesser (q : List Int) (a : Nat) : List Int := (q.take a).filter fun x => decide (x < qAt q a)
def greater (q : List Int) (a : Nat) : List Int := (q.take a).filter fun x => decide (qAt q a < x)
theorem enumD_cons (i : Nat) (x : D) (xs : List D) : enumD i (x :: xs) = .tuple [.int (i : Nat), x] :: enumD (i + 1) xs := rfl
theorem getD_get {q : List Int} {a : Nat} (h : a < q.length) : q[a]? = some (q.getD a 0) := by
  rw [List.getD_eq_getElem?_getD, List.getElem?_eq_getElem h]
  rfl
end Z

set_option Elab.async false
set_option linter.all false
set_option maxRecDepth 100000
set_option autoImplicit false
set_option maxHeartbeats 1000000
namespace Z
open PySem PySem.Spec PyProof.Rows L2
def pAt (p : List Int) (x : Int) : Int := p.getD x.toNat 0
def leastI (p q : List Int) (a : Nat) (t : List Int) : Int := if lesser q a = [] then 0 else pAt p (t.getD (q.idxOf (mx (lesser q a))) 0)
def mostI (p q : List Int) (a : Nat) (t : List Int) : Int := if greater q a = [] then (p.length : Int) + 1 else pAt p (t.getD (q.idxOf (mn (greater q a))) 0)
def startI (t : List Int) : Int := match t.getLast? with
  | some x => x + 1
  | none => 0
def stopI (p q : List Int) (a : Nat) : Int := (p.length : Int) - ((q.length : Int) - a - 1)
def okI (p q : List Int) (a : Nat) (t : List Int) (x : Int) : Bool := decide (leastI p q a t < pAt p x) && decide (pAt p x < mostI p q a t)
def extT (p q : List Int) (a : Nat) (t : List Int) : List (List Int) := ((irange (startI t) (stopI p q a - startI t).toNat).filter (okI p q a t)).map fun x => t ++ [x]
def Ls (p q : List Int) : Nat → List (List Int)
  | 0 => [[]]
  | a + 1 => (Ls p q a).flatMap (extT p q a)
/-- a tuple of places so far -/
structure Pl (p : List Int) (a : Nat) (t : List Int) : Prop where
  len : t.length = a
  lo : ∀ x ∈ t, 0 ≤ x
  hi : ∀ x ∈ t, x < p.length
theorem startI_bd {p : List Int} {a : Nat} {t : List Int} (h : Pl p a t) : 0 ≤ startI t ∧ startI t ≤ p.length := by
  unfold startI
  cases e : t.getLast? with
  | none => exact ⟨Int.le_refl _, by show (0 : Int) ≤ _; omega⟩
  | some x =>
    have hm := List.mem_of_getLast? e
    have h1 := h.lo x hm
    have h2 := h.hi x hm
    dsimp only
    omega
theorem idx_take {q : List Int} {a : Nat} {x : Int} (h : x ∈ q.take a) : q.idxOf x < a := by
  have e : q.idxOf x = (q.take a).idxOf x := by
    conv => lhs; rw [← List.take_append_drop a q]
    rw [List.idxOf_append, if_pos h]
  rw [e]
  have := List.idxOf_lt_length_of_mem h
  rw [List.length_take] at this
  omega
end Z

set_option Elab.async false
set_option linter.all false
set_option maxRecDepth 100000
set_option autoImplicit false
set_option maxHeartbeats 1000000
namespace Z
open PySem PySem.Spec PyProof.Rows L2
abbrev at0 (t : List Int) (i : Nat) : Int := t.getD i 0
theorem at0_mem {t : List Int} {i : Nat} (h : i < t.length) : at0 t i ∈ t := by
  unfold at0
  rw [List.getD_eq_getElem?_getD, List.getElem?_eq_getElem h]
  exact List.getElem_mem h
theorem mem_at0 {t : List Int} {x : Int} (h : x ∈ t) : ∃ i, i < t.length ∧ at0 t i = x := by
  obtain ⟨i, hi, e⟩ := List.mem_iff_getElem.mp h
  refine ⟨i, hi, ?_⟩
  unfold at0
  rw [List.getD_eq_getElem?_getD, List.getElem?_eq_getElem hi, ← e]
  rfl
theorem at0_app1 {t u : List Int} {i : Nat} (h : i < t.length) : at0 (t ++ u) i = at0 t i := by
  unfold at0
  rw [List.getD_eq_getElem?_getD, List.getD_eq_getElem?_getD, List.getElem?_append_left h]
theorem at0_app2 {t : List Int} {x : Int} : at0 (t ++ [x]) t.length = x := by
  unfold at0
  rw [List.getD_eq_getElem?_getD, List.getElem?_append_right (Nat.le_refl _), Nat.sub_self]
  rfl
theorem at0_inj {q : List Int} (h : q.Nodup) {i j : Nat} (hi : i < q.length) (hj : j < q.length) (e : at0 q i = at0 q j) : i = j := by
  unfold at0 at e
  rw [List.getD_eq_getElem?_getD, List.getD_eq_getElem?_getD, List.getElem?_eq_getElem hi, List.getElem?_eq_getElem hj] at e
  exact (List.getElem_inj (h₀ := hi) (h₁ := hj) h).mp e
theorem pAt_bd {p : List Int} (h : IsOrd p) {x : Int} (h0 : 0 ≤ x) (h1 : x < p.length) : 1 ≤ pAt p x ∧ pAt p x ≤ p.length := by
  have hm : pAt p x ∈ p := at0_mem (show x.toNat < p.length by omega)
  exact ⟨h.lo _ hm, h.hi _ hm⟩
/-- the first a things of q are shown at t -/
structure Mt (p q : List Int) (a : Nat) (t : List Int) : Prop where
  pl : Pl p a t
  asc : ∀ i j, i < j → j < a → at0 t i < at0 t j
  ord : ∀ i j, i < a → j < a → (pAt p (at0 t i) < pAt p (at0 t j) ↔ at0 q i < at0 q j)
theorem startI_le {t : List Int} {x : Int} (asc : ∀ i j, i < j → j < t.length → at0 t i < at0 t j) (h0 : 0 ≤ x) : startI t ≤ x ↔ ∀ y ∈ t, y < x := by
  rcases List.eq_nil_or_concat t with rfl | ⟨s, z, rfl⟩
  · exact ⟨fun _ _ h => (nomatch h), fun _ => h0⟩
  · rw [List.concat_eq_append] at *
    have hs : startI (s ++ [z]) = z + 1 := by
      unfold startI
      rw [List.getLast?_concat]
    rw [hs]
    constructor
    · intro h y hy
      rcases List.mem_append.mp hy with hy | hy
      · obtain ⟨i, hi, rfl⟩ := mem_at0 hy
        have := asc i s.length hi (by rw [List.length_append, List.length_singleton]; omega)
        rw [at0_app1 hi, at0_app2] at this
        omega
      · rw [List.mem_singleton.mp hy]
        omega
    · intro h
      have := h z (List.mem_append_right _ (List.mem_singleton.mpr rfl))
      omega
section
variable {p q : List Int} {a : Nat} {t : List Int}
theorem q_take {i : Nat} (hi : i < a) (ha : a < q.length) : at0 q i ∈ q.take a := by
  have : at0 q i = at0 (q.take a) i := by
    unfold at0
    rw [List.getD_eq_getElem?_getD, List.getD_eq_getElem?_getD, List.getElem?_take_of_lt hi]
  rw [this]
  exact at0_mem (by rw [List.length_take]; omega)
theorem take_q {x : Int} (h : x ∈ q.take a) : ∃ i, i < a ∧ i < q.length ∧ at0 q i = x ∧ i = q.idxOf x := by
  have h1 := idx_take h
  have h2 := List.idxOf_lt_length_of_mem (List.mem_of_mem_take h)
  refine ⟨q.idxOf x, h1, h2, ?_, rfl⟩
  unfold at0
  rw [List.getD_eq_getElem?_getD, List.getElem?_eq_getElem h2, List.getElem_idxOf]
  rfl
theorem least_iff (ip : IsOrd p) (iq : q.Nodup) (ha : a < q.length) (m : Mt p q a t) {x : Int} (h0 : 0 ≤ x) (h1 : x < p.length) : leastI p q a t < pAt p x ↔ ∀ i, i < a → at0 q i < at0 q a → pAt p (at0 t i) < pAt p x := by
  unfold leastI
  by_cases z : lesser q a = []
  · rw [if_pos z]
    refine ⟨fun _ i hi hq => ?_, fun _ => by have := (pAt_bd ip h0 h1).1; omega⟩
    have : at0 q i ∈ lesser q a := List.mem_filter.mpr ⟨q_take hi ha, decide_eq_true hq⟩
    rw [z] at this
    cases this
  · rw [if_neg z]
    have hm := mx_mem z
    obtain ⟨b, b1, b2, b3, b4⟩ := take_q (List.mem_filter.mp hm).1
    have b5 : mx (lesser q a) < at0 q a := of_decide_eq_true (List.mem_filter.mp hm).2
    rw [← b4]
    constructor
    · intro h i hi hq
      have hl : at0 q i ≤ mx (lesser q a) := mx_ge (List.mem_filter.mpr ⟨q_take hi ha, decide_eq_true hq⟩)
      by_cases e : i = b
      · rw [e]
        exact h
      · have : at0 q i < at0 q b := by
          have hne : at0 q i ≠ at0 q b := fun w => e (at0_inj iq (by omega) b2 w)
          omega
        have := (m.ord i b hi b1).mpr this
        exact Int.lt_trans this h
    · intro h
      exact h b b1 (by rw [b3]; exact b5)
theorem most_iff (ip : IsOrd p) (iq : q.Nodup) (ha : a < q.length) (m : Mt p q a t) {x : Int} (h0 : 0 ≤ x) (h1 : x < p.length) : pAt p x < mostI p q a t ↔ ∀ i, i < a → at0 q a < at0 q i → pAt p x < pAt p (at0 t i) := by
  unfold mostI
  by_cases z : greater q a = []
  · rw [if_pos z]
    refine ⟨fun _ i hi hq => ?_, fun _ => by have := (pAt_bd ip h0 h1).2; omega⟩
    have : at0 q i ∈ greater q a := List.mem_filter.mpr ⟨q_take hi ha, decide_eq_true hq⟩
    rw [z] at this
    cases this
  · rw [if_neg z]
    have hm := mn_mem z
    obtain ⟨b, b1, b2, b3, b4⟩ := take_q (List.mem_filter.mp hm).1
    have b5 : at0 q a < mn (greater q a) := of_decide_eq_true (List.mem_filter.mp hm).2
    rw [← b4]
    constructor
    · intro h i hi hq
      have hl : mn (greater q a) ≤ at0 q i := mn_le (List.mem_filter.mpr ⟨q_take hi ha, decide_eq_true hq⟩)
      by_cases e : i = b
      · rw [e]
        exact h
      · have : at0 q b < at0 q i := by
          have hne : at0 q i ≠ at0 q b := fun w => e (at0_inj iq (by omega) b2 w)
          omega
        have := (m.ord b i b1 hi).mpr this
        exact Int.lt_trans h this
    · intro h
      exact h b b1 (by rw [b3]; exact b5)
/-- one thing more -/
theorem mt_snoc (ip : IsOrd p) (iq : q.Nodup) (ha : a < q.length) {x : Int} (hl : t.length = a) : Mt p q (a + 1) (t ++ [x]) ↔ Mt p q a t ∧ startI t ≤ x ∧ 0 ≤ x ∧ x < p.length ∧ okI p q a t x = true := by
  subst hl
  constructor
  · intro m
    have hx : x ∈ t ++ [x] := List.mem_append_right _ (List.mem_singleton.mpr rfl)
    have h0 := m.pl.lo x hx
    have h1 := m.pl.hi x hx
    have m0 : Mt p q t.length t := by
      refine ⟨⟨rfl, fun y hy => m.pl.lo y (List.mem_append_left _ hy), fun y hy => m.pl.hi y (List.mem_append_left _ hy)⟩, fun i j hij hj => ?_, fun i j hi hj => ?_⟩
      · have := m.asc i j hij (by omega)
        rw [at0_app1 (by omega), at0_app1 hj] at this
        exact this
      · have := m.ord i j (by omega) (by omega)
        rw [at0_app1 hi, at0_app1 hj] at this
        exact this
    refine ⟨m0, (startI_le m0.asc h0).mpr fun y hy => ?_, h0, h1, ?_⟩
    · obtain ⟨i, hi, rfl⟩ := mem_at0 hy
      have := m.asc i t.length hi (by omega)
      rw [at0_app1 hi, at0_app2] at this
      exact this
    · unfold okI
      rw [Bool.and_eq_true, decide_eq_true_eq, decide_eq_true_eq, least_iff ip iq ha m0 h0 h1, most_iff ip iq ha m0 h0 h1]
      refine ⟨fun i hi hq => ?_, fun i hi hq => ?_⟩
      · have := (m.ord i t.length (by omega) (by omega)).mpr hq
        rw [at0_app1 hi, at0_app2] at this
        exact this
      · have := (m.ord t.length i (by omega) (by omega)).mpr hq
        rw [at0_app1 hi, at0_app2] at this
        exact this
  · rintro ⟨m, h2, h0, h1, h3⟩
    unfold okI at h3
    rw [Bool.and_eq_true, decide_eq_true_eq, decide_eq_true_eq, least_iff ip iq ha m h0 h1, most_iff ip iq ha m h0 h1] at h3
    have hy := (startI_le m.asc h0).mp h2
    have split : ∀ i, i < t.length + 1 → i < t.length ∨ i = t.length := fun i hi => by omega
    refine ⟨⟨by rw [List.length_append]; rfl, fun y hy => ?_, fun y hy => ?_⟩, fun i j hij hj => ?_, fun i j hi hj => ?_⟩
    · rcases List.mem_append.mp hy with z | z
      · exact m.pl.lo y z
      · rw [List.mem_singleton.mp z]
        exact h0
    · rcases List.mem_append.mp hy with z | z
      · exact m.pl.hi y z
      · rw [List.mem_singleton.mp z]
        exact h1
    · rcases split j hj with z | rfl
      · rw [at0_app1 (by omega), at0_app1 z]
        exact m.asc i j hij z
      · rw [at0_app1 hij, at0_app2]
        exact hy _ (at0_mem hij)
    · have tri : ∀ i, i < t.length → at0 q i < at0 q t.length ∨ at0 q t.length < at0 q i := fun i hi => by
        have : at0 q i ≠ at0 q t.length := fun w => by
          have := at0_inj iq (by omega) ha w
          omega
        omega
      rcases split i hi with zi | rfl
      · rcases split j hj with zj | rfl
        · rw [at0_app1 zi, at0_app1 zj]
          exact m.ord i j zi zj
        · rw [at0_app1 zi, at0_app2]
          rcases tri i zi with w | w
          · exact ⟨fun _ => w, fun _ => h3.1 i zi w⟩
          · have := h3.2 i zi w
            constructor <;> intro <;> omega
      · rcases split j hj with zj | rfl
        · rw [at0_app1 zj, at0_app2]
          rcases tri j zj with w | w
          · have := h3.1 j zj w
            constructor <;> intro <;> omega
          · exact ⟨fun _ => w, fun _ => h3.2 j zj w⟩
        · rw [at0_app2]
          constructor <;> intro <;> omega
end
theorem mem_Ls {p q : List Int} (ip : IsOrd p) (iq : q.Nodup) : ∀ {a : Nat}, a ≤ q.length → ∀ t : List Int, t ∈ Ls p q a ↔ Mt p q a t ∧ ∀ x ∈ t, x + ((q.length : Int) - a) < p.length
  | 0, _, t => by
    constructor
    · intro h
      have e : t = [] := List.mem_singleton.mp h
      subst e
      exact ⟨⟨⟨rfl, fun _ h => (nomatch h), fun _ h => (nomatch h)⟩, fun i j _ hj => absurd hj (Nat.not_lt_zero _), fun i j hi _ => absurd hi (Nat.not_lt_zero _)⟩, fun _ h => (nomatch h)⟩
    · rintro ⟨m, _⟩
      rw [List.eq_nil_of_length_eq_zero m.pl.len]
      exact List.mem_singleton.mpr rfl
  | a + 1, ha, t => by
    have ih := mem_Ls ip iq (a := a) (by omega)
    constructor
    · intro h
      obtain ⟨s, hs, hu⟩ := List.mem_flatMap.mp h
      obtain ⟨m, hr⟩ := (ih s).mp hs
      unfold extT at hu
      obtain ⟨x, hx, rfl⟩ := List.mem_map.mp hu
      obtain ⟨hx1, hx2⟩ := List.mem_filter.mp hx
      have hx3 := irange_mem.mp hx1
      have hb := startI_bd m.pl
      have hst : stopI p q a = (p.length : Int) - ((q.length : Int) - a - 1) := rfl
      have m' := (mt_snoc ip iq (show a < q.length by omega) m.pl.len (x := x)).mpr ⟨m, hx3.1, by omega, by omega, hx2⟩
      refine ⟨m', fun y hy => ?_⟩
      rcases List.mem_append.mp hy with z | z
      · have h2 := (startI_le (by rw [m.pl.len]; exact m.asc) (show 0 ≤ x by omega)).mp hx3.1 y z
        omega
      · rw [List.mem_singleton.mp z]
        omega
    · rintro ⟨m, hr⟩
      rcases List.eq_nil_or_concat t with rfl | ⟨s, x, rfl⟩
      · have := m.pl.len
        cases this
      · rw [List.concat_eq_append] at *
        have hl : s.length = a := by
          have := m.pl.len
          rw [List.length_append, List.length_singleton] at this
          omega
        obtain ⟨m0, h2, h0, h1, h3⟩ := (mt_snoc ip iq (show a < q.length by omega) hl).mp m
        have hx := hr x (List.mem_append_right _ (List.mem_singleton.mpr rfl))
        have hst : stopI p q a = (p.length : Int) - ((q.length : Int) - a - 1) := rfl
        refine List.mem_flatMap.mpr ⟨s, (ih s).mpr ⟨m0, fun y hy => ?_⟩, List.mem_map.mpr ⟨x, List.mem_filter.mpr ⟨irange_mem.mpr ⟨h2, by omega⟩, h3⟩, rfl⟩⟩
        have := (startI_le (by rw [m0.pl.len]; exact m0.asc) h0).mp h2 y hy
        omega
/-- all places -/
def PL (p q : List Int) : List (List Int) := Ls p q q.length
theorem mem_PL {p q : List Int} (ip : IsOrd p) (iq : q.Nodup) (t : List Int) : t ∈ PL p q ↔ Mt p q q.length t := by
  unfold PL
  rw [mem_Ls ip iq (Nat.le_refl _)]
  refine ⟨fun h => h.1, fun h => ⟨h, fun x hx => ?_⟩⟩
  have := h.pl.hi x hx
  omega
end Z

set_option Elab.async false
set_option linter.all false
set_option maxRecDepth 100000
set_option autoImplicit false
set_option maxHeartbeats 1000000
namespace Z
open PySem PySem.Spec PyProof.Rows L2
theorem at0_map {t : List Int} {f : Int → Int} {i : Nat} (h : i < t.length) : at0 (t.map f) i = f (at0 t i) := by
  unfold at0
  rw [List.getD_eq_getElem?_getD, List.getD_eq_getElem?_getD, List.getElem?_map, List.getElem?_eq_getElem h]
  rfl
theorem mi_mi {p : List Int} : mi (mi p) = p := by
  unfold mi
  rw [List.map_map, List.length_map]
  refine (List.map_congr_left fun x _ => ?_).trans (List.map_id p)
  simp only [Function.comp, id]
  omega
end Z

set_option Elab.async false
set_option linter.all false
set_option maxRecDepth 100000
set_option autoImplicit false
set_option maxHeartbeats 1000000
namespace Z
open PySem PySem.Spec PyProof.Rows L2
theorem sorted_some (p : List Int) : ∃ s : List Int, sortD (p.map .int) = s.map .int ∧ s.Perm p := by
  refine ⟨p.mergeSort fun a b => decide (a ≤ b), sortD_ints (List.mergeSort_perm p _).symm ?_, List.mergeSort_perm p _⟩
  have := List.pairwise_mergeSort (le := fun a b : Int => decide (a ≤ b)) (fun a b c h1 h2 => by
    have h1 := of_decide_eq_true h1
    have h2 := of_decide_eq_true h2
    exact decide_eq_true (Int.le_trans h1 h2)) (fun a b => by
    rcases Int.le_total a b with z | z
    · rw [decide_eq_true z]; rfl
    · rw [decide_eq_true z, Bool.or_true]) p
  exact this.imp fun {a b} h => of_decide_eq_true h
end Z

set_option Elab.async false
set_option linter.all false
set_option maxRecDepth 100000
set_option autoImplicit false
set_option maxHeartbeats 1000000
namespace Z
open PySem PySem.Spec PyProof.Rows L2
def sft (k : Int) (c : List Int) : List Int := c.map fun x => x + k
theorem sft_len (k : Int) (c : List Int) : (sft k c).length = c.length := List.length_map ..
theorem sft_sft (j k : Int) (c : List Int) : sft j (sft k c) = sft (k + j) c := by
  unfold sft
  rw [List.map_map]
  apply List.map_congr_left
  intro x _
  simp only [Function.comp]
  omega
theorem sft_zero (c : List Int) : sft 0 c = c := by
  unfold sft
  exact (List.map_congr_left fun x _ => by simp only [id]; omega).trans (List.map_id c)
theorem cnt_range (y : Int) : ∀ n : Nat, 1 ≤ y → y ≤ n + 1 → ((irange 1 n).filter fun x => decide (x < y)).length = (y - 1).toNat
  | 0, h1, h2 => by
    rw [irange_zero]
    simp
    omega
  | n + 1, h1, h2 => by
    rw [irange_snoc, List.filter_append, List.length_append]
    by_cases h : y ≤ n + 1
    · rw [cnt_range y n h1 h, List.filter_cons_of_neg (by simp; omega)]
      rfl
    · have e : y = (n : Int) + 2 := by omega
      rw [List.filter_cons_of_pos (by simp; omega)]
      have : (irange 1 n).filter (fun x => decide (x < y)) = irange 1 n := List.filter_eq_self.mpr fun x hx => by
        have := irange_mem.mp hx
        simp
        omega
      rw [this, irange_len]
      simp
      omega
theorem like_ord {p : List Int} (h : IsOrd p) : like p = p := by
  unfold like
  refine (List.map_congr_left fun y hy => ?_).trans (List.map_id p)
  have h1 := h.lo y hy
  have h2 := h.hi y hy
  have := (h.perm.filter fun x => decide (x < y)).length_eq
  rw [this, cnt_range y p.length h1 (by omega)]
  simp only [id]
  omega
def cut (p : List Int) (s : Nat) : Bool := (p.take s).all fun x => decide (x ≤ (s : Int))
theorem cut_iff {p : List Int} {s : Nat} : cut p s = true ↔ ∀ x ∈ p.take s, x ≤ s := by
  unfold cut
  rw [List.all_eq_true]
  exact ⟨fun h x hx => of_decide_eq_true (h x hx), fun h x hx => decide_eq_true (h x hx)⟩
theorem take_ord {p : List Int} {s : Nat} (h : IsOrd p) (hs : s ≤ p.length) (hc : cut p s = true) : IsOrd (p.take s) :=
  ⟨h.nd.sublist (List.take_sublist _ _), fun x hx => h.lo x (List.mem_of_mem_take hx), fun x hx => by
    have := cut_iff.mp hc x hx
    rw [List.length_take]
    omega⟩
theorem drop_gt {p : List Int} {s : Nat} (h : IsOrd p) (hs : s ≤ p.length) (hc : cut p s = true) : ∀ x ∈ p.drop s, (s : Int) < x := by
  intro x hx
  by_cases z : (s : Int) < x
  · exact z
  · exfalso
    have ht := take_ord h hs hc
    have hl : (p.take s).length = s := by rw [List.length_take]; omega
    have hm : x ∈ p.take s := ht.mem (h.lo x (List.mem_of_mem_drop hx)) (by rw [hl]; omega)
    have nd := h.nd
    rw [← List.take_append_drop s p] at nd
    exact (List.nodup_append.mp nd).2.2 x hm x hx rfl
theorem drop_ord {p : List Int} {s : Nat} (h : IsOrd p) (hs : s ≤ p.length) (hc : cut p s = true) : IsOrd (sft (-(s : Int)) (p.drop s)) := by
  refine ⟨?_, fun x hx => ?_, fun x hx => ?_⟩
  · unfold sft
    exact List.pairwise_map.mpr ((h.nd.sublist (List.drop_sublist _ _)).imp fun {a b} e => by omega)
  · obtain ⟨y, hy, rfl⟩ := List.mem_map.mp hx
    have := drop_gt h hs hc y hy
    omega
  · obtain ⟨y, hy, rfl⟩ := List.mem_map.mp hx
    have := h.hi y (List.mem_of_mem_drop hy)
    rw [sft_len, List.length_drop]
    omega
theorem cut_all {p : List Int} (h : IsOrd p) : cut p p.length = true := cut_iff.mpr fun x hx => h.hi x (List.mem_of_mem_take hx)
/-- a cut further on -/
theorem cut_add {p : List Int} {s t : Nat} (h : IsOrd p) (hs : s ≤ p.length) (hc : cut p s = true) : cut p (s + t) = cut (sft (-(s : Int)) (p.drop s)) t := by
  have e : p.take (s + t) = p.take s ++ (p.drop s).take t := by rw [List.take_add]
  apply Bool.eq_iff_iff.mpr
  rw [cut_iff, cut_iff, e]
  constructor
  · intro k x hx
    unfold sft at hx
    rw [← List.map_take] at hx
    obtain ⟨y, hy, rfl⟩ := List.mem_map.mp hx
    have := k y (List.mem_append_right _ hy)
    omega
  · intro k x hx
    rcases List.mem_append.mp hx with hx | hx
    · have := cut_iff.mp hc x hx
      omega
    · have := k (x + -(s : Int)) (by
        unfold sft
        rw [← List.map_take]
        exact List.mem_map.mpr ⟨x, hx, rfl⟩)
      omega
/-- the first cut, from s on -/
def fcut (p : List Int) : Nat → Nat → Nat
  | s, 0 => s
  | s, n + 1 => if cut p s = true then s else fcut p (s + 1) n
theorem fcut_spec {p : List Int} (h : IsOrd p) : ∀ (n s : Nat), s + n = p.length → s ≤ fcut p s n ∧ fcut p s n ≤ p.length ∧ cut p (fcut p s n) = true ∧ ∀ t, s ≤ t → t < fcut p s n → cut p t = false
  | 0, s, e => by
    have : s = p.length := by omega
    subst this
    exact ⟨Nat.le_refl _, Nat.le_refl _, cut_all h, fun t h1 h2 => absurd h1 (Nat.not_le.mpr h2)⟩
  | n + 1, s, e => by
    unfold fcut
    by_cases c : cut p s = true
    · rw [if_pos c]
      exact ⟨Nat.le_refl _, by omega, c, fun t h1 h2 => absurd h1 (Nat.not_le.mpr h2)⟩
    · rw [if_neg c]
      obtain ⟨a1, a2, a3, a4⟩ := fcut_spec h n (s + 1) (by omega)
      refine ⟨by omega, a2, a3, fun t h1 h2 => ?_⟩
      by_cases z : t = s
      · rw [z]
        exact eq_false_of_ne_true c
      · exact a4 t (by omega) h2
def cut1 (p : List Int) : Nat := fcut p 1 (p.length - 1)
theorem cut1_spec {p : List Int} (h : IsOrd p) (hne : p ≠ []) : 1 ≤ cut1 p ∧ cut1 p ≤ p.length ∧ cut p (cut1 p) = true ∧ ∀ t, 1 ≤ t → t < cut1 p → cut p t = false := by
  have : 1 ≤ p.length := by
    cases p with
    | nil => exact absurd rfl hne
    | cons _ _ => simp
  exact fcut_spec h (p.length - 1) 1 (by omega)
/-- the parts of a sum -/
def pts : Nat → List Int → List (List Int)
  | 0, _ => []
  | n + 1, p => if p = [] then [] else p.take (cut1 p) :: pts n (sft (-(cut1 p : Int)) (p.drop (cut1 p)))
end Z

set_option Elab.async false
set_option linter.all false
set_option maxRecDepth 100000
set_option autoImplicit false
set_option maxHeartbeats 1000000
namespace Z
open PySem PySem.Spec PyProof.Rows L2
theorem pts_stable : ∀ (m n : Nat) (p : List Int), IsOrd p → p.length ≤ m → p.length ≤ n → pts m p = pts n p
  | 0, n, p, h, hm, hn => by
    have : p = [] := List.eq_nil_of_length_eq_zero (by omega)
    subst this
    cases n with
    | zero => rfl
    | succ n =>
      unfold pts
      rw [if_pos rfl]
  | m + 1, 0, p, h, hm, hn => by
    have : p = [] := List.eq_nil_of_length_eq_zero (by omega)
    subst this
    unfold pts
    rw [if_pos rfl]
  | m + 1, n + 1, p, h, hm, hn => by
    unfold pts
    by_cases e : p = []
    · rw [if_pos e, if_pos e]
    · rw [if_neg e, if_neg e]
      obtain ⟨c1, c2, c3, c4⟩ := cut1_spec h e
      rw [pts_stable m n _ (drop_ord h c2 c3) (by rw [sft_len, List.length_drop]; omega) (by rw [sft_len, List.length_drop]; omega)]
def Pp (p : List Int) : List (List Int) := pts p.length p
theorem Pp_nil : Pp [] = [] := rfl
theorem Pp_cons {p : List Int} (h : IsOrd p) (hne : p ≠ []) : Pp p = p.take (cut1 p) :: Pp (sft (-(cut1 p : Int)) (p.drop (cut1 p))) := by
  obtain ⟨c1, c2, c3, c4⟩ := cut1_spec h hne
  have hl : p.length = (p.length - 1) + 1 := by omega
  have e1 : Pp p = pts ((p.length - 1) + 1) p := by rw [← hl]; rfl
  have e2 : pts ((p.length - 1) + 1) p = if p = [] then [] else p.take (cut1 p) :: pts (p.length - 1) (sft (-(cut1 p : Int)) (p.drop (cut1 p))) := rfl
  rw [e1, e2, if_neg hne]
  congr 1
  exact pts_stable _ _ _ (drop_ord h c2 c3) (by rw [sft_len, List.length_drop]; omega) (Nat.le_refl _)
/-- the first cut told by what it is -/
theorem cut1_eq {p : List Int} (h : IsOrd p) {s : Nat} (h1 : 1 ≤ s) (h2 : s ≤ p.length) (h3 : cut p s = true) (h4 : ∀ t, 1 ≤ t → t < s → cut p t = false) : cut1 p = s := by
  have hne : p ≠ [] := fun z => by
    rw [z] at h2
    simp at h2
    omega
  obtain ⟨c1, c2, c3, c4⟩ := cut1_spec h hne
  rcases Nat.lt_trichotomy (cut1 p) s with z | z | z
  · have := h4 _ c1 z
    rw [c3] at this
    cases this
  · exact z
  · have := c4 s h1 z
    rw [h3] at this
    cases this
def gm (p : List Int) : Nat → Int
  | 0 => 0
  | i + 1 => if p.getD i 0 > gm p i then p.getD i 0 else gm p i
theorem gm_ge {p : List Int} : ∀ {i : Nat}, i ≤ p.length → ∀ x ∈ p.take i, x ≤ gm p i
  | 0, _, x, hx => by
    rw [List.take_zero] at hx
    cases hx
  | i + 1, hi, x, hx => by
    have e : p.take (i + 1) = p.take i ++ [p.getD i 0] := by
      rw [List.take_add_one, getD_get (show i < p.length by omega)]
      rfl
    rw [e] at hx
    unfold gm
    rcases List.mem_append.mp hx with z | z
    · have := gm_ge (i := i) (by omega) x z
      split <;> omega
    · rw [List.mem_singleton.mp z]
      split <;> omega
theorem gm_mem {p : List Int} : ∀ {i : Nat}, i ≤ p.length → gm p i = 0 ∨ gm p i ∈ p.take i
  | 0, _ => .inl rfl
  | i + 1, hi => by
    have e : p.take (i + 1) = p.take i ++ [p.getD i 0] := by
      rw [List.take_add_one, getD_get (show i < p.length by omega)]
      rfl
    rw [e]
    unfold gm
    split
    · exact .inr (List.mem_append_right _ (List.mem_singleton.mpr rfl))
    · rcases gm_mem (p := p) (i := i) (by omega) with z | z
      · exact .inl z
      · exact .inr (List.mem_append_left _ z)
theorem gm_cut {p : List Int} (h : IsOrd p) {i : Nat} (hi : i < p.length) : (gm p (i + 1) = (i : Int) + 1) ↔ cut p (i + 1) = true := by
  rw [cut_iff]
  constructor
  · intro e x hx
    have := gm_ge (show i + 1 ≤ p.length by omega) x hx
    omega
  · intro k
    have hl : (p.take (i + 1)).length = i + 1 := by rw [List.length_take]; omega
    have hge : ((i : Int) + 1) ≤ gm p (i + 1) := by
      have nd := h.nd.sublist (List.take_sublist (i + 1) p)
      have := List.Nodup.length_le_of_subset nd (l₂ := irange 1 (gm p (i + 1)).toNat) fun x hx => irange_mem.mpr ⟨h.lo x (List.mem_of_mem_take hx), by
        have := gm_ge (show i + 1 ≤ p.length by omega) x hx
        omega⟩
      rw [hl, irange_len] at this
      omega
    rcases gm_mem (p := p) (show i + 1 ≤ p.length by omega) with z | z
    · omega
    · have := k _ z
      omega
theorem fCutT_mid (xs : List D) (a b : Nat) (hab : a ≤ b) (hb : b ≤ xs.length) : fCutT (.tuple xs) (some (a : Int)) (some (b : Int)) = some (.tuple ((xs.drop a).take (b - a))) := by
  show some (PyData.tuple (cutD xs (some (a : Int)) (some (b : Int)))) = _
  unfold cutD
  rw [HT.sIx_nat, HT.sIx_nat, Nat.min_eq_left (show a ≤ xs.length by omega), Nat.min_eq_left hb]
theorem fCutT_from (xs : List D) (a : Nat) (ha : a ≤ xs.length) : fCutT (.tuple xs) (some (a : Int)) none = some (.tuple (xs.drop a)) := by
  show some (PyData.tuple (cutD xs (some (a : Int)) none)) = _
  unfold cutD
  rw [HT.sIx_nat, HT.sIx_none, Nat.min_eq_left ha, List.take_of_length_le (by rw [List.length_drop]; omega)]
end Z

set_option Elab.async false
set_option linter.all false
set_option maxRecDepth 100000
set_option autoImplicit false
set_option maxHeartbeats 1000000
namespace Z
open PySem PySem.Spec PyProof.Rows L2
def sm (p q : List Int) : List Int := p ++ sft p.length q
def sk (p q : List Int) : List Int := sft q.length p ++ q
theorem Pp_ind {P : List Int → Prop} (h0 : P []) (hs : ∀ p, IsOrd p → p ≠ [] → P (sft (-(cut1 p : Int)) (p.drop (cut1 p))) → P p) : ∀ (n : Nat) (p : List Int), p.length ≤ n → IsOrd p → P p
  | n, [], _, _ => h0
  | 0, a :: p, h, _ => absurd h (by simp)
  | n + 1, a :: p, h, ip => by
    have hne : a :: p ≠ [] := List.cons_ne_nil _ _
    obtain ⟨c1, c2, c3, c4⟩ := cut1_spec ip hne
    refine hs _ ip hne (Pp_ind h0 hs n _ ?_ (drop_ord ip c2 c3))
    rw [sft_len, List.length_drop]
    omega
theorem Pp_mem {p : List Int} (ip : IsOrd p) : ∀ c ∈ Pp p, IsOrd c ∧ c.length ≤ p.length := by
  refine Pp_ind (P := fun p => ∀ c ∈ Pp p, IsOrd c ∧ c.length ≤ p.length) (fun c h => by cases h) (fun p ip hne ih c hc => ?_) p.length p (Nat.le_refl _) ip
  obtain ⟨c1, c2, c3, c4⟩ := cut1_spec ip hne
  rw [Pp_cons ip hne] at hc
  rcases List.mem_cons.mp hc with e | e
  · rw [e]
    exact ⟨take_ord ip c2 c3, by rw [List.length_take]; omega⟩
  · have := ih c e
    rw [sft_len, List.length_drop] at this
    exact ⟨this.1, by omega⟩
theorem Pp_count {p : List Int} (ip : IsOrd p) : (Pp p).length ≤ p.length := by
  refine Pp_ind (P := fun p => (Pp p).length ≤ p.length) (Nat.le_refl _) (fun p ip hne ih => ?_) p.length p (Nat.le_refl _) ip
  obtain ⟨c1, c2, c3, c4⟩ := cut1_spec ip hne
  rw [sft_len, List.length_drop] at ih
  rw [Pp_cons ip hne, List.length_cons]
  omega
theorem sft_app (k : Int) (a b : List Int) : sft k (a ++ b) = sft k a ++ sft k b := List.map_append
theorem sm_assoc (a b c : List Int) : sm (sm a b) c = sm a (sm b c) := by
  unfold sm
  rw [sft_app, sft_sft, List.append_assoc, List.length_append, sft_len]
  congr 3
  omega
theorem sm_nil (a : List Int) : sm a [] = a := by
  unfold sm
  exact List.append_nil _
theorem nil_sm (a : List Int) : sm [] a = a := by
  unfold sm
  exact sft_zero a
theorem sm_parts {p : List Int} (ip : IsOrd p) (hne : p ≠ []) : sm (p.take (cut1 p)) (sft (-(cut1 p : Int)) (p.drop (cut1 p))) = p := by
  obtain ⟨c1, c2, c3, c4⟩ := cut1_spec ip hne
  unfold sm
  rw [sft_sft, List.length_take, Nat.min_eq_left c2, show (-(cut1 p : Int) + (cut1 p : Int)) = 0 by omega, sft_zero, List.take_append_drop]
theorem fold_sm {p : List Int} (ip : IsOrd p) : ∀ a, (Pp p).foldl sm a = sm a p := by
  refine Pp_ind (P := fun p => ∀ a, (Pp p).foldl sm a = sm a p) (fun a => (sm_nil a).symm) (fun p ip hne ih a => ?_) p.length p (Nat.le_refl _) ip
  rw [Pp_cons ip hne, List.foldl_cons, ih, sm_assoc, sm_parts ip hne]
end Z

set_option Elab.async false
set_option linter.all false
set_option maxRecDepth 100000
set_option autoImplicit false
set_option maxHeartbeats 1000000
namespace Z
open PySem PySem.Spec PyProof.Rows L2
def due (k : Bool) (n t : Nat) : List Int := if k then irange ((n : Int) - t + 1) t else irange 1 t
theorem sorted_le (a : Int) (n : Nat) : (irange a n).Pairwise (· ≤ ·) := (irange_sorted a n).imp fun {a b} h => Int.le_of_lt h
end Z

set_option Elab.async false
set_option linter.all false
set_option maxRecDepth 100000
set_option autoImplicit false
set_option maxHeartbeats 1000000
namespace Z
open PySem PySem.Spec PyProof.Rows L2
theorem sm_len (a b : List Int) : (sm a b).length = a.length + b.length := by
  unfold sm
  rw [List.length_append, sft_len]
theorem sk_len (a b : List Int) : (sk a b).length = a.length + b.length := by
  unfold sk
  rw [List.length_append, sft_len]
theorem fsm_len (L : List (List Int)) : ∀ a, a.length ≤ (L.foldl sm a).length := by
  induction L with
  | nil => exact fun a => Nat.le_refl _
  | cons c L ih =>
    intro a
    have := ih (sm a c)
    rw [sm_len] at this
    rw [List.foldl_cons]
    omega
theorem fsk_len (L : List (List Int)) : ∀ a, a.length ≤ (L.foldl sk a).length := by
  induction L with
  | nil => exact fun a => Nat.le_refl _
  | cons c L ih =>
    intro a
    have := ih (sk a c)
    rw [sk_len] at this
    rw [List.foldl_cons]
    omega
end Z

set_option Elab.async false
set_option linter.all false
set_option maxRecDepth 100000
set_option autoImplicit false
set_option maxHeartbeats 1000000
namespace Z
open PySem PySem.Spec PyProof.Rows L2
theorem dp_glob {X : Cx} {x : Str} {i : Int} {pos : Pos} (hg : Gl X x) (hm : ∃ t, X.mg x = some (.int i t)) (hd : (x == ("__debug__" : Str)) = false := by decide) : DP X (.Name x pos) (dC (.int i)) := fun W _ => by
  obtain ⟨t, hm⟩ := hm
  exact pe_imp (pe_glob (v := .int i) hg hm (by first | rfl | exact ⟨_, rfl⟩ | trivial | simp [L2.RelV]) hd) fun σ H Q h => zt_c (fun _ _ => .int i) h
end Z

set_option Elab.async false
set_option linter.all false
set_option maxRecDepth 100000
set_option autoImplicit false
set_option maxHeartbeats 1000000
namespace Z
open PySem PySem.Spec PySem.W PyProof.Rows L2
def kSq : Bool → PySem.W.Frag → Hp → Addr → List V → Prop
  | true, K, H, a, xs => SqT K H a xs
  | false, K, H, a, xs => SqL K H a xs
def kIt : Bool → Heap → Addr → Addr → Nat → Prop
  | true, h, it, a, i => h.IsTupleIter it a i
  | false, h, it, a, i => h.IsListIter it a i
def kIs : Bool → Heap → Addr → Array Value → Prop
  | true, h, a, us => h.IsTuple a us
  | false, h, a, us => h.IsList a us
theorem kDraws {P : Program} {w : World} {A : Around} (hh : A.handled = none) (k : Bool) (it a : Addr) (hne : a ≠ it) (us : Array Value) :
    Draws P w A it [it, a] us.size (fun i v => us[i]? = some v) (fun i h => kIt k h it a i ∧ kIs k h a us) := by
  cases k with
  | true => exact Draws.tuple hh it a hne us
  | false => exact Draws.list hh it a hne us
theorem kInv {X : Cx} {pins : List (Addr × Obj)} {σ : St} {H : Hp} {s : Shared} {k : Bool} {a : Addr} {xs : List V} (I : Inv X pins σ H s) (h : kSq k X.K H a xs) : ∃ us : List Value, Vals xs us ∧ kIs k s.heap a us.toArray ∧ a < s.heap.objs.size ∧ (∀ ys, kSq k X.K H a ys → ys = xs) := by
  cases k with
  | true =>
    obtain ⟨us, rv, p, _⟩ := I.tuple h
    obtain ⟨o, ho, _⟩ := id p
    exact ⟨us, rv, p, Heap.lt_size ho, fun ys hy => I.tuple_inj hy h⟩
  | false =>
    obtain ⟨us, rv, p, _⟩ := I.list h
    exact ⟨us, rv, p.isList, p.lt, fun ys hy => I.list_inj hy h⟩
def ItK (k m : Bool) (K : PySem.W.Frag) (a b : Addr) : It :=
  ⟨fun i H => ∃ (xs ys : List V) (x y : V), kSq k K H a xs ∧ kSq m K H b ys ∧ xs[i]? = some x ∧ ys[i]? = some y,
    fun i H v H' => ∃ T x y, v = .ref T ∧ H T = none ∧ H' = upd H T (.tup [x, y]) ∧ (∀ xs, kSq k K H a xs → xs[i]? = some x) ∧ ∀ ys, kSq m K H b ys → ys[i]? = some y,
    fun i H => ∃ xs ys : List V, kSq k K H a xs ∧ kSq m K H b ys ∧ i ≤ xs.length ∧ i ≤ ys.length ∧ (xs.length = i ∨ ys.length = i)⟩
def kSt (k m : Bool) (z a b TI TO i1 i2 : Addr) (i : Nat) (h : Heap) : Prop := IsZip h z TI TO .none ∧ IsTupOf2 h TI (.ref i1) (.ref i2) ∧ (∃ x y, IsTupOf2 h TO x y) ∧ kIt k h i1 a i ∧ kIt m h i2 b i
theorem kIt_at {k : Bool} {h h' : Heap} {it a : Addr} {i : Nat} (x : kIt k h it a i) (e : ∀ o, h.get? it = some o → h'.get? it = some o) : kIt k h' it a i := by
  cases k with
  | true => exact Heap.IsTupleIter.at x e
  | false => exact Heap.IsListIter.at x e
theorem kIt_obj {k : Bool} {h : Heap} {it a : Addr} {i : Nat} (x : kIt k h it a i) : ∃ o, h.get? it = some o ∧ ∀ v, o.data ≠ .cell v := by
  cases k with
  | true =>
    obtain ⟨o, e, _, d⟩ := x
    exact ⟨o, e, fun v q => by rw [d] at q; cases q⟩
  | false =>
    obtain ⟨o, e, _, d⟩ := x
    exact ⟨o, e, fun v q => by rw [d] at q; cases q⟩
theorem arr_lt {us : Array Value} {i : Nat} {u : Value} (h : us[i]? = some u) : i < us.size := (Array.getElem?_eq_some_iff.mp h).1
theorem turnK {P : Program} {w : World} {K : PySem.W.Frag} {elts : List Expr} {kk : Nat} {tpos : Pos} {k m : Bool} {a b z TI TO i1 i2 : Addr} (D : ZipSep2 z TI TO i1 i2 [i1, a] [i2, b]) (n1 : a ≠ i1) (n2 : b ≠ i2) :
    Turn P w K (.Tuple elts kk tpos) (ItK k m K a b) [z, TI, TO, i1, i2] z (kSt k m z a b TI TO i1 i2) where
  mem := List.mem_cons_self
  obj := fun i h st c hc => by
    obtain ⟨s1, s2, ⟨x, y, s3⟩, s4, s5⟩ := st
    simp only [List.mem_cons, List.not_mem_nil, or_false] at hc
    rcases hc with rfl | rfl | rfl | rfl | rfl
    · exact ⟨_, s1, fun v q => nomatch q⟩
    · exact ⟨_, s2, fun v q => nomatch q⟩
    · exact ⟨_, s3, fun v q => nomatch q⟩
    · exact kIt_obj s4
    · exact kIt_obj s5
  keep := fun i h h' st e => by
    obtain ⟨s1, s2, ⟨x, y, s3⟩, s4, s5⟩ := st
    exact ⟨e _ (by simp) _ s1, e _ (by simp) _ s2, ⟨x, y, e _ (by simp) _ s3⟩, kIt_at s4 (e _ (by simp)), kIt_at s5 (e _ (by simp))⟩
  item := by
    intro X hP hw hK hc i pins s σ H E I hf st hg
    subst hP hw hK
    obtain ⟨s1, s2, ⟨x0, y0, s3⟩, s4, s5⟩ := st
    obtain ⟨xs, ys, x, y, hx, hy, gx, gy⟩ := hg
    obtain ⟨us, v1, p1, _, j1⟩ := kInv I hx
    obtain ⟨ws, v2, p2, _, j2⟩ := kInv I hy
    obtain ⟨u, hu, ru⟩ := v1.get gx
    obtain ⟨u2, hu2, ru2⟩ := v2.get gy
    have hd : X.A.in1.handled = none := I.ok.hd hc
    have lz := Heap.lt_size s1
    have g1 : us.toArray[i]? = some u := by rw [List.getElem?_toArray]; exact hu
    have g2 : ws.toArray[i]? = some u2 := by rw [List.getElem?_toArray]; exact hu2
    refine wpAny_pyNext_zipD2_item (i := i) D (kDraws hd k i1 a n1 us.toArray) (kDraws hd m i2 b n2 ws.toArray) s1 s2 s3 ⟨s4, p1⟩ ⟨s5, p2⟩ (arr_lt g1) (arr_lt g2) fun c1 c2 h' tk q1 q2 z' TO' t1 t2 hT hsz hk => ?_
    cases g1.symm.trans q1
    cases g2.symm.trans q2
    refine ⟨_, rfl, ?_⟩
    refine wpAny_letOwnedTupleGo_zip (s := { s with heap := h', toks := tk }) z' fun h2 z2 sb => ?_
    have far : ∀ c o, c ∉ [z, TI, TO, i1, i2] → s.heap.get? c = some o → h2.get? c = some o := fun c o hn e => by
      simp only [List.mem_cons, List.not_mem_nil, or_false, not_or] at hn
      obtain ⟨k1, k2, k3, k4, k5⟩ := hn
      exact (sb.2 c k1).trans (hk c o k1 k3 k4 k5 e)
    have new : ObjOk X.prog X.w (upd H s.heap.objs.size (.tup [x, y])) h2 s.heap.objs.size (.tup [x, y]) :=
      ⟨sz2, [u, u2], .cons ru (.cons ru2 .nil), ⟨_, (sb.2 _ (Nat.ne_of_gt lz)).trans hT, rfl, _, rfl⟩⟩
    refine ⟨.ref s.heap.objs.size, _, I.turnedNew (t' := tk) far hf (Nat.le_refl _) new, rfl, ⟨_, x, y, rfl, I.hok.fresh (Nat.le_refl _), rfl, fun l hl => ?_, fun l hl => ?_⟩, ⟨z2, ?_, ⟨u, u2, ?_⟩, ?_, ?_⟩, fun c hc' => ?_⟩
    · rw [j1 l hl]
      exact gx
    · rw [j2 l hl]
      exact gy
    · exact (sb.2 _ D.TIz).trans (hk _ _ D.TIz D.TITO D.TIi1 D.TIi2 s2)
    · exact (sb.2 _ D.TOz).trans TO'
    · exact kIt_at t1.1 fun o q => (sb.2 _ (Ne.symm D.zi1)).trans q
    · exact kIt_at t2.1 fun o q => (sb.2 _ (Ne.symm D.zi2)).trans q
    · obtain ⟨o, ho⟩ : ∃ o, s.heap.get? c = some o := by
        simp only [List.mem_cons, List.not_mem_nil, or_false] at hc'
        rcases hc' with rfl | rfl | rfl | rfl | rfl
        · exact ⟨_, s1⟩
        · exact ⟨_, s2⟩
        · exact ⟨_, s3⟩
        · exact ⟨_, (kIt_obj s4).choose_spec.1⟩
        · exact ⟨_, (kIt_obj s5).choose_spec.1⟩
      rw [upd_ne (Nat.ne_of_lt (Heap.lt_size ho))]
      exact (hf c hc').1
  done := by
    intro X hP hw hK hc i pins s σ H E I hf st hg
    subst hP hw hK
    obtain ⟨s1, s2, ⟨x0, y0, s3⟩, s4, s5⟩ := st
    obtain ⟨xs, ys, hx, hy, l1, l2, l3⟩ := hg
    obtain ⟨us, v1, p1, _, _⟩ := kInv I hx
    obtain ⟨ws, v2, p2, _, _⟩ := kInv I hy
    have e1 := v1.length
    have e2 := v2.length
    have hd : X.A.in1.handled = none := I.ok.hd hc
    refine wpAny_pyNext_zipD2_end (i := i) D (kDraws hd k i1 a n1 us.toArray) (kDraws hd m i2 b n2 ws.toArray) s1 s2 s3 ⟨s4, p1⟩ ⟨s5, p2⟩ (by rw [List.size_toArray]; omega) (by rw [List.size_toArray]; omega) (by rw [List.size_toArray, List.size_toArray]; omega) fun h' tk hk => ⟨rfl, ?_⟩
    exact I.turnedL (t' := tk) (fun c o hn e => by
      simp only [List.mem_cons, List.not_mem_nil, or_false, not_or] at hn
      obtain ⟨k1, k2, k3, k4, k5⟩ := hn
      exact hk c o k1 k3 k4 k5 e) hf
  self := fun A i s Q E st h => wpAny_pyIter_zip st.1 h
end Z

set_option Elab.async false
set_option linter.all false
set_option maxRecDepth 100000
set_option autoImplicit false
set_option maxHeartbeats 1000000
namespace Z
open PySem PySem.Spec PySem.W PyProof.Rows L2
def kOb : Bool → Addr → Obj
  | true, a => { cls := .type "tuple_iterator", data := .fields #[.ref a, .int 0 0] }
  | false, a => { cls := .type "list_iterator", data := .fields #[.ref a, .int 0 0] }
theorem kBegins (k : Bool) (a : Addr) (us : Array Value) : Begins (.ref a) (kOb k a) fun h => kIs k h a us := by
  cases k with
  | true => exact begins_tuple a us
  | false => exact begins_list a us
theorem kIt_new {k : Bool} {h : Heap} {it a : Addr} (e : h.get? it = some (kOb k a)) : kIt k h it a 0 := by
  cases k with
  | true =>
    have e' : h.get? it = some { cls := .type "tuple_iterator", data := .fields #[.ref a, .int 0 0] } := e
    show h.IsTupleIter it a 0
    exact ⟨_, e', rfl, rfl⟩
  | false =>
    have e' : h.get? it = some { cls := .type "list_iterator", data := .fields #[.ref a, .int 0 0] } := e
    show h.IsListIter it a 0
    exact ⟨_, e', rfl, rfl⟩
def iZK (K : PySem.W.Frag) (ta : TA) : TI := fun σ H R => ta σ H fun vs H1 => ∃ k m a b xs ys, vs = [.ref a, .ref b] ∧ kSq k K H1 a xs ∧ kSq m K H1 b ys ∧ R (ItK k m K a b) H1
theorem vals_two {a b : Addr} {us : List Value} (r : Vals [V.ref a, V.ref b] us) : us = [.ref a, .ref b] := by
  cases r with
  | cons r1 t =>
    cases t with
    | cons r2 t2 =>
      cases t2
      cases r1
      cases r2
      rfl
theorem pi_zK {X : Cx} {e e2 : Expr} {ta : TA} {p pos tpos : Pos} {elts : List Expr} {kk : Nat} (hg : Gl X "zip") (hm : X.mg "zip" = none) (ha : PA X [e, e2] ta)
    (hs : starEach [e, e2] X.env = (false, eval e X.env) :: starEach [e2] X.env := by rfl) (hpl : (backTo pos (starEach [e2] X.env)).any (·.1) = false := by rfl) :
    PI X (.Tuple elts kk tpos) (.Call (.Name "zip" p) [e, e2] [] pos) (iZK X.K ta) := by
  refine ⟨fun pins s σ H R I h => ?_⟩
  refine Call_ (ld_blt I hg hm PyProof.Rows.boot_zip (PyProof.Rows.callWith_type1 (thn (ha.run pos pins s σ H _ I h) fun us s1 ⟨vs, H1, I1, r1, q1⟩ => ?_) hs hpl))
  obtain ⟨k, m, a, b, xs, ys, e1, hx, hy, q⟩ := q1
  subst e1
  have e2 := vals_two r1
  subst e2
  obtain ⟨it1, v1, p1, l1, _⟩ := kInv I1 hx
  obtain ⟨it2, v2, p2, l2, _⟩ := kInv I1 hy
  refine zip_begins2 (kBegins k a it1.toArray) (kBegins m b it2.toArray) p1 p2 fun h' z1 z2 z3 z4 z5 sz hk => wpAny_pyIter_zip z1 ?_
  have I2 : Inv X pins σ H1 { s1 with heap := h' } := I1.kept (t' := s1.toks) hk
  have D : ZipSep2 (s1.heap.objs.size + 4) (s1.heap.objs.size + 2) (s1.heap.objs.size + 3) s1.heap.objs.size (s1.heap.objs.size + 1) (s1.heap.objs.size :: [a]) ((s1.heap.objs.size + 1) :: [b]) :=
    zip_sep2 (fun c hc => by rw [List.mem_singleton.mp hc]; exact l1) (fun c hc => by rw [List.mem_singleton.mp hc]; exact l2)
  have T := turnK (P := X.prog) (w := X.w) (K := X.K) (elts := elts) (kk := kk) (tpos := tpos) (k := k) (m := m) D (Nat.ne_of_lt l1) (Nat.ne_of_lt (Nat.lt_succ_of_lt l2))
  have S0 : kSt k m (s1.heap.objs.size + 4) a b (s1.heap.objs.size + 2) (s1.heap.objs.size + 3) s1.heap.objs.size (s1.heap.objs.size + 1) 0 h' := ⟨z1, z2, ⟨_, _, z3⟩, kIt_new z4, kIt_new z5⟩
  refine ⟨_, [s1.heap.objs.size + 4, s1.heap.objs.size + 2, s1.heap.objs.size + 3, s1.heap.objs.size, s1.heap.objs.size + 1], kSt k m (s1.heap.objs.size + 4) a b (s1.heap.objs.size + 2) (s1.heap.objs.size + 3) s1.heap.objs.size (s1.heap.objs.size + 1), ItK k m X.K a b, H1, rfl, I2, T, S0, fun c hc => ?_, q⟩
  have le : s1.heap.objs.size ≤ c := by
    simp only [List.mem_cons, List.not_mem_nil, or_false] at hc
    rcases hc with e | e | e | e | e
    · rw [e]; exact Nat.le_add_right _ _
    · rw [e]; exact Nat.le_add_right _ _
    · rw [e]; exact Nat.le_add_right _ _
    · rw [e]; exact Nat.le_refl _
    · rw [e]; exact Nat.le_add_right _ _
  exact I1.fpOk le (I1.hok.fresh le)
end Z

set_option Elab.async false
set_option linter.all false
set_option maxRecDepth 100000
set_option autoImplicit false
set_option maxHeartbeats 1000000
namespace Z
open PySem PySem.Spec PyProof.Rows L2
def zipD (xs ys : List D) : List D := List.zipWith (fun x y => .tuple [x, y]) xs ys
theorem zipD_len (xs ys : List D) : (zipD xs ys).length = min xs.length ys.length := List.length_zipWith
theorem zipD_get {xs ys : List D} {i : Nat} {x y : D} (h : xs[i]? = some x) (k : ys[i]? = some y) : (zipD xs ys)[i]? = some (.tuple [x, y]) := by
  unfold zipD
  rw [List.getElem?_zipWith, h, k]
theorem src_zip {K : PySem.W.Frag} {F : Fr} {G : Hp} {k m : Bool} {a b : Addr} {vs ws : List V} {xs ys : List D} (q1 : ∀ H, Same F.a H → Same G H → kSq k K H a vs) (q2 : ∀ H, Same F.a H → Same G H → kSq m K H b ws) (h1 : DqAll K G vs xs) (h2 : DqAll K G ws ys) : Src true K F G (ItK k m K a b) (zipD xs ys) := by
  have e1 := dpa_length h1
  have e2 := dpa_length h2
  unfold Src
  rw [zipD_len]
  refine ⟨fun i H hi e => ?_, fun H e => ?_, fun i H v H' hi e y => ?_⟩
  · have i1 : i < vs.length := by omega
    have i2 : i < ws.length := by omega
    exact ⟨vs, ws, vs[i], ws[i], q1 H e.1 e.2, q2 H e.1 e.2, List.getElem?_eq_getElem i1, List.getElem?_eq_getElem i2⟩
  · exact ⟨vs, ws, q1 H e.1 e.2, q2 H e.1 e.2, by omega, by omega, by omega⟩
  · obtain ⟨T, x, z, t1, t2, t3, t4, t5⟩ := y
    obtain ⟨d, g1, g2⟩ := dpa_get' h1 (t4 vs (q1 H e.1 e.2))
    obtain ⟨d2, g3, g4⟩ := dpa_get' h2 (t5 ws (q2 H e.1 e.2))
    exact ⟨_, zipD_get g1 g3, T, _, _, t1, rfl, t2, t3, .cons g2 (.cons g4 .nil)⟩
/-- what an argument that is walked stands for -/
theorem it_res {X : Cx} {W : WX} {σ : St} {F : Fr} {G H : Hp} {Mu : Option Addr} {Γ : En} {α β : Type} {ρ : Rho α β} {Q : β → Hp → Prop} {f : List D → M α} {v : V} {r : Rs} (Rl : Rel X.K F G Mu Γ σ H) (h1 : rhoR X.K F G Mu Γ σ H r v) (q : zpost X W σ ρ F G Mu Q (bnd (itR r) f Γ)) :
    ∃ l k vs xs G' Γ', v = .ref l ∧ Same G G' ∧ Rel X.K F G' Mu Γ' σ H ∧ (∀ H', Same F.a H' → Same G' H' → kSq k X.K H' l vs) ∧ DqAll X.K G' vs xs ∧ zpost X W σ ρ F G' Mu Q (f xs Γ') := by
  have dat : ∀ x : D, Dq X.K G v x → zpost X W σ ρ F G Mu Q (match seqD x with
      | some xs => f xs Γ
      | none => .bad) → ∃ l k vs xs G' Γ', v = .ref l ∧ Same G G' ∧ Rel X.K F G' Mu Γ' σ H ∧ (∀ H', Same F.a H' → Same G' H' → kSq k X.K H' l vs) ∧ DqAll X.K G' vs xs ∧ zpost X W σ ρ F G' Mu Q (f xs Γ') := fun x h q => by
    cases h with
    | lst a b =>
      rename_i l vs xs
      exact ⟨l, false, vs, xs, G, Γ, rfl, Same.refl _, Rl, fun H' _ e => e.seq a, b, q⟩
    | tup a b =>
      rename_i l vs xs
      exact ⟨l, true, vs, xs, G, Γ, rfl, Same.refl _, Rl, fun H' _ e => (a.mono e).sq, b, q⟩
    | _ => exact q.elim
  unfold bnd itR at q
  cases r with
  | d x =>
    refine dat x h1 ?_
    dsimp only at q
    cases e1 : seqD x with
    | none => rw [e1] at q; exact q
    | some xs => rw [e1] at q; exact q
  | sl i =>
    have h1' : σ[i]? = some (some v) := h1
    dsimp only at q
    cases hg : Γ[i]? with
    | none => rw [hg] at q; exact q.elim
    | some sv =>
      rw [hg] at q
      cases sv with
      | u => exact q.elim
      | dk ds => exact q.elim
      | d x =>
        obtain ⟨u, k1, k2⟩ := Rl.data hg
        rw [h1'] at k1
        cases k1
        refine dat x k2 ?_
        dsimp only at q
        cases e1 : seqD x with
        | none => rw [e1] at q; exact q
        | some xs => rw [e1] at q; exact q
      | a xs =>
        obtain ⟨l, vs, k1, k2, k3⟩ := Rl.arg hg
        rw [h1'] at k1
        cases k1
        exact ⟨l, false, vs, xs, G, Γ, rfl, Same.refl _, Rl, fun H' e _ => e.seq k2, k3, q⟩
      | own b xs =>
        cases b with
        | true => exact q.elim
        | false =>
          obtain ⟨l, G', k1, R', k2, k3⟩ := Rl.freeze hg
          rw [h1'] at k1
          cases k1
          cases k3 with
          | lst a b => exact ⟨l, false, _, xs, G', _, rfl, k2, R', fun H' _ e => e.seq a, b, zpost.rebase k2 q⟩
def iZip (m : M (List Rs)) : M (List D) := bnd m fun rs => match rs with
  | [r, s] => bnd (itR r) fun xs => bnd (itR s) fun ys => rt (zipD xs ys)
  | _ => fun _ => .bad
theorem di_zip {X : Cx} {e e2 : Expr} {m : M (List Rs)} {p pos tpos : Pos} {elts : List Expr} {kk : Nat} (hg : Gl X "zip") (hm : X.mg "zip" = none) (ha : DVs X [e, e2] m)
    (hs : starEach [e, e2] X.env = (false, eval e X.env) :: starEach [e2] X.env := by rfl) (hpl : (backTo pos (starEach [e2] X.env)).any (·.1) = false := by rfl) :
    DI true X (.Tuple elts kk tpos) (.Call (.Name "zip" p) [e, e2] [] pos) (iZip m) := fun W tk =>
  pi_imp (pi_zK hg hm (ha W tk) hs hpl) fun σ H R p => (zt_bnd (ρ := rhoRs) p).imp fun vs H1 ⟨rs, F, G, Mu, Γ, Rl, h1, q⟩ => by
    match rs, h1, q with
    | [], _, q => exact q.elim
    | [_], _, q => exact q.elim
    | _ :: _ :: _ :: _, _, q => exact q.elim
    | [r, s], h1, q =>
      obtain ⟨v, us, e1, a1, u, us2, e2, a2, e3⟩ := h1
      subst e1 e2 e3
      obtain ⟨l, k, vs, xs, G1, Γ1, e1, j1, R1, j2, j3, q1⟩ := it_res Rl (r := r) a1 q
      subst e1
      have a2' : rhoR X.K F G1 Mu Γ1 σ H1 s u := stR _ _ _ _ _ _ H1 _ _ _ _ _ _ _ j1 (show rhoR X.K F G Mu Γ σ H1 s u from a2)
      obtain ⟨l2, k2, ws, ys, G2, Γ2, e2, i1, R2, i2, i3, q2⟩ := it_res R1 (r := s) a2' q1
      subst e2
      have j2' : ∀ H', Same F.a H' → Same G2 H' → kSq k X.K H' l vs := fun H' f1 f2 => j2 H' f1 (i1.trans f2)
      refine ⟨k, k2, l, l2, vs, ws, rfl, j2' _ (F.af.trans R2.fh) R2.gh, i2 _ (F.af.trans R2.fh) R2.gh, ?_⟩
      exact zpost_ok R2 (show rhoW true _ _ _ _ _ _ _ _ _ from src_zip j2' i2 (dpAll_mono i1 _ _ j3) i3) q2
end Z

set_option Elab.async false
set_option linter.all false
set_option maxRecDepth 100000
set_option autoImplicit false
set_option maxHeartbeats 1000000
namespace Z
open PySem PySem.Spec PyProof.Rows L2
theorem fMax_t {l : List Int} (h : l ≠ []) : fMax [.tuple (l.map .int)] = some (.int (mx l)) := by
  cases l with
  | nil => exact absurd rfl h
  | cons n ns =>
    show (match toInts ((n :: ns).map .int) with
      | some (n :: ns) => some (PyData.int (lmax n ns))
      | _ => none) = _
    rw [toInts_map]
    rfl
theorem fMin_t {l : List Int} (h : l ≠ []) : fMin [.tuple (l.map .int)] = some (.int (mn l)) := by
  cases l with
  | nil => exact absurd rfl h
  | cons n ns =>
    show (match toInts ((n :: ns).map .int) with
      | some (n :: ns) => some (PyData.int (lmin n ns))
      | _ => none) = _
    rw [toInts_map]
    rfl
theorem mn_is {l : List Int} {m : Int} (h : m ∈ l) (k : ∀ y ∈ l, m ≤ y) : mn l = m :=
  Int.le_antisymm (mn_le h) (k _ (mn_mem (List.ne_nil_of_mem h)))
theorem mx_is {l : List Int} {m : Int} (h : m ∈ l) (k : ∀ y ∈ l, y ≤ m) : mx l = m :=
  Int.le_antisymm (k _ (mx_mem (List.ne_nil_of_mem h))) (mx_ge h)
theorem mn_snoc {l : List Int} {x : Int} (h : l ≠ []) : mn (l ++ [x]) = if x < mn l then x else mn l := by
  split
  · exact mn_is (List.mem_append_right _ List.mem_cons_self) fun y hy => by
      rcases List.mem_append.mp hy with e | e
      · have := mn_le e
        omega
      · rw [List.mem_singleton.mp e]
        exact Int.le_refl _
  · exact mn_is (List.mem_append_left _ (mn_mem h)) fun y hy => by
      rcases List.mem_append.mp hy with e | e
      · exact mn_le e
      · rw [List.mem_singleton.mp e]
        omega
theorem mx_snoc {l : List Int} {x : Int} (h : l ≠ []) : mx (l ++ [x]) = if x > mx l then x else mx l := by
  split
  · exact mx_is (List.mem_append_right _ List.mem_cons_self) fun y hy => by
      rcases List.mem_append.mp hy with e | e
      · have := mx_ge e
        omega
      · rw [List.mem_singleton.mp e]
        exact Int.le_refl _
  · exact mx_is (List.mem_append_left _ (mx_mem h)) fun y hy => by
      rcases List.mem_append.mp hy with e | e
      · exact mx_ge e
      · rw [List.mem_singleton.mp e]
        omega

def stch (p : List Int) (a b : Nat) : List Int := (p.drop a).take (b - a)
theorem stch_len {p : List Int} {a b : Nat} (h : b ≤ p.length) : (stch p a b).length = b - a := by
  unfold stch
  rw [List.length_take, List.length_drop]
  omega
theorem stch_ne {p : List Int} {a b : Nat} (h : b ≤ p.length) (k : a < b) : stch p a b ≠ [] := fun e => by
  have := stch_len (a := a) h
  rw [e] at this
  simp at this
  omega
theorem stch_succ {p : List Int} {a b : Nat} (h : b < p.length) (k : a ≤ b) : stch p a (b + 1) = stch p a b ++ [p.getD b 0] := by
  unfold stch
  rw [show b + 1 - a = (b - a) + 1 by omega, List.take_succ, List.getElem?_drop, show a + (b - a) = b by omega, getD_get h]
  rfl
theorem stch_one {p : List Int} {a : Nat} (h : a < p.length) : stch p a (a + 1) = [p.getD a 0] := by
  rw [stch_succ h (Nat.le_refl _)]
  unfold stch
  rw [Nat.sub_self, List.take_zero]
  rfl
theorem stch_nd {p : List Int} (h : p.Nodup) (a b : Nat) : (stch p a b).Nodup := (h.sublist (List.drop_sublist a p)).sublist (List.take_sublist _ _)
def tight (c : List Int) : Bool := decide (mx c - mn c = (c.length : Int) - 1)
theorem tight_perm {c : List Int} (nd : c.Nodup) (h : tight c = true) : c.Perm (irange (mn c) c.length) :=
  perm_of_sub nd (irange_nodup _ _) (fun x hx => irange_mem.mpr ⟨mn_le hx, by
    have h1 := mx_ge hx
    have h2 := of_decide_eq_true h
    omega⟩) (by rw [irange_len]; exact Nat.le_refl _)
theorem perm_tight {c : List Int} {a : Int} (hne : c ≠ []) (h : c.Perm (irange a c.length)) : tight c = true := by
  have hp : 0 < c.length := List.length_pos_iff.mpr hne
  have h1 : mn c = a := mn_is (h.mem_iff.mpr (irange_mem.mpr ⟨Int.le_refl _, by omega⟩)) fun y hy => (irange_mem.mp (h.mem_iff.mp hy)).1
  have h2 : mx c = a + c.length - 1 := mx_is (h.mem_iff.mpr (irange_mem.mpr ⟨by omega, by omega⟩)) fun y hy => by
    have := (irange_mem.mp (h.mem_iff.mp hy)).2
    omega
  exact decide_eq_true (by rw [h1, h2]; omega)
theorem map_int_inj {s t : List Int} (h : s.map PyData.int = t.map PyData.int) : s = t := by
  have := congrArg (List.map fun d : PyData => match d with
    | .int i => i
    | _ => (0 : Int)) h
  rw [List.map_map, List.map_map] at this
  have e : ((fun d : PyData => match d with
    | .int i => i
    | _ => (0 : Int)) ∘ PyData.int) = id := rfl
  rw [e, List.map_id, List.map_id] at this
  exact this
theorem sorted_tight {c : List Int} (hne : c ≠ []) (nd : c.Nodup) : ∃ s : List Int, sortD (c.map .int) = s.map .int ∧ s.length = c.length ∧ decide (s = irange (s.getD 0 0) s.length) = tight c := by
  obtain ⟨s, h1, h2⟩ := sorted_some c
  have hp : 0 < c.length := List.length_pos_iff.mpr hne
  refine ⟨s, h1, h2.length_eq, ?_⟩
  cases ht : tight c with
  | true =>
    have h3 := sortD_ints (tight_perm nd ht) (sorted_le _ _)
    rw [h1] at h3
    have h4 := map_int_inj h3
    have h5 : s.getD 0 0 = mn c := by
      rw [h4, List.getD_eq_getElem?_getD, irange_get _ _ _ hp]
      simp
    rw [h5, h2.length_eq]
    exact decide_eq_true h4
  | false =>
    refine decide_eq_false fun e => ?_
    have h3 : c.Perm (irange (s.getD 0 0) c.length) := by
      rw [← h2.length_eq, ← e]
      exact h2.symm
    rw [perm_tight hne h3] at ht
    cases ht
def blk (p : List Int) (a b : Nat) : Bool := tight (stch p a b)
def encB (x : Nat × Nat) : D := .tuple [.int (x.1 : Int), .int (x.2 : Int)]
/-- the blocks that begin at a and end ahead of a + 1 + k -/
def BLi (p : List Int) (a : Nat) : Nat → List (Nat × Nat)
  | 0 => []
  | k + 1 => BLi p a k ++ if blk p a (a + 1 + k) = true then [(a, a + 1 + k)] else []
/-- .. that begin ahead of a -/
def BL (p : List Int) : Nat → List (Nat × Nat)
  | 0 => []
  | a + 1 => BL p a ++ BLi p a (p.length - a)
theorem BLi_len (p : List Int) (a : Nat) : ∀ k : Nat, (BLi p a k).length ≤ k
  | 0 => Nat.le_refl _
  | k + 1 => by
    unfold BLi
    rw [List.length_append]
    have := BLi_len p a k
    split
    · simp
      omega
    · simp
      omega
theorem BL_len (p : List Int) : ∀ a : Nat, (BL p a).length ≤ a * p.length
  | 0 => Nat.zero_le _
  | a + 1 => by
    unfold BL
    rw [List.length_append, Nat.succ_mul]
    have h1 := BL_len p a
    have h2 := BLi_len p a (p.length - a)
    omega
theorem BLi_mem {p : List Int} {a : Nat} {x : Nat × Nat} : ∀ {k : Nat}, x ∈ BLi p a k ↔ x.1 = a ∧ a < x.2 ∧ x.2 ≤ a + k ∧ blk p a x.2 = true
  | 0 => ⟨fun h => (nomatch h), fun ⟨_, h2, h3, _⟩ => absurd h2 (by omega)⟩
  | k + 1 => by
    unfold BLi
    rw [List.mem_append, BLi_mem]
    constructor
    · rintro (⟨h1, h2, h3, h4⟩ | h)
      · exact ⟨h1, h2, by omega, h4⟩
      · split at h
        · rename_i hb
          rw [List.mem_singleton.mp h]
          exact ⟨rfl, by show a < a + 1 + k; omega, by show a + 1 + k ≤ a + (k + 1); omega, hb⟩
        · cases h
    · rintro ⟨h1, h2, h3, h4⟩
      by_cases e : x.2 = a + 1 + k
      · refine .inr ?_
        rw [← e, if_pos h4]
        obtain ⟨x1, x2⟩ := x
        dsimp only at h1 ⊢
        rw [h1]
        exact List.mem_cons_self
      · exact .inl ⟨h1, h2, by omega, h4⟩
theorem BL_mem {p : List Int} {x : Nat × Nat} : ∀ {a : Nat}, a ≤ p.length → (x ∈ BL p a ↔ x.1 < a ∧ x.1 < x.2 ∧ x.2 ≤ p.length ∧ blk p x.1 x.2 = true)
  | 0, _ => ⟨fun h => (nomatch h), fun ⟨h, _⟩ => absurd h (Nat.not_lt_zero _)⟩
  | a + 1, ha => by
    unfold BL
    rw [List.mem_append, BL_mem (by omega), BLi_mem]
    constructor
    · rintro (⟨h1, h2, h3, h4⟩ | ⟨h1, h2, h3, h4⟩)
      · exact ⟨by omega, h2, h3, h4⟩
      · exact ⟨by omega, by omega, by omega, by rw [h1]; exact h4⟩
    · rintro ⟨h1, h2, h3, h4⟩
      by_cases e : x.1 = a
      · exact .inr ⟨e, by omega, by omega, by rw [← e]; exact h4⟩
      · exact .inl ⟨by omega, h2, h3, h4⟩
/-- a block of two things or more, but the whole, begins at a -/
def hbk (p : List Int) (a : Nat) : Nat → Bool
  | 0 => false
  | k + 1 => hbk p a k || (blk p a (a + 2 + k) && decide (k + 2 < p.length))
theorem hbk_iff {p : List Int} {a : Nat} : ∀ {k : Nat}, hbk p a k = true ↔ ∃ j, j < k ∧ blk p a (a + 2 + j) = true ∧ j + 2 < p.length
  | 0 => ⟨fun h => (nomatch h), fun ⟨_, h, _⟩ => absurd h (Nat.not_lt_zero _)⟩
  | k + 1 => by
    unfold hbk
    rw [Bool.or_eq_true, hbk_iff, Bool.and_eq_true, decide_eq_true_eq]
    constructor
    · rintro (⟨j, h1, h2⟩ | h)
      · exact ⟨j, by omega, h2⟩
      · exact ⟨k, by omega, h⟩
    · rintro ⟨j, h1, h2⟩
      by_cases e : j = k
      · subst e
        exact .inr h2
      · exact .inl ⟨j, by omega, h2⟩
def mid (p : List Int) (x : Nat × Nat) : Bool := decide (1 < x.2 - x.1 ∧ x.2 - x.1 < p.length)
def simp4 (p : List Int) : Bool := decide (3 < p.length) && decide ((BL p p.length).filter (mid p) = [])
theorem simp_iff {p : List Int} : simp4 p = true ↔ 3 < p.length ∧ ∀ a, a < p.length → hbk p a (p.length - a - 1) = false := by
  unfold simp4
  rw [Bool.and_eq_true, decide_eq_true_eq, decide_eq_true_eq]
  refine and_congr_right fun h3 => ⟨fun h a ha => ?_, fun h => ?_⟩
  · cases hb : hbk p a (p.length - a - 1) with
    | false => rfl
    | true =>
      obtain ⟨j, h1, h2, h4⟩ := hbk_iff.mp hb
      have hm : (a, a + 2 + j) ∈ (BL p p.length).filter (mid p) := List.mem_filter.mpr ⟨(BL_mem (Nat.le_refl _)).mpr ⟨ha, by show a < a + 2 + j; omega, by show a + 2 + j ≤ p.length; omega, h2⟩, decide_eq_true ⟨by show 1 < a + 2 + j - a; omega, by show a + 2 + j - a < p.length; omega⟩⟩
      rw [h] at hm
      cases hm
  · refine List.filter_eq_nil_iff.mpr fun x hx hm => ?_
    obtain ⟨h1, h2, h4, h5⟩ := (BL_mem (Nat.le_refl _)).mp hx
    obtain ⟨m1, m2⟩ := of_decide_eq_true hm
    have : hbk p x.1 (p.length - x.1 - 1) = true := hbk_iff.mpr ⟨x.2 - x.1 - 2, by omega, by rw [show x.1 + 2 + (x.2 - x.1 - 2) = x.2 by omega]; exact h5, by omega⟩
    rw [h x.1 h1] at this
    cases this
end Z

set_option Elab.async false
set_option linter.all false
set_option maxRecDepth 100000
set_option autoImplicit false
set_option maxHeartbeats 1000000
namespace Z
open PySem PySem.Spec PyProof.Rows L2
theorem total_succ (R : List (List Int)) (k : Nat) : total R (k + 1) = total R k + (R.getD k []).length := by
  unfold total
  rw [wsum, if_pos rfl]
theorem total_mono (R : List (List Int)) {i k : Nat} (h : i ≤ k) : total R i ≤ total R k := by
  obtain ⟨m, rfl⟩ := Nat.exists_eq_add_of_le h
  induction m with
  | zero => exact Nat.le_refl _
  | succ m ih => exact Nat.le_trans (ih (Nat.le_add_right _ _)) (by rw [show i + (m + 1) = (i + m) + 1 from rfl, total_succ]; exact Nat.le_add_right _ _)
def raised (p : List Int) (R : List (List Int)) (i : Nat) : List Int := (R.getD i []).map fun x => (lessOf p R i : Int) + x
theorem raised_sft (p : List Int) (R : List (List Int)) (i : Nat) : raised p R i = sft (lessOf p R i) (R.getD i []) := List.map_congr_left fun x _ => Int.add_comm _ _
theorem by_places (c : List Int) : c = (List.range c.length).map fun i => c.getD i 0 := List.ext_getElem? fun i => by
  by_cases h : i < c.length
  · rw [List.getElem?_map, List.getElem?_range h, getD_get h]
    rfl
  · rw [List.getElem?_eq_none (by omega), List.getElem?_eq_none (by rw [List.length_map, List.length_range]; omega)]
theorem like_places (c : List Int) : like c = (List.range c.length).map fun j => 1 + ((((List.range c.length).filter fun i => decide (c.getD i 0 < c.getD j 0)).length : Nat) : Int) := by
  have e : ∀ y : Int, (c.filter fun x => decide (x < y)).length = ((List.range c.length).filter fun i => decide (c.getD i 0 < y)).length := fun y => by
    conv => lhs; rw [by_places c]
    rw [List.filter_map, List.length_map]
    rfl
  unfold like
  conv => lhs; arg 2; rw [by_places c]
  rw [List.map_map]
  exact List.map_congr_left fun j _ => by
    show 1 + (((c.filter fun x => decide (x < c.getD j 0)).length : Nat) : Int) = _
    rw [e]
theorem like_cmp {c d : List Int} (hl : c.length = d.length) (h : ∀ i j, i < c.length → j < c.length → (c.getD i 0 < c.getD j 0 ↔ d.getD i 0 < d.getD j 0)) : like c = like d := by
  rw [like_places, like_places, ← hl]
  refine List.map_congr_left fun j hj => ?_
  have e : ((List.range c.length).filter fun i => decide (c.getD i 0 < c.getD j 0)) = (List.range c.length).filter fun i => decide (d.getD i 0 < d.getD j 0) := by
    refine List.filter_congr fun i hi => ?_
    exact decide_eq_decide.mpr (h i j (List.mem_range.mp hi) (List.mem_range.mp hj))
  rw [e]
theorem forG_ret {t : Tg} {ms : List Nat} {b : M Fl} : ∀ (xs : List D) (P : List D → En → Prop) (Q : Rt → En → Prop) (g : En), P xs g → (∀ x r g, P (x :: r) g → ∃ g1 g2, setT t x g = some g1 ∧ ((b g1 = .ok .nx g2 ∧ P r (fgt ms g2)) ∨ ∃ v, b g1 = .ok (.rt v) g2 ∧ Q v g2)) →
    (∃ g', forG t ms b xs g = .ok .nx (fgt ms g') ∧ P [] g') ∨ ∃ v g', forG t ms b xs g = .ok (.rt v) g' ∧ Q v g'
  | [], _, _, g, h, _ => .inl ⟨g, rfl, h⟩
  | x :: xs, P, Q, g, h, step => by
    obtain ⟨g1, g2, h1, h2⟩ := step x xs g h
    rw [forG, h1]
    dsimp only
    rcases h2 with ⟨h2, h3⟩ | ⟨v, h2, h3⟩
    · rw [h2]
      exact forG_ret xs P Q _ h3 step
    · rw [h2]
      exact .inr ⟨v, g2, rfl, h3⟩
def zipR (rs : List Rs) : M (List D) := match rs with
  | [r, s] => bnd (itR r) fun xs => bnd (itR s) fun ys => rt (zipD xs ys)
  | _ => fun _ => .bad
theorem iZip_at (m : M (List Rs)) (g : En) : iZip m g = (m g).thn (c := ⟨fun rs g1 => zipR rs g1⟩) := Eq.trans rfl rfl
theorem zipR_at (r s : Rs) (g : En) : zipR [r, s] g = (itR r g).thn (c := ⟨fun xs g1 => (itR s g1).thn (c := ⟨fun ys g2 => .ok (zipD xs ys) g2⟩)⟩) := Eq.trans rfl rfl
end Z

set_option Elab.async false
set_option linter.all false
set_option maxRecDepth 100000
set_option autoImplicit false
set_option maxHeartbeats 1000000
namespace Z
open PySem PySem.Spec PyProof.Rows L2
def dcG (vs : List Nat) (t : Tg) (mt : M Bool) (mk mv : M D) : List D → List (D × D) → M (List (D × D))
  | [], ys, g => .ok ys g
  | x :: xs, ys, g => match setT t x g with
    | none => .bad
    | some g1 => match mt g1 with
      | .ok true g2 => match mk g2 with
        | .ok k g3 => match dkey k with
          | none => .bad
          | some key => match mv g3 with
            | .ok d g4 => dcG vs t mt mk mv xs (dput ys key d) (wipG g4 vs)
            | _ => .bad
        | _ => .bad
      | .ok false g2 => dcG vs t mt mk mv xs ys (wipG g2 vs)
      | _ => .bad
def dcB (vs : List Nat) (t : Tg) (mt : M Bool) (mk mv : M D) (xs : List D) : M D := fun g => if xs.length ≤ sizeLine ∧ noOwn g vs = true then match dcG vs t mt mk mv xs [] (wipG g vs) with
    | .ok ys g' => .ok (.dict ys) (rstG g g' vs)
    | _ => .bad
  else .bad
def dcL (vs : List Nat) (t : Tg) (mi : M (List D)) (mt : M Bool) (mk mv : M D) : M D := bnd mi (dcB vs t mt mk mv)
theorem Rel.keepX {K : PySem.W.Frag} {F : Fr} {G H : Hp} {Mu : Option Addr} {Γ : En} {σ : St} {l : Addr} {o : HO} (R : Rel K F G Mu Γ σ H) (h1 : H l = some o) (h3 : F l = none) (h4 : G l = none) (h5 : Mu ≠ some l) (h6 : ∀ i, ¬ Owns Γ σ i l) : Same G (upd G l o) ∧ Rel K F (upd G l o) Mu Γ σ H := by
  have hs : Same G (upd G l o) := same_upd h4
  have gh : Same (upd G l o) H := fun b x q => by
    by_cases hb : b = l
    · subst hb
      rw [upd_same] at q
      rw [h1]
      exact q
    · rw [upd_ne hb] at q
      exact R.gh b x q
  refine ⟨hs, R.mono (Mu' := Mu) R.fh hs gh (fun l' q => ?_) (fun i l' ho => ?_) (fun l' q => ?_)⟩
  · obtain ⟨_, m2, m3⟩ := R.mu l' q
    rw [upd_ne (show l' ≠ l from fun z => h5 (by rw [q, z]))]
    exact ⟨m2, m3⟩
  · rw [upd_ne (show l' ≠ l from fun z => h6 i (by rw [← z]; exact ho))]
    exact ⟨(R.there ho).2.1, rfl⟩
  · rw [upd_ne (fun z => F.kf l' q (by rw [z]; exact h3))]
    exact R.lk l' q
theorem dc_it {J : It} {n : Nat} {Gp : Hp → Prop} {Y : Nat → Hp → V → Hp → Prop} (w : Walk J n Gp Y) {g : TG} {tt : TT} {tk tv : TE} {vs : List Nat} {σ : L2.St} {H1 : Hp} {D : Addr} {Qd : Hp → Prop} (Pv : Nat → Hp → Prop) (h0 : Pv 0 (upd H1 D (.dK []))) (hG : ∀ i H, i ≤ n → Pv i H → Gp H)
    (hs : ∀ i x H H', i < n → Pv i H → Y i H x H' → g x (wipe σ vs) H' fun σ2 H2 => wipe σ2 vs = wipe σ vs ∧ tt σ2 H2 fun b H3 =>
      if b = true then tk σ2 H3 fun y H4 => tv σ2 H4 fun z H5 => ∃ kvs k, y = kV k ∧ H5 D = some (.dK kvs) ∧ kvs.length < sizeLine ∧ Pv (i + 1) (upd H5 D (.dK (putK kvs k z))) else Pv (i + 1) H3) (hd : ∀ H, Pv n H → Qd H) :
    ∃ W : Nat → Nat → Hp → Prop, (∃ m, W 0 m (upd H1 D (.dK []))) ∧ ∀ i m H, W i m H →
      (J.stop i H ∧ Qd H) ∨ (J.go i H ∧ ∃ Nx : Hp → Prop, (∀ H', Nx H' → ∃ m', m' < m ∧ W (i + 1) m' H') ∧ ∀ x H', J.yld i H x H' → g x (wipe σ vs) H' fun σ2 H2 => wipe σ2 vs = wipe σ vs ∧ tt σ2 H2 fun b H3 =>
        if b = true then tk σ2 H3 fun y H4 => tv σ2 H4 fun z H5 => ∃ kvs k, y = kV k ∧ H5 D = some (.dK kvs) ∧ kvs.length < sizeLine ∧ Nx (upd H5 D (.dK (putK kvs k z))) else Nx H3) := by
  refine ⟨fun i m H => m + i = n ∧ Pv i H, ⟨n, Nat.add_zero n, h0⟩, ?_⟩
  intro i m H hW
  have hi : i ≤ n := by omega
  have hq := hG i H hi hW.2
  rcases Nat.lt_or_eq_of_le hi with hlt | e
  · exact .inr ⟨w.goes i H hlt hq, Pv (i + 1), fun H' p' => ⟨m - 1, by omega, by omega, p'⟩, fun x H' y => hs i x H H' hlt hW.2 (w.yields i H x H' hlt hq y)⟩
  · subst e
    exact .inl ⟨w.stops H hq, hd H hW.2⟩
theorem dc_run {X : Cx} {b : Bool} {W : WX} {σ : St} {H : Hp} {Q : VK} {vs : List Nat} {t : Tg} {mi : M (List D)} {mt : M Bool} {mk mv : M D} (hv : ∀ i ∈ tgS t, i ∈ vs) (p : zt X W rhoD (dcL vs t mi mt mk mv) σ H Q) :
    tDc (zt X W (rhoW b) mi) (zGb b X t) (zt X W0 rhoB mt) (zt X W0 rhoD mk) (zt X W0 rhoD mv) vs σ H Q :=
  (zt_bnd (ρ := rhoW b) p).imp fun J H1 ⟨xs, F, G, Mu, Γ, R, h1, q⟩ l nl => by
    unfold dcB at q
    split at q
    · rename_i hz
      obtain ⟨hz, no⟩ := hz
      have nF : F l = none := R.fh.free nl
      have nG : G l = none := R.gh.free nl
      have nM : Mu ≠ some l := fun z => (R.mu l z).2.2 nl
      have nO : ∀ i, ¬ Owns (wipG Γ vs) (wipe σ vs) i l := fun i h => by
        obtain ⟨_, _, us, z⟩ := (R.wipe vs).there h
        rw [nl] at z
        cases z
      cases e1 : dcG vs t mt mk mv xs [] (wipG Γ vs) with
      | bad => rw [e1] at q; exact q.elim
      | ex c y Γ1 => rw [e1] at q; exact q.elim
      | ok zs Γz =>
        rw [e1] at q
        refine dc_it h1 (fun i H' => ∃ G' Γ' acc ys, Same G G' ∧ Rel X.K (F.lock l (.dK acc) nF) G' Mu Γ' (wipe σ vs) H' ∧ KvAll X.K G' acc ys ∧ ys.length ≤ i ∧ dcG vs t mt mk mv (xs.drop i) ys Γ' = .ok zs Γz) ?_
          (fun i H' _ ⟨G', Γ', acc, ys, g, R', _⟩ => ⟨fun a o z => R'.unlock.1.fh a o (F.af a o z), g.trans R'.gh⟩) (fun i v H' H2 hi ⟨G', Γ', acc, ys, g, R', hd, hy, hc⟩ ⟨x, hx, y⟩ => ?_) fun H' ⟨G', Γ', acc, ys, g, R', hd, hy, hc⟩ => ?_
        · exact ⟨G, wipG Γ vs, [], [], Same.refl _, ((R.wipe vs).newX nl).lock nF upd_same nG nM (fun i h => nO i h), .nil, Nat.le_refl _, e1⟩
        · have hdr : xs.drop i = x :: xs.drop (i + 1) := by
            obtain ⟨hl, e⟩ := List.getElem?_eq_some_iff.mp hx
            rw [← e]
            exact List.drop_eq_getElem_cons hl
          rw [hdr] at hc
          unfold dcG at hc
          split at hc
          · cases hc
          · rename_i g1 e2
            have y' : YV b X.K G' H' v x H2 := by
              cases b with
              | false => exact ⟨y.1, dp_mono g _ _ y.2⟩
              | true =>
                obtain ⟨T, us, ds, a1, a2, a3, a4, a5⟩ := y
                exact ⟨T, us, ds, a1, a2, a3, a4, dpAll_mono g _ _ a5⟩
            refine ⟨_, G', Mu, Γ', g1, x, H', R', y', e2, fun σ2 R2 off => ⟨wipe_off off hv, ?_⟩⟩
            have ew := wipe_off off hv
            split at hc
            · rename_i g2 e3
              split at hc
              · rename_i zk g3 e4
                split at hc
                · cases hc
                · rename_i key ek
                  split at hc
                  · rename_i z g4 e5
                    refine ⟨_, G', Mu, g1, R2, ?_⟩
                    rw [e3]
                    intro bb H3 G3 k3 R3 hb
                    cases (show true = bb from hb)
                    rw [if_pos rfl]
                    refine ⟨_, G3, Mu, g2, R3, ?_⟩
                    rw [e4]
                    intro yk H4 G4 k4 R4 hk
                    refine ⟨_, G4, Mu, g3, R4, ?_⟩
                    rw [e5]
                    intro u H5 G5 k5 R5 hu
                    obtain ⟨R6, j1, j2, j3, j4⟩ := R5.unlock
                    have hyk : yk = kV key := key_rel (H := H4) (G := G4) (.inl hk) ek
                    have hd' := kvAll_up k5 (kvAll_up k4 (kvAll_up k3 hd))
                    refine ⟨acc, key, hyk, j1, ?_, G5, wipG g4 vs, putK acc key u, dput ys key z, ((g.trans k3).trans k4).trans k5, ?_, kv_put hd' hu, Nat.le_trans (dput_len _ _ _) (Nat.add_le_add_right hy 1), hc⟩
                    · rw [kv_len hd]
                      omega
                    · have R7 := R6.wipe vs
                      rw [ew] at R7
                      have o7 : ∀ i, ¬ Owns (wipG g4 vs) (wipe σ vs) i l := fun i h => by
                        have R8 := R5.wipe vs
                        rw [ew] at R8
                        have := (R8.there h).1
                        rw [show (F.lock l (HO.dK acc) nF) l = some (.dK acc) from upd_same] at this
                        cases this
                      exact (R7.poke (o := .dK (putK acc key u)) nF j2 j3 o7).lock nF upd_same j2 j3 o7
                  · cases hc
              · cases hc
            · rename_i g2 e3
              refine ⟨_, G', Mu, g1, R2, ?_⟩
              rw [e3]
              intro bb H3 G3 k3 R3 hb
              cases (show false = bb from hb)
              rw [if_neg Bool.false_ne_true]
              have R6 := R3.wipe vs
              rw [ew] at R6
              exact ⟨G3, wipG g2 vs, acc, ys, g.trans k3, R6, kvAll_up k3 hd, by omega, hc⟩
            · cases hc
        · rw [List.drop_length] at hc
          unfold dcG at hc
          cases hc
          obtain ⟨R5, j1, j2, j3, j4⟩ := R'.unlock
          have R6 := R.back R5 g no
          have o6 : ∀ i, ¬ Owns (rstG Γ Γz vs) σ i l := fun i h => by
            obtain ⟨m, w1, ws, w2⟩ := h
            have hni : i ∉ vs := fun hin => by
              rw [rstG_in (by rw [R5.len, R.len, wipe_length]) hin] at w1
              rw [noOwn_at no hin w1] at ws
              cases ws
            exact j4 i ⟨m, by rw [← rstG_out hni]; exact w1, ws, by rw [wipe_out hni]; exact w2⟩
          obtain ⟨s7, R7⟩ := R6.keepX j1 nF j2 j3 o6
          exact q _ H' _ (g.trans s7) R7 (show rhoD _ _ _ _ _ _ _ (.dict zs) (.ref l) from .dic upd_same (kvAll_up s7 hd))
    · exact q.elim
section
variable {X : Cx} {b : Bool} {kx vx tg iter : Expr} {ifs : List Expr} {scope : Scope} {pos : Pos} {t : Tg} {mi : M (List D)} {mt : M Bool} {mk mv : M D}
theorem dp_dcomp (own : List (Str × Nat)) (hc : X.calm = true) (hN : X.N.Nodup) (hi : DI b X tg iter mi) (ok : BlkOk X.N X.env.scope scope own)
    (hg : ∀ (s : Shared) (H : Hp) (C : Addr) (cl : List (Str × Addr)) (fp : List Addr), DGb b (X.blk s H scope (compEnvC scope cl C X.env) fp) tg t) (ht : ∀ (s : Shared) (H : Hp) (C : Addr) (cl : List (Str × Addr)) (fp : List Addr), DTs (X.blk s H scope (compEnvC scope cl C X.env) fp) ifs mt)
    (hk : ∀ (s : Shared) (H : Hp) (C : Addr) (cl : List (Str × Addr)) (fp : List Addr), DP (X.blk s H scope (compEnvC scope cl C X.env) fp) kx mk)
    (he : ∀ (s : Shared) (H : Hp) (C : Addr) (cl : List (Str × Addr)) (fp : List Addr), DP (X.blk s H scope (compEnvC scope cl C X.env) fp) vx mv) (hv : ∀ i ∈ tgS t, i ∈ own.map (·.2)) (hs : ∀ x, foldedSetIterable iter X.env x = pure x := by intro _; rfl) :
    DP X (.DictComp kx vx [⟨tg, iter, ifs, 0⟩] scope pos) (dcL (own.map (·.2)) t mi mt mk mv) := fun W tk =>
  pe_imp (pe_dc (g := zGb b X t) (tt := zt X W0 rhoB mt) (tk := zt X W0 rhoD mk) (tv := zt X W0 rhoD mv) hc hN (hi W tk) ok (fun s H C cl fp => hg s H C cl fp) (fun s H C cl fp => ht s H C cl fp W0 takes0) (fun s H C cl fp => hk s H C cl fp W0 takes0) (fun s H C cl fp => he s H C cl fp W0 takes0) hs) fun σ H Q p => dc_run hv p
end
theorem dcL_at (vs : List Nat) (t : Tg) (mi : M (List D)) (mt : M Bool) (mk mv : M D) (g : En) : dcL vs t mi mt mk mv g = (mi g).thn (c := ⟨fun xs g1 => dcB vs t mt mk mv xs g1⟩) := Eq.trans rfl rfl
theorem dcG_ok {β : Type} {vs : List Nat} {t : Tg} {mt : M Bool} {mk mv : M D} {enc fv : β → D} {fk : β → Key} {g0 : En} : ∀ (l : List β) (ys : List (D × D)), (∀ x ∈ l, ∃ g1, setT t (enc x) g0 = some g1 ∧ mt g1 = .ok true g1 ∧ mk g1 = .ok (keyD (fk x)) g1 ∧ mv g1 = .ok (fv x) g1 ∧ wipG g1 vs = g0) →
    dcG vs t mt mk mv (l.map enc) ys g0 = .ok (l.foldl (fun ys x => dput ys (fk x) (fv x)) ys) g0
  | [], _, _ => rfl
  | x :: l, ys, h => by
    obtain ⟨g1, h1, h2, h3, h4, h5⟩ := h x List.mem_cons_self
    rw [List.map_cons, dcG, h1]
    dsimp only
    rw [h2]
    dsimp only
    rw [h3]
    dsimp only
    rw [dkey_keyD]
    dsimp only
    rw [h4]
    dsimp only
    rw [h5, List.foldl_cons]
    exact dcG_ok l _ fun y hy => h y (List.mem_cons_of_mem _ hy)
theorem dcB_ok {β : Type} {vs : List Nat} {t : Tg} {mt : M Bool} {mk mv : M D} {enc fv : β → D} {fk : β → Key} {g : En} (l : List β) (hz : l.length ≤ sizeLine) (hn : noOwn g vs = true)
    (h : ∀ x ∈ l, ∃ g1, setT t (enc x) (wipG g vs) = some g1 ∧ mt g1 = .ok true g1 ∧ mk g1 = .ok (keyD (fk x)) g1 ∧ mv g1 = .ok (fv x) g1 ∧ wipG g1 vs = wipG g vs) :
    dcB vs t mt mk mv (l.map enc) g = .ok (.dict (l.foldl (fun ys x => dput ys (fk x) (fv x)) [])) g := by
  unfold dcB
  rw [if_pos ⟨by rw [List.length_map]; exact hz, hn⟩, dcG_ok l [] h]
  dsimp only
  rw [rst_wip]
end Z

set_option Elab.async false
set_option linter.all false
set_option maxRecDepth 100000
set_option autoImplicit false
set_option maxHeartbeats 1000000
namespace Z
open PySem PySem.Spec PyProof.Rows L2
def sSubG (i : Nat) (y : D) (k : M Rs) : M Fl := fun g => match g[i]? with
  | some (.own _ _) => bnd k (fun s => fun g' => match g'[i]?, vl g' s with
    | some (.own b xs), some (.int n) => match ixN xs.length n with
      | some j => .ok .nx (g'.set i (.own b (xs.set j y)))
      | none => .bad
    | _, _ => .bad) g
  | _ => .bad
def sSwap (i : Nat) (m : M (List D)) (k1 k2 : M Rs) : M Fl := bnd (dTup m) fun t => match t with
  | .tuple [y1, y2] => dSeq (sSubG i y1 k1) (sSubG i y2 k2)
  | _ => fun _ => .bad
def swapR (i : Nat) (k1 k2 : M Rs) (t : D) : M Fl := match t with
  | .tuple [y1, y2] => dSeq (sSub i (rt y1) k1) (sSub i (rt y2) k2)
  | _ => fun _ => .bad
theorem sSwap_at (i : Nat) (m : M (List D)) (k1 k2 : M Rs) (g : En) : sSwap i m k1 k2 g = (dTup m g).thn (c := ⟨fun t g1 => swapR i k1 k2 t g1⟩) := Eq.trans rfl rfl
theorem swapR_at (i : Nat) (k1 k2 : M Rs) (y1 y2 : D) (g : En) : swapR i k1 k2 (.tuple [y1, y2]) g = dSeq (sSub i (rt y1) k1) (sSub i (rt y2) k2) g := Eq.trans rfl rfl
end Z

set_option Elab.async false
set_option linter.all false
set_option maxRecDepth 100000
set_option autoImplicit false
set_option maxHeartbeats 1000000
namespace Z
open PySem PySem.Spec PyProof.Rows L2
theorem cnt_le (c : List Int) {a b : Int} (h : a ≤ b) : (c.filter fun x => decide (x < a)).length ≤ (c.filter fun x => decide (x < b)).length := by
  rw [← List.countP_eq_length_filter, ← List.countP_eq_length_filter]
  exact List.countP_mono_left fun x _ hx => by
    have := of_decide_eq_true hx
    exact decide_eq_true (by omega)
theorem like_getD {c : List Int} {i : Nat} (h : i < c.length) : (like c).getD i 0 = 1 + ((c.filter fun x => decide (x < c.getD i 0)).length : Int) := by
  unfold like
  rw [List.getD_eq_getElem?_getD, List.getElem?_map, getD_get h]
  rfl
theorem like_lt {c : List Int} {i j : Nat} (hi : i < c.length) (hj : j < c.length) : (like c).getD i 0 < (like c).getD j 0 ↔ c.getD i 0 < c.getD j 0 := by
  rw [like_getD hi, like_getD hj]
  constructor
  · intro h
    rcases Int.lt_or_le (c.getD i 0) (c.getD j 0) with z | z
    · exact z
    · have := cnt_le c z
      omega
  · intro h
    have := cnt_lt h (at0_mem hi)
    omega
def srt (c : List Int) : List Int := c.mergeSort fun a b => decide (a ≤ b)
theorem srt_perm (c : List Int) : (srt c).Perm c := List.mergeSort_perm c _
theorem srt_le (c : List Int) : (srt c).Pairwise (· ≤ ·) := by
  have := List.pairwise_mergeSort (le := fun a b : Int => decide (a ≤ b)) (fun a b c h k => decide_eq_true (Int.le_trans (of_decide_eq_true h) (of_decide_eq_true k))) (fun a b => by simp; omega) c
  exact this.imp fun h => of_decide_eq_true h
theorem srt_ints (c : List Int) : sortD (c.map .int) = (srt c).map .int := sortD_ints (srt_perm c).symm (srt_le c)
theorem srt_len (c : List Int) : (srt c).length = c.length := (srt_perm c).length_eq
theorem srt_lt {c : List Int} (nd : c.Nodup) : (srt c).Pairwise (· < ·) := by
  have h1 := srt_le c
  have h2 : (srt c).Nodup := (srt_perm c).nodup_iff.mpr nd
  exact (List.Pairwise.and h1 h2).imp fun {a b} h => by
    have h3 := h.1
    have h4 := h.2
    omega
theorem rank_like {c : List Int} (nd : c.Nodup) {i : Nat} (hi : i < (srt c).length) : (i : Int) + 1 = 1 + ((c.filter fun x => decide (x < (srt c).getD i 0)).length : Int) := by
  have hlt := srt_lt nd
  have e1 : (c.filter fun x => decide (x < (srt c).getD i 0)).length = ((srt c).filter fun x => decide (x < (srt c).getD i 0)).length := ((srt_perm c).filter _).length_eq.symm
  have e2 : srt c = (srt c).take i ++ (srt c).getD i 0 :: (srt c).drop (i + 1) := by
    conv => lhs; rw [← List.take_append_drop i (srt c)]
    rw [List.drop_eq_getElem_cons hi, List.getD_eq_getElem?_getD, List.getElem?_eq_getElem hi]
    rfl
  have hg : ∀ z : Int, z = (srt c).getD i 0 → ((srt c).filter fun x => decide (x < z)).length = i := fun z hz => by
    rw [e2, ← hz] at hlt ⊢
    obtain ⟨a1, a2, a3⟩ := List.pairwise_append.mp hlt
    obtain ⟨a4, a5⟩ := List.pairwise_cons.mp a2
    rw [List.filter_append, List.filter_eq_self.mpr fun x hx => decide_eq_true (a3 x hx z List.mem_cons_self), List.filter_cons_of_neg (by simp), List.filter_eq_nil_iff.mpr fun x hx => by
      have := a4 x hx
      simp
      omega, List.append_nil, List.length_take]
    omega
  rw [e1, hg _ rfl]
  omega
theorem dput_new {ys : List (D × D)} {k : Key} {d : D} (h : ∀ p ∈ ys, dkey p.1 ≠ some k) : dput ys k d = ys ++ [(keyD k, d)] := by
  unfold dput
  rw [if_neg]
  intro e
  obtain ⟨p, hp, e2⟩ := List.any_eq_true.mp e
  exact h p hp (of_decide_eq_true e2)
theorem fold_fresh {β : Type} {fk : β → Key} {fv : β → D} : ∀ (l : List β) (ys : List (D × D)), l.Pairwise (fun x y => fk x ≠ fk y) → (∀ x ∈ l, ∀ p ∈ ys, dkey p.1 ≠ some (fk x)) → l.foldl (fun ys x => dput ys (fk x) (fv x)) ys = ys ++ l.map fun x => (keyD (fk x), fv x)
  | [], ys, _, _ => by
    rw [List.map_nil, List.append_nil]
    rfl
  | x :: l, ys, h, hy => by
    obtain ⟨h1, h2⟩ := List.pairwise_cons.mp h
    rw [List.foldl_cons, dput_new (hy x List.mem_cons_self), fold_fresh l _ h2 fun z hz p hp => ?_, List.map_cons, List.append_assoc]
    · rfl
    · rcases List.mem_append.mp hp with e | e
      · exact hy z (List.mem_cons_of_mem _ hz) p e
      · rw [List.mem_singleton.mp e]
        show dkey (keyD (fk x)) ≠ _
        rw [dkey_keyD]
        exact fun e => h1 z hz (Option.some.inj e)
theorem dfind_map {β : Type} {fk : β → Key} {fv : β → D} : ∀ (l : List β) (x : β), x ∈ l → (∀ y ∈ l, fk y = fk x → y = x) → dfind (l.map fun y => (keyD (fk y), fv y)) (fk x) = some (fv x)
  | y :: l, x, h, hi => by
    rw [List.map_cons, dfind]
    dsimp only
    rw [dkey_keyD]
    by_cases e : fk y = fk x
    · rw [if_pos (by rw [e]), hi y List.mem_cons_self e]
    · rw [if_neg fun z => e (Option.some.inj z)]
      rcases List.mem_cons.mp h with e2 | e2
      · exact absurd (by rw [e2]) e
      · exact dfind_map l x e2 fun z hz => hi z (List.mem_cons_of_mem _ hz)
theorem enumD_irange (s : List Int) : enumD 0 (s.map .int) = (irange 0 s.length).map fun i => .tuple [.int i, .int (s.getD i.toNat 0)] := by
  have h : ∀ (s : List Int) (a : Nat), enumD a (s.map .int) = (irange a s.length).map fun i => .tuple [.int i, .int (s.getD (i.toNat - a) 0)] := by
    intro s
    induction s with
    | nil => exact fun a => rfl
    | cons x s ih =>
      intro a
      rw [List.map_cons, enumD_cons, ih, List.length_cons, irange_succ, List.map_cons]
      congr 1
      · rw [Int.toNat_natCast, Nat.sub_self]
        rfl
      · rw [show ((a + 1 : Nat) : Int) = (a : Int) + 1 from rfl]
        refine List.map_congr_left fun i hi => ?_
        have := irange_mem.mp hi
        rw [show i.toNat - a = (i.toNat - (a + 1)) + 1 by omega, List.getD_cons_succ]
  have := h s 0
  simp only [Nat.sub_zero] at this
  exact this
end Z

set_option Elab.async false
set_option linter.all false
set_option maxRecDepth 100000
set_option autoImplicit false
set_option maxHeartbeats 1000000
namespace Z
open PySem PySem.Spec PyProof.Rows L2
def moveV (o : Option SV) : Option SV := match o with
  | some (.own false xs) => some (.own false xs)
  | some (.d x) => some (.d x)
  | _ => none
def sMove (i j : Nat) : M Fl := fun g => match moveV g[j]? with
  | some sv => .ok .nx ((g.set j .u).set i sv)
  | none => .bad
theorem ds_move {X : Cx} {i j : Nat} {x y : Str} {px py pos : Pos} (hN : X.N.Nodup) (hi : X.N[i]? = some x) (hx : Loc X.env.scope x) (hj : X.N[j]? = some y) (hv : Vis X.env.scope y) (hd : (y == ("__debug__" : Str)) = false := by decide) (hcd : (y == ("__classdict__" : Str)) = false := by decide)
    (hs : swapsWith (.Name y py) (some (.Name x px)) pos.line X.env = pure false := by rfl) (hf : X.fn x = true ∨ X.env.scope.names.lookup x = some .local := by first | exact .inl rfl | exact .inr rfl | assumption) :
    DS X (.Assign [.Name x px] (.Name y py) pos) (sMove i j) := fun W tk =>
  ps_imp (ps_set hN hi hx (pe_var hj hv hd hcd) hs hf) fun D σ H ⟨F, G, Mu, Γ, R, q⟩ => by
    unfold sMove at q
    cases hg : Γ[j]? with
    | none => rw [hg] at q; exact q.elim
    | some sv =>
      rw [hg] at q
      cases sv with
      | u => exact q.elim
      | a xs => exact q.elim
      | dk ds => exact q.elim
      | d z =>
        obtain ⟨v, h1, h2⟩ := R.data hg
        refine ⟨v, h1, ?_⟩
        exact q _ H G (Same.refl _) ((R.forget' j).store (sv := .d z) ⟨v, rfl, h2⟩ fun e => nomatch e)
      | own b xs =>
        cases b with
        | true => exact q.elim
        | false =>
          obtain ⟨l, vs, h1, h2, h3, h4, h5, _, h7, ho⟩ := R.owned hg
          refine ⟨_, h1, ?_⟩
          refine q _ H G (Same.refl _) ((R.forget' j).storeO ⟨l, vs, rfl, h2, h3, h4, h5, h7 rfl, fun k hk => ?_⟩ i)
          obtain ⟨m, w1, ws, w2⟩ := hk
          by_cases e : j = k
          · subst e
            have hl : j < Γ.length := (List.getElem?_eq_some_iff.mp hg).1
            rw [List.getElem?_set_self hl] at w1
            cases w1
            cases ws
          · rw [List.getElem?_set_ne e] at w1
            exact e (R.sep j k l ho ⟨m, w1, ws, w2⟩)
theorem moveV_o (xs : List D) : moveV (some (.own false xs)) = some (.own false xs) := Eq.trans rfl rfl
theorem moveV_d (x : D) : moveV (some (.d x)) = some (.d x) := Eq.trans rfl rfl
def mvR (i j : Nat) (g : En) (o : Option SV) : Ro Fl := match o with
  | some sv => .ok .nx ((g.set j .u).set i sv)
  | none => .bad
theorem sMove_at (i j : Nat) (g : En) : sMove i j g = mvR i j g (moveV g[j]?) := Eq.trans rfl rfl
theorem mvR_some (i j : Nat) (g : En) (sv : SV) : mvR i j g (some sv) = .ok .nx ((g.set j .u).set i sv) := Eq.trans rfl rfl
end Z

set_option Elab.async false
set_option linter.all false
set_option maxRecDepth 100000
set_option autoImplicit false
set_option maxHeartbeats 1000000
namespace Z
open PySem PySem.Spec PyProof.Rows L2
def okIn (x : D) (ys : List D) : Bool := x.canLay0 && PyData.canLayAll0 ys && decide (x.depth ≤ 60)
theorem okIn_ok {x : D} {ys : List D} (h : okIn x ys = true) : x.canLay0 = true ∧ PyData.canLayAll0 ys = true ∧ x.depth ≤ 60 := by
  unfold okIn at h
  simp only [Bool.and_eq_true, decide_eq_true_eq] at h
  exact ⟨h.1.1, h.1.2, h.2⟩
def inD (x : D) (ys : List D) : Bool := ys.any fun z => PyData.eqv z x
def fIn (x y : D) : Option D := match y with
  | .list ys => if okIn x ys then some (.bool (inD x ys)) else none
  | .tuple ys => if okIn x ys then some (.bool (inD x ys)) else none
  | _ => none
section
variable {X : Cx}
theorem or_in (hu : X.A.units + 64 < cLine) : OpR X (compareOp .In) (rD2 X.K fIn) := by
  intro pins s σ H x y v u Q I rx ry h
  obtain ⟨G, dx, dy, z, gh, r1, r2, e, q⟩ := h
  unfold fIn at e
  split at e
  · split at e
    · rename_i ys hk
      cases e
      obtain ⟨k1, k2, k3⟩ := okIn_ok hk
      have p2 : (PyData.list ys).plain = true := PyData.plain_of_canLay0 _ (by rw [PyData.canLay0]; exact k2)
      obtain ⟨as, a1⟩ := Dp.reads I dx x v ((r1.dp gh).dp _ _ (PyData.plain_of_canLay0 _ k1)) rx
      obtain ⟨bs, a2⟩ := Dp.reads I (.list ys) y u ((r2.dp gh).dp _ _ p2) ry
      exact SeqAt.in_list_reads a2 a1 k2 k1 (by have := Nat.min_le_right (PyData.depthAll ys) dx.depth; omega) ⟨.bl _, H, I, rfl, q _ _ _ (Ext.refl gh) (.bl _)⟩
    · cases e
  · split at e
    · rename_i ys hk
      cases e
      obtain ⟨k1, k2, k3⟩ := okIn_ok hk
      have p2 : (PyData.tuple ys).plain = true := PyData.plain_of_canLay0 _ (by rw [PyData.canLay0]; exact k2)
      obtain ⟨as, a1⟩ := Dp.reads I dx x v ((r1.dp gh).dp _ _ (PyData.plain_of_canLay0 _ k1)) rx
      obtain ⟨bs, a2⟩ := Dp.reads I (.tuple ys) y u ((r2.dp gh).dp _ _ p2) ry
      exact SeqAt.in_tuple_reads a2 a1 k2 k1 (by have := Nat.min_le_right (PyData.depthAll ys) dx.depth; omega) ⟨.bl _, H, I, rfl, q _ _ _ (Ext.refl gh) (.bl _)⟩
    · cases e
  · cases e
variable {o e : Expr} {apos cpos : Pos}
end
end Z

set_option Elab.async false
set_option linter.all false
set_option maxRecDepth 100000
set_option autoImplicit false
set_option maxHeartbeats 1000000
namespace Z
open PySem PySem.Spec PyProof.Rows L2
def sUnp (t : Tg) (m : M D) : M Fl := bnd m fun x => fun g => match setT t x g with
  | some g' => .ok .nx g'
  | none => .bad
def unpR (t : Tg) (x : D) : M Fl := fun g => match setT t x g with
  | some g' => .ok .nx g'
  | none => .bad
theorem sUnp_at (t : Tg) (m : M D) (g : En) : sUnp t m g = (m g).thn (c := ⟨fun x g1 => unpR t x g1⟩) := Eq.trans rfl rfl
theorem unpR_2 (i j : Nat) (x y : D) (g : En) : unpR (.tup [.nm i, .nm j]) (.tuple [x, y]) g = .ok .nx ((g.set i (.d x)).set j (.d y)) := by
  unfold unpR
  rw [setT_tup, setTs_cons _ _ _ _ _ _ (setT_nm _ _ _), setTs_cons _ _ _ _ _ _ (setT_nm _ _ _), setTs_nil]
end Z

set_option Elab.async false
set_option linter.all false
set_option maxRecDepth 100000
set_option autoImplicit false
set_option maxHeartbeats 1000000
namespace Z
open PySem PySem.Spec PyProof.Rows L2
def c2G (vs : List Nat) (t : Tg) (mt : M Bool) (vs1 : List Nat) (mi1 : M (List D)) (t1 : Tg) (mt1 : M Bool) (me : M D) : List D → List D → M (List D)
  | [], ys, g => .ok ys g
  | x :: xs, ys, g => match setT t x g with
    | none => .bad
    | some g1 => match mt g1 with
      | .ok true g2 => match mi1 g2 with
        | .ok xs1 g3 => match compG vs1 t1 mt1 me xs1 ys (wipG g3 vs1) with
          | .ok zs g4 => c2G vs t mt vs1 mi1 t1 mt1 me xs zs (wipG g4 vs)
          | _ => .bad
        | _ => .bad
      | .ok false g2 => c2G vs t mt vs1 mi1 t1 mt1 me xs ys (wipG g2 vs)
      | _ => .bad
def c2B (vs : List Nat) (t : Tg) (mt : M Bool) (vs1 : List Nat) (mi1 : M (List D)) (t1 : Tg) (mt1 : M Bool) (me : M D) (xs : List D) : M (List D) := fun g => if noOwn g vs = true then match c2G vs t mt vs1 mi1 t1 mt1 me xs [] (wipG g vs) with
    | .ok ys g' => if ys.length ≤ sizeLine then .ok ys (rstG g g' vs) else .bad
    | _ => .bad
  else .bad
def c2L (vs : List Nat) (t : Tg) (mi : M (List D)) (mt : M Bool) (vs1 : List Nat) (mi1 : M (List D)) (t1 : Tg) (mt1 : M Bool) (me : M D) : M (List D) := bnd mi (c2B vs t mt vs1 mi1 t1 mt1 me)
theorem it2 {J : It} {n : Nat} {Gp : Hp → Prop} {Y : Nat → Hp → V → Hp → Prop} (w : Walk J n Gp Y) {Bd : (Hp → Prop) → V → Hp → Prop} {Qd : Hp → Prop} {H0 : Hp} (Pv : Nat → Hp → Prop) (h0 : Pv 0 H0) (hG : ∀ i H, i ≤ n → Pv i H → Gp H)
    (hs : ∀ i x H H', i < n → Pv i H → Y i H x H' → Bd (Pv (i + 1)) x H') (hd : ∀ H, Pv n H → Qd H) :
    ∃ W : Nat → Nat → Hp → Prop, (∃ m, W 0 m H0) ∧ ∀ i m H, W i m H → (J.stop i H ∧ Qd H) ∨ (J.go i H ∧ ∃ Nx : Hp → Prop, (∀ H', Nx H' → ∃ m', m' < m ∧ W (i + 1) m' H') ∧ ∀ x H', J.yld i H x H' → Bd Nx x H') := by
  refine ⟨fun i m H => m + i = n ∧ Pv i H, ⟨n, Nat.add_zero n, h0⟩, ?_⟩
  intro i m H hW
  have hi : i ≤ n := by omega
  have hq := hG i H hi hW.2
  rcases Nat.lt_or_eq_of_le hi with hlt | e
  · exact .inr ⟨w.goes i H hlt hq, Pv (i + 1), fun H' p' => ⟨m - 1, by omega, by omega, p'⟩, fun x H' y => hs i x H H' hlt hW.2 (w.yields i H x H' hlt hq y)⟩
  · subst e
    exact .inl ⟨w.stops H hq, hd H hW.2⟩
section
variable {X : Cx} {b b1 : Bool} {elt tg iter tg1 iter1 : Expr} {ifs ifs1 : List Expr} {scope : Scope} {pos : Pos} {t t1 : Tg} {mi mi1 : M (List D)} {mt mt1 : M Bool} {me : M D}
end
theorem c2L_at (vs : List Nat) (t : Tg) (mi : M (List D)) (mt : M Bool) (vs1 : List Nat) (mi1 : M (List D)) (t1 : Tg) (mt1 : M Bool) (me : M D) (g : En) : c2L vs t mi mt vs1 mi1 t1 mt1 me g = (mi g).thn (c := ⟨fun xs g1 => c2B vs t mt vs1 mi1 t1 mt1 me xs g1⟩) := Eq.trans rfl rfl
end Z

set_option Elab.async false
set_option linter.all false
set_option maxRecDepth 100000
set_option autoImplicit false
set_option maxHeartbeats 1000000
namespace Z
open PySem PySem.Spec PyProof.Rows L2
def sUnpL (ts : List Tg) (m : M D) : M Fl := bnd m fun x => fun g => match x with
  | .list xs => match setTs ts xs g with
    | some g' => .ok .nx g'
    | none => .bad
  | _ => .bad
def unpRL (ts : List Tg) (x : D) : M Fl := fun g => match x with
  | .list xs => match setTs ts xs g with
    | some g' => .ok .nx g'
    | none => .bad
  | _ => .bad
theorem sUnpL_at (ts : List Tg) (m : M D) (g : En) : sUnpL ts m g = (m g).thn (c := ⟨fun x g1 => unpRL ts x g1⟩) := Eq.trans rfl rfl
theorem unpRL_2 (i j : Nat) (x y : D) (g : En) : unpRL [.nm i, .nm j] (.list [x, y]) g = .ok .nx ((g.set i (.d x)).set j (.d y)) := by
  unfold unpRL
  dsimp only
  rw [setTs_cons _ _ _ _ _ _ (setT_nm _ _ _), setTs_cons _ _ _ _ _ _ (setT_nm _ _ _), setTs_nil]
end Z

set_option Elab.async false
set_option linter.all false
set_option maxRecDepth 100000
set_option autoImplicit false
set_option maxHeartbeats 1000000
namespace Z
open PySem PySem.Spec PyProof.Rows L2
def nz : List Int → Bool
  | [] => true
  | [_] => true
  | x :: y :: r => !(decide (x = 0) && decide (y = 0)) && nz (y :: r)
theorem nz_app : ∀ (A B : List Int), nz (A ++ B) = true ↔ nz A = true ∧ nz B = true ∧ ¬ (A.getLast? = some 0 ∧ B.head? = some 0)
  | [], B => by simp [nz]
  | [x], [] => by simp [nz]
  | [x], y :: r => by
    show (!(decide (x = 0) && decide (y = 0)) && nz (y :: r)) = true ↔ _
    simp [nz]
    constructor
    · rintro ⟨h1, h2⟩
      exact ⟨h2, fun hx hy => h1.elim (fun z => z hx) (fun z => z hy)⟩
    · rintro ⟨h1, h2⟩
      exact ⟨(Classical.em (x = 0)).elim (fun a => .inr (h2 a)) .inl, h1⟩
  | x :: y :: r, B => by
    have ih := nz_app (y :: r) B
    show (!(decide (x = 0) && decide (y = 0)) && nz ((y :: r) ++ B)) = true ↔ (!(decide (x = 0) && decide (y = 0)) && nz (y :: r)) = true ∧ _
    rw [Bool.and_eq_true, Bool.and_eq_true, ih, List.getLast?_cons_cons]
    constructor
    · rintro ⟨h1, h2, h3, h4⟩
      exact ⟨⟨h1, h2⟩, h3, h4⟩
    · rintro ⟨⟨h1, h2⟩, h3, h4⟩
      exact ⟨h1, h2, h3, h4⟩
def nums (F : List Int) : List Int := F.filter fun x => decide (x ≠ 0)
structure IsForm (F : List Int) : Prop where
  sep : nz F = true
  ord : IsOrd (nums F)
  ne : F ≠ []
theorem form0 : IsForm [0] := ⟨rfl, isOrd_nil, by simp⟩
def cntz (F : List Int) : Nat := (F.filter fun x => decide (x = 0)).length
/-- the places of the slots -/
def zs (F : List Int) : List Int := (irange 0 F.length).filter fun k => decide (F.getD k.toNat 0 = 0)
theorem by_irange' (F : List Int) : F = (irange 0 F.length).map fun i => F.getD i.toNat 0 := List.ext_getElem? fun i => by
  by_cases h : i < F.length
  · rw [List.getElem?_map, irange_get _ _ _ h, getD_get h]
    show _ = some (F.getD ((0 : Int) + i).toNat 0)
    rw [show ((0 : Int) + i).toNat = i by omega]
  · rw [List.getElem?_eq_none (by omega), List.getElem?_eq_none (by rw [List.length_map, irange_len]; omega)]
theorem zs_len (F : List Int) : (zs F).length = cntz F := by
  unfold zs cntz
  conv => rhs; rw [by_irange' F]
  rw [List.filter_map, List.length_map]
  rfl
theorem zs_mem {F : List Int} {k : Int} : k ∈ zs F ↔ 0 ≤ k ∧ k < F.length ∧ F.getD k.toNat 0 = 0 := by
  unfold zs
  rw [List.mem_filter, irange_mem, decide_eq_true_eq]
  constructor
  · rintro ⟨⟨h1, h2⟩, h3⟩
    exact ⟨h1, by omega, h3⟩
  · rintro ⟨h1, h2, h3⟩
    exact ⟨⟨h1, by omega⟩, h3⟩
/-- the place of a slot -/
def zat (F : List Int) (s : Int) : Int := (zs F).getD (s - 1).toNat 0
structure Valid (F : List Int) (s w : Int) : Prop where
  s1 : 1 ≤ s
  s2 : s ≤ cntz F
  w0 : 0 ≤ w
  w3 : w ≤ 3
theorem zat_ok {F : List Int} {s w : Int} (h : Valid F s w) : 0 ≤ zat F s ∧ zat F s < F.length ∧ F.getD (zat F s).toNat 0 = 0 := by
  have hl := zs_len F
  have h1 := h.s1
  have h2 := h.s2
  exact zs_mem.mp (at0_mem (t := zs F) (i := (s - 1).toNat) (by omega))
def fillW (w n : Int) : List Int := if w = 0 then [0, n, 0] else if w = 1 then [n, 0] else if w = 2 then [0, n] else [n]
def putF (F : List Int) (s w : Int) : List Int := F.take (zat F s).toNat ++ fillW w (mx F + 1) ++ F.drop ((zat F s).toNat + 1)
theorem split_at {F : List Int} {a : Nat} (h : a < F.length) (h0 : F.getD a 0 = 0) : F = F.take a ++ 0 :: F.drop (a + 1) := by
  conv => lhs; rw [← List.take_append_drop a F]
  rw [List.drop_eq_getElem_cons h]
  have : F[a] = 0 := by
    rw [List.getD_eq_getElem?_getD, List.getElem?_eq_getElem h] at h0
    exact h0
  rw [this]
theorem nums_app (A B : List Int) : nums (A ++ B) = nums A ++ nums B := List.filter_append ..
theorem nums_fill {w n : Int} (hn : n ≠ 0) : nums (fillW w n) = [n] := by
  unfold fillW nums
  split
  · simp [hn]
  · split
    · simp [hn]
    · split
      · simp [hn]
      · simp [hn]
theorem nz_fill {w n : Int} (hn : n ≠ 0) : nz (fillW w n) = true := by
  unfold fillW
  split
  · simp [nz, hn]
  · split
    · simp [nz, hn]
    · split
      · simp [nz, hn]
      · simp [nz]
theorem fill_ne {w n : Int} : fillW w n ≠ [] := by
  unfold fillW
  split
  · simp
  · split
    · simp
    · split <;> simp
theorem mx_form {F : List Int} (h : IsForm F) (h0 : (0 : Int) ∈ F) : mx F = (nums F).length := by
  refine mx_is ?_ fun y hy => ?_
  · by_cases hp : nums F = []
    · rw [hp]
      exact h0
    · have hl := List.length_pos_iff.mpr hp
      exact (List.mem_filter.mp (h.ord.mem (x := ((nums F).length : Int)) (by omega) (Int.le_refl _))).1
  · by_cases e : y = 0
    · omega
    · exact h.ord.hi y (List.mem_filter.mpr ⟨hy, decide_eq_true e⟩)
theorem form_put {F : List Int} {s w : Int} (h : IsForm F) (v : Valid F s w) : IsForm (putF F s w) := by
  obtain ⟨z0, z1, z2⟩ := zat_ok v
  have hs := split_at (F := F) (a := (zat F s).toNat) (by omega) z2
  have h0 : (0 : Int) ∈ F := by
    rw [hs]
    exact List.mem_append_right _ List.mem_cons_self
  have hm := mx_form h h0
  have hn : mx F + 1 ≠ 0 := by omega
  unfold putF
  generalize hA : F.take (zat F s).toNat = A at *
  generalize hB : F.drop ((zat F s).toNat + 1) = B at *
  have hsep := h.sep
  rw [hs, nz_app, show (0 : Int) :: B = [0] ++ B from rfl, nz_app] at hsep
  obtain ⟨a1, ⟨a2, a3, a4⟩, a5⟩ := hsep
  have b4 : ¬ B.head? = some 0 := fun e => a4 ⟨rfl, e⟩
  have b5 : ¬ A.getLast? = some 0 := fun e => a5 ⟨e, rfl⟩
  have hnum : nums F = nums A ++ nums B := by
    conv => lhs; rw [hs]
    rw [nums_app]
    congr 1
  refine ⟨?_, ?_, ?_⟩
  · rw [List.append_assoc, nz_app, nz_app]
    exact ⟨a1, ⟨nz_fill hn, a3, fun e => b4 e.2⟩, fun e => b5 e.1⟩
  · rw [nums_app, nums_app, nums_fill hn, hm]
    have hi := isOrd_insert h.ord (nums A).length
    rw [hnum, List.take_left, List.drop_left] at hi
    rw [hnum]
    have e : (((nums A ++ nums B).length + 1 : Nat) : Int) = ((nums A ++ nums B).length : Int) + 1 := rfl
    rw [e] at hi
    exact hi
  · intro e
    rw [List.append_assoc] at e
    exact fill_ne (List.append_eq_nil_iff.mp (List.append_eq_nil_iff.mp e).2).1
theorem fill_len (w n : Int) : (fillW w n).length ≤ 3 := by
  unfold fillW
  split
  · simp
  · split
    · simp
    · split <;> simp
theorem put_len {F : List Int} {s w : Int} (v : Valid F s w) : (putF F s w).length ≤ F.length + 2 := by
  obtain ⟨z0, z1, z2⟩ := zat_ok v
  have := fill_len w (mx F + 1)
  unfold putF
  rw [List.length_append, List.length_append, List.length_take, List.length_drop]
  omega
def OkW (F : List Int) : List (Int × Int) → Prop
  | [] => True
  | l :: r => Valid F l.1 l.2 ∧ OkW (putF F l.1 l.2) r
def lead (F : List Int) : List (Int × Int) → List Int
  | [] => F
  | l :: r => lead (putF F l.1 l.2) r
theorem lead_form : ∀ (w : List (Int × Int)) (F : List Int), IsForm F → OkW F w → IsForm (lead F w) ∧ (lead F w).length ≤ F.length + 2 * w.length
  | [], F, h, _ => ⟨h, Nat.le_refl _⟩
  | x :: w, F, h, k => by
    obtain ⟨h1, h2⟩ := lead_form w _ (form_put h k.1) k.2
    have := put_len k.1
    refine ⟨h1, ?_⟩
    show (lead (putF F x.1 x.2) w).length ≤ _
    rw [List.length_cons]
    omega
end Z

set_option Elab.async false
set_option linter.all false
set_option maxRecDepth 100000
set_option autoImplicit false
set_option maxHeartbeats 1000000
namespace Z
open PySem PySem.Spec PyProof.Rows L2
abbrev DkP : List (List Int × Addr × V) → List (List Int × Addr × Value) → Prop := Paired fun p q => p.1 = q.1 ∧ p.2.1 = q.2.1 ∧ RelV p.2.2 q.2.2
section
variable {X : Cx} {pins : List (Addr × Obj)} {σ : L2.St} {H G : Hp} {s : Shared} {l : Addr} {es : List (List Int × Addr × V)} {ds : List (List Int × D)}
end
section
variable {K : PySem.W.Frag} {F : Fr} {G H : Hp} {Mu : Option Addr} {Γ : En} {σ : St}
end
section
variable {X : Cx} {i j : Nat} {x y : Str} {a e : Expr} {px py pt pos pd : Pos} {kt k2 : Nat} {pt2 : Pos}
end
end Z

set_option Elab.async false
set_option linter.all false
set_option maxRecDepth 100000
set_option autoImplicit false
set_option maxHeartbeats 1000000
namespace Z
open PySem PySem.Spec PyProof.Rows L2
/-- the form that holds the numbers below k; b: whether a slot is open ahead -/
def col (k : Int) : Bool → List Int → List Int
  | _, [] => []
  | b, x :: r => if k ≤ x then (if b then col k true r else 0 :: col k true r) else x :: col k false r
def lo (k : Int) : Bool → List Int → Bool
  | b, [] => b
  | _, x :: r => lo k (decide (k ≤ x)) r
def wst (k : Int) (p : List Int) (j : Int) : Bool := decide (k ≤ p.getD j.toNat 0) && (decide (j = 0) || !decide (k ≤ p.getD (j - 1).toNat 0))
def wlf (k : Int) (p : List Int) (a : Int) : Bool := decide (0 < a) && decide (k ≤ p.getD (a - 1).toNat 0)
def wrt (k : Int) (p : List Int) (a : Int) : Bool := decide (a + 1 < p.length) && decide (k ≤ p.getD (a + 1).toNat 0)
def bz (b : Bool) : Int := if b then 1 else 0
/-- the letter of the number k, a its place -/
def lwA (k : Int) (p : List Int) (a : Nat) : Int × Int := ((((irange 0 (a + 1)).filter (wst k p)).length : Nat), 3 - 2 * bz (wrt k p a) - bz (wlf k p a))
def lw (p : List Int) (k : Int) : Int × Int := lwA k p (p.idxOf k)
def lword (p : List Int) : List (Int × Int) := (irange 1 p.length).map (lw p)
end Z

set_option Elab.async false
set_option linter.all false
set_option maxRecDepth 100000
set_option autoImplicit false
set_option maxHeartbeats 1000000
namespace Z
open PySem PySem.Spec PyProof.Rows L2
end Z

set_option Elab.async false
set_option linter.all false
set_option maxRecDepth 100000
set_option autoImplicit false
set_option maxHeartbeats 1000000
namespace Z
open PySem PySem.Spec PyProof.Rows L2
def letsI (F : List Int) : List (Int × Int) := (irange 1 (cntz F)).flatMap fun s => [(s, 0), (s, 1), (s, 2), (s, 3)]
abbrev WF : Type := List (Int × Int) × List Int
def wwL (m : Int) (r : WF) (l : Int × Int) : List WF := if (cntz (Z.putF r.2 l.1 l.2) : Int) ≤ m then [(r.1 ++ [l], Z.putF r.2 l.1 l.2)] else []
def wwIn (m : Int) (r : WF) : List WF := (letsI r.2).flatMap (wwL m r)
def wwRows (n : Nat) : Nat → List WF
  | 0 => [([], [0])]
  | k + 1 => (wwRows n k).flatMap (wwIn ((n : Int) - k - 1))
def ww (n : Nat) : List WF := (wwRows n n).filter fun r => decide ((0 : Int) ∉ r.2)
structure WwOk (k : Nat) (r : WF) : Prop where
  ok : OkW [0] r.1
  ld : lead [0] r.1 = r.2
  len : r.1.length = k
theorem WwOk.form {k : Nat} {r : WF} (h : WwOk k r) : IsForm r.2 ∧ r.2.length ≤ 1 + 2 * k := by
  have := lead_form r.1 [0] form0 h.ok
  rw [h.ld, h.len] at this
  exact this
structure WwAll (n c : Nat) : Prop where
  wd : ∀ r ∈ ww n, r.1 = lword r.2
  nd : ((ww n).map (·.2)).Nodup
  len : (ww n).length = c
  few : ∀ k, k ≤ n → (wwRows n k).length ≤ 40000
end Z

set_option Elab.async false
set_option linter.all false
set_option maxRecDepth 100000
set_option autoImplicit false
set_option maxHeartbeats 1000000
namespace Z
open PySem PySem.Spec PyProof.Rows L2
section
variable {X : Cx} {e st : Expr} {p2 pos : Pos} {te ts : TE}
end
end Z

set_option Elab.async false
set_option linter.all false
set_option maxRecDepth 100000
set_option autoImplicit false
set_option maxHeartbeats 1000000
namespace Z
open PySem PySem.Spec PyProof.Rows L2
/-- whether p shows q -/
def Shows (p q : List Int) : Prop := ∃ t, Mt p q q.length t
theorem PL_shows {p q : List Int} (ip : IsOrd p) (iq : q.Nodup) : PL p q ≠ [] ↔ Shows p q := by
  constructor
  · intro h
    obtain ⟨t, ht⟩ := List.exists_mem_of_ne_nil _ h
    exact ⟨t, (mem_PL ip iq t).mp ht⟩
  · rintro ⟨t, ht⟩ e
    have := (mem_PL ip iq t).mpr ht
    rw [e] at this
    cases this
theorem shows_len {p q : List Int} (h : Shows p q) : q.length ≤ p.length := by
  obtain ⟨t, m⟩ := h
  have key : ∀ i, i < q.length → (i : Int) ≤ at0 t i := by
    intro i
    induction i with
    | zero => exact fun h => m.pl.lo _ (at0_mem (by rw [m.pl.len]; exact h))
    | succ i ih =>
      intro h
      have := ih (by omega)
      have := m.asc i (i + 1) (by omega) h
      omega
  by_cases h0 : q.length = 0
  · omega
  · have a := key (q.length - 1) (by omega)
    have b := m.pl.hi _ (at0_mem (t := t) (i := q.length - 1) (by rw [m.pl.len]; omega))
    omega
end Z

set_option Elab.async false
set_option linter.all false
set_option maxRecDepth 100000
set_option autoImplicit false
set_option maxHeartbeats 1000000
namespace Z
open PySem PySem.Spec PyProof.Rows L2
end Z

set_option Elab.async false
set_option linter.all false
set_option maxRecDepth 100000
set_option autoImplicit false
set_option maxHeartbeats 1000000
namespace Z
open PySem PySem.Spec PyProof.Rows L2
end Z

set_option Elab.async false
set_option linter.all false
set_option maxRecDepth 100000
set_option autoImplicit false
set_option maxHeartbeats 1000000
namespace Z
open PySem PySem.Spec PyProof.Rows L2
end Z

set_option Elab.async false
set_option linter.all false
set_option maxRecDepth 100000
set_option autoImplicit false
set_option maxHeartbeats 1000000
namespace Z
open PySem PySem.Spec PyProof.Rows L2
end Z

set_option Elab.async false
set_option linter.all false
set_option maxRecDepth 100000
set_option autoImplicit false
set_option maxHeartbeats 1000000
namespace Z
open PySem PySem.Spec PyProof.Rows L2
/-- s compares as q -/
def Cmp (s q : List Int) : Prop := s.length = q.length ∧ ∀ i j, i < q.length → j < q.length → (at0 s i < at0 s j ↔ at0 q i < at0 q j)
theorem shows_sub {c q : List Int} : Shows c q ↔ ∃ s, s.Sublist c ∧ Cmp s q := by
  constructor
  · rintro ⟨t, m⟩
    have hlt : ∀ x ∈ t, x.toNat < c.length := fun x hx => by
      have := m.pl.lo x hx
      have := m.pl.hi x hx
      omega
    have hp : t.Pairwise (· < ·) := by
      rw [List.pairwise_iff_getElem]
      intro i j hi hj hij
      have := m.asc i j hij (by rw [← m.pl.len]; exact hj)
      unfold at0 at this
      rw [List.getD_eq_getElem?_getD, List.getD_eq_getElem?_getD, List.getElem?_eq_getElem hi, List.getElem?_eq_getElem hj] at this
      exact this
    have hs := List.map_getElem_sublist (l := c) (is := t.pmap (fun x h => (⟨x.toNat, h⟩ : Fin c.length)) hlt) (by
      rw [List.pairwise_pmap]
      refine hp.imp_of_mem fun {a b} ha hb hab h1 h2 => ?_
      have := m.pl.lo a ha
      show a.toNat < b.toNat
      omega)
    have e : (t.pmap (fun x h => (⟨x.toNat, h⟩ : Fin c.length)) hlt).map (fun x => c[x]) = t.map (pAt c) := by
      rw [List.map_pmap, ← List.pmap_eq_map (p := fun x => x.toNat < c.length) (f := pAt c) (H := hlt)]
      refine List.pmap_congr_left _ fun x hx h1 h2 => ?_
      show c[x.toNat] = c.getD x.toNat 0
      rw [List.getD_eq_getElem?_getD, List.getElem?_eq_getElem h1]
      rfl
    rw [e] at hs
    refine ⟨_, hs, by rw [List.length_map, m.pl.len], fun i j hi hj => ?_⟩
    rw [at0_map (by rw [m.pl.len]; exact hi), at0_map (by rw [m.pl.len]; exact hj)]
    exact m.ord i j hi hj
  · rintro ⟨s, hs, hl, ho⟩
    obtain ⟨is, rfl, hp⟩ := List.sublist_eq_map_getElem hs
    rw [List.length_map] at hl
    have g : ∀ i (h : i < q.length), at0 (is.map fun i : Fin c.length => ((i.val : Nat) : Int)) i = ((is[i]'(by omega)).val : Int) := fun i h => by
      unfold at0
      rw [List.getD_eq_getElem?_getD, List.getElem?_map, List.getElem?_eq_getElem (by omega)]
      rfl
    have g2 : ∀ i (h : i < q.length), at0 (is.map fun x : Fin c.length => c[x]) i = pAt c (at0 (is.map fun i : Fin c.length => ((i.val : Nat) : Int)) i) := fun i h => by
      rw [g i h]
      unfold at0 pAt
      rw [List.getD_eq_getElem?_getD, List.getElem?_map, List.getElem?_eq_getElem (by omega), Int.toNat_natCast, List.getD_eq_getElem?_getD, List.getElem?_eq_getElem (is[i]'(by omega)).isLt]
      rfl
    refine ⟨is.map fun i : Fin c.length => ((i.val : Nat) : Int), ⟨by rw [List.length_map, hl], fun x hx => ?_, fun x hx => ?_⟩, fun i j hij hj => ?_, fun i j hi hj => ?_⟩
    · obtain ⟨i, _, rfl⟩ := List.mem_map.mp hx
      omega
    · obtain ⟨i, _, rfl⟩ := List.mem_map.mp hx
      have := i.isLt
      omega
    · rw [g i (by omega), g j hj]
      have := List.pairwise_iff_getElem.mp hp i j (by omega) (by omega) hij
      exact Int.ofNat_lt.mpr this
    · rw [← g2 i hi, ← g2 j hj]
      exact ho i j hi hj
theorem shows_mono {c d q : List Int} (h : c.Sublist d) (k : Shows c q) : Shows d q := by
  obtain ⟨s, hs, hc⟩ := shows_sub.mp k
  exact shows_sub.mpr ⟨s, hs.trans h, hc⟩
/-- what compares alike shows alike -/
theorem shows_cmp {c d q : List Int} (hl : c.length = d.length) (h : ∀ i j, i < c.length → j < c.length → (at0 c i < at0 c j ↔ at0 d i < at0 d j)) (k : Shows c q) : Shows d q := by
  obtain ⟨t, m⟩ := k
  refine ⟨t, ⟨m.pl.len, m.pl.lo, fun x hx => by rw [← hl]; exact m.pl.hi x hx⟩, m.asc, fun i j hi hj => ?_⟩
  have a1 := m.pl.lo _ (at0_mem (t := t) (i := i) (by rw [m.pl.len]; exact hi))
  have a2 := m.pl.hi _ (at0_mem (t := t) (i := i) (by rw [m.pl.len]; exact hi))
  have b1 := m.pl.lo _ (at0_mem (t := t) (i := j) (by rw [m.pl.len]; exact hj))
  have b2 := m.pl.hi _ (at0_mem (t := t) (i := j) (by rw [m.pl.len]; exact hj))
  rw [← m.ord i j hi hj]
  exact (h (at0 t i).toNat (at0 t j).toNat (by omega) (by omega)).symm
/-- rows of unlike numbers behind the form's -/
structure RowOk (F row : List Int) : Prop where
  len : row.length ≤ cntz F
  nd : row.Nodup
  lo : ∀ x ∈ row, mx F < x
  hi : ∀ x ∈ row, x ≤ mx F + cntz F
end Z

set_option Elab.async false
set_option linter.all false
set_option maxRecDepth 100000
set_option autoImplicit false
set_option maxHeartbeats 1000000
namespace Z
open PySem PySem.Spec PyProof.Rows L2
def shB (p q : List Int) : Bool := !decide (PL p q = [])
theorem shB_iff {p q : List Int} (ip : IsOrd p) (iq : IsOrd q) : shB p q = true ↔ Shows p q := by
  unfold shB
  rw [← PL_shows ip iq.nd]
  simp
def letB (P : List (List Int)) (p : List Int) : Bool := P.all fun q => !shB p q
theorem letB_iff {P : List (List Int)} {p : List Int} (hP : ∀ q ∈ P, IsOrd q) (ip : IsOrd p) : letB P p = true ↔ ∀ q ∈ P, ¬ Shows p q := by
  unfold letB
  rw [List.all_eq_true]
  refine forall_congr' fun q => forall_congr' fun hq => ?_
  rw [Bool.not_eq_true', ← shB_iff ip (hP q hq)]
  simp
inductive Exp : List Int → List Int → Prop
  | nil : Exp [] []
  | num {x : Int} {F e : List Int} : x ≠ 0 → Exp F e → Exp (x :: F) (x :: e)
  | slot {b F e : List Int} : b ≠ [] → Exp F e → Exp (0 :: F) (b ++ e)
def ch : Nat → Nat → Nat
  | _, 0 => 1
  | 0, _ + 1 => 0
  | n + 1, k + 1 => ch n k + ch n (k + 1)
end Z

set_option Elab.async false
set_option linter.all false
set_option maxRecDepth 100000
set_option autoImplicit false
set_option maxHeartbeats 1000000
namespace Z
open PySem PySem.Spec PyProof.Rows L2
end Z

set_option Elab.async false
set_option linter.all false
set_option maxRecDepth 100000
set_option autoImplicit false
set_option maxHeartbeats 2000000
namespace Z
open PySem PySem.Spec PyProof.Rows L2
abbrev NKey := NestedKey
mutual
/-- no texts within -/
def ntx : NKey → Bool
  | .text _ => false
  | .none => true
  | .num _ => true
  | .tup ks => ntxs ks
def ntxs : List NKey → Bool
  | [] => true
  | k :: ks => ntx k && ntxs ks
end
section
variable {P : Program} {w : World}
/-- two small questions that the table asks of what it stores -/
structure Tame (P : Program) (w : World) (n : Nat) (s : Shared) (v : Value) : Prop where
  cls : ∀ (A : Around) (E : Value → Shared → Prop) (Q : Bool → Shared → Prop), Q false s → wpAny (model P w) A (ofAClassStatement n v) Q E s
  hsh : ∀ (A : Around) (E : Value → Shared → Prop) (Q : Bool → Shared → Prop), Q true s → wpAny (model P w) A (hashByValue n v) Q E s
theorem Tame.tup {n : Nat} {s : Shared} {a : Addr} {o : Obj} {its : Array Value} {m : Nat} (ho : s.heap.get? a = some o) (hc : o.cls = .type "tuple") (hd : o.data = .seq its m) (hi : ∀ v ∈ its.toList, Tame P w n s v) : Tame P w (n + 1) s (.ref a) := by
  have ty : s.TypeIs (.ref a) "tuple" := ⟨o, ho, hc⟩
  constructor
  · intro A E Q q
    unfold ofAClassStatement
    refine wpAny_bind (wpAny_typeOf ty ?_)
    simp only [show (("tuple" : String) == "tuple") = true by decide, if_true]
    try refine wpAny_bind (wpAny_pure ?_)
    simp only [Bool.not_true, Bool.false_eq_true, if_false]
    try refine wpAny_bind (wpAny_pure ?_)
    refine wpAny_bind (wpAny_seqItems (items := its) ho hd ?_)
    dsimp only
    refine wpAny_bind ?_
    rw [← Array.forIn_toList]
    refine wpAny_forIn_list _ (fun left acc now => (acc.1 = none ∧ now = s) ∧ ∀ v ∈ left, Tame P w n s v) _ ?_ ?_ _ _ ⟨⟨rfl, rfl⟩, hi⟩
    · rintro v left acc now ⟨⟨e1, rfl⟩, al⟩
      refine wpAny_bind ((al v List.mem_cons_self).cls _ _ _ ?_)
      simp only [Bool.false_eq_true, if_false]
      exact wpAny_pure ⟨⟨rfl, rfl⟩, fun z hz => al z (List.mem_cons_of_mem _ hz)⟩
    · rintro ⟨acc, u⟩ now ⟨⟨e1, rfl⟩, _⟩
      cases (show acc = none from e1)
      exact wpAny_pure q
  · intro A E Q q
    unfold hashByValue
    refine wpAny_bind (wpAny_specialOf ty F.slot_tuple_hash.lookup ?_)
    dsimp only
    refine wpAny_bind (wpAny_seqItems (items := its) ho hd ?_)
    refine wpAny_bind ?_
    show wpAny _ _ (forIn its _ _) _ _ s
    rw [← Array.forIn_toList]
    refine wpAny_forIn_list _ (fun left acc now => (acc.1 = none ∧ now = s) ∧ ∀ v ∈ left, Tame P w n s v) _ ?_ ?_ _ _ ⟨⟨rfl, rfl⟩, hi⟩
    · rintro v left acc now ⟨⟨e1, rfl⟩, al⟩
      refine wpAny_bind ((al v List.mem_cons_self).hsh _ _ _ ?_)
      simp only [Bool.not_true, Bool.false_eq_true, if_false]
      exact wpAny_pure ⟨⟨rfl, rfl⟩, fun z hz => al z (List.mem_cons_of_mem _ hz)⟩
    · rintro ⟨acc, u⟩ now ⟨⟨e1, rfl⟩, _⟩
      cases (show acc = none from e1)
      exact wpAny_pure q
theorem Tame.plain {n : Nat} {s : Shared} {v : Value} (h1 : ofAClassStatement n v = pure false) (h2 : hashByValue n v = pure true) : Tame P w n s v :=
  ⟨fun A E Q q => by rw [h1]; exact wpAny_pure q, fun A E Q q => by rw [h2]; exact wpAny_pure q⟩
end
end Z

set_option Elab.async false
set_option linter.all false
set_option maxRecDepth 100000
set_option autoImplicit false
set_option maxHeartbeats 4000000
namespace Z
open PySem PySem.Spec PyProof.Rows L2
/-- a member: the tuple at b is the key k -/
structure Mem (h : Heap) (k : NKey) (b : Addr) : Prop where
  is : NestedIs h k (.ref b)
  dep : k.depth ≤ 8
  ntx : ntx k = true
abbrev Row : Type := Addr × NKey
section
variable {P : Program} {w : World} {A : Around} {E : Value → Shared → Prop} {s : Shared}
theorem Mem.more {h h' : Heap} {k : NKey} {b : Addr} (m : Mem h k b) (e : ∀ c o vs n, h.get? c = some o → o.data = .seq vs n → h'.get? c = some o) : Mem h' k b := ⟨NestedIs.at e _ _ m.is, m.dep, m.ntx⟩
def hOf (w : World) (p : Row) : Int := p.2.hash w
structure NSet (w : World) (h : Heap) (a : Addr) (L : List Row) (es : Array (Int × Value)) (ep : Nat) (t : SetTable) : Prop where
  obj : ∃ o, h.get? a = some o ∧ o.ExactSet ∧ o.data = .set es ep t
  ents : es.toList = L.map fun p => (hOf w p, Value.ref p.1)
  tab : TabOk t (L.map (hOf w))
  nd : (L.map Prod.snd).Nodup
  mem : ∀ p ∈ L, Mem h p.2 p.1
  pln : t.plain = true
  led : w.params.followText "set-order" = true ∨ t.led = true
  room : L.length * 5 < t.mask * 3
  few : L.length < 64
variable {a : Addr} {L : List Row} {es : Array (Int × Value)} {ep : Nat} {t : SetTable}
theorem NSet.esz (S : NSet w s.heap a L es ep t) : es.size = L.length := by
  rw [← Array.length_toList, S.ents, List.length_map]
theorem NSet.psz (S : NSet w s.heap a L es ep t) : t.place.toList.length = L.length := by
  rw [Array.length_toList, S.tab.sz, List.length_map]
theorem NSet.fit (S : NSet w s.heap a L es ep t) : t.fits es.size = true := by
  have r := S.room
  have z := S.psz
  rw [Array.length_toList] at z
  unfold SetTable.fits SetTable.fill
  rw [S.tab.dm, S.esz, z]
  simp
  omega
theorem NSet.stays (S : NSet w s.heap a L es ep t) : ¬ t.gaveWay = true := by
  have := mask_odd S.tab.mok
  unfold SetTable.gaveWay
  rw [this]
  decide
end
end Z

set_option Elab.async false
set_option linter.all false
set_option maxRecDepth 100000
set_option autoImplicit false
set_option maxHeartbeats 4000000
namespace Z
open PySem PySem.Spec PyProof.Rows L2
section
variable {P : Program} {w : World} {A : Around} {E : Value → Shared → Prop} {s : Shared}
abbrev entOf (w : World) (p : Row) : Int × Value := (hOf w p, Value.ref p.1)
variable {a : Addr} {L : List Row} {es : Array (Int × Value)} {ep : Nat} {t : SetTable}
end
end Z

set_option Elab.async false
set_option linter.all false
set_option maxRecDepth 100000
set_option autoImplicit false
set_option maxHeartbeats 4000000
namespace Z
open PySem PySem.Spec PyProof.Rows L2
def Held (w : World) (h : Heap) (a : Addr) (L : List Row) : Prop := ∃ (es : Array (Int × Value)) (ep : Nat) (t : SetTable), (∃ o, h.get? a = some o ∧ o.ExactSet ∧ o.data = .set es ep t) ∧ es.toList = L.map (entOf w) ∧ TabOk t (L.map (hOf w)) ∧ (L.map Prod.snd).Nodup ∧
  t.plain = true ∧ (w.params.followText "set-order" = true ∨ t.led = true) ∧ L.length * 5 < t.mask * 3 ∧ L.length < 64
theorem NSet.held {w : World} {h : Heap} {a : Addr} {L : List Row} {es : Array (Int × Value)} {ep : Nat} {t : SetTable} (S : NSet w h a L es ep t) : Held w h a L := ⟨es, ep, t, S.obj, S.ents, S.tab, S.nd, S.pln, S.led, S.room, S.few⟩
section
variable {X : Cx} {pins : List (Addr × Obj)} {σ : St} {G H : Hp} {s : Shared}
mutual
theorem nested_of (I : L2.Inv X pins σ H s) (g : Same G H) : ∀ (k : NKey) (v : V) (u : Value), ntx k = true → Dq X.K G v k.data → RelV v u → NestedIs s.heap k u
  | .none, v, u, _, d, r => by
    rw [NestedKey.data] at d
    cases d
    cases r
    exact .none
  | .num i, v, u, _, d, r => by
    rw [NestedKey.data] at d
    cases d
    obtain ⟨t, rfl⟩ := r
    exact .int i t
  | .text x, v, u, t, _, _ => by cases (show false = true from t)
  | .tup ks, v, u, t, d, r => by
    rw [NestedKey.data] at d
    cases d with
    | tup ht ha =>
      cases r
      obtain ⟨its, rv, ⟨o, ho, hc, n, hd⟩, _⟩ := I.tuple (ht.mono g).sq
      exact .tup ho hc hd (by simpa using nested_all I g ks _ _ t ha rv)
theorem nested_all (I : L2.Inv X pins σ H s) (g : Same G H) : ∀ (ks : List NKey) (vs : List V) (us : List Value), ntxs ks = true → DqAll X.K G vs (NestedKey.datas ks) → Vals vs us → NestedAll s.heap ks us
  | [], vs, us, _, d, r => by
    rw [NestedKey.datas] at d
    cases d
    cases r
    exact .nil
  | k :: ks, vs, us, t, d, r => by
    rw [NestedKey.datas] at d
    rw [ntxs, Bool.and_eq_true] at t
    cases d with
    | cons d1 d2 =>
      cases r with
      | cons r1 r2 => exact .cons (nested_of I g k _ _ t.1 d1 r1) (nested_all I g ks _ _ t.2 d2 r2)
end
/-- a row's key, seen in the layer -/
def RowAt (K : PySem.W.Frag) (G : Hp) (p : Row) : Prop := Dq K G (.ref p.1) p.2.data ∧ p.2.depth ≤ 8 ∧ ntx p.2 = true
theorem RowAt.up {K : PySem.W.Frag} {G G' : Hp} {p : Row} (r : RowAt K G p) (g : Same G G') : RowAt K G' p := ⟨dp_mono g _ _ r.1, r.2⟩
theorem RowAt.mem {p : Row} (r : RowAt X.K G p) (I : L2.Inv X pins σ H s) (g : Same G H) : Mem s.heap p.2 p.1 := ⟨nested_of I g _ _ _ r.2.2 r.1 rfl, r.2.1, r.2.2⟩
end
end Z

set_option Elab.async false
set_option linter.all false
set_option maxRecDepth 100000
set_option autoImplicit false
set_option maxHeartbeats 4000000
namespace Z
open PySem PySem.Spec PyProof.Rows L2 PpSet
section
variable {X : Cx}
end
end Z

set_option Elab.async false
set_option linter.all false
set_option maxRecDepth 100000
set_option autoImplicit false
set_option maxHeartbeats 4000000
namespace Z
open PySem PySem.Spec PyProof.Rows L2
theorem okSort_perm {xs ys : List D} (hp : xs.Perm ys) (h : okSort ys = true) : okSort xs = true := by
  unfold okSort at *
  simp only [Bool.and_eq_true, Bool.or_eq_true, List.all_eq_true, decide_eq_true_eq] at h ⊢
  obtain ⟨⟨⟨h1, h2⟩, h3⟩, h4⟩ := h
  have m := fun d => (hp.mem_iff (a := d)).mp
  exact ⟨⟨⟨fun a ha b hb => h1 a (m a ha) b (m b hb), h2.imp (fun z a ha => z a (m a ha)) fun z a ha => z a (m a ha)⟩, by rw [hp.length_eq]; exact h3⟩, fun a ha => h4 a (m a ha)⟩
theorem perm_map_of {α β : Type} (f : α → β) {vs : List β} {M : List β} (hp : vs.Perm M) : ∀ L : List α, M = L.map f → ∃ L1 : List α, vs = L1.map f ∧ L1.Perm L := by
  induction hp with
  | nil => intro L e; exact ⟨L, e, .refl _⟩
  | cons x _ ih =>
    intro L e
    cases L with
    | nil => cases e
    | cons y L =>
      rw [List.map_cons] at e
      injection e with e1 e2
      obtain ⟨L1, q1, q2⟩ := ih L e2
      exact ⟨y :: L1, by rw [List.map_cons, ← e1, q1], .cons y q2⟩
  | swap x y l =>
    intro L e
    match L, e with
    | a :: b :: L, e =>
      simp only [List.map_cons, List.cons.injEq] at e
      obtain ⟨e1, e2, e3⟩ := e
      exact ⟨b :: a :: L, by rw [List.map_cons, List.map_cons, ← e1, ← e2, ← e3], .swap _ _ _⟩
  | trans _ _ ih1 ih2 =>
    intro L e
    obtain ⟨L1, q1, q2⟩ := ih2 L e
    obtain ⟨L2, r1, r2⟩ := ih1 L1 q1
    exact ⟨L2, r1, r2.trans q2⟩
end Z

set_option Elab.async false
set_option linter.all false
set_option maxRecDepth 100000
set_option autoImplicit false
set_option maxHeartbeats 4000000
namespace Z
open PySem PySem.Spec PyProof.Rows L2
section
variable {prog : Program} {w : World} {A : Around} {E : Value → Shared → Prop} {s : Shared}
open PySem.W PySem.Calls in
/-- what comes of sorted(s): a new list of the members' values, in the order of their data -/
theorem sorted_members {a : Addr} {L : List Row} {es : Array (Int × Value)} {ep : Nat} {t : SetTable} {R : Value → D → Prop} {Q : Value → Shared → Prop} (S : NSet w s.heap a L es ep t) (hh : A.handled = none) (hu : A.units + 2 + 30 < cLine)
    (rel : ∀ p ∈ L, R (.ref p.1) p.2.data ∧ ∃ as, Reads s.heap (.ref p.1) p.2.data as) (ok : okSort (L.map fun p => p.2.data) = true)
    (h : ∀ (L1 : List Row) (s1 : Shared) (h' : Heap) (out : List Value) (c : Nat), L1.Perm L → (∀ b o, s.heap.get? b = some o → s1.heap.get? b = some o) → s.heap.objs.size ≤ s1.heap.objs.size → s1.gens = s.gens → s1.os = s.os → (∀ b o, s1.heap.get? b = some o → h'.get? b = some o) →
      h'.get? s1.heap.objs.size = some (seqObj "list" out.toArray c) → EachIs R out (sortD (L1.map fun p => p.2.data)) → Q (.ref s1.heap.objs.size) { s1 with heap := h' }) :
    wpAny (model prog w) A (call (.builtin "sorted") [.ref a]) Q E s := by
  obtain ⟨o, go, ex, dat⟩ := S.obj
  have few := S.few
  have big : 64 ≤ sizeLine := by rw [sizeLine_eq]; omega
  refine call_function_entry_kw kind_sorted plain_sorted entry_sorted (args_sorted1 _) ?_
  unfold Builtin.«sorted»
  refine wpAny_bind (m := checkCount "sorted" 1 1 _) (wpAny_pure ?_)
  refine wpAny_bind (collect_set (A := A.in1) hh ⟨o, go, ex.1, dat⟩ S.fit (by rw [S.esz]; unfold scanBound; omega) S.tab.ris S.led fun s1 vs k1 sz g1 o1 pm => ?_)
  rw [show es.toList.map (·.2) = L.map fun p => Value.ref p.1 by rw [S.ents, List.map_map]; rfl] at pm
  obtain ⟨L1, rfl, pL⟩ := perm_map_of (fun p : Row => Value.ref p.1) pm L rfl
  have len : (L1.map fun p => Value.ref p.1).length ≤ sizeLine := by rw [List.length_map, pL.length_eq]; omega
  refine wpAny_bind (wpAny_newList ?_ len)
  show wpAny (model prog w) _ _ _ _ { s1 with heap := s1.heap.push (seqObj "list" (L1.map fun p => Value.ref p.1).toArray 0) }
  generalize hvs : (L1.map fun p => Value.ref p.1) = vs at *
  have atL : (s1.heap.push (seqObj "list" vs.toArray 0)).get? s1.heap.objs.size = some (seqObj "list" vs.toArray 0) := Heap.get?_push_size _ rfl
  have k2 : ∀ b ob, s.heap.get? b = some ob → (sortingHeap (s1.heap.push (seqObj "list" vs.toArray 0)) s1.heap.objs.size vs).get? b = some ob := fun b ob q => sortingHeap_old (Nat.ne_of_lt (Heap.lt_size (k1 b ob q))) (Heap.get?_push_of_some _ (k1 b ob q))
  have each : ∀ M : List Row, (∀ p ∈ M, p ∈ L) → EachIs R (M.map fun p => Value.ref p.1) (M.map fun p => p.2.data) ∧ EachIs (fun v d => ∃ as, Reads s.heap v d as) (M.map fun p => Value.ref p.1) (M.map fun p => p.2.data) := by
    intro M
    induction M with
    | nil => intro _; exact ⟨.nil, .nil⟩
    | cons p M ih =>
      intro hm
      obtain ⟨a1, a2⟩ := ih fun q hq => hm q (List.mem_cons_of_mem _ hq)
      obtain ⟨b1, b2⟩ := rel p (hm p List.mem_cons_self)
      exact ⟨.cons b1 a1, .cons b2 a2⟩
  obtain ⟨er, rd⟩ := each L1 fun p hp => pL.mem_iff.mp hp
  rw [hvs] at er rd
  have okL := okSort_perm (pL.map fun p : Row => p.2.data) ok
  generalize hxs : (L1.map fun p => p.2.data) = xs at *
  obtain ⟨al, so, _, dep⟩ := okSort_ok okL
  have rd' : EachIs (fun v d => ∃ as, Reads (sortingHeap (s1.heap.push (seqObj "list" vs.toArray 0)) s1.heap.objs.size vs) v d as) vs xs := rd.mono fun _ _ ⟨as, r⟩ => ⟨as, PyProof.Rows.Reads.keeps k2 r⟩
  refine wpAny_bind (wpAny_holding (wpAny_call_entry_kw slot_list_sort ⟨_, atL, rfl⟩ entry_list_sort ?_ (args_list_sort _)))
  have srt := SortsAt.data (prog := prog) (w := w) (A := A.in1.in1) (s := { s1 with heap := sortingHeap (s1.heap.push (seqObj "list" vs.toArray 0)) s1.heap.objs.size vs }) rd' al so fun d hd => by
    have := dep d hd
    show A.units + 2 + d.depth < cLine
    omega
  refine list_sort_vals (s := { s1 with heap := s1.heap.push (seqObj "list" vs.toArray 0) }) atL srt len ⟨_, rfl, wpAny_pure ?_⟩
  obtain ⟨c, atS⟩ := sortedHeap_at (h := s1.heap.push (seqObj "list" vs.toArray 0)) (a := s1.heap.objs.size) (vs := vs) (n := 0) (out := (sortVals (dataKind (sortingHeap (s1.heap.push (seqObj "list" vs.toArray 0)) s1.heap.objs.size vs) xs) false vs vs).toArray) atL
  have out := sortVals_data (R := R) (enc := id) (bs := xs) (vs := vs) false er rd' (by rw [List.map_id]; exact al)
  rw [List.map_id] at out
  refine ⟨_, rfl, h L1 s1 _ _ c pL k1 sz g1 o1 (fun b ob q => ?_) atS ?_⟩
  · rw [sortedHeap_old (Nat.ne_of_lt (Heap.lt_size q)) (Heap.lt_size (Heap.get?_push_of_some _ q))]
    exact Heap.get?_push_of_some _ q
  · rw [hxs]
    exact out
end
section
variable {X : Cx}
end
end Z

set_option Elab.async false
set_option linter.all false
set_option maxRecDepth 100000
set_option autoImplicit false
set_option maxHeartbeats 4000000
namespace Z
open PySem PySem.Spec PyProof.Rows L2
section
variable {X : Cx} {b : Bool} {elt tg iter : Expr} {ifs : List Expr} {scope : Scope} {pos cpos p : Pos} {t : Tg} {mi : M (List D)} {mt : M Bool} {me : M D}
end
end Z

set_option Elab.async false
set_option linter.all false
set_option maxRecDepth 100000
set_option autoImplicit false
set_option maxHeartbeats 1000000
namespace Z
open PySem PySem.Spec PyProof.Rows L2
def slt (p q : List Int) : Prop := p.length < q.length ∨ (p.length = q.length ∧ p < q)
theorem slt_irrefl {p : List Int} : ¬ slt p p := fun h => by
  rcases h with h | ⟨_, h⟩
  · omega
  · exact List.lt_irrefl p h
theorem slt_trans {p q r : List Int} (h : slt p q) (k : slt q r) : slt p r := by
  rcases h with h | ⟨h, h'⟩ <;> rcases k with k | ⟨k, k'⟩
  · exact .inl (by omega)
  · exact .inl (by omega)
  · exact .inl (by omega)
  · exact .inr ⟨by omega, List.lt_trans h' k'⟩
theorem slt_tri (p q : List Int) : slt p q ∨ p = q ∨ slt q p := by
  rcases Nat.lt_trichotomy p.length q.length with h | h | h
  · exact .inl (.inl h)
  · by_cases e : p = q
    · exact .inr (.inl e)
    · rcases Classical.em (p < q) with c | c
      · exact .inl (.inr ⟨h, c⟩)
      · have : q ≤ p := List.not_lt.mp c
        rcases List.le_iff_lt_or_eq.mp this with d | d
        · exact .inr (.inr (.inr ⟨h.symm, d⟩))
        · exact absurd d.symm e
  · exact .inr (.inr (.inl h))
end Z

set_option Elab.async false
set_option linter.all false
set_option maxRecDepth 100000
set_option autoImplicit false
set_option maxHeartbeats 2000000
namespace Z
open PySem PySem.Spec PyProof.Rows L2
theorem cmp_refl (q : List Int) : Cmp q q := ⟨rfl, fun _ _ _ _ => Iff.rfl⟩
theorem shows_refl (q : List Int) : Shows q q := shows_sub.mpr ⟨q, .refl _, cmp_refl q⟩
theorem shows_trans {p q r : List Int} (h : Shows p q) (k : Shows q r) : Shows p r := by
  obtain ⟨s, hs, hc⟩ := shows_sub.mp h
  exact shows_mono hs (shows_cmp hc.1.symm (fun i j hi hj => (hc.2 i j hi hj).symm) k)
theorem shows_same {p q : List Int} (ip : IsOrd p) (iq : IsOrd q) (h : Shows p q) (l : p.length = q.length) : p = q := by
  obtain ⟨s, hs, hc⟩ := shows_sub.mp h
  have e : s = p := hs.eq_of_length (by rw [hc.1, l])
  subst e
  have := like_cmp (c := s) (d := q) l fun i j hi hj => hc.2 i j (by omega) (by omega)
  rwa [like_ord ip, like_ord iq] at this
instance (p q : List Int) : Decidable (slt p q) := by unfold slt; exact inferInstance
def insP (q : List Int) : List (List Int) → List (List Int)
  | [] => [q]
  | x :: r => if q = x then x :: r else if slt q x then q :: x :: r else x :: insP q r
def srtP : List (List Int) → List (List Int)
  | [] => []
  | q :: F => insP q (srtP F)
theorem insP_mem {q t : List Int} : ∀ {L : List (List Int)}, t ∈ insP q L ↔ t = q ∨ t ∈ L
  | [] => by simp [insP]
  | x :: r => by
    unfold insP
    split
    · rename_i e
      subst e
      simp
    · split
      · simp
      · rw [List.mem_cons, insP_mem, List.mem_cons]
        constructor
        · rintro (h | h | h)
          · exact .inr (.inl h)
          · exact .inl h
          · exact .inr (.inr h)
        · rintro (h | h | h)
          · exact .inr (.inl h)
          · exact .inl h
          · exact .inr (.inr h)
theorem insP_srt {q : List Int} : ∀ {L : List (List Int)}, L.Pairwise slt → (insP q L).Pairwise slt
  | [], _ => List.pairwise_singleton _ _
  | x :: r, h => by
    obtain ⟨h1, h2⟩ := List.pairwise_cons.mp h
    unfold insP
    split
    · exact h
    · split
      · rename_i c
        exact List.pairwise_cons.mpr ⟨fun y hy => by
          rcases List.mem_cons.mp hy with rfl | hy
          · exact c
          · exact slt_trans c (h1 y hy), h⟩
      · rename_i e c
        refine List.pairwise_cons.mpr ⟨fun y hy => ?_, insP_srt h2⟩
        rcases insP_mem.mp hy with rfl | hy
        · rcases slt_tri x y with d | d | d
          · exact d
          · exact absurd d.symm e
          · exact absurd d c
        · exact h1 y hy
theorem srtP_mem {t : List Int} : ∀ {F : List (List Int)}, t ∈ srtP F ↔ t ∈ F
  | [] => Iff.rfl
  | q :: F => by
    show t ∈ insP q (srtP F) ↔ _
    rw [insP_mem, srtP_mem, List.mem_cons]
theorem srtP_srt : ∀ F : List (List Int), (srtP F).Pairwise slt
  | [] => .nil
  | q :: F => insP_srt (srtP_srt F)
end Z

set_option Elab.async false
set_option linter.all false
set_option maxRecDepth 100000
set_option autoImplicit false
set_option maxHeartbeats 2000000
namespace Z
open PySem PySem.Spec PyProof.Rows L2
end Z

set_option Elab.async false
set_option linter.all false
set_option maxRecDepth 100000
set_option autoImplicit false
set_option maxHeartbeats 2000000
namespace Z
open PySem PySem.Spec PyProof.Rows L2
def lgo : List (List Int) → List (List Int) → List (List Int)
  | acc, [] => acc
  | acc, q :: r => lgo (if letB acc q = true then acc ++ [q] else acc) r
def leastL (F : List (List Int)) : List (List Int) := lgo [] (srtP F)
abbrev Ords (F : List (List Int)) : Prop := ∀ q ∈ F, IsOrd q
/-- what shows no other one -/
def Minl (F : List (List Int)) (q : List Int) : Prop := q ∈ F ∧ ∀ r ∈ F, Shows q r → r = q
theorem minl_below {F : List (List Int)} (hF : Ords F) : ∀ (n : Nat) (q : List Int), q.length ≤ n → q ∈ F → ∃ m, Minl F m ∧ Shows q m
  | n, q, hn, hq => by
    by_cases c : ∀ r ∈ F, Shows q r → r = q
    · exact ⟨q, ⟨hq, c⟩, shows_refl q⟩
    · obtain ⟨r, hc⟩ := Classical.not_forall.mp c
      obtain ⟨hr, hc⟩ := Classical.not_imp.mp hc
      obtain ⟨hs, hne⟩ := Classical.not_imp.mp hc
      have l1 := shows_len hs
      have l2 : r.length ≠ q.length := fun e => hne (shows_same (hF q hq) (hF r hr) hs e.symm).symm
      cases n with
      | zero => omega
      | succ n =>
        obtain ⟨m, hm, sm⟩ := minl_below hF n r (by omega) hr
        exact ⟨m, hm, shows_trans hs sm⟩
theorem lgo_sub : ∀ (r acc : List (List Int)), acc.Sublist (lgo acc r) ∧ (lgo acc r).Sublist (acc ++ r)
  | [], acc => ⟨.refl _, by rw [List.append_nil]; exact .refl _⟩
  | q :: r, acc => by
    unfold lgo
    split
    · obtain ⟨a, b⟩ := lgo_sub r (acc ++ [q])
      exact ⟨(List.sublist_append_left _ _).trans a, by rw [List.append_assoc] at b; exact b⟩
    · obtain ⟨a, b⟩ := lgo_sub r acc
      exact ⟨a, b.trans (List.Sublist.append_left (List.sublist_cons_self _ _) _)⟩
theorem leastL_sub (F : List (List Int)) : (leastL F).Sublist (srtP F) := (lgo_sub (srtP F) []).2
theorem leastL_in {F : List (List Int)} {q : List Int} (h : q ∈ leastL F) : q ∈ F := srtP_mem.mp ((leastL_sub F).subset h)
theorem leastL_ords {F : List (List Int)} (h : Ords F) : Ords (leastL F) := fun q hq => h q (leastL_in hq)
theorem lgo_mem {F : List (List Int)} (hF : Ords F) : ∀ (r pre acc : List (List Int)), pre ++ r = srtP F → (∀ q, q ∈ acc ↔ q ∈ pre ∧ Minl F q) → ∀ q, q ∈ lgo acc r ↔ Minl F q
  | [], pre, acc, e, h, q => by
    rw [List.append_nil] at e
    show q ∈ acc ↔ _
    rw [h, e, srtP_mem]
    exact ⟨fun z => z.2, fun z => ⟨z.1, z⟩⟩
  | x :: r, pre, acc, e, h, q => by
    have hx : x ∈ F := srtP_mem.mp (by rw [← e]; simp)
    have ps := srtP_srt F
    rw [← e] at ps
    have pre_lt : ∀ y ∈ pre, slt y x := fun y hy => (List.pairwise_append.mp ps).2.2 y hy x List.mem_cons_self
    have accO : Ords acc := fun y hy => hF y ((h y).mp hy).2.1
    have key : letB acc x = true ↔ Minl F x := by
      rw [letB_iff accO (hF x hx)]
      constructor
      · intro hn
        obtain ⟨m, hm, sm⟩ := minl_below hF x.length x (Nat.le_refl _) hx
        have hms : m ∈ srtP F := srtP_mem.mpr hm.1
        rw [← e] at hms
        rcases List.mem_append.mp hms with k | k
        · exact absurd sm (hn m ((h m).mpr ⟨k, hm⟩))
        · rcases List.mem_cons.mp k with rfl | k
          · exact hm
          · have lt := (List.pairwise_cons.mp (List.pairwise_append.mp ps).2.1).1 m k
            have l1 := shows_len sm
            rcases lt with lt | ⟨le, lt⟩
            · omega
            · have := shows_same (hF x hx) (hF m hm.1) sm le
              subst this
              exact absurd lt (List.lt_irrefl _)
      · intro hm y hy sy
        obtain ⟨k1, k2⟩ := (h y).mp hy
        have := hm.2 y k2.1 sy
        subst this
        exact slt_irrefl (pre_lt y k1)
    unfold lgo
    by_cases c : letB acc x = true
    · rw [if_pos c]
      refine lgo_mem hF r (pre ++ [x]) (acc ++ [x]) (by rw [List.append_assoc]; exact e) (fun y => ?_) q
      rw [List.mem_append, List.mem_append, List.mem_singleton, h]
      constructor
      · rintro (⟨a, b⟩ | rfl)
        · exact ⟨.inl a, b⟩
        · exact ⟨.inr rfl, key.mp c⟩
      · rintro ⟨a | rfl, b⟩
        · exact .inl ⟨a, b⟩
        · exact .inr rfl
    · rw [if_neg c]
      refine lgo_mem hF r (pre ++ [x]) acc (by rw [List.append_assoc]; exact e) (fun y => ?_) q
      rw [List.mem_append, List.mem_singleton, h]
      constructor
      · rintro ⟨a, b⟩
        exact ⟨.inl a, b⟩
      · rintro ⟨a | rfl, b⟩
        · exact ⟨a, b⟩
        · exact absurd (key.mpr b) c
theorem leastL_mem {F : List (List Int)} (hF : Ords F) {q : List Int} : q ∈ leastL F ↔ Minl F q := lgo_mem hF (srtP F) [] [] rfl (fun q => by simp) q
theorem leastL_let {F : List (List Int)} (hF : Ords F) {p : List Int} (ip : IsOrd p) : letB (leastL F) p = letB F p := by
  rw [Bool.eq_iff_iff, letB_iff (leastL_ords hF) ip, letB_iff hF ip]
  constructor
  · intro h q hq hs
    obtain ⟨m, hm, sm⟩ := minl_below hF q.length q (Nat.le_refl _) hq
    exact h m ((leastL_mem hF).mpr hm) (shows_trans hs sm)
  · exact fun h q hq => h q (leastL_in hq)
end Z

set_option Elab.async false
set_option linter.all false
set_option maxRecDepth 100000
set_option autoImplicit false
set_option maxHeartbeats 2000000
namespace Z
open PySem PySem.Spec PyProof.Rows L2
structure Mv (w : List Int → List Int) : Prop where
  ord : ∀ {p : List Int}, IsOrd p → IsOrd (w p)
  len : ∀ p : List Int, (w p).length = p.length
  back : ∀ {p : List Int}, IsOrd p → w (w p) = p
  sh : ∀ {p q : List Int}, IsOrd p → IsOrd q → Shows p q → Shows (w p) (w q)
variable {w : List Int → List Int}
theorem Mv.iff (h : Mv w) {p q : List Int} (ip : IsOrd p) (iq : IsOrd q) : Shows (w p) (w q) ↔ Shows p q := by
  constructor
  · intro s
    have := h.sh (h.ord ip) (h.ord iq) s
    rwa [h.back ip, h.back iq] at this
  · exact h.sh ip iq
theorem Mv.ords (h : Mv w) {F : List (List Int)} (hF : Ords F) : Ords (F.map w) := fun q hq => by
  obtain ⟨p, hp, rfl⟩ := List.mem_map.mp hq
  exact h.ord (hF p hp)
theorem Mv.let (h : Mv w) {F : List (List Int)} (hF : Ords F) {p : List Int} (ip : IsOrd p) : letB (leastL (F.map w)) (w p) = letB F p := by
  rw [leastL_let (h.ords hF) (h.ord ip), Bool.eq_iff_iff, letB_iff (h.ords hF) (h.ord ip), letB_iff hF ip]
  constructor
  · intro a q hq hs
    exact a (w q) (List.mem_map.mpr ⟨q, hq, rfl⟩) ((h.iff ip (hF q hq)).mpr hs)
  · intro a q hq hs
    obtain ⟨r, hr, rfl⟩ := List.mem_map.mp hq
    exact a r hr ((h.iff ip (hF r hr)).mp hs)
end Z

set_option Elab.async false
set_option linter.all false
set_option maxRecDepth 100000
set_option autoImplicit false
set_option maxHeartbeats 2000000
namespace Z
open PySem PySem.Spec PyProof.Rows L2
structure AllOk (n : Nat) (L : List (List Int)) : Prop where
  asc : L.Pairwise (· < ·)
  mem : ∀ t, t ∈ L ↔ IsOrd t ∧ t.length = n
end Z

set_option Elab.async false
set_option linter.all false
set_option maxRecDepth 100000
set_option autoImplicit false
set_option maxHeartbeats 2000000
namespace Z
open PySem PySem.Spec PyProof.Rows L2
end Z

set_option Elab.async false
set_option linter.all false
set_option maxRecDepth 100000
set_option autoImplicit false
set_option maxHeartbeats 2000000
namespace Z
open PySem PySem.Spec PyProof.Rows L2
end Z

set_option Elab.async false
set_option linter.all false
set_option maxRecDepth 100000
set_option autoImplicit false
set_option maxHeartbeats 2000000
namespace Z
open PySem PySem.Spec PyProof.Rows L2
section
variable {X : Cx}
end
end Z

set_option Elab.async false
set_option linter.all false
set_option maxRecDepth 100000
set_option autoImplicit false
set_option maxHeartbeats 2000000
namespace Z
open PySem PySem.Spec PyProof.Rows L2
section
variable {X : Cx}
end
section
variable {X : Cx} {pins : List (Addr × Obj)} {σ : L2.St} {H G : Hp} {s : Shared}
structure PrOk (X : Cx) (H G : Hp) (s : Shared) (ps : List (List Int × D)) (its : List Value) (as : List Addr) (es : List (List Int × Addr × V)) (xs : List (List Int × Addr × Value)) : Prop where
  it : its = as.map Value.ref
  al : DkAll X.K G es ps
  dp : DkP es xs
  la : as.length = xs.length
  pr : ∀ (j : Nat) (x : List Int × Addr × Value), xs[j]? = some x → ∃ a, as[j]? = some a ∧ PairAt s.heap a (.ref x.2.1) x.2.2
  ks : ∀ x ∈ xs, IsTupleKey (intKind X.prog X.w) s.heap x.1 x.2.1
end
end Z

set_option Elab.async false
set_option linter.all false
set_option maxRecDepth 100000
set_option autoImplicit false
set_option maxHeartbeats 2000000
namespace Z
open PySem PySem.Spec PyProof.Rows L2
section
variable {X : Cx} {i j : Nat} {x y : Str} {px py pt pos pd pc pl : Pos} {kt k2 : Nat} {pt2 : Pos} {arg : Expr}
end
section
variable {X : Cx} {b b1 : Bool} {elt tg iter tg1 iter1 : Expr} {ifs ifs1 : List Expr} {scope : Scope} {pos : Pos} {t t1 : Tg} {mi mi1 : M (List D)} {mt mt1 : M Bool} {me : M D}
end
def whG (ms : List Nat) (t : M Bool) (b : M Fl) : Nat → M Fl
  | 0 => fun _ => .bad
  | n + 1 => bnd t fun c => if c = true then fun g1 => match b g1 with
      | .ok .nx g2 => whG ms t b n (fgt ms g2)
      | .ok .ct g2 => whG ms t b n (fgt ms g2)
      | .ok .bk g2 => .ok .nx (fgt ms g2)
      | o => o
    else fun g1 => .ok .nx (fgt ms g1)
def sWh (ms : List Nat) (t : M Bool) (b : M Fl) : M Fl := whG ms t b 1000000
theorem ds_while {X : Cx} {c : Expr} {body : List Stmt} {pos : Pos} {mt : M Bool} {mb : M Fl} (ms : List Nat) (hp : PassesOwn (model X.prog X.w) X.A X.env X.xe) (hc : DT X c mt) (hb : DSs X body mb) : DS X (.While c body [] pos) (sWh ms mt mb) := fun W tk =>
  ps_imp (ps_while hp (hc W tk) (hb W tk)) fun D σ H p => by
    refine ⟨fun m σ' H' => st X W (whG ms mt mb m) D σ' H', ⟨1000000, p⟩, fun m σ' H' p' => ?_⟩
    cases m with
    | zero =>
      obtain ⟨F, G, Mu, Γ, R, q⟩ := p'
      exact q.elim
    | succ n =>
      unfold whG at p'
      refine (st_bnd (ρ := rhoB) p').imp fun v H1 ⟨r, F, G, Mu, Γ, R, h1, q⟩ => ?_
      have e0 : r = v := h1
      subst e0
      cases r with
      | false =>
        rw [if_neg (by decide)]
        rw [if_neg (by decide)] at q
        exact q _ H1 G (Same.refl _) R.fgt
      | true =>
        rw [if_pos rfl]
        rw [if_pos rfl] at q
        refine ⟨fun σ2 H2 => st X W (whG ms mt mb n) D σ2 H2, fun σ2 H2 h => ⟨n, Nat.lt_succ_self n, h⟩, F, G, Mu, Γ, R, ?_⟩
        cases e2 : mb Γ with
        | bad => rw [e2] at q; exact q
        | ex c z Γ2 => rw [e2] at q; exact q
        | ok f Γ2 =>
          rw [e2] at q
          cases f with
          | nx => exact fun σ3 H3 G3 k R3 => ⟨F, G3, Mu, _, R3.fgt, q.rebase k⟩
          | ct => exact fun σ3 H3 G3 k R3 => ⟨F, G3, Mu, _, R3.fgt, q.rebase k⟩
          | rt r => exact q
          | bk => exact fun σ3 H3 G3 k R3 => q σ3 H3 G3 k R3.fgt
end Z

set_option Elab.async false
set_option linter.all false
set_option maxRecDepth 100000
set_option autoImplicit false
set_option maxHeartbeats 2000000
namespace Z
open PySem PySem.Spec PyProof.Rows L2
def rmx : List Int → List Int
  | [] => []
  | x :: l => if ∀ y ∈ l, y < x then x :: rmx l else rmx l
def rst : List Int → List Int
  | [] => []
  | x :: l => if ∀ y ∈ l, y < x then rst l else x :: rst l
theorem rmx_sub : ∀ l : List Int, (rmx l).Sublist l
  | [] => .refl _
  | x :: l => by
    unfold rmx
    split
    · exact (rmx_sub l).cons_cons x
    · exact (rmx_sub l).cons x
theorem rst_sub : ∀ l : List Int, (rst l).Sublist l
  | [] => .refl _
  | x :: l => by
    unfold rst
    split
    · exact (rst_sub l).cons x
    · exact (rst_sub l).cons_cons x
theorem rmx_len : ∀ l : List Int, (rmx l).length + (rst l).length = l.length
  | [] => rfl
  | x :: l => by
    have := rmx_len l
    unfold rmx rst
    split <;> simp only [List.length_cons] <;> omega
theorem rmx_desc : ∀ l : List Int, (rmx l).Pairwise (· > ·)
  | [] => .nil
  | x :: l => by
    unfold rmx
    split
    · rename_i h
      exact .cons (fun y hy => h y ((rmx_sub l).subset hy)) (rmx_desc l)
    · exact rmx_desc l
theorem rst_ext : ∀ (l s : List Int), l.Nodup → s.Sublist (rst l) → s ≠ [] → s.Pairwise (· < ·) → ∃ y, (s ++ [y]).Sublist l ∧ (s ++ [y]).Pairwise (· < ·)
  | [], s, _, h, hn, _ => absurd (List.sublist_nil.mp h) hn
  | x :: l, s, nd, h, hn, hp => by
    obtain ⟨n1, n2⟩ := List.nodup_cons.mp nd
    unfold rst at h
    split at h
    · obtain ⟨y, h1, h2⟩ := rst_ext l s n2 h hn hp
      exact ⟨y, h1.cons x, h2⟩
    · rename_i hx
      cases h with
      | cons _ h =>
        obtain ⟨y, h1, h2⟩ := rst_ext l s n2 h hn hp
        exact ⟨y, h1.cons x, h2⟩
      | cons_cons _ h =>
        rename_i s'
        obtain ⟨p1, p2⟩ := List.pairwise_cons.mp hp
        by_cases c : s' = []
        · subst c
          obtain ⟨y, hy⟩ := Classical.not_forall.mp hx
          obtain ⟨hy, hlt⟩ := Classical.not_imp.mp hy
          have ne : y ≠ x := fun z => n1 (z ▸ hy)
          refine ⟨y, (List.singleton_sublist.mpr hy).cons_cons x, ?_⟩
          show [x, y].Pairwise (· < ·)
          refine .cons (fun z hz => ?_) (List.pairwise_singleton _ _)
          rw [List.mem_singleton.mp hz]
          omega
        · obtain ⟨y, h1, h2⟩ := rst_ext l s' n2 h c p2
          refine ⟨y, h1.cons_cons x, .cons (fun z hz => ?_) h2⟩
          rcases List.mem_append.mp hz with a | a
          · exact p1 z a
          · rw [List.mem_singleton.mp a]
            obtain ⟨w, hw⟩ := List.exists_mem_of_ne_nil _ c
            have := p1 w hw
            have := (List.pairwise_append.mp h2).2.2 w hw y (List.mem_singleton.mpr rfl)
            omega
theorem far (f : Nat) : ∀ (r : Nat) (l : List Int), l.Nodup → r * f < l.length → (∃ s : List Int, s.Sublist l ∧ s.Pairwise (· < ·) ∧ s.length = r + 1) ∨ ∃ s : List Int, s.Sublist l ∧ s.Pairwise (· > ·) ∧ s.length = f + 1
  | 0, l, nd, h => by
    cases l with
    | nil => rw [List.length_nil] at h; omega
    | cons x l => exact .inl ⟨[x], List.singleton_sublist.mpr List.mem_cons_self, List.pairwise_singleton _ _, rfl⟩
  | r + 1, l, nd, h => by
    by_cases c : f + 1 ≤ (rmx l).length
    · exact .inr ⟨(rmx l).take (f + 1), (List.take_sublist _ _).trans (rmx_sub l), (rmx_desc l).sublist (List.take_sublist _ _), by rw [List.length_take]; omega⟩
    · have hl := rmx_len l
      rw [Nat.add_mul, Nat.one_mul] at h
      rcases far f r (rst l) (nd.sublist (rst_sub l)) (by omega) with ⟨s, h1, h2, h3⟩ | ⟨s, h1, h2, h3⟩
      · obtain ⟨y, k1, k2⟩ := rst_ext l s nd h1 (fun z => by rw [z] at h3; cases h3) h2
        exact .inl ⟨s ++ [y], k1, k2, by rw [List.length_append, h3]; rfl⟩
      · exact .inr ⟨s, h1.trans (rst_sub l), h2, h3⟩
end Z

set_option Elab.async false
set_option linter.all false
set_option maxRecDepth 100000
set_option autoImplicit false
set_option maxHeartbeats 2000000
namespace Z
open PySem PySem.Spec PyProof.Rows L2
section
variable {prog : Program} {w : World} {A : Around} {E : Value → Shared → Prop} {s : Shared}
end
end Z

set_option Elab.async false
set_option linter.all false
set_option maxRecDepth 100000
set_option autoImplicit false
set_option maxHeartbeats 1000000
namespace Z
open PySem PySem.Spec PyProof.Rows L2
section
variable {X : Cx}
end
def fitJ (a : Str) (ys : List Str) : Prop := (ys.map (·.length)).sum + ys.length * a.length ≤ 16777216
instance (a : Str) (ys : List Str) : Decidable (fitJ a ys) := by unfold fitJ; exact inferInstance
section
variable {X : Cx} {o e : Expr} {apos pos : Pos}
end
end Z

set_option Elab.async false
set_option linter.all false
set_option maxRecDepth 100000
set_option autoImplicit false
set_option maxHeartbeats 3200000
namespace Z
open PySem PySem.Spec PyProof.Rows L2
section
variable {P : Program} {w : World} {A : Around} {E : Value → Shared → Prop} {s : Shared}
end
section
variable {X : Cx} {pins : List (Addr × Obj)} {σ : St}
end
end Z

set_option Elab.async false
set_option linter.all false
set_option maxRecDepth 100000
set_option autoImplicit false
set_option maxHeartbeats 3200000
namespace Z
open PySem PySem.Spec PyProof.Rows L2
section
variable {X : Cx} {e : Expr} {p p2 pos pos2 : Pos}
end
end Z

set_option Elab.async false
set_option linter.all false
set_option maxRecDepth 100000
set_option autoImplicit false
set_option maxHeartbeats 1000000
namespace Z
open PySem PySem.Spec PyProof.Rows L2
end Z

set_option Elab.async false
set_option linter.all false
set_option maxRecDepth 100000
set_option autoImplicit false
set_option maxHeartbeats 1000000
namespace Z
open PySem PySem.Spec PyProof.Rows L2
end Z

set_option Elab.async false
set_option linter.all false
set_option maxRecDepth 100000
set_option autoImplicit false
set_option maxHeartbeats 1000000
namespace Z
open PySem PySem.Spec PyProof.Rows L2
end Z

set_option Elab.async false
set_option linter.all false
set_option maxRecDepth 100000
set_option autoImplicit false
set_option maxHeartbeats 4000000
namespace Z
open PySem PySem.Spec PyProof.Rows L2
end Z

set_option Elab.async false
set_option linter.all false
set_option maxRecDepth 100000
set_option autoImplicit false
set_option maxHeartbeats 4000000
namespace Z
open PySem PySem.Spec PyProof.Rows L2
structure QF (F : Fr) (G : Hp) (Mu : Option Addr) (p l1 l2 : Addr) : Prop where
  ne : l1 ≠ l2
  n1 : p ≠ l1
  n2 : p ≠ l2
  fp : F p = none
  f1 : F l1 = none
  f2 : F l2 = none
  gp : G p = none
  g1 : G l1 = none
  g2 : G l2 = none
  mu : ∀ l, Mu = some l → l ≠ p ∧ l ≠ l1 ∧ l ≠ l2
structure QH (F : Fr) (G : Hp) (Mu : Option Addr) (v0 : V) (p l1 l2 : Addr) (s : List Int × List Int) (σ : St) (H : Hp) : Prop where
  len : σ.length = 5
  s0 : σ[0]? = some (some v0)
  s1 : σ[1]? = some (some (.ref p))
  hp : ∃ ob : Obj, ob.dict = none ∧ H p = some (.frz ob (.tup [.ref l1, .ref l2]))
  h1 : H l1 = some (.lst (s.1.map .int))
  h2 : H l2 = some (.lst (s.2.map .int))
  mu : ∀ l, Mu = some l → H l ≠ none
  fh : Same F.f H
  gh : Same G H
end Z

set_option Elab.async false
set_option linter.all false
set_option maxRecDepth 100000
set_option autoImplicit false
set_option maxHeartbeats 4000000
namespace Z
open PySem PySem.Spec PyProof.Rows L2
end Z

set_option Elab.async false
set_option linter.all false
set_option maxRecDepth 100000
set_option autoImplicit false
set_option maxHeartbeats 4000000
namespace Z
open PySem PySem.Spec PyProof.Rows L2
end Z

set_option Elab.async false
set_option linter.all false
set_option maxRecDepth 100000
set_option autoImplicit false
set_option maxHeartbeats 1000000
namespace Z
open PySem PySem.Spec PyProof.Rows L2
structure FnA (P : Program) (w : World) (K : PySem.W.Frag) (mg : Str → Option Value) (base : Heap) (y : Str) (st : Stmt) (k : Nat) (ps : List Str) (ks : List Pk) (φ : List D → Out) : Prop where
  ex : ∃ f fd x qual, Fun K x qual st f fd ∧ mg y = some (.ref f) ∧ FnOk P w K mg base (L2.CX P w) k f fd ps (spF K mg ks φ) ∧ Binds K fd ps []
theorem FnA.mono {P : Program} {w : World} {K : PySem.W.Frag} {mg : Str → Option Value} {base : Heap} {y : Str} {st : Stmt} {j k : Nat} {ps : List Str} {ks : List Pk} {φ : List D → Out} (F : FnA P w K mg base y st j ps ks φ) (h : j ≤ k) : FnA P w K mg base y st k ps ks φ := by
  obtain ⟨f, fd, x, qual, a, b, c, d⟩ := F.ex
  exact ⟨f, fd, x, qual, a, b, c.mono h, d⟩
section
variable {P : Program} {w : World} {K : PySem.W.Frag} {mg : Str → Option Value} {base : Heap}
end
section
variable {X : Cx} {e : Expr} {es : List Expr} {p pos : Pos} {x : Str} {st : Stmt} {k : Nat} {ps : List Str} {ks : List Pk} {φ : List D → Out}
end
end Z

set_option Elab.async false
set_option linter.all false
set_option maxRecDepth 100000
set_option autoImplicit false
set_option maxHeartbeats 1000000
namespace Z
open PySem PySem.Spec PyProof.Rows L2
section
variable {X : Cx} {i j : Nat} {pt pos pd pc pl pb : Pos} {kt k2 k3 : Nat} {pt2 : Pos}
end
end Z

set_option Elab.async false
set_option linter.all false
set_option maxRecDepth 100000
set_option maxHeartbeats 2000000
namespace Zp
open PySem PySem.Spec
open Sem (wp)
end Zp
set_option Elab.async false
set_option linter.all false
set_option maxRecDepth 100000
set_option maxHeartbeats 2000000
namespace Zp
open PySem PySem.Spec
open Sem (wp)
abbrev tupO (vs : List Value) : Obj := { cls := .type "tuple", data := .seq vs.toArray }
abbrev pickV (its : List Value) (ind : List Nat) : List Value := ind.map fun i => its.getD i Value.none
section
variable {prog : Program} {w : World} {A : Around} {E : Value → Shared → Prop} {s : Shared}
end
end Zp
set_option Elab.async false
set_option linter.all false
set_option maxRecDepth 100000
set_option maxHeartbeats 2000000
namespace Zp
open PySem PySem.Spec PyProof.Rows
open Sem (wp)
section
variable {prog : Program} {w : World} {A : Around} {E : Value → Shared → Prop} {s : Shared} {r : Addr} {a b : Int} {t u v : Tok} {n : Nat}
end
end Zp
set_option Elab.async false
set_option linter.all false
set_option maxRecDepth 100000
set_option maxHeartbeats 2000000
namespace Z
open PySem PySem.Spec PyProof.Rows L2 Zp
section
variable {X : Cx} {pins : List (Addr × Obj)} {σ : St} {s : Shared} {h' : Heap} {tk : Nat} {ex : List Addr}
end
end Z
set_option Elab.async false
set_option linter.all false
set_option maxRecDepth 100000
set_option maxHeartbeats 2000000
namespace Zp
open PySem PySem.Spec PyProof.Rows
open Sem (wp)
/-- the tuples made so far -/
structure Tups (its : List Value) (lo : Addr) (h : Heap) (as : List Addr) (rows : List (List Nat)) : Prop where
  len : as.length = rows.length
  rise : as.Pairwise (· < ·)
  low : ∀ a ∈ as, lo ≤ a
  at_ : ∀ (j : Nat) (a : Addr) (r : List Nat), as[j]? = some a → rows[j]? = some r → h.get? a = some (tupO (pickV its r))
theorem Tups.there {its : List Value} {lo : Addr} {h : Heap} {as : List Addr} {rows : List (List Nat)} (g : Tups its lo h as rows) {a : Addr} (ha : a ∈ as) : a < h.objs.size := by
  obtain ⟨j, hj⟩ := List.mem_iff_getElem?.mp ha
  have hl : j < rows.length := by
    rw [← g.len]
    exact (List.getElem?_eq_some_iff.mp hj).1
  exact Heap.lt_size (g.at_ j a _ hj (List.getElem?_eq_getElem hl))
section
variable {prog : Program} {w : World} {A : Around} {E : Value → Shared → Prop} {s : Shared} {R : Result → Shared → Prop}
end
end Zp
set_option Elab.async false
set_option linter.all false
set_option maxRecDepth 100000
set_option maxHeartbeats 2000000
namespace Zp
open PySem PySem.Spec PyProof.Rows
open Sem (wp)
section
variable {prog : Program} {w : World} {A : Around} {E : Value → Shared → Prop} {s : Shared} {R : Result → Shared → Prop} {I p : Addr} {its : List Value} {n : Nat}
end
end Zp
set_option Elab.async false
set_option linter.all false
set_option maxRecDepth 100000
set_option autoImplicit false
set_option maxHeartbeats 1000000
namespace Z
open PySem PySem.Spec PyProof.Rows L2 Zp
section
variable {X : Cx} {e : Expr} {p pos p2 pos2 : Pos}
end
end Z

set_option Elab.async false
set_option linter.all false
set_option maxRecDepth 100000
set_option autoImplicit false
set_option maxHeartbeats 1000000
namespace Z
open PySem PySem.Spec PyProof.Rows L2
section
variable {X : Cx}
end
end Z

set_option Elab.async false
set_option linter.all false
set_option maxRecDepth 100000
set_option autoImplicit false
set_option maxHeartbeats 1000000
namespace Z
open PySem PySem.Spec PyProof.Rows L2
end Z

set_option Elab.async false
set_option linter.all false
set_option maxRecDepth 100000
set_option autoImplicit false
set_option maxHeartbeats 1000000
namespace Z
open PySem PySem.Spec PyProof.Rows L2
end Z

set_option Elab.async false
set_option linter.all false
set_option maxRecDepth 100000
set_option autoImplicit false
set_option maxHeartbeats 1000000
namespace Z
open PySem PySem.Spec PyProof.Rows L2
section
variable {prog : Program} {w : World} {A : Around} {E : Value → Shared → Prop} {s : Shared}
end
section
variable {X : Cx} {e st : Expr} {p2 pos : Pos} {te ts : TE}
end
end Z

set_option Elab.async false
set_option linter.all false
set_option maxRecDepth 100000
set_option autoImplicit false
set_option maxHeartbeats 1000000
namespace Z
open PySem PySem.Spec PyProof.Rows L2
structure ExC (K : PySem.W.Frag) (mg : Str → Option Value) (c : Str) (C fI : Addr) : Prop where
  gC : mg c = some (.ref C)
  T : OexC K C
  iC : PySem.W.findIn K (.ref C) "__init__" = some (some (.ref fI))
  noN : PySem.W.findIn K (.ref C) "value" = some none
def spInit (K : PySem.W.Frag) : Sp := fun vs H Q E => ∃ (a C : Addr) (v : V), vs = [.ref a, v] ∧ OexC K C ∧ PySem.W.findIn K (.ref C) "value" = some none ∧ H a = some (exo a C none) ∧
  ∀ dx, H dx = none → dx ≠ a → Q .non (upd (upd H dx (exd dx [(("value" : Str), v)])) a (exo a C (some dx)))
/-- what is said of __init__ -/
structure InitP (P : Program) (w : World) (K : PySem.W.Frag) (mg : Str → Option Value) (base : Heap) (fI : Addr) (k : Nat) : Prop where
  ex : ∃ fd, PySem.W.typeIn K (.ref fI) = some (.type "function") ∧ FnOk P w K mg base (L2.CX P w) k fI fd ["self", "value"] (spInit K) ∧ Binds K fd ["self", "value"] []
abbrev tInit (K : PySem.W.Frag) : TS := tSeq (tDrop (tVeI K (tCons (tVar 0) (tCons (tVar 1) tNil)))) (tOst K "value" (tVar 0) (tVar 1))
theorem ok_init {P : Program} {w : World} {K : PySem.W.Frag} {mg : Str → Option Value} {base : Heap} {qual : Str} {st : Stmt} {f : Addr} {fd : FuncData} (F : Fun K "__init__" qual st f fd)
    (S : FnScope ["self", "value"] ["self", "value"] (defScope st))
    (hb : ∀ (cdv : Value) (A : Around) (outer : List Env) (s : Shared) (H : Hp) (E : XK), PSs (cxOf (L2.CX P w) P w K mg base ["self", "value"] qual (defScope st) f cdv A outer s H E) (defBody st) (tInit K)) : FnOk P w K mg base (L2.CX P w) 1 f fd ["self", "value"] (spInit K) := by
  refine F.okX S (fun vs H Q E h => ?_) (fun cdv A outer s H vs Q E hr h => ⟨_, hb cdv A outer s H E, ?_⟩)
  · obtain ⟨a, C, v, rfl, _⟩ := h
    rfl
  · obtain ⟨a, C, v, rfl, T, hno, ha, q⟩ := h
    refine ⟨.ref a, rfl, v, rfl, a, C, [v], rfl, (by decide : 1 ≤ 1000), T, ha, ?_⟩
    refine ⟨v, rfl, .ref a, rfl, a, C, rfl, T, hno, .inl ⟨ha, fun dx hd hne => q dx hd hne⟩⟩
def sRaise (c : Str) (m : M D) : M Fl := bnd m fun x => fun g => .ex c x g
section
variable {X : Cx} {c : Str} {C fI : Addr} {k : Nat} {arg : Expr} {m : M D} {p pos pos2 : Pos}
theorem ds_raise (hc : X.calm = true) (E : ExC X.K X.mg c C fI) (Ip : InitP X.prog X.w X.K X.mg X.base fI k) (hr : Room (k + 1) X.A) (hg : Gl X c) (h : DP X arg m) (hdb : (c == ("__debug__" : Str)) = false := by decide)
    (he : starEach (arg :: []) X.env = (false, eval arg X.env) :: starEach [] X.env := by rfl) (hpl : (backTo pos (starEach [] X.env)).any (·.1) = false := by rfl) :
    DS X (.Raise (some (.Call (.Name c p) [arg] [] pos)) none pos2) (sRaise c m) := fun W tk => by
  obtain ⟨fd, tI, ok, hb⟩ := Ip.ex
  refine ps_imp (ps_raise hc tk (pmk_oex E.T E.iC tI ok hr hb .nil passL hg E.gC (pa_cons (h W tk) pa_nil he) hdb he hpl)) fun D σ H q => ?_
  refine (st_bnd (ρ := rhoD) q).imp fun v H1 ⟨x, F, G, Mu, Γ, R, h1, sp⟩ => ⟨(by decide : 1 ≤ 1000), fun a ha => ⟨a, C, v, rfl, E.T, E.noN, upd_same, fun dx hd hne => ?_⟩⟩
  rw [upd_ne hne] at hd
  refine ⟨rfl, dx, [(("value" : Str), v)], upd_same, by rw [upd_ne hne, upd_same], hd, ?_⟩
  have e : upd (L2.del (upd (upd (upd H1 a (exo a C none)) dx (exd dx [(("value" : Str), v)])) a (exo a C (some dx))) a) dx (.xd [(("value" : Str), v)]) = upd H1 dx (.xd [(("value" : Str), v)]) := by
    funext b
    by_cases hb : b = dx
    · rw [hb, upd_same, upd_same]
    · rw [upd_ne hb, upd_ne hb]
      by_cases hba : b = a
      · rw [hba, L2.del_same, ha]
      · rw [L2.del_ne hba, upd_ne hba, upd_ne hb, upd_ne hba]
  rw [e]
  exact sp C dx v σ _ G E.gC (Same.refl G) (R.newX hd) upd_same h1
end
end Z

set_option Elab.async false
set_option linter.all false
set_option maxRecDepth 100000
set_option autoImplicit false
set_option maxHeartbeats 2000000
namespace Z
open PySem PySem.Spec PyProof.Rows L2
abbrev Suite : Type := Addr → Value → Option Addr → TS
/-- behind a suite the name is gone -/
def gone (i : Nat) (D : Ends) : Ends :=
  { nx := fun σ H => D.nx (σ.set i none) H, rt := D.rt, bk := fun σ H => D.bk (σ.set i none) H, ct := fun σ H => D.ct (σ.set i none) H }
def wAsM (K : PySem.W.Frag) (i : Nat) (Wo : WX) (D : Ends) : List (Value × Suite) → WX
  | [] => Wo
  | (c, ts) :: r => fun cls d σ H => ∃ b, PySem.W.exmOne K cls c = some b ∧ (b = true → ∀ a, H a = none → ts a cls d (gone i D) (σ.set i (some (.ref a))) H) ∧ (b = false → wAsM K i Wo D r cls d σ H)
inductive HdA (X : Cx) (n : Str) : List ExceptHandler → List (Value × Suite) → Prop
  | nil : HdA X n [] []
  | cons {x : Str} {c : Value} {ts : Suite} {b0 : Stmt} {bs : List Stmt} {p1 p2 : Pos} {hs : List ExceptHandler} {l : List (Value × Suite)} (nm : Names X x c)
      (su : ∀ (a : Addr) (oe : Obj) (cls : Value) (d : Option Addr) (pn : List (Addr × Obj)), Zc cls d oe → (∃ vs, oe.data = .fields vs) → PSs (X.suite a ((a, oe) :: pn)) (b0 :: bs) (ts a cls d)) (more : HdA X n hs l) :
      HdA X n (.ExceptHandler (some (.Name x p1)) (some n) (b0 :: bs) p2 :: hs) ((c, ts) :: l)
section
variable {X : Cx} {n : Str} {i : Nat} {body : List Stmt} {h0 : ExceptHandler} {hs : List ExceptHandler} {l : List (Value × Suite)} {pos : Pos} {tb : WX → TS} {Wo : WX}
/-- an end of a suite, the name gone, is an end of the try -/
theorem suite_end {pins : List (Addr × Obj)} {a : Addr} {oe : Obj} {D : Ends} {f : Flow} {s : Shared} {p : Pos} (ok : X.Ok) (hN : X.N.Nodup) (hi : X.N[i]? = some n) (hn : X.env.kindOf n = some .local)
    (q : SP (X.suite a ((a, oe) :: (X.pn ++ pins))) [] (gone i D) f s) :
    wpAny (model X.prog X.w) X.A (do bindName X.env n .none; unbindBehindTheSuite X.env n p) (fun _ s' => SP X pins D f s') X.xe s := by
  cases f
  case ret u =>
    obtain ⟨v, σ1, H1, J, r, w⟩ := q
    exact gone_ok (J.unsuite ok) hN hi hn fun _ J' => ⟨v, _, _, J', r, w⟩
  all_goals
    obtain ⟨σ1, H1, J, w⟩ := q
    exact gone_ok (J.unsuite ok) hN hi hn fun _ J' => ⟨_, _, J', w⟩
theorem ps_try_asM (hs' : X.stack = X.env :: X.outer) (hf : X.env.frame = some X.env.locals) (hN : X.N.Nodup) (hi : X.N[i]? = some n) (hn : X.env.kindOf n = some .local) (tk : Takes X Wo)
    (hb : ∀ (W : WX) (pn : List (Addr × Obj)) (xe : Value → Shared → Prop), Takes (X.tr pn xe) W → PassesOwn (model X.prog X.w) X.A X.env xe → PSs (X.tr pn xe) body (tb W))
    (hh : HdA X n (h0 :: hs) l) : PS X (.Try body (h0 :: hs) [] [] pos) (fun D σ H => tb (wAsM X.K i Wo D l) D σ H) := by
  refine ⟨fun pins s σ H D I h => wpAny_Try_except (wpAny_mono ((hb (wAsM X.K i Wo D l) (X.pn ++ pins) _ (fun u z xx => ?_) PassesOwn.looking).run [] s σ H D (I.toTry _) h) (fun f z q => ?_) (fun _ _ q => q))⟩
  case refine_2 =>
    have ok := I.ok
    cases f
    case next => exact wpAny_execs_nil (by obtain ⟨σ1, H1, J, w⟩ := q; exact ⟨σ1, H1, J.ofTry ok, w⟩)
    case ret u => exact (by obtain ⟨v, σ1, H1, J, r, w⟩ := q; exact ⟨v, σ1, H1, J.ofTry ok, r, w⟩)
    all_goals exact (by obtain ⟨σ1, H1, J, w⟩ := q; exact ⟨σ1, H1, J.ofTry ok, w⟩)
  obtain ⟨a, B, sI, p', σ1, H1, cls, d, rfl, J', nb, up, sky, na, os, ag, w⟩ := xx
  have ok := I.ok
  have J := J'.ofTry ok
  have fr : X.A.frames = some (X.env :: X.outer) := ok.frames.trans (congrArg some hs')
  refine Sky.land Zc.steady fr hf (hs' ▸ sky) fun h1 fl up1 => ?_
  have J1 : L2.Inv X pins σ1 H1 { z with heap := h1 } := J.landed nb fl.1 (up.trans up1) os ag
  obtain ⟨oe, vs, g1, g2, g3⟩ := fl.there
  have far : a ∉ frs (X.env :: X.outer) := fun hm => by
    obtain ⟨_, o, g4, g5⟩ := fl.2.2.1.mem hm
    exact g5 _ ((Option.some.inj (g1.symm.trans g4)) ▸ g3)
  have nL : a ≠ X.env.locals := fun e => far (List.mem_filterMap.mpr ⟨X.env, List.mem_cons_self, hf.trans (congrArg some e.symm)⟩)
  have nF : a ∉ X.fs := fun hm => by
    obtain ⟨e, he, q⟩ := List.mem_filterMap.mp hm
    exact far (List.mem_filterMap.mpr ⟨e, List.mem_cons_of_mem _ he, q⟩)
  have S1 := J1.suite g1 g3 na nL nF
  suffices go : ∀ {cl : List ExceptHandler} {m : List (Value × Suite)}, HdA X n cl m → wAsM X.K i Wo D m cls d σ1 H1 → wpAny (model X.prog X.w) X.A (handleBy (.ref a) X.env cl) (SP X pins D) X.xe { z with heap := h1 } from go hh w
  intro cl m hk
  induction hk with
  | nil =>
    intro w
    have out : wpAny (model X.prog X.w) X.A (setFlight (.ref a) X.env.frame) (fun _ t => wpAny (model X.prog X.w) X.A (throw (.ref a) : Sem Flow) (SP X pins D) X.xe t) X.xe { z with heap := h1 } :=
      hf ▸ HandSPX.setFlight_upZ fl fun h2 held up2 => wpAny_throw (tk _ _ ⟨a, B, sI, pins, σ1, H1, cls, d, rfl, J, nb, (up.trans up1).trans up2, .inr (.inr (hs' ▸ held)), na, os, ag, w⟩)
    obtain ⟨_, _, _, o, us, t0, _, _, c1, _, c2, c3, _⟩ := id fl
    refine wpAny_handleBy_nil ?_
    unfold PySem.passOn
    refine wpAny_bind (wpAny_field c1 c2 c3 ?_)
    rw [if_neg (by simp : ¬ (Value.ref t0 == Value.none) = true)]
    first
      | exact wpAny_bind out
      | exact wpAny_bind (wpAny_pure (wpAny_bind out))
  | @cons x c ts b0 bs p1 p2 cl m nm su more ih =>
    rintro ⟨b, hb1, yes, no⟩
    have looks : PySem.W.Looks (model X.prog X.w) h1 (typeOf (.ref a)) cls := fun _ _ _ _ k q => wpAny_typeOf_ref (k _ _ g1) (g2.1.symm ▸ q)
    refine wpAny_handleBy_cons (codeAny_handlers_test ?_) (fun q => nomatch q)
    have named : ∀ {Q E : Value → Shared → Prop}, Q c { z with heap := h1 } → wpAny (model X.prog X.w) (X.A.mark (some (.ref a))) (eval (.Name x p1) X.env) Q E { z with heap := h1 } := fun {Q E} q => by
      rcases nm with ⟨k1, k2, k3 | ⟨k3, k4, k5⟩⟩
      · exact ld_glob (X := X.suite a ((a, oe) :: (X.pn ++ pins))) S1 k1 k3 q k2
      · exact ld_blt (X := X.suite a ((a, oe) :: (X.pn ++ pins))) S1 k1 k3 k4 q k5 k2
    refine named ((PySem.W.exm_one J1.kIn looks hb1).here ?_)
    cases b
    case false => exact ih (no rfl)
    case true =>
      refine codeAny_handlers_suite_as (HandSPX.lands_againZ fl fun h2 fl2 up2 => ?_)
      have J2 : L2.Inv X pins σ1 H1 { z with heap := h2 } := J.landed nb fl2.1 ((up.trans up1).trans up2) os ag
      obtain ⟨oe2, vs2, r1, r2, r3⟩ := fl2.there
      refine store_ok (X := X.suite a ((a, oe2) :: (X.pn ++ pins))) (v := .ref a) (J2.suite r1 r3 na nL nF) hN hi (.inl hn) rfl (fun s3 S3 => ?_) (.inr hn)
      exact wpAny_mono ((su a oe2 cls d (X.pn ++ pins) r2 ⟨_, r3⟩).run [] s3 _ H1 _ S3 (yes rfl a na)) (fun f s4 q => suite_end ok hN hi hn q) (fun _ _ q => q.elim)
end
end Z

set_option Elab.async false
set_option linter.all false
set_option maxRecDepth 100000
set_option autoImplicit false
set_option maxHeartbeats 2000000
namespace Z
open PySem PySem.Spec PyProof.Rows L2
abbrev wNo : WX := fun _ _ _ _ => False
/-- the caught exception's value is x -/
def Kn (K : PySem.W.Frag) (i : Nat) (a : Addr) (cls : Value) (d : Option Addr) (x : D) (G : Hp) (σ : St) (H : Hp) : Prop :=
  ∃ (C dd : Addr) (v : V), cls = .ref C ∧ XfC K C ∧ PySem.W.findIn K (.ref C) "value" = some none ∧ d = some dd ∧ H dd = some (.xd [(("value" : Str), v)]) ∧ Dq K G v x ∧ σ[i]? = some (some (.ref a))
def rdx {α β : Type} (X : Cx) (i : Nat) (a : Addr) (cls : Value) (d : Option Addr) (ρ : Rho α β) (m : D → M α) : St → Hp → (β → Hp → Prop) → Prop := fun σ H Q =>
  ∃ x F G Mu Γ, Rel X.K F G Mu Γ σ H ∧ Kn X.K i a cls d x G σ H ∧ zpost X wNo σ ρ F G Mu Q (m x Γ)
def stx (X : Cx) (i : Nat) (h : D → M Fl) : Suite := fun a cls d D σ H =>
  ∃ x F G Mu Γ, Rel X.K F G Mu Γ σ H ∧ Kn X.K i a cls d x G σ H ∧ spost X wNo F G Mu D (h x Γ)
/-- an expression, a statement of a suite; the name is slot i -/
def PX (X : Cx) (i : Nat) (e : Expr) (m : D → M D) : Prop := ∀ (a : Addr) (oe : Obj) (cls : Value) (d : Option Addr) (pn : List (Addr × Obj)), Zc cls d oe → (∃ vs, oe.data = .fields vs) → PE (X.suite a ((a, oe) :: pn)) e (rdx X i a cls d rhoD m)
def PXs (X : Cx) (i : Nat) (es : List Expr) (m : D → M (List D)) : Prop := ∀ (a : Addr) (oe : Obj) (cls : Value) (d : Option Addr) (pn : List (Addr × Obj)), Zc cls d oe → (∃ vs, oe.data = .fields vs) → PA (X.suite a ((a, oe) :: pn)) es (rdx X i a cls d rhoDs m)
def SX (X : Cx) (i : Nat) (s : Stmt) (h : D → M Fl) : Prop := ∀ (a : Addr) (oe : Obj) (cls : Value) (d : Option Addr) (pn : List (Addr × Obj)), Zc cls d oe → (∃ vs, oe.data = .fields vs) → PS (X.suite a ((a, oe) :: pn)) s (stx X i h a cls d)
def SXs (X : Cx) (i : Nat) (ss : List Stmt) (h : D → M Fl) : Prop := ∀ (a : Addr) (oe : Obj) (cls : Value) (d : Option Addr) (pn : List (Addr × Obj)), Zc cls d oe → (∃ vs, oe.data = .fields vs) → PSs (X.suite a ((a, oe) :: pn)) ss (stx X i h a cls d)
section
variable {X : Cx} {i : Nat} {e : Expr} {es : List Expr} {pos p : Pos} {n : Str}
theorem px_val (hN : X.N[i]? = some n) (hv : Vis X.env.scope n) (hd : (n == ("__debug__" : Str)) = false := by decide) (hcd : (n == ("__classdict__" : Str)) = false := by decide)
    (hb : attributeBase (.Name n p) "value" X.env (eval (.Name n p) X.env) = eval (.Name n p) X.env := by rfl) : PX X i (.Attribute (.Name n p) "value" pos) (fun x => rt x) := fun a oe cls d pn hz hf => by
  refine ⟨fun pins s σ H Q I h => ?_⟩
  obtain ⟨x, F, G, Mu, Γ, R, ⟨C, dd, v, ec, T, hno, ed, hH, dq, hσ⟩, q⟩ := h
  exact (pe_xf (X := X) T hno hz hf (pe_var (X := X.suite a ((a, oe) :: pn)) hN hv hd hcd) hb).run pins s σ H Q I ⟨.ref a, hσ, rfl, ec, dd, _, v, ed, hH, by simp, q v H G (Same.refl _) R dq⟩
theorem rdx_bnd {α β γ : Type} {ρ : Rho α β} {δ : Type} {ρ' : Rho γ δ} {a : Addr} {cls : Value} {d : Option Addr} {σ : St} {H : Hp} {Q : δ → Hp → Prop} {m : D → M α} {f : α → M γ} (p : rdx X i a cls d ρ' (fun x => bnd (m x) f) σ H Q) :
    rdx X i a cls d ρ m σ H fun v H1 => ∃ r F G Mu Γ, Rel X.K F G Mu Γ σ H1 ∧ ρ X.K F G Mu Γ σ H1 r v ∧ zpost X wNo σ ρ' F G Mu Q (f r Γ) := by
  obtain ⟨x, F, G, Mu, Γ, R, kn, q⟩ := p
  refine ⟨x, F, G, Mu, Γ, R, kn, ?_⟩
  replace q : zpost X wNo σ ρ' F G Mu Q (bnd (m x) f Γ) := q
  unfold bnd at q
  cases e : m x Γ with
  | bad => rw [e] at q; exact q
  | ok r Γ1 =>
    rw [e] at q
    replace q : zpost X wNo σ ρ' F G Mu Q (f r Γ1) := q
    refine fun v H1 G1 h1 R1 h2 => ⟨r, F, G1, Mu, Γ1, R1, h2, ?_⟩
    cases e2 : f r Γ1 with
    | bad => rw [e2] at q; exact q
    | ok r2 Γ2 => rw [e2] at q; exact fun v H' G2 h3 => q v H' G2 (h1.trans h3)
    | ex c y Γ2 => rw [e2] at q; exact fun C a v H' G2 e3 h3 => q C a v H' G2 e3 (h1.trans h3)
  | ex c y Γ1 =>
    rw [e] at q
    exact fun C a v H' G' => q C a v H' G'
theorem rdx.imp {α β : Type} {ρ : Rho α β} {a : Addr} {cls : Value} {d : Option Addr} {σ : St} {H : Hp} {Q Q' : β → Hp → Prop} {m : D → M α} (p : rdx X i a cls d ρ m σ H Q) (h : ∀ v H1, Q v H1 → Q' v H1) : rdx X i a cls d ρ m σ H Q' := by
  obtain ⟨x, F, G, Mu, Γ, R, kn, q⟩ := p
  refine ⟨x, F, G, Mu, Γ, R, kn, ?_⟩
  cases e : m x Γ with
  | bad => rw [e] at q; exact q
  | ok r Γ1 => rw [e] at q; exact fun v H1 G1 h1 R1 h2 => h _ _ (q v H1 G1 h1 R1 h2)
  | ex c y Γ1 => rw [e] at q; exact q
theorem pxs_one {m : D → M D} (h : PX X i e m) (he : starEach (e :: []) X.env = (false, eval e X.env) :: starEach [] X.env := by rfl) : PXs X i [e] (fun x => bnd (m x) fun r => rt [r]) := fun a oe cls d pn hz hf =>
  pa_imp (pa_cons (X := X.suite a ((a, oe) :: pn)) (h a oe cls d pn hz hf) pa_nil he) fun σ H Q p =>
    (rdx_bnd (ρ := rhoD) p).imp fun v H1 ⟨r, F, G, Mu, Γ, R, h1, q⟩ => q [v] H1 G (Same.refl _) R (.cons h1 .nil)
theorem pxs_con {m : D → M (List D)} {v : V} {c : D} (hc : ∀ (a : Addr) (oe : Obj) (pn : List (Addr × Obj)), PE (X.suite a ((a, oe) :: pn)) e (tC v)) (hd : ∀ G, Dq X.K G v c) (h : PXs X i es m)
    (he : starEach (e :: es) X.env = (false, eval e X.env) :: starEach es X.env := by rfl) : PXs X i (e :: es) (fun x => bnd (m x) fun r => rt (c :: r)) := fun a oe cls d pn hz hf =>
  pa_imp (pa_cons (X := X.suite a ((a, oe) :: pn)) (hc a oe pn) (h a oe cls d pn hz hf) he) fun σ H Q p =>
    (rdx_bnd (ρ := rhoDs) p).imp fun vs H1 ⟨r, F, G, Mu, Γ, R, h1, q⟩ => q (v :: vs) H1 G (Same.refl _) R (.cons (hd G) h1)
theorem pxs_str {z : Str} {j p2} {m : D → M (List D)} (h : PXs X i es m) (he : starEach (.Constant (.str z) j p2 :: es) X.env = (false, eval (.Constant (.str z) j p2) X.env) :: starEach es X.env := by rfl) : PXs X i (.Constant (.str z) j p2 :: es) (fun x => bnd (m x) fun r => rt (.str z :: r)) :=
  pxs_con (fun _ _ _ => pe_str) (fun _ => .str z) h he
theorem px_tup {k} {m : D → M (List D)} (h : PXs X i es m) : PX X i (.Tuple es k pos) (fun x => dTup (m x)) := fun a oe cls d pn hz hf =>
  pe_imp (pe_tupZ (h a oe cls d pn hz hf)) fun σ H Q p => (rdx_bnd (ρ := rhoDs) p).imp fun vs H1 ⟨xs, F, G, Mu, Γ, R, h1, q⟩ => by
    have n1 := dpa_length h1
    split at q
    · rename_i hz
      refine ⟨by omega, fun p o n ho => ?_⟩
      have E := Ext.new (o := .frz o (.tup vs)) R.gh n
      exact q _ _ _ E.g (R.ext E) (show rhoD _ _ _ _ _ _ _ (.tuple xs) _ from .tup (.new ho) (dpAll_mono E.g _ _ h1))
    · exact q.elim
theorem stx_bnd {α β : Type} {ρ : Rho α β} {a : Addr} {cls : Value} {d : Option Addr} {σ : St} {H : Hp} {D : Ends} {m : Z.D → M α} {f : α → M Fl} (p : stx X i (fun x => bnd (m x) f) a cls d D σ H) :
    rdx X i a cls d ρ m σ H fun v H1 => ∃ r F G Mu Γ, Rel X.K F G Mu Γ σ H1 ∧ ρ X.K F G Mu Γ σ H1 r v ∧ spost X wNo F G Mu D (f r Γ) := by
  obtain ⟨x, F, G, Mu, Γ, R, kn, q⟩ := p
  refine ⟨x, F, G, Mu, Γ, R, kn, ?_⟩
  replace q : spost X wNo F G Mu D (bnd (m x) f Γ) := q
  unfold bnd at q
  cases e : m x Γ with
  | bad => rw [e] at q; exact q
  | ok r Γ1 =>
    rw [e] at q
    exact fun v H1 G1 h1 R1 h2 => ⟨r, F, G1, Mu, Γ1, R1, h2, q.rebase h1⟩
  | ex c y Γ1 =>
    rw [e] at q
    exact fun C a v H' G' => q C a v σ H' G'
variable {s : Stmt} {ss : List Stmt}
theorem sx_set {j : Nat} {x : Str} {pos' : Pos} {m : D → M D} (hN : X.N.Nodup) (hi : X.N[j]? = some x) (hx : Loc X.env.scope x) (h : PX X i e m) (hs : swapsWith e (some (.Name x pos')) pos.line X.env = pure false := by rfl)
    (hf : X.fn x = true ∨ X.env.scope.names.lookup x = some .local := by first | exact .inl rfl | exact .inr rfl | assumption) : SX X i (.Assign [.Name x pos'] e pos) (fun y => sSet j (m y)) := fun a oe cls d pn hz hf2 =>
  ps_imp (ps_set (X := X.suite a ((a, oe) :: pn)) hN hi hx (h a oe cls d pn hz hf2) hs hf) fun D σ H p => (stx_bnd (ρ := rhoD) p).imp fun v H1 ⟨r, F, G, Mu, Γ, R, h1, q⟩ =>
    q _ H1 G (Same.refl _) (R.store (sv := .d r) ⟨v, rfl, h1⟩ fun z => nomatch z)
theorem sxs_one {h : D → M Fl} (hs : SX X i s h) : SXs X i [s] h := fun a oe cls d pn hz hf => pss_one (hs a oe cls d pn hz hf)
/-- behind a suite -/
def exFin (i : Nat) : Ro Fl → Ro Fl
  | .ok .nx g => .ok .nx (g.set i .u)
  | .ok .bk g => .ok .bk (g.set i .u)
  | .ok .ct g => .ok .ct (g.set i .u)
  | .ok (.rt r) g => .ok (.rt r) g
  | _ => .bad
def exHdl (i : Nat) (c : Str) (x : D) (g : En) : List ((Str → Option Bool) × (D → M Fl)) → Ro Fl
  | [] => .bad
  | (t, h) :: r => match t c with
    | some true => if i < g.length then exFin i (h x (g.set i .u)) else .bad
    | some false => exHdl i c x g r
    | none => .bad
def sTryM (i : Nat) (b : M Fl) (l : List ((Str → Option Bool) × (D → M Fl))) : M Fl := fun g => match b g with
  | .ok f g' => .ok f g'
  | .ex c x g' => exHdl i c x g' l
  | .bad => .bad
/-- what is said of a clause's class: of each class that is told -/
def ExT (X : Cx) (t : Str → Option Bool) (v : Value) : Prop := ∀ (c : Str) (C : Addr) (b : Bool), X.mg c = some (.ref C) → t c = some b → PySem.W.exmOne X.K (.ref C) v = some b ∧ (b = true → XfC X.K C ∧ PySem.W.findIn X.K (.ref C) "value" = some none)
inductive HdM (X : Cx) (n : Str) (i : Nat) : List ExceptHandler → List ((Str → Option Bool) × (D → M Fl)) → List (Value × Suite) → Prop
  | nil : HdM X n i [] [] []
  | cons {x : Str} {v : Value} {t : Str → Option Bool} {h : D → M Fl} {b0 : Stmt} {bs : List Stmt} {p1 p2 : Pos} {hs : List ExceptHandler} {l : List ((Str → Option Bool) × (D → M Fl))} {k : List (Value × Suite)} (nm : Names X x v) (et : ExT X t v)
      (su : SXs X i (b0 :: bs) h) (more : HdM X n i hs l k) : HdM X n i (.ExceptHandler (some (.Name x p1)) (some n) (b0 :: bs) p2 :: hs) ((t, h) :: l) ((v, stx X i h) :: k)
theorem HdM.hdA {hs : List ExceptHandler} {l : List ((Str → Option Bool) × (D → M Fl))} {k : List (Value × Suite)} (h : HdM X n i hs l k) : HdA X n hs k := by
  induction h with
  | nil => exact .nil
  | cons nm et su more ih => exact .cons nm (fun a oe cls d pn hz hf => su a oe cls d pn hz hf) ih
theorem ds_try {body : List Stmt} {h0 : ExceptHandler} {hs : List ExceptHandler} {l : List ((Str → Option Bool) × (D → M Fl))} {k : List (Value × Suite)} {m : M Fl} (hs' : X.stack = X.env :: X.outer) (hf : X.env.frame = some X.env.locals) (hN : X.N.Nodup) (hi : X.N[i]? = some n)
    (hn : X.env.kindOf n = some .local) (hb : ∀ (pn : List (Addr × Obj)) (xe : Value → Shared → Prop), PassesOwn (model X.prog X.w) X.A X.env xe → DSs (X.tr pn xe) body m) (hh : HdM X n i (h0 :: hs) l k) :
    DS X (.Try body (h0 :: hs) [] [] pos) (sTryM i m l) := fun Wo tk => by
  refine ps_imp (ps_try_asM (X := X) (tb := fun W => st X W m) (Wo := Wo) (l := k) hs' hf hN hi hn tk (fun W pn xe tk2 po => hb pn xe po W tk2) hh.hdA) fun D σ H ⟨F, G, Mu, Γ, R, p⟩ => ⟨F, G, Mu, Γ, R, ?_⟩
  unfold sTryM at p
  cases e : m Γ with
  | bad => rw [e] at p; exact p.elim
  | ok r Γ' =>
    rw [e] at p
    cases r <;> exact p
  | ex c x Γ' =>
    rw [e] at p
    intro C dd v σ' H' G' hC e1 R1 hd dq
    replace p : spost X Wo F G Mu D (exHdl i c x Γ' l) := p
    suffices go : ∀ {cl : List ExceptHandler} {l : List ((Str → Option Bool) × (Z.D → M Fl))} {k : List (Value × Suite)}, HdM X n i cl l k → spost X Wo F G Mu D (exHdl i c x Γ' l) → wAsM X.K i Wo D k (.ref C) (some dd) σ' H' from go hh p
    intro cl l k hk
    induction hk with
    | nil => intro p; exact p.elim
    | @cons xx v2 t h b0 bs p1 p2 hs l k nm et su more ih =>
      intro p
      unfold exHdl at p
      cases et1 : t c with
      | none => rw [et1] at p; exact p.elim
      | some b =>
        rw [et1] at p
        obtain ⟨h1, h2⟩ := et c C b hC et1
        refine ⟨b, h1, fun hb a ha => ?_, fun hb => ?_⟩
        · subst hb
          replace p : spost X Wo F G Mu D (if i < Γ'.length then exFin i (h x (Γ'.set i .u)) else .bad) := p
          split at p
          · rename_i hlt
            obtain ⟨T, hno⟩ := h2 rfl
            have hl : i < σ'.length := by rw [← R1.len]; exact hlt
            refine ⟨x, F, G', Mu, Γ'.set i .u, R1.forget i, ⟨C, dd, v, rfl, T, hno, rfl, hd, dq, List.getElem?_set_self hl⟩, ?_⟩
            have p := p.rebase e1
            cases e3 : h x (Γ'.set i .u) with
            | bad => rw [e3] at p; exact p.elim
            | ex c2 y2 Γ2 => rw [e3] at p; exact p.elim
            | ok r Γ2 =>
              rw [e3] at p
              cases r with
              | nx => exact fun σ2 H2 G2 h3 R2 => p _ H2 G2 h3 (R2.forget i)
              | bk => exact fun σ2 H2 G2 h3 R2 => p _ H2 G2 h3 (R2.forget i)
              | ct => exact fun σ2 H2 G2 h3 R2 => p _ H2 G2 h3 (R2.forget i)
              | rt r => exact p
          · exact p.elim
        · subst hb
          exact ih p
end
end Z

set_option Elab.async false
set_option linter.all false
set_option maxRecDepth 100000
set_option autoImplicit false
set_option maxHeartbeats 2000000
namespace Z
open PySem PySem.Spec PyProof.Rows L2
def clsInit (s : Stmt) : Stmt := match s with
  | .ClassDef _ _ _ (s :: _) _ _ _ _ _ _ _ => s
  | _ => .Pass ⟨0, 0, 0, 0⟩
theorem own_exm {K : PySem.W.Frag} {S : Addr} (h1 : PySem.W.subIn K (.ref S) (.type "BaseException") = some true) (h2 : PySem.W.isClsIn K S = true) (h3 : PySem.W.typeIn K (.ref S) = some (.type "type")) (h4 : PySem.W.subIn K (.ref S) (.ref S) = some true) :
    PySem.W.exmOne K (.ref S) (.ref S) = some true := by
  have e2 : ((PySem.W.clsIn K S).isSome && PySem.W.typeIn K (.ref S) == some (.type "type")) = true := by
    rw [show (PySem.W.clsIn K S).isSome = true from h2, h3] <;> rfl
  show (if (PySem.W.subIn K (.ref S) (.type "BaseException") == some true) = true then (if ((PySem.W.clsIn K S).isSome && PySem.W.typeIn K (.ref S) == some (.type "type")) = true then PySem.W.subIn K (.ref S) (.ref S) else none) else none) = some true
  rw [if_pos (by rw [h1] <;> rfl), if_pos e2]
  exact h4
/-- what is said of an error's class -/
structure ExX (K : PySem.W.Frag) (mg : Str → Option Value) (c : Str) (st : Stmt) : Prop where
  ex : ∃ C fI fd qual, ExC K mg c C fI ∧ XfC K C ∧ PySem.W.exmOne K (.ref C) (.ref C) = some true ∧ PySem.W.typeIn K (.ref fI) = some (.type "function") ∧ Fun K "__init__" qual st fI fd
  vV : PySem.W.findCls K (.type "ValueError") (.type "type") "__init__" = some (.val (.builtin "ValueError.__init__"))
def exOne (c0 : Str) : Str → Option Bool := fun c => if c = c0 then some true else none
theorem ext_one {X : Cx} {c0 : Str} {C fI : Addr} (E : ExC X.K X.mg c0 C fI) (T : XfC X.K C) (hx : PySem.W.exmOne X.K (.ref C) (.ref C) = some true) : ExT X (exOne c0) (.ref C) := fun c C' b h1 h2 => by
  unfold exOne at h2
  split at h2
  · rename_i e
    subst e
    cases h2
    have e2 : C' = C := by
      have := h1.symm.trans E.gC
      cases this
      rfl
    subst e2
    exact ⟨hx, fun _ => ⟨T, E.noN⟩⟩
  · cases h2
def exNone : Str → Option Bool := fun _ => none
theorem ext_none {X : Cx} {v : Value} : ExT X exNone v := fun c C b _ h => nomatch h
theorem excMk {K : PySem.W.Frag} {h : Heap} {mg : Str → Option Value} {c : Str} {st : Stmt} {C CO fI : Addr} (X : K.In h) (G : h.Ns mainGlobals mg) {qual : Str}
    {nm q : Str} {N : Addr} {bs : List Value} {sn : List Str} {sub : List Value} {ab : Bool} {col : Option Bool} {dd : Option Addr} {m0 m1 m2 m3 m5 : Option Value} {od an : Option Addr} {sl : Array (Option Value)} {oc kV dc pm cd ct : Value}
    (aC : PySem.W.nsIn K mainGlobals c = some (some (.ref C)))
    (xL : K.lookup C = some (excClassObj nm q C N bs [.ref CO, .type "ValueError", .type "Exception", .type "BaseException", .type "object"] true sn sub ab col dd m0 m1 m2 m3 m5 "ValueError.__new__"))
    (sa : PySem.W.findIn K (.ref C) "__setattr__" = some (some (.builtin "object.__setattr__"))) (ga : PySem.W.findIn K (.ref C) "__getattribute__" = some (some (.builtin "BaseException.__getattribute__"))) (gg : PySem.W.findIn K (.ref C) "__getattr__" = some none) (nb : PySem.W.findIn K (.ref C) "value" = some none)
    (a1 : PySem.W.findIn K (.ref C) "__init__" = some (some (.ref fI))) (t1 : PySem.W.typeIn K (.ref fI) = some (.type "function"))
    (l1 : K.lookup fI = some ⟨oc, od, .func (PySem.W.fnOf "__init__" qual (defArgs st) (defBody st) (defScope st) .none kV dc pm an cd ct), sl⟩) (c1 : PySem.W.codeIn K cd qual = true) (k1 : PySem.W.keepIn K (.ref fI) = true)
    (kC : PySem.W.keepIn K (.ref C) = true) (eC : PySem.W.subIn K (.ref C) (.type "BaseException") = some true) (tC : PySem.W.typeIn K (.ref C) = some (.type "type")) (hC : PySem.W.hasDictIn K C = true) (iC : PySem.W.isClsIn K C = true) (sC : PySem.W.subIn K (.ref C) (.ref C) = some true)
    (vV : PySem.W.findCls K (.type "ValueError") (.type "type") "__init__" = some (.val (.builtin "ValueError.__init__"))) : ExX K mg c st :=
  ⟨⟨C, fI, _, qual, ⟨PySem.W.mg_of X G aC, ⟨⟨nm, q, N, bs, _, sn, sub, ab, col, dd, m0, m1, m2, m3, m5, xL, by first | rfl | decide +kernel | simp [PySem.HandSPX.refsVE]⟩, sa, eC, tC, kC⟩, a1, nb⟩, ⟨ga, gg, eC, hC⟩, own_exm eC iC tC sC, t1, fun_mk (st := st) l1 c1 k1⟩, vV⟩
end Z

set_option Elab.async false
set_option linter.all false
set_option maxRecDepth 100000
set_option autoImplicit false
set_option maxHeartbeats 1000000
namespace Z
open PySem PySem.Spec PyProof.Rows L2
theorem wsum_below (w : Nat → Nat) (k : Nat) : ∀ m, k ≤ m → wsum w (fun j => decide (j < k)) m = wsum w (fun _ => true) k
  | 0, h => by rw [show k = 0 by omega]; rfl
  | m + 1, h => by
    by_cases e : k = m + 1
    · subst e
      exact Nat.le_antisymm (wsum_le fun j hj _ => rfl) (wsum_le fun j hj _ => decide_eq_true hj)
    · have ih := wsum_below w k m (by omega)
      unfold wsum
      rw [ih, if_neg (by simp; omega)]
      cases k <;> rfl
theorem wsum_eqP {w : Nat → Nat} {P Q : Nat → Bool} {n : Nat} (h : ∀ j, j < n → P j = Q j) : wsum w P n = wsum w Q n :=
  Nat.le_antisymm (wsum_le fun j hj e => by rw [← h j hj]; exact e) (wsum_le fun j hj e => by rw [h j hj]; exact e)
theorem wsum_split (w : Nat → Nat) (P : Nat → Bool) : ∀ n, wsum w P n + wsum w (fun j => !P j) n = wsum w (fun _ => true) n
  | 0 => rfl
  | n + 1 => by
    have ih := wsum_split w P n
    unfold wsum
    cases h : P n
    · simp
      omega
    · simp
      omega
theorem irange_getD {m j : Nat} (h : j < m) : (irange 1 m).getD j 0 = 1 + (j : Int) := by
  rw [List.getD_eq_getElem?_getD, irange_get _ _ _ h]
  rfl
theorem less_up {R : List (List Int)} {m k : Nat} (hk : k < m) : lessOf (irange 1 m) R k = total R k := by
  unfold lessOf total
  rw [irange_len, ← wsum_below _ k m (by omega)]
  refine wsum_eqP fun j hj => ?_
  rw [irange_getD hj, irange_getD hk]
  exact decide_eq_decide.mpr (by omega)
theorem drange_getD {m j : Nat} (h : j < m) : (tu (irange 1 m)).getD j 0 = (m : Int) - j := by
  rw [tu, List.getD_eq_getElem?_getD, List.getElem?_reverse (by rw [irange_len]; exact h), irange_len, irange_get _ _ _ (by omega)]
  show (1 : Int) + _ = _
  omega
theorem less_down {R : List (List Int)} {m k : Nat} (hk : k < m) : lessOf (tu (irange 1 m)) R k + total R (k + 1) = total R m := by
  unfold lessOf total
  rw [tu_len, irange_len, ← wsum_below _ (k + 1) m (by omega)]
  have h := wsum_split (fun j => (R.getD j []).length) (fun j => decide (j < k + 1)) m
  have e : wsum (fun j => (R.getD j []).length) (fun j => decide ((tu (irange 1 m)).getD j 0 < (tu (irange 1 m)).getD k 0)) m = wsum (fun j => (R.getD j []).length) (fun j => !decide (j < k + 1)) m := wsum_eqP fun j hj => by
    rw [drange_getD hj, drange_getD hk, ← decide_not]
    exact decide_eq_decide.mpr (by omega)
  rw [e]
  omega
theorem take_succ_foldl {α β : Type} (f : β → α → β) (b : β) {l : List α} {k : Nat} {d : α} (h : k < l.length) : (l.take (k + 1)).foldl f b = f ((l.take k).foldl f b) (l.getD k d) := by
  rw [List.take_add_one, List.getElem?_eq_getElem h, List.foldl_append, List.getD_eq_getElem?_getD, List.getElem?_eq_getElem h]
  rfl
theorem fill_up (R : List (List Int)) : ∀ k, k ≤ R.length → fillL (irange 1 R.length) R k = (R.take k).foldl sm []
  | 0, _ => rfl
  | k + 1, h => by
    have ih := fill_up R k (by omega)
    rw [take_succ_foldl sm [] (d := []) (by omega), ← ih]
    show fillL _ R k ++ (R.getD k []).map (fun x => (lessOf _ R k : Int) + x) = fillL _ R k ++ sft (fillL _ R k).length (R.getD k [])
    rw [less_up (by omega), fillL_len]
    congr 1
    exact List.map_congr_left fun x _ => Int.add_comm _ _
theorem fill_sm (R : List (List Int)) : fillL (irange 1 R.length) R R.length = R.foldl sm [] := by
  rw [fill_up R _ (Nat.le_refl _), List.take_length]
theorem total_step (R : List (List Int)) (k : Nat) : total R (k + 1) = total R k + (R.getD k []).length := by
  unfold total
  rw [wsum, if_pos rfl]
theorem fill_down (R : List (List Int)) : ∀ k, k ≤ R.length → fillL (tu (irange 1 R.length)) R k = sft ((total R R.length : Int) - total R k) ((R.take k).foldl sk [])
  | 0, _ => rfl
  | k + 1, h => by
    have ih := fill_down R k (by omega)
    have hl := less_down (R := R) (m := R.length) (k := k) (by omega)
    have ht := total_step R k
    rw [take_succ_foldl sk [] (d := []) (by omega)]
    unfold fillL sk
    rw [ih, sft_app, sft_sft]
    congr 1
    · congr 1
      omega
    · unfold sft
      refine List.map_congr_left fun x _ => ?_
      omega
theorem fill_sk (R : List (List Int)) : fillL (tu (irange 1 R.length)) R R.length = R.foldl sk [] := by
  rw [fill_down R _ (Nat.le_refl _), List.take_length, Int.sub_self, sft_zero]
def isOne : D → Bool
  | .tuple [.str s] => s == "one"
  | _ => false
def isTag (s : Str) : D → Bool
  | .tuple (.str z :: _) => z == s
  | _ => false
def mapO (f : D → Option (List Int)) : List D → Option (List (List Int))
  | [] => some []
  | x :: xs => match f x, mapO f xs with
    | some p, some R => some (p :: R)
    | _, _ => none
def ordB (q : List Int) : Bool := decide (srt q = irange 1 q.length)
def finT (pre : List D) (ts : List D) (R : List (List Int)) : Option (List Int) := match pre with
  | [.str s] => if (s = "sum" ∨ s = "skew") ∧ 1 < R.length then (if ts.any (isTag s) then none else some (R.foldl (if s = "sum" then sm else sk) [])) else none
  | [.str s, .tuple qs] => if s = "simple" then (match toInts qs with
    | some q => if ordB q = true ∧ q.length = R.length ∧ simp4 q = true then some (fillL q R R.length) else none
    | none => none) else none
  | _ => none
def ordT : Nat → D → Option (List Int)
  | 0, _ => none
  | n + 1, x => if isOne x = true then some [1] else match x with
    | .tuple xs => if xs.length < 2 then none else match xs.getLast? with
      | some (.tuple ts) => (match mapO (ordT n) ts with
        | some R => finT xs.dropLast ts R
        | none => none)
      | _ => none
    | _ => none
theorem mapO_some {f : D → Option (List Int)} : ∀ {ts : List D} {R : List (List Int)}, mapO f ts = some R → ts.length = R.length ∧ ∀ t ∈ ts, ∃ p ∈ R, f t = some p
  | [], R, h => by cases h; exact ⟨rfl, fun t ht => nomatch ht⟩
  | x :: xs, R, h => by
    unfold mapO at h
    cases e1 : f x with
    | none => rw [e1] at h; cases h
    | some p =>
      cases e2 : mapO f xs with
      | none => rw [e1, e2] at h; cases h
      | some Q =>
        rw [e1, e2] at h
        cases h
        obtain ⟨a, b⟩ := mapO_some e2
        refine ⟨by rw [List.length_cons, List.length_cons, a], fun t ht => ?_⟩
        rcases List.mem_cons.mp ht with rfl | ht
        · exact ⟨p, List.mem_cons_self, e1⟩
        · obtain ⟨q, hq, e⟩ := b t ht
          exact ⟨q, List.mem_cons_of_mem _ hq, e⟩
mutual
def sz : D → Nat
  | .tuple xs => 1 + szs xs
  | .list xs => 1 + szs xs
  | .none => 1
  | .bool _ => 1
  | .int _ => 1
  | .str _ => 1
  | .dict _ => 1
def szs : List D → Nat
  | [] => 0
  | x :: xs => sz x + szs xs
end
theorem sz_pos (x : D) : 1 ≤ sz x := by cases x <;> unfold sz <;> omega
theorem szs_len : ∀ xs : List D, xs.length ≤ szs xs
  | [] => Nat.zero_le _
  | x :: xs => by
    have := szs_len xs
    have := sz_pos x
    unfold szs
    rw [List.length_cons]
    omega
theorem szs_app : ∀ xs ys : List D, szs (xs ++ ys) = szs xs + szs ys
  | [], ys => by rw [List.nil_append, szs, Nat.zero_add]
  | x :: xs, ys => by
    rw [List.cons_append, szs, szs, szs_app xs ys]
    omega
theorem sz_mem {x : D} : ∀ {xs : List D}, x ∈ xs → sz x ≤ szs xs
  | y :: xs, h => by
    unfold szs
    rcases List.mem_cons.mp h with rfl | h
    · omega
    · have := sz_mem h
      omega
end Z

set_option Elab.async false
set_option linter.all false
set_option maxRecDepth 100000
set_option autoImplicit false
set_option maxHeartbeats 2000000
namespace Z
open PySem PySem.Spec PyProof.Rows L2
def rRepZ (K : PySem.W.Frag) : R2 := fun x y H Q => ∃ (l : Addr) (k : Nat) (xs : List V), x = .ref l ∧ y = .int (k : Int) ∧ SqT K H l xs ∧ xs ≠ [] ∧ 2 ≤ k ∧ k ≤ 100 ∧ xs.length ≤ 100 ∧
  ∀ p o, H p = none → o.dict = none → Q (.ref p) (upd H p (.frz o (.tup (List.replicate k xs).flatten)))
theorem rep_len {α : Type} (xs : List α) : ∀ k : Nat, (List.replicate k xs).flatten.length = k * xs.length
  | 0 => by simp
  | k + 1 => by
    rw [List.replicate_succ, List.flatten_cons, List.length_append, rep_len xs k, Nat.succ_mul]
    omega
theorem op_repZ {X : Cx} : OpR X (binaryOp .Mult) (rRepZ X.K) := by
  intro pins s σ H x y v u Q I rx ry h
  obtain ⟨l, k, xs, rfl, rfl, hT, hne, h1, h2, hz, q⟩ := h
  cases rx
  obtain ⟨t, rfl⟩ := ry
  obtain ⟨its, r, ⟨⟨cls, dd, data, sl⟩, ho, hc, n, hd⟩, hs⟩ := I.tuple hT
  simp only at hc hd
  subst hc hd
  have hlen : its.toArray.size = xs.length := by rw [List.size_toArray]; exact r.length.symm
  have hpos : 0 < xs.length := List.length_pos_iff.mpr hne
  have hemp : its.toArray.isEmpty = false := by
    rw [Array.isEmpty, hlen]
    exact decide_eq_false (by omega)
  have hprod : k * xs.length ≤ 10000 := Nat.mul_le_mul h2 hz
  have hprod2 : ((xs.length : Nat) : Int) * (k : Int) ≤ 10000 := by
    rw [Int.mul_comm, ← Int.natCast_mul]
    omega
  have big : 10000 ≤ sizeLine := by rw [sizeLine_eq]; decide
  have hmany : Builtin.Tuple.tupleTooMany (((its.toArray.size : Nat) : Int) * (k : Int)) = false := by
    rw [hlen]
    exact decide_eq_false (by rw [sizeLine_eq]; omega)
  have e0 : (decide ((k : Int) < -(2 ^ 63)) || decide ((k : Int) ≥ 2 ^ 63)) = false := Bool.or_eq_false_iff.mpr ⟨decide_eq_false (by omega), decide_eq_false (by omega)⟩
  have e1 : (its.toArray.isEmpty || (k : Int) == 1) = false := Bool.or_eq_false_iff.mpr ⟨hemp, beq_eq_false_iff_ne.mpr (by omega)⟩
  have e2 : (decide ((k : Int) ≤ 0) || its.toArray.isEmpty) = false := Bool.or_eq_false_iff.mpr ⟨decide_eq_false (by omega), hemp⟩
  have es := size_rep its k
  have e3 : (List.foldl (fun x1 x2 => x1 ++ x2) #[] (List.replicate ((k : Int).toNat) its.toArray)).size ≤ sizeLine := by
    rw [Int.toNat_natCast, es, List.size_toArray, rep_len, show its.length = xs.length from r.length.symm]
    omega
  have fin : EP X pins σ Q (.ref s.heap.objs.size) { s with heap := s.heap.push { cls := .type "tuple", data := .seq (List.foldl (fun x1 x2 => x1 ++ x2) #[] (List.replicate ((k : Int).toNat) its.toArray)) } } := by
    rw [Int.toNat_natCast, es]
    exact tryNew I (r.rep k) (by rw [rep_len]; omega) q
  exact wpAny_binaryOp_repeat_ref (T := "tuple") (U := "int") (by decide) ⟨_, ho, rfl⟩ (fun s' => typeIs_int s' k t) noFill_tuple_mul F.fills_int_mul F.slot_int_rmul repeat_tuple F.slot_int_index.lookup
    (call_meets F.slot_int_rmul (typeIs_int s k t) F.entry_int_rmul (F.args_int_rmul_2 _ _) (int_rmul_tuple k t l its.toArray n dd sl) ⟨ho, rfl, ⟨_, ho, rfl⟩, call_meets F.slot_tuple_mul ⟨_, ho, rfl⟩ F.entry_tuple_mul (F.args_tuple_mul_2 _ _) (tuple_mulW l its.toArray n dd sl k t e0 e1 e2 (by rw [hlen]; omega) hmany e3) ⟨ho, fin⟩⟩)
def fMulT : D → D → Option D
  | .tuple xs, .int k => if xs ≠ [] ∧ 2 ≤ k ∧ k ≤ 100 ∧ xs.length ≤ 100 then some (.tuple (List.replicate k.toNat xs).flatten) else none
  | _, _ => none
theorem dpa_repT {K : PySem.W.Frag} {G : Hp} {vs : List V} {xs : List D} (h : DqAll K G vs xs) : ∀ k : Nat, DqAll K G (List.replicate k vs).flatten (List.replicate k xs).flatten
  | 0 => .nil
  | k + 1 => by
    rw [List.replicate_succ, List.replicate_succ, List.flatten_cons, List.flatten_cons]
    exact dpa_append h (dpa_repT h k)
theorem or_mulT {X : Cx} : OpR X (binaryOp .Mult) (rD2 X.K fMulT) := by
  intro pins s σ H x y v u Q I rx ry h
  obtain ⟨G, dx, dy, z, gh, r1, r2, e, q⟩ := h
  unfold fMulT at e
  split at e
  · rename_i xs k
    split at e
    · rename_i hc
      obtain ⟨hc1, hc2, hc3, hc4⟩ := hc
      cases e
      obtain ⟨l1, vs1, rfl, s1, d1⟩ := r1.tup gh
      have e2 := r2.int
      subst e2
      have n1 := dpa_length d1
      refine op_repZ pins s σ H _ _ v u Q I rx ry ⟨l1, k.toNat, vs1, rfl, by rw [Int.toNat_of_nonneg (by omega)], s1.sq, fun z => ?_, by omega, by omega, by omega, fun p o n ho => ?_⟩
      · subst z
        cases xs with
        | nil => exact hc1 rfl
        | cons _ _ => simp at n1
      · have E := Ext.new (o := .frz o (.tup (List.replicate k.toNat vs1).flatten)) gh n
        exact q _ _ _ E (.tup (.new ho) (dpAll_mono E.g _ _ (dpa_repT d1 k.toNat)))
    · cases e
  · cases e
end Z

set_option Elab.async false
set_option linter.all false
set_option maxRecDepth 100000
set_option autoImplicit false
set_option maxHeartbeats 4000000
namespace Ck07
open PySem PySem.Spec PyProof.Rows L2 Z
def topS (i : Nat) : Stmt := PySem.Challenge.pw_wholeorders_k07_whole_bent_trees.main.body.getD i (.Pass ⟨0, 0, 0, 0⟩)
abbrev s_is_integer : Stmt := topS 5
abbrev s_are_integers : Stmt := topS 6
abbrev s_is_order_of : Stmt := topS 7
abbrev s_compared : Stmt := topS 8
abbrev s_check_filled : Stmt := topS 11
abbrev s_lifted : Stmt := topS 12
abbrev s_summed_of : Stmt := topS 13
abbrev s_skew_summed_of : Stmt := topS 14
abbrev s_parts_of_sum : Stmt := topS 15
abbrev s_parts_of_skew : Stmt := topS 16
abbrev s_blocks_of : Stmt := topS 17
abbrev s_has_block : Stmt := topS 18
abbrev s_is_simple_of : Stmt := topS 19
abbrev s_put_together_of : Stmt := topS 20
abbrev s_greatest_blocks : Stmt := topS 21
abbrev s_tree_of : Stmt := topS 22
abbrev s_tree : Stmt := topS 23
abbrev s_joined_of : Stmt := topS 24
abbrev s_orders_of_trees : Stmt := topS 25
abbrev s_order_of_tree : Stmt := topS 26
abbrev s_from_tree : Stmt := topS 27
abbrev s__law_deck : Stmt := topS 29
abbrev s__law_take : Stmt := topS 30
abbrev s__law_same : Stmt := topS 31
abbrev s__law_drawn : Stmt := topS 32
abbrev s__law_filled : Stmt := topS 34
abbrev s__law_row : Stmt := topS 35
abbrev s__law_blocks : Stmt := topS 36
abbrev s__law_is_simple : Stmt := topS 37
abbrev s__law_is_tree : Stmt := topS 39
abbrev s__law_grown : Stmt := topS 40
abbrev s__law_bent_simple : Stmt := topS 41
abbrev s__law_bent_here : Stmt := topS 42
abbrev s__law_bent : Stmt := topS 43
abbrev s__law_told : Stmt := topS 44
abbrev s_law : Stmt := topS 45
abbrev s__init : Stmt := clsInit (topS 1)
/-! ### mirrors -/
def m_is_integer : M Fl :=
  (sRet (dAndV (op1 (fIs [.int]) (dName 0)) (dNotV (op1 (fIs [.bool]) (dName 0)))))
def φ_is_integer : List PyData → Out := runF 1 [.v] m_is_integer
def m_are_integers : M Fl :=
  (sRet (dAndV (op1 (fIs [.tuple]) (dName 0)) (opN fAll (vCons (dv (dFz (compL [1] (.nm 1) (iV (dName 0)) (rt true) (rD (callP [.v] φ_is_integer (vCons (dName 1) vNil)))))) vNil))))
def φ_are_integers : List PyData → Out := runF 2 [.v] m_are_integers
def m_is_order_of : M Fl :=
  (sRet (dAndV (rD (callP [.v] φ_are_integers (vCons (dName 0) vNil))) (op2 fEq (dv (dFz (opNo fSorted (vCons (dName 0) vNil)))) (dv (dFz (dLstRg (rg2 (dv (dC (.int 1))) (dv (rD (op2r fAdd fCat (dv (opN fLen (vCons (dName 0) vNil))) (dv (dC (.int 1)))))))))))))
def φ_is_order_of : List PyData → Out := runF 1 [.v] m_is_order_of
def m_compared : M Fl :=
  (dSeq (sSet 1 (dcL [2, 3] (.tup [(.nm 2), (.nm 3)]) (iEnO (opNo fSorted (vCons (dName 0) vNil))) (rt true) (dEsc (dName 3)) (rD (op2r fAdd fCat (dName 2) (dv (dC (.int 1)))))))
    (sRet (opN fTuple (vCons (dv (dFz (compL [3] (.nm 3) (iV (dName 0)) (rt true) (op2 fIx (dName 1) (dName 3))))) vNil))))
def φ_compared : List PyData → Out := runF 4 [.v] m_compared
def m_check_filled : M Fl :=
  (sIf (dOr (dB (op2 fEq (dName 0) (dv (dTup dNil)))) (dNot (dB (rD (callP [.v] φ_is_order_of (vCons (dName 0) vNil)))))) sBad sNx)
def φ_check_filled : List PyData → Out := runF 1 [.v] m_check_filled
def m_lifted : M Fl :=
  (sRet (opN fTuple (vCons (dv (dFz (compL [2] (.nm 2) (iV (dName 0)) (rt true) (rD (op2r fAdd fCat (dName 2) (dName 1)))))) vNil)))
def φ_lifted : List PyData → Out := runF 3 [.v, .v] m_lifted
def m_summed_of : M Fl :=
  (sRetR (op2r fAdd fCat (dName 0) (dv (rD (callP [.v, .v] φ_lifted (vCons (dName 1) (vCons (dv (opN fLen (vCons (dName 0) vNil))) vNil)))))))
def φ_summed_of : List PyData → Out := runF 2 [.v, .v] m_summed_of
def m_skew_summed_of : M Fl :=
  (sRetR (op2r fAdd fCat (dv (rD (callP [.v, .v] φ_lifted (vCons (dName 0) (vCons (dv (opN fLen (vCons (dName 1) vNil))) vNil))))) (dName 1)))
def φ_skew_summed_of : List PyData → Out := runF 2 [.v, .v] m_skew_summed_of
def m_parts_of_sum : M Fl :=
  (dSeq (sPar [1, 2, 3] (msO (dLst dNil) (msD (dC (.int 0)) (msD (dC (.int 0)) msNil))))
    (dSeq (sFor (.tup [(.nm 4), (.nm 5)]) [4, 5] (iEnV (dName 0)) (dSeq (sSet 3 (opN fMax (vCons (dName 3) (vCons (dName 5) vNil))))
    (sIf (dB (op2 fEq (dName 3) (dv (rD (op2r fAdd fCat (dName 4) (dv (dC (.int 1)))))))) (dSeq (sExpr (dMut 1 mAppend (dCons (rD (callP [.v, .v] φ_lifted (vCons (dv (rD (cutR (dName 0) (oSome (dEsc (dName 2))) (oSome (rD (op2r fAdd fCat (dName 4) (dv (dC (.int 1))))))))) (vCons (dv (op1 fNeg (dName 2))) vNil)))) dNil)))
    (sSetR 2 (op2r fAdd fCat (dName 4) (dv (dC (.int 1)))))) sNx)))
    (sRet (opN fTuple (vCons (dName 1) vNil)))))
def φ_parts_of_sum : List PyData → Out := runF 6 [.v] m_parts_of_sum
def m_parts_of_skew : M Fl :=
  (dSeq (sSet 1 (opN fLen (vCons (dName 0) vNil)))
    (dSeq (sSet 2 (opN fTuple (vCons (dv (dFz (compL [3] (.nm 3) (iV (dName 0)) (rt true) (op2 fSub (dv (rD (op2r fAdd fCat (dName 1) (dv (dC (.int 1)))))) (dName 3))))) vNil)))
    (sRet (opN fTuple (vCons (dv (dFz (compL [4] (.nm 4) (iV (dv (rD (callP [.v] φ_parts_of_sum (vCons (dName 2) vNil))))) (rt true) (opN fTuple (vCons (dv (dFz (compL [3] (.nm 3) (iV (dName 4)) (rt true) (op2 fSub (dv (rD (op2r fAdd fCat (dv (opN fLen (vCons (dName 4) vNil))) (dv (dC (.int 1)))))) (dName 3))))) vNil))))) vNil)))))
def φ_parts_of_skew : List PyData → Out := runF 5 [.v] m_parts_of_skew
def m_blocks_of : M Fl :=
  (dSeq (sSetO 1 (dLst dNil))
    (dSeq (sFor (.nm 2) [2, 3, 4] (iR1 (vCons (dv (opN fLen (vCons (dName 0) vNil))) vNil)) (sFor (.nm 3) [3, 4] (iR2 (vCons (dv (rD (op2r fAdd fCat (dName 2) (dv (dC (.int 1)))))) (vCons (dv (rD (op2r fAdd fCat (dv (opN fLen (vCons (dName 0) vNil))) (dv (dC (.int 1)))))) vNil))) (dSeq (sSetR 4 (cutR (dName 0) (oSome (dEsc (dName 2))) (oSome (dEsc (dName 3)))))
    (sIf (dB (op2 fEq (dv (op2 fSub (dv (opN fMax (vCons (dName 4) vNil))) (dv (opN fMin (vCons (dName 4) vNil))))) (dv (op2 fSub (dv (op2 fSub (dName 3) (dName 2))) (dv (dC (.int 1))))))) (sExpr (dMut 1 mAppend (dCons (dTup (dCons (dEsc (dName 2)) (dCons (dEsc (dName 3)) dNil))) dNil))) sNx))))
    (sRetV 1)))
def φ_blocks_of : List PyData → Out := runF 5 [.v] m_blocks_of
def m_has_block : M Fl :=
  (dSeq (sPar [2, 3] (msD (op2 fIx (dName 0) (dName 1)) (msD (op2 fIx (dName 0) (dName 1)) msNil)))
    (dSeq (sFor (.nm 4) [4] (iR2 (vCons (dv (rD (op2r fAdd fCat (dName 1) (dv (dC (.int 1)))))) (vCons (dv (opN fLen (vCons (dName 0) vNil))) vNil))) (dSeq (sPar [2, 3] (msD (opN fMin (vCons (dName 2) (vCons (dv (op2 fIx (dName 0) (dName 4))) vNil))) (msD (opN fMax (vCons (dName 3) (vCons (dv (op2 fIx (dName 0) (dName 4))) vNil))) msNil)))
    (sIf (dB (dChain fEq fLt (dv (op2 fSub (dName 3) (dName 2))) (dv (op2 fSub (dName 4) (dName 1))) (dv (op2 fSub (dv (opN fLen (vCons (dName 0) vNil))) (dv (dC (.int 1))))))) (sRet (dC (.bool true))) sNx)))
    (sRet (dC (.bool false)))))
def φ_has_block : List PyData → Out := runF 5 [.v, .v] m_has_block
def m_is_simple_of : M Fl :=
  (dSeq (sFor (.nm 1) [1] (iR1 (vCons (dv (opN fLen (vCons (dName 0) vNil))) vNil)) (sIf (dB (rD (callP [.v, .v] φ_has_block (vCons (dName 0) (vCons (dName 1) vNil))))) (sRet (dC (.bool false))) sNx))
    (sRet (op2 fGe (dv (opN fLen (vCons (dName 0) vNil))) (dv (dC (.int 4))))))
def φ_is_simple_of : List PyData → Out := runF 2 [.v] m_is_simple_of
def m_put_together_of : M Fl :=
  (dSeq (sSetO 2 (dLst dNil))
    (dSeq (sFor (.nm 3) [3] (iV (dName 0)) (sExpr (dMut 2 mAppend (dCons (opN fSum (vCons (dv (dFz (compL [4, 5] (.tup [(.nm 4), (.nm 5)]) (iZip (vCons (dName 1) (vCons (dName 0) vNil))) (dB (op2 fLt (dName 5) (dName 3))) (opN fLen (vCons (dName 4) vNil))))) vNil)) dNil))))
    (dSeq (sSet 6 (dTup dNil))
    (dSeq (sFor (.tup [(.nm 4), (.nm 7)]) [4, 7] (iZip (vCons (dName 1) (vCons (dName 2) vNil))) (sSetR 6 (op2r fAdd fCat (dName 6) (dv (rD (callP [.v, .v] φ_lifted (vCons (dName 4) (vCons (dName 7) vNil))))))))
    (sRetV 6)))))
def φ_put_together_of : List PyData → Out := runF 8 [.v, .v] m_put_together_of
def m_greatest_blocks : M Fl :=
  (dSeq (sSetO 1 (compL [2] (.nm 2) (iV (dv (rD (callP [.v] φ_blocks_of (vCons (dName 0) vNil))))) (dB (op2 fNe (dName 2) (dv (dTup (dCons (dC (.int 0)) (dCons (opN fLen (vCons (dName 0) vNil)) dNil)))))) (dEsc (dName 2))))
    (dSeq (sPar [3, 4] (msO (dLst dNil) (msD (dC (.int 0)) msNil)))
    (dSeq (sWh [5] (dB (op2 fLt (dName 4) (dv (opN fLen (vCons (dName 0) vNil))))) (dSeq (sSet 5 (opN fMax (vCons (dv (dFz (compL [6, 7] (.tup [(.nm 6), (.nm 7)]) (iV (dName 1)) (dB (op2 fEq (dName 6) (dName 4))) (dEsc (dName 7))))) vNil)))
    (dSeq (sExpr (dMut 3 mAppend (dCons (dTup (dCons (dEsc (dName 4)) (dCons (dEsc (dName 5)) dNil))) dNil)))
    (sMove 4 5))))
    (sRetV 3))))
def φ_greatest_blocks : List PyData → Out := runF 8 [.v] m_greatest_blocks
def m_tree_of (rec : List PyData → Out) : M Fl :=
  (dSeq (sIf (dB (op2 fEq (dv (opN fLen (vCons (dName 0) vNil))) (dv (dC (.int 1))))) (sRet (dTup (dCons (dC (.str "one")) dNil))) sNx)
    (dSeq (sFor (.tup [(.nm 1), (.nm 2)]) [1, 2] (iV (dv (dTup (dCons (dTup (dCons (dC (.str "sum")) (dCons (rD (callP [.v] φ_parts_of_sum (vCons (dName 0) vNil))) dNil))) (dCons (dTup (dCons (dC (.str "skew")) (dCons (rD (callP [.v] φ_parts_of_skew (vCons (dName 0) vNil))) dNil))) dNil))))) (sIf (dB (op2 fGt (dv (opN fLen (vCons (dName 2) vNil))) (dv (dC (.int 1))))) (sRet (dTup (dCons (dEsc (dName 1)) (dCons (opN fTuple (vCons (dv (dFz (compL [3] (.nm 3) (iV (dName 2)) (rt true) (rD (callP [.v] rec (vCons (dName 3) vNil)))))) vNil)) dNil)))) sNx))
    (dSeq (sSetR 4 (callP [.v] φ_greatest_blocks (vCons (dName 0) vNil)))
    (dSeq (sSetR 5 (callP [.v] φ_compared (vCons (dv (dFz (compL [6, 7] (.tup [(.nm 6), (.nm 7)]) (iV (dName 4)) (rt true) (op2 fIx (dName 0) (dName 6))))) vNil)))
    (sRet (dTup (dCons (dC (.str "simple")) (dCons (dEsc (dName 5)) (dCons (opN fTuple (vCons (dv (dFz (compL [6, 7] (.tup [(.nm 6), (.nm 7)]) (iV (dName 4)) (rt true) (rD (callP [.v] rec (vCons (dv (rD (callP [.v] φ_compared (vCons (dv (rD (cutR (dName 0) (oSome (dEsc (dName 6))) (oSome (dEsc (dName 7)))))) vNil)))) vNil)))))) vNil)) dNil)))))))))
def φ_tree_of : Nat → List PyData → Out
  | 0 => fun _ => .bad
  | n + 1 => runF 8 [.v] (m_tree_of (φ_tree_of n))
def m_tree : M Fl :=
  (dSeq (sExprR (callP [.v] φ_check_filled (vCons (dName 0) vNil)))
    (sRetR (callP [.v] (φ_tree_of 16) (vCons (dName 0) vNil))))
def φ_tree : List PyData → Out := runF 1 [.v] m_tree
def m_joined_of : M Fl :=
  (dSeq (sSet 2 (dTup dNil))
    (dSeq (sFor (.nm 3) [3] (iV (dName 1)) (sSet 2 (dIfE (dB (op2 fEq (dName 0) (dv (dC (.str "sum"))))) (rD (callP [.v, .v] φ_summed_of (vCons (dName 2) (vCons (dName 3) vNil)))) (rD (callP [.v, .v] φ_skew_summed_of (vCons (dName 2) (vCons (dName 3) vNil)))))))
    (sRetV 2)))
def φ_joined_of : List PyData → Out := runF 4 [.v, .v] m_joined_of
def m_orders_of_trees (rec : List PyData → Out) : M Fl :=
  (dSeq (sIf (dNot (dB (op1 (fIs [.tuple]) (dName 0)))) (sRet (dC .none)) sNx)
    (dSeq (sSetO 1 (compL [2] (.nm 2) (iV (dName 0)) (rt true) (rD (callP [.v] rec (vCons (dName 2) vNil)))))
    (sRet (dIfE (dB (op2 fIn (dv (dC .none)) (dName 1))) (dC .none) (dEsc (dName 1))))))
def φ_orders_of_trees (rec : List PyData → Out) : List PyData → Out := runF 3 [.v] (m_orders_of_trees rec)
def m_order_of_tree (rec : List PyData → Out) : M Fl :=
  (dSeq (sIf (dB (op2 fEq (dName 0) (dv (dTup (dCons (dC (.str "one")) dNil))))) (sRet (dTup (dCons (dC (.int 1)) dNil))) sNx)
    (dSeq (sIf (dOr (dNot (dB (op1 (fIs [.tuple]) (dName 0)))) (dB (op2 fLt (dv (opN fLen (vCons (dName 0) vNil))) (dv (dC (.int 2)))))) (sRet (dC .none)) sNx)
    (dSeq (sSetR 1 (callP [.v] (φ_orders_of_trees rec) (vCons (dv (op2 fIx (dName 0) (dv (op1 fNeg (dv (dC (.int 1))))))) vNil)))
    (dSeq (sIf (dB (op2 fIsN (dName 1) (dv (dC .none)))) (sRet (dC .none)) sNx)
    (dSeq (sIf (dAnd (dB (op2 fEq (dv (opN fLen (vCons (dName 0) vNil))) (dv (dC (.int 2))))) (dAnd (dB (op2 fIn (dv (op2 fIx (dName 0) (dv (dC (.int 0))))) (dv (dTup (dCons (dC (.str "sum")) (dCons (dC (.str "skew")) dNil)))))) (dB (op2 fGt (dv (opN fLen (vCons (dName 1) vNil))) (dv (dC (.int 1))))))) (sRet (dIfE (dB (op2 fIn (dv (op2 fIx (dName 0) (dv (dC (.int 0))))) (dv (dFz (compL [2] (.nm 2) (iV (dv (op2 fIx (dName 0) (dv (dC (.int 1)))))) (rt true) (op2 fIx (dName 2) (dv (dC (.int 0))))))))) (dC .none) (rD (callP [.v, .v] φ_joined_of (vCons (dv (op2 fIx (dName 0) (dv (dC (.int 0))))) (vCons (dName 1) vNil)))))) sNx)
    (dSeq (sIf (dOr (dB (op2 fNe (dv (opN fLen (vCons (dName 0) vNil))) (dv (dC (.int 3))))) (dOr (dB (op2 fNe (dv (op2 fIx (dName 0) (dv (dC (.int 0))))) (dv (dC (.str "simple"))))) (dOr (dNot (dB (rD (callP [.v] φ_is_order_of (vCons (dv (op2 fIx (dName 0) (dv (dC (.int 1))))) vNil))))) (dB (op2 fNe (dv (opN fLen (vCons (dv (op2 fIx (dName 0) (dv (dC (.int 1))))) vNil))) (dv (opN fLen (vCons (dName 1) vNil)))))))) (sRet (dC .none)) sNx)
    (sRet (dIfE (dB (rD (callP [.v] φ_is_simple_of (vCons (dv (op2 fIx (dName 0) (dv (dC (.int 1))))) vNil)))) (rD (callP [.v, .v] φ_put_together_of (vCons (dv (op2 fIx (dName 0) (dv (dC (.int 1))))) (vCons (dName 1) vNil)))) (dC .none)))))))))
def φ_order_of_tree : Nat → List PyData → Out
  | 0 => fun _ => .bad
  | n + 1 => runF 3 [.v] (m_order_of_tree (φ_order_of_tree n))
def m_from_tree : M Fl :=
  (dSeq (sSetR 1 (callP [.v] (φ_order_of_tree 16) (vCons (dName 0) vNil)))
    (dSeq (sIf (dB (op2 fIsN (dName 1) (dv (dC .none)))) (sRaise "InvalidPair" (dEsc (dName 0))) sNx)
    (sRetV 1)))
def φ_from_tree : List PyData → Out := runF 2 [.p] m_from_tree
def m__law_deck : M Fl :=
  (dSeq (sSet 2 (dC (.int 0)))
    (dSeq (sIf (dB (op2 fLt (dName 1) (dv (opN fLen (vCons (dName 0) vNil))))) (sSet 2 (op2 fIx (dName 0) (dName 1))) sNx)
    (dSeq (sSet 3 (op2 fMod (dv (opN fInt (vCons (dv (rD (op2r fAdd fCat (dv (rD (op2r fAdd fCat (dName 2) (dv (op2 fMul (dv (dC (.int 7919))) (dName 1)))))) (dv (dC (.int 104729)))))) vNil))) (dv (dC (.int 2305843009213693951)))))
    (dSeq (sSet 3 (op2 fMod (dv (opN fInt (vCons (dv (rD (op2r fAdd fCat (dv (rD (op2r fAdd fCat (dv (op2 fMul (dv (op2 fMul (dName 3) (dName 3))) (dName 3))) (dv (op2 fMul (dv (dC (.int 31))) (dName 1)))))) (dv (dC (.int 7)))))) vNil))) (dv (dC (.int 2305843009213693951)))))
    (dSeq (sIf (dB (op2 fLt (dName 2) (dv (op2 fPow (dv (dC (.int 10))) (dv (dC (.int 18))))))) (sRetO (dLst (dCons (dC (.int 0)) (dCons (dEsc (dName 3)) dNil)))) sNx)
    (sRetO (dLst (dCons (op2 fSub (dName 2) (dv (op2 fPow (dv (dC (.int 10))) (dv (dC (.int 18)))))) (dCons (dEsc (dName 3)) dNil)))))))))
def φ__law_deck : List PyData → Out := runF 4 [.v, .v] m__law_deck
def m__law_take : M Fl :=
  (dSeq (sIf (dB (op2 fGt (dv (op2 fIx (dName 0) (dv (dC (.int 0))))) (dv (dC (.int 0))))) (dSeq (sSet 2 (op2 fMod (dv (opN fInt (vCons (dv (op2 fIx (dName 0) (dv (dC (.int 0))))) vNil))) (dName 1)))
    (dSeq (sSub 0 (op2 fDiv (dv (op2 fIx (dName 0) (dv (dC (.int 0))))) (dName 1)) (dv (dC (.int 0))))
    (sRetV 2))) sNx)
    (dSeq (sSub 0 (op2 fMod (dv (opN fInt (vCons (dv (rD (op2r fAdd fCat (dv (op2 fMul (dv (op2 fIx (dName 0) (dv (dC (.int 1))))) (dv (dC (.int 6364136223846793005))))) (dv (dC (.int 1442695040888963407)))))) vNil))) (dv (op2 fPow (dv (dC (.int 2))) (dv (dC (.int 64)))))) (dv (dC (.int 1))))
    (sRet (op2 fMod (dv (op2 fDiv (dv (op2 fIx (dName 0) (dv (dC (.int 1))))) (dv (op2 fPow (dv (dC (.int 2))) (dv (dC (.int 33))))))) (dName 1)))))
def φ__law_take : List PyData → Out := runF 3 [.m, .v] m__law_take
def m__law_same (rec : List PyData → Out) : M Fl :=
  (dSeq (sIf (dB (op1 (fIs [.tuple, .list]) (dName 1))) (dSeq (sIf (dOr (dB (op2 fNe (dv (op1 (fIs [.tuple]) (dName 0))) (dv (op1 (fIs [.tuple]) (dName 1))))) (dB (op2 fNe (dv (op1 (fIs [.list]) (dName 0))) (dv (op1 (fIs [.list]) (dName 1)))))) (sRet (dC (.bool false))) sNx)
    (dSeq (sIf (dB (op2 fNe (dv (opN fLen (vCons (dName 0) vNil))) (dv (opN fLen (vCons (dName 1) vNil))))) (sRet (dC (.bool false))) sNx)
    (sRet (op2 fEq (dv (dFz (compL [2] (.nm 2) (iR1 (vCons (dv (opN fLen (vCons (dName 1) vNil))) vNil)) (dNot (dB (rD (callP [.v, .v] rec (vCons (dv (op2 fIx (dName 0) (dName 2))) (vCons (dv (op2 fIx (dName 1) (dName 2))) vNil)))))) (dEsc (dName 2))))) (dv (dFz (dLst dNil))))))) sNx)
    (dSeq (sIf (dB (op2 fIsN (dName 1) (dv (dC .none)))) (sRet (op2 fIsN (dName 0) (dv (dC .none)))) sNx)
    (dSeq (sIf (dB (op1 (fIs [.str]) (dName 1))) (sRet (dAndV (op1 (fIs [.str]) (dName 0)) (op2 fEq (dName 0) (dName 1)))) sNx)
    (dSeq (sIf (dOr (dB (op1 (fIs [.bool]) (dName 1))) (dB (op1 (fIs [.bool]) (dName 0)))) (sRet (dAndV (op1 (fIs [.bool]) (dName 1)) (dAndV (op1 (fIs [.bool]) (dName 0)) (op2 fEq (dName 0) (dName 1))))) sNx)
    (sRet (dAndV (op1 (fIs [.int]) (dName 0)) (op2 fEq (dName 0) (dName 1))))))))
def φ__law_same : Nat → List PyData → Out
  | 0 => fun _ => .bad
  | n + 1 => runF 3 [.v, .v] (m__law_same (φ__law_same n))
def m__law_drawn : M Fl :=
  (dSeq (sSetO 2 (dLst dNil))
    (dSeq (sFor (.nm 3) [3] (iR2 (vCons (dv (dC (.int 1))) (vCons (dv (rD (op2r fAdd fCat (dName 1) (dv (dC (.int 1)))))) vNil))) (sExpr (dMut 2 mInsert (dCons (rD (callP [.m, .v] φ__law_take (vCons (dName 0) (vCons (dName 3) vNil)))) (dCons (dEsc (dName 3)) dNil)))))
    (sRet (opN fTuple (vCons (dName 2) vNil)))))
def φ__law_drawn : List PyData → Out := runF 4 [.m, .v] m__law_drawn
def m__law_filled : M Fl :=
  (dSeq (sSetO 2 (dLst dNil))
    (dSeq (sFor (.nm 3) [3, 4] (iR1 (vCons (dv (opN fLen (vCons (dName 0) vNil))) vNil)) (dSeq (sSet 4 (opN fSum (vCons (dv (dFz (compL [5] (.nm 5) (iR1 (vCons (dv (opN fLen (vCons (dName 0) vNil))) vNil)) (dB (op2 fLt (dv (op2 fIx (dName 0) (dName 5))) (dv (op2 fIx (dName 0) (dName 3))))) (opN fLen (vCons (dv (op2 fIx (dName 1) (dName 5))) vNil))))) vNil)))
    (sSetR 2 (op2r fAdd fCat (dName 2) (dv (dFz (compL [6] (.nm 6) (iV (dv (op2 fIx (dName 1) (dName 3)))) (rt true) (rD (op2r fAdd fCat (dName 4) (dName 6))))))))))
    (sRet (opN fTuple (vCons (dName 2) vNil)))))
def φ__law_filled : List PyData → Out := runF 7 [.v, .v] m__law_filled
def m__law_row : M Fl :=
  (dSeq (sPar [2, 3] (msR (callP [.m, .v] φ__law_take (vCons (dName 0) (vCons (dv (dC (.int 6))) vNil))) (msR (callP [.m, .v] φ__law_take (vCons (dName 0) (vCons (dv (rD (op2r fAdd fCat (dName 1) (dv (dC (.int 1)))))) vNil))) msNil)))
    (dSeq (sIf (dOr (dB (op2 fLt (dName 2) (dv (dC (.int 2))))) (dB (op2 fLt (dName 3) (dv (dC (.int 2)))))) (sRetR (callP [.m, .v] φ__law_drawn (vCons (dName 0) (vCons (dName 3) vNil)))) sNx)
    (dSeq (sIf (dB (op2 fEq (dName 2) (dv (dC (.int 2))))) (dSeq (sSet 4 (dTupRg (rg2 (dv (dC (.int 1))) (dv (rD (op2r fAdd fCat (dName 3) (dv (dC (.int 1)))))))))
    (sRet (op2 fIx (dv (dFz (dLst (dCons (dEsc (dName 4)) (dCons (rD (mixR (op1 fBack (dName 4)) (op1o fBackL (dName 4)))) dNil))))) (dv (rD (callP [.m, .v] φ__law_take (vCons (dName 0) (vCons (dv (dC (.int 2))) vNil)))))))) sNx)
    (dSeq (sSetR 5 (callP [.m, .v] φ__law_drawn (vCons (dName 0) (vCons (dv (rD (op2r fAdd fCat (dv (dC (.int 2))) (dv (rD (callP [.m, .v] φ__law_take (vCons (dName 0) (vCons (dv (op2 fSub (dName 3) (dv (dC (.int 1))))) vNil)))))))) vNil))))
    (dSeq (sIf (dB (op2 fEq (dName 2) (dv (dC (.int 3))))) (sSet 5 (op2 fIx (dv (dFz (dLst (dCons (dTupRg (rg2 (dv (dC (.int 1))) (dv (rD (op2r fAdd fCat (dv (opN fLen (vCons (dName 5) vNil))) (dv (dC (.int 1)))))))) (dCons (dTupRg3 (vCons (dv (opN fLen (vCons (dName 5) vNil))) (vCons (dv (dC (.int 0))) (vCons (dv (op1 fNeg (dv (dC (.int 1))))) vNil)))) dNil))))) (dv (rD (callP [.m, .v] φ__law_take (vCons (dName 0) (vCons (dv (dC (.int 2))) vNil))))))) sNx)
    (dSeq (sPar [6, 7] (msD (op2 fSub (dName 3) (dv (opN fLen (vCons (dName 5) vNil)))) (msO (dLst dNil) msNil)))
    (dSeq (sFor (.nm 8) [8, 9] (iR1 (vCons (dv (opN fLen (vCons (dName 5) vNil))) vNil)) (dSeq (sSetR 9 (callP [.m, .v] φ__law_take (vCons (dName 0) (vCons (dv (rD (op2r fAdd fCat (dName 6) (dv (dC (.int 1)))))) vNil))))
    (dSeq (sSet 6 (op2 fSub (dName 6) (dName 9)))
    (sExpr (dMut 7 mAppend (dCons (rD (callP [.m, .v] φ__law_drawn (vCons (dName 0) (vCons (dv (rD (op2r fAdd fCat (dv (dC (.int 1))) (dName 9)))) vNil)))) dNil))))))
    (sRetR (callP [.v, .v] φ__law_filled (vCons (dName 5) (vCons (dName 7) vNil)))))))))))
def φ__law_row : List PyData → Out := runF 10 [.m, .v] m__law_row
def m__law_blocks : M Fl :=
  (dSeq (sSetO 1 (dLst dNil))
    (dSeq (sFor (.nm 2) [2, 3, 4] (iR1 (vCons (dv (opN fLen (vCons (dName 0) vNil))) vNil)) (sFor (.nm 3) [3, 4] (iR2 (vCons (dv (rD (op2r fAdd fCat (dName 2) (dv (dC (.int 1)))))) (vCons (dv (rD (op2r fAdd fCat (dv (opN fLen (vCons (dName 0) vNil))) (dv (dC (.int 1)))))) vNil))) (dSeq (sSetO 4 (opNo fSorted (vCons (dv (rD (cutR (dName 0) (oSome (dEsc (dName 2))) (oSome (dEsc (dName 3)))))) vNil)))
    (sIf (dB (op2 fEq (dName 4) (dv (dFz (dLstRg (rg2 (dv (op2 fIx (dName 4) (dv (dC (.int 0))))) (dv (rD (op2r fAdd fCat (dv (op2 fIx (dName 4) (dv (dC (.int 0))))) (dv (opN fLen (vCons (dName 4) vNil)))))))))))) (sExpr (dMut 1 mAppend (dCons (dTup (dCons (dEsc (dName 2)) (dCons (dEsc (dName 3)) dNil))) dNil))) sNx))))
    (sRetV 1)))
def φ__law_blocks : List PyData → Out := runF 5 [.v] m__law_blocks
def m__law_is_simple : M Fl :=
  (sRet (dAndV (op2 fGt (dv (opN fLen (vCons (dName 0) vNil))) (dv (dC (.int 3)))) (op2 fEq (dv (dFz (compL [1] (.nm 1) (iV (dv (rD (callP [.v] φ__law_blocks (vCons (dName 0) vNil))))) (dB (dChain fLt fLt (dv (dC (.int 1))) (dv (op2 fSub (dv (op2 fIx (dName 1) (dv (dC (.int 1))))) (dv (op2 fIx (dName 1) (dv (dC (.int 0))))))) (dv (opN fLen (vCons (dName 0) vNil))))) (dEsc (dName 1))))) (dv (dFz (dLst dNil))))))
def φ__law_is_simple : List PyData → Out := runF 2 [.v] m__law_is_simple
def m__law_is_tree (rec : List PyData → Out) : M Fl :=
  (dSeq (sIf (dOr (dNot (dB (op1 (fIs [.tuple]) (dName 0)))) (dOr (dB (op2 fEq (dName 0) (dv (dTup dNil)))) (dNot (dB (op1 (fIs [.tuple, .str]) (dv (op2 fIx (dName 0) (dv (op1 fNeg (dv (dC (.int 1)))))))))))) (sRet (dC (.bool false))) sNx)
    (dSeq (sIf (dB (op2 fEq (dName 0) (dv (dTup (dCons (dC (.str "one")) dNil))))) (sRet (dC (.bool true))) sNx)
    (dSeq (sIf (dOr (dNot (dB (op1 (fIs [.tuple]) (dv (op2 fIx (dName 0) (dv (op1 fNeg (dv (dC (.int 1)))))))))) (dB (op2 fNe (dv (dFz (compL [1] (.nm 1) (iV (dv (op2 fIx (dName 0) (dv (op1 fNeg (dv (dC (.int 1)))))))) (dNot (dB (rD (callP [.v] rec (vCons (dName 1) vNil))))) (dEsc (dName 1))))) (dv (dFz (dLst dNil)))))) (sRet (dC (.bool false))) sNx)
    (dSeq (sSet 2 (opN fLen (vCons (dv (op2 fIx (dName 0) (dv (op1 fNeg (dv (dC (.int 1))))))) vNil)))
    (dSeq (sIf (dAnd (dB (op2 fEq (dv (opN fLen (vCons (dName 0) vNil))) (dv (dC (.int 2))))) (dB (op2 fIn (dv (op2 fIx (dName 0) (dv (dC (.int 0))))) (dv (dFz (dLst (dCons (dC (.str "sum")) (dCons (dC (.str "skew")) dNil)))))))) (sRet (dAndV (op2 fGt (dName 2) (dv (dC (.int 1)))) (op2 fEq (dv (dFz (compL [1] (.nm 1) (iV (dv (op2 fIx (dName 0) (dv (op1 fNeg (dv (dC (.int 1)))))))) (dB (op2 fEq (dv (op2 fIx (dName 1) (dv (dC (.int 0))))) (dv (op2 fIx (dName 0) (dv (dC (.int 0))))))) (dEsc (dName 1))))) (dv (dFz (dLst dNil)))))) sNx)
    (dSeq (sIf (dOr (dB (op2 fNe (dv (opN fLen (vCons (dName 0) vNil))) (dv (dC (.int 3))))) (dOr (dB (op2 fNe (dv (op2 fIx (dName 0) (dv (dC (.int 0))))) (dv (dC (.str "simple"))))) (dNot (dB (op1 (fIs [.tuple]) (dv (op2 fIx (dName 0) (dv (dC (.int 1)))))))))) (sRet (dC (.bool false))) sNx)
    (dSeq (sIf (dB (op2 fNe (dv (dFz (compL [3] (.nm 3) (iV (dv (op2 fIx (dName 0) (dv (dC (.int 1)))))) (dOr (dNot (dB (op1 (fIs [.int]) (dName 3)))) (dB (op1 (fIs [.bool]) (dName 3)))) (dEsc (dName 3))))) (dv (dFz (dLst dNil))))) (sRet (dC (.bool false))) sNx)
    (sRet (dAndV (op2 fEq (dv (dFz (opNo fSorted (vCons (dv (op2 fIx (dName 0) (dv (dC (.int 1))))) vNil)))) (dv (dFz (dLstRg (rg2 (dv (dC (.int 1))) (dv (rD (op2r fAdd fCat (dName 2) (dv (dC (.int 1))))))))))) (rD (callP [.v] φ__law_is_simple (vCons (dv (op2 fIx (dName 0) (dv (dC (.int 1))))) vNil))))))))))))
def φ__law_is_tree : Nat → List PyData → Out
  | 0 => fun _ => .bad
  | n + 1 => runF 4 [.v] (m__law_is_tree (φ__law_is_tree n))
def m__law_grown (rec : List PyData → Out) : M Fl :=
  (dSeq (sIf (dB (op2 fEq (dv (op2 fIx (dName 0) (dv (dC (.int 0))))) (dv (dC (.str "one"))))) (sRet (dTup (dCons (dC (.int 1)) dNil))) sNx)
    (dSeq (sSetO 1 (compL [2] (.nm 2) (iV (dv (op2 fIx (dName 0) (dv (op1 fNeg (dv (dC (.int 1)))))))) (rt true) (rD (callP [.v] rec (vCons (dName 2) vNil)))))
    (dSeq (sIf (dB (op2 fEq (dv (op2 fIx (dName 0) (dv (dC (.int 0))))) (dv (dC (.str "simple"))))) (sRetR (callP [.v, .v] φ__law_filled (vCons (dv (op2 fIx (dName 0) (dv (dC (.int 1))))) (vCons (dName 1) vNil)))) sNx)
    (dSeq (sSet 3 (dTupRg (rg2 (dv (dC (.int 1))) (dv (rD (op2r fAdd fCat (dv (opN fLen (vCons (dName 1) vNil))) (dv (dC (.int 1)))))))))
    (sRetR (callP [.v, .v] φ__law_filled (vCons (dv (dIfE (dB (op2 fEq (dv (op2 fIx (dName 0) (dv (dC (.int 0))))) (dv (dC (.str "sum"))))) (dEsc (dName 3)) (rD (mixR (op1 fBack (dName 3)) (op1o fBackL (dName 3)))))) (vCons (dName 1) vNil))))))))
def φ__law_grown : Nat → List PyData → Out
  | 0 => fun _ => .bad
  | n + 1 => runF 4 [.v] (m__law_grown (φ__law_grown n))
def m__law_bent_simple : M Fl :=
  (dSeq (sPar [2, 3] (msR (callP [.m, .v] φ__law_take (vCons (dName 0) (vCons (dv (dC (.int 5))) vNil))) (msD (opN fLen (vCons (dName 1) vNil)) msNil)))
    (dSeq (sIf (dB (op2 fEq (dName 2) (dv (dC (.int 3))))) (sRet (opN fTuple (vCons (dv (dFz (compL [4] (.nm 4) (iV (dName 1)) (rt true) (dIfE (dB (op2 fEq (dName 4) (dName 3))) (rD (op2r fAdd fCat (dName 3) (dv (dC (.int 1))))) (dEsc (dName 4)))))) vNil))) sNx)
    (dSeq (sIf (dB (op2 fEq (dName 2) (dv (dC (.int 4))))) (sRet (opN fTuple (vCons (dv (dFz (compL [4] (.nm 4) (iV (dName 1)) (rt true) (dIfE (dB (op2 fEq (dName 4) (dv (dC (.int 1))))) (dC (.bool true)) (dEsc (dName 4)))))) vNil))) sNx)
    (sRet (opN fTuple (vCons (dv (dFz (compL [4] (.nm 4) (iV (dName 1)) (rt true) (op2 fIx (dv (dFz (dLst (dCons (op2 fSub (dName 4) (dv (dC (.int 1)))) (dCons (rD (op2r fAdd fCat (dName 4) (dv (dC (.int 1))))) (dCons (op2 fMul (dv (dC (.int 2))) (dName 4)) dNil)))))) (dName 2))))) vNil))))))
def φ__law_bent_simple : List PyData → Out := runF 5 [.m, .v] m__law_bent_simple
def m__law_bent_here : M Fl :=
  (dSeq (sSetO 2 (dLst (dCons (dTup (dCons (dC (.str "one")) dNil)) (dCons (dTup (dCons (dC (.str "two")) dNil)) (dCons (dTup (dCons (dC (.str "sum")) (dCons (dTup dNil) dNil))) (dCons (dTup (dCons (dC (.str "sum")) (dCons (dTup (dCons (dTup (dCons (dC (.str "one")) dNil)) dNil)) dNil))) (dCons (dTup (dCons (dC (.str "skew")) (dCons (dTup (dCons (dTup (dCons (dC (.str "one")) dNil)) (dCons (dTup (dCons (dC (.str "one")) dNil)) dNil))) dNil))) (dCons (dTup dNil) (dCons (dC (.int 1)) (dCons (dC (.str "one")) (dCons (dTup (dCons (dC (.str "one")) (dCons (dTup dNil) dNil))) dNil)))))))))))
    (dSeq (sSetR 2 (op2r fAdd fCat (dName 2) (dv (dFz (dLst (dCons (dTup (dCons (dC (.str "sum")) (dCons (dTup (dCons (dTup (dCons (dC (.str "one")) dNil)) (dCons (dTup (dCons (dC (.str "one")) dNil)) dNil))) dNil))) (dCons (dTup (dCons (dC (.str "simple")) (dCons (dTup (dCons (dC (.int 2)) (dCons (dC (.int 4)) (dCons (dC (.int 1)) (dCons (dC (.int 3)) dNil))))) (dCons (op2 fMulT (dv (dTup (dCons (dTup (dCons (dC (.str "one")) dNil)) dNil))) (dv (dC (.int 4)))) dNil)))) (dCons (dTup (dCons (dC (.str "simple")) (dCons (dTup (dCons (dC (.int 1)) (dCons (dC (.int 2)) dNil))) (dCons (op2 fMulT (dv (dTup (dCons (dTup (dCons (dC (.str "one")) dNil)) dNil))) (dv (dC (.int 2)))) dNil)))) dNil))))))))
    (dSeq (sSetR 2 (op2r fAdd fCat (dName 2) (dv (dFz (dLst (dCons (dTup (dCons (dC (.str "simple")) (dCons (dTup (dCons (dC (.int 2)) (dCons (dC (.int 4)) (dCons (dC (.int 1)) (dCons (dC (.int 3)) dNil))))) (dCons (op2 fMulT (dv (dTup (dCons (dTup (dCons (dC (.str "one")) dNil)) dNil))) (dv (dC (.int 5)))) dNil)))) (dCons (dTup (dCons (dC (.str "sum")) (dCons (dTup (dCons (dTup (dCons (dC (.int 1)) dNil)) (dCons (dTup (dCons (dC (.int 1)) dNil)) dNil))) dNil))) (dCons (dTup (dCons (dC (.str "simple")) (dCons (dTup (dCons (dC (.int 2)) (dCons (dC (.int 4)) (dCons (dC (.int 1)) dNil)))) (dCons (op2 fMulT (dv (dTup (dCons (dTup (dCons (dC (.str "one")) dNil)) dNil))) (dv (dC (.int 3)))) dNil)))) dNil))))))))
    (dSeq (sSetR 3 (callP [.m, .v] φ__law_take (vCons (dName 0) (vCons (dv (dC (.int 13))) vNil))))
    (dSeq (sIf (dB (op2 fEq (dName 3) (dv (dC (.int 10))))) (sRetO (opNo fList (vCons (dName 1) vNil))) sNx)
    (dSeq (sIf (dOr (dB (op2 fLt (dName 3) (dv (dC (.int 3))))) (dB (op2 fEq (dName 1) (dv (dTup (dCons (dC (.str "one")) dNil)))))) (sRet (op2 fIx (dName 2) (dv (rD (callP [.m, .v] φ__law_take (vCons (dName 0) (vCons (dv (dC (.int 15))) vNil))))))) sNx)
    (dSeq (sSet 4 (op2 fIx (dName 1) (dv (op1 fNeg (dv (dC (.int 1)))))))
    (dSeq (sSetR 5 (callP [.m, .v] φ__law_take (vCons (dName 0) (vCons (dv (opN fLen (vCons (dName 4) vNil))) vNil))))
    (dSeq (sIf (dB (op2 fEq (dName 3) (dv (dC (.int 3))))) (sRetR (op2r fAdd fCat (dv (rD (cutR (dName 1) oNone (oSome (op1 fNeg (dv (dC (.int 1)))))))) (dv (dTup (dCons (rD (op2r fAdd fCat (dv (rD (cutR (dName 4) oNone (oSome (dEsc (dName 5)))))) (dv (rD (cutR (dName 4) (oSome (rD (op2r fAdd fCat (dName 5) (dv (dC (.int 1)))))) oNone))))) dNil))))) sNx)
    (dSeq (sIf (dB (op2 fEq (dName 3) (dv (dC (.int 4))))) (sRetR (op2r fAdd fCat (dv (rD (cutR (dName 1) oNone (oSome (op1 fNeg (dv (dC (.int 1)))))))) (dv (dTup (dCons (rD (op2r fAdd fCat (dv (rD (cutR (dName 4) oNone (oSome (rD (op2r fAdd fCat (dName 5) (dv (dC (.int 1))))))))) (dv (rD (cutR (dName 4) (oSome (dEsc (dName 5))) oNone))))) dNil))))) sNx)
    (dSeq (sIf (dB (op2 fEq (dName 3) (dv (dC (.int 5))))) (sRetR (op2r fAdd fCat (dv (op2 fIx (dv (dFz (dLst (dCons (dTup (dCons (dC (.str "sum")) dNil)) (dCons (dTup (dCons (dC (.str "skew")) dNil)) (dCons (dTup (dCons (dC (.str "simple")) dNil)) (dCons (dTup (dCons (dC (.str "one")) dNil)) (dCons (dTup (dCons (dC (.int 1)) dNil)) (dCons (dTup (dCons (dC (.str "Sum")) dNil)) (dCons (dTup (dCons (dC (.str "skew ")) dNil)) (dCons (dTup (dCons (dC (.str "sums")) dNil)) dNil))))))))))) (dv (rD (callP [.m, .v] φ__law_take (vCons (dName 0) (vCons (dv (dC (.int 8))) vNil))))))) (dv (rD (cutR (dName 1) (oSome (dC (.int 1))) oNone))))) sNx)
    (dSeq (sIf (dB (op2 fEq (dName 3) (dv (dC (.int 6))))) (sRetR (op2r fAdd fCat (dName 1) (dv (dTup (dCons (dTup dNil) dNil))))) sNx)
    (dSeq (sIf (dB (op2 fEq (dName 3) (dv (dC (.int 7))))) (sRet (dTup (dCons (op2 fIx (dName 1) (dv (dC (.int 0)))) (dCons (dEsc (dName 4)) dNil)))) sNx)
    (dSeq (sIf (dB (op2 fEq (dName 3) (dv (dC (.int 8))))) (sRetR (op2r fAdd fCat (dv (rD (cutR (dName 1) oNone (oSome (op1 fNeg (dv (dC (.int 1)))))))) (dv (dTup (dCons (op2 fIx (dName 4) (dName 5)) dNil))))) sNx)
    (dSeq (sIf (dB (op2 fEq (dName 3) (dv (dC (.int 11))))) (sRetR (op2r fAdd fCat (dv (rD (cutR (dName 1) oNone (oSome (op1 fNeg (dv (dC (.int 1)))))))) (dv (dTup (dCons (dFz (opNo fList (vCons (dName 4) vNil))) dNil))))) sNx)
    (dSeq (sIf (dAnd (dB (op2 fEq (dName 3) (dv (dC (.int 12))))) (dB (op2 fEq (dv (op2 fIx (dName 1) (dv (dC (.int 0))))) (dv (dC (.str "simple")))))) (sRet (dTup (dCons (dC (.str "simple")) (dCons (dFz (opNo fList (vCons (dv (op2 fIx (dName 1) (dv (dC (.int 1))))) vNil))) (dCons (dEsc (dName 4)) dNil))))) sNx)
    (dSeq (sIf (dAnd (dB (op2 fEq (dv (op2 fIx (dName 1) (dv (dC (.int 0))))) (dv (dC (.str "simple"))))) (dB (op2 fEq (dv (rD (callP [.m, .v] φ__law_take (vCons (dName 0) (vCons (dv (dC (.int 2))) vNil))))) (dv (dC (.int 0)))))) (sRet (dTup (dCons (dC (.str "simple")) (dCons (rD (callP [.m, .v] φ__law_bent_simple (vCons (dName 0) (vCons (dv (op2 fIx (dName 1) (dv (dC (.int 1))))) vNil)))) (dCons (dEsc (dName 4)) dNil))))) sNx)
    (dSeq (sSetO 6 (dLst (dCons (dTup (dCons (dC (.int 2)) (dCons (dC (.int 4)) (dCons (dC (.int 1)) (dCons (dC (.int 3)) dNil))))) (dCons (dTup (dCons (dC (.int 1)) (dCons (dC (.int 2)) (dCons (dC (.int 3)) (dCons (dC (.int 4)) dNil))))) (dCons (dTup (dCons (dC (.int 2)) (dCons (dC (.int 2)) (dCons (dC (.int 4)) (dCons (dC (.int 1)) dNil))))) (dCons (dTup (dCons (dC (.int 3)) (dCons (dC (.int 1)) (dCons (dC (.int 4)) (dCons (dC (.int 2)) dNil))))) (dCons (dTup (dCons (dC (.bool true)) (dCons (dC (.int 2)) (dCons (dC (.int 3)) (dCons (dC (.int 4)) dNil))))) (dCons (dTup (dCons (dC (.int 2)) (dCons (dC (.int 4)) (dCons (dC (.bool true)) (dCons (dC (.int 3)) dNil))))) (dCons (dTup (dCons (dC (.int 1)) (dCons (dC (.int 3)) (dCons (dC (.int 0)) (dCons (dC (.int 2)) dNil))))) (dCons (dTup (dCons (dC (.int 5)) (dCons (dC (.int 7)) (dCons (dC (.int 4)) (dCons (dC (.int 6)) dNil))))) dNil))))))))))
    (sRet (dTup (dCons (dC (.str "simple")) (dCons (op2 fIx (dName 6) (dv (rD (callP [.m, .v] φ__law_take (vCons (dName 0) (vCons (dv (dC (.int 8))) vNil)))))) (dCons (dEsc (dName 4)) dNil)))))))))))))))))))))))
def φ__law_bent_here : List PyData → Out := runF 7 [.m, .v] m__law_bent_here
def m__law_bent (rec : List PyData → Out) : M Fl :=
  (dSeq (sIf (dOr (dB (op2 fEq (dName 1) (dv (dTup (dCons (dC (.str "one")) dNil))))) (dB (op2 fEq (dv (rD (callP [.m, .v] φ__law_take (vCons (dName 0) (vCons (dv (dC (.int 3))) vNil))))) (dv (dC (.int 0)))))) (sRetR (callP [.m, .v] φ__law_bent_here (vCons (dName 0) (vCons (dName 1) vNil)))) sNx)
    (dSeq (sSet 2 (op2 fIx (dName 1) (dv (op1 fNeg (dv (dC (.int 1)))))))
    (dSeq (sSetR 3 (callP [.m, .v] φ__law_take (vCons (dName 0) (vCons (dv (opN fLen (vCons (dName 2) vNil))) vNil))))
    (sRetR (op2r fAdd fCat (dv (rD (cutR (dName 1) oNone (oSome (op1 fNeg (dv (dC (.int 1)))))))) (dv (dTup (dCons (rD (op2r fAdd fCat (dv (rD (op2r fAdd fCat (dv (rD (cutR (dName 2) oNone (oSome (dEsc (dName 3)))))) (dv (dTup (dCons (rD (callP [.m, .v] rec (vCons (dName 0) (vCons (dv (op2 fIx (dName 2) (dName 3))) vNil)))) dNil)))))) (dv (rD (cutR (dName 2) (oSome (rD (op2r fAdd fCat (dName 3) (dv (dC (.int 1)))))) oNone))))) dNil))))))))
def φ__law_bent : Nat → List PyData → Out
  | 0 => fun _ => .bad
  | n + 1 => runF 4 [.m, .v] (m__law_bent (φ__law_bent n))
def m__law_told : M Fl :=
  (dSeq (sSet 2 (dTup (dCons (dC (.str "wrong")) (dCons (dC .none) dNil))))
    (dSeq (sTryM 3 (sSet 2 (dIfE (dB (dEsc (dName 1))) (rD (callK [.p] φ_from_tree [0] vNil (vCons (dv (dEsc (dName 0))) vNil))) (rD (callP [.p] φ_from_tree (vCons (dv (dEsc (dName 0))) vNil)))))
    [(exOne "InvalidPair", (fun x => (sSet 2 (dTup (bnd (bnd (rt x) fun r => rt [r]) fun r => rt (.str (Str.ofString "none") :: r)))))), (exNone, (fun x => (sSet 2 (dTup (bnd (bnd (rt x) fun r => rt [r]) fun r => rt (.str (Str.ofString "wrong") :: r))))))])
    (sRetV 2)))
def φ__law_told : List PyData → Out := runF 4 [.p, .p] m__law_told
def m_law : M Fl :=
  (dSeq (sFor (.nm 1) [1, 2, 3, 4, 5, 6, 7] (iR1 (vCons (dv (opN fMax (vCons (dv (dC (.int 2))) (vCons (dv (opN fMin (vCons (dv (opN fLen (vCons (dName 0) vNil))) (vCons (dv (dC (.int 10))) vNil)))) vNil)))) vNil)) (dSeq (sSetR 2 (callP [.v, .v] φ__law_deck (vCons (dName 0) (vCons (dName 1) vNil))))
    (dSeq (sSetR 3 (callP [.m, .v] φ__law_row (vCons (dName 2) (vCons (dv (dC (.int 8))) vNil))))
    (dSeq (sSetR 4 (callP [.v] φ_tree (vCons (dv (dIfE (dB (op2 fNe (dName 3) (dv (dTup dNil)))) (dEsc (dName 3)) (dTup (dCons (dC (.int 1)) dNil)))) vNil)))
    (sFor (.nm 5) [5, 6, 7] (iR1 (vCons (dv (dC (.int 6))) vNil)) (dSeq (sSet 6 (dIfE (dB (rD (callP [.v] (φ__law_is_tree 16) (vCons (dName 4) vNil)))) (rD (callP [.m, .v] (φ__law_bent 16) (vCons (dName 2) (vCons (dName 4) vNil)))) (dTup dNil)))
    (dSeq (sSet 7 (dIfE (dB (rD (callP [.v] (φ__law_is_tree 16) (vCons (dName 6) vNil)))) (rD (callP [.v] (φ__law_grown 16) (vCons (dName 6) vNil))) (dTup (dCons (dC (.str "none")) (dCons (dEsc (dName 6)) dNil)))))
    (dSeq (sIf (dB (op2 fGt (dv (opN fLen (vCons (dName 7) vNil))) (dv (dC (.int 12))))) sCt sNx)
    (sIf (dOr (dNot (dB (rD (callP [.v] (φ__law_is_tree 16) (vCons (dName 4) vNil))))) (dNot (dB (rD (callP [.v, .v] (φ__law_same 28) (vCons (dv (rD (callP [.p, .p] φ__law_told (vCons (dv (dEsc (dName 6))) (vCons (dv (op2 fEq (dv (rD (callP [.m, .v] φ__law_take (vCons (dName 2) (vCons (dv (dC (.int 2))) vNil))))) (dv (dC (.int 1))))) vNil))))) (vCons (dName 7) vNil))))))) (sRet (dC (.bool false))) sNx)))))))))
    (sRet (dC (.bool true))))
def φ_law : List PyData → Out := runF 8 [.v] m_law
/-! ### what the top holds -/
structure EnvOk (mg : Str → Option Value) (K : PySem.W.Frag) : Prop where
  f_is_integer : ∃ f fd, Fun K "is_integer" "is_integer" s_is_integer f fd ∧ mg "is_integer" = some (.ref f)
  f_are_integers : ∃ f fd, Fun K "are_integers" "are_integers" s_are_integers f fd ∧ mg "are_integers" = some (.ref f)
  f_is_order_of : ∃ f fd, Fun K "is_order_of" "is_order_of" s_is_order_of f fd ∧ mg "is_order_of" = some (.ref f)
  f_compared : ∃ f fd, Fun K "compared" "compared" s_compared f fd ∧ mg "compared" = some (.ref f)
  f_check_filled : ∃ f fd, Fun K "check_filled" "check_filled" s_check_filled f fd ∧ mg "check_filled" = some (.ref f)
  f_lifted : ∃ f fd, Fun K "lifted" "lifted" s_lifted f fd ∧ mg "lifted" = some (.ref f)
  f_summed_of : ∃ f fd, Fun K "summed_of" "summed_of" s_summed_of f fd ∧ mg "summed_of" = some (.ref f)
  f_skew_summed_of : ∃ f fd, Fun K "skew_summed_of" "skew_summed_of" s_skew_summed_of f fd ∧ mg "skew_summed_of" = some (.ref f)
  f_parts_of_sum : ∃ f fd, Fun K "parts_of_sum" "parts_of_sum" s_parts_of_sum f fd ∧ mg "parts_of_sum" = some (.ref f)
  f_parts_of_skew : ∃ f fd, Fun K "parts_of_skew" "parts_of_skew" s_parts_of_skew f fd ∧ mg "parts_of_skew" = some (.ref f)
  f_blocks_of : ∃ f fd, Fun K "blocks_of" "blocks_of" s_blocks_of f fd ∧ mg "blocks_of" = some (.ref f)
  f_has_block : ∃ f fd, Fun K "has_block" "has_block" s_has_block f fd ∧ mg "has_block" = some (.ref f)
  f_is_simple_of : ∃ f fd, Fun K "is_simple_of" "is_simple_of" s_is_simple_of f fd ∧ mg "is_simple_of" = some (.ref f)
  f_put_together_of : ∃ f fd, Fun K "put_together_of" "put_together_of" s_put_together_of f fd ∧ mg "put_together_of" = some (.ref f)
  f_greatest_blocks : ∃ f fd, Fun K "greatest_blocks" "greatest_blocks" s_greatest_blocks f fd ∧ mg "greatest_blocks" = some (.ref f)
  f_tree_of : ∃ f fd, Fun K "tree_of" "tree_of" s_tree_of f fd ∧ mg "tree_of" = some (.ref f)
  f_tree : ∃ f fd, Fun K "tree" "tree" s_tree f fd ∧ mg "tree" = some (.ref f)
  f_joined_of : ∃ f fd, Fun K "joined_of" "joined_of" s_joined_of f fd ∧ mg "joined_of" = some (.ref f)
  f_orders_of_trees : ∃ f fd, Fun K "orders_of_trees" "orders_of_trees" s_orders_of_trees f fd ∧ mg "orders_of_trees" = some (.ref f)
  f_order_of_tree : ∃ f fd, Fun K "order_of_tree" "order_of_tree" s_order_of_tree f fd ∧ mg "order_of_tree" = some (.ref f)
  f_from_tree : ∃ f fd, Fun K "from_tree" "from_tree" s_from_tree f fd ∧ mg "from_tree" = some (.ref f)
  f__law_deck : ∃ f fd, Fun K "_law_deck" "_law_deck" s__law_deck f fd ∧ mg "_law_deck" = some (.ref f)
  f__law_take : ∃ f fd, Fun K "_law_take" "_law_take" s__law_take f fd ∧ mg "_law_take" = some (.ref f)
  f__law_same : ∃ f fd, Fun K "_law_same" "_law_same" s__law_same f fd ∧ mg "_law_same" = some (.ref f)
  f__law_drawn : ∃ f fd, Fun K "_law_drawn" "_law_drawn" s__law_drawn f fd ∧ mg "_law_drawn" = some (.ref f)
  f__law_filled : ∃ f fd, Fun K "_law_filled" "_law_filled" s__law_filled f fd ∧ mg "_law_filled" = some (.ref f)
  f__law_row : ∃ f fd, Fun K "_law_row" "_law_row" s__law_row f fd ∧ mg "_law_row" = some (.ref f)
  f__law_blocks : ∃ f fd, Fun K "_law_blocks" "_law_blocks" s__law_blocks f fd ∧ mg "_law_blocks" = some (.ref f)
  f__law_is_simple : ∃ f fd, Fun K "_law_is_simple" "_law_is_simple" s__law_is_simple f fd ∧ mg "_law_is_simple" = some (.ref f)
  f__law_is_tree : ∃ f fd, Fun K "_law_is_tree" "_law_is_tree" s__law_is_tree f fd ∧ mg "_law_is_tree" = some (.ref f)
  f__law_grown : ∃ f fd, Fun K "_law_grown" "_law_grown" s__law_grown f fd ∧ mg "_law_grown" = some (.ref f)
  f__law_bent_simple : ∃ f fd, Fun K "_law_bent_simple" "_law_bent_simple" s__law_bent_simple f fd ∧ mg "_law_bent_simple" = some (.ref f)
  f__law_bent_here : ∃ f fd, Fun K "_law_bent_here" "_law_bent_here" s__law_bent_here f fd ∧ mg "_law_bent_here" = some (.ref f)
  f__law_bent : ∃ f fd, Fun K "_law_bent" "_law_bent" s__law_bent f fd ∧ mg "_law_bent" = some (.ref f)
  f__law_told : ∃ f fd, Fun K "_law_told" "_law_told" s__law_told f fd ∧ mg "_law_told" = some (.ref f)
  f_law : ∃ f fd, Fun K "law" "law" s_law f fd ∧ mg "law" = some (.ref f)
  b_ValueError : mg "ValueError" = none
  b_all : mg "all" = none
  b_bool : mg "bool" = none
  b_enumerate : mg "enumerate" = none
  b_int : mg "int" = none
  b_isinstance : mg "isinstance" = none
  b_len : mg "len" = none
  b_list : mg "list" = none
  b_max : mg "max" = none
  b_min : mg "min" = none
  b_range : mg "range" = none
  b_sorted : mg "sorted" = none
  b_str : mg "str" = none
  b_sum : mg "sum" = none
  b_tuple : mg "tuple" = none
  b_zip : mg "zip" = none
  c_LEAST_SIMPLE : ∃ t, mg "LEAST_SIMPLE" = some (.int 4 t)
  x_InvalidPair : ExX K mg "InvalidPair" s__init
  o_OrderError : ∃ C : Addr, mg "OrderError" = some (.ref C)
/-! ### derivations -/
section
variable {P : Program} {w : World} {K : PySem.W.Frag} {mg : Str → Option Value} {base : Heap}
theorem sc__init : FnScope ["self", "value"] ["self", "value"] (defScope s__init) := ⟨rfl, rfl, rfl, by decide +kernel, rfl, by decide +kernel, by decide +kernel⟩
theorem raise_InvalidPair (e : EnvOk mg K) : ∃ C fI, ExC K mg "InvalidPair" C fI ∧ InitP P w K mg base fI 1 ∧ XfC K C ∧ PySem.W.exmOne K (.ref C) (.ref C) = some true := by
  obtain ⟨⟨C, fI, fd, qual, a, b, c, d, F⟩, vV⟩ := e.x_InvalidPair
  exact ⟨C, fI, a, ⟨⟨fd, d, ok_init F sc__init fun cdv A outer s H E => (pss_cons (ps_expr (pe_veinit (by rfl) e.b_ValueError vV (pa_cons (pe_var (i := 0) rfl (by first | exact Or.inl rfl | exact Or.inr (Or.inl rfl) | exact Or.inr (Or.inr rfl))) (pa_cons (pe_var (i := 1) rfl (by first | exact Or.inl rfl | exact Or.inr (Or.inl rfl) | exact Or.inr (Or.inr rfl))) pa_nil)))) (pss_one (ps_ost (pe_var (i := 0) rfl (by first | exact Or.inl rfl | exact Or.inr (Or.inl rfl) | exact Or.inr (Or.inr rfl))) (pe_var (i := 1) rfl (by first | exact Or.inl rfl | exact Or.inr (Or.inl rfl) | exact Or.inr (Or.inr rfl)))))), F.binds (ps := ["self", "value"]) fun _ _ _ _ _ _ us hl => match us, hl with | [_, _], _ => rfl⟩⟩, b, c⟩
theorem sc_is_integer : FnScope ["value"] ["value"] (defScope s_is_integer) := ⟨rfl, rfl, rfl, by decide +kernel, rfl, by decide +kernel, by decide +kernel⟩
theorem fn_is_integer (e : EnvOk mg K) : FnP P w K mg base "is_integer" s_is_integer 1 ["value"] [.v] φ_is_integer := by
  obtain ⟨f, fd, F, hm⟩ := e.f_is_integer
  refine fnP_mk (k := 0) (N := ["value"]) F hm (F.binds (ps := ["value"]) fun _ _ _ _ _ _ us hl => match us, hl with | [_], _ => rfl) sc_is_integer rfl rfl fun cdv A outer s H E hr => ?_
  exact (dss_one (ds_ret (dp_and (dp_isi (t := .int) (by rfl) e.b_isinstance (zv 0) (by rfl) e.b_int boot_int) (dp_one (dp_not (dp_isi (t := .bool) (by rfl) e.b_isinstance (zv 0) (by rfl) e.b_bool boot_bool))))))
theorem sc_are_integers : FnScope ["value", "a"] ["value"] (defScope s_are_integers) := ⟨rfl, rfl, rfl, by decide +kernel, rfl, by decide +kernel, by decide +kernel⟩
theorem fn_are_integers (e : EnvOk mg K) : FnP P w K mg base "are_integers" s_are_integers 2 ["value"] [.v] φ_are_integers := by
  obtain ⟨f, fd, F, hm⟩ := e.f_are_integers
  refine fnP_mk (k := 1) (N := ["value", "a"]) F hm (F.binds (ps := ["value"]) fun _ _ _ _ _ _ us hl => match us, hl with | [_], _ => rfl) sc_are_integers rfl rfl fun cdv A outer s H E hr => ?_
  exact (dss_one (ds_ret (dp_and (dp_isi (t := .tuple) (by rfl) e.b_isinstance (zv 0) (by rfl) e.b_tuple boot_tuple) (dp_one (dp_callB (cd_all rfl) (by rfl) e.b_all boot_all (dvs_cons (dv_of (dp_fz (do_comp [("a", 1)] rfl sc_are_integers.nd (di_val (zv 0)) (blkOk_by (by rfl)) (fun _ _ _ _ _ => (dgb_any (dg_name (i := 1) sc_are_integers.nd rfl (by first | exact Or.inl rfl | exact Or.inr rfl)))) (fun _ _ _ _ _ => dts_nil) (fun _ _ _ _ _ => (dp_ofR (dr_fn ((fn_is_integer e).mono (by omega)) hr (by rfl) (dvs_cons (zv 1) dvs_nil)))) (by simp [tgS, tgsS])))) dvs_nil))))))
theorem sc_is_order_of : FnScope ["told"] ["told"] (defScope s_is_order_of) := ⟨rfl, rfl, rfl, by decide +kernel, rfl, by decide +kernel, by decide +kernel⟩
theorem fn_is_order_of (e : EnvOk mg K) : FnP P w K mg base "is_order_of" s_is_order_of 3 ["told"] [.v] φ_is_order_of := by
  obtain ⟨f, fd, F, hm⟩ := e.f_is_order_of
  refine fnP_mk (k := 2) (N := ["told"]) F hm (F.binds (ps := ["told"]) fun _ _ _ _ _ _ us hl => match us, hl with | [_], _ => rfl) sc_is_order_of rfl rfl fun cdv A outer s H E hr => ?_
  exact (dss_one (ds_ret (dp_and (dp_ofR (dr_fn ((fn_are_integers e).mono (by omega)) hr (by rfl) (dvs_cons (zv 0) dvs_nil))) (dp_one (dp_cmp (or_eq hr.units) (dv_of (dp_fz (do_callB (cd_sorted hr.units) (by rfl) e.b_sorted boot_sorted (dvs_cons (zv 0) dvs_nil)))) (dv_of (dp_fz (do_lstRg rfl (by rfl) e.b_list (drg2 (by rfl) e.b_range (dv_of dp_int) (dv_of (dp_ofR (dr_bin or_add or_cat (dv_of (dp_callB cd_len (by rfl) e.b_len boot_len (dvs_cons (zv 0) dvs_nil))) (dv_of dp_int)))))))) (by rfl))))))
theorem sc_compared : FnScope ["numbers", "rank", "at", "number"] ["numbers"] (defScope s_compared) := ⟨rfl, rfl, rfl, by decide +kernel, rfl, by decide +kernel, by decide +kernel⟩
theorem fn_compared (e : EnvOk mg K) : FnP P w K mg base "compared" s_compared 1 ["numbers"] [.v] φ_compared := by
  obtain ⟨f, fd, F, hm⟩ := e.f_compared
  refine fnP_mk (k := 0) (N := ["numbers", "rank", "at", "number"]) F hm (F.binds (ps := ["numbers"]) fun _ _ _ _ _ _ us hl => match us, hl with | [_], _ => rfl) sc_compared rfl rfl fun cdv A outer s H E hr => ?_
  exact (dss_cons (ds_set (i := 1) sc_compared.nd rfl (by first | exact Or.inl rfl | exact Or.inr rfl) (dp_dcomp [("at", 2), ("number", 3)] rfl sc_compared.nd (di_enumO (by rfl) e.b_enumerate (do_callB (cd_sorted hr.units) (by rfl) e.b_sorted boot_sorted (dvs_cons (zv 0) dvs_nil))) (blkOk_by (by rfl)) (fun _ _ _ _ _ => (dgb_tup rfl (dgs_cons (dg_name (i := 2) sc_compared.nd rfl (by first | exact Or.inl rfl | exact Or.inr rfl)) (dgs_cons (dg_name (i := 3) sc_compared.nd rfl (by first | exact Or.inl rfl | exact Or.inr rfl)) dgs_nil)))) (fun _ _ _ _ _ => dts_nil) (fun _ _ _ _ _ => (dp_esc (zv 3))) (fun _ _ _ _ _ => (dp_ofR (dr_bin or_add or_cat (zv 2) (dv_of dp_int)))) (by simp [tgS, tgsS])))
      (dss_one (ds_ret (dp_callTy cd_tuple (by rfl) e.b_tuple boot_tuple (dvs_cons (dv_of (dp_fz (do_comp [("number", 3)] rfl sc_compared.nd (di_val (zv 0)) (blkOk_by (by rfl)) (fun _ _ _ _ _ => (dgb_any (dg_name (i := 3) sc_compared.nd rfl (by first | exact Or.inl rfl | exact Or.inr rfl)))) (fun _ _ _ _ _ => dts_nil) (fun _ _ _ _ _ => (dp_ix (ixr hr.units) (zv 1) (zv 3) (fun _ _ => rfl))) (by simp [tgS, tgsS])))) dvs_nil)))))
theorem sc_check_filled : FnScope ["order"] ["order"] (defScope s_check_filled) := ⟨rfl, rfl, rfl, by decide +kernel, rfl, by decide +kernel, by decide +kernel⟩
theorem fn_check_filled (e : EnvOk mg K) : FnP P w K mg base "check_filled" s_check_filled 4 ["order"] [.v] φ_check_filled := by
  obtain ⟨f, fd, F, hm⟩ := e.f_check_filled
  refine fnP_mk (k := 3) (N := ["order"]) F hm (F.binds (ps := ["order"]) fun _ _ _ _ _ _ us hl => match us, hl with | [_], _ => rfl) sc_check_filled rfl rfl fun cdv A outer s H E hr => ?_
  exact (dss_one (ds_if (dt_w (dw_or (dt_cmp (or_eq hr.units) (zv 0) (dv_of (dp_tup dps_nil)) (by rfl)) (dw_or1 (dt_not (dt_val (dp_ofR (dr_fn ((fn_is_order_of e).mono (by omega)) hr (by rfl) (dvs_cons (zv 0) dvs_nil)))))))) (dss_one ds_bad) dss_nil))
theorem sc_lifted : FnScope ["order", "by", "number"] ["order", "by"] (defScope s_lifted) := ⟨rfl, rfl, rfl, by decide +kernel, rfl, by decide +kernel, by decide +kernel⟩
theorem fn_lifted (e : EnvOk mg K) : FnP P w K mg base "lifted" s_lifted 1 ["order", "by"] [.v, .v] φ_lifted := by
  obtain ⟨f, fd, F, hm⟩ := e.f_lifted
  refine fnP_mk (k := 0) (N := ["order", "by", "number"]) F hm (F.binds (ps := ["order", "by"]) fun _ _ _ _ _ _ us hl => match us, hl with | [_, _], _ => rfl) sc_lifted rfl rfl fun cdv A outer s H E hr => ?_
  exact (dss_one (ds_ret (dp_callTy cd_tuple (by rfl) e.b_tuple boot_tuple (dvs_cons (dv_of (dp_fz (do_comp [("number", 2)] rfl sc_lifted.nd (di_val (zv 0)) (blkOk_by (by rfl)) (fun _ _ _ _ _ => (dgb_any (dg_name (i := 2) sc_lifted.nd rfl (by first | exact Or.inl rfl | exact Or.inr rfl)))) (fun _ _ _ _ _ => dts_nil) (fun _ _ _ _ _ => (dp_ofR (dr_bin or_add or_cat (zv 2) (zv 1)))) (by simp [tgS, tgsS])))) dvs_nil))))
theorem sc_summed_of : FnScope ["one", "other"] ["one", "other"] (defScope s_summed_of) := ⟨rfl, rfl, rfl, by decide +kernel, rfl, by decide +kernel, by decide +kernel⟩
theorem fn_summed_of (e : EnvOk mg K) : FnP P w K mg base "summed_of" s_summed_of 2 ["one", "other"] [.v, .v] φ_summed_of := by
  obtain ⟨f, fd, F, hm⟩ := e.f_summed_of
  refine fnP_mk (k := 1) (N := ["one", "other"]) F hm (F.binds (ps := ["one", "other"]) fun _ _ _ _ _ _ us hl => match us, hl with | [_, _], _ => rfl) sc_summed_of rfl rfl fun cdv A outer s H E hr => ?_
  exact (dss_one (ds_retR (dr_bin or_add or_cat (zv 0) (dv_of (dp_ofR (dr_fn ((fn_lifted e).mono (by omega)) hr (by rfl) (dvs_cons (zv 1) (dvs_cons (dv_of (dp_callB cd_len (by rfl) e.b_len boot_len (dvs_cons (zv 0) dvs_nil))) dvs_nil))))))))
theorem sc_skew_summed_of : FnScope ["one", "other"] ["one", "other"] (defScope s_skew_summed_of) := ⟨rfl, rfl, rfl, by decide +kernel, rfl, by decide +kernel, by decide +kernel⟩
theorem fn_skew_summed_of (e : EnvOk mg K) : FnP P w K mg base "skew_summed_of" s_skew_summed_of 2 ["one", "other"] [.v, .v] φ_skew_summed_of := by
  obtain ⟨f, fd, F, hm⟩ := e.f_skew_summed_of
  refine fnP_mk (k := 1) (N := ["one", "other"]) F hm (F.binds (ps := ["one", "other"]) fun _ _ _ _ _ _ us hl => match us, hl with | [_, _], _ => rfl) sc_skew_summed_of rfl rfl fun cdv A outer s H E hr => ?_
  exact (dss_one (ds_retR (dr_bin or_add or_cat (dv_of (dp_ofR (dr_fn ((fn_lifted e).mono (by omega)) hr (by rfl) (dvs_cons (zv 0) (dvs_cons (dv_of (dp_callB cd_len (by rfl) e.b_len boot_len (dvs_cons (zv 1) dvs_nil))) dvs_nil))))) (zv 1))))
theorem sc_parts_of_sum : FnScope ["order", "found", "begin", "greatest", "at", "number"] ["order"] (defScope s_parts_of_sum) := ⟨rfl, rfl, rfl, by decide +kernel, rfl, by decide +kernel, by decide +kernel⟩
theorem fn_parts_of_sum (e : EnvOk mg K) : FnP P w K mg base "parts_of_sum" s_parts_of_sum 2 ["order"] [.v] φ_parts_of_sum := by
  obtain ⟨f, fd, F, hm⟩ := e.f_parts_of_sum
  refine fnP_mk (k := 1) (N := ["order", "found", "begin", "greatest", "at", "number"]) F hm (F.binds (ps := ["order"]) fun _ _ _ _ _ _ us hl => match us, hl with | [_], _ => rfl) sc_parts_of_sum rfl rfl fun cdv A outer s H E hr => ?_
  exact (dss_cons (ds_par3 (i := 1) (j := 2) (l := 3) rfl sc_parts_of_sum.nd rfl rfl rfl (by decide) (by decide) (by decide) rfl rfl rfl (dms_o (do_lst dps_nil) (dms_d dp_int (dms_d dp_int dms_nil))))
      (dss_cons (ds_for [4, 5] passX rfl (di_enum (by rfl) e.b_enumerate (zv 0)) (dgb_tup rfl (dgs_cons (dg_name (i := 4) sc_parts_of_sum.nd rfl (by first | exact Or.inl rfl | exact Or.inr rfl)) (dgs_cons (dg_name (i := 5) sc_parts_of_sum.nd rfl (by first | exact Or.inl rfl | exact Or.inr rfl)) dgs_nil))) (dss_cons (ds_set (i := 3) sc_parts_of_sum.nd rfl (by first | exact Or.inl rfl | exact Or.inr rfl) (dp_callB (cd_max rfl) (by rfl) e.b_max boot_max (dvs_cons (zv 3) (dvs_cons (zv 5) dvs_nil))))
      (dss_one (ds_if (dt_cmp (or_eq hr.units) (zv 3) (dv_of (dp_ofR (dr_bin or_add or_cat (zv 4) (dv_of dp_int)))) (by rfl)) (dss_cons (ds_expr (dp_mut (i := 1) rfl (by first | exact Or.inl rfl | exact Or.inr (Or.inl rfl) | exact Or.inr (Or.inr rfl)) PySem.F.slot_list_append PySem.F.type_list_append mr_append (dps_cons (dp_ofR (dr_fn ((fn_lifted e).mono (by omega)) hr (by rfl) (dvs_cons (dv_of (dp_ofR (dr_cut (zv 0) (dpo_some (dp_esc (zv 2))) (dpo_some (dp_ofR (dr_bin or_add or_cat (zv 4) (dv_of dp_int))))))) (dvs_cons (dv_of (dp_un un_negD (zv 2))) dvs_nil)))) dps_nil)))
      (dss_one (ds_setR (i := 2) sc_parts_of_sum.nd rfl (by first | exact Or.inl rfl | exact Or.inr rfl) (dr_bin or_add or_cat (zv 4) (dv_of dp_int))))) dss_nil))))
      (dss_one (ds_ret (dp_callTy cd_tuple (by rfl) e.b_tuple boot_tuple (dvs_cons (zv 1) dvs_nil))))))
theorem sc_parts_of_skew : FnScope ["order", "many", "mirror", "number", "part"] ["order"] (defScope s_parts_of_skew) := ⟨rfl, rfl, rfl, by decide +kernel, rfl, by decide +kernel, by decide +kernel⟩
theorem fn_parts_of_skew (e : EnvOk mg K) : FnP P w K mg base "parts_of_skew" s_parts_of_skew 3 ["order"] [.v] φ_parts_of_skew := by
  obtain ⟨f, fd, F, hm⟩ := e.f_parts_of_skew
  refine fnP_mk (k := 2) (N := ["order", "many", "mirror", "number", "part"]) F hm (F.binds (ps := ["order"]) fun _ _ _ _ _ _ us hl => match us, hl with | [_], _ => rfl) sc_parts_of_skew rfl rfl fun cdv A outer s H E hr => ?_
  exact (dss_cons (ds_set (i := 1) sc_parts_of_skew.nd rfl (by first | exact Or.inl rfl | exact Or.inr rfl) (dp_callB cd_len (by rfl) e.b_len boot_len (dvs_cons (zv 0) dvs_nil)))
      (dss_cons (ds_set (i := 2) sc_parts_of_skew.nd rfl (by first | exact Or.inl rfl | exact Or.inr rfl) (dp_callTy cd_tuple (by rfl) e.b_tuple boot_tuple (dvs_cons (dv_of (dp_fz (do_comp [("number", 3)] rfl sc_parts_of_skew.nd (di_val (zv 0)) (blkOk_by (by rfl)) (fun _ _ _ _ _ => (dgb_any (dg_name (i := 3) sc_parts_of_skew.nd rfl (by first | exact Or.inl rfl | exact Or.inr rfl)))) (fun _ _ _ _ _ => dts_nil) (fun _ _ _ _ _ => (dp_bin or_sub (dv_of (dp_ofR (dr_bin or_add or_cat (zv 1) (dv_of dp_int)))) (zv 3))) (by simp [tgS, tgsS])))) dvs_nil)))
      (dss_one (ds_ret (dp_callTy cd_tuple (by rfl) e.b_tuple boot_tuple (dvs_cons (dv_of (dp_fz (do_comp [("part", 4)] rfl sc_parts_of_skew.nd (di_val (dv_of (dp_ofR (dr_fn ((fn_parts_of_sum e).mono (by omega)) hr (by rfl) (dvs_cons (zv 2) dvs_nil))))) (blkOk_by (by rfl)) (fun _ _ _ _ _ => (dgb_any (dg_name (i := 4) sc_parts_of_skew.nd rfl (by first | exact Or.inl rfl | exact Or.inr rfl)))) (fun _ _ _ _ _ => dts_nil) (fun _ _ _ _ _ => (dp_callTy cd_tuple (by rfl) e.b_tuple boot_tuple (dvs_cons (dv_of (dp_fz (do_comp [("number", 3)] rfl sc_parts_of_skew.nd (di_val (zv 4)) (blkOk_by (by rfl)) (fun _ _ _ _ _ => (dgb_any (dg_name (i := 3) sc_parts_of_skew.nd rfl (by first | exact Or.inl rfl | exact Or.inr rfl)))) (fun _ _ _ _ _ => dts_nil) (fun _ _ _ _ _ => (dp_bin or_sub (dv_of (dp_ofR (dr_bin or_add or_cat (dv_of (dp_callB cd_len (by rfl) e.b_len boot_len (dvs_cons (zv 4) dvs_nil))) (dv_of dp_int)))) (zv 3))) (by simp [tgS, tgsS])))) dvs_nil))) (by simp [tgS, tgsS])))) dvs_nil))))))
theorem sc_blocks_of : FnScope ["order", "found", "begin", "end", "numbers"] ["order"] (defScope s_blocks_of) := ⟨rfl, rfl, rfl, by decide +kernel, rfl, by decide +kernel, by decide +kernel⟩
theorem fn_blocks_of (e : EnvOk mg K) : FnP P w K mg base "blocks_of" s_blocks_of 1 ["order"] [.v] φ_blocks_of := by
  obtain ⟨f, fd, F, hm⟩ := e.f_blocks_of
  refine fnP_mk (k := 0) (N := ["order", "found", "begin", "end", "numbers"]) F hm (F.binds (ps := ["order"]) fun _ _ _ _ _ _ us hl => match us, hl with | [_], _ => rfl) sc_blocks_of rfl rfl fun cdv A outer s H E hr => ?_
  exact (dss_cons (ds_setO (i := 1) sc_blocks_of.nd rfl (by first | exact Or.inl rfl | exact Or.inr rfl) (do_lst dps_nil))
      (dss_cons (ds_for [2, 3, 4] passX rfl (di_range1 (by rfl) e.b_range (dvs_cons (dv_of (dp_callB cd_len (by rfl) e.b_len boot_len (dvs_cons (zv 0) dvs_nil))) dvs_nil)) (dgb_any (dg_name (i := 2) sc_blocks_of.nd rfl (by first | exact Or.inl rfl | exact Or.inr rfl))) (dss_one (ds_for [3, 4] passX rfl (di_range2 (by rfl) e.b_range (dvs_cons (dv_of (dp_ofR (dr_bin or_add or_cat (zv 2) (dv_of dp_int)))) (dvs_cons (dv_of (dp_ofR (dr_bin or_add or_cat (dv_of (dp_callB cd_len (by rfl) e.b_len boot_len (dvs_cons (zv 0) dvs_nil))) (dv_of dp_int)))) dvs_nil))) (dgb_any (dg_name (i := 3) sc_blocks_of.nd rfl (by first | exact Or.inl rfl | exact Or.inr rfl))) (dss_cons (ds_setR (i := 4) sc_blocks_of.nd rfl (by first | exact Or.inl rfl | exact Or.inr rfl) (dr_cut (zv 0) (dpo_some (dp_esc (zv 2))) (dpo_some (dp_esc (zv 3)))))
      (dss_one (ds_if (dt_cmp (or_eq hr.units) (dv_of (dp_bin or_sub (dv_of (dp_callB (cd_max rfl) (by rfl) e.b_max boot_max (dvs_cons (zv 4) dvs_nil))) (dv_of (dp_callB (cd_min rfl) (by rfl) e.b_min boot_min (dvs_cons (zv 4) dvs_nil))))) (dv_of (dp_bin or_sub (dv_of (dp_bin or_sub (zv 3) (zv 2))) (dv_of dp_int))) (by rfl)) (dss_one (ds_expr (dp_mut (i := 1) rfl (by first | exact Or.inl rfl | exact Or.inr (Or.inl rfl) | exact Or.inr (Or.inr rfl)) PySem.F.slot_list_append PySem.F.type_list_append mr_append (dps_cons (dp_tup (dps_cons (dp_esc (zv 2)) (dps_cons (dp_esc (zv 3)) dps_nil))) dps_nil)))) dss_nil))))))
      (dss_one (ds_retV (i := 1) rfl (by first | exact Or.inl rfl | exact Or.inr (Or.inl rfl) | exact Or.inr (Or.inr rfl))))))
theorem sc_has_block : FnScope ["order", "begin", "least", "greatest", "end"] ["order", "begin"] (defScope s_has_block) := ⟨rfl, rfl, rfl, by decide +kernel, rfl, by decide +kernel, by decide +kernel⟩
theorem fn_has_block (e : EnvOk mg K) : FnP P w K mg base "has_block" s_has_block 1 ["order", "begin"] [.v, .v] φ_has_block := by
  obtain ⟨f, fd, F, hm⟩ := e.f_has_block
  refine fnP_mk (k := 0) (N := ["order", "begin", "least", "greatest", "end"]) F hm (F.binds (ps := ["order", "begin"]) fun _ _ _ _ _ _ us hl => match us, hl with | [_, _], _ => rfl) sc_has_block rfl rfl fun cdv A outer s H E hr => ?_
  exact (dss_cons (ds_par (i := 2) (j := 3) rfl sc_has_block.nd rfl rfl (by decide) rfl rfl (dms_d (dp_ix (ixr hr.units) (zv 0) (zv 1) (fun _ _ => rfl)) (dms_d (dp_ix (ixr hr.units) (zv 0) (zv 1) (fun _ _ => rfl)) dms_nil)))
      (dss_cons (ds_for [4] passX rfl (di_range2 (by rfl) e.b_range (dvs_cons (dv_of (dp_ofR (dr_bin or_add or_cat (zv 1) (dv_of dp_int)))) (dvs_cons (dv_of (dp_callB cd_len (by rfl) e.b_len boot_len (dvs_cons (zv 0) dvs_nil))) dvs_nil))) (dgb_any (dg_name (i := 4) sc_has_block.nd rfl (by first | exact Or.inl rfl | exact Or.inr rfl))) (dss_cons (ds_par (i := 2) (j := 3) rfl sc_has_block.nd rfl rfl (by decide) rfl rfl (dms_d (dp_callB (cd_min rfl) (by rfl) e.b_min boot_min (dvs_cons (zv 2) (dvs_cons (dv_of (dp_ix (ixr hr.units) (zv 0) (zv 4) (fun _ _ => rfl))) dvs_nil))) (dms_d (dp_callB (cd_max rfl) (by rfl) e.b_max boot_max (dvs_cons (zv 3) (dvs_cons (dv_of (dp_ix (ixr hr.units) (zv 0) (zv 4) (fun _ _ => rfl))) dvs_nil))) dms_nil)))
      (dss_one (ds_if (dt_chain (or_eq hr.units) or_lt (dv_of (dp_bin or_sub (zv 3) (zv 2))) (dv_of (dp_bin or_sub (zv 4) (zv 1))) (dv_of (dp_bin or_sub (dv_of (dp_callB cd_len (by rfl) e.b_len boot_len (dvs_cons (zv 0) dvs_nil))) (dv_of dp_int)))) (dss_one (ds_ret dp_bool)) dss_nil))))
      (dss_one (ds_ret dp_bool))))
theorem sc_is_simple_of : FnScope ["order", "begin"] ["order"] (defScope s_is_simple_of) := ⟨rfl, rfl, rfl, by decide +kernel, rfl, by decide +kernel, by decide +kernel⟩
theorem fn_is_simple_of (e : EnvOk mg K) : FnP P w K mg base "is_simple_of" s_is_simple_of 2 ["order"] [.v] φ_is_simple_of := by
  obtain ⟨f, fd, F, hm⟩ := e.f_is_simple_of
  refine fnP_mk (k := 1) (N := ["order", "begin"]) F hm (F.binds (ps := ["order"]) fun _ _ _ _ _ _ us hl => match us, hl with | [_], _ => rfl) sc_is_simple_of rfl rfl fun cdv A outer s H E hr => ?_
  exact (dss_cons (ds_for [1] passX rfl (di_range1 (by rfl) e.b_range (dvs_cons (dv_of (dp_callB cd_len (by rfl) e.b_len boot_len (dvs_cons (zv 0) dvs_nil))) dvs_nil)) (dgb_any (dg_name (i := 1) sc_is_simple_of.nd rfl (by first | exact Or.inl rfl | exact Or.inr rfl))) (dss_one (ds_if (dt_val (dp_ofR (dr_fn ((fn_has_block e).mono (by omega)) hr (by rfl) (dvs_cons (zv 0) (dvs_cons (zv 1) dvs_nil))))) (dss_one (ds_ret dp_bool)) dss_nil)))
      (dss_one (ds_ret (dp_cmp or_ge (dv_of (dp_callB cd_len (by rfl) e.b_len boot_len (dvs_cons (zv 0) dvs_nil))) (dv_of (dp_glob (by rfl) e.c_LEAST_SIMPLE)) (by rfl)))))
theorem sc_put_together_of : FnScope ["order", "orders", "below", "number", "own", "other", "found", "by"] ["order", "orders"] (defScope s_put_together_of) := ⟨rfl, rfl, rfl, by decide +kernel, rfl, by decide +kernel, by decide +kernel⟩
theorem fn_put_together_of (e : EnvOk mg K) : FnP P w K mg base "put_together_of" s_put_together_of 2 ["order", "orders"] [.v, .v] φ_put_together_of := by
  obtain ⟨f, fd, F, hm⟩ := e.f_put_together_of
  refine fnP_mk (k := 1) (N := ["order", "orders", "below", "number", "own", "other", "found", "by"]) F hm (F.binds (ps := ["order", "orders"]) fun _ _ _ _ _ _ us hl => match us, hl with | [_, _], _ => rfl) sc_put_together_of rfl rfl fun cdv A outer s H E hr => ?_
  exact (dss_cons (ds_setO (i := 2) sc_put_together_of.nd rfl (by first | exact Or.inl rfl | exact Or.inr rfl) (do_lst dps_nil))
      (dss_cons (ds_for [3] passX rfl (di_val (zv 0)) (dgb_any (dg_name (i := 3) sc_put_together_of.nd rfl (by first | exact Or.inl rfl | exact Or.inr rfl))) (dss_one (ds_expr (dp_mut (i := 2) rfl (by first | exact Or.inl rfl | exact Or.inr (Or.inl rfl) | exact Or.inr (Or.inr rfl)) PySem.F.slot_list_append PySem.F.type_list_append mr_append (dps_cons (dp_callB (cd_sum rfl) (by rfl) e.b_sum boot_sum (dvs_cons (dv_of (dp_fz (do_comp [("own", 4), ("other", 5)] rfl sc_put_together_of.nd (di_zip (by rfl) e.b_zip (dvs_cons (zv 1) (dvs_cons (zv 0) dvs_nil))) (blkOk_by (by rfl)) (fun _ _ _ _ _ => (dgb_tup rfl (dgs_cons (dg_name (i := 4) sc_put_together_of.nd rfl (by first | exact Or.inl rfl | exact Or.inr rfl)) (dgs_cons (dg_name (i := 5) sc_put_together_of.nd rfl (by first | exact Or.inl rfl | exact Or.inr rfl)) dgs_nil)))) (fun _ _ _ _ _ => (dts_one (dt_cmp or_lt (zv 5) (zv 3) (by rfl)))) (fun _ _ _ _ _ => (dp_callB cd_len (by rfl) e.b_len boot_len (dvs_cons (zv 4) dvs_nil))) (by simp [tgS, tgsS])))) dvs_nil)) dps_nil)))))
      (dss_cons (ds_set (i := 6) sc_put_together_of.nd rfl (by first | exact Or.inl rfl | exact Or.inr rfl) (dp_tup dps_nil))
      (dss_cons (ds_for [4, 7] passX rfl (di_zip (by rfl) e.b_zip (dvs_cons (zv 1) (dvs_cons (zv 2) dvs_nil))) (dgb_tup rfl (dgs_cons (dg_name (i := 4) sc_put_together_of.nd rfl (by first | exact Or.inl rfl | exact Or.inr rfl)) (dgs_cons (dg_name (i := 7) sc_put_together_of.nd rfl (by first | exact Or.inl rfl | exact Or.inr rfl)) dgs_nil))) (dss_one (ds_setR (i := 6) sc_put_together_of.nd rfl (by first | exact Or.inl rfl | exact Or.inr rfl) (dr_bin or_add or_cat (zv 6) (dv_of (dp_ofR (dr_fn ((fn_lifted e).mono (by omega)) hr (by rfl) (dvs_cons (zv 4) (dvs_cons (zv 7) dvs_nil)))))))))
      (dss_one (ds_retV (i := 6) rfl (by first | exact Or.inl rfl | exact Or.inr (Or.inl rfl) | exact Or.inr (Or.inr rfl))))))))
theorem sc_greatest_blocks : FnScope ["order", "rest", "block", "found", "begin", "end", "start", "stop"] ["order"] (defScope s_greatest_blocks) := ⟨rfl, rfl, rfl, by decide +kernel, rfl, by decide +kernel, by decide +kernel⟩
theorem fn_greatest_blocks (e : EnvOk mg K) : FnP P w K mg base "greatest_blocks" s_greatest_blocks 2 ["order"] [.v] φ_greatest_blocks := by
  obtain ⟨f, fd, F, hm⟩ := e.f_greatest_blocks
  refine fnP_mk (k := 1) (N := ["order", "rest", "block", "found", "begin", "end", "start", "stop"]) F hm (F.binds (ps := ["order"]) fun _ _ _ _ _ _ us hl => match us, hl with | [_], _ => rfl) sc_greatest_blocks rfl rfl fun cdv A outer s H E hr => ?_
  exact (dss_cons (ds_setComp [("block", 2)] (i := 1) rfl sc_greatest_blocks.nd rfl rfl (sw_true rfl rfl (by rfl) (by rfl)) (di_val (dv_of (dp_ofR (dr_fn ((fn_blocks_of e).mono (by omega)) hr (by rfl) (dvs_cons (zv 0) dvs_nil))))) (blkOk_by (by rfl)) (fun _ _ _ _ _ => (dgb_any (dg_name (i := 2) sc_greatest_blocks.nd rfl (by first | exact Or.inl rfl | exact Or.inr rfl)))) (fun _ _ _ _ _ => (dts_one (dt_cmp (or_ne hr.units) (zv 2) (dv_of (dp_tup (dps_cons dp_int (dps_cons (dp_callB cd_len (by rfl) e.b_len boot_len (dvs_cons (zv 0) dvs_nil)) dps_nil)))) (by rfl)))) (fun _ _ _ _ _ => (dp_esc (zv 2))) (by simp [tgS, tgsS]))
      (dss_cons (ds_parG rfl sc_greatest_blocks.nd (.cons (i := 3) rfl (by first | exact Or.inl rfl | exact Or.inr rfl) (.inl rfl) rfl (.cons (i := 4) rfl (by first | exact Or.inl rfl | exact Or.inr rfl) (.inl rfl) rfl .nil)) (dms_o (do_lst dps_nil) (dms_d dp_int dms_nil)) (by decide))
      (dss_cons (ds_while [5] passX (dt_cmp or_lt (zv 4) (dv_of (dp_callB cd_len (by rfl) e.b_len boot_len (dvs_cons (zv 0) dvs_nil))) (by rfl)) (dss_cons (ds_set (i := 5) sc_greatest_blocks.nd rfl (by first | exact Or.inl rfl | exact Or.inr rfl) (dp_callB (cd_max rfl) (by rfl) e.b_max boot_max (dvs_cons (dv_of (dp_fz (do_comp [("start", 6), ("stop", 7)] rfl sc_greatest_blocks.nd (di_val (zv 1)) (blkOk_by (by rfl)) (fun _ _ _ _ _ => (dgb_any (dg_tup rfl (dgs_cons (dg_name (i := 6) sc_greatest_blocks.nd rfl (by first | exact Or.inl rfl | exact Or.inr rfl)) (dgs_cons (dg_name (i := 7) sc_greatest_blocks.nd rfl (by first | exact Or.inl rfl | exact Or.inr rfl)) dgs_nil))))) (fun _ _ _ _ _ => (dts_one (dt_cmp (or_eq hr.units) (zv 6) (zv 4) (by rfl)))) (fun _ _ _ _ _ => (dp_esc (zv 7))) (by simp [tgS, tgsS])))) dvs_nil)))
      (dss_cons (ds_expr (dp_mut (i := 3) rfl (by first | exact Or.inl rfl | exact Or.inr (Or.inl rfl) | exact Or.inr (Or.inr rfl)) PySem.F.slot_list_append PySem.F.type_list_append mr_append (dps_cons (dp_tup (dps_cons (dp_esc (zv 4)) (dps_cons (dp_esc (zv 5)) dps_nil))) dps_nil)))
      (dss_one (ds_move (i := 4) (j := 5) sc_greatest_blocks.nd rfl (by first | exact Or.inl rfl | exact Or.inr rfl) rfl (by first | exact Or.inl rfl | exact Or.inr (Or.inl rfl) | exact Or.inr (Or.inr rfl)))))))
      (dss_one (ds_retV (i := 3) rfl (by first | exact Or.inl rfl | exact Or.inr (Or.inl rfl) | exact Or.inr (Or.inr rfl)))))))
theorem sc_tree_of : FnScope ["order", "word", "some", "part", "stretches", "simple", "begin", "end"] ["order"] (defScope s_tree_of) := ⟨rfl, rfl, rfl, by decide +kernel, rfl, by decide +kernel, by decide +kernel⟩
theorem fn_tree_of (e : EnvOk mg K) : ∀ n : Nat, FnP P w K mg base "tree_of" s_tree_of (n + 4) ["order"] [.v] (φ_tree_of n)
  | 0 => by
    obtain ⟨f, fd, F, hm⟩ := e.f_tree_of
    exact fnP_bad F hm (F.binds (ps := ["order"]) fun _ _ _ _ _ _ us hl => match us, hl with | [_], _ => rfl)
  | n + 1 => by
    have ih := fn_tree_of e n
    obtain ⟨f, fd, F, hm⟩ := e.f_tree_of
    refine (show n + 1 + 4 = (n + 4) + 1 by omega) ▸ fnP_mk (N := ["order", "word", "some", "part", "stretches", "simple", "begin", "end"]) F hm (F.binds (ps := ["order"]) fun _ _ _ _ _ _ us hl => match us, hl with | [_], _ => rfl) sc_tree_of rfl rfl fun cdv A outer s H E hr => ?_
    exact (dss_cons (ds_if (dt_cmp (or_eq hr.units) (dv_of (dp_callB cd_len (by rfl) e.b_len boot_len (dvs_cons (zv 0) dvs_nil))) (dv_of dp_int) (by rfl)) (dss_one (ds_ret (dp_tup (dps_cons dp_str dps_nil)))) dss_nil)
      (dss_cons (ds_for [1, 2] passX rfl (di_val (dv_of (dp_tup (dps_cons (dp_tup (dps_cons dp_str (dps_cons (dp_ofR (dr_fn ((fn_parts_of_sum e).mono (by omega)) hr (by rfl) (dvs_cons (zv 0) dvs_nil))) dps_nil))) (dps_cons (dp_tup (dps_cons dp_str (dps_cons (dp_ofR (dr_fn ((fn_parts_of_skew e).mono (by omega)) hr (by rfl) (dvs_cons (zv 0) dvs_nil))) dps_nil))) dps_nil))))) (dgb_any (dg_tup rfl (dgs_cons (dg_name (i := 1) sc_tree_of.nd rfl (by first | exact Or.inl rfl | exact Or.inr rfl)) (dgs_cons (dg_name (i := 2) sc_tree_of.nd rfl (by first | exact Or.inl rfl | exact Or.inr rfl)) dgs_nil)))) (dss_one (ds_if (dt_cmp or_gt (dv_of (dp_callB cd_len (by rfl) e.b_len boot_len (dvs_cons (zv 2) dvs_nil))) (dv_of dp_int) (by rfl)) (dss_one (ds_ret (dp_tup (dps_cons (dp_esc (zv 1)) (dps_cons (dp_callTy cd_tuple (by rfl) e.b_tuple boot_tuple (dvs_cons (dv_of (dp_fz (do_comp [("part", 3)] rfl sc_tree_of.nd (di_val (zv 2)) (blkOk_by (by rfl)) (fun _ _ _ _ _ => (dgb_any (dg_name (i := 3) sc_tree_of.nd rfl (by first | exact Or.inl rfl | exact Or.inr rfl)))) (fun _ _ _ _ _ => dts_nil) (fun _ _ _ _ _ => (dp_ofR (dr_fn ih hr (by rfl) (dvs_cons (zv 3) dvs_nil)))) (by simp [tgS, tgsS])))) dvs_nil)) dps_nil))))) dss_nil)))
      (dss_cons (ds_setR (i := 4) sc_tree_of.nd rfl (by first | exact Or.inl rfl | exact Or.inr rfl) (dr_fn ((fn_greatest_blocks e).mono (by omega)) hr (by rfl) (dvs_cons (zv 0) dvs_nil)))
      (dss_cons (ds_setR (i := 5) sc_tree_of.nd rfl (by first | exact Or.inl rfl | exact Or.inr rfl) (dr_fn ((fn_compared e).mono (by omega)) hr (by rfl) (dvs_cons (dv_of (dp_fz (do_comp [("begin", 6), ("end", 7)] rfl sc_tree_of.nd (di_val (zv 4)) (blkOk_by (by rfl)) (fun _ _ _ _ _ => (dgb_any (dg_tup rfl (dgs_cons (dg_name (i := 6) sc_tree_of.nd rfl (by first | exact Or.inl rfl | exact Or.inr rfl)) (dgs_cons (dg_name (i := 7) sc_tree_of.nd rfl (by first | exact Or.inl rfl | exact Or.inr rfl)) dgs_nil))))) (fun _ _ _ _ _ => dts_nil) (fun _ _ _ _ _ => (dp_ix (ixr hr.units) (zv 0) (zv 6) (fun _ _ => rfl))) (by simp [tgS, tgsS])))) dvs_nil)))
      (dss_one (ds_ret (dp_tup (dps_cons dp_str (dps_cons (dp_esc (zv 5)) (dps_cons (dp_callTy cd_tuple (by rfl) e.b_tuple boot_tuple (dvs_cons (dv_of (dp_fz (do_comp [("begin", 6), ("end", 7)] rfl sc_tree_of.nd (di_val (zv 4)) (blkOk_by (by rfl)) (fun _ _ _ _ _ => (dgb_any (dg_tup rfl (dgs_cons (dg_name (i := 6) sc_tree_of.nd rfl (by first | exact Or.inl rfl | exact Or.inr rfl)) (dgs_cons (dg_name (i := 7) sc_tree_of.nd rfl (by first | exact Or.inl rfl | exact Or.inr rfl)) dgs_nil))))) (fun _ _ _ _ _ => dts_nil) (fun _ _ _ _ _ => (dp_ofR (dr_fn ih hr (by rfl) (dvs_cons (dv_of (dp_ofR (dr_fn ((fn_compared e).mono (by omega)) hr (by rfl) (dvs_cons (dv_of (dp_ofR (dr_cut (zv 0) (dpo_some (dp_esc (zv 6))) (dpo_some (dp_esc (zv 7)))))) dvs_nil)))) dvs_nil)))) (by simp [tgS, tgsS])))) dvs_nil)) dps_nil))))))))))
theorem sc_tree : FnScope ["order"] ["order"] (defScope s_tree) := ⟨rfl, rfl, rfl, by decide +kernel, rfl, by decide +kernel, by decide +kernel⟩
theorem fn_tree (e : EnvOk mg K) : FnP P w K mg base "tree" s_tree 21 ["order"] [.v] φ_tree := by
  obtain ⟨f, fd, F, hm⟩ := e.f_tree
  refine fnP_mk (k := 20) (N := ["order"]) F hm (F.binds (ps := ["order"]) fun _ _ _ _ _ _ us hl => match us, hl with | [_], _ => rfl) sc_tree rfl rfl fun cdv A outer s H E hr => ?_
  exact (dss_cons (ds_exprR (dr_fn ((fn_check_filled e).mono (by omega)) hr (by rfl) (dvs_cons (zv 0) dvs_nil)))
      (dss_one (ds_retR (dr_fn ((fn_tree_of e 16).mono (by omega)) hr (by rfl) (dvs_cons (zv 0) dvs_nil)))))
theorem sc_joined_of : FnScope ["word", "some", "found", "own"] ["word", "some"] (defScope s_joined_of) := ⟨rfl, rfl, rfl, by decide +kernel, rfl, by decide +kernel, by decide +kernel⟩
theorem fn_joined_of (e : EnvOk mg K) : FnP P w K mg base "joined_of" s_joined_of 3 ["word", "some"] [.v, .v] φ_joined_of := by
  obtain ⟨f, fd, F, hm⟩ := e.f_joined_of
  refine fnP_mk (k := 2) (N := ["word", "some", "found", "own"]) F hm (F.binds (ps := ["word", "some"]) fun _ _ _ _ _ _ us hl => match us, hl with | [_, _], _ => rfl) sc_joined_of rfl rfl fun cdv A outer s H E hr => ?_
  exact (dss_cons (ds_set (i := 2) sc_joined_of.nd rfl (by first | exact Or.inl rfl | exact Or.inr rfl) (dp_tup dps_nil))
      (dss_cons (ds_for [3] passX rfl (di_val (zv 1)) (dgb_any (dg_name (i := 3) sc_joined_of.nd rfl (by first | exact Or.inl rfl | exact Or.inr rfl))) (dss_one (ds_set (i := 2) sc_joined_of.nd rfl (by first | exact Or.inl rfl | exact Or.inr rfl) (dp_ifE (dt_cmp (or_eq hr.units) (zv 0) (dv_of dp_str) (by rfl)) (dp_ofR (dr_fn ((fn_summed_of e).mono (by omega)) hr (by rfl) (dvs_cons (zv 2) (dvs_cons (zv 3) dvs_nil)))) (dp_ofR (dr_fn ((fn_skew_summed_of e).mono (by omega)) hr (by rfl) (dvs_cons (zv 2) (dvs_cons (zv 3) dvs_nil))))))))
      (dss_one (ds_retV (i := 2) rfl (by first | exact Or.inl rfl | exact Or.inr (Or.inl rfl) | exact Or.inr (Or.inr rfl))))))
theorem sc_orders_of_trees : FnScope ["trees", "found", "own"] ["trees"] (defScope s_orders_of_trees) := ⟨rfl, rfl, rfl, by decide +kernel, rfl, by decide +kernel, by decide +kernel⟩
theorem fn_orders_of_trees (e : EnvOk mg K) {rec : List PyData → Out} {k : Nat} (hk : 0 ≤ k) (ih : FnP P w K mg base "order_of_tree" s_order_of_tree k ["told"] [.v] rec) : FnP P w K mg base "orders_of_trees" s_orders_of_trees (k + 1) ["trees"] [.v] (φ_orders_of_trees rec) := by
  obtain ⟨f, fd, F, hm⟩ := e.f_orders_of_trees
  refine fnP_mk (k := k) (N := ["trees", "found", "own"]) F hm (F.binds (ps := ["trees"]) fun _ _ _ _ _ _ us hl => match us, hl with | [_], _ => rfl) sc_orders_of_trees rfl rfl fun cdv A outer s H E hr => ?_
  exact (dss_cons (ds_if (dt_not (dt_val (dp_isi (t := .tuple) (by rfl) e.b_isinstance (zv 0) (by rfl) e.b_tuple boot_tuple))) (dss_one (ds_ret dp_none)) dss_nil)
      (dss_cons (ds_setComp [("own", 2)] (i := 1) rfl sc_orders_of_trees.nd rfl rfl (sw_true rfl rfl (by rfl) (by rfl)) (di_val (zv 0)) (blkOk_by (by rfl)) (fun _ _ _ _ _ => (dgb_any (dg_name (i := 2) sc_orders_of_trees.nd rfl (by first | exact Or.inl rfl | exact Or.inr rfl)))) (fun _ _ _ _ _ => dts_nil) (fun _ _ _ _ _ => (dp_ofR (dr_fn ih hr (by rfl) (dvs_cons (zv 2) dvs_nil)))) (by simp [tgS, tgsS]))
      (dss_one (ds_ret (dp_ifE (dt_cmp (or_in hr.units) (dv_of dp_none) (zv 1) (by rfl)) dp_none (dp_esc (zv 1)))))))
theorem sc_order_of_tree : FnScope ["told", "some", "own"] ["told"] (defScope s_order_of_tree) := ⟨rfl, rfl, rfl, by decide +kernel, rfl, by decide +kernel, by decide +kernel⟩
theorem fn_order_of_tree (e : EnvOk mg K) : ∀ n : Nat, FnP P w K mg base "order_of_tree" s_order_of_tree (2 * n + 4) ["told"] [.v] (φ_order_of_tree n)
  | 0 => by
    obtain ⟨f, fd, F, hm⟩ := e.f_order_of_tree
    exact fnP_bad F hm (F.binds (ps := ["told"]) fun _ _ _ _ _ _ us hl => match us, hl with | [_], _ => rfl)
  | n + 1 => by
    have ih := fn_order_of_tree e n
    have ih2 := fn_orders_of_trees e (by omega) ih
    obtain ⟨f, fd, F, hm⟩ := e.f_order_of_tree
    refine (show 2 * (n + 1) + 4 = (2 * n + 4 + 1) + 1 by omega) ▸ fnP_mk (N := ["told", "some", "own"]) F hm (F.binds (ps := ["told"]) fun _ _ _ _ _ _ us hl => match us, hl with | [_], _ => rfl) sc_order_of_tree rfl rfl fun cdv A outer s H E hr => ?_
    exact (dss_cons (ds_if (dt_cmp (or_eq hr.units) (zv 0) (dv_of (dp_tup (dps_cons dp_str dps_nil))) (by rfl)) (dss_one (ds_ret (dp_tup (dps_cons dp_int dps_nil)))) dss_nil)
      (dss_cons (ds_if (dt_w (dw_or (dt_not (dt_val (dp_isi (t := .tuple) (by rfl) e.b_isinstance (zv 0) (by rfl) e.b_tuple boot_tuple))) (dw_or1 (dt_cmp or_lt (dv_of (dp_callB cd_len (by rfl) e.b_len boot_len (dvs_cons (zv 0) dvs_nil))) (dv_of dp_int) (by rfl))))) (dss_one (ds_ret dp_none)) dss_nil)
      (dss_cons (ds_setR (i := 1) sc_order_of_tree.nd rfl (by first | exact Or.inl rfl | exact Or.inr rfl) (dr_fn (ih2.mono (by omega)) hr (by rfl) (dvs_cons (dv_of (dp_ix (ixr hr.units) (zv 0) (dv_of (dp_un un_negD (dv_of dp_int))) (fun _ _ => rfl))) dvs_nil)))
      (dss_cons (ds_if (dt_cmp or_isN (zv 1) (dv_of dp_none) (by rfl)) (dss_one (ds_ret dp_none)) dss_nil)
      (dss_cons (ds_if (dt_w (dw_and (dt_cmp (or_eq hr.units) (dv_of (dp_callB cd_len (by rfl) e.b_len boot_len (dvs_cons (zv 0) dvs_nil))) (dv_of dp_int) (by rfl)) (dw_and (dt_cmp (or_in hr.units) (dv_of (dp_ix (ixr hr.units) (zv 0) (dv_of dp_int) (fun _ _ => rfl))) (dv_of (dp_tup (dps_cons dp_str (dps_cons dp_str dps_nil)))) (by rfl)) (dw_and1 (dt_cmp or_gt (dv_of (dp_callB cd_len (by rfl) e.b_len boot_len (dvs_cons (zv 1) dvs_nil))) (dv_of dp_int) (by rfl)))))) (dss_one (ds_ret (dp_ifE (dt_cmp (or_in hr.units) (dv_of (dp_ix (ixr hr.units) (zv 0) (dv_of dp_int) (fun _ _ => rfl))) (dv_of (dp_fz (do_comp [("own", 2)] rfl sc_order_of_tree.nd (di_val (dv_of (dp_ix (ixr hr.units) (zv 0) (dv_of dp_int) (fun _ _ => rfl)))) (blkOk_by (by rfl)) (fun _ _ _ _ _ => (dgb_any (dg_name (i := 2) sc_order_of_tree.nd rfl (by first | exact Or.inl rfl | exact Or.inr rfl)))) (fun _ _ _ _ _ => dts_nil) (fun _ _ _ _ _ => (dp_ix (ixr hr.units) (zv 2) (dv_of dp_int) (fun _ _ => rfl))) (by simp [tgS, tgsS])))) (by rfl)) dp_none (dp_ofR (dr_fn ((fn_joined_of e).mono (by omega)) hr (by rfl) (dvs_cons (dv_of (dp_ix (ixr hr.units) (zv 0) (dv_of dp_int) (fun _ _ => rfl))) (dvs_cons (zv 1) dvs_nil))))))) dss_nil)
      (dss_cons (ds_if (dt_w (dw_or (dt_cmp (or_ne hr.units) (dv_of (dp_callB cd_len (by rfl) e.b_len boot_len (dvs_cons (zv 0) dvs_nil))) (dv_of dp_int) (by rfl)) (dw_or (dt_cmp (or_ne hr.units) (dv_of (dp_ix (ixr hr.units) (zv 0) (dv_of dp_int) (fun _ _ => rfl))) (dv_of dp_str) (by rfl)) (dw_or (dt_not (dt_val (dp_ofR (dr_fn ((fn_is_order_of e).mono (by omega)) hr (by rfl) (dvs_cons (dv_of (dp_ix (ixr hr.units) (zv 0) (dv_of dp_int) (fun _ _ => rfl))) dvs_nil))))) (dw_or1 (dt_cmp (or_ne hr.units) (dv_of (dp_callB cd_len (by rfl) e.b_len boot_len (dvs_cons (dv_of (dp_ix (ixr hr.units) (zv 0) (dv_of dp_int) (fun _ _ => rfl))) dvs_nil))) (dv_of (dp_callB cd_len (by rfl) e.b_len boot_len (dvs_cons (zv 1) dvs_nil))) (by rfl))))))) (dss_one (ds_ret dp_none)) dss_nil)
      (dss_one (ds_ret (dp_ifE (dt_val (dp_ofR (dr_fn ((fn_is_simple_of e).mono (by omega)) hr (by rfl) (dvs_cons (dv_of (dp_ix (ixr hr.units) (zv 0) (dv_of dp_int) (fun _ _ => rfl))) dvs_nil)))) (dp_ofR (dr_fn ((fn_put_together_of e).mono (by omega)) hr (by rfl) (dvs_cons (dv_of (dp_ix (ixr hr.units) (zv 0) (dv_of dp_int) (fun _ _ => rfl))) (dvs_cons (zv 1) dvs_nil)))) dp_none)))))))))
theorem sc_from_tree : FnScope ["tree", "found"] ["tree"] (defScope s_from_tree) := ⟨rfl, rfl, rfl, by decide +kernel, rfl, by decide +kernel, by decide +kernel⟩
theorem fn_from_tree (e : EnvOk mg K) : FnP P w K mg base "from_tree" s_from_tree 37 ["tree"] [.p] φ_from_tree := by
  obtain ⟨f, fd, F, hm⟩ := e.f_from_tree
  obtain ⟨xC_InvalidPair, xI_InvalidPair, xE_InvalidPair, xP_InvalidPair, xT_InvalidPair, xX_InvalidPair⟩ := raise_InvalidPair (P := P) (w := w) (base := base) e
  refine fnP_mk (k := 36) (N := ["tree", "found"]) F hm (F.binds (ps := ["tree"]) fun _ _ _ _ _ _ us hl => match us, hl with | [_], _ => rfl) sc_from_tree rfl rfl fun cdv A outer s H E hr => ?_
  exact (dss_cons (ds_setR (i := 1) sc_from_tree.nd rfl (by first | exact Or.inl rfl | exact Or.inr rfl) (dr_fn ((fn_order_of_tree e 16).mono (by omega)) hr (by rfl) (dvs_cons (zv 0) dvs_nil)))
      (dss_cons (ds_if (dt_cmp or_isN (zv 1) (dv_of dp_none) (by rfl)) (dss_one (ds_raise rfl xE_InvalidPair xP_InvalidPair (hr.mono (by omega)) (by rfl) (dp_esc (zv 0)))) dss_nil)
      (dss_one (ds_retV (i := 1) rfl (by first | exact Or.inl rfl | exact Or.inr (Or.inl rfl) | exact Or.inr (Or.inr rfl))))))
theorem sc__law_deck : FnScope ["script", "at", "cell", "stir"] ["script", "at"] (defScope s__law_deck) := ⟨rfl, rfl, rfl, by decide +kernel, rfl, by decide +kernel, by decide +kernel⟩
theorem fn__law_deck (e : EnvOk mg K) : FnP P w K mg base "_law_deck" s__law_deck 1 ["script", "at"] [.v, .v] φ__law_deck := by
  obtain ⟨f, fd, F, hm⟩ := e.f__law_deck
  refine fnP_mk (k := 0) (N := ["script", "at", "cell", "stir"]) F hm (F.binds (ps := ["script", "at"]) fun _ _ _ _ _ _ us hl => match us, hl with | [_, _], _ => rfl) sc__law_deck rfl rfl fun cdv A outer s H E hr => ?_
  exact (dss_cons (ds_set (i := 2) sc__law_deck.nd rfl (by first | exact Or.inl rfl | exact Or.inr rfl) dp_int)
      (dss_cons (ds_if (dt_cmp or_lt (zv 1) (dv_of (dp_callB cd_len (by rfl) e.b_len boot_len (dvs_cons (zv 0) dvs_nil))) (by rfl)) (dss_one (ds_set (i := 2) sc__law_deck.nd rfl (by first | exact Or.inl rfl | exact Or.inr rfl) (dp_ix (ixr hr.units) (zv 0) (zv 1) (fun _ _ => rfl)))) dss_nil)
      (dss_cons (ds_set (i := 3) sc__law_deck.nd rfl (by first | exact Or.inl rfl | exact Or.inr rfl) (dp_bin or_mod (dv_of (dp_callTy cd_int (by rfl) e.b_int boot_int (dvs_cons (dv_of (dp_ofR (dr_bin or_add or_cat (dv_of (dp_ofR (dr_bin or_add or_cat (zv 2) (dv_of (dp_bin or_mul (dv_of dp_int) (zv 1)))))) (dv_of dp_int)))) dvs_nil))) (dv_of dp_int)))
      (dss_cons (ds_set (i := 3) sc__law_deck.nd rfl (by first | exact Or.inl rfl | exact Or.inr rfl) (dp_bin or_mod (dv_of (dp_callTy cd_int (by rfl) e.b_int boot_int (dvs_cons (dv_of (dp_ofR (dr_bin or_add or_cat (dv_of (dp_ofR (dr_bin or_add or_cat (dv_of (dp_bin or_mul (dv_of (dp_bin or_mul (zv 3) (zv 3))) (zv 3))) (dv_of (dp_bin or_mul (dv_of dp_int) (zv 1)))))) (dv_of dp_int)))) dvs_nil))) (dv_of dp_int)))
      (dss_cons (ds_if (dt_cmp or_lt (zv 2) (dv_of (dp_bin or_pow (dv_of dp_int) (dv_of dp_int))) (by rfl)) (dss_one (ds_retO (do_lst (dps_cons dp_int (dps_cons (dp_esc (zv 3)) dps_nil))))) dss_nil)
      (dss_one (ds_retO (do_lst (dps_cons (dp_bin or_sub (zv 2) (dv_of (dp_bin or_pow (dv_of dp_int) (dv_of dp_int)))) (dps_cons (dp_esc (zv 3)) dps_nil))))))))))
theorem sc__law_take : FnScope ["deck", "many", "taken"] ["deck", "many"] (defScope s__law_take) := ⟨rfl, rfl, rfl, by decide +kernel, rfl, by decide +kernel, by decide +kernel⟩
theorem fn__law_take (e : EnvOk mg K) : FnP P w K mg base "_law_take" s__law_take 1 ["deck", "many"] [.m, .v] φ__law_take := by
  obtain ⟨f, fd, F, hm⟩ := e.f__law_take
  refine fnP_mk (k := 0) (N := ["deck", "many", "taken"]) F hm (F.binds (ps := ["deck", "many"]) fun _ _ _ _ _ _ us hl => match us, hl with | [_, _], _ => rfl) sc__law_take rfl rfl fun cdv A outer s H E hr => ?_
  exact (dss_cons (ds_if (dt_cmp or_gt (dv_of (dp_ix (ixr hr.units) (zv 0) (dv_of dp_int) (fun _ _ => rfl))) (dv_of dp_int) (by rfl)) (dss_cons (ds_set (i := 2) sc__law_take.nd rfl (by first | exact Or.inl rfl | exact Or.inr rfl) (dp_bin or_mod (dv_of (dp_callTy cd_int (by rfl) e.b_int boot_int (dvs_cons (dv_of (dp_ix (ixr hr.units) (zv 0) (dv_of dp_int) (fun _ _ => rfl))) dvs_nil))) (zv 1)))
      (dss_cons (ds_sub (i := 0) rfl (by first | exact Or.inl rfl | exact Or.inr (Or.inl rfl) | exact Or.inr (Or.inr rfl)) (dp_bin or_div (dv_of (dp_ix (ixr hr.units) (zv 0) (dv_of dp_int) (fun _ _ => rfl))) (zv 1)) (dv_of dp_int))
      (dss_one (ds_retV (i := 2) rfl (by first | exact Or.inl rfl | exact Or.inr (Or.inl rfl) | exact Or.inr (Or.inr rfl)))))) dss_nil)
      (dss_cons (ds_sub (i := 0) rfl (by first | exact Or.inl rfl | exact Or.inr (Or.inl rfl) | exact Or.inr (Or.inr rfl)) (dp_bin or_mod (dv_of (dp_callTy cd_int (by rfl) e.b_int boot_int (dvs_cons (dv_of (dp_ofR (dr_bin or_add or_cat (dv_of (dp_bin or_mul (dv_of (dp_ix (ixr hr.units) (zv 0) (dv_of dp_int) (fun _ _ => rfl))) (dv_of dp_int))) (dv_of dp_int)))) dvs_nil))) (dv_of (dp_bin or_pow (dv_of dp_int) (dv_of dp_int)))) (dv_of dp_int))
      (dss_one (ds_ret (dp_bin or_mod (dv_of (dp_bin or_div (dv_of (dp_ix (ixr hr.units) (zv 0) (dv_of dp_int) (fun _ _ => rfl))) (dv_of (dp_bin or_pow (dv_of dp_int) (dv_of dp_int))))) (zv 1))))))
theorem sc__law_same : FnScope ["found", "due", "at"] ["found", "due"] (defScope s__law_same) := ⟨rfl, rfl, rfl, by decide +kernel, rfl, by decide +kernel, by decide +kernel⟩
theorem fn__law_same (e : EnvOk mg K) : ∀ n : Nat, FnP P w K mg base "_law_same" s__law_same (n + 1) ["found", "due"] [.v, .v] (φ__law_same n)
  | 0 => by
    obtain ⟨f, fd, F, hm⟩ := e.f__law_same
    exact fnP_bad F hm (F.binds (ps := ["found", "due"]) fun _ _ _ _ _ _ us hl => match us, hl with | [_, _], _ => rfl)
  | n + 1 => by
    have ih := fn__law_same e n
    obtain ⟨f, fd, F, hm⟩ := e.f__law_same
    refine (show n + 1 + 1 = (n + 1) + 1 by omega) ▸ fnP_mk (N := ["found", "due", "at"]) F hm (F.binds (ps := ["found", "due"]) fun _ _ _ _ _ _ us hl => match us, hl with | [_, _], _ => rfl) sc__law_same rfl rfl fun cdv A outer s H E hr => ?_
    exact (dss_cons (ds_if (dt_val (dp_isiT (by rfl) e.b_isinstance (zv 1) (ty_cons (t := .tuple) (by rfl) e.b_tuple boot_tuple (ty_cons (t := .list) (by rfl) e.b_list boot_list ty_nil)) (by decide))) (dss_cons (ds_if (dt_w (dw_or (dt_cmp (or_ne hr.units) (dv_of (dp_isi (t := .tuple) (by rfl) e.b_isinstance (zv 0) (by rfl) e.b_tuple boot_tuple)) (dv_of (dp_isi (t := .tuple) (by rfl) e.b_isinstance (zv 1) (by rfl) e.b_tuple boot_tuple)) (by rfl)) (dw_or1 (dt_cmp (or_ne hr.units) (dv_of (dp_isi (t := .list) (by rfl) e.b_isinstance (zv 0) (by rfl) e.b_list boot_list)) (dv_of (dp_isi (t := .list) (by rfl) e.b_isinstance (zv 1) (by rfl) e.b_list boot_list)) (by rfl))))) (dss_one (ds_ret dp_bool)) dss_nil)
      (dss_cons (ds_if (dt_cmp (or_ne hr.units) (dv_of (dp_callB cd_len (by rfl) e.b_len boot_len (dvs_cons (zv 0) dvs_nil))) (dv_of (dp_callB cd_len (by rfl) e.b_len boot_len (dvs_cons (zv 1) dvs_nil))) (by rfl)) (dss_one (ds_ret dp_bool)) dss_nil)
      (dss_one (ds_ret (dp_cmp (or_eq hr.units) (dv_of (dp_fz (do_comp [("at", 2)] rfl sc__law_same.nd (di_range1 (by rfl) e.b_range (dvs_cons (dv_of (dp_callB cd_len (by rfl) e.b_len boot_len (dvs_cons (zv 1) dvs_nil))) dvs_nil)) (blkOk_by (by rfl)) (fun _ _ _ _ _ => (dgb_any (dg_name (i := 2) sc__law_same.nd rfl (by first | exact Or.inl rfl | exact Or.inr rfl)))) (fun _ _ _ _ _ => (dts_one (dt_not (dt_val (dp_ofR (dr_fn ih hr (by rfl) (dvs_cons (dv_of (dp_ix (ixr hr.units) (zv 0) (zv 2) (fun _ _ => rfl))) (dvs_cons (dv_of (dp_ix (ixr hr.units) (zv 1) (zv 2) (fun _ _ => rfl))) dvs_nil)))))))) (fun _ _ _ _ _ => (dp_esc (zv 2))) (by simp [tgS, tgsS])))) (dv_of (dp_fz (do_lst dps_nil))) (by rfl)))))) dss_nil)
      (dss_cons (ds_if (dt_cmp or_isN (zv 1) (dv_of dp_none) (by rfl)) (dss_one (ds_ret (dp_cmp or_isN (zv 0) (dv_of dp_none) (by rfl)))) dss_nil)
      (dss_cons (ds_if (dt_val (dp_isi (t := .str) (by rfl) e.b_isinstance (zv 1) (by rfl) e.b_str boot_str)) (dss_one (ds_ret (dp_and (dp_isi (t := .str) (by rfl) e.b_isinstance (zv 0) (by rfl) e.b_str boot_str) (dp_one (dp_cmp (or_eq hr.units) (zv 0) (zv 1) (by rfl)))))) dss_nil)
      (dss_cons (ds_if (dt_w (dw_or (dt_val (dp_isi (t := .bool) (by rfl) e.b_isinstance (zv 1) (by rfl) e.b_bool boot_bool)) (dw_or1 (dt_val (dp_isi (t := .bool) (by rfl) e.b_isinstance (zv 0) (by rfl) e.b_bool boot_bool))))) (dss_one (ds_ret (dp_and (dp_isi (t := .bool) (by rfl) e.b_isinstance (zv 1) (by rfl) e.b_bool boot_bool) (dp_and (dp_isi (t := .bool) (by rfl) e.b_isinstance (zv 0) (by rfl) e.b_bool boot_bool) (dp_one (dp_cmp (or_eq hr.units) (zv 0) (zv 1) (by rfl))))))) dss_nil)
      (dss_one (ds_ret (dp_and (dp_isi (t := .int) (by rfl) e.b_isinstance (zv 0) (by rfl) e.b_int boot_int) (dp_one (dp_cmp (or_eq hr.units) (zv 0) (zv 1) (by rfl))))))))))
theorem sc__law_drawn : FnScope ["deck", "many", "found", "j"] ["deck", "many"] (defScope s__law_drawn) := ⟨rfl, rfl, rfl, by decide +kernel, rfl, by decide +kernel, by decide +kernel⟩
theorem fn__law_drawn (e : EnvOk mg K) : FnP P w K mg base "_law_drawn" s__law_drawn 2 ["deck", "many"] [.m, .v] φ__law_drawn := by
  obtain ⟨f, fd, F, hm⟩ := e.f__law_drawn
  refine fnP_mk (k := 1) (N := ["deck", "many", "found", "j"]) F hm (F.binds (ps := ["deck", "many"]) fun _ _ _ _ _ _ us hl => match us, hl with | [_, _], _ => rfl) sc__law_drawn rfl rfl fun cdv A outer s H E hr => ?_
  exact (dss_cons (ds_setO (i := 2) sc__law_drawn.nd rfl (by first | exact Or.inl rfl | exact Or.inr rfl) (do_lst dps_nil))
      (dss_cons (ds_for [3] passX rfl (di_range2 (by rfl) e.b_range (dvs_cons (dv_of dp_int) (dvs_cons (dv_of (dp_ofR (dr_bin or_add or_cat (zv 1) (dv_of dp_int)))) dvs_nil))) (dgb_any (dg_name (i := 3) sc__law_drawn.nd rfl (by first | exact Or.inl rfl | exact Or.inr rfl))) (dss_one (ds_expr (dp_mut (i := 2) rfl (by first | exact Or.inl rfl | exact Or.inr (Or.inl rfl) | exact Or.inr (Or.inr rfl)) PySem.F.slot_list_insert PySem.F.type_list_insert mr_insert (dps_cons (dp_ofR (dr_fn ((fn__law_take e).mono (by omega)) hr (by rfl) (dvs_cons (zv 0) (dvs_cons (zv 3) dvs_nil)))) (dps_cons (dp_esc (zv 3)) dps_nil))))))
      (dss_one (ds_ret (dp_callTy cd_tuple (by rfl) e.b_tuple boot_tuple (dvs_cons (zv 2) dvs_nil))))))
theorem sc__law_filled : FnScope ["row", "rows", "found", "at", "less", "j", "x"] ["row", "rows"] (defScope s__law_filled) := ⟨rfl, rfl, rfl, by decide +kernel, rfl, by decide +kernel, by decide +kernel⟩
theorem fn__law_filled (e : EnvOk mg K) : FnP P w K mg base "_law_filled" s__law_filled 1 ["row", "rows"] [.v, .v] φ__law_filled := by
  obtain ⟨f, fd, F, hm⟩ := e.f__law_filled
  refine fnP_mk (k := 0) (N := ["row", "rows", "found", "at", "less", "j", "x"]) F hm (F.binds (ps := ["row", "rows"]) fun _ _ _ _ _ _ us hl => match us, hl with | [_, _], _ => rfl) sc__law_filled rfl rfl fun cdv A outer s H E hr => ?_
  exact (dss_cons (ds_setO (i := 2) sc__law_filled.nd rfl (by first | exact Or.inl rfl | exact Or.inr rfl) (do_lst dps_nil))
      (dss_cons (ds_for [3, 4] passX rfl (di_range1 (by rfl) e.b_range (dvs_cons (dv_of (dp_callB cd_len (by rfl) e.b_len boot_len (dvs_cons (zv 0) dvs_nil))) dvs_nil)) (dgb_any (dg_name (i := 3) sc__law_filled.nd rfl (by first | exact Or.inl rfl | exact Or.inr rfl))) (dss_cons (ds_set (i := 4) sc__law_filled.nd rfl (by first | exact Or.inl rfl | exact Or.inr rfl) (dp_callB (cd_sum rfl) (by rfl) e.b_sum boot_sum (dvs_cons (dv_of (dp_fz (do_comp [("j", 5)] rfl sc__law_filled.nd (di_range1 (by rfl) e.b_range (dvs_cons (dv_of (dp_callB cd_len (by rfl) e.b_len boot_len (dvs_cons (zv 0) dvs_nil))) dvs_nil)) (blkOk_by (by rfl)) (fun _ _ _ _ _ => (dgb_any (dg_name (i := 5) sc__law_filled.nd rfl (by first | exact Or.inl rfl | exact Or.inr rfl)))) (fun _ _ _ _ _ => (dts_one (dt_cmp or_lt (dv_of (dp_ix (ixr hr.units) (zv 0) (zv 5) (fun _ _ => rfl))) (dv_of (dp_ix (ixr hr.units) (zv 0) (zv 3) (fun _ _ => rfl))) (by rfl)))) (fun _ _ _ _ _ => (dp_callB cd_len (by rfl) e.b_len boot_len (dvs_cons (dv_of (dp_ix (ixr hr.units) (zv 1) (zv 5) (fun _ _ => rfl))) dvs_nil))) (by simp [tgS, tgsS])))) dvs_nil)))
      (dss_one (ds_setR (i := 2) sc__law_filled.nd rfl (by first | exact Or.inl rfl | exact Or.inr rfl) (dr_bin or_add or_cat (zv 2) (dv_of (dp_fz (do_comp [("x", 6)] rfl sc__law_filled.nd (di_val (dv_of (dp_ix (ixr hr.units) (zv 1) (zv 3) (fun _ _ => rfl)))) (blkOk_by (by rfl)) (fun _ _ _ _ _ => (dgb_any (dg_name (i := 6) sc__law_filled.nd rfl (by first | exact Or.inl rfl | exact Or.inr rfl)))) (fun _ _ _ _ _ => dts_nil) (fun _ _ _ _ _ => (dp_ofR (dr_bin or_add or_cat (zv 4) (zv 6)))) (by simp [tgS, tgsS])))))))))
      (dss_one (ds_ret (dp_callTy cd_tuple (by rfl) e.b_tuple boot_tuple (dvs_cons (zv 2) dvs_nil))))))
theorem sc__law_row : FnScope ["deck", "most", "way", "many", "straight", "base", "rest", "rows", "at", "more"] ["deck", "most"] (defScope s__law_row) := ⟨rfl, rfl, rfl, by decide +kernel, rfl, by decide +kernel, by decide +kernel⟩
theorem fn__law_row (e : EnvOk mg K) : FnP P w K mg base "_law_row" s__law_row 3 ["deck", "most"] [.m, .v] φ__law_row := by
  obtain ⟨f, fd, F, hm⟩ := e.f__law_row
  refine fnP_mk (k := 2) (N := ["deck", "most", "way", "many", "straight", "base", "rest", "rows", "at", "more"]) F hm (F.binds (ps := ["deck", "most"]) fun _ _ _ _ _ _ us hl => match us, hl with | [_, _], _ => rfl) sc__law_row rfl rfl fun cdv A outer s H E hr => ?_
  exact (dss_cons (ds_par (i := 2) (j := 3) rfl sc__law_row.nd rfl rfl (by decide) rfl rfl (dms_r (dr_fn ((fn__law_take e).mono (by omega)) hr (by rfl) (dvs_cons (zv 0) (dvs_cons (dv_of dp_int) dvs_nil))) (dms_r (dr_fn ((fn__law_take e).mono (by omega)) hr (by rfl) (dvs_cons (zv 0) (dvs_cons (dv_of (dp_ofR (dr_bin or_add or_cat (zv 1) (dv_of dp_int)))) dvs_nil))) dms_nil)))
      (dss_cons (ds_if (dt_w (dw_or (dt_cmp or_lt (zv 2) (dv_of dp_int) (by rfl)) (dw_or1 (dt_cmp or_lt (zv 3) (dv_of dp_int) (by rfl))))) (dss_one (ds_retR (dr_fn ((fn__law_drawn e).mono (by omega)) hr (by rfl) (dvs_cons (zv 0) (dvs_cons (zv 3) dvs_nil))))) dss_nil)
      (dss_cons (ds_if (dt_cmp (or_eq hr.units) (zv 2) (dv_of dp_int) (by rfl)) (dss_cons (ds_set (i := 4) sc__law_row.nd rfl (by first | exact Or.inl rfl | exact Or.inr rfl) (dp_tupRg rfl (by rfl) e.b_tuple (drg2 (by rfl) e.b_range (dv_of dp_int) (dv_of (dp_ofR (dr_bin or_add or_cat (zv 3) (dv_of dp_int)))))))
      (dss_one (ds_ret (dp_ix (ixr hr.units) (dv_of (dp_fz (do_lst (dps_cons (dp_esc (zv 4)) (dps_cons (dp_ofR (dr_or (dp_back (zv 4)) (do_backL (zv 4)))) dps_nil))))) (dv_of (dp_ofR (dr_fn ((fn__law_take e).mono (by omega)) hr (by rfl) (dvs_cons (zv 0) (dvs_cons (dv_of dp_int) dvs_nil))))) (fun _ _ => rfl))))) dss_nil)
      (dss_cons (ds_setR (i := 5) sc__law_row.nd rfl (by first | exact Or.inl rfl | exact Or.inr rfl) (dr_fn ((fn__law_drawn e).mono (by omega)) hr (by rfl) (dvs_cons (zv 0) (dvs_cons (dv_of (dp_ofR (dr_bin or_add or_cat (dv_of dp_int) (dv_of (dp_ofR (dr_fn ((fn__law_take e).mono (by omega)) hr (by rfl) (dvs_cons (zv 0) (dvs_cons (dv_of (dp_bin or_sub (zv 3) (dv_of dp_int))) dvs_nil)))))))) dvs_nil))))
      (dss_cons (ds_if (dt_cmp (or_eq hr.units) (zv 2) (dv_of dp_int) (by rfl)) (dss_one (ds_set (i := 5) sc__law_row.nd rfl (by first | exact Or.inl rfl | exact Or.inr rfl) (dp_ix (ixr hr.units) (dv_of (dp_fz (do_lst (dps_cons (dp_tupRg rfl (by rfl) e.b_tuple (drg2 (by rfl) e.b_range (dv_of dp_int) (dv_of (dp_ofR (dr_bin or_add or_cat (dv_of (dp_callB cd_len (by rfl) e.b_len boot_len (dvs_cons (zv 5) dvs_nil))) (dv_of dp_int)))))) (dps_cons (dp_tupRg3 rfl (by rfl) e.b_tuple (by rfl) e.b_range (dvs_cons (dv_of (dp_callB cd_len (by rfl) e.b_len boot_len (dvs_cons (zv 5) dvs_nil))) (dvs_cons (dv_of dp_int) (dvs_cons (dv_of (dp_un un_negD (dv_of dp_int))) dvs_nil)))) dps_nil))))) (dv_of (dp_ofR (dr_fn ((fn__law_take e).mono (by omega)) hr (by rfl) (dvs_cons (zv 0) (dvs_cons (dv_of dp_int) dvs_nil))))) (fun _ _ => rfl)))) dss_nil)
      (dss_cons (ds_par (i := 6) (j := 7) rfl sc__law_row.nd rfl rfl (by decide) rfl rfl (dms_d (dp_bin or_sub (zv 3) (dv_of (dp_callB cd_len (by rfl) e.b_len boot_len (dvs_cons (zv 5) dvs_nil)))) (dms_o (do_lst dps_nil) dms_nil)))
      (dss_cons (ds_for [8, 9] passX rfl (di_range1 (by rfl) e.b_range (dvs_cons (dv_of (dp_callB cd_len (by rfl) e.b_len boot_len (dvs_cons (zv 5) dvs_nil))) dvs_nil)) (dgb_any (dg_name (i := 8) sc__law_row.nd rfl (by first | exact Or.inl rfl | exact Or.inr rfl))) (dss_cons (ds_setR (i := 9) sc__law_row.nd rfl (by first | exact Or.inl rfl | exact Or.inr rfl) (dr_fn ((fn__law_take e).mono (by omega)) hr (by rfl) (dvs_cons (zv 0) (dvs_cons (dv_of (dp_ofR (dr_bin or_add or_cat (zv 6) (dv_of dp_int)))) dvs_nil))))
      (dss_cons (ds_set (i := 6) sc__law_row.nd rfl (by first | exact Or.inl rfl | exact Or.inr rfl) (dp_bin or_sub (zv 6) (zv 9)))
      (dss_one (ds_expr (dp_mut (i := 7) rfl (by first | exact Or.inl rfl | exact Or.inr (Or.inl rfl) | exact Or.inr (Or.inr rfl)) PySem.F.slot_list_append PySem.F.type_list_append mr_append (dps_cons (dp_ofR (dr_fn ((fn__law_drawn e).mono (by omega)) hr (by rfl) (dvs_cons (zv 0) (dvs_cons (dv_of (dp_ofR (dr_bin or_add or_cat (dv_of dp_int) (zv 9)))) dvs_nil)))) dps_nil)))))))
      (dss_one (ds_retR (dr_fn ((fn__law_filled e).mono (by omega)) hr (by rfl) (dvs_cons (zv 5) (dvs_cons (zv 7) dvs_nil))))))))))))
theorem sc__law_blocks : FnScope ["row", "found", "start", "stop", "cells"] ["row"] (defScope s__law_blocks) := ⟨rfl, rfl, rfl, by decide +kernel, rfl, by decide +kernel, by decide +kernel⟩
theorem fn__law_blocks (e : EnvOk mg K) : FnP P w K mg base "_law_blocks" s__law_blocks 1 ["row"] [.v] φ__law_blocks := by
  obtain ⟨f, fd, F, hm⟩ := e.f__law_blocks
  refine fnP_mk (k := 0) (N := ["row", "found", "start", "stop", "cells"]) F hm (F.binds (ps := ["row"]) fun _ _ _ _ _ _ us hl => match us, hl with | [_], _ => rfl) sc__law_blocks rfl rfl fun cdv A outer s H E hr => ?_
  exact (dss_cons (ds_setO (i := 1) sc__law_blocks.nd rfl (by first | exact Or.inl rfl | exact Or.inr rfl) (do_lst dps_nil))
      (dss_cons (ds_for [2, 3, 4] passX rfl (di_range1 (by rfl) e.b_range (dvs_cons (dv_of (dp_callB cd_len (by rfl) e.b_len boot_len (dvs_cons (zv 0) dvs_nil))) dvs_nil)) (dgb_any (dg_name (i := 2) sc__law_blocks.nd rfl (by first | exact Or.inl rfl | exact Or.inr rfl))) (dss_one (ds_for [3, 4] passX rfl (di_range2 (by rfl) e.b_range (dvs_cons (dv_of (dp_ofR (dr_bin or_add or_cat (zv 2) (dv_of dp_int)))) (dvs_cons (dv_of (dp_ofR (dr_bin or_add or_cat (dv_of (dp_callB cd_len (by rfl) e.b_len boot_len (dvs_cons (zv 0) dvs_nil))) (dv_of dp_int)))) dvs_nil))) (dgb_any (dg_name (i := 3) sc__law_blocks.nd rfl (by first | exact Or.inl rfl | exact Or.inr rfl))) (dss_cons (ds_setO (i := 4) sc__law_blocks.nd rfl (by first | exact Or.inl rfl | exact Or.inr rfl) (do_callB (cd_sorted hr.units) (by rfl) e.b_sorted boot_sorted (dvs_cons (dv_of (dp_ofR (dr_cut (zv 0) (dpo_some (dp_esc (zv 2))) (dpo_some (dp_esc (zv 3)))))) dvs_nil)))
      (dss_one (ds_if (dt_cmp (or_eq hr.units) (zv 4) (dv_of (dp_fz (do_lstRg rfl (by rfl) e.b_list (drg2 (by rfl) e.b_range (dv_of (dp_ix (ixr hr.units) (zv 4) (dv_of dp_int) (fun _ _ => rfl))) (dv_of (dp_ofR (dr_bin or_add or_cat (dv_of (dp_ix (ixr hr.units) (zv 4) (dv_of dp_int) (fun _ _ => rfl))) (dv_of (dp_callB cd_len (by rfl) e.b_len boot_len (dvs_cons (zv 4) dvs_nil)))))))))) (by rfl)) (dss_one (ds_expr (dp_mut (i := 1) rfl (by first | exact Or.inl rfl | exact Or.inr (Or.inl rfl) | exact Or.inr (Or.inr rfl)) PySem.F.slot_list_append PySem.F.type_list_append mr_append (dps_cons (dp_tup (dps_cons (dp_esc (zv 2)) (dps_cons (dp_esc (zv 3)) dps_nil))) dps_nil)))) dss_nil))))))
      (dss_one (ds_retV (i := 1) rfl (by first | exact Or.inl rfl | exact Or.inr (Or.inl rfl) | exact Or.inr (Or.inr rfl))))))
theorem sc__law_is_simple : FnScope ["row", "block"] ["row"] (defScope s__law_is_simple) := ⟨rfl, rfl, rfl, by decide +kernel, rfl, by decide +kernel, by decide +kernel⟩
theorem fn__law_is_simple (e : EnvOk mg K) : FnP P w K mg base "_law_is_simple" s__law_is_simple 2 ["row"] [.v] φ__law_is_simple := by
  obtain ⟨f, fd, F, hm⟩ := e.f__law_is_simple
  refine fnP_mk (k := 1) (N := ["row", "block"]) F hm (F.binds (ps := ["row"]) fun _ _ _ _ _ _ us hl => match us, hl with | [_], _ => rfl) sc__law_is_simple rfl rfl fun cdv A outer s H E hr => ?_
  exact (dss_one (ds_ret (dp_and (dp_cmp or_gt (dv_of (dp_callB cd_len (by rfl) e.b_len boot_len (dvs_cons (zv 0) dvs_nil))) (dv_of dp_int) (by rfl)) (dp_one (dp_cmp (or_eq hr.units) (dv_of (dp_fz (do_comp [("block", 1)] rfl sc__law_is_simple.nd (di_val (dv_of (dp_ofR (dr_fn ((fn__law_blocks e).mono (by omega)) hr (by rfl) (dvs_cons (zv 0) dvs_nil))))) (blkOk_by (by rfl)) (fun _ _ _ _ _ => (dgb_any (dg_name (i := 1) sc__law_is_simple.nd rfl (by first | exact Or.inl rfl | exact Or.inr rfl)))) (fun _ _ _ _ _ => (dts_one (dt_chain or_lt or_lt (dv_of dp_int) (dv_of (dp_bin or_sub (dv_of (dp_ix (ixr hr.units) (zv 1) (dv_of dp_int) (fun _ _ => rfl))) (dv_of (dp_ix (ixr hr.units) (zv 1) (dv_of dp_int) (fun _ _ => rfl))))) (dv_of (dp_callB cd_len (by rfl) e.b_len boot_len (dvs_cons (zv 0) dvs_nil)))))) (fun _ _ _ _ _ => (dp_esc (zv 1))) (by simp [tgS, tgsS])))) (dv_of (dp_fz (do_lst dps_nil))) (by rfl))))))
theorem sc__law_is_tree : FnScope ["told_one", "one_tree", "many", "x"] ["told_one"] (defScope s__law_is_tree) := ⟨rfl, rfl, rfl, by decide +kernel, rfl, by decide +kernel, by decide +kernel⟩
theorem fn__law_is_tree (e : EnvOk mg K) : ∀ n : Nat, FnP P w K mg base "_law_is_tree" s__law_is_tree (n + 3) ["told_one"] [.v] (φ__law_is_tree n)
  | 0 => by
    obtain ⟨f, fd, F, hm⟩ := e.f__law_is_tree
    exact fnP_bad F hm (F.binds (ps := ["told_one"]) fun _ _ _ _ _ _ us hl => match us, hl with | [_], _ => rfl)
  | n + 1 => by
    have ih := fn__law_is_tree e n
    obtain ⟨f, fd, F, hm⟩ := e.f__law_is_tree
    refine (show n + 1 + 3 = (n + 3) + 1 by omega) ▸ fnP_mk (N := ["told_one", "one_tree", "many", "x"]) F hm (F.binds (ps := ["told_one"]) fun _ _ _ _ _ _ us hl => match us, hl with | [_], _ => rfl) sc__law_is_tree rfl rfl fun cdv A outer s H E hr => ?_
    exact (dss_cons (ds_if (dt_w (dw_or (dt_not (dt_val (dp_isi (t := .tuple) (by rfl) e.b_isinstance (zv 0) (by rfl) e.b_tuple boot_tuple))) (dw_or (dt_cmp (or_eq hr.units) (zv 0) (dv_of (dp_tup dps_nil)) (by rfl)) (dw_or1 (dt_not (dt_val (dp_isiT (by rfl) e.b_isinstance (dv_of (dp_ix (ixr hr.units) (zv 0) (dv_of (dp_un un_negD (dv_of dp_int))) (fun _ _ => rfl))) (ty_cons (t := .tuple) (by rfl) e.b_tuple boot_tuple (ty_cons (t := .str) (by rfl) e.b_str boot_str ty_nil)) (by decide)))))))) (dss_one (ds_ret dp_bool)) dss_nil)
      (dss_cons (ds_if (dt_cmp (or_eq hr.units) (zv 0) (dv_of (dp_tup (dps_cons dp_str dps_nil))) (by rfl)) (dss_one (ds_ret dp_bool)) dss_nil)
      (dss_cons (ds_if (dt_w (dw_or (dt_not (dt_val (dp_isi (t := .tuple) (by rfl) e.b_isinstance (dv_of (dp_ix (ixr hr.units) (zv 0) (dv_of (dp_un un_negD (dv_of dp_int))) (fun _ _ => rfl))) (by rfl) e.b_tuple boot_tuple))) (dw_or1 (dt_cmp (or_ne hr.units) (dv_of (dp_fz (do_comp [("one_tree", 1)] rfl sc__law_is_tree.nd (di_val (dv_of (dp_ix (ixr hr.units) (zv 0) (dv_of (dp_un un_negD (dv_of dp_int))) (fun _ _ => rfl)))) (blkOk_by (by rfl)) (fun _ _ _ _ _ => (dgb_any (dg_name (i := 1) sc__law_is_tree.nd rfl (by first | exact Or.inl rfl | exact Or.inr rfl)))) (fun _ _ _ _ _ => (dts_one (dt_not (dt_val (dp_ofR (dr_fn ih hr (by rfl) (dvs_cons (zv 1) dvs_nil))))))) (fun _ _ _ _ _ => (dp_esc (zv 1))) (by simp [tgS, tgsS])))) (dv_of (dp_fz (do_lst dps_nil))) (by rfl))))) (dss_one (ds_ret dp_bool)) dss_nil)
      (dss_cons (ds_set (i := 2) sc__law_is_tree.nd rfl (by first | exact Or.inl rfl | exact Or.inr rfl) (dp_callB cd_len (by rfl) e.b_len boot_len (dvs_cons (dv_of (dp_ix (ixr hr.units) (zv 0) (dv_of (dp_un un_negD (dv_of dp_int))) (fun _ _ => rfl))) dvs_nil)))
      (dss_cons (ds_if (dt_w (dw_and (dt_cmp (or_eq hr.units) (dv_of (dp_callB cd_len (by rfl) e.b_len boot_len (dvs_cons (zv 0) dvs_nil))) (dv_of dp_int) (by rfl)) (dw_and1 (dt_cmp (or_in hr.units) (dv_of (dp_ix (ixr hr.units) (zv 0) (dv_of dp_int) (fun _ _ => rfl))) (dv_of (dp_fz (do_lst (dps_cons dp_str (dps_cons dp_str dps_nil))))) (by rfl))))) (dss_one (ds_ret (dp_and (dp_cmp or_gt (zv 2) (dv_of dp_int) (by rfl)) (dp_one (dp_cmp (or_eq hr.units) (dv_of (dp_fz (do_comp [("one_tree", 1)] rfl sc__law_is_tree.nd (di_val (dv_of (dp_ix (ixr hr.units) (zv 0) (dv_of (dp_un un_negD (dv_of dp_int))) (fun _ _ => rfl)))) (blkOk_by (by rfl)) (fun _ _ _ _ _ => (dgb_any (dg_name (i := 1) sc__law_is_tree.nd rfl (by first | exact Or.inl rfl | exact Or.inr rfl)))) (fun _ _ _ _ _ => (dts_one (dt_cmp (or_eq hr.units) (dv_of (dp_ix (ixr hr.units) (zv 1) (dv_of dp_int) (fun _ _ => rfl))) (dv_of (dp_ix (ixr hr.units) (zv 0) (dv_of dp_int) (fun _ _ => rfl))) (by rfl)))) (fun _ _ _ _ _ => (dp_esc (zv 1))) (by simp [tgS, tgsS])))) (dv_of (dp_fz (do_lst dps_nil))) (by rfl)))))) dss_nil)
      (dss_cons (ds_if (dt_w (dw_or (dt_cmp (or_ne hr.units) (dv_of (dp_callB cd_len (by rfl) e.b_len boot_len (dvs_cons (zv 0) dvs_nil))) (dv_of dp_int) (by rfl)) (dw_or (dt_cmp (or_ne hr.units) (dv_of (dp_ix (ixr hr.units) (zv 0) (dv_of dp_int) (fun _ _ => rfl))) (dv_of dp_str) (by rfl)) (dw_or1 (dt_not (dt_val (dp_isi (t := .tuple) (by rfl) e.b_isinstance (dv_of (dp_ix (ixr hr.units) (zv 0) (dv_of dp_int) (fun _ _ => rfl))) (by rfl) e.b_tuple boot_tuple))))))) (dss_one (ds_ret dp_bool)) dss_nil)
      (dss_cons (ds_if (dt_cmp (or_ne hr.units) (dv_of (dp_fz (do_comp [("x", 3)] rfl sc__law_is_tree.nd (di_val (dv_of (dp_ix (ixr hr.units) (zv 0) (dv_of dp_int) (fun _ _ => rfl)))) (blkOk_by (by rfl)) (fun _ _ _ _ _ => (dgb_any (dg_name (i := 3) sc__law_is_tree.nd rfl (by first | exact Or.inl rfl | exact Or.inr rfl)))) (fun _ _ _ _ _ => (dts_one (dt_w (dw_or (dt_not (dt_val (dp_isi (t := .int) (by rfl) e.b_isinstance (zv 3) (by rfl) e.b_int boot_int))) (dw_or1 (dt_val (dp_isi (t := .bool) (by rfl) e.b_isinstance (zv 3) (by rfl) e.b_bool boot_bool))))))) (fun _ _ _ _ _ => (dp_esc (zv 3))) (by simp [tgS, tgsS])))) (dv_of (dp_fz (do_lst dps_nil))) (by rfl)) (dss_one (ds_ret dp_bool)) dss_nil)
      (dss_one (ds_ret (dp_and (dp_cmp (or_eq hr.units) (dv_of (dp_fz (do_callB (cd_sorted hr.units) (by rfl) e.b_sorted boot_sorted (dvs_cons (dv_of (dp_ix (ixr hr.units) (zv 0) (dv_of dp_int) (fun _ _ => rfl))) dvs_nil)))) (dv_of (dp_fz (do_lstRg rfl (by rfl) e.b_list (drg2 (by rfl) e.b_range (dv_of dp_int) (dv_of (dp_ofR (dr_bin or_add or_cat (zv 2) (dv_of dp_int)))))))) (by rfl)) (dp_one (dp_ofR (dr_fn ((fn__law_is_simple e).mono (by omega)) hr (by rfl) (dvs_cons (dv_of (dp_ix (ixr hr.units) (zv 0) (dv_of dp_int) (fun _ _ => rfl))) dvs_nil))))))))))))))
theorem sc__law_grown : FnScope ["told_one", "rows", "one_tree", "straight"] ["told_one"] (defScope s__law_grown) := ⟨rfl, rfl, rfl, by decide +kernel, rfl, by decide +kernel, by decide +kernel⟩
theorem fn__law_grown (e : EnvOk mg K) : ∀ n : Nat, FnP P w K mg base "_law_grown" s__law_grown (n + 2) ["told_one"] [.v] (φ__law_grown n)
  | 0 => by
    obtain ⟨f, fd, F, hm⟩ := e.f__law_grown
    exact fnP_bad F hm (F.binds (ps := ["told_one"]) fun _ _ _ _ _ _ us hl => match us, hl with | [_], _ => rfl)
  | n + 1 => by
    have ih := fn__law_grown e n
    obtain ⟨f, fd, F, hm⟩ := e.f__law_grown
    refine (show n + 1 + 2 = (n + 2) + 1 by omega) ▸ fnP_mk (N := ["told_one", "rows", "one_tree", "straight"]) F hm (F.binds (ps := ["told_one"]) fun _ _ _ _ _ _ us hl => match us, hl with | [_], _ => rfl) sc__law_grown rfl rfl fun cdv A outer s H E hr => ?_
    exact (dss_cons (ds_if (dt_cmp (or_eq hr.units) (dv_of (dp_ix (ixr hr.units) (zv 0) (dv_of dp_int) (fun _ _ => rfl))) (dv_of dp_str) (by rfl)) (dss_one (ds_ret (dp_tup (dps_cons dp_int dps_nil)))) dss_nil)
      (dss_cons (ds_setComp [("one_tree", 2)] (i := 1) rfl sc__law_grown.nd rfl rfl (sw_true rfl rfl (by rfl) (by rfl)) (di_val (dv_of (dp_ix (ixr hr.units) (zv 0) (dv_of (dp_un un_negD (dv_of dp_int))) (fun _ _ => rfl)))) (blkOk_by (by rfl)) (fun _ _ _ _ _ => (dgb_any (dg_name (i := 2) sc__law_grown.nd rfl (by first | exact Or.inl rfl | exact Or.inr rfl)))) (fun _ _ _ _ _ => dts_nil) (fun _ _ _ _ _ => (dp_ofR (dr_fn ih hr (by rfl) (dvs_cons (zv 2) dvs_nil)))) (by simp [tgS, tgsS]))
      (dss_cons (ds_if (dt_cmp (or_eq hr.units) (dv_of (dp_ix (ixr hr.units) (zv 0) (dv_of dp_int) (fun _ _ => rfl))) (dv_of dp_str) (by rfl)) (dss_one (ds_retR (dr_fn ((fn__law_filled e).mono (by omega)) hr (by rfl) (dvs_cons (dv_of (dp_ix (ixr hr.units) (zv 0) (dv_of dp_int) (fun _ _ => rfl))) (dvs_cons (zv 1) dvs_nil))))) dss_nil)
      (dss_cons (ds_set (i := 3) sc__law_grown.nd rfl (by first | exact Or.inl rfl | exact Or.inr rfl) (dp_tupRg rfl (by rfl) e.b_tuple (drg2 (by rfl) e.b_range (dv_of dp_int) (dv_of (dp_ofR (dr_bin or_add or_cat (dv_of (dp_callB cd_len (by rfl) e.b_len boot_len (dvs_cons (zv 1) dvs_nil))) (dv_of dp_int)))))))
      (dss_one (ds_retR (dr_fn ((fn__law_filled e).mono (by omega)) hr (by rfl) (dvs_cons (dv_of (dp_ifE (dt_cmp (or_eq hr.units) (dv_of (dp_ix (ixr hr.units) (zv 0) (dv_of dp_int) (fun _ _ => rfl))) (dv_of dp_str) (by rfl)) (dp_esc (zv 3)) (dp_ofR (dr_or (dp_back (zv 3)) (do_backL (zv 3)))))) (dvs_cons (zv 1) dvs_nil)))))))))
theorem sc__law_bent_simple : FnScope ["deck", "row", "way", "many", "x"] ["deck", "row"] (defScope s__law_bent_simple) := ⟨rfl, rfl, rfl, by decide +kernel, rfl, by decide +kernel, by decide +kernel⟩
theorem fn__law_bent_simple (e : EnvOk mg K) : FnP P w K mg base "_law_bent_simple" s__law_bent_simple 2 ["deck", "row"] [.m, .v] φ__law_bent_simple := by
  obtain ⟨f, fd, F, hm⟩ := e.f__law_bent_simple
  refine fnP_mk (k := 1) (N := ["deck", "row", "way", "many", "x"]) F hm (F.binds (ps := ["deck", "row"]) fun _ _ _ _ _ _ us hl => match us, hl with | [_, _], _ => rfl) sc__law_bent_simple rfl rfl fun cdv A outer s H E hr => ?_
  exact (dss_cons (ds_parG rfl sc__law_bent_simple.nd (.cons (i := 2) rfl (by first | exact Or.inl rfl | exact Or.inr rfl) (.inl rfl) rfl (.cons (i := 3) rfl (by first | exact Or.inl rfl | exact Or.inr rfl) (.inl rfl) rfl .nil)) (dms_r (dr_fn ((fn__law_take e).mono (by omega)) hr (by rfl) (dvs_cons (zv 0) (dvs_cons (dv_of dp_int) dvs_nil))) (dms_d (dp_callB cd_len (by rfl) e.b_len boot_len (dvs_cons (zv 1) dvs_nil)) dms_nil)) (by decide))
      (dss_cons (ds_if (dt_cmp (or_eq hr.units) (zv 2) (dv_of dp_int) (by rfl)) (dss_one (ds_ret (dp_callTy cd_tuple (by rfl) e.b_tuple boot_tuple (dvs_cons (dv_of (dp_fz (do_comp [("x", 4)] rfl sc__law_bent_simple.nd (di_val (zv 1)) (blkOk_by (by rfl)) (fun _ _ _ _ _ => (dgb_any (dg_name (i := 4) sc__law_bent_simple.nd rfl (by first | exact Or.inl rfl | exact Or.inr rfl)))) (fun _ _ _ _ _ => dts_nil) (fun _ _ _ _ _ => (dp_ifE (dt_cmp (or_eq hr.units) (zv 4) (zv 3) (by rfl)) (dp_ofR (dr_bin or_add or_cat (zv 3) (dv_of dp_int))) (dp_esc (zv 4)))) (by simp [tgS, tgsS])))) dvs_nil)))) dss_nil)
      (dss_cons (ds_if (dt_cmp (or_eq hr.units) (zv 2) (dv_of dp_int) (by rfl)) (dss_one (ds_ret (dp_callTy cd_tuple (by rfl) e.b_tuple boot_tuple (dvs_cons (dv_of (dp_fz (do_comp [("x", 4)] rfl sc__law_bent_simple.nd (di_val (zv 1)) (blkOk_by (by rfl)) (fun _ _ _ _ _ => (dgb_any (dg_name (i := 4) sc__law_bent_simple.nd rfl (by first | exact Or.inl rfl | exact Or.inr rfl)))) (fun _ _ _ _ _ => dts_nil) (fun _ _ _ _ _ => (dp_ifE (dt_cmp (or_eq hr.units) (zv 4) (dv_of dp_int) (by rfl)) dp_bool (dp_esc (zv 4)))) (by simp [tgS, tgsS])))) dvs_nil)))) dss_nil)
      (dss_one (ds_ret (dp_callTy cd_tuple (by rfl) e.b_tuple boot_tuple (dvs_cons (dv_of (dp_fz (do_comp [("x", 4)] rfl sc__law_bent_simple.nd (di_val (zv 1)) (blkOk_by (by rfl)) (fun _ _ _ _ _ => (dgb_any (dg_name (i := 4) sc__law_bent_simple.nd rfl (by first | exact Or.inl rfl | exact Or.inr rfl)))) (fun _ _ _ _ _ => dts_nil) (fun _ _ _ _ _ => (dp_ix (ixr hr.units) (dv_of (dp_fz (do_lst (dps_cons (dp_bin or_sub (zv 4) (dv_of dp_int)) (dps_cons (dp_ofR (dr_bin or_add or_cat (zv 4) (dv_of dp_int))) (dps_cons (dp_bin or_mul (dv_of dp_int) (zv 4)) dps_nil)))))) (zv 2) (fun _ _ => rfl))) (by simp [tgS, tgsS])))) dvs_nil)))))))
theorem sc__law_bent_here : FnScope ["deck", "told_one", "some", "way", "trees", "at", "row"] ["deck", "told_one"] (defScope s__law_bent_here) := ⟨rfl, rfl, rfl, by decide +kernel, rfl, by decide +kernel, by decide +kernel⟩
theorem fn__law_bent_here (e : EnvOk mg K) : FnP P w K mg base "_law_bent_here" s__law_bent_here 3 ["deck", "told_one"] [.m, .v] φ__law_bent_here := by
  obtain ⟨f, fd, F, hm⟩ := e.f__law_bent_here
  refine fnP_mk (k := 2) (N := ["deck", "told_one", "some", "way", "trees", "at", "row"]) F hm (F.binds (ps := ["deck", "told_one"]) fun _ _ _ _ _ _ us hl => match us, hl with | [_, _], _ => rfl) sc__law_bent_here rfl rfl fun cdv A outer s H E hr => ?_
  exact (dss_cons (ds_setO (i := 2) sc__law_bent_here.nd rfl (by first | exact Or.inl rfl | exact Or.inr rfl) (do_lst (dps_cons (dp_tup (dps_cons dp_str dps_nil)) (dps_cons (dp_tup (dps_cons dp_str dps_nil)) (dps_cons (dp_tup (dps_cons dp_str (dps_cons (dp_tup dps_nil) dps_nil))) (dps_cons (dp_tup (dps_cons dp_str (dps_cons (dp_tup (dps_cons (dp_tup (dps_cons dp_str dps_nil)) dps_nil)) dps_nil))) (dps_cons (dp_tup (dps_cons dp_str (dps_cons (dp_tup (dps_cons (dp_tup (dps_cons dp_str dps_nil)) (dps_cons (dp_tup (dps_cons dp_str dps_nil)) dps_nil))) dps_nil))) (dps_cons (dp_tup dps_nil) (dps_cons dp_int (dps_cons dp_str (dps_cons (dp_tup (dps_cons dp_str (dps_cons (dp_tup dps_nil) dps_nil))) dps_nil)))))))))))
      (dss_cons (ds_setR (i := 2) sc__law_bent_here.nd rfl (by first | exact Or.inl rfl | exact Or.inr rfl) (dr_bin or_add or_cat (zv 2) (dv_of (dp_fz (do_lst (dps_cons (dp_tup (dps_cons dp_str (dps_cons (dp_tup (dps_cons (dp_tup (dps_cons dp_str dps_nil)) (dps_cons (dp_tup (dps_cons dp_str dps_nil)) dps_nil))) dps_nil))) (dps_cons (dp_tup (dps_cons dp_str (dps_cons (dp_tup (dps_cons dp_int (dps_cons dp_int (dps_cons dp_int (dps_cons dp_int dps_nil))))) (dps_cons (dp_bin or_mulT (dv_of (dp_tup (dps_cons (dp_tup (dps_cons dp_str dps_nil)) dps_nil))) (dv_of dp_int)) dps_nil)))) (dps_cons (dp_tup (dps_cons dp_str (dps_cons (dp_tup (dps_cons dp_int (dps_cons dp_int dps_nil))) (dps_cons (dp_bin or_mulT (dv_of (dp_tup (dps_cons (dp_tup (dps_cons dp_str dps_nil)) dps_nil))) (dv_of dp_int)) dps_nil)))) dps_nil))))))))
      (dss_cons (ds_setR (i := 2) sc__law_bent_here.nd rfl (by first | exact Or.inl rfl | exact Or.inr rfl) (dr_bin or_add or_cat (zv 2) (dv_of (dp_fz (do_lst (dps_cons (dp_tup (dps_cons dp_str (dps_cons (dp_tup (dps_cons dp_int (dps_cons dp_int (dps_cons dp_int (dps_cons dp_int dps_nil))))) (dps_cons (dp_bin or_mulT (dv_of (dp_tup (dps_cons (dp_tup (dps_cons dp_str dps_nil)) dps_nil))) (dv_of dp_int)) dps_nil)))) (dps_cons (dp_tup (dps_cons dp_str (dps_cons (dp_tup (dps_cons (dp_tup (dps_cons dp_int dps_nil)) (dps_cons (dp_tup (dps_cons dp_int dps_nil)) dps_nil))) dps_nil))) (dps_cons (dp_tup (dps_cons dp_str (dps_cons (dp_tup (dps_cons dp_int (dps_cons dp_int (dps_cons dp_int dps_nil)))) (dps_cons (dp_bin or_mulT (dv_of (dp_tup (dps_cons (dp_tup (dps_cons dp_str dps_nil)) dps_nil))) (dv_of dp_int)) dps_nil)))) dps_nil))))))))
      (dss_cons (ds_setR (i := 3) sc__law_bent_here.nd rfl (by first | exact Or.inl rfl | exact Or.inr rfl) (dr_fn ((fn__law_take e).mono (by omega)) hr (by rfl) (dvs_cons (zv 0) (dvs_cons (dv_of dp_int) dvs_nil))))
      (dss_cons (ds_if (dt_cmp (or_eq hr.units) (zv 3) (dv_of dp_int) (by rfl)) (dss_one (ds_retO (do_callTy cd_list (by rfl) e.b_list boot_list (dvs_cons (zv 1) dvs_nil)))) dss_nil)
      (dss_cons (ds_if (dt_w (dw_or (dt_cmp or_lt (zv 3) (dv_of dp_int) (by rfl)) (dw_or1 (dt_cmp (or_eq hr.units) (zv 1) (dv_of (dp_tup (dps_cons dp_str dps_nil))) (by rfl))))) (dss_one (ds_ret (dp_ix (ixr hr.units) (zv 2) (dv_of (dp_ofR (dr_fn ((fn__law_take e).mono (by omega)) hr (by rfl) (dvs_cons (zv 0) (dvs_cons (dv_of dp_int) dvs_nil))))) (fun _ _ => rfl)))) dss_nil)
      (dss_cons (ds_set (i := 4) sc__law_bent_here.nd rfl (by first | exact Or.inl rfl | exact Or.inr rfl) (dp_ix (ixr hr.units) (zv 1) (dv_of (dp_un un_negD (dv_of dp_int))) (fun _ _ => rfl)))
      (dss_cons (ds_setR (i := 5) sc__law_bent_here.nd rfl (by first | exact Or.inl rfl | exact Or.inr rfl) (dr_fn ((fn__law_take e).mono (by omega)) hr (by rfl) (dvs_cons (zv 0) (dvs_cons (dv_of (dp_callB cd_len (by rfl) e.b_len boot_len (dvs_cons (zv 4) dvs_nil))) dvs_nil))))
      (dss_cons (ds_if (dt_cmp (or_eq hr.units) (zv 3) (dv_of dp_int) (by rfl)) (dss_one (ds_retR (dr_bin or_add or_cat (dv_of (dp_ofR (dr_cut (zv 1) dpo_none (dpo_some (dp_un un_negD (dv_of dp_int)))))) (dv_of (dp_tup (dps_cons (dp_ofR (dr_bin or_add or_cat (dv_of (dp_ofR (dr_cut (zv 4) dpo_none (dpo_some (dp_esc (zv 5)))))) (dv_of (dp_ofR (dr_cut (zv 4) (dpo_some (dp_ofR (dr_bin or_add or_cat (zv 5) (dv_of dp_int)))) dpo_none))))) dps_nil)))))) dss_nil)
      (dss_cons (ds_if (dt_cmp (or_eq hr.units) (zv 3) (dv_of dp_int) (by rfl)) (dss_one (ds_retR (dr_bin or_add or_cat (dv_of (dp_ofR (dr_cut (zv 1) dpo_none (dpo_some (dp_un un_negD (dv_of dp_int)))))) (dv_of (dp_tup (dps_cons (dp_ofR (dr_bin or_add or_cat (dv_of (dp_ofR (dr_cut (zv 4) dpo_none (dpo_some (dp_ofR (dr_bin or_add or_cat (zv 5) (dv_of dp_int))))))) (dv_of (dp_ofR (dr_cut (zv 4) (dpo_some (dp_esc (zv 5))) dpo_none))))) dps_nil)))))) dss_nil)
      (dss_cons (ds_if (dt_cmp (or_eq hr.units) (zv 3) (dv_of dp_int) (by rfl)) (dss_one (ds_retR (dr_bin or_add or_cat (dv_of (dp_ix (ixr hr.units) (dv_of (dp_fz (do_lst (dps_cons (dp_tup (dps_cons dp_str dps_nil)) (dps_cons (dp_tup (dps_cons dp_str dps_nil)) (dps_cons (dp_tup (dps_cons dp_str dps_nil)) (dps_cons (dp_tup (dps_cons dp_str dps_nil)) (dps_cons (dp_tup (dps_cons dp_int dps_nil)) (dps_cons (dp_tup (dps_cons dp_str dps_nil)) (dps_cons (dp_tup (dps_cons dp_str dps_nil)) (dps_cons (dp_tup (dps_cons dp_str dps_nil)) dps_nil))))))))))) (dv_of (dp_ofR (dr_fn ((fn__law_take e).mono (by omega)) hr (by rfl) (dvs_cons (zv 0) (dvs_cons (dv_of dp_int) dvs_nil))))) (fun _ _ => rfl))) (dv_of (dp_ofR (dr_cut (zv 1) (dpo_some dp_int) dpo_none)))))) dss_nil)
      (dss_cons (ds_if (dt_cmp (or_eq hr.units) (zv 3) (dv_of dp_int) (by rfl)) (dss_one (ds_retR (dr_bin or_add or_cat (zv 1) (dv_of (dp_tup (dps_cons (dp_tup dps_nil) dps_nil)))))) dss_nil)
      (dss_cons (ds_if (dt_cmp (or_eq hr.units) (zv 3) (dv_of dp_int) (by rfl)) (dss_one (ds_ret (dp_tup (dps_cons (dp_ix (ixr hr.units) (zv 1) (dv_of dp_int) (fun _ _ => rfl)) (dps_cons (dp_esc (zv 4)) dps_nil))))) dss_nil)
      (dss_cons (ds_if (dt_cmp (or_eq hr.units) (zv 3) (dv_of dp_int) (by rfl)) (dss_one (ds_retR (dr_bin or_add or_cat (dv_of (dp_ofR (dr_cut (zv 1) dpo_none (dpo_some (dp_un un_negD (dv_of dp_int)))))) (dv_of (dp_tup (dps_cons (dp_ix (ixr hr.units) (zv 4) (zv 5) (fun _ _ => rfl)) dps_nil)))))) dss_nil)
      (dss_cons (ds_if (dt_cmp (or_eq hr.units) (zv 3) (dv_of dp_int) (by rfl)) (dss_one (ds_retR (dr_bin or_add or_cat (dv_of (dp_ofR (dr_cut (zv 1) dpo_none (dpo_some (dp_un un_negD (dv_of dp_int)))))) (dv_of (dp_tup (dps_cons (dp_fz (do_callTy cd_list (by rfl) e.b_list boot_list (dvs_cons (zv 4) dvs_nil))) dps_nil)))))) dss_nil)
      (dss_cons (ds_if (dt_w (dw_and (dt_cmp (or_eq hr.units) (zv 3) (dv_of dp_int) (by rfl)) (dw_and1 (dt_cmp (or_eq hr.units) (dv_of (dp_ix (ixr hr.units) (zv 1) (dv_of dp_int) (fun _ _ => rfl))) (dv_of dp_str) (by rfl))))) (dss_one (ds_ret (dp_tup (dps_cons dp_str (dps_cons (dp_fz (do_callTy cd_list (by rfl) e.b_list boot_list (dvs_cons (dv_of (dp_ix (ixr hr.units) (zv 1) (dv_of dp_int) (fun _ _ => rfl))) dvs_nil))) (dps_cons (dp_esc (zv 4)) dps_nil)))))) dss_nil)
      (dss_cons (ds_if (dt_w (dw_and (dt_cmp (or_eq hr.units) (dv_of (dp_ix (ixr hr.units) (zv 1) (dv_of dp_int) (fun _ _ => rfl))) (dv_of dp_str) (by rfl)) (dw_and1 (dt_cmp (or_eq hr.units) (dv_of (dp_ofR (dr_fn ((fn__law_take e).mono (by omega)) hr (by rfl) (dvs_cons (zv 0) (dvs_cons (dv_of dp_int) dvs_nil))))) (dv_of dp_int) (by rfl))))) (dss_one (ds_ret (dp_tup (dps_cons dp_str (dps_cons (dp_ofR (dr_fn ((fn__law_bent_simple e).mono (by omega)) hr (by rfl) (dvs_cons (zv 0) (dvs_cons (dv_of (dp_ix (ixr hr.units) (zv 1) (dv_of dp_int) (fun _ _ => rfl))) dvs_nil)))) (dps_cons (dp_esc (zv 4)) dps_nil)))))) dss_nil)
      (dss_cons (ds_setO (i := 6) sc__law_bent_here.nd rfl (by first | exact Or.inl rfl | exact Or.inr rfl) (do_lst (dps_cons (dp_tup (dps_cons dp_int (dps_cons dp_int (dps_cons dp_int (dps_cons dp_int dps_nil))))) (dps_cons (dp_tup (dps_cons dp_int (dps_cons dp_int (dps_cons dp_int (dps_cons dp_int dps_nil))))) (dps_cons (dp_tup (dps_cons dp_int (dps_cons dp_int (dps_cons dp_int (dps_cons dp_int dps_nil))))) (dps_cons (dp_tup (dps_cons dp_int (dps_cons dp_int (dps_cons dp_int (dps_cons dp_int dps_nil))))) (dps_cons (dp_tup (dps_cons dp_bool (dps_cons dp_int (dps_cons dp_int (dps_cons dp_int dps_nil))))) (dps_cons (dp_tup (dps_cons dp_int (dps_cons dp_int (dps_cons dp_bool (dps_cons dp_int dps_nil))))) (dps_cons (dp_tup (dps_cons dp_int (dps_cons dp_int (dps_cons dp_int (dps_cons dp_int dps_nil))))) (dps_cons (dp_tup (dps_cons dp_int (dps_cons dp_int (dps_cons dp_int (dps_cons dp_int dps_nil))))) dps_nil))))))))))
      (dss_one (ds_ret (dp_tup (dps_cons dp_str (dps_cons (dp_ix (ixr hr.units) (zv 6) (dv_of (dp_ofR (dr_fn ((fn__law_take e).mono (by omega)) hr (by rfl) (dvs_cons (zv 0) (dvs_cons (dv_of dp_int) dvs_nil))))) (fun _ _ => rfl)) (dps_cons (dp_esc (zv 4)) dps_nil))))))))))))))))))))))))
theorem sc__law_bent : FnScope ["deck", "told_one", "trees", "at"] ["deck", "told_one"] (defScope s__law_bent) := ⟨rfl, rfl, rfl, by decide +kernel, rfl, by decide +kernel, by decide +kernel⟩
theorem fn__law_bent (e : EnvOk mg K) : ∀ n : Nat, FnP P w K mg base "_law_bent" s__law_bent (n + 4) ["deck", "told_one"] [.m, .v] (φ__law_bent n)
  | 0 => by
    obtain ⟨f, fd, F, hm⟩ := e.f__law_bent
    exact fnP_bad F hm (F.binds (ps := ["deck", "told_one"]) fun _ _ _ _ _ _ us hl => match us, hl with | [_, _], _ => rfl)
  | n + 1 => by
    have ih := fn__law_bent e n
    obtain ⟨f, fd, F, hm⟩ := e.f__law_bent
    refine (show n + 1 + 4 = (n + 4) + 1 by omega) ▸ fnP_mk (N := ["deck", "told_one", "trees", "at"]) F hm (F.binds (ps := ["deck", "told_one"]) fun _ _ _ _ _ _ us hl => match us, hl with | [_, _], _ => rfl) sc__law_bent rfl rfl fun cdv A outer s H E hr => ?_
    exact (dss_cons (ds_if (dt_w (dw_or (dt_cmp (or_eq hr.units) (zv 1) (dv_of (dp_tup (dps_cons dp_str dps_nil))) (by rfl)) (dw_or1 (dt_cmp (or_eq hr.units) (dv_of (dp_ofR (dr_fn ((fn__law_take e).mono (by omega)) hr (by rfl) (dvs_cons (zv 0) (dvs_cons (dv_of dp_int) dvs_nil))))) (dv_of dp_int) (by rfl))))) (dss_one (ds_retR (dr_fn ((fn__law_bent_here e).mono (by omega)) hr (by rfl) (dvs_cons (zv 0) (dvs_cons (zv 1) dvs_nil))))) dss_nil)
      (dss_cons (ds_set (i := 2) sc__law_bent.nd rfl (by first | exact Or.inl rfl | exact Or.inr rfl) (dp_ix (ixr hr.units) (zv 1) (dv_of (dp_un un_negD (dv_of dp_int))) (fun _ _ => rfl)))
      (dss_cons (ds_setR (i := 3) sc__law_bent.nd rfl (by first | exact Or.inl rfl | exact Or.inr rfl) (dr_fn ((fn__law_take e).mono (by omega)) hr (by rfl) (dvs_cons (zv 0) (dvs_cons (dv_of (dp_callB cd_len (by rfl) e.b_len boot_len (dvs_cons (zv 2) dvs_nil))) dvs_nil))))
      (dss_one (ds_retR (dr_bin or_add or_cat (dv_of (dp_ofR (dr_cut (zv 1) dpo_none (dpo_some (dp_un un_negD (dv_of dp_int)))))) (dv_of (dp_tup (dps_cons (dp_ofR (dr_bin or_add or_cat (dv_of (dp_ofR (dr_bin or_add or_cat (dv_of (dp_ofR (dr_cut (zv 2) dpo_none (dpo_some (dp_esc (zv 3)))))) (dv_of (dp_tup (dps_cons (dp_ofR (dr_fn ih hr (by rfl) (dvs_cons (zv 0) (dvs_cons (dv_of (dp_ix (ixr hr.units) (zv 2) (zv 3) (fun _ _ => rfl))) dvs_nil)))) dps_nil)))))) (dv_of (dp_ofR (dr_cut (zv 2) (dpo_some (dp_ofR (dr_bin or_add or_cat (zv 3) (dv_of dp_int)))) dpo_none))))) dps_nil)))))))))
theorem sc__law_told : FnScope ["given", "named", "answer", "e"] ["given", "named"] (defScope s__law_told) := ⟨rfl, rfl, rfl, by decide +kernel, rfl, by decide +kernel, by decide +kernel⟩
theorem fn__law_told (e : EnvOk mg K) : FnP P w K mg base "_law_told" s__law_told 38 ["given", "named"] [.p, .p] φ__law_told := by
  obtain ⟨f, fd, F, hm⟩ := e.f__law_told
  obtain ⟨xC_InvalidPair, xI_InvalidPair, xE_InvalidPair, xP_InvalidPair, xT_InvalidPair, xX_InvalidPair⟩ := raise_InvalidPair (P := P) (w := w) (base := base) e
  obtain ⟨oC_OrderError, oE_OrderError⟩ := e.o_OrderError
  refine fnP_mk (k := 37) (N := ["given", "named", "answer", "e"]) F hm (F.binds (ps := ["given", "named"]) fun _ _ _ _ _ _ us hl => match us, hl with | [_, _], _ => rfl) sc__law_told rfl rfl fun cdv A outer s H E hr => ?_
  exact (dss_cons (ds_set (i := 2) sc__law_told.nd rfl (by first | exact Or.inl rfl | exact Or.inr rfl) (dp_tup (dps_cons dp_str (dps_cons dp_none dps_nil))))
      (dss_cons (ds_try (i := 3) rfl rfl sc__law_told.nd rfl rfl (fun pn xe po => (dss_one (ds_set (i := 2) sc__law_told.nd rfl (by first | exact Or.inl rfl | exact Or.inr rfl) (dp_ifE (dt_val (dp_esc (zv 1))) (dp_ofR (dr_fnK0 ((fn_from_tree e).mono (by omega)) hr (by rfl) ["tree"] [0] (dks_cons (dv_of (dp_esc (zv 0))) dks_nil) (fun _ _ _ _ _ _ _ ws hl => match ws, hl with | [_], _ => rfl) (hln := fun W σ H Q _ q => len_zt (len_cons len_nil) q))) (dp_ofR (dr_fn ((fn_from_tree e).mono (by omega)) hr (by rfl) (dvs_cons (dv_of (dp_esc (zv 0))) dvs_nil)))))))
      (.cons ⟨by rfl, by decide, .inl xE_InvalidPair.gC⟩ (ext_one xE_InvalidPair xT_InvalidPair xX_InvalidPair) (sxs_one (sx_set (j := 2) sc__law_told.nd rfl (by first | exact Or.inl rfl | exact Or.inr rfl) (px_tup (pxs_str (pxs_one (px_val (i := 3) rfl (by first | exact Or.inl rfl | exact Or.inr (Or.inl rfl) | exact Or.inr (Or.inr rfl))))))))
      (.cons ⟨by rfl, by decide, .inl oE_OrderError⟩ ext_none (sxs_one (sx_set (j := 2) sc__law_told.nd rfl (by first | exact Or.inl rfl | exact Or.inr rfl) (px_tup (pxs_str (pxs_one (px_val (i := 3) rfl (by first | exact Or.inl rfl | exact Or.inr (Or.inl rfl) | exact Or.inr (Or.inr rfl))))))))
      .nil)))
      (dss_one (ds_retV (i := 2) rfl (by first | exact Or.inl rfl | exact Or.inr (Or.inl rfl) | exact Or.inr (Or.inr rfl))))))
theorem sc_law : FnScope ["script", "at", "deck", "row", "told_one", "turn", "bent", "due"] ["script"] (defScope s_law) := ⟨rfl, rfl, rfl, by decide +kernel, rfl, by decide +kernel, by decide +kernel⟩
theorem fn_law (e : EnvOk mg K) : FnP P w K mg base "law" s_law 39 ["script"] [.v] φ_law := by
  obtain ⟨f, fd, F, hm⟩ := e.f_law
  refine fnP_mk (k := 38) (N := ["script", "at", "deck", "row", "told_one", "turn", "bent", "due"]) F hm (F.binds (ps := ["script"]) fun _ _ _ _ _ _ us hl => match us, hl with | [_], _ => rfl) sc_law rfl rfl fun cdv A outer s H E hr => ?_
  exact (dss_cons (ds_for [1, 2, 3, 4, 5, 6, 7] passX rfl (di_range1 (by rfl) e.b_range (dvs_cons (dv_of (dp_callB (cd_max rfl) (by rfl) e.b_max boot_max (dvs_cons (dv_of dp_int) (dvs_cons (dv_of (dp_callB (cd_min rfl) (by rfl) e.b_min boot_min (dvs_cons (dv_of (dp_callB cd_len (by rfl) e.b_len boot_len (dvs_cons (zv 0) dvs_nil))) (dvs_cons (dv_of dp_int) dvs_nil)))) dvs_nil)))) dvs_nil)) (dgb_any (dg_name (i := 1) sc_law.nd rfl (by first | exact Or.inl rfl | exact Or.inr rfl))) (dss_cons (ds_setR (i := 2) sc_law.nd rfl (by first | exact Or.inl rfl | exact Or.inr rfl) (dr_fn ((fn__law_deck e).mono (by omega)) hr (by rfl) (dvs_cons (zv 0) (dvs_cons (zv 1) dvs_nil))))
      (dss_cons (ds_setR (i := 3) sc_law.nd rfl (by first | exact Or.inl rfl | exact Or.inr rfl) (dr_fn ((fn__law_row e).mono (by omega)) hr (by rfl) (dvs_cons (zv 2) (dvs_cons (dv_of dp_int) dvs_nil))))
      (dss_cons (ds_setR (i := 4) sc_law.nd rfl (by first | exact Or.inl rfl | exact Or.inr rfl) (dr_fn ((fn_tree e).mono (by omega)) hr (by rfl) (dvs_cons (dv_of (dp_ifE (dt_cmp (or_ne hr.units) (zv 3) (dv_of (dp_tup dps_nil)) (by rfl)) (dp_esc (zv 3)) (dp_tup (dps_cons dp_int dps_nil)))) dvs_nil)))
      (dss_one (ds_for [5, 6, 7] passX rfl (di_range1 (by rfl) e.b_range (dvs_cons (dv_of dp_int) dvs_nil)) (dgb_any (dg_name (i := 5) sc_law.nd rfl (by first | exact Or.inl rfl | exact Or.inr rfl))) (dss_cons (ds_set (i := 6) sc_law.nd rfl (by first | exact Or.inl rfl | exact Or.inr rfl) (dp_ifE (dt_val (dp_ofR (dr_fn ((fn__law_is_tree e 16).mono (by omega)) hr (by rfl) (dvs_cons (zv 4) dvs_nil)))) (dp_ofR (dr_fn ((fn__law_bent e 16).mono (by omega)) hr (by rfl) (dvs_cons (zv 2) (dvs_cons (zv 4) dvs_nil)))) (dp_tup dps_nil)))
      (dss_cons (ds_set (i := 7) sc_law.nd rfl (by first | exact Or.inl rfl | exact Or.inr rfl) (dp_ifE (dt_val (dp_ofR (dr_fn ((fn__law_is_tree e 16).mono (by omega)) hr (by rfl) (dvs_cons (zv 6) dvs_nil)))) (dp_ofR (dr_fn ((fn__law_grown e 16).mono (by omega)) hr (by rfl) (dvs_cons (zv 6) dvs_nil))) (dp_tup (dps_cons dp_str (dps_cons (dp_esc (zv 6)) dps_nil)))))
      (dss_cons (ds_if (dt_cmp or_gt (dv_of (dp_callB cd_len (by rfl) e.b_len boot_len (dvs_cons (zv 7) dvs_nil))) (dv_of dp_int) (by rfl)) (dss_one ds_continue) dss_nil)
      (dss_one (ds_if (dt_w (dw_or (dt_not (dt_val (dp_ofR (dr_fn ((fn__law_is_tree e 16).mono (by omega)) hr (by rfl) (dvs_cons (zv 4) dvs_nil))))) (dw_or1 (dt_not (dt_val (dp_ofR (dr_fn ((fn__law_same e 28).mono (by omega)) hr (by rfl) (dvs_cons (dv_of (dp_ofR (dr_fn ((fn__law_told e).mono (by omega)) hr (by rfl) (dvs_cons (dv_of (dp_esc (zv 6))) (dvs_cons (dv_of (dp_cmp (or_eq hr.units) (dv_of (dp_ofR (dr_fn ((fn__law_take e).mono (by omega)) hr (by rfl) (dvs_cons (zv 2) (dvs_cons (dv_of dp_int) dvs_nil))))) (dv_of dp_int) (by rfl))) dvs_nil))))) (dvs_cons (zv 7) dvs_nil))))))))) (dss_one (ds_ret dp_bool)) dss_nil)))))))))))
      (dss_one (ds_ret dp_bool)))
end
theorem all_mk {w : World} {K : PySem.W.Frag} {h : Heap} {mg : Str → Option Value} {fa : Addr} (X : K.In h) (G : h.Ns mainGlobals mg) (hfa : mg "law" = some (.ref fa)) (main : ∀ ns : List Int, ns.length ≤ 63 → φ_law [.list (ns.map PyData.int)] = .ret (.d (.bool true)) [])
    {od0 an0 : Option Addr} {f0 : Addr} {sl0 : Array (Option Value)} {oc0 kV0 dc0 pm0 cd0 ct0 : Value} (a0 : PySem.W.nsIn K mainGlobals "is_integer" = some (some (.ref f0))) (l0 : K.lookup f0 = some ⟨oc0, od0, .func (PySem.W.fnOf "is_integer" "is_integer" (defArgs s_is_integer) (defBody s_is_integer) (defScope s_is_integer) .none kV0 dc0 pm0 an0 cd0 ct0), sl0⟩) (c0 : PySem.W.codeIn K cd0 "is_integer" = true) (k0 : PySem.W.keepIn K (.ref f0) = true)
    {od1 an1 : Option Addr} {f1 : Addr} {sl1 : Array (Option Value)} {oc1 kV1 dc1 pm1 cd1 ct1 : Value} (a1 : PySem.W.nsIn K mainGlobals "are_integers" = some (some (.ref f1))) (l1 : K.lookup f1 = some ⟨oc1, od1, .func (PySem.W.fnOf "are_integers" "are_integers" (defArgs s_are_integers) (defBody s_are_integers) (defScope s_are_integers) .none kV1 dc1 pm1 an1 cd1 ct1), sl1⟩) (c1 : PySem.W.codeIn K cd1 "are_integers" = true) (k1 : PySem.W.keepIn K (.ref f1) = true)
    {od2 an2 : Option Addr} {f2 : Addr} {sl2 : Array (Option Value)} {oc2 kV2 dc2 pm2 cd2 ct2 : Value} (a2 : PySem.W.nsIn K mainGlobals "is_order_of" = some (some (.ref f2))) (l2 : K.lookup f2 = some ⟨oc2, od2, .func (PySem.W.fnOf "is_order_of" "is_order_of" (defArgs s_is_order_of) (defBody s_is_order_of) (defScope s_is_order_of) .none kV2 dc2 pm2 an2 cd2 ct2), sl2⟩) (c2 : PySem.W.codeIn K cd2 "is_order_of" = true) (k2 : PySem.W.keepIn K (.ref f2) = true)
    {od3 an3 : Option Addr} {f3 : Addr} {sl3 : Array (Option Value)} {oc3 kV3 dc3 pm3 cd3 ct3 : Value} (a3 : PySem.W.nsIn K mainGlobals "compared" = some (some (.ref f3))) (l3 : K.lookup f3 = some ⟨oc3, od3, .func (PySem.W.fnOf "compared" "compared" (defArgs s_compared) (defBody s_compared) (defScope s_compared) .none kV3 dc3 pm3 an3 cd3 ct3), sl3⟩) (c3 : PySem.W.codeIn K cd3 "compared" = true) (k3 : PySem.W.keepIn K (.ref f3) = true)
    {od4 an4 : Option Addr} {f4 : Addr} {sl4 : Array (Option Value)} {oc4 kV4 dc4 pm4 cd4 ct4 : Value} (a4 : PySem.W.nsIn K mainGlobals "check_filled" = some (some (.ref f4))) (l4 : K.lookup f4 = some ⟨oc4, od4, .func (PySem.W.fnOf "check_filled" "check_filled" (defArgs s_check_filled) (defBody s_check_filled) (defScope s_check_filled) .none kV4 dc4 pm4 an4 cd4 ct4), sl4⟩) (c4 : PySem.W.codeIn K cd4 "check_filled" = true) (k4 : PySem.W.keepIn K (.ref f4) = true)
    {od5 an5 : Option Addr} {f5 : Addr} {sl5 : Array (Option Value)} {oc5 kV5 dc5 pm5 cd5 ct5 : Value} (a5 : PySem.W.nsIn K mainGlobals "lifted" = some (some (.ref f5))) (l5 : K.lookup f5 = some ⟨oc5, od5, .func (PySem.W.fnOf "lifted" "lifted" (defArgs s_lifted) (defBody s_lifted) (defScope s_lifted) .none kV5 dc5 pm5 an5 cd5 ct5), sl5⟩) (c5 : PySem.W.codeIn K cd5 "lifted" = true) (k5 : PySem.W.keepIn K (.ref f5) = true)
    {od6 an6 : Option Addr} {f6 : Addr} {sl6 : Array (Option Value)} {oc6 kV6 dc6 pm6 cd6 ct6 : Value} (a6 : PySem.W.nsIn K mainGlobals "summed_of" = some (some (.ref f6))) (l6 : K.lookup f6 = some ⟨oc6, od6, .func (PySem.W.fnOf "summed_of" "summed_of" (defArgs s_summed_of) (defBody s_summed_of) (defScope s_summed_of) .none kV6 dc6 pm6 an6 cd6 ct6), sl6⟩) (c6 : PySem.W.codeIn K cd6 "summed_of" = true) (k6 : PySem.W.keepIn K (.ref f6) = true)
    {od7 an7 : Option Addr} {f7 : Addr} {sl7 : Array (Option Value)} {oc7 kV7 dc7 pm7 cd7 ct7 : Value} (a7 : PySem.W.nsIn K mainGlobals "skew_summed_of" = some (some (.ref f7))) (l7 : K.lookup f7 = some ⟨oc7, od7, .func (PySem.W.fnOf "skew_summed_of" "skew_summed_of" (defArgs s_skew_summed_of) (defBody s_skew_summed_of) (defScope s_skew_summed_of) .none kV7 dc7 pm7 an7 cd7 ct7), sl7⟩) (c7 : PySem.W.codeIn K cd7 "skew_summed_of" = true) (k7 : PySem.W.keepIn K (.ref f7) = true)
    {od8 an8 : Option Addr} {f8 : Addr} {sl8 : Array (Option Value)} {oc8 kV8 dc8 pm8 cd8 ct8 : Value} (a8 : PySem.W.nsIn K mainGlobals "parts_of_sum" = some (some (.ref f8))) (l8 : K.lookup f8 = some ⟨oc8, od8, .func (PySem.W.fnOf "parts_of_sum" "parts_of_sum" (defArgs s_parts_of_sum) (defBody s_parts_of_sum) (defScope s_parts_of_sum) .none kV8 dc8 pm8 an8 cd8 ct8), sl8⟩) (c8 : PySem.W.codeIn K cd8 "parts_of_sum" = true) (k8 : PySem.W.keepIn K (.ref f8) = true)
    {od9 an9 : Option Addr} {f9 : Addr} {sl9 : Array (Option Value)} {oc9 kV9 dc9 pm9 cd9 ct9 : Value} (a9 : PySem.W.nsIn K mainGlobals "parts_of_skew" = some (some (.ref f9))) (l9 : K.lookup f9 = some ⟨oc9, od9, .func (PySem.W.fnOf "parts_of_skew" "parts_of_skew" (defArgs s_parts_of_skew) (defBody s_parts_of_skew) (defScope s_parts_of_skew) .none kV9 dc9 pm9 an9 cd9 ct9), sl9⟩) (c9 : PySem.W.codeIn K cd9 "parts_of_skew" = true) (k9 : PySem.W.keepIn K (.ref f9) = true)
    {od10 an10 : Option Addr} {f10 : Addr} {sl10 : Array (Option Value)} {oc10 kV10 dc10 pm10 cd10 ct10 : Value} (a10 : PySem.W.nsIn K mainGlobals "blocks_of" = some (some (.ref f10))) (l10 : K.lookup f10 = some ⟨oc10, od10, .func (PySem.W.fnOf "blocks_of" "blocks_of" (defArgs s_blocks_of) (defBody s_blocks_of) (defScope s_blocks_of) .none kV10 dc10 pm10 an10 cd10 ct10), sl10⟩) (c10 : PySem.W.codeIn K cd10 "blocks_of" = true) (k10 : PySem.W.keepIn K (.ref f10) = true)
    {od11 an11 : Option Addr} {f11 : Addr} {sl11 : Array (Option Value)} {oc11 kV11 dc11 pm11 cd11 ct11 : Value} (a11 : PySem.W.nsIn K mainGlobals "has_block" = some (some (.ref f11))) (l11 : K.lookup f11 = some ⟨oc11, od11, .func (PySem.W.fnOf "has_block" "has_block" (defArgs s_has_block) (defBody s_has_block) (defScope s_has_block) .none kV11 dc11 pm11 an11 cd11 ct11), sl11⟩) (c11 : PySem.W.codeIn K cd11 "has_block" = true) (k11 : PySem.W.keepIn K (.ref f11) = true)
    {od12 an12 : Option Addr} {f12 : Addr} {sl12 : Array (Option Value)} {oc12 kV12 dc12 pm12 cd12 ct12 : Value} (a12 : PySem.W.nsIn K mainGlobals "is_simple_of" = some (some (.ref f12))) (l12 : K.lookup f12 = some ⟨oc12, od12, .func (PySem.W.fnOf "is_simple_of" "is_simple_of" (defArgs s_is_simple_of) (defBody s_is_simple_of) (defScope s_is_simple_of) .none kV12 dc12 pm12 an12 cd12 ct12), sl12⟩) (c12 : PySem.W.codeIn K cd12 "is_simple_of" = true) (k12 : PySem.W.keepIn K (.ref f12) = true)
    {od13 an13 : Option Addr} {f13 : Addr} {sl13 : Array (Option Value)} {oc13 kV13 dc13 pm13 cd13 ct13 : Value} (a13 : PySem.W.nsIn K mainGlobals "put_together_of" = some (some (.ref f13))) (l13 : K.lookup f13 = some ⟨oc13, od13, .func (PySem.W.fnOf "put_together_of" "put_together_of" (defArgs s_put_together_of) (defBody s_put_together_of) (defScope s_put_together_of) .none kV13 dc13 pm13 an13 cd13 ct13), sl13⟩) (c13 : PySem.W.codeIn K cd13 "put_together_of" = true) (k13 : PySem.W.keepIn K (.ref f13) = true)
    {od14 an14 : Option Addr} {f14 : Addr} {sl14 : Array (Option Value)} {oc14 kV14 dc14 pm14 cd14 ct14 : Value} (a14 : PySem.W.nsIn K mainGlobals "greatest_blocks" = some (some (.ref f14))) (l14 : K.lookup f14 = some ⟨oc14, od14, .func (PySem.W.fnOf "greatest_blocks" "greatest_blocks" (defArgs s_greatest_blocks) (defBody s_greatest_blocks) (defScope s_greatest_blocks) .none kV14 dc14 pm14 an14 cd14 ct14), sl14⟩) (c14 : PySem.W.codeIn K cd14 "greatest_blocks" = true) (k14 : PySem.W.keepIn K (.ref f14) = true)
    {od15 an15 : Option Addr} {f15 : Addr} {sl15 : Array (Option Value)} {oc15 kV15 dc15 pm15 cd15 ct15 : Value} (a15 : PySem.W.nsIn K mainGlobals "tree_of" = some (some (.ref f15))) (l15 : K.lookup f15 = some ⟨oc15, od15, .func (PySem.W.fnOf "tree_of" "tree_of" (defArgs s_tree_of) (defBody s_tree_of) (defScope s_tree_of) .none kV15 dc15 pm15 an15 cd15 ct15), sl15⟩) (c15 : PySem.W.codeIn K cd15 "tree_of" = true) (k15 : PySem.W.keepIn K (.ref f15) = true)
    {od16 an16 : Option Addr} {f16 : Addr} {sl16 : Array (Option Value)} {oc16 kV16 dc16 pm16 cd16 ct16 : Value} (a16 : PySem.W.nsIn K mainGlobals "tree" = some (some (.ref f16))) (l16 : K.lookup f16 = some ⟨oc16, od16, .func (PySem.W.fnOf "tree" "tree" (defArgs s_tree) (defBody s_tree) (defScope s_tree) .none kV16 dc16 pm16 an16 cd16 ct16), sl16⟩) (c16 : PySem.W.codeIn K cd16 "tree" = true) (k16 : PySem.W.keepIn K (.ref f16) = true)
    {od17 an17 : Option Addr} {f17 : Addr} {sl17 : Array (Option Value)} {oc17 kV17 dc17 pm17 cd17 ct17 : Value} (a17 : PySem.W.nsIn K mainGlobals "joined_of" = some (some (.ref f17))) (l17 : K.lookup f17 = some ⟨oc17, od17, .func (PySem.W.fnOf "joined_of" "joined_of" (defArgs s_joined_of) (defBody s_joined_of) (defScope s_joined_of) .none kV17 dc17 pm17 an17 cd17 ct17), sl17⟩) (c17 : PySem.W.codeIn K cd17 "joined_of" = true) (k17 : PySem.W.keepIn K (.ref f17) = true)
    {od18 an18 : Option Addr} {f18 : Addr} {sl18 : Array (Option Value)} {oc18 kV18 dc18 pm18 cd18 ct18 : Value} (a18 : PySem.W.nsIn K mainGlobals "orders_of_trees" = some (some (.ref f18))) (l18 : K.lookup f18 = some ⟨oc18, od18, .func (PySem.W.fnOf "orders_of_trees" "orders_of_trees" (defArgs s_orders_of_trees) (defBody s_orders_of_trees) (defScope s_orders_of_trees) .none kV18 dc18 pm18 an18 cd18 ct18), sl18⟩) (c18 : PySem.W.codeIn K cd18 "orders_of_trees" = true) (k18 : PySem.W.keepIn K (.ref f18) = true)
    {od19 an19 : Option Addr} {f19 : Addr} {sl19 : Array (Option Value)} {oc19 kV19 dc19 pm19 cd19 ct19 : Value} (a19 : PySem.W.nsIn K mainGlobals "order_of_tree" = some (some (.ref f19))) (l19 : K.lookup f19 = some ⟨oc19, od19, .func (PySem.W.fnOf "order_of_tree" "order_of_tree" (defArgs s_order_of_tree) (defBody s_order_of_tree) (defScope s_order_of_tree) .none kV19 dc19 pm19 an19 cd19 ct19), sl19⟩) (c19 : PySem.W.codeIn K cd19 "order_of_tree" = true) (k19 : PySem.W.keepIn K (.ref f19) = true)
    {od20 an20 : Option Addr} {f20 : Addr} {sl20 : Array (Option Value)} {oc20 kV20 dc20 pm20 cd20 ct20 : Value} (a20 : PySem.W.nsIn K mainGlobals "from_tree" = some (some (.ref f20))) (l20 : K.lookup f20 = some ⟨oc20, od20, .func (PySem.W.fnOf "from_tree" "from_tree" (defArgs s_from_tree) (defBody s_from_tree) (defScope s_from_tree) .none kV20 dc20 pm20 an20 cd20 ct20), sl20⟩) (c20 : PySem.W.codeIn K cd20 "from_tree" = true) (k20 : PySem.W.keepIn K (.ref f20) = true)
    {od21 an21 : Option Addr} {f21 : Addr} {sl21 : Array (Option Value)} {oc21 kV21 dc21 pm21 cd21 ct21 : Value} (a21 : PySem.W.nsIn K mainGlobals "_law_deck" = some (some (.ref f21))) (l21 : K.lookup f21 = some ⟨oc21, od21, .func (PySem.W.fnOf "_law_deck" "_law_deck" (defArgs s__law_deck) (defBody s__law_deck) (defScope s__law_deck) .none kV21 dc21 pm21 an21 cd21 ct21), sl21⟩) (c21 : PySem.W.codeIn K cd21 "_law_deck" = true) (k21 : PySem.W.keepIn K (.ref f21) = true)
    {od22 an22 : Option Addr} {f22 : Addr} {sl22 : Array (Option Value)} {oc22 kV22 dc22 pm22 cd22 ct22 : Value} (a22 : PySem.W.nsIn K mainGlobals "_law_take" = some (some (.ref f22))) (l22 : K.lookup f22 = some ⟨oc22, od22, .func (PySem.W.fnOf "_law_take" "_law_take" (defArgs s__law_take) (defBody s__law_take) (defScope s__law_take) .none kV22 dc22 pm22 an22 cd22 ct22), sl22⟩) (c22 : PySem.W.codeIn K cd22 "_law_take" = true) (k22 : PySem.W.keepIn K (.ref f22) = true)
    {od23 an23 : Option Addr} {f23 : Addr} {sl23 : Array (Option Value)} {oc23 kV23 dc23 pm23 cd23 ct23 : Value} (a23 : PySem.W.nsIn K mainGlobals "_law_same" = some (some (.ref f23))) (l23 : K.lookup f23 = some ⟨oc23, od23, .func (PySem.W.fnOf "_law_same" "_law_same" (defArgs s__law_same) (defBody s__law_same) (defScope s__law_same) .none kV23 dc23 pm23 an23 cd23 ct23), sl23⟩) (c23 : PySem.W.codeIn K cd23 "_law_same" = true) (k23 : PySem.W.keepIn K (.ref f23) = true)
    {od24 an24 : Option Addr} {f24 : Addr} {sl24 : Array (Option Value)} {oc24 kV24 dc24 pm24 cd24 ct24 : Value} (a24 : PySem.W.nsIn K mainGlobals "_law_drawn" = some (some (.ref f24))) (l24 : K.lookup f24 = some ⟨oc24, od24, .func (PySem.W.fnOf "_law_drawn" "_law_drawn" (defArgs s__law_drawn) (defBody s__law_drawn) (defScope s__law_drawn) .none kV24 dc24 pm24 an24 cd24 ct24), sl24⟩) (c24 : PySem.W.codeIn K cd24 "_law_drawn" = true) (k24 : PySem.W.keepIn K (.ref f24) = true)
    {od25 an25 : Option Addr} {f25 : Addr} {sl25 : Array (Option Value)} {oc25 kV25 dc25 pm25 cd25 ct25 : Value} (a25 : PySem.W.nsIn K mainGlobals "_law_filled" = some (some (.ref f25))) (l25 : K.lookup f25 = some ⟨oc25, od25, .func (PySem.W.fnOf "_law_filled" "_law_filled" (defArgs s__law_filled) (defBody s__law_filled) (defScope s__law_filled) .none kV25 dc25 pm25 an25 cd25 ct25), sl25⟩) (c25 : PySem.W.codeIn K cd25 "_law_filled" = true) (k25 : PySem.W.keepIn K (.ref f25) = true)
    {od26 an26 : Option Addr} {f26 : Addr} {sl26 : Array (Option Value)} {oc26 kV26 dc26 pm26 cd26 ct26 : Value} (a26 : PySem.W.nsIn K mainGlobals "_law_row" = some (some (.ref f26))) (l26 : K.lookup f26 = some ⟨oc26, od26, .func (PySem.W.fnOf "_law_row" "_law_row" (defArgs s__law_row) (defBody s__law_row) (defScope s__law_row) .none kV26 dc26 pm26 an26 cd26 ct26), sl26⟩) (c26 : PySem.W.codeIn K cd26 "_law_row" = true) (k26 : PySem.W.keepIn K (.ref f26) = true)
    {od27 an27 : Option Addr} {f27 : Addr} {sl27 : Array (Option Value)} {oc27 kV27 dc27 pm27 cd27 ct27 : Value} (a27 : PySem.W.nsIn K mainGlobals "_law_blocks" = some (some (.ref f27))) (l27 : K.lookup f27 = some ⟨oc27, od27, .func (PySem.W.fnOf "_law_blocks" "_law_blocks" (defArgs s__law_blocks) (defBody s__law_blocks) (defScope s__law_blocks) .none kV27 dc27 pm27 an27 cd27 ct27), sl27⟩) (c27 : PySem.W.codeIn K cd27 "_law_blocks" = true) (k27 : PySem.W.keepIn K (.ref f27) = true)
    {od28 an28 : Option Addr} {f28 : Addr} {sl28 : Array (Option Value)} {oc28 kV28 dc28 pm28 cd28 ct28 : Value} (a28 : PySem.W.nsIn K mainGlobals "_law_is_simple" = some (some (.ref f28))) (l28 : K.lookup f28 = some ⟨oc28, od28, .func (PySem.W.fnOf "_law_is_simple" "_law_is_simple" (defArgs s__law_is_simple) (defBody s__law_is_simple) (defScope s__law_is_simple) .none kV28 dc28 pm28 an28 cd28 ct28), sl28⟩) (c28 : PySem.W.codeIn K cd28 "_law_is_simple" = true) (k28 : PySem.W.keepIn K (.ref f28) = true)
    {od29 an29 : Option Addr} {f29 : Addr} {sl29 : Array (Option Value)} {oc29 kV29 dc29 pm29 cd29 ct29 : Value} (a29 : PySem.W.nsIn K mainGlobals "_law_is_tree" = some (some (.ref f29))) (l29 : K.lookup f29 = some ⟨oc29, od29, .func (PySem.W.fnOf "_law_is_tree" "_law_is_tree" (defArgs s__law_is_tree) (defBody s__law_is_tree) (defScope s__law_is_tree) .none kV29 dc29 pm29 an29 cd29 ct29), sl29⟩) (c29 : PySem.W.codeIn K cd29 "_law_is_tree" = true) (k29 : PySem.W.keepIn K (.ref f29) = true)
    {od30 an30 : Option Addr} {f30 : Addr} {sl30 : Array (Option Value)} {oc30 kV30 dc30 pm30 cd30 ct30 : Value} (a30 : PySem.W.nsIn K mainGlobals "_law_grown" = some (some (.ref f30))) (l30 : K.lookup f30 = some ⟨oc30, od30, .func (PySem.W.fnOf "_law_grown" "_law_grown" (defArgs s__law_grown) (defBody s__law_grown) (defScope s__law_grown) .none kV30 dc30 pm30 an30 cd30 ct30), sl30⟩) (c30 : PySem.W.codeIn K cd30 "_law_grown" = true) (k30 : PySem.W.keepIn K (.ref f30) = true)
    {od31 an31 : Option Addr} {f31 : Addr} {sl31 : Array (Option Value)} {oc31 kV31 dc31 pm31 cd31 ct31 : Value} (a31 : PySem.W.nsIn K mainGlobals "_law_bent_simple" = some (some (.ref f31))) (l31 : K.lookup f31 = some ⟨oc31, od31, .func (PySem.W.fnOf "_law_bent_simple" "_law_bent_simple" (defArgs s__law_bent_simple) (defBody s__law_bent_simple) (defScope s__law_bent_simple) .none kV31 dc31 pm31 an31 cd31 ct31), sl31⟩) (c31 : PySem.W.codeIn K cd31 "_law_bent_simple" = true) (k31 : PySem.W.keepIn K (.ref f31) = true)
    {od32 an32 : Option Addr} {f32 : Addr} {sl32 : Array (Option Value)} {oc32 kV32 dc32 pm32 cd32 ct32 : Value} (a32 : PySem.W.nsIn K mainGlobals "_law_bent_here" = some (some (.ref f32))) (l32 : K.lookup f32 = some ⟨oc32, od32, .func (PySem.W.fnOf "_law_bent_here" "_law_bent_here" (defArgs s__law_bent_here) (defBody s__law_bent_here) (defScope s__law_bent_here) .none kV32 dc32 pm32 an32 cd32 ct32), sl32⟩) (c32 : PySem.W.codeIn K cd32 "_law_bent_here" = true) (k32 : PySem.W.keepIn K (.ref f32) = true)
    {od33 an33 : Option Addr} {f33 : Addr} {sl33 : Array (Option Value)} {oc33 kV33 dc33 pm33 cd33 ct33 : Value} (a33 : PySem.W.nsIn K mainGlobals "_law_bent" = some (some (.ref f33))) (l33 : K.lookup f33 = some ⟨oc33, od33, .func (PySem.W.fnOf "_law_bent" "_law_bent" (defArgs s__law_bent) (defBody s__law_bent) (defScope s__law_bent) .none kV33 dc33 pm33 an33 cd33 ct33), sl33⟩) (c33 : PySem.W.codeIn K cd33 "_law_bent" = true) (k33 : PySem.W.keepIn K (.ref f33) = true)
    {od34 an34 : Option Addr} {f34 : Addr} {sl34 : Array (Option Value)} {oc34 kV34 dc34 pm34 cd34 ct34 : Value} (a34 : PySem.W.nsIn K mainGlobals "_law_told" = some (some (.ref f34))) (l34 : K.lookup f34 = some ⟨oc34, od34, .func (PySem.W.fnOf "_law_told" "_law_told" (defArgs s__law_told) (defBody s__law_told) (defScope s__law_told) .none kV34 dc34 pm34 an34 cd34 ct34), sl34⟩) (c34 : PySem.W.codeIn K cd34 "_law_told" = true) (k34 : PySem.W.keepIn K (.ref f34) = true)
    {od35 an35 : Option Addr} {f35 : Addr} {sl35 : Array (Option Value)} {oc35 kV35 dc35 pm35 cd35 ct35 : Value} (a35 : PySem.W.nsIn K mainGlobals "law" = some (some (.ref f35))) (l35 : K.lookup f35 = some ⟨oc35, od35, .func (PySem.W.fnOf "law" "law" (defArgs s_law) (defBody s_law) (defScope s_law) .none kV35 dc35 pm35 an35 cd35 ct35), sl35⟩) (c35 : PySem.W.codeIn K cd35 "law" = true) (k35 : PySem.W.keepIn K (.ref f35) = true)
    (z0 : PySem.W.nsIn K mainGlobals "ValueError" = some none)
    (z1 : PySem.W.nsIn K mainGlobals "all" = some none)
    (z2 : PySem.W.nsIn K mainGlobals "bool" = some none)
    (z3 : PySem.W.nsIn K mainGlobals "enumerate" = some none)
    (z4 : PySem.W.nsIn K mainGlobals "int" = some none)
    (z5 : PySem.W.nsIn K mainGlobals "isinstance" = some none)
    (z6 : PySem.W.nsIn K mainGlobals "len" = some none)
    (z7 : PySem.W.nsIn K mainGlobals "list" = some none)
    (z8 : PySem.W.nsIn K mainGlobals "max" = some none)
    (z9 : PySem.W.nsIn K mainGlobals "min" = some none)
    (z10 : PySem.W.nsIn K mainGlobals "range" = some none)
    (z11 : PySem.W.nsIn K mainGlobals "sorted" = some none)
    (z12 : PySem.W.nsIn K mainGlobals "str" = some none)
    (z13 : PySem.W.nsIn K mainGlobals "sum" = some none)
    (z14 : PySem.W.nsIn K mainGlobals "tuple" = some none)
    (z15 : PySem.W.nsIn K mainGlobals "zip" = some none)
    {t0 : Tok} (q0 : PySem.W.nsIn K mainGlobals "LEAST_SIMPLE" = some (some (.int 4 t0)))
    {xC0 xO0 xI0 : Addr} {xq0 xn0 xz0 : Str} {xN0 : Addr} {xb0 : List Value} {xs0 : List Str} {xu0 : List Value} {xv0 : Bool} {xw0 : Option Bool} {xd0 : Option Addr} {xm0_0 xm1_0 xm2_0 xm3_0 xm5_0 : Option Value} {xod0 xan0 : Option Addr} {xsl0 : Array (Option Value)} {xoc0 xkV0 xdc0 xpm0 xcd0 xct0 : Value}
    (xaC0 : PySem.W.nsIn K mainGlobals "InvalidPair" = some (some (.ref xC0)))
    (xL0 : K.lookup xC0 = some (excClassObj xn0 xz0 xC0 xN0 xb0 [.ref xO0, .type "ValueError", .type "Exception", .type "BaseException", .type "object"] true xs0 xu0 xv0 xw0 xd0 xm0_0 xm1_0 xm2_0 xm3_0 xm5_0 "ValueError.__new__"))
    (xsa0 : PySem.W.findIn K (.ref xC0) "__setattr__" = some (some (.builtin "object.__setattr__"))) (xga0 : PySem.W.findIn K (.ref xC0) "__getattribute__" = some (some (.builtin "BaseException.__getattribute__"))) (xgg0 : PySem.W.findIn K (.ref xC0) "__getattr__" = some none) (xnb0 : PySem.W.findIn K (.ref xC0) "value" = some none)
    (xa10 : PySem.W.findIn K (.ref xC0) "__init__" = some (some (.ref xI0))) (xt10 : PySem.W.typeIn K (.ref xI0) = some (.type "function"))
    (xl10 : K.lookup xI0 = some ⟨xoc0, xod0, .func (PySem.W.fnOf "__init__" xq0 (defArgs s__init) (defBody s__init) (defScope s__init) .none xkV0 xdc0 xpm0 xan0 xcd0 xct0), xsl0⟩) (xc10 : PySem.W.codeIn K xcd0 xq0 = true) (xk10 : PySem.W.keepIn K (.ref xI0) = true)
    (xkC0 : PySem.W.keepIn K (.ref xC0) = true) (xeC0 : PySem.W.subIn K (.ref xC0) (.type "BaseException") = some true) (xtC0 : PySem.W.typeIn K (.ref xC0) = some (.type "type")) (xhC0 : PySem.W.hasDictIn K xC0 = true) (xiC0 : PySem.W.isClsIn K xC0 = true) (xsC0 : PySem.W.subIn K (.ref xC0) (.ref xC0) = some true)
    (xvV0 : PySem.W.findCls K (.type "ValueError") (.type "type") "__init__" = some (.val (.builtin "ValueError.__init__")))
    {oC0 : Addr} (oa0 : PySem.W.nsIn K mainGlobals "OrderError" = some (some (.ref oC0))) :
    ∃ fd : FuncData, (∀ (s : Shared) (v : Value), BindsTo s fd ⟨[v], []⟩ [("script", v)]) ∧ ∀ base : Heap, K.In base → base.Ns mainGlobals mg → FnOk PySem.Challenge.pw_wholeorders_k07_whole_bent_trees w K mg base (L2.CX PySem.Challenge.pw_wholeorders_k07_whole_bent_trees w) 39 fa fd ["script"] (Z.spLaw K) := by
  have e := hfa.symm.trans (PySem.W.mg_of X G a35)
  cases e
  have en : EnvOk mg K := ⟨⟨_, _, fun_mk (st := s_is_integer) l0 c0 k0, PySem.W.mg_of X G a0⟩,
    ⟨_, _, fun_mk (st := s_are_integers) l1 c1 k1, PySem.W.mg_of X G a1⟩,
    ⟨_, _, fun_mk (st := s_is_order_of) l2 c2 k2, PySem.W.mg_of X G a2⟩,
    ⟨_, _, fun_mk (st := s_compared) l3 c3 k3, PySem.W.mg_of X G a3⟩,
    ⟨_, _, fun_mk (st := s_check_filled) l4 c4 k4, PySem.W.mg_of X G a4⟩,
    ⟨_, _, fun_mk (st := s_lifted) l5 c5 k5, PySem.W.mg_of X G a5⟩,
    ⟨_, _, fun_mk (st := s_summed_of) l6 c6 k6, PySem.W.mg_of X G a6⟩,
    ⟨_, _, fun_mk (st := s_skew_summed_of) l7 c7 k7, PySem.W.mg_of X G a7⟩,
    ⟨_, _, fun_mk (st := s_parts_of_sum) l8 c8 k8, PySem.W.mg_of X G a8⟩,
    ⟨_, _, fun_mk (st := s_parts_of_skew) l9 c9 k9, PySem.W.mg_of X G a9⟩,
    ⟨_, _, fun_mk (st := s_blocks_of) l10 c10 k10, PySem.W.mg_of X G a10⟩,
    ⟨_, _, fun_mk (st := s_has_block) l11 c11 k11, PySem.W.mg_of X G a11⟩,
    ⟨_, _, fun_mk (st := s_is_simple_of) l12 c12 k12, PySem.W.mg_of X G a12⟩,
    ⟨_, _, fun_mk (st := s_put_together_of) l13 c13 k13, PySem.W.mg_of X G a13⟩,
    ⟨_, _, fun_mk (st := s_greatest_blocks) l14 c14 k14, PySem.W.mg_of X G a14⟩,
    ⟨_, _, fun_mk (st := s_tree_of) l15 c15 k15, PySem.W.mg_of X G a15⟩,
    ⟨_, _, fun_mk (st := s_tree) l16 c16 k16, PySem.W.mg_of X G a16⟩,
    ⟨_, _, fun_mk (st := s_joined_of) l17 c17 k17, PySem.W.mg_of X G a17⟩,
    ⟨_, _, fun_mk (st := s_orders_of_trees) l18 c18 k18, PySem.W.mg_of X G a18⟩,
    ⟨_, _, fun_mk (st := s_order_of_tree) l19 c19 k19, PySem.W.mg_of X G a19⟩,
    ⟨_, _, fun_mk (st := s_from_tree) l20 c20 k20, PySem.W.mg_of X G a20⟩,
    ⟨_, _, fun_mk (st := s__law_deck) l21 c21 k21, PySem.W.mg_of X G a21⟩,
    ⟨_, _, fun_mk (st := s__law_take) l22 c22 k22, PySem.W.mg_of X G a22⟩,
    ⟨_, _, fun_mk (st := s__law_same) l23 c23 k23, PySem.W.mg_of X G a23⟩,
    ⟨_, _, fun_mk (st := s__law_drawn) l24 c24 k24, PySem.W.mg_of X G a24⟩,
    ⟨_, _, fun_mk (st := s__law_filled) l25 c25 k25, PySem.W.mg_of X G a25⟩,
    ⟨_, _, fun_mk (st := s__law_row) l26 c26 k26, PySem.W.mg_of X G a26⟩,
    ⟨_, _, fun_mk (st := s__law_blocks) l27 c27 k27, PySem.W.mg_of X G a27⟩,
    ⟨_, _, fun_mk (st := s__law_is_simple) l28 c28 k28, PySem.W.mg_of X G a28⟩,
    ⟨_, _, fun_mk (st := s__law_is_tree) l29 c29 k29, PySem.W.mg_of X G a29⟩,
    ⟨_, _, fun_mk (st := s__law_grown) l30 c30 k30, PySem.W.mg_of X G a30⟩,
    ⟨_, _, fun_mk (st := s__law_bent_simple) l31 c31 k31, PySem.W.mg_of X G a31⟩,
    ⟨_, _, fun_mk (st := s__law_bent_here) l32 c32 k32, PySem.W.mg_of X G a32⟩,
    ⟨_, _, fun_mk (st := s__law_bent) l33 c33 k33, PySem.W.mg_of X G a33⟩,
    ⟨_, _, fun_mk (st := s__law_told) l34 c34 k34, PySem.W.mg_of X G a34⟩,
    ⟨_, _, fun_mk (st := s_law) l35 c35 k35, PySem.W.mg_of X G a35⟩,
    PySem.W.mg_none_of X G z0,
    PySem.W.mg_none_of X G z1,
    PySem.W.mg_none_of X G z2,
    PySem.W.mg_none_of X G z3,
    PySem.W.mg_none_of X G z4,
    PySem.W.mg_none_of X G z5,
    PySem.W.mg_none_of X G z6,
    PySem.W.mg_none_of X G z7,
    PySem.W.mg_none_of X G z8,
    PySem.W.mg_none_of X G z9,
    PySem.W.mg_none_of X G z10,
    PySem.W.mg_none_of X G z11,
    PySem.W.mg_none_of X G z12,
    PySem.W.mg_none_of X G z13,
    PySem.W.mg_none_of X G z14,
    PySem.W.mg_none_of X G z15,
    ⟨_, PySem.W.mg_of X G q0⟩,
    excMk X G xaC0 xL0 xsa0 xga0 xgg0 xnb0 xa10 xt10 xl10 xc10 xk10 xkC0 xeC0 xtC0 xhC0 xiC0 xsC0 xvV0,
    ⟨oC0, PySem.W.mg_of X G oa0⟩⟩
  exact ⟨PySem.W.fnOf "law" "law" (defArgs s_law) (defBody s_law) (defScope s_law) .none kV35 dc35 pm35 an35 cd35 ct35, fun s v => .of_eq rfl, fun base _ _ => law_fn (fn_law en) hfa ⟨_, _, _, l35⟩ main⟩
end Ck07

set_option Elab.async false
set_option linter.all false
set_option maxRecDepth 100000
set_option autoImplicit false
set_option maxHeartbeats 2000000
namespace Ck07
open PySem PySem.Spec PyProof.Rows L2 Z
local macro_rules
  | `(tactic| simp! only [$xs,*]) => `(tactic| simp only [bnd_at, rt_at, thn_ok, thn_ex, oRo_some, oMap_some, brn_t, brn_f, dName_at, slR_d, slR_a, slR_o, vl_d, vl_s, slV_d, slV_a, slV_o, dv_at, dEsc_at, esc_d, esc_s, escS_d, escS_o, dFz_at, dC_at, dNil_at, dCons_at, vNil_at, vCons_at, op2_at, op2r_at, op1_at, op1o_at, opN_at, opNo_at, vls_nil, vls_cons, cutR_at, oNone_at, oSome_at, dTup_at, dLst_at, dB_at, boolD_b, dNot_at, dAnd_at, dOr_at, dIfE_at, dAndV_at, dOrV_at, dNotV_at, dSeq_at, dsq_nx, dsq_rt, dsq_bk, dsq_ct, dsq_ex, sNx_at, sBk_at, sCt_at, sExpr_at, sRet_at, sRetO_at, sRetN_at, sRetV_at, retS_d, retS_o, sSet_at, sSetO_at, sIf_at, ownV_o, msNil_at, msD_at, msO_at, msR_at, gRo_some, sPar_at, setRs_nil, setRs_d, setRs_o, callP_at, callK_at, argO_some, callM_at, outR_ret, outR_ex, argD_nil, argD_v, argD_p, argD_m, argD_vn, argD_vs, Option.some.injEq, Nat.reduceEqDiff, mIx_m, mIx_v, mIx_p, mIx_nil, putM_none, putM_some, putO_o, call1_at, rD_at, rtD_d, rtD_o, rO_at, rtO_o, sExprR_at, sRetR_at, sSetR_at, setS_d, setS_o, runF_at, outF_nx, outF_rt, mOut_some, muOf_nil, muOf_m, muOf_v, muOf_p, chk_some, sSub_at, subS0, subS1, mutS_some, mutP_some, dMut_at, mixR_at, dChain_at, dRep_at, intD_i, rg1_at, rg2_at, dLstRg_go, rgL_ok, dTupRg_go, rgT_ok, dTupRg3_go, rgT3_ok, rgO1_ok, rgO2_ok, rgO3_ok, sm0, sm1, dIndexT_at, seqS_d, seqS_a, seqS_o, seqD_l, seqD_t, itR_d, itR_s, iV_at, iO_at, iR1_go, iR2_go, iR3_go, iEnV_at, iEnO_at, iZip_at, zipR_at, dcL_at, sSwap_at, c2L_at, sUnp_at, unpR_2, sUnpL_at, unpRL_2, sMove_at, moveV_o, moveV_d, mvR_some, swapR_at, sFor_at, compL_at, fAdd_i, fSub_i, fLt_i, fLe_i, fGt_i, fGe_i, fDiv_33, fPow_64, fPow_33, fPow_18, fNeg_i, fLen_l, fLen_t, fInt_i, fTuple_l, fList_l, fMax_2, fMin_2, fIx_l0, fIx_l1, fIx_l2, fEq_i, start0, svs, svK, svA, List.length_cons, List.length_nil, List.replicate, List.append_nil, List.cons_append, List.nil_append, List.getElem?_cons_zero, List.getElem?_cons_succ, List.set_cons_zero, List.set_cons_succ, Bool.not_true, Bool.not_false, decide_true, decide_false, ne_eq, not_false_eq_true, Nat.reduceAdd, Nat.reduceSub, fMul_take, fMul_7919, fMul_31, Nat.reduceLT, Int.reduceLT, Int.reduceEq, fMod_i, fDiv_i, bdz_ok, setT_nm, fgt_nil, fgt_cons, wipG_nil, wipG_cons, sz1, sz2, sz3, sz4, sz5, Nat.zero_le, fIs_ii, fIs_ib, fIs_is, fIs_itl, fIs_tt, fIs_tl, fIs_ttl, fIs_lt, fIs_ll, fIs_ltl, fAll_b, fSum_i, fBack_t, fBackL_l, $xs,*])
def Deck (l : List D) : Prop := ∃ a b : Int, l = [.int a, .int b]
theorem take_ok {l : List D} (hl : Deck l) (many : Int) (hm : 0 < many) (hs : many < 1000) : ∃ (r : Int) (l' : List D), φ__law_take [.list l, .int many] = .ret (.d (.int r)) l' ∧ Deck l' ∧ 0 ≤ r ∧ r < many := by
  obtain ⟨a, b, rfl⟩ := hl
  have h2 : many < 1073741824 := by omega
  by_cases h : 0 < a
  · refine ⟨a % many, [.int (a / many), .int b], ?_, ⟨_, _, rfl⟩, Int.emod_nonneg _ (by omega), Int.emod_lt_of_pos _ hm⟩
    unfold φ__law_take m__law_take
    simp! only [h, hm, h2]
  · refine ⟨(b * 6364136223846793005 + 1442695040888963407) % 18446744073709551616 / 8589934592 % many, [.int a, .int ((b * 6364136223846793005 + 1442695040888963407) % 18446744073709551616)], ?_, ⟨_, _, rfl⟩, Int.emod_nonneg _ (by omega), Int.emod_lt_of_pos _ hm⟩
    unfold φ__law_take m__law_take
    simp! only [h, hm, h2]
theorem natAbs_mod61 (x : Int) : (x % 2305843009213693951).natAbs < 18446744073709551616 := by
  have h1 := Int.emod_nonneg x (show (2305843009213693951 : Int) ≠ 0 by decide)
  have h2 := Int.emod_lt_of_pos x (show (0 : Int) < 2305843009213693951 by decide)
  omega
theorem deck_ok (ns : List Int) (k : Nat) : ∃ l' : List D, φ__law_deck [li ns, .int (k : Int)] = .ret (.own l') [] ∧ Deck l' := by
  have main : ∀ (cell : Int) (hc : brn (decide ((k : Int) < ns.length)) (sSet 2 (op2 fIx (dName 0) (dName 1))) sNx [.a (ns.map .int), .d (.int k), .d (.int 0), .u] = .ok .nx [.a (ns.map .int), .d (.int k), .d (.int cell), .u]), ∃ l' : List D, φ__law_deck [li ns, .int (k : Int)] = .ret (.own l') [] ∧ Deck l' := by
    intro cell hc
    obtain ⟨st, hst⟩ : ∃ st, st = (cell + 7919 * (k : Int) + 104729) % 2305843009213693951 := ⟨_, rfl⟩
    have z1 := natAbs_mod61 (cell + 7919 * k + 104729)
    rw [← hst] at z1
    by_cases h : cell < 1000000000000000000
    · refine ⟨[.int 0, .int ((st * st * st + 31 * k + 7) % 2305843009213693951)], ?_, ⟨_, _, rfl⟩⟩
      unfold φ__law_deck m__law_deck
      simp! only [List.length_map, hc, h, ← hst, fMul_r _ _ z1]
    · refine ⟨[.int (cell - 1000000000000000000), .int ((st * st * st + 31 * k + 7) % 2305843009213693951)], ?_, ⟨_, _, rfl⟩⟩
      unfold φ__law_deck m__law_deck
      simp! only [List.length_map, hc, h, ← hst, fMul_r _ _ z1]
  by_cases h : k < ns.length
  · refine main ns[k] ?_
    rw [decide_eq_true (by omega)]
    have hx : (ns.map PyData.int)[k]? = some (.int ns[k]) := by simp [h]
    simp! only [fIx_l hx]
  · refine main 0 ?_
    rw [decide_eq_false (by omega)]
    rfl
theorem drawn_ok {l : List D} (hl : Deck l) (n : Nat) (hn : n < 900) : ∃ (p : List Int) (l' : List D), φ__law_drawn [.list l, .int (n : Int)] = .ret (.d (ti p)) l' ∧ Deck l' ∧ IsOrd p ∧ p.length = n := by
  have hr : ((n : Int) + 1 - 1).toNat = n := by omega
  obtain ⟨g', e1, rest, l', p, hp1, hp2, hp3, hp4, hp5, hg⟩ := forG_inv (t := .nm 3) (ms := [3]) (b := sExpr (dMut 2 mInsert (dCons (rD (callP [.m, .v] φ__law_take (vCons (dName 0) (vCons (dName 3) vNil)))) (dCons (dEsc (dName 3)) dNil))))
    ((irange 1 n).map .int) (fun r g => ∃ (rest : List Int) (l' : List D) (p : List Int), r = rest.map .int ∧ rest = irange (p.length + 1) (n - p.length) ∧ Deck l' ∧ IsOrd p ∧ p.length ≤ n ∧ g = [.own true l', .d (.int n), .own false (p.map .int), .u])
    [.own true l, .d (.int n), .own false [], .u] ⟨irange 1 n, l, [], rfl, by simp, hl, isOrd_nil, Nat.zero_le _, rfl⟩ (by
    rintro x r g ⟨rest, l', p, hp1, hp2, hp3, hp4, hp5, rfl⟩ _
    have hlt : p.length < n := by
      have h1 := congrArg List.length hp1
      rw [hp2, List.length_map, irange_len, List.length_cons] at h1
      omega
    have hs : n - p.length = (n - p.length - 1) + 1 := by omega
    rw [hs, irange_succ] at hp2
    rw [hp2, List.map_cons] at hp1
    injection hp1 with hx hr'
    subst hx
    obtain ⟨t, l2, ht, hd, h0, h1⟩ := take_ok hp3 ((p.length : Int) + 1) (by omega) (by omega)
    have hins := mInsert_ok (p.map .int) t (.int ((p.length : Int) + 1)) (by rw [List.length_map]; exact sz_lt (by omega)) h0 (by omega)
    refine ⟨[.own true l', .d (.int n), .own false (p.map .int), .d (.int ((p.length : Int) + 1))], [.own true l2, .d (.int n), .own false ((p.take t.toNat ++ [((p.length + 1 : Nat) : Int)] ++ p.drop t.toNat).map .int), .d (.int ((p.length : Int) + 1))], rfl, .inl ?_, ?_⟩
    · simp! only [ht, hins]
      simp
    · have hl2 : (p.take t.toNat ++ [((p.length + 1 : Nat) : Int)] ++ p.drop t.toNat).length = p.length + 1 := by
        have : (p.take t.toNat).length + (p.drop t.toNat).length = p.length := by rw [← List.length_append, List.take_append_drop]
        simp only [List.length_append, List.length_singleton]
        omega
      refine ⟨irange (p.length + 1 + 1) (n - p.length - 1), l2, _, hr', ?_, hd, isOrd_insert hp4 _, by rw [hl2]; omega, rfl⟩
      rw [hl2]
      congr 1)
  have hl : p.length = n := by
    have h0 : rest = [] := List.map_eq_nil_iff.mp hp1.symm
    have h1 := congrArg List.length hp2
    rw [h0, irange_len] at h1
    simp at h1
    omega
  refine ⟨p, l', ?_, hp3, hp4, hl⟩
  unfold φ__law_drawn m__law_drawn
  have hsm : Sm ((n : Int) + 1) := sm_of (by omega) (by omega)
  simp! only [hsm, hr, e1, hg]
theorem is_integer_ok (i : Int) : φ_is_integer [.int i] = .ret (.d (.bool true)) [] := by
  unfold φ_is_integer m_is_integer
  simp! only []
theorem are_integers_ok (p : List Int) (h : p.length ≤ 1000) : φ_are_integers [ti p] = .ret (.d (.bool true)) [] := by
  have hc := compB_one (i := 1) (enc := PyData.int) (f := fun _ => .bool true) (me := rD (callP [.v] φ_is_integer (vCons (dName 1) vNil))) (g := [.d (ti p), .u]) p (by omega) rfl fun x hx => by simp! only [is_integer_ok]
  have e : p.map (fun _ => PyData.bool true) = (List.replicate p.length true).map .bool := map_true p
  rw [e] at hc
  unfold φ_are_integers m_are_integers
  simp! only [hc, all_true]
theorem is_order_of_ok (p : List Int) (hp : IsOrd p) (h : p.length ≤ 900) : φ_is_order_of [ti p] = .ret (.d (.bool true)) [] := by
  have hs : sortD (p.map .int) = (irange 1 p.length).map .int := sortD_ints hp.perm ((irange_sorted _ _).imp fun {a b} h => Int.le_of_lt h)
  have hsm : Sm ((p.length : Int) + 1) := sm_of (by omega) (by omega)
  have hr : ((p.length : Int) + 1 - 1).toNat = p.length := by omega
  have hf := fEq_li (irange 1 p.length) (irange 1 p.length)
  rw [decide_eq_true rfl] at hf
  unfold φ_is_order_of m_is_order_of
  simp! only [are_integers_ok p (by omega), fSorted_t _ (okSort_ints p (by omega)), hs, List.length_map, hsm, hr, hf]
/-- data whose sequences are short -/
inductive Sh : Nat → D → Prop where
  | int (n : Nat) (i : Int) : Sh n (.int i)
  | bool (n : Nat) (b : Bool) : Sh n (.bool b)
  | non (n : Nat) : Sh n .none
  | str (n : Nat) (z : Str) (h : PyData.canLay0 (.str z) = true) : Sh n (.str z)
  | tup {n : Nat} {xs : List D} (hl : xs.length ≤ 100000) (h : ∀ x ∈ xs, Sh n x) : Sh (n + 1) (.tuple xs)
  | lst {n : Nat} {xs : List D} (hl : xs.length ≤ 100000) (h : ∀ x ∈ xs, Sh n x) : Sh (n + 1) (.list xs)
theorem same_ok : ∀ (n : Nat) (x : D), Sh n x → ∀ m, n < m → φ__law_same m [x, x] = .ret (.d (.bool true)) []
  | n, x, h, 0, hm => absurd hm (Nat.not_lt_zero _)
  | n, x, h, m + 1, hm => by
    have hf := fEq_li [] []
    rw [decide_eq_true rfl] at hf
    have hf : fEq (.list []) (.list []) = some (.bool true) := hf
    have bt : fNe (.bool true) (.bool true) = some (.bool false) := Eq.trans rfl rfl
    have bf : fNe (.bool false) (.bool false) = some (.bool false) := Eq.trans rfl rfl
    have ii : ∀ k : Int, fNe (.int k) (.int k) = some (.bool false) := fun k => by
      rw [fNe_gd (gd_int 0 k) (gd_int 0 k) (by decide) (by decide), (gd_int 0 k).eqv]
      rfl
    show runF 3 [.v, .v] (m__law_same (φ__law_same m)) [x, x] = _
    cases h with
    | int n i =>
      have e1 : fIsN (.int i) .none = some (.bool false) := Eq.trans rfl rfl
      unfold m__law_same
      simp! only [e1]
    | bool n b =>
      have e1 : fIs [.tuple, .list] (.bool b) = some (.bool false) := Eq.trans rfl rfl
      have e2 : fIsN (.bool b) .none = some (.bool false) := Eq.trans rfl rfl
      have e3 : fIs [.str] (.bool b) = some (.bool false) := Eq.trans rfl rfl
      have e4 : fIs [.bool] (.bool b) = some (.bool true) := Eq.trans rfl rfl
      have e5 : fEq (.bool b) (.bool b) = some (.bool true) := by
        rw [fEq_gd (gd_bool 0 b) (gd_bool 0 b) (by decide) (by decide), (gd_bool 0 b).eqv]
      unfold m__law_same
      simp! only [e1, e2, e3, e4, e5]
    | str n z hz =>
      have e1 : fIs [.tuple, .list] (.str z) = some (.bool false) := Eq.trans rfl rfl
      have e2 : fIsN (.str z) .none = some (.bool false) := Eq.trans rfl rfl
      have e3 : fIs [.str] (.str z) = some (.bool true) := Eq.trans rfl rfl
      have gz : Gd 0 (.str z) := ⟨hz, Nat.zero_le _⟩
      have e5 : fEq (.str z) (.str z) = some (.bool true) := by rw [fEq_gd gz gz (by decide) (by decide), gz.eqv]
      unfold m__law_same
      simp! only [e1, e2, e3, e5]
    | non n =>
      have e1 : fIs [.tuple, .list] .none = some (.bool false) := Eq.trans rfl rfl
      have e2 : fIsN .none .none = some (.bool true) := Eq.trans rfl rfl
      unfold m__law_same
      simp! only [e1, e2]
    | tup hl hx =>
      rename_i k xs
      have hc := compB_fil (i := 2) (enc := PyData.int) (f := fun i => .int i) (p := fun _ => false) (mt := dNot (dB (rD (callP [.v, .v] (φ__law_same m) (vCons (dv (op2 fIx (dName 0) (dName 2))) (vCons (dv (op2 fIx (dName 1) (dName 2))) vNil)))))) (me := dEsc (dName 2)) (g := [.d (.tuple xs), .d (.tuple xs), .u]) (irange 0 xs.length) (by rw [irange_len]; omega) rfl fun i hi => by
        have hi' := irange_mem.mp hi
        have hlt : i.toNat < xs.length := by omega
        have hix := fIx_t (List.getElem?_eq_getElem hlt)
        rw [show ((i.toNat : Nat) : Int) = i by omega] at hix
        have := same_ok k _ (hx _ (List.getElem_mem hlt)) m (by omega)
        exact ⟨by simp! only [hix, this], fun z => nomatch z⟩
      rw [show (irange 0 xs.length).filter (fun _ => false) = [] from List.filter_eq_nil_iff.mpr (fun _ _ => Bool.false_ne_true), List.map_nil] at hc
      have hsm : Sm (xs.length : Int) := ⟨by omega, by omega⟩
      unfold m__law_same
      simp! only [bt, bf, ii, hsm, Int.toNat_natCast, hc, hf]
    | lst hl hx =>
      rename_i k xs
      have hc := compB_fil (i := 2) (enc := PyData.int) (f := fun i => .int i) (p := fun _ => false) (mt := dNot (dB (rD (callP [.v, .v] (φ__law_same m) (vCons (dv (op2 fIx (dName 0) (dName 2))) (vCons (dv (op2 fIx (dName 1) (dName 2))) vNil)))))) (me := dEsc (dName 2)) (g := [.a xs, .a xs, .u]) (irange 0 xs.length) (by rw [irange_len]; omega) rfl fun i hi => by
        have hi' := irange_mem.mp hi
        have hlt : i.toNat < xs.length := by omega
        have hix := fIx_l (List.getElem?_eq_getElem hlt)
        rw [show ((i.toNat : Nat) : Int) = i by omega] at hix
        have := same_ok k _ (hx _ (List.getElem_mem hlt)) m (by omega)
        exact ⟨by simp! only [hix, this], fun z => nomatch z⟩
      rw [show (irange 0 xs.length).filter (fun _ => false) = [] from List.filter_eq_nil_iff.mpr (fun _ _ => Bool.false_ne_true), List.map_nil] at hc
      have hsm : Sm (xs.length : Int) := ⟨by omega, by omega⟩
      unfold m__law_same
      simp! only [bt, bf, ii, hsm, Int.toNat_natCast, hc, hf]
theorem fAdd_ll (xs ys : List D) : fAdd (.list xs) (.list ys) = none := Eq.trans rfl rfl
theorem fCat_ok (xs ys : List D) (h : xs.length + ys.length ≤ 100000) : fCat (.list xs) (.list ys) = some (xs ++ ys) := if_pos (sz_le h)
theorem filled_ok (p : List Int) (R : List (List Int)) (hl : R.length = p.length) (hn : p.length ≤ 100) (ht : total R p.length ≤ 1000) : φ__law_filled [ti p, .list (R.map ti)] = .ret (.d (ti (fillL p R p.length))) [] := by
  have hsm : Sm (p.length : Int) := sm_of (by omega) (by omega)
  obtain ⟨g', e1, i, h1, h2, h3⟩ := forG_inv (t := .nm 3) (ms := [3, 4]) (b := (dSeq (sSet 4 (opN fSum (vCons (dv (dFz (compL [5] (.nm 5) (iR1 (vCons (dv (opN fLen (vCons (dName 0) vNil))) vNil)) (dB (op2 fLt (dv (op2 fIx (dName 0) (dName 5))) (dv (op2 fIx (dName 0) (dName 3))))) (opN fLen (vCons (dv (op2 fIx (dName 1) (dName 5))) vNil))))) vNil)))
    (sSetR 2 (op2r fAdd fCat (dName 2) (dv (dFz (compL [6] (.nm 6) (iV (dv (op2 fIx (dName 1) (dName 3)))) (rt true) (rD (op2r fAdd fCat (dName 4) (dName 6)))))))))) ((irange 0 p.length).map .int)
    (fun r g => ∃ (i : Nat), r = (irange i (p.length - i)).map .int ∧ i ≤ p.length ∧ g = [.d (ti p), .a (R.map ti), .own false ((fillL p R i).map .int), .u, .u, .u, .u])
    _ ⟨0, rfl, Nat.zero_le _, rfl⟩ (by
      rintro x r g ⟨i, h1, h2, rfl⟩ _
      have hlt : i < p.length := by
        have := congrArg List.length h1
        rw [List.length_map, irange_len, List.length_cons] at this
        omega
      rw [show p.length - i = (p.length - i - 1) + 1 by omega, irange_succ, List.map_cons] at h1
      injection h1 with hx hr
      subst hx
      have atP : ∀ k : Nat, k < p.length → fIx (.tuple (p.map .int)) (.int (k : Int)) = some (.int (p.getD k 0)) := fun k hk => fIx_t (by rw [List.getElem?_map, List.getD_eq_getElem?_getD, List.getElem?_eq_getElem hk]; rfl)
      have atR : ∀ k : Nat, k < p.length → fIx (.list (R.map ti)) (.int (k : Int)) = some (ti (R.getD k [])) := fun k hk => fIx_l (by rw [List.getElem?_map, List.getD_eq_getElem?_getD, List.getElem?_eq_getElem (by omega)]; rfl)
      have hc := compB_fil (i := 5) (enc := PyData.int) (f := fun j => .int ((R.getD j.toNat []).length : Nat)) (p := fun j => decide (p.getD j.toNat 0 < p.getD i 0)) (mt := dB (op2 fLt (dv (op2 fIx (dName 0) (dName 5))) (dv (op2 fIx (dName 0) (dName 3))))) (me := opN fLen (vCons (dv (op2 fIx (dName 1) (dName 5))) vNil))
        (g := [.d (ti p), .a (R.map ti), .own false ((fillL p R i).map .int), .d (.int i), .u, .u, .u]) (irange 0 p.length) (by rw [irange_len]; omega) rfl fun j hj => by
          have hj' := irange_mem.mp hj
          have a1 := atP j.toNat (by omega)
          have a2 := atR j.toNat (by omega)
          rw [show ((j.toNat : Nat) : Int) = j by omega] at a1 a2
          have a3 := atP i hlt
          exact ⟨by simp! only [a1, a3], fun _ => by simp! only [a2, List.length_map]⟩
      have hsum := wsum_eq (fun j => (R.getD j []).length) (fun j => decide (p.getD j 0 < p.getD i 0)) p.length
      have hs2 : fSum [.list (((irange 0 p.length).filter fun j => decide (p.getD j.toNat 0 < p.getD i 0)).map fun j => PyData.int ((R.getD j.toNat []).length : Nat))] = some (.int (lessOf p R i)) := by
        have := fSum_i (((irange 0 p.length).filter fun j => decide (p.getD j.toNat 0 < p.getD i 0)).map fun j => (((R.getD j.toNat []).length : Nat) : Int))
        rw [List.map_map, hsum] at this
        exact this
      have hc2 := compB_one (i := 6) (enc := PyData.int) (f := fun x => .int ((lessOf p R i : Int) + x)) (me := rD (op2r fAdd fCat (dName 4) (dName 6))) (g := [.d (ti p), .a (R.map ti), .own false ((fillL p R i).map .int), .d (.int i), .d (.int (lessOf p R i)), .u, .u]) (R.getD i []) (by
          have := less_total (R := R) hlt
          omega) rfl fun x hx => by simp! only []
      have a4 := atR i hlt
      have hcat := fCat_ok ((fillL p R i).map .int) ((R.getD i []).map fun x => .int ((lessOf p R i : Int) + x)) (by
        rw [List.length_map, List.length_map, fillL_len]
        have := less_total (R := R) hlt
        have h5 : total R i ≤ total R p.length := by
          have : ∀ m : Nat, total R i ≤ total R (i + m) := by
            intro m
            induction m with
            | zero => exact Nat.le_refl _
            | succ m ih => exact Nat.le_trans ih (Nat.le_add_right _ _)
          have := this (p.length - i)
          rwa [show i + (p.length - i) = p.length by omega] at this
        omega)
      refine ⟨[.d (ti p), .a (R.map ti), .own false ((fillL p R i).map .int), .d (.int i), .u, .u, .u], [.d (ti p), .a (R.map ti), .own false ((fillL p R (i + 1)).map .int), .d (.int i), .d (.int (lessOf p R i)), .u, .u], by simp! only [], .inl ?_, i + 1, ?_, by omega, by simp! only []⟩
      · simp! only [List.length_map, hsm, Int.toNat_natCast, hc, hs2, a4, hc2, fAdd_ll, hcat]
        rw [show fillL p R (i + 1) = fillL p R i ++ (R.getD i []).map fun x => (lessOf p R i : Int) + x from rfl, List.map_append, List.map_map]
        rfl
      · rw [hr]
        congr 2)
  have hi : i = p.length := by
    have := congrArg List.length h1
    rw [List.length_map, irange_len] at this
    simp at this
    omega
  subst hi
  unfold φ__law_filled m__law_filled
  have e2 : forG _ _ _ _ [SV.d (ti p), .a (R.map ti), .own false [], .u, .u, .u, .u] = _ := e1
  simp! only [List.length_map, hsm, Int.toNat_natCast, e2, h3]
theorem isOrd_irange (n : Nat) : IsOrd (irange 1 n) := .of_perm (by rw [irange_len])
theorem drange_rev (n : Nat) : drange n n = tu (irange 1 n) := by
  apply List.ext_getElem?
  intro k
  by_cases hk : k < n
  · rw [drange_get _ _ _ hk, tu, List.getElem?_reverse (by rw [irange_len]; exact hk), irange_len, irange_get _ _ _ (by omega)]
    congr 1
    omega
  · rw [List.getElem?_eq_none (by rw [drange_len]; omega), List.getElem?_eq_none (by rw [tu_len, irange_len]; omega)]
theorem two_of {r : Int} (h0 : 0 ≤ r) (h1 : r < 2) : r = 0 ∨ r = 1 := by omega
abbrev rowBody : M Fl := (dSeq (sSetR 9 (callP [.m, .v] φ__law_take (vCons (dName 0) (vCons (dv (rD (op2r fAdd fCat (dName 6) (dv (dC (.int 1)))))) vNil))))
    (dSeq (sSet 6 (op2 fSub (dName 6) (dName 9)))
    (sExpr (dMut 7 mAppend (dCons (rD (callP [.m, .v] φ__law_drawn (vCons (dName 0) (vCons (dv (rD (op2r fAdd fCat (dv (dC (.int 1))) (dName 9)))) vNil)))) dNil)))))
theorem row_loop (most way : Int) (many : Nat) (base : List Int) {l : List D} (hl : Deck l) (hb : base.length ≤ many) (hm : many ≤ 100) : ∃ (l' : List D) (R : List (List Int)) (rest : Int) (g' : En),
    forG (.nm 8) [8, 9] rowBody ((irange 0 base.length).map .int) [.own true l, .d (.int most), .d (.int way), .d (.int many), .u, .d (ti base), .d (.int ((many : Int) - base.length)), .own false [], .u, .u] = .ok .nx (fgt [8, 9] g') ∧
      g' = [.own true l', .d (.int most), .d (.int way), .d (.int many), .u, .d (ti base), .d (.int rest), .own false (R.map ti), .u, .u] ∧ Deck l' ∧ R.length = base.length ∧ (∀ j, j < base.length → IsOrd (R.getD j [])) ∧ total R base.length ≤ many := by
  obtain ⟨g', e1, i, l', R, rest, h1, h2, h3, h4, h5, h6, h7, h8⟩ := forG_inv (t := .nm 8) (ms := [8, 9]) (b := rowBody) ((irange 0 base.length).map .int)
    (fun r g => ∃ (i : Nat) (l' : List D) (R : List (List Int)) (rest : Int), r = (irange i (base.length - i)).map .int ∧ i ≤ base.length ∧ Deck l' ∧ R.length = i ∧ (∀ j, j < i → IsOrd (R.getD j [])) ∧ 0 ≤ rest ∧ (total R i : Int) + rest = i + ((many : Int) - base.length) ∧
      g = [.own true l', .d (.int most), .d (.int way), .d (.int many), .u, .d (ti base), .d (.int rest), .own false (R.map ti), .u, .u])
    _ ⟨0, l, [], (many : Int) - base.length, rfl, Nat.zero_le _, hl, rfl, fun j hj => absurd hj (Nat.not_lt_zero _), by omega, by simp [total, wsum], rfl⟩ (by
      rintro x r g ⟨i, l', R, rest, h1, h2, h3, h4, h5, h6, h7, rfl⟩ _
      have hlt : i < base.length := by
        have := congrArg List.length h1
        rw [List.length_map, irange_len, List.length_cons] at this
        omega
      rw [show base.length - i = (base.length - i - 1) + 1 by omega, irange_succ, List.map_cons] at h1
      injection h1 with hx hr
      subst hx
      have hrest : rest ≤ 100 := by omega
      obtain ⟨t, l2, ht, hd, t0, t1⟩ := take_ok h3 (rest + 1) (by omega) (by omega)
      obtain ⟨q, l3, hq, hd3, hq1, hq2⟩ := drawn_ok hd (1 + t.toNat) (by omega)
      rw [show ((1 + t.toNat : Nat) : Int) = 1 + t by omega] at hq
      have ha := mAppend_ok (R.map ti) (ti q) (by rw [List.length_map]; exact sz_lt (by omega))
      refine ⟨[.own true l', .d (.int most), .d (.int way), .d (.int many), .u, .d (ti base), .d (.int rest), .own false (R.map ti), .d (.int i), .u], [.own true l3, .d (.int most), .d (.int way), .d (.int many), .u, .d (ti base), .d (.int (rest - t)), .own false ((R ++ [q]).map ti), .d (.int i), .d (.int t)], by simp! only [], .inl ?_, i + 1, l3, R ++ [q], rest - t, ?_, by omega, hd3, ?_, fun j hj => ?_, by omega, ?_, by simp! only []⟩
      · simp! only [ht, hq, ha, List.map_append, List.map_cons, List.map_nil]
      · rw [hr]
        congr 2
      · rw [List.length_append, h4]
        rfl
      · by_cases e : j = i
        · subst e
          rw [List.getD_eq_getElem?_getD, List.getElem?_append_right (by omega), h4, Nat.sub_self]
          exact hq1
        · rw [List.getD_eq_getElem?_getD, List.getElem?_append_left (by omega), ← List.getD_eq_getElem?_getD]
          exact h5 j (by omega)
      · have := total_snoc (R := R) (r := q)
        rw [h4] at this
        rw [this]
        omega)
  have hi : i = base.length := by
    have := congrArg List.length h1
    rw [List.length_map, irange_len] at this
    simp at this
    omega
  subst hi
  exact ⟨l', R, rest, g', e1, h8, h3, h4, h5, by omega⟩
theorem row_ok {l : List D} (hl : Deck l) (most : Nat) (hm : most ≤ 100) : ∃ (p : List Int) (l' : List D), φ__law_row [.list l, .int (most : Int)] = .ret (.d (ti p)) l' ∧ Deck l' ∧ IsOrd p ∧ p.length ≤ most := by
  obtain ⟨way, l1, e1, d1, w0, w1⟩ := take_ok hl 6 (by omega) (by omega)
  obtain ⟨manyI, l2, e2, d2, m0, m1⟩ := take_ok d1 ((most : Int) + 1) (by omega) (by omega)
  obtain ⟨many, rfl⟩ : ∃ many : Nat, manyI = many := ⟨manyI.toNat, by omega⟩
  have hmm : many ≤ most := by omega
  by_cases c1 : way < 2
  · obtain ⟨p, l', h1, h2, h3, h4⟩ := drawn_ok d2 many (by omega)
    refine ⟨p, l', ?_, h2, h3, by omega⟩
    unfold φ__law_row m__law_row
    simp! only [e1, e2, c1, h1]
  by_cases c2 : (many : Int) < 2
  · obtain ⟨p, l', h1, h2, h3, h4⟩ := drawn_ok d2 many (by omega)
    refine ⟨p, l', ?_, h2, h3, by omega⟩
    unfold φ__law_row m__law_row
    simp! only [e1, e2, c1, c2, h1]
  by_cases c3 : way = 2
  · subst c3
    have hsm : Sm ((many : Int) + 1) := sm_of (by omega) (by omega)
    have hr : ((many : Int) + 1 - 1).toNat = many := by omega
    obtain ⟨t, l3, e3, d3, t0, t1⟩ := take_ok d2 2 (by omega) (by omega)
    rcases two_of t0 t1 with rfl | rfl
    · refine ⟨irange 1 many, l3, ?_, d3, isOrd_irange many, by rw [irange_len]; omega⟩
      unfold φ__law_row m__law_row
      simp! only [e1, e2, c1, c2, e3, hsm, hr]
    · refine ⟨tu (irange 1 many), l3, ?_, d3, isOrd_tu (isOrd_irange many), by rw [tu_len, irange_len]; omega⟩
      unfold φ__law_row m__law_row
      simp! only [e1, e2, c1, c2, e3, hsm, hr, ← List.map_reverse]
      rfl
  obtain ⟨t, l3, e3, d3, t0, t1⟩ := take_ok d2 ((many : Int) - 1) (by omega) (by omega)
  obtain ⟨base, l4, e4, d4, b1, b2⟩ := drawn_ok d3 (2 + t.toNat) (by omega)
  rw [show ((2 + t.toNat : Nat) : Int) = 2 + t by omega] at e4
  have main : ∀ (base : List Int) (l4 : List D), Deck l4 → IsOrd base → base.length = 2 + t.toNat → ∃ (p : List Int) (l' : List D) (g' : En), dsq (forG (.nm 8) [8, 9] rowBody ((irange 0 base.length).map .int) [.own true l4, .d (.int most), .d (.int way), .d (.int many), .u, .d (ti base), .d (.int ((many : Int) - base.length)), .own false [], .u, .u]) (sRetR (callP [.v, .v] φ__law_filled (vCons (dName 5) (vCons (dName 7) vNil)))) = .ok (.rt (.d (ti p))) (.own true l' :: g') ∧ Deck l' ∧ IsOrd p ∧ p.length ≤ most := by
    intro base l4 d4 b1 b2
    obtain ⟨l5, R, rest, g', f1, f2, f3, f4, f5, f6⟩ := row_loop most way many base d4 (by omega) (by omega)
    have hf := filled_ok base R f4 (by omega) (by omega)
    refine ⟨fillL base R base.length, l5, [.d (.int most), .d (.int way), .d (.int many), .u, .d (ti base), .d (.int rest), .own false (R.map ti), .u, .u], ?_, f3, isOrd_fill b1.nd f5, by rw [fillL_len]; omega⟩
    rw [f1, f2]
    simp! only [hf]
  by_cases c4 : way = 3
  · subst c4
    obtain ⟨u, l5, e5, d5, u0, u1⟩ := take_ok d4 2 (by omega) (by omega)
    have hsm : Sm ((base.length : Int) + 1) := sm_of (by omega) (by omega)
    have hsm2 : Sm (base.length : Int) := sm_of (by omega) (by omega)
    have hr : ((base.length : Int) + 1 - 1).toNat = base.length := by omega
    have hr2 : ((base.length : Int) - 0).toNat = base.length := by omega
    rcases two_of u0 u1 with rfl | rfl
    · obtain ⟨p, l', g', h1, h2, h3, h4⟩ := main (irange 1 base.length) l5 d5 (isOrd_irange _) (by rw [irange_len]; omega)
      refine ⟨p, l', ?_, h2, h3, h4⟩
      rw [irange_len] at h1
      unfold φ__law_row m__law_row
      simp! only [e1, e2, c1, c2, e3, e4, e5, hsm, hsm2, hr, hr2, List.length_map, irange_len, Int.toNat_natCast, h1]
    · obtain ⟨p, l', g', h1, h2, h3, h4⟩ := main (drange base.length base.length) l5 d5 (by rw [drange_rev]; exact isOrd_tu (isOrd_irange _)) (by rw [drange_len]; omega)
      refine ⟨p, l', ?_, h2, h3, h4⟩
      rw [drange_len] at h1
      unfold φ__law_row m__law_row
      simp! only [e1, e2, c1, c2, e3, e4, e5, hsm, hsm2, hr, hr2, List.length_map, drange_len, Int.toNat_natCast, h1]
  · obtain ⟨p, l', g', h1, h2, h3, h4⟩ := main base l4 d4 b1 b2
    have hsm2 : Sm (base.length : Int) := sm_of (by omega) (by omega)
    refine ⟨p, l', ?_, h2, h3, h4⟩
    unfold φ__law_row m__law_row
    simp! only [e1, e2, c1, c2, c3, c4, e3, e4, hsm2, List.length_map, Int.toNat_natCast, h1]

theorem fAdd_tt' (xs ys : List D) (h : xs.length + ys.length ≤ 100000) : fAdd (.tuple xs) (.tuple ys) = some (.tuple (xs ++ ys)) := if_pos (sz_le h)
theorem lifted_ok (c : List Int) (k : Int) (h : c.length ≤ 1000) : φ_lifted [ti c, .int k] = .ret (.d (ti (sft k c))) [] := by
  have hc := compB_one (i := 2) (enc := PyData.int) (f := fun x => .int (x + k)) (me := rD (op2r fAdd fCat (dName 2) (dName 1))) (g := [.d (ti c), .d (.int k), .u]) c (by omega) rfl fun x hx => by simp! only []
  have e : c.map (fun x => PyData.int (x + k)) = (sft k c).map .int := by rw [sft, List.map_map]; rfl
  rw [e] at hc
  unfold φ_lifted m_lifted
  simp! only [hc]
theorem fCut_stch (p : List Int) {a b : Nat} (h : a ≤ b) (k : b ≤ p.length) : fCutT (ti p) (some (a : Int)) (some (b : Int)) = some (ti (stch p a b)) := by
  have := fCutT_mid (p.map .int) a b h (by rw [List.length_map]; exact k)
  rw [← List.map_drop, ← List.map_take] at this
  exact this
/-! ### the loops over all stretches -/
/-- a body that keeps a stretch if it is a block -/
def BStep (p : List Int) (b : M Fl) : Prop := ∀ (a k : Nat) (L : List D), a + k < p.length → L.length ≤ 20000 → ∃ sv, b [.d (ti p), .own false L, .d (.int a), .d (.int ((a : Int) + 1 + k)), .u] = .ok .nx [.d (ti p), .own false (L ++ if blk p a (a + 1 + k) = true then [encB (a, a + 1 + k)] else []), .d (.int a), .d (.int ((a : Int) + 1 + k)), sv]
theorem bl_in {p : List Int} {b : M Fl} (hb : BStep p b) (hp : p.length ≤ 100) (a : Nat) (ha : a < p.length) : forG (.nm 3) [3, 4] b ((irange ((a : Int) + 1) (p.length - a)).map .int) [.d (ti p), .own false ((BL p a).map encB), .d (.int a), .u, .u] = .ok .nx [.d (ti p), .own false ((BL p (a + 1)).map encB), .d (.int a), .u, .u] := by
  obtain ⟨g', e1, k, h1, h2, h3⟩ := forG_inv (t := .nm 3) (ms := [3, 4]) (b := b) ((irange ((a : Int) + 1) (p.length - a)).map .int)
    (fun r g => ∃ k : Nat, r = (irange ((a : Int) + 1 + k) (p.length - a - k)).map .int ∧ k ≤ p.length - a ∧ g = [.d (ti p), .own false ((BL p a ++ BLi p a k).map encB), .d (.int a), .u, .u])
    [.d (ti p), .own false ((BL p a).map encB), .d (.int a), .u, .u] ⟨0, by rw [Int.natCast_zero, Int.add_zero]; rfl, Nat.zero_le _, by rw [BLi, List.append_nil]⟩ (by
      rintro x r g ⟨k, h1, h2, rfl⟩ _
      have hlt : k < p.length - a := by
        have := congrArg List.length h1
        rw [List.length_map, irange_len, List.length_cons] at this
        omega
      rw [show p.length - a - k = (p.length - a - k - 1) + 1 by omega, irange_succ, List.map_cons] at h1
      injection h1 with hx hr
      subst hx
      have l1 := BL_len p a
      have l2 := BLi_len p a k
      have l3 : a * p.length ≤ 100 * 100 := Nat.mul_le_mul (by omega) hp
      obtain ⟨sv, hs⟩ := hb a k ((BL p a ++ BLi p a k).map encB) (by omega) (by rw [List.length_map, List.length_append]; omega)
      refine ⟨_, _, setT_nm _ _ _, .inl hs, k + 1, ?_, by omega, ?_⟩
      · rw [hr]
        congr 2
      · have e : (BL p a ++ BLi p a (k + 1)).map encB = (BL p a ++ BLi p a k).map encB ++ if blk p a (a + 1 + k) = true then [encB (a, a + 1 + k)] else [] := by
          rw [BLi, ← List.append_assoc, List.map_append (l₁ := BL p a ++ BLi p a k)]
          congr 1
          split <;> rfl
        rw [e]
        simp! only [])
  have hk : k = p.length - a := by
    have := congrArg List.length h1
    rw [List.length_map, irange_len] at this
    simp at this
    omega
  subst hk
  rw [e1, h3, BL]
  simp! only []
theorem bl_out {p : List Int} {b : M Fl} (hb : BStep p b) (hp : p.length ≤ 100) : forG (.nm 2) [2, 3, 4] (sFor (.nm 3) [3, 4] (iR2 (vCons (dv (rD (op2r fAdd fCat (dName 2) (dv (dC (.int 1)))))) (vCons (dv (rD (op2r fAdd fCat (dv (opN fLen (vCons (dName 0) vNil))) (dv (dC (.int 1)))))) vNil))) b) ((irange 0 p.length).map .int) [.d (ti p), .own false [], .u, .u, .u] = .ok .nx [.d (ti p), .own false ((BL p p.length).map encB), .u, .u, .u] := by
  obtain ⟨g', e1, i, h1, h2, h3⟩ := forG_inv (t := .nm 2) (ms := [2, 3, 4]) (b := (sFor (.nm 3) [3, 4] (iR2 (vCons (dv (rD (op2r fAdd fCat (dName 2) (dv (dC (.int 1)))))) (vCons (dv (rD (op2r fAdd fCat (dv (opN fLen (vCons (dName 0) vNil))) (dv (dC (.int 1)))))) vNil))) b)) ((irange 0 p.length).map .int)
    (fun r g => ∃ i : Nat, r = (irange i (p.length - i)).map .int ∧ i ≤ p.length ∧ g = [.d (ti p), .own false ((BL p i).map encB), .u, .u, .u])
    [.d (ti p), .own false [], .u, .u, .u] ⟨0, rfl, Nat.zero_le _, rfl⟩ (by
      rintro x r g ⟨i, h1, h2, rfl⟩ _
      have hlt : i < p.length := by
        have := congrArg List.length h1
        rw [List.length_map, irange_len, List.length_cons] at this
        omega
      rw [show p.length - i = (p.length - i - 1) + 1 by omega, irange_succ, List.map_cons] at h1
      injection h1 with hx hr
      subst hx
      have hin := bl_in hb hp i hlt
      have s1 : Sm ((i : Int) + 1) := sm_of (by omega) (by omega)
      have s2 : Sm ((p.length : Int) + 1) := sm_of (by omega) (by omega)
      have e : ((p.length : Int) + 1 - ((i : Int) + 1)).toNat = p.length - i := by omega
      refine ⟨[.d (ti p), .own false ((BL p i).map encB), .d (.int i), .u, .u], [.d (ti p), .own false ((BL p (i + 1)).map encB), .d (.int i), .u, .u], by simp! only [], .inl ?_, i + 1, ?_, by omega, by simp! only []⟩
      · simp! only [List.length_map, s1, s2, e, hin]
      · rw [hr]
        congr 2)
  have hi : i = p.length := by
    have := congrArg List.length h1
    rw [List.length_map, irange_len] at this
    simp at this
    omega
  subst hi
  rw [e1, h3]
  simp! only []
abbrev pBlk : M Fl := (dSeq (sSetR 4 (cutR (dName 0) (oSome (dEsc (dName 2))) (oSome (dEsc (dName 3)))))
    (sIf (dB (op2 fEq (dv (op2 fSub (dv (opN fMax (vCons (dName 4) vNil))) (dv (opN fMin (vCons (dName 4) vNil))))) (dv (op2 fSub (dv (op2 fSub (dName 3) (dName 2))) (dv (dC (.int 1))))))) (sExpr (dMut 1 mAppend (dCons (dTup (dCons (dEsc (dName 2)) (dCons (dEsc (dName 3)) dNil))) dNil))) sNx))
theorem pBlk_step (p : List Int) (hp : p.length ≤ 100) : BStep p pBlk := by
  intro a k L hk hL
  refine ⟨.d (ti (stch p a (a + 1 + k))), ?_⟩
  have hne : stch p a (a + 1 + k) ≠ [] := stch_ne (by omega) (by omega)
  have hl : (stch p a (a + 1 + k)).length = k + 1 := by rw [stch_len (by omega)]; omega
  have hcut : fCutT (ti p) (some (a : Int)) (some ((a : Int) + 1 + k)) = some (ti (stch p a (a + 1 + k))) := fCut_stch p (b := a + 1 + k) (by omega) (by omega)
  have h1 := fMax_t hne
  have h2 := fMin_t hne
  have e : decide (mx (stch p a (a + 1 + k)) - mn (stch p a (a + 1 + k)) = (a : Int) + 1 + k - a - 1) = blk p a (a + 1 + k) := by
    unfold blk tight
    rw [hl]
    exact decide_eq_decide.mpr (by omega)
  have happ := mAppend_ok L (.tuple [.int a, .int ((a : Int) + 1 + k)]) (sz_lt (by omega))
  unfold pBlk
  cases hb : blk p a (a + 1 + k) with
  | true =>
    rw [hb] at e
    simp only [bnd_at, rt_at, thn_ok, thn_ex, oRo_some, oMap_some, brn_t, brn_f, dName_at, slR_d, slR_a, slR_o, vl_d, vl_s, slV_d, slV_a, slV_o, dv_at, dEsc_at, esc_d, esc_s, escS_d, escS_o, dFz_at, dC_at, dNil_at, dCons_at, vNil_at, vCons_at, op2_at, op2r_at, op1_at, op1o_at, opN_at, opNo_at, vls_nil, vls_cons, cutR_at, oNone_at, oSome_at, dTup_at, dLst_at, dB_at, boolD_b, dNot_at, dAnd_at, dOr_at, dAndV_at, dOrV_at, dNotV_at, dSeq_at, dsq_nx, dsq_rt, dsq_bk, dsq_ct, dsq_ex, sNx_at, sBk_at, sCt_at, sExpr_at, sRet_at, sRetO_at, sRetN_at, sRetV_at, retS_d, retS_o, sSet_at, sSetO_at, sIf_at, ownV_o, msNil_at, msD_at, msO_at, msR_at, gRo_some, sPar_at, setRs_nil, setRs_d, setRs_o, callP_at, callK_at, argO_some, callM_at, outR_ret, outR_ex, argD_nil, argD_v, argD_p, argD_m, argD_vn, argD_vs, Option.some.injEq, Nat.reduceEqDiff, mIx_m, mIx_v, mIx_p, mIx_nil, putM_none, putM_some, putO_o, call1_at, rD_at, rtD_d, rtD_o, rO_at, rtO_o, sExprR_at, sRetR_at, sSetR_at, setS_d, setS_o, runF_at, outF_nx, outF_rt, mOut_some, muOf_nil, muOf_m, muOf_v, muOf_p, chk_some, sSub_at, subS0, subS1, mutS_some, mutP_some, dMut_at, mixR_at, dChain_at, dRep_at, intD_i, rg1_at, rg2_at, dLstRg_go, rgL_ok, dTupRg_go, rgT_ok, dTupRg3_go, rgT3_ok, rgO1_ok, rgO2_ok, rgO3_ok, sm0, sm1, dIndexT_at, seqS_d, seqS_a, seqS_o, seqD_l, seqD_t, itR_d, itR_s, iV_at, iO_at, iR1_go, iR2_go, iR3_go, iEnV_at, iEnO_at, iZip_at, zipR_at, dcL_at, sSwap_at, c2L_at, sUnp_at, unpR_2, sUnpL_at, unpRL_2, sMove_at, moveV_o, moveV_d, mvR_some, swapR_at, sFor_at, compL_at, fAdd_i, fSub_i, fLt_i, fLe_i, fGt_i, fGe_i, fDiv_33, fPow_64, fPow_33, fPow_18, fNeg_i, fLen_l, fLen_t, fInt_i, fTuple_l, fList_l, fMax_2, fMin_2, fIx_l0, fIx_l1, fIx_l2, fEq_i, start0, svs, svK, svA, List.length_cons, List.length_nil, List.replicate, List.append_nil, List.cons_append, List.nil_append, List.getElem?_cons_zero, List.getElem?_cons_succ, List.set_cons_zero, List.set_cons_succ, Bool.not_true, Bool.not_false, decide_true, decide_false, ne_eq, not_false_eq_true, Nat.reduceAdd, Nat.reduceSub, fMul_take, fMul_7919, fMul_31, Nat.reduceLT, Int.reduceLT, Int.reduceEq, fMod_i, fDiv_i, bdz_ok, setT_nm, fgt_nil, fgt_cons, wipG_nil, wipG_cons, sz1, sz2, sz3, sz4, sz5, Nat.zero_le, fIs_ii, fIs_ib, fIs_is, fIs_itl, fIs_tt, fIs_tl, fIs_ttl, fIs_lt, fIs_ll, fIs_ltl, fAll_b, fSum_i, fBack_t, fBackL_l, hcut, h1, h2, e, happ, if_true]
    rfl
  | false =>
    rw [hb] at e
    simp only [bnd_at, rt_at, thn_ok, thn_ex, oRo_some, oMap_some, brn_t, brn_f, dName_at, slR_d, slR_a, slR_o, vl_d, vl_s, slV_d, slV_a, slV_o, dv_at, dEsc_at, esc_d, esc_s, escS_d, escS_o, dFz_at, dC_at, dNil_at, dCons_at, vNil_at, vCons_at, op2_at, op2r_at, op1_at, op1o_at, opN_at, opNo_at, vls_nil, vls_cons, cutR_at, oNone_at, oSome_at, dTup_at, dLst_at, dB_at, boolD_b, dNot_at, dAnd_at, dOr_at, dAndV_at, dOrV_at, dNotV_at, dSeq_at, dsq_nx, dsq_rt, dsq_bk, dsq_ct, dsq_ex, sNx_at, sBk_at, sCt_at, sExpr_at, sRet_at, sRetO_at, sRetN_at, sRetV_at, retS_d, retS_o, sSet_at, sSetO_at, sIf_at, ownV_o, msNil_at, msD_at, msO_at, msR_at, gRo_some, sPar_at, setRs_nil, setRs_d, setRs_o, callP_at, callK_at, argO_some, callM_at, outR_ret, outR_ex, argD_nil, argD_v, argD_p, argD_m, argD_vn, argD_vs, Option.some.injEq, Nat.reduceEqDiff, mIx_m, mIx_v, mIx_p, mIx_nil, putM_none, putM_some, putO_o, call1_at, rD_at, rtD_d, rtD_o, rO_at, rtO_o, sExprR_at, sRetR_at, sSetR_at, setS_d, setS_o, runF_at, outF_nx, outF_rt, mOut_some, muOf_nil, muOf_m, muOf_v, muOf_p, chk_some, sSub_at, subS0, subS1, mutS_some, mutP_some, dMut_at, mixR_at, dChain_at, dRep_at, intD_i, rg1_at, rg2_at, dLstRg_go, rgL_ok, dTupRg_go, rgT_ok, dTupRg3_go, rgT3_ok, rgO1_ok, rgO2_ok, rgO3_ok, sm0, sm1, dIndexT_at, seqS_d, seqS_a, seqS_o, seqD_l, seqD_t, itR_d, itR_s, iV_at, iO_at, iR1_go, iR2_go, iR3_go, iEnV_at, iEnO_at, iZip_at, zipR_at, dcL_at, sSwap_at, c2L_at, sUnp_at, unpR_2, sUnpL_at, unpRL_2, sMove_at, moveV_o, moveV_d, mvR_some, swapR_at, sFor_at, compL_at, fAdd_i, fSub_i, fLt_i, fLe_i, fGt_i, fGe_i, fDiv_33, fPow_64, fPow_33, fPow_18, fNeg_i, fLen_l, fLen_t, fInt_i, fTuple_l, fList_l, fMax_2, fMin_2, fIx_l0, fIx_l1, fIx_l2, fEq_i, start0, svs, svK, svA, List.length_cons, List.length_nil, List.replicate, List.append_nil, List.cons_append, List.nil_append, List.getElem?_cons_zero, List.getElem?_cons_succ, List.set_cons_zero, List.set_cons_succ, Bool.not_true, Bool.not_false, decide_true, decide_false, ne_eq, not_false_eq_true, Nat.reduceAdd, Nat.reduceSub, fMul_take, fMul_7919, fMul_31, Nat.reduceLT, Int.reduceLT, Int.reduceEq, fMod_i, fDiv_i, bdz_ok, setT_nm, fgt_nil, fgt_cons, wipG_nil, wipG_cons, sz1, sz2, sz3, sz4, sz5, Nat.zero_le, fIs_ii, fIs_ib, fIs_is, fIs_itl, fIs_tt, fIs_tl, fIs_ttl, fIs_lt, fIs_ll, fIs_ltl, fAll_b, fSum_i, fBack_t, fBackL_l, hcut, h1, h2, e, Bool.false_eq_true, if_false, List.append_nil]
abbrev lBlk : M Fl := (dSeq (sSetO 4 (opNo fSorted (vCons (dv (rD (cutR (dName 0) (oSome (dEsc (dName 2))) (oSome (dEsc (dName 3)))))) vNil)))
    (sIf (dB (op2 fEq (dName 4) (dv (dFz (dLstRg (rg2 (dv (op2 fIx (dName 4) (dv (dC (.int 0))))) (dv (rD (op2r fAdd fCat (dv (op2 fIx (dName 4) (dv (dC (.int 0))))) (dv (opN fLen (vCons (dName 4) vNil)))))))))))) (sExpr (dMut 1 mAppend (dCons (dTup (dCons (dEsc (dName 2)) (dCons (dEsc (dName 3)) dNil))) dNil))) sNx))
theorem lBlk_step (p : List Int) (ip : IsOrd p) (hp : p.length ≤ 100) : BStep p lBlk := by
  intro a k L hk hL
  have hne : stch p a (a + 1 + k) ≠ [] := stch_ne (by omega) (by omega)
  have hl : (stch p a (a + 1 + k)).length = k + 1 := by rw [stch_len (by omega)]; omega
  have hcut : fCutT (ti p) (some (a : Int)) (some ((a : Int) + 1 + k)) = some (ti (stch p a (a + 1 + k))) := fCut_stch p (b := a + 1 + k) (by omega) (by omega)
  obtain ⟨s, m1, m2, m3⟩ := sorted_tight hne (stch_nd ip.nd a (a + 1 + k))
  refine ⟨.own false (s.map .int), ?_⟩
  have hso := fSorted_t _ (okSort_ints (stch p a (a + 1 + k)) (by omega))
  have h0 : fIx (li s) (.int 0) = some (.int (s.getD 0 0)) := fIx_l (i := 0) (by rw [List.getElem?_map, getD_get (by omega)]; rfl)
  have hs0 : 1 ≤ s.getD 0 0 ∧ s.getD 0 0 ≤ 100 := by
    have hm : s.getD 0 0 ∈ p := by
      have h5 : s.getD 0 0 ∈ s := at0_mem (by omega)
      have h6 : PyData.int (s.getD 0 0) ∈ (stch p a (a + 1 + k)).map PyData.int := by
        obtain ⟨z, z1, z2⟩ := sorted_some (stch p a (a + 1 + k))
        rw [m1] at z1
        have := map_int_inj z1
        rw [this] at h5 ⊢
        exact List.mem_map_of_mem (z2.mem_iff.mp h5)
      obtain ⟨y, y1, y2⟩ := List.mem_map.mp h6
      cases y2
      exact List.mem_of_mem_drop (List.mem_of_mem_take y1)
    have := ip.lo _ hm
    have := ip.hi _ hm
    omega
  have s1 : Sm (s.getD 0 0) := sm_of (by omega) (by omega)
  have s2 : Sm (s.getD 0 0 + (s.length : Int)) := sm_of (by omega) (by omega)
  have e3 : (s.getD 0 0 + (s.length : Int) - s.getD 0 0).toNat = s.length := by omega
  have hq := fEq_li s (irange (s.getD 0 0) s.length)
  rw [m3] at hq
  have happ := mAppend_ok L (.tuple [.int a, .int ((a : Int) + 1 + k)]) (sz_lt (by omega))
  have eb : tight (stch p a (a + 1 + k)) = blk p a (a + 1 + k) := rfl
  rw [eb] at hq
  unfold lBlk
  cases hb : blk p a (a + 1 + k) with
  | true =>
    rw [hb] at hq
    simp only [bnd_at, rt_at, thn_ok, thn_ex, oRo_some, oMap_some, brn_t, brn_f, dName_at, slR_d, slR_a, slR_o, vl_d, vl_s, slV_d, slV_a, slV_o, dv_at, dEsc_at, esc_d, esc_s, escS_d, escS_o, dFz_at, dC_at, dNil_at, dCons_at, vNil_at, vCons_at, op2_at, op2r_at, op1_at, op1o_at, opN_at, opNo_at, vls_nil, vls_cons, cutR_at, oNone_at, oSome_at, dTup_at, dLst_at, dB_at, boolD_b, dNot_at, dAnd_at, dOr_at, dAndV_at, dOrV_at, dNotV_at, dSeq_at, dsq_nx, dsq_rt, dsq_bk, dsq_ct, dsq_ex, sNx_at, sBk_at, sCt_at, sExpr_at, sRet_at, sRetO_at, sRetN_at, sRetV_at, retS_d, retS_o, sSet_at, sSetO_at, sIf_at, ownV_o, msNil_at, msD_at, msO_at, msR_at, gRo_some, sPar_at, setRs_nil, setRs_d, setRs_o, callP_at, callK_at, argO_some, callM_at, outR_ret, outR_ex, argD_nil, argD_v, argD_p, argD_m, argD_vn, argD_vs, Option.some.injEq, Nat.reduceEqDiff, mIx_m, mIx_v, mIx_p, mIx_nil, putM_none, putM_some, putO_o, call1_at, rD_at, rtD_d, rtD_o, rO_at, rtO_o, sExprR_at, sRetR_at, sSetR_at, setS_d, setS_o, runF_at, outF_nx, outF_rt, mOut_some, muOf_nil, muOf_m, muOf_v, muOf_p, chk_some, sSub_at, subS0, subS1, mutS_some, mutP_some, dMut_at, mixR_at, dChain_at, dRep_at, intD_i, rg1_at, rg2_at, dLstRg_go, rgL_ok, dTupRg_go, rgT_ok, dTupRg3_go, rgT3_ok, rgO1_ok, rgO2_ok, rgO3_ok, sm0, sm1, dIndexT_at, seqS_d, seqS_a, seqS_o, seqD_l, seqD_t, itR_d, itR_s, iV_at, iO_at, iR1_go, iR2_go, iR3_go, iEnV_at, iEnO_at, iZip_at, zipR_at, dcL_at, sSwap_at, c2L_at, sUnp_at, unpR_2, sUnpL_at, unpRL_2, sMove_at, moveV_o, moveV_d, mvR_some, swapR_at, sFor_at, compL_at, fAdd_i, fSub_i, fLt_i, fLe_i, fGt_i, fGe_i, fDiv_33, fPow_64, fPow_33, fPow_18, fNeg_i, fLen_l, fLen_t, fInt_i, fTuple_l, fList_l, fMax_2, fMin_2, fIx_l0, fIx_l1, fIx_l2, fEq_i, start0, svs, svK, svA, List.length_cons, List.length_nil, List.replicate, List.append_nil, List.cons_append, List.nil_append, List.getElem?_cons_zero, List.getElem?_cons_succ, List.set_cons_zero, List.set_cons_succ, Bool.not_true, Bool.not_false, decide_true, decide_false, ne_eq, not_false_eq_true, Nat.reduceAdd, Nat.reduceSub, fMul_take, fMul_7919, fMul_31, Nat.reduceLT, Int.reduceLT, Int.reduceEq, fMod_i, fDiv_i, bdz_ok, setT_nm, fgt_nil, fgt_cons, wipG_nil, wipG_cons, sz1, sz2, sz3, sz4, sz5, Nat.zero_le, fIs_ii, fIs_ib, fIs_is, fIs_itl, fIs_tt, fIs_tl, fIs_ttl, fIs_lt, fIs_ll, fIs_ltl, fAll_b, fSum_i, fBack_t, fBackL_l, hcut, hso, m1, h0, List.length_map, s1, s2, e3, hq, happ, if_true]
    rfl
  | false =>
    rw [hb] at hq
    simp only [bnd_at, rt_at, thn_ok, thn_ex, oRo_some, oMap_some, brn_t, brn_f, dName_at, slR_d, slR_a, slR_o, vl_d, vl_s, slV_d, slV_a, slV_o, dv_at, dEsc_at, esc_d, esc_s, escS_d, escS_o, dFz_at, dC_at, dNil_at, dCons_at, vNil_at, vCons_at, op2_at, op2r_at, op1_at, op1o_at, opN_at, opNo_at, vls_nil, vls_cons, cutR_at, oNone_at, oSome_at, dTup_at, dLst_at, dB_at, boolD_b, dNot_at, dAnd_at, dOr_at, dAndV_at, dOrV_at, dNotV_at, dSeq_at, dsq_nx, dsq_rt, dsq_bk, dsq_ct, dsq_ex, sNx_at, sBk_at, sCt_at, sExpr_at, sRet_at, sRetO_at, sRetN_at, sRetV_at, retS_d, retS_o, sSet_at, sSetO_at, sIf_at, ownV_o, msNil_at, msD_at, msO_at, msR_at, gRo_some, sPar_at, setRs_nil, setRs_d, setRs_o, callP_at, callK_at, argO_some, callM_at, outR_ret, outR_ex, argD_nil, argD_v, argD_p, argD_m, argD_vn, argD_vs, Option.some.injEq, Nat.reduceEqDiff, mIx_m, mIx_v, mIx_p, mIx_nil, putM_none, putM_some, putO_o, call1_at, rD_at, rtD_d, rtD_o, rO_at, rtO_o, sExprR_at, sRetR_at, sSetR_at, setS_d, setS_o, runF_at, outF_nx, outF_rt, mOut_some, muOf_nil, muOf_m, muOf_v, muOf_p, chk_some, sSub_at, subS0, subS1, mutS_some, mutP_some, dMut_at, mixR_at, dChain_at, dRep_at, intD_i, rg1_at, rg2_at, dLstRg_go, rgL_ok, dTupRg_go, rgT_ok, dTupRg3_go, rgT3_ok, rgO1_ok, rgO2_ok, rgO3_ok, sm0, sm1, dIndexT_at, seqS_d, seqS_a, seqS_o, seqD_l, seqD_t, itR_d, itR_s, iV_at, iO_at, iR1_go, iR2_go, iR3_go, iEnV_at, iEnO_at, iZip_at, zipR_at, dcL_at, sSwap_at, c2L_at, sUnp_at, unpR_2, sUnpL_at, unpRL_2, sMove_at, moveV_o, moveV_d, mvR_some, swapR_at, sFor_at, compL_at, fAdd_i, fSub_i, fLt_i, fLe_i, fGt_i, fGe_i, fDiv_33, fPow_64, fPow_33, fPow_18, fNeg_i, fLen_l, fLen_t, fInt_i, fTuple_l, fList_l, fMax_2, fMin_2, fIx_l0, fIx_l1, fIx_l2, fEq_i, start0, svs, svK, svA, List.length_cons, List.length_nil, List.replicate, List.append_nil, List.cons_append, List.nil_append, List.getElem?_cons_zero, List.getElem?_cons_succ, List.set_cons_zero, List.set_cons_succ, Bool.not_true, Bool.not_false, decide_true, decide_false, ne_eq, not_false_eq_true, Nat.reduceAdd, Nat.reduceSub, fMul_take, fMul_7919, fMul_31, Nat.reduceLT, Int.reduceLT, Int.reduceEq, fMod_i, fDiv_i, bdz_ok, setT_nm, fgt_nil, fgt_cons, wipG_nil, wipG_cons, sz1, sz2, sz3, sz4, sz5, Nat.zero_le, fIs_ii, fIs_ib, fIs_is, fIs_itl, fIs_tt, fIs_tl, fIs_ttl, fIs_lt, fIs_ll, fIs_ltl, fAll_b, fSum_i, fBack_t, fBackL_l, hcut, hso, m1, h0, List.length_map, s1, s2, e3, hq, Bool.false_eq_true, if_false, List.append_nil]
theorem blocks_of_ok (p : List Int) (hp : p.length ≤ 100) : φ_blocks_of [ti p] = .ret (.own ((BL p p.length).map encB)) [] := by
  have h := bl_out (pBlk_step p hp) hp
  have hsm : Sm (p.length : Int) := sm_of (by omega) (by omega)
  unfold φ_blocks_of m_blocks_of
  simp! only [List.length_map, hsm, Int.toNat_natCast, h]
theorem lblocks_ok (p : List Int) (ip : IsOrd p) (hp : p.length ≤ 100) : φ__law_blocks [ti p] = .ret (.own ((BL p p.length).map encB)) [] := by
  have h := bl_out (lBlk_step p ip hp) hp
  have hsm : Sm (p.length : Int) := sm_of (by omega) (by omega)
  unfold φ__law_blocks m__law_blocks
  simp! only [List.length_map, hsm, Int.toNat_natCast, h]

abbrev hbBody : M Fl := (dSeq (sPar [2, 3] (msD (opN fMin (vCons (dName 2) (vCons (dv (op2 fIx (dName 0) (dName 4))) vNil))) (msD (opN fMax (vCons (dName 3) (vCons (dv (op2 fIx (dName 0) (dName 4))) vNil))) msNil)))
    (sIf (dB (dChain fEq fLt (dv (op2 fSub (dName 3) (dName 2))) (dv (op2 fSub (dName 4) (dName 1))) (dv (op2 fSub (dv (opN fLen (vCons (dName 0) vNil))) (dv (dC (.int 1))))))) (sRet (dC (.bool true))) sNx))
abbrev hbSt (p : List Int) (a k : Nat) : List SV := [.d (ti p), .d (.int a), .d (.int (mn (stch p a (a + 1 + k)))), .d (.int (mx (stch p a (a + 1 + k)))), .u]
theorem hb_step (p : List Int) (a k : Nat) (h : a + 1 + k < p.length) : ∃ g2, fgt [4] g2 = hbSt p a (k + 1) ∧ muOf [.v, .v] g2 = some [] ∧ hbBody [.d (ti p), .d (.int a), .d (.int (mn (stch p a (a + 1 + k)))), .d (.int (mx (stch p a (a + 1 + k)))), .d (.int ((a : Int) + 1 + k))] =
    if (blk p a (a + 2 + k) && decide (k + 2 < p.length)) = true then .ok (.rt (.d (.bool true))) g2 else .ok .nx g2 := by
  have hne : stch p a (a + 1 + k) ≠ [] := stch_ne (by omega) (by omega)
  have hs : stch p a (a + 1 + k + 1) = stch p a (a + 1 + k) ++ [p.getD (a + 1 + k) 0] := stch_succ h (by omega)
  have hl : (stch p a (a + 1 + k + 1)).length = k + 2 := by rw [stch_len (by omega)]; omega
  have m1 : (if p.getD (a + 1 + k) 0 < mn (stch p a (a + 1 + k)) then p.getD (a + 1 + k) 0 else mn (stch p a (a + 1 + k))) = mn (stch p a (a + 1 + k + 1)) := by rw [hs, mn_snoc hne]
  have m2 : (if p.getD (a + 1 + k) 0 > mx (stch p a (a + 1 + k)) then p.getD (a + 1 + k) 0 else mx (stch p a (a + 1 + k))) = mx (stch p a (a + 1 + k + 1)) := by rw [hs, mx_snoc hne]
  have hix : fIx (ti p) (.int ((a : Int) + 1 + k)) = some (.int (p.getD (a + 1 + k) 0)) := fIx_t (i := a + 1 + k) (by rw [List.getElem?_map, getD_get h]; rfl)
  have e1 : decide (mx (stch p a (a + 1 + k + 1)) - mn (stch p a (a + 1 + k + 1)) = (a : Int) + 1 + k - a) = blk p a (a + 2 + k) := by
    unfold blk tight
    rw [show a + 2 + k = a + 1 + k + 1 by omega, hl]
    exact decide_eq_decide.mpr (by omega)
  have e2 : decide ((a : Int) + 1 + k - a < (p.length : Int) - 1) = decide (k + 2 < p.length) := decide_eq_decide.mpr (by omega)
  refine ⟨[.d (ti p), .d (.int a), .d (.int (mn (stch p a (a + 1 + k + 1)))), .d (.int (mx (stch p a (a + 1 + k + 1)))), .d (.int ((a : Int) + 1 + k))], by simp! only []; rfl, by simp! only [], ?_⟩
  unfold hbBody
  cases hb : blk p a (a + 2 + k) with
  | false =>
    rw [hb] at e1
    simp only [bnd_at, rt_at, thn_ok, thn_ex, oRo_some, oMap_some, brn_t, brn_f, dName_at, slR_d, slR_a, slR_o, vl_d, vl_s, slV_d, slV_a, slV_o, dv_at, dEsc_at, esc_d, esc_s, escS_d, escS_o, dFz_at, dC_at, dNil_at, dCons_at, vNil_at, vCons_at, op2_at, op2r_at, op1_at, op1o_at, opN_at, opNo_at, vls_nil, vls_cons, cutR_at, oNone_at, oSome_at, dTup_at, dLst_at, dB_at, boolD_b, dNot_at, dAnd_at, dOr_at, dAndV_at, dOrV_at, dNotV_at, dSeq_at, dsq_nx, dsq_rt, dsq_bk, dsq_ct, dsq_ex, sNx_at, sBk_at, sCt_at, sExpr_at, sRet_at, sRetO_at, sRetN_at, sRetV_at, retS_d, retS_o, sSet_at, sSetO_at, sIf_at, ownV_o, msNil_at, msD_at, msO_at, msR_at, gRo_some, sPar_at, setRs_nil, setRs_d, setRs_o, callP_at, callK_at, argO_some, callM_at, outR_ret, outR_ex, argD_nil, argD_v, argD_p, argD_m, argD_vn, argD_vs, Option.some.injEq, Nat.reduceEqDiff, mIx_m, mIx_v, mIx_p, mIx_nil, putM_none, putM_some, putO_o, call1_at, rD_at, rtD_d, rtD_o, rO_at, rtO_o, sExprR_at, sRetR_at, sSetR_at, setS_d, setS_o, runF_at, outF_nx, outF_rt, mOut_some, muOf_nil, muOf_m, muOf_v, muOf_p, chk_some, sSub_at, subS0, subS1, mutS_some, mutP_some, dMut_at, mixR_at, dChain_at, dRep_at, intD_i, rg1_at, rg2_at, dLstRg_go, rgL_ok, dTupRg_go, rgT_ok, dTupRg3_go, rgT3_ok, rgO1_ok, rgO2_ok, rgO3_ok, sm0, sm1, dIndexT_at, seqS_d, seqS_a, seqS_o, seqD_l, seqD_t, itR_d, itR_s, iV_at, iO_at, iR1_go, iR2_go, iR3_go, iEnV_at, iEnO_at, iZip_at, zipR_at, dcL_at, sSwap_at, c2L_at, sUnp_at, unpR_2, sUnpL_at, unpRL_2, sMove_at, moveV_o, moveV_d, mvR_some, swapR_at, sFor_at, compL_at, fAdd_i, fSub_i, fLt_i, fLe_i, fGt_i, fGe_i, fDiv_33, fPow_64, fPow_33, fPow_18, fNeg_i, fLen_l, fLen_t, fInt_i, fTuple_l, fList_l, fMax_2, fMin_2, fIx_l0, fIx_l1, fIx_l2, fEq_i, start0, svs, svK, svA, List.length_cons, List.length_nil, List.replicate, List.append_nil, List.cons_append, List.nil_append, List.getElem?_cons_zero, List.getElem?_cons_succ, List.set_cons_zero, List.set_cons_succ, Bool.not_true, Bool.not_false, decide_true, decide_false, ne_eq, not_false_eq_true, Nat.reduceAdd, Nat.reduceSub, fMul_take, fMul_7919, fMul_31, Nat.reduceLT, Int.reduceLT, Int.reduceEq, fMod_i, fDiv_i, bdz_ok, setT_nm, fgt_nil, fgt_cons, wipG_nil, wipG_cons, sz1, sz2, sz3, sz4, sz5, Nat.zero_le, fIs_ii, fIs_ib, fIs_is, fIs_itl, fIs_tt, fIs_tl, fIs_ttl, fIs_lt, fIs_ll, fIs_ltl, fAll_b, fSum_i, fBack_t, fBackL_l, hix, m1, m2, e1, Bool.false_and, Bool.false_eq_true, if_false]
  | true =>
    rw [hb] at e1
    cases hd : decide (k + 2 < p.length) with
    | false =>
      rw [hd] at e2
      simp only [bnd_at, rt_at, thn_ok, thn_ex, oRo_some, oMap_some, brn_t, brn_f, dName_at, slR_d, slR_a, slR_o, vl_d, vl_s, slV_d, slV_a, slV_o, dv_at, dEsc_at, esc_d, esc_s, escS_d, escS_o, dFz_at, dC_at, dNil_at, dCons_at, vNil_at, vCons_at, op2_at, op2r_at, op1_at, op1o_at, opN_at, opNo_at, vls_nil, vls_cons, cutR_at, oNone_at, oSome_at, dTup_at, dLst_at, dB_at, boolD_b, dNot_at, dAnd_at, dOr_at, dAndV_at, dOrV_at, dNotV_at, dSeq_at, dsq_nx, dsq_rt, dsq_bk, dsq_ct, dsq_ex, sNx_at, sBk_at, sCt_at, sExpr_at, sRet_at, sRetO_at, sRetN_at, sRetV_at, retS_d, retS_o, sSet_at, sSetO_at, sIf_at, ownV_o, msNil_at, msD_at, msO_at, msR_at, gRo_some, sPar_at, setRs_nil, setRs_d, setRs_o, callP_at, callK_at, argO_some, callM_at, outR_ret, outR_ex, argD_nil, argD_v, argD_p, argD_m, argD_vn, argD_vs, Option.some.injEq, Nat.reduceEqDiff, mIx_m, mIx_v, mIx_p, mIx_nil, putM_none, putM_some, putO_o, call1_at, rD_at, rtD_d, rtD_o, rO_at, rtO_o, sExprR_at, sRetR_at, sSetR_at, setS_d, setS_o, runF_at, outF_nx, outF_rt, mOut_some, muOf_nil, muOf_m, muOf_v, muOf_p, chk_some, sSub_at, subS0, subS1, mutS_some, mutP_some, dMut_at, mixR_at, dChain_at, dRep_at, intD_i, rg1_at, rg2_at, dLstRg_go, rgL_ok, dTupRg_go, rgT_ok, dTupRg3_go, rgT3_ok, rgO1_ok, rgO2_ok, rgO3_ok, sm0, sm1, dIndexT_at, seqS_d, seqS_a, seqS_o, seqD_l, seqD_t, itR_d, itR_s, iV_at, iO_at, iR1_go, iR2_go, iR3_go, iEnV_at, iEnO_at, iZip_at, zipR_at, dcL_at, sSwap_at, c2L_at, sUnp_at, unpR_2, sUnpL_at, unpRL_2, sMove_at, moveV_o, moveV_d, mvR_some, swapR_at, sFor_at, compL_at, fAdd_i, fSub_i, fLt_i, fLe_i, fGt_i, fGe_i, fDiv_33, fPow_64, fPow_33, fPow_18, fNeg_i, fLen_l, fLen_t, fInt_i, fTuple_l, fList_l, fMax_2, fMin_2, fIx_l0, fIx_l1, fIx_l2, fEq_i, start0, svs, svK, svA, List.length_cons, List.length_nil, List.replicate, List.append_nil, List.cons_append, List.nil_append, List.getElem?_cons_zero, List.getElem?_cons_succ, List.set_cons_zero, List.set_cons_succ, Bool.not_true, Bool.not_false, decide_true, decide_false, ne_eq, not_false_eq_true, Nat.reduceAdd, Nat.reduceSub, fMul_take, fMul_7919, fMul_31, Nat.reduceLT, Int.reduceLT, Int.reduceEq, fMod_i, fDiv_i, bdz_ok, setT_nm, fgt_nil, fgt_cons, wipG_nil, wipG_cons, sz1, sz2, sz3, sz4, sz5, Nat.zero_le, fIs_ii, fIs_ib, fIs_is, fIs_itl, fIs_tt, fIs_tl, fIs_ttl, fIs_lt, fIs_ll, fIs_ltl, fAll_b, fSum_i, fBack_t, fBackL_l, List.length_map, hix, m1, m2, e1, e2, Bool.true_and, Bool.false_eq_true, if_false]
    | true =>
      rw [hd] at e2
      simp only [bnd_at, rt_at, thn_ok, thn_ex, oRo_some, oMap_some, brn_t, brn_f, dName_at, slR_d, slR_a, slR_o, vl_d, vl_s, slV_d, slV_a, slV_o, dv_at, dEsc_at, esc_d, esc_s, escS_d, escS_o, dFz_at, dC_at, dNil_at, dCons_at, vNil_at, vCons_at, op2_at, op2r_at, op1_at, op1o_at, opN_at, opNo_at, vls_nil, vls_cons, cutR_at, oNone_at, oSome_at, dTup_at, dLst_at, dB_at, boolD_b, dNot_at, dAnd_at, dOr_at, dAndV_at, dOrV_at, dNotV_at, dSeq_at, dsq_nx, dsq_rt, dsq_bk, dsq_ct, dsq_ex, sNx_at, sBk_at, sCt_at, sExpr_at, sRet_at, sRetO_at, sRetN_at, sRetV_at, retS_d, retS_o, sSet_at, sSetO_at, sIf_at, ownV_o, msNil_at, msD_at, msO_at, msR_at, gRo_some, sPar_at, setRs_nil, setRs_d, setRs_o, callP_at, callK_at, argO_some, callM_at, outR_ret, outR_ex, argD_nil, argD_v, argD_p, argD_m, argD_vn, argD_vs, Option.some.injEq, Nat.reduceEqDiff, mIx_m, mIx_v, mIx_p, mIx_nil, putM_none, putM_some, putO_o, call1_at, rD_at, rtD_d, rtD_o, rO_at, rtO_o, sExprR_at, sRetR_at, sSetR_at, setS_d, setS_o, runF_at, outF_nx, outF_rt, mOut_some, muOf_nil, muOf_m, muOf_v, muOf_p, chk_some, sSub_at, subS0, subS1, mutS_some, mutP_some, dMut_at, mixR_at, dChain_at, dRep_at, intD_i, rg1_at, rg2_at, dLstRg_go, rgL_ok, dTupRg_go, rgT_ok, dTupRg3_go, rgT3_ok, rgO1_ok, rgO2_ok, rgO3_ok, sm0, sm1, dIndexT_at, seqS_d, seqS_a, seqS_o, seqD_l, seqD_t, itR_d, itR_s, iV_at, iO_at, iR1_go, iR2_go, iR3_go, iEnV_at, iEnO_at, iZip_at, zipR_at, dcL_at, sSwap_at, c2L_at, sUnp_at, unpR_2, sUnpL_at, unpRL_2, sMove_at, moveV_o, moveV_d, mvR_some, swapR_at, sFor_at, compL_at, fAdd_i, fSub_i, fLt_i, fLe_i, fGt_i, fGe_i, fDiv_33, fPow_64, fPow_33, fPow_18, fNeg_i, fLen_l, fLen_t, fInt_i, fTuple_l, fList_l, fMax_2, fMin_2, fIx_l0, fIx_l1, fIx_l2, fEq_i, start0, svs, svK, svA, List.length_cons, List.length_nil, List.replicate, List.append_nil, List.cons_append, List.nil_append, List.getElem?_cons_zero, List.getElem?_cons_succ, List.set_cons_zero, List.set_cons_succ, Bool.not_true, Bool.not_false, decide_true, decide_false, ne_eq, not_false_eq_true, Nat.reduceAdd, Nat.reduceSub, fMul_take, fMul_7919, fMul_31, Nat.reduceLT, Int.reduceLT, Int.reduceEq, fMod_i, fDiv_i, bdz_ok, setT_nm, fgt_nil, fgt_cons, wipG_nil, wipG_cons, sz1, sz2, sz3, sz4, sz5, Nat.zero_le, fIs_ii, fIs_ib, fIs_is, fIs_itl, fIs_tt, fIs_tl, fIs_ttl, fIs_lt, fIs_ll, fIs_ltl, fAll_b, fSum_i, fBack_t, fBackL_l, List.length_map, hix, m1, m2, e1, e2, Bool.true_and, if_true]
theorem has_block_ok (p : List Int) (a : Nat) (ha : a < p.length) (hp : p.length ≤ 100) : φ_has_block [ti p, .int a] = .ret (.d (.bool (hbk p a (p.length - a - 1)))) [] := by
  have h0 : fIx (ti p) (.int (a : Int)) = some (.int (p.getD a 0)) := fIx_t (by rw [List.getElem?_map, getD_get ha]; rfl)
  have s1 : Sm ((a : Int) + 1) := sm_of (by omega) (by omega)
  have s2 : Sm (p.length : Int) := sm_of (by omega) (by omega)
  have e0 : ((p.length : Int) - ((a : Int) + 1)).toNat = p.length - a - 1 := by omega
  have hst : [SV.d (ti p), .d (.int a), .d (.int (p.getD a 0)), .d (.int (p.getD a 0)), .u] = hbSt p a 0 := by
    unfold hbSt
    rw [show a + 1 + 0 = a + 1 from rfl, stch_one ha]
    rfl
  have hg := forG_ret (t := .nm 4) (ms := [4]) (b := hbBody) ((irange ((a : Int) + 1) (p.length - a - 1)).map .int)
    (fun r g => ∃ k : Nat, r = (irange ((a : Int) + 1 + k) (p.length - a - 1 - k)).map .int ∧ k ≤ p.length - a - 1 ∧ hbk p a k = false ∧ g = hbSt p a k)
    (fun v g => v = .d (.bool true) ∧ hbk p a (p.length - a - 1) = true ∧ muOf [.v, .v] g = some []) (hbSt p a 0) ⟨0, by rw [Int.natCast_zero, Int.add_zero]; rfl, Nat.zero_le _, rfl, rfl⟩ (by
      rintro x r g ⟨k, h1, h2, h3, rfl⟩
      have hlt : k < p.length - a - 1 := by
        have := congrArg List.length h1
        rw [List.length_map, irange_len, List.length_cons] at this
        omega
      rw [show p.length - a - 1 - k = (p.length - a - 1 - k - 1) + 1 by omega, irange_succ, List.map_cons] at h1
      injection h1 with hx hr
      subst hx
      obtain ⟨g2, q1, q3, q2⟩ := hb_step p a k (by omega)
      refine ⟨_, g2, setT_nm _ _ _, ?_⟩
      cases hc : (blk p a (a + 2 + k) && decide (k + 2 < p.length)) with
      | true =>
        rw [hc, if_pos rfl] at q2
        refine .inr ⟨_, q2, rfl, ?_, q3⟩
        rw [Bool.and_eq_true, decide_eq_true_eq] at hc
        exact hbk_iff.mpr ⟨k, hlt, hc⟩
      | false =>
        rw [hc, if_neg Bool.false_ne_true] at q2
        refine .inl ⟨q2, k + 1, ?_, by omega, by rw [hbk, h3, hc]; rfl, q1⟩
        rw [hr]
        congr 2)
  unfold φ_has_block m_has_block
  rcases hg with ⟨g', e1, k, h1, h2, h3, h4⟩ | ⟨v, g', e1, rfl, h2, hmu⟩
  · have hk : k = p.length - a - 1 := by
      have := congrArg List.length h1
      rw [List.length_map, irange_len] at this
      simp at this
      omega
    subst hk
    unfold hbSt at h4
    simp! only [h0, hst, List.length_map, s1, s2, e0, e1, h3, h4]
  · simp! only [h0, hst, List.length_map, s1, s2, e0, e1, h2, hmu]
theorem is_simple_of_ok (p : List Int) (hp : p.length ≤ 100) : φ_is_simple_of [ti p] = .ret (.d (.bool (simp4 p))) [] := by
  have s2 : Sm (p.length : Int) := sm_of (by omega) (by omega)
  have hg := forG_ret (t := .nm 1) (ms := [1]) (b := (sIf (dB (rD (callP [.v, .v] φ_has_block (vCons (dName 0) (vCons (dName 1) vNil))))) (sRet (dC (.bool false))) sNx)) ((irange 0 p.length).map .int)
    (fun r g => ∃ i : Nat, r = (irange i (p.length - i)).map .int ∧ i ≤ p.length ∧ (∀ a, a < i → hbk p a (p.length - a - 1) = false) ∧ g = [.d (ti p), .u])
    (fun v g => v = .d (.bool false) ∧ simp4 p = false ∧ muOf [.v] g = some []) [.d (ti p), .u] ⟨0, rfl, Nat.zero_le _, fun a h => absurd h (Nat.not_lt_zero _), rfl⟩ (by
      rintro x r g ⟨i, h1, h2, h3, rfl⟩
      have hlt : i < p.length := by
        have := congrArg List.length h1
        rw [List.length_map, irange_len, List.length_cons] at this
        omega
      rw [show p.length - i = (p.length - i - 1) + 1 by omega, irange_succ, List.map_cons] at h1
      injection h1 with hx hr
      subst hx
      have hh := has_block_ok p i hlt hp
      refine ⟨[.d (ti p), .d (.int i)], [.d (ti p), .d (.int i)], by simp! only [], ?_⟩
      cases hb : hbk p i (p.length - i - 1) with
      | true =>
        rw [hb] at hh
        refine .inr ⟨.d (.bool false), by simp! only [hh], rfl, ?_, by simp! only []⟩
        cases hs : simp4 p with
        | false => rfl
        | true =>
          have := (simp_iff.mp hs).2 i hlt
          rw [hb] at this
          cases this
      | false =>
        rw [hb] at hh
        refine .inl ⟨by simp! only [hh], i + 1, ?_, by omega, fun a h => ?_, by simp! only []⟩
        · rw [hr]
          congr 2
        · by_cases e : a = i
          · subst e
            exact hb
          · exact h3 a (by omega))
  unfold φ_is_simple_of m_is_simple_of
  rcases hg with ⟨g', e1, i, h1, h2, h3, h4⟩ | ⟨v, g', e1, rfl, h2, hmu⟩
  · have hi : i = p.length := by
      have := congrArg List.length h1
      rw [List.length_map, irange_len] at this
      simp at this
      omega
    subst hi
    have e2 : decide ((4 : Int) ≤ (p.length : Int)) = simp4 p := by
      cases hs : simp4 p with
      | true =>
        have := (simp_iff.mp hs).1
        exact decide_eq_true (by omega)
      | false =>
        refine decide_eq_false fun h => ?_
        rw [simp_iff.mpr ⟨by omega, h3⟩] at hs
        cases hs
    simp! only [List.length_map, s2, Int.toNat_natCast, e1, h4, e2]
  · simp! only [List.length_map, s2, Int.toNat_natCast, e1, h2, hmu]
theorem gd_encB (n : Nat) (x : Nat × Nat) : Gd (n + 1) (encB x) := gd_tuple fun y hy => by
  simp only [List.mem_cons, List.not_mem_nil, or_false] at hy
  rcases hy with rfl | rfl
  · exact gd_int _ _
  · exact gd_int _ _
theorem fEq_encB (L : List (Nat × Nat)) : fEq (.list (L.map encB)) (.list []) = some (.bool (decide (L = []))) := by
  rw [fEq_gd (n := 2) (m := 1) (gd_list fun x hx => by obtain ⟨y, _, rfl⟩ := List.mem_map.mp hx; exact gd_encB 0 y) (gd_list (xs := []) fun x hx => absurd hx List.not_mem_nil) (by decide) (by decide)]
  cases L with
  | nil => rfl
  | cons x L => rfl
theorem lis_simple_ok (p : List Int) (ip : IsOrd p) (hp : p.length ≤ 100) : φ__law_is_simple [ti p] = .ret (.d (.bool (simp4 p))) [] := by
  have l3 : p.length * p.length ≤ 100 * 100 := Nat.mul_le_mul hp hp
  have l1 := BL_len p p.length
  have hc := compB_fil (i := 1) (enc := encB) (f := encB) (p := mid p) (mt := (dB (dChain fLt fLt (dv (dC (.int 1))) (dv (op2 fSub (dv (op2 fIx (dName 1) (dv (dC (.int 1))))) (dv (op2 fIx (dName 1) (dv (dC (.int 0))))))) (dv (opN fLen (vCons (dName 0) vNil)))))) (me := dEsc (dName 1)) (g := [.d (ti p), .u]) (BL p p.length) (by omega) rfl fun x hx => by
    obtain ⟨a, b⟩ := x
    obtain ⟨b1, b2, b3, b4⟩ := (BL_mem (Nat.le_refl _)).mp hx
    dsimp only at b1 b2 b3
    have i0 : fIx (encB (a, b)) (.int 0) = some (.int (a : Int)) := fIx_t (i := 0) rfl
    have i1 : fIx (encB (a, b)) (.int 1) = some (.int (b : Int)) := fIx_t (i := 1) rfl
    refine ⟨?_, fun _ => by simp! only []⟩
    have em : mid p (a, b) = (decide ((1 : Int) < (b : Int) - a) && decide ((b : Int) - a < p.length)) := by
      unfold mid
      rw [← Bool.decide_and]
      exact decide_eq_decide.mpr (by dsimp only; omega)
    cases hd : decide ((1 : Int) < (b : Int) - a) with
    | false =>
      rw [hd] at em
      rw [em]
      simp! only [i0, i1, hd, Bool.false_and]
    | true =>
      rw [hd] at em
      rw [em]
      simp! only [List.length_map, i0, i1, hd, Bool.true_and]
  have hq := fEq_encB ((BL p p.length).filter (mid p))
  have e : simp4 p = (decide ((3 : Int) < p.length) && decide ((BL p p.length).filter (mid p) = [])) := by
    unfold simp4
    congr 1
    exact decide_eq_decide.mpr (by omega)
  unfold φ__law_is_simple m__law_is_simple
  cases hd : decide ((3 : Int) < (p.length : Int)) with
  | false =>
    rw [hd] at e
    rw [e]
    simp! only [List.length_map, hd, Bool.false_and]
  | true =>
    rw [hd] at e
    rw [e]
    simp! only [List.length_map, hd, lblocks_ok p ip hp, hc, hq, Bool.true_and]

theorem fNe_i (i j : Int) : fNe (.int i) (.int j) = some (.bool (!decide (i = j))) := by
  rw [fNe_gd (gd_int 0 i) (gd_int 0 j) (by decide) (by decide)]
  show some (PyData.bool (!(i == j))) = _
  by_cases h : i = j <;> simp [h]
theorem fEq_ti (p q : List Int) : fEq (ti p) (ti q) = some (.bool (decide (p = q))) := by
  rw [fEq_gd (gd_ti 0 p) (gd_ti 0 q) (by decide) (by decide)]
  show some (PyData.bool (PyData.eqvAll _ _)) = _
  rw [eqvAll_ints]
theorem by_irange {α : Type} (c : List α) (d : α) : c = (irange 0 c.length).map fun i => c.getD i.toNat d := List.ext_getElem? fun i => by
  by_cases h : i < c.length
  · rw [List.getElem?_map, irange_get _ _ _ h, List.getElem?_eq_getElem h]
    show some _ = some (c.getD ((0 : Int) + i).toNat d)
    rw [show ((0 : Int) + i).toNat = i by omega, List.getD_eq_getElem?_getD, List.getElem?_eq_getElem h]
    rfl
  · rw [List.getElem?_eq_none (by omega), List.getElem?_eq_none (by rw [List.length_map, irange_len]; omega)]
theorem zipD_irange (n : Nat) (f g : Int → D) : zipD ((irange 0 n).map f) ((irange 0 n).map g) = (irange 0 n).map fun i => .tuple [f i, g i] := by
  unfold zipD
  rw [List.zipWith_map, List.zipWith_self]
theorem rows_items (R : List (List Int)) : R.map ti = (irange 0 R.length).map fun i => ti (R.getD i.toNat []) := by
  conv => lhs; rw [by_irange R []]
  rw [List.map_map]
  rfl
theorem ints_items (p : List Int) : p.map PyData.int = (irange 0 p.length).map fun i => .int (p.getD i.toNat 0) := by
  conv => lhs; rw [by_irange p 0]
  rw [List.map_map]
  rfl
theorem check_filled_ok (q : List Int) (iq : IsOrd q) (hq : q.length ≤ 900) (hne : q ≠ []) : φ_check_filled [ti q] = .ret (.d .none) [] := by
  have h1 := fEq_ti q []
  rw [decide_eq_false hne] at h1
  have h1' : fEq (ti q) (.tuple []) = some (.bool false) := h1
  unfold φ_check_filled m_check_filled
  simp! only [h1', is_order_of_ok q iq hq]
def belowL (p : List Int) (R : List (List Int)) (i : Nat) : List D := (irange 0 i).map fun k => .int (lessOf p R k.toNat : Nat)
theorem belowL_succ (p : List Int) (R : List (List Int)) (i : Nat) : belowL p R (i + 1) = belowL p R i ++ [.int (lessOf p R i : Nat)] := by
  unfold belowL
  rw [irange_snoc, List.map_append, List.map_cons, List.map_nil, show ((0 : Int) + (i : Int)).toNat = i by omega]
theorem less_loop_sum (p : List Int) (R : List (List Int)) (i : Nat) : fSum [.list (((irange 0 p.length).filter fun j => decide (p.getD j.toNat 0 < p.getD i 0)).map fun j => PyData.int ((R.getD j.toNat []).length : Nat))] = some (.int (lessOf p R i : Nat)) := by
  have hsum := wsum_eq (fun j => (R.getD j []).length) (fun j => decide (p.getD j 0 < p.getD i 0)) p.length
  have := fSum_i (((irange 0 p.length).filter fun j => decide (p.getD j.toNat 0 < p.getD i 0)).map fun j => (((R.getD j.toNat []).length : Nat) : Int))
  rw [List.map_map, hsum] at this
  exact this
theorem less_comp (p : List Int) (R : List (List Int)) (hl : R.length = p.length) (hn : p.length ≤ 100) (c : Int) (B : List D) : compB [4, 5] (.tup [.nm 4, .nm 5]) (dB (op2 fLt (dName 5) (dName 3))) (opN fLen (vCons (dName 4) vNil)) (zipD (R.map ti) (p.map .int)) [.d (ti p), .a (R.map ti), .own false B, .d (.int c), .u, .u, .u, .u] =
    .ok (((irange 0 p.length).filter fun j => decide (p.getD j.toNat 0 < c)).map fun j => PyData.int ((R.getD j.toNat []).length : Nat)) [.d (ti p), .a (R.map ti), .own false B, .d (.int c), .u, .u, .u, .u] := by
  have e : zipD (R.map ti) (p.map .int) = (irange 0 p.length).map fun i => .tuple [ti (R.getD i.toNat []), .int (p.getD i.toNat 0)] := by
    rw [rows_items R, ints_items p, hl, zipD_irange]
  rw [e]
  exact compB_ok (irange 0 p.length) (sz_le (by rw [irange_len]; omega)) rfl fun j hj => by
    refine ⟨[.d (ti p), .a (R.map ti), .own false B, .d (.int c), .d (ti (R.getD j.toNat [])), .d (.int (p.getD j.toNat 0)), .u, .u], ?_, by simp! only [], fun _ => by simp! only [List.length_map], by simp! only []⟩
    rw [setT_tup, setTs_cons _ _ _ _ _ _ (setT_nm _ _ _), setTs_cons _ _ _ _ _ _ (setT_nm _ _ _), setTs_nil]
    simp! only []
abbrev beBody : M Fl := (sExpr (dMut 2 mAppend (dCons (opN fSum (vCons (dv (dFz (compL [4, 5] (.tup [(.nm 4), (.nm 5)]) (iZip (vCons (dName 1) (vCons (dName 0) vNil))) (dB (op2 fLt (dName 5) (dName 3))) (opN fLen (vCons (dName 4) vNil))))) vNil)) dNil)))
theorem be_loop (p : List Int) (R : List (List Int)) (hl : R.length = p.length) (hn : p.length ≤ 100) : forG (.nm 3) [3] beBody (p.map .int) [.d (ti p), .a (R.map ti), .own false [], .u, .u, .u, .u, .u] = .ok .nx [.d (ti p), .a (R.map ti), .own false (belowL p R p.length), .u, .u, .u, .u, .u] := by
  obtain ⟨g', e1, i, h1, h2, h3⟩ := forG_inv (t := .nm 3) (ms := [3]) (b := beBody) (p.map .int)
    (fun r g => ∃ i : Nat, r = (p.drop i).map .int ∧ i ≤ p.length ∧ g = [.d (ti p), .a (R.map ti), .own false (belowL p R i), .u, .u, .u, .u, .u])
    [.d (ti p), .a (R.map ti), .own false [], .u, .u, .u, .u, .u] ⟨0, rfl, Nat.zero_le _, rfl⟩ (by
      rintro x r g ⟨i, h1, h2, rfl⟩ _
      have hlt : i < p.length := by
        have := congrArg List.length h1
        rw [List.length_map, List.length_drop, List.length_cons] at this
        omega
      have hd : p.drop i = p.getD i 0 :: p.drop (i + 1) := by
        rw [List.drop_eq_getElem_cons hlt, List.getD_eq_getElem?_getD, List.getElem?_eq_getElem hlt]
        rfl
      rw [hd, List.map_cons] at h1
      injection h1 with hx hr
      subst hx
      have hc := less_comp p R hl hn (p.getD i 0) (belowL p R i)
      have hs := less_loop_sum p R i
      have ha := mAppend_ok (belowL p R i) (.int (lessOf p R i : Nat)) (by unfold belowL; rw [List.length_map, irange_len]; exact sz_lt (by omega))
      refine ⟨[.d (ti p), .a (R.map ti), .own false (belowL p R i), .d (.int (p.getD i 0)), .u, .u, .u, .u], [.d (ti p), .a (R.map ti), .own false (belowL p R (i + 1)), .d (.int (p.getD i 0)), .u, .u, .u, .u], by simp! only [], .inl ?_, i + 1, hr, hlt, by simp! only []⟩
      unfold beBody
      simp! only [hc, hs, ha, belowL_succ])
  have hi : i = p.length := by
    have := congrArg List.length h1
    rw [List.length_map, List.length_drop, List.length_nil] at this
    omega
  subst hi
  rw [e1, h3]
  simp! only []
abbrev ptBody : M Fl := (sSetR 6 (op2r fAdd fCat (dName 6) (dv (rD (callP [.v, .v] φ_lifted (vCons (dName 4) (vCons (dName 7) vNil)))))))
theorem pt_loop (p : List Int) (R : List (List Int)) (hl : R.length = p.length) (hn : p.length ≤ 100) (ht : total R p.length ≤ 1000) (a b c d e : SV) : forG (.tup [.nm 4, .nm 7]) [4, 7] ptBody (zipD (R.map ti) (belowL p R p.length)) [a, b, c, d, .u, e, .d (.tuple []), .u] = .ok .nx [a, b, c, d, .u, e, .d (ti (fillL p R p.length)), .u] := by
  have ez : zipD (R.map ti) (belowL p R p.length) = (irange 0 p.length).map fun i => .tuple [ti (R.getD i.toNat []), .int (lessOf p R i.toNat : Nat)] := by
    unfold belowL
    rw [rows_items R, hl, zipD_irange]
  rw [ez]
  obtain ⟨g', e1, i, h1, h2, h3⟩ := forG_inv (t := .tup [.nm 4, .nm 7]) (ms := [4, 7]) (b := ptBody) ((irange 0 p.length).map fun i => .tuple [ti (R.getD i.toNat []), .int (lessOf p R i.toNat : Nat)])
    (fun r g => ∃ i : Nat, r = ((irange i (p.length - i)).map fun i => .tuple [ti (R.getD i.toNat []), .int (lessOf p R i.toNat : Nat)]) ∧ i ≤ p.length ∧ g = [a, b, c, d, .u, e, .d (ti (fillL p R i)), .u])
    [a, b, c, d, .u, e, .d (.tuple []), .u] ⟨0, rfl, Nat.zero_le _, rfl⟩ (by
      rintro x r g ⟨i, h1, h2, rfl⟩ _
      have hlt : i < p.length := by
        have := congrArg List.length h1
        rw [List.length_map, irange_len, List.length_cons] at this
        omega
      rw [show p.length - i = (p.length - i - 1) + 1 by omega, irange_succ, List.map_cons] at h1
      injection h1 with hx hr
      subst hx
      rw [Int.toNat_natCast]
      have t1 : total R (i + 1) ≤ total R p.length := total_mono R hlt
      have t2 := total_succ R i
      have hlf := lifted_ok (R.getD i []) (lessOf p R i : Nat) (by omega)
      have ha := fAdd_tt' ((fillL p R i).map .int) ((sft (lessOf p R i : Nat) (R.getD i [])).map .int) (by rw [List.length_map, List.length_map, fillL_len, sft_len]; omega)
      have e2 : (fillL p R i).map PyData.int ++ (sft (lessOf p R i : Nat) (R.getD i [])).map PyData.int = (fillL p R (i + 1)).map .int := by
        rw [← raised_sft, ← List.map_append]
        rfl
      rw [e2] at ha
      refine ⟨[a, b, c, d, .d (ti (R.getD i [])), e, .d (ti (fillL p R i)), .d (.int (lessOf p R i : Nat))], [a, b, c, d, .d (ti (R.getD i [])), e, .d (ti (fillL p R (i + 1))), .d (.int (lessOf p R i : Nat))], ?_, .inl ?_, i + 1, ?_, hlt, by simp! only []⟩
      · rw [setT_tup, setTs_cons _ _ _ _ _ _ (setT_nm _ _ _), setTs_cons _ _ _ _ _ _ (setT_nm _ _ _), setTs_nil]
        simp! only []
      · unfold ptBody
        simp! only [hlf, ha]
      · rw [hr]
        congr 2)
  have hi : i = p.length := by
    have := congrArg List.length h1
    rw [List.length_map, irange_len, List.length_nil] at this
    omega
  subst hi
  rw [e1, h3]
  simp! only []
theorem together_of_ok (p : List Int) (R : List (List Int)) (hl : R.length = p.length) (hn : p.length ≤ 100) (ht : total R p.length ≤ 1000) : φ_put_together_of [ti p, .list (R.map ti)] = .ret (.d (ti (fillL p R p.length))) [] := by
  have c2 := be_loop p R hl hn
  have c3 := pt_loop p R hl hn (by omega) (.d (ti p)) (.a (R.map ti)) (.d (.list (belowL p R p.length))) .u .u
  unfold φ_put_together_of m_put_together_of
  simp! only [c2, c3]

theorem sh_ti (n : Nat) (p : List Int) (h : p.length ≤ 100000) : Sh (n + 1) (ti p) := .tup (by rw [List.length_map]; exact h) fun x hx => by
  obtain ⟨i, _, rfl⟩ := List.mem_map.mp hx
  exact .int n i
theorem sh_2 {n : Nat} {a b : D} (ha : Sh n a) (hb : Sh n b) : Sh (n + 1) (.list [a, b]) := .lst (by simp) fun x hx => by
  rcases List.mem_cons.mp hx with e | hx
  · rw [e]; exact ha
  · rw [List.mem_singleton.mp hx]; exact hb

abbrev pmBody : M Fl := (dSeq (sSet 3 (opN fMax (vCons (dName 3) (vCons (dName 5) vNil))))
    (sIf (dB (op2 fEq (dName 3) (dv (rD (op2r fAdd fCat (dName 4) (dv (dC (.int 1)))))))) (dSeq (sExpr (dMut 1 mAppend (dCons (rD (callP [.v, .v] φ_lifted (vCons (dv (rD (cutR (dName 0) (oSome (dEsc (dName 2))) (oSome (rD (op2r fAdd fCat (dName 4) (dv (dC (.int 1))))))))) (vCons (dv (op1 fNeg (dName 2))) vNil)))) dNil)))
    (sSetR 2 (op2r fAdd fCat (dName 4) (dv (dC (.int 1)))))) sNx))
theorem parts_of_sum_ok (p : List Int) (ip : IsOrd p) (hp : p.length ≤ 100) : φ_parts_of_sum [ti p] = .ret (.d (.tuple ((Pp p).map ti))) [] := by
  obtain ⟨g', e1, i, b, F, h1, h2, h3, h4, h5, h6, h7, h8⟩ := forG_inv (t := .tup [.nm 4, .nm 5]) (ms := [4, 5]) (b := pmBody) (enumD 0 (p.map .int))
    (fun r g => ∃ (i b : Nat) (F : List (List Int)), r = enumD i ((p.drop i).map .int) ∧ b ≤ i ∧ i ≤ p.length ∧ cut p b = true ∧ (∀ t, b < t → t ≤ i → cut p t = false) ∧ F ++ Pp (sft (-(b : Int)) (p.drop b)) = Pp p ∧ F.length ≤ i ∧
      g = [.d (ti p), .own false (F.map ti), .d (.int (b : Int)), .d (.int (gm p i)), .u, .u])
    [.d (ti p), .own false [], .d (.int 0), .d (.int 0), .u, .u] ⟨0, 0, [], rfl, Nat.le_refl _, Nat.zero_le _, cut_iff.mpr (fun x hx => by rw [List.take_zero] at hx; cases hx), fun t h k => absurd h (by omega), by rw [List.drop_zero, Int.natCast_zero, Int.neg_zero, sft_zero]; rfl, Nat.le_refl _, rfl⟩ (by
      rintro x r g ⟨i, b, F, h1, h2, h3, h4, h5, h6, h7, rfl⟩ _
      have hlt : i < p.length := by
        have := congrArg List.length h1
        rw [enumD_len, List.length_map, List.length_drop, List.length_cons] at this
        omega
      have hd : p.drop i = p.getD i 0 :: p.drop (i + 1) := by
        rw [List.drop_eq_getElem_cons hlt, List.getD_eq_getElem?_getD, List.getElem?_eq_getElem hlt]
        rfl
      rw [hd, List.map_cons, enumD_cons] at h1
      injection h1 with hx hr
      subst hx
      have hg : (if p.getD i 0 > gm p i then p.getD i 0 else gm p i) = gm p (i + 1) := rfl
      refine ⟨[.d (ti p), .own false (F.map ti), .d (.int (b : Int)), .d (.int (gm p i)), .d (.int (i : Int)), .d (.int (p.getD i 0))], ?_⟩
      have hset : setT (.tup [.nm 4, .nm 5]) (.tuple [.int (i : Nat), .int (p.getD i 0)]) [.d (ti p), .own false (F.map ti), .d (.int (b : Int)), .d (.int (gm p i)), .u, .u] = some [.d (ti p), .own false (F.map ti), .d (.int (b : Int)), .d (.int (gm p i)), .d (.int (i : Int)), .d (.int (p.getD i 0))] := by
        rw [setT_tup, setTs_cons _ _ _ _ _ _ (setT_nm _ _ _), setTs_cons _ _ _ _ _ _ (setT_nm _ _ _), setTs_nil]
        simp! only []
      by_cases c : gm p (i + 1) = (i : Int) + 1
      · have hc := (gm_cut ip hlt).mp c
        have hr0 : IsOrd (sft (-(b : Int)) (p.drop b)) := drop_ord ip (by omega) h4
        have hrl : (sft (-(b : Int)) (p.drop b)).length = p.length - b := by rw [sft_len, List.length_drop]
        have hq : cut1 (sft (-(b : Int)) (p.drop b)) = i + 1 - b := cut1_eq hr0 (by omega) (by omega) (by rw [← cut_add ip (by omega) h4, show b + (i + 1 - b) = i + 1 by omega]; exact hc) fun t t1 t2 => by
          rw [← cut_add ip (by omega) h4]
          exact h5 (b + t) (by omega) (by omega)
        have hPp := Pp_cons hr0 (fun z => by rw [z] at hrl; simp at hrl; omega)
        rw [hq] at hPp
        have et : (sft (-(b : Int)) (p.drop b)).take (i + 1 - b) = sft (-(b : Int)) ((p.drop b).take (i + 1 - b)) := by rw [sft, ← List.map_take]; rfl
        have ed : sft (-((i + 1 - b : Nat) : Int)) ((sft (-(b : Int)) (p.drop b)).drop (i + 1 - b)) = sft (-((i + 1 : Nat) : Int)) (p.drop (i + 1)) := by
          have e0 : (sft (-(b : Int)) (p.drop b)).drop (i + 1 - b) = sft (-(b : Int)) ((p.drop b).drop (i + 1 - b)) := by rw [sft, ← List.map_drop]; rfl
          rw [e0, sft_sft, List.drop_drop, show b + (i + 1 - b) = i + 1 by omega]
          congr 1
          omega
        rw [et, ed] at hPp
        have hcut : fCutT (ti p) (some (b : Int)) (some ((i : Int) + 1)) = some (ti ((p.drop b).take (i + 1 - b))) := by
          have := fCutT_mid (p.map .int) b (i + 1) (by omega) (by rw [List.length_map]; omega)
          rw [← List.map_drop, ← List.map_take] at this
          exact this
        have hlift := lifted_ok ((p.drop b).take (i + 1 - b)) (-(b : Int)) (by rw [List.length_take, List.length_drop]; omega)
        have happ := mAppend_ok (F.map ti) (ti (sft (-(b : Int)) ((p.drop b).take (i + 1 - b)))) (by rw [List.length_map]; exact sz_lt (by omega))
        refine ⟨[.d (ti p), .own false ((F ++ [sft (-(b : Int)) ((p.drop b).take (i + 1 - b))]).map ti), .d (.int ((i + 1 : Nat) : Int)), .d (.int (gm p (i + 1))), .d (.int (i : Int)), .d (.int (p.getD i 0))], hset, .inl ?_, i + 1, i + 1, F ++ [sft (-(b : Int)) ((p.drop b).take (i + 1 - b))], hr, Nat.le_refl _, by omega, hc, fun t a k => absurd a (by omega), ?_, by rw [List.length_append, List.length_singleton]; omega, by simp! only []⟩
        · unfold pmBody
          simp! only [hg, c, hcut, hlift, happ, List.map_append, List.map_cons, List.map_nil]
          rfl
        · rw [← h6, hPp, List.append_assoc]
          rfl
      · have hc : cut p (i + 1) = false := eq_false_of_ne_true fun z => c ((gm_cut ip hlt).mpr z)
        refine ⟨[.d (ti p), .own false (F.map ti), .d (.int (b : Int)), .d (.int (gm p (i + 1))), .d (.int (i : Int)), .d (.int (p.getD i 0))], hset, .inl ?_, i + 1, b, F, hr, by omega, by omega, h4, fun t a k => ?_, h6, by omega, by simp! only []⟩
        · unfold pmBody
          simp! only [hg, c]
        · by_cases z : t = i + 1
          · rw [z]
            exact hc
          · exact h5 t a (by omega))
  have hi : i = p.length := by
    have := congrArg List.length h1
    rw [enumD_len, List.length_map, List.length_drop] at this
    simp at this
    omega
  subst hi
  have hb : b = p.length := by
    by_cases z : b < p.length
    · have := h5 p.length z (Nat.le_refl _)
      rw [cut_all ip] at this
      cases this
    · omega
  subst hb
  have hF : F = Pp p := by
    rw [List.drop_length] at h6
    have : sft (-(p.length : Int)) [] = [] := rfl
    rw [this, Pp_nil, List.append_nil] at h6
    exact h6
  subst hF
  unfold φ_parts_of_sum m_parts_of_sum
  simp! only [e1, h8]
theorem parts_of_skew_ok (p : List Int) (ip : IsOrd p) (hp : p.length ≤ 100) : φ_parts_of_skew [ti p] = .ret (.d (.tuple (((Pp (mi p)).map mi).map ti))) [] := by
  have hc := compB_one (i := 3) (enc := PyData.int) (f := fun x => .int ((p.length : Int) + 1 - x)) (me := op2 fSub (dv (rD (op2r fAdd fCat (dName 1) (dv (dC (.int 1)))))) (dName 3)) (g := [.d (ti p), .d (.int p.length), .u, .u, .u]) p (by omega) rfl fun x hx => by simp! only []
  have e : p.map (fun x => PyData.int ((p.length : Int) + 1 - x)) = (mi p).map .int := by simp [mi]
  rw [e] at hc
  have hd := compB_one (i := 4) (enc := ti) (f := fun c => ti (mi c)) (me := opN fTuple (vCons (dv (dFz (compL [3] (.nm 3) (iV (dName 4)) (rt true) (op2 fSub (dv (rD (op2r fAdd fCat (dv (opN fLen (vCons (dName 4) vNil))) (dv (dC (.int 1)))))) (dName 3))))) vNil)) (g := [.d (ti p), .d (.int p.length), .d (ti (mi p)), .u, .u]) (Pp (mi p)) (by have := Pp_count (isOrd_mi ip); rw [mi_len] at this; omega) rfl fun c hcm => by
    have hcl := (Pp_mem (isOrd_mi ip) c hcm).2
    rw [mi_len] at hcl
    have hc' := compB_one (i := 3) (enc := PyData.int) (f := fun x => .int ((c.length : Int) + 1 - x)) (me := op2 fSub (dv (rD (op2r fAdd fCat (dv (opN fLen (vCons (dName 4) vNil))) (dv (dC (.int 1)))))) (dName 3)) (g := [.d (ti p), .d (.int p.length), .d (ti (mi p)), .u, .d (ti c)]) c (by omega) rfl fun x hx => by simp! only [List.length_map]
    have e' : c.map (fun x => PyData.int ((c.length : Int) + 1 - x)) = (mi c).map .int := by simp [mi]
    rw [e'] at hc'
    simp! only [hc']
  have ed : (Pp (mi p)).map (fun c => ti (mi c)) = ((Pp (mi p)).map mi).map ti := by rw [List.map_map]; rfl
  rw [ed] at hd
  unfold φ_parts_of_skew m_parts_of_skew
  simp! only [List.length_map, hc, parts_of_sum_ok (mi p) (isOrd_mi ip) (by rw [mi_len]; exact hp), hd]

/-! ### what is no list -/
def isIntD : D → Bool
  | .int _ => true
  | _ => false
def areIntD : D → Bool
  | .tuple xs => xs.all isIntD
  | _ => false
def noDict : D → Bool
  | .dict _ => false
  | _ => true
theorem is_integer_d (x : D) (h : noDict x = true) : φ_is_integer [x] = .ret (.d (.bool (isIntD x))) [] := by
  cases x with
  | dict _ => cases h
  | int i => exact is_integer_ok i
  | bool b =>
    have e1 : fIs [.int] (.bool b) = some (.bool true) := Eq.trans rfl rfl
    have e2 : fIs [.bool] (.bool b) = some (.bool true) := Eq.trans rfl rfl
    unfold φ_is_integer m_is_integer
    simp! only [e1, e2]
    rfl
  | none =>
    have e1 : fIs [.int] .none = some (.bool false) := Eq.trans rfl rfl
    unfold φ_is_integer m_is_integer
    simp! only [e1]
    rfl
  | str s =>
    have e1 : fIs [.int] (.str s) = some (.bool false) := Eq.trans rfl rfl
    unfold φ_is_integer m_is_integer
    simp! only [e1]
    rfl
  | list s =>
    have e1 : fIs [.int] (.list s) = some (.bool false) := Eq.trans rfl rfl
    unfold φ_is_integer m_is_integer
    simp! only [e1]
    rfl
  | tuple s =>
    have e1 : fIs [.int] (.tuple s) = some (.bool false) := Eq.trans rfl rfl
    unfold φ_is_integer m_is_integer
    simp! only [e1]
    rfl
theorem are_integers_d (x : D) (h : noDict x = true) (h2 : ∀ xs, x = .tuple xs → xs.length ≤ 1000 ∧ ∀ y ∈ xs, noDict y = true) : φ_are_integers [x] = .ret (.d (.bool (areIntD x))) [] := by
  cases x with
  | dict _ => cases h
  | int i =>
    have e1 : fIs [.tuple] (.int i) = some (.bool false) := Eq.trans rfl rfl
    unfold φ_are_integers m_are_integers
    simp! only [e1]
    rfl
  | bool b =>
    have e1 : fIs [.tuple] (.bool b) = some (.bool false) := Eq.trans rfl rfl
    unfold φ_are_integers m_are_integers
    simp! only [e1]
    rfl
  | none =>
    have e1 : fIs [.tuple] .none = some (.bool false) := Eq.trans rfl rfl
    unfold φ_are_integers m_are_integers
    simp! only [e1]
    rfl
  | str s =>
    have e1 : fIs [.tuple] (.str s) = some (.bool false) := Eq.trans rfl rfl
    unfold φ_are_integers m_are_integers
    simp! only [e1]
    rfl
  | list s =>
    unfold φ_are_integers m_are_integers
    simp! only []
    rfl
  | tuple xs =>
    obtain ⟨hl, hn⟩ := h2 xs rfl
    have hc := compB_one (i := 1) (enc := fun y : D => y) (f := fun y => .bool (isIntD y)) (me := rD (callP [.v] φ_is_integer (vCons (dName 1) vNil))) (g := [.d (.tuple xs), .u]) xs (by omega) rfl fun y hy => by
      have := is_integer_d y (hn y hy)
      simp! only [this]
    rw [List.map_id'] at hc
    have e : xs.map (fun y => PyData.bool (isIntD y)) = (xs.map isIntD).map .bool := by rw [List.map_map]; rfl
    rw [e] at hc
    have al := fAll_b (xs.map isIntD)
    rw [List.all_map] at al
    unfold φ_are_integers m_are_integers
    simp! only [hc, al]
    rfl
theorem fSorted_srt (c : List Int) (h : c.length ≤ 900) : fSorted [ti c] = some ((srt c).map .int) := by
  rw [← srt_ints]
  exact fSorted_t _ (okSort_ints c (by omega))
theorem is_order_of_no (p : List Int) (hp : ¬ IsOrd p) (h : p.length ≤ 900) : φ_is_order_of [ti p] = .ret (.d (.bool false)) [] := by
  have h1 := fSorted_srt p h
  have h2 := fEq_li (srt p) (irange 1 p.length)
  rw [decide_eq_false fun e => hp (.of_perm (by
    have := (srt_perm p).symm
    rw [e] at this
    exact this))] at h2
  have s1 : Sm ((p.length : Int) + 1) := sm_of (by omega) (by omega)
  have e0 : ((p.length : Int) + 1 - 1).toNat = p.length := by omega
  unfold φ_is_order_of m_is_order_of
  simp! only [are_integers_ok p (by omega), h1, List.length_map, s1, e0, h2]

theorem Sh.gd {n : Nat} {x : D} (h : Sh n x) : Gd n x := by
  induction h with
  | int n i => exact gd_int n i
  | bool n b => exact gd_bool n b
  | non n => exact gd_none n
  | str n z hz => exact ⟨hz, Nat.zero_le _⟩
  | tup hl _ ih => exact gd_tuple ih
  | lst hl _ ih => exact gd_list ih
theorem Sh.nd {n : Nat} {x : D} (h : Sh n x) : noDict x = true := by cases h <;> rfl
theorem Sh.mono {n m : Nat} {x : D} (h : Sh n x) : n ≤ m → Sh m x := by
  induction h generalizing m with
  | int n i => exact fun _ => .int m i
  | bool n b => exact fun _ => .bool m b
  | non n => exact fun _ => .non m
  | str n z hz => exact fun _ => .str m z hz
  | tup hl _ ih =>
    intro h
    obtain ⟨k, rfl⟩ : ∃ k, m = k + 1 := ⟨m - 1, by omega⟩
    exact .tup hl fun x hx => ih x hx (by omega)
  | lst hl _ ih =>
    intro h
    obtain ⟨k, rfl⟩ : ∃ k, m = k + 1 := ⟨m - 1, by omega⟩
    exact .lst hl fun x hx => ih x hx (by omega)
theorem Sh.tups {n : Nat} {xs : List D} (h : Sh n (.tuple xs)) : ∃ k, n = k + 1 ∧ xs.length ≤ 100000 ∧ ∀ x ∈ xs, Sh k x := by
  cases h with
  | tup hl hx => exact ⟨_, rfl, hl, hx⟩
theorem ints_of : ∀ {xs : List D}, xs.all isIntD = true → ∃ q : List Int, xs = q.map PyData.int ∧ toInts xs = some q
  | [], _ => ⟨[], rfl, rfl⟩
  | .int i :: r, h => by
    rw [List.all_cons, Bool.and_eq_true] at h
    obtain ⟨q, h1, h2⟩ := ints_of h.2
    exact ⟨i :: q, by rw [h1]; rfl, by rw [toInts, h2]; rfl⟩
  | .none :: _, h => by cases h
  | .bool _ :: _, h => by cases h
  | .str _ :: _, h => by cases h
  | .tuple _ :: _, h => by cases h
  | .list _ :: _, h => by cases h
  | .dict _ :: _, h => by cases h
theorem toInts_no : ∀ {xs : List D}, xs.all isIntD = false → toInts xs = none
  | [], h => nomatch h
  | .int i :: r, h => by
    have : r.all isIntD = false := by simpa [isIntD] using h
    rw [toInts, toInts_no this]
    rfl
  | .none :: _, h => rfl
  | .bool _ :: _, h => rfl
  | .str _ :: _, h => rfl
  | .tuple _ :: _, h => rfl
  | .list _ :: _, h => rfl
  | .dict _ :: _, h => rfl
theorem ordB_iff {q : List Int} : ordB q = true ↔ IsOrd q := by
  unfold ordB
  rw [decide_eq_true_eq]
  constructor
  · intro e
    exact .of_perm (by
      have := (srt_perm q).symm
      rw [e] at this
      exact this)
  · intro h
    have h1 : sortD (q.map .int) = (irange 1 q.length).map .int := sortD_ints h.perm ((irange_sorted _ _).imp fun {a b} h => Int.le_of_lt h)
    rw [srt_ints] at h1
    exact map_int_inj h1
/-- is_order_of, of data -/
theorem is_order_of_d (xs : List D) (hl : xs.length ≤ 900) (hn : ∀ y ∈ xs, noDict y = true) : φ_is_order_of [.tuple xs] = .ret (.d (.bool (match toInts xs with | some q => ordB q | none => false))) [] := by
  cases h : xs.all isIntD with
  | true =>
    obtain ⟨q, rfl, h2⟩ := ints_of h
    rw [h2]
    rw [List.length_map] at hl
    by_cases ho : IsOrd q
    · rw [show (match some q with | some q => ordB q | none => false) = true from ordB_iff.mpr ho]
      exact is_order_of_ok q ho hl
    · rw [show (match some q with | some q => ordB q | none => false) = false from Bool.eq_false_iff.mpr fun e => ho (ordB_iff.mp e)]
      exact is_order_of_no q ho hl
  | false =>
    rw [toInts_no h]
    have h1 := are_integers_d (.tuple xs) rfl fun ys e => by cases e; exact ⟨by omega, hn⟩
    rw [show areIntD (.tuple xs) = false from h] at h1
    unfold φ_is_order_of m_is_order_of
    simp! only [h1]
theorem is_order_of_nt (x : D) (hx : noDict x = true) (h : ∀ xs, x ≠ .tuple xs) : φ_is_order_of [x] = .ret (.d (.bool false)) [] := by
  have h1 := are_integers_d x hx fun ys e => absurd e (h ys)
  rw [show areIntD x = false by cases x <;> first | rfl | exact absurd rfl (h _)] at h1
  cases x with
  | list xs =>
    unfold φ_is_order_of m_is_order_of
    simp! only [h1]
  | _ =>
    unfold φ_is_order_of m_is_order_of
    simp! only [h1]

theorem summed_of_ok (p q : List Int) (hp : p.length ≤ 1000) (hq : q.length ≤ 1000) : φ_summed_of [ti p, ti q] = .ret (.d (ti (sm p q))) [] := by
  have ha := fAdd_tt' (p.map .int) ((sft p.length q).map .int) (by rw [List.length_map, List.length_map, sft_len]; omega)
  have e : ti (sm p q) = .tuple (p.map .int ++ (sft p.length q).map .int) := by rw [sm, ti, List.map_append]
  rw [e]
  unfold φ_summed_of m_summed_of
  simp! only [List.length_map, lifted_ok q p.length (by omega), ha]
theorem skew_summed_of_ok (p q : List Int) (hp : p.length ≤ 1000) (hq : q.length ≤ 1000) : φ_skew_summed_of [ti p, ti q] = .ret (.d (ti (sk p q))) [] := by
  have ha := fAdd_tt' ((sft q.length p).map .int) (q.map .int) (by rw [List.length_map, List.length_map, sft_len]; omega)
  have e : ti (sk p q) = .tuple ((sft q.length p).map .int ++ q.map .int) := by rw [sk, ti, List.map_append]
  rw [e]
  unfold φ_skew_summed_of m_skew_summed_of
  simp! only [List.length_map, lifted_ok p q.length (by omega), ha]
theorem str_eq (s z : Str) (h : PyData.canLay0 (.str s) = true) (k : PyData.canLay0 (.str z) = true) : fEq (.str s) (.str z) = some (.bool (s == z)) := by
  have g1 : Gd 0 (.str s) := ⟨h, Nat.zero_le _⟩
  have g2 : Gd 0 (.str z) := ⟨k, Nat.zero_le _⟩
  rw [fEq_gd g1 g2 (by decide) (by decide)]
  rfl
theorem ss_eq : fEq (.str "sum") (.str "sum") = some (.bool true) := str_eq _ _ (by decide +kernel) (by decide +kernel)
theorem ks_eq : fEq (.str "skew") (.str "sum") = some (.bool false) := (str_eq _ _ (by decide +kernel) (by decide +kernel)).trans (congrArg (fun b => some (PyData.bool b)) (by decide +kernel : (("skew" : Str) == ("sum" : Str)) = false))
abbrev jnBody : M Fl := (sSet 2 (dIfE (dB (op2 fEq (dName 0) (dv (dC (.str "sum"))))) (rD (callP [.v, .v] φ_summed_of (vCons (dName 2) (vCons (dName 3) vNil)))) (rD (callP [.v, .v] φ_skew_summed_of (vCons (dName 2) (vCons (dName 3) vNil))))))
theorem jn_up (a : SV) : ∀ (R : List (List Int)) (t : List Int), (R.foldl sm t).length ≤ 1000 → forG (.nm 3) [3] jnBody (R.map ti) [.d (.str "sum"), a, .d (ti t), .u] = .ok .nx [.d (.str "sum"), a, .d (ti (R.foldl sm t)), .u]
  | [], t, _ => by
    rw [List.map_nil, forG]
    simp! only [List.foldl_nil]
  | q :: R, t, h => by
    rw [List.foldl_cons] at h
    have hl := fsm_len R (sm t q)
    rw [sm_len] at hl
    have hs : jnBody [.d (.str "sum"), a, .d (ti t), .d (ti q)] = .ok .nx [.d (.str "sum"), a, .d (ti (sm t q)), .d (ti q)] := by
      unfold jnBody
      simp! only [ss_eq, summed_of_ok t q (by omega) (by omega)]
    have e : setT (.nm 3) (ti q) [.d (.str "sum"), a, .d (ti t), .u] = some [.d (.str "sum"), a, .d (ti t), .d (ti q)] := by simp! only []
    rw [List.map_cons, forG, e]
    dsimp only
    rw [hs]
    dsimp only
    have e2 : fgt [3] [SV.d (.str "sum"), a, .d (ti (sm t q)), .d (ti q)] = [.d (.str "sum"), a, .d (ti (sm t q)), .u] := by simp! only []
    rw [e2, List.foldl_cons]
    exact jn_up a R (sm t q) h
theorem jn_down (a : SV) : ∀ (R : List (List Int)) (t : List Int), (R.foldl sk t).length ≤ 1000 → forG (.nm 3) [3] jnBody (R.map ti) [.d (.str "skew"), a, .d (ti t), .u] = .ok .nx [.d (.str "skew"), a, .d (ti (R.foldl sk t)), .u]
  | [], t, _ => by
    rw [List.map_nil, forG]
    simp! only [List.foldl_nil]
  | q :: R, t, h => by
    rw [List.foldl_cons] at h
    have hl := fsk_len R (sk t q)
    rw [sk_len] at hl
    have hs : jnBody [.d (.str "skew"), a, .d (ti t), .d (ti q)] = .ok .nx [.d (.str "skew"), a, .d (ti (sk t q)), .d (ti q)] := by
      unfold jnBody
      simp! only [ks_eq, skew_summed_of_ok t q (by omega) (by omega)]
    have e : setT (.nm 3) (ti q) [.d (.str "skew"), a, .d (ti t), .u] = some [.d (.str "skew"), a, .d (ti t), .d (ti q)] := by simp! only []
    rw [List.map_cons, forG, e]
    dsimp only
    rw [hs]
    dsimp only
    have e2 : fgt [3] [SV.d (.str "skew"), a, .d (ti (sk t q)), .d (ti q)] = [.d (.str "skew"), a, .d (ti (sk t q)), .u] := by simp! only []
    rw [e2, List.foldl_cons]
    exact jn_down a R (sk t q) h
theorem joined_up (R : List (List Int)) (h : (R.foldl sm []).length ≤ 1000) : φ_joined_of [.str "sum", .list (R.map ti)] = .ret (.d (ti (R.foldl sm []))) [] := by
  have hl := jn_up (.a (R.map ti)) R [] h
  unfold φ_joined_of m_joined_of
  simp! only []
  rw [show SV.d (.tuple []) = SV.d (ti []) from rfl]
  simp! only [hl]
theorem joined_down (R : List (List Int)) (h : (R.foldl sk []).length ≤ 1000) : φ_joined_of [.str "skew", .list (R.map ti)] = .ret (.d (ti (R.foldl sk []))) [] := by
  have hl := jn_down (.a (R.map ti)) R [] h
  unfold φ_joined_of m_joined_of
  simp! only []
  rw [show SV.d (.tuple []) = SV.d (ti []) from rfl]
  simp! only [hl]

def optD : Option (List Int) → D
  | some p => ti p
  | none => .none
def optL : Option (List (List Int)) → D
  | some R => .list (R.map ti)
  | none => .none
theorem mapO_map {f : D → Option (List Int)} : ∀ {ts : List D} {R : List (List Int)}, mapO f ts = some R → ts.map (fun t => optD (f t)) = R.map ti
  | [], R, h => by cases h; rfl
  | x :: xs, R, h => by
    unfold mapO at h
    cases e1 : f x with
    | none => rw [e1] at h; cases h
    | some p =>
      cases e2 : mapO f xs with
      | none => rw [e1, e2] at h; cases h
      | some Q =>
        rw [e1, e2] at h
        cases h
        rw [List.map_cons, List.map_cons, mapO_map e2, e1]
        rfl
theorem gd_optD (o : Option (List Int)) : Gd 1 (optD o) := by
  cases o with
  | none => exact gd_none 1
  | some p => exact gd_ti 0 p
theorem none_in {f : D → Option (List Int)} (ts : List D) : fIn .none (.list (ts.map fun t => optD (f t))) = some (.bool (mapO f ts).isNone) := by
  have h : okIn .none (ts.map fun t => optD (f t)) = true := by
    have := (gd_all (n := 1) (xs := ts.map fun t => optD (f t)) fun x hx => by
      obtain ⟨t, _, rfl⟩ := List.mem_map.mp hx
      exact gd_optD _).1
    unfold okIn
    rw [this]
    rfl
  show (if okIn .none _ then some (PyData.bool (inD .none (ts.map fun t => optD (f t)))) else none) = _
  rw [if_pos h]
  congr 2
  induction ts with
  | nil => rfl
  | cons x xs ih =>
    have ih := ih (by
      have := (gd_all (n := 1) (xs := xs.map fun t => optD (f t)) fun x hx => by
        obtain ⟨t, _, rfl⟩ := List.mem_map.mp hx
        exact gd_optD _).1
      unfold okIn
      rw [this]
      rfl)
    show (PyData.eqv (optD (f x)) .none || inD .none (xs.map fun t => optD (f t))) = _
    rw [ih, show mapO f (x :: xs) = (match f x, mapO f xs with | some p, some R => some (p :: R) | _, _ => none) from rfl]
    cases f x with
    | none => rfl
    | some p =>
      cases mapO f xs with
      | none => rfl
      | some R => rfl
theorem trees_ok {rec : List PyData → Out} {f : D → Option (List Int)} (ts : List D) (hl : ts.length ≤ 900) (h : ∀ t ∈ ts, rec [t] = .ret (.d (optD (f t))) []) : φ_orders_of_trees rec [.tuple ts] = .ret (.d (optL (mapO f ts))) [] := by
  have hc := compB_one (i := 2) (enc := id) (f := fun t => optD (f t)) (me := rD (callP [.v] rec (vCons (dName 2) vNil))) (g := [.d (.tuple ts), .u, .u]) ts (by omega) rfl fun t ht => by simp! only [id_eq, h t ht]
  rw [List.map_id] at hc
  have hi := none_in (f := f) ts
  cases e : mapO f ts with
  | none =>
    rw [e] at hi
    have hi : fIn .none (.list (ts.map fun t => optD (f t))) = some (.bool true) := hi
    unfold φ_orders_of_trees m_orders_of_trees
    simp! only [hc, hi]
    rfl
  | some R =>
    rw [e, mapO_map e] at hi
    rw [mapO_map e] at hc
    have hi : fIn .none (.list (R.map ti)) = some (.bool false) := hi
    unfold φ_orders_of_trees m_orders_of_trees
    simp! only [hc, hi]
    rfl
theorem trees_no {rec : List PyData → Out} (x : D) (hx : noDict x = true) (h : ∀ xs, x ≠ .tuple xs) : φ_orders_of_trees rec [x] = .ret (.d .none) [] := by
  cases x with
  | dict _ => cases hx
  | tuple xs => exact absurd rfl (h xs)
  | list xs =>
    unfold φ_orders_of_trees m_orders_of_trees
    simp! only []
  | int i =>
    have e1 : fIs [.tuple] (.int i) = some (.bool false) := Eq.trans rfl rfl
    unfold φ_orders_of_trees m_orders_of_trees
    simp! only [e1]
  | bool i =>
    have e1 : fIs [.tuple] (.bool i) = some (.bool false) := Eq.trans rfl rfl
    unfold φ_orders_of_trees m_orders_of_trees
    simp! only [e1]
  | none =>
    have e1 : fIs [.tuple] .none = some (.bool false) := Eq.trans rfl rfl
    unfold φ_orders_of_trees m_orders_of_trees
    simp! only [e1]
  | str i =>
    have e1 : fIs [.tuple] (.str i) = some (.bool false) := Eq.trans rfl rfl
    unfold φ_orders_of_trees m_orders_of_trees
    simp! only [e1]
def tagD : D → D
  | .tuple (a :: _) => a
  | _ => .none
/-! ### words -/
def isW : D → Bool
  | .str s => s == "sum" || s == "skew"
  | _ => false
def isS (z : Str) : D → Bool
  | .str s => s == z
  | _ => false
theorem eqv_str (z : Str) (a : D) : PyData.eqv (.str z) a = isS z a := by
  cases a with
  | str s => exact Bool.beq_comm
  | _ => rfl
theorem eqv_str2 (z : Str) (a : D) : PyData.eqv a (.str z) = isS z a := by cases a <;> rfl
theorem okIn_words {a : D} {n : Nat} (h : Gd n a) (hn : n ≤ 60) : okIn a [.str "sum", .str "skew"] = true := by
  unfold okIn
  rw [h.1, decide_eq_true (Nat.le_trans h.2 hn), show PyData.canLayAll0 [.str "sum", .str "skew"] = true by decide +kernel]
  rfl
theorem inD_words (a : D) : inD a [.str "sum", .str "skew"] = isW a := by
  show (PyData.eqv (.str "sum") a || (PyData.eqv (.str "skew") a || false)) = _
  rw [eqv_str, eqv_str]
  cases a <;> simp [isS, isW]
theorem in_wordsT {a : D} {n : Nat} (h : Gd n a) (hn : n ≤ 60) : fIn a (.tuple [.str "sum", .str "skew"]) = some (.bool (isW a)) := by
  show (if okIn a _ then some (PyData.bool (inD a [.str "sum", .str "skew"])) else none) = _
  rw [if_pos (okIn_words h hn), inD_words]
theorem in_wordsL {a : D} {n : Nat} (h : Gd n a) (hn : n ≤ 60) : fIn a (.list [.str "sum", .str "skew"]) = some (.bool (isW a)) := by
  show (if okIn a _ then some (PyData.bool (inD a [.str "sum", .str "skew"])) else none) = _
  rw [if_pos (okIn_words h hn), inD_words]
theorem gd_one : Gd 1 (.tuple [.str "one"]) := ⟨by decide +kernel, by decide +kernel⟩
theorem gd_str (z : Str) (h : PyData.canLay0 (.str z) = true) : Gd 0 (.str z) := ⟨h, Nat.zero_le _⟩
theorem eqv_one (x : D) : PyData.eqv x (.tuple [.str "one"]) = isOne x := by
  cases x with
  | tuple xs =>
    match xs with
    | [] => rfl
    | [y] =>
      show (PyData.eqv y (.str "one") && true) = _
      rw [Bool.and_true, eqv_str2]
      cases y <;> rfl
    | y :: z :: r =>
      show (PyData.eqv y (.str "one") && false) = _
      rw [Bool.and_false]
      cases y <;> rfl
  | _ => rfl
theorem eq_one {n : Nat} {x : D} (h : Gd n x) (hn : n ≤ 60) : fEq x (.tuple [.str "one"]) = some (.bool (isOne x)) := by
  rw [fEq_gd h gd_one (by omega) (by decide), eqv_one]
theorem ne_simple {n : Nat} {a : D} (h : Gd n a) (hn : n ≤ 60) : fNe a (.str "simple") = some (.bool (!isS "simple" a)) := by
  rw [fNe_gd h (gd_str "simple" (by decide +kernel)) (by omega) (by decide), eqv_str2]
theorem eqv_tags (s : Str) : ∀ ts : List D, (∀ t ∈ ts, ∃ z r, t = .tuple (.str z :: r)) → inD (.str s) (ts.map tagD) = ts.any (isTag s)
  | [], _ => rfl
  | t :: ts, h => by
    obtain ⟨z, r, rfl⟩ := h t List.mem_cons_self
    have ih := eqv_tags s ts fun t ht => h t (List.mem_cons_of_mem _ ht)
    show (PyData.eqv (.str z) (.str s) || inD (.str s) (ts.map tagD)) = ((z == s) || ts.any (isTag s))
    rw [ih]
    rfl
theorem gd_head {n : Nat} {x : D} {xs : List D} (h : Gd n (.tuple (x :: xs))) : x.canLay0 = true := by
  have h1 : (x.canLay0 && PyData.canLayAll0 xs) = true := h.1
  exact (Bool.and_eq_true_iff.mp h1).1
theorem tags_lay {n : Nat} : ∀ ts : List D, (∀ t ∈ ts, Gd n t ∧ ∃ z r, t = .tuple (.str z :: r)) → PyData.canLayAll0 (ts.map tagD) = true
  | [], _ => rfl
  | t :: ts, h => by
    obtain ⟨g, z, r, rfl⟩ := h t List.mem_cons_self
    have ih := tags_lay ts fun t ht => h t (List.mem_cons_of_mem _ ht)
    show (PyData.canLay0 (.str z) && PyData.canLayAll0 (ts.map tagD)) = true
    rw [ih, gd_head g]
    rfl
theorem tags_in {n : Nat} {s : Str} (hs : PyData.canLay0 (.str s) = true) {ts : List D} (h : ∀ t ∈ ts, Gd n t ∧ ∃ z r, t = .tuple (.str z :: r)) : fIn (.str s) (.list (ts.map tagD)) = some (.bool (ts.any (isTag s))) := by
  have e : okIn (.str s) (ts.map tagD) = true := by
    unfold okIn
    rw [hs, tags_lay ts h]
    rfl
  show (if okIn (.str s) (ts.map tagD) then some (PyData.bool (inD (.str s) (ts.map tagD))) else none) = _
  rw [if_pos e, eqv_tags s ts fun t ht => (h t ht).2]
/-! ### a tree has a word -/
theorem ordT_tag : ∀ {n : Nat} {t : D} {p : List Int}, ordT n t = some p → ∃ z r, t = .tuple (.str z :: r)
  | 0, t, p, h => nomatch h
  | n + 1, t, p, h => by
    unfold ordT at h
    split at h
    · rename_i h1
      unfold isOne at h1
      split at h1
      · exact ⟨_, _, rfl⟩
      · cases h1
    · split at h
      · rename_i xs _
        split at h
        · cases h
        · split at h
          · rename_i ts hl
            split at h
            · rename_i R hR
              unfold finT at h
              split at h
              · rename_i s hd
                match xs, hd with
                | [], hd => cases hd
                | [y], hd => cases hd
                | y :: z :: r, hd =>
                  have : (y :: z :: r).dropLast = y :: (z :: r).dropLast := rfl
                  rw [this] at hd
                  injection hd with e1 e2
                  exact ⟨s, z :: r, by rw [e1]⟩
              · rename_i s qs hd
                match xs, hd with
                | [], hd => cases hd
                | [y], hd => cases hd
                | y :: z :: r, hd =>
                  have : (y :: z :: r).dropLast = y :: (z :: r).dropLast := rfl
                  rw [this] at hd
                  injection hd with e1 e2
                  exact ⟨s, z :: r, by rw [e1]⟩
              · cases h
            · cases h
          · cases h
      · cases h

theorem total_cons (p : List Int) (R : List (List Int)) : ∀ k, total (p :: R) (k + 1) = p.length + total R k
  | 0 => by
    rw [total_step]
    show 0 + p.length = p.length + 0
    omega
  | k + 1 => by
    rw [total_step, total_cons p R k, total_step]
    show p.length + total R k + (R.getD k []).length = _
    omega
theorem mapO_tot {f : D → Option (List Int)} : ∀ {ts : List D} {R : List (List Int)}, mapO f ts = some R → (∀ t ∈ ts, ∀ p, f t = some p → p.length ≤ sz t) → total R R.length ≤ szs ts
  | [], R, h, _ => by cases h; exact Nat.le_refl _
  | x :: xs, R, h, k => by
    unfold mapO at h
    cases e1 : f x with
    | none => rw [e1] at h; cases h
    | some p =>
      cases e2 : mapO f xs with
      | none => rw [e1, e2] at h; cases h
      | some Q =>
        rw [e1, e2] at h
        cases h
        have ih := mapO_tot e2 fun t ht => k t (List.mem_cons_of_mem _ ht)
        have := k x List.mem_cons_self p e1
        rw [List.length_cons, total_cons, szs]
        omega
theorem foldsm_len (R : List (List Int)) : (R.foldl sm []).length = total R R.length := by rw [← fill_sm, fillL_len]
theorem foldsk_len (R : List (List Int)) : (R.foldl sk []).length = total R R.length := by rw [← fill_sk, fillL_len]
theorem finT_len {pre ts : List D} {R : List (List Int)} {p : List Int} (h : finT pre ts R = some p) : p.length = total R R.length := by
  unfold finT at h
  split at h
  · split at h
    · split at h
      · cases h
      · cases h
        split
        · exact foldsm_len R
        · exact foldsk_len R
    · cases h
  · split at h
    · split at h
      · split at h
        · cases h
          exact fillL_len _ _ _
        · cases h
      · cases h
    · cases h
  · cases h
theorem last_sz {xs : List D} {l : D} (h : xs.getLast? = some l) : sz l ≤ szs xs := sz_mem (List.mem_of_getLast? h)
theorem ordT_len : ∀ {n : Nat} {x : D} {p : List Int}, ordT n x = some p → p.length ≤ sz x
  | 0, x, p, h => nomatch h
  | n + 1, x, p, h => by
    unfold ordT at h
    split at h
    · cases h
      exact sz_pos x
    · split at h
      · rename_i xs _
        split at h
        · cases h
        · split at h
          · rename_i ts hl
            split at h
            · rename_i R hR
              have h1 := mapO_tot hR fun t _ p hp => ordT_len hp
              rw [finT_len h]
              have h2 := last_sz hl
              unfold sz at h2 ⊢
              omega
            · cases h
          · cases h
      · cases h
theorem finT_1 (s : Str) (ts : List D) (R : List (List Int)) : finT [.str s] ts R = if (s = "sum" ∨ s = "skew") ∧ 1 < R.length then (if ts.any (isTag s) then none else some (R.foldl (if s = "sum" then sm else sk) [])) else none := Eq.trans rfl rfl
theorem finT_2 (s : Str) (qs ts : List D) (R : List (List Int)) : finT [.str s, .tuple qs] ts R = if s = "simple" then (match toInts qs with
    | some q => if ordB q = true ∧ q.length = R.length ∧ simp4 q = true then some (fillL q R R.length) else none
    | none => none) else none := Eq.trans rfl rfl
theorem nc2 : ((2 : Nat) : Int) = 2 := rfl
theorem nc3 : ((3 : Nat) : Int) = 3 := rfl
theorem sss : (if ("sum" : Str) = "sum" then sm else sk) = sm := if_pos rfl
theorem kkk : (if ("skew" : Str) = "sum" then sm else sk) = sk := if_neg (by decide +kernel)
/-! ### what order_of_tree tells -/
theorem fLen_2 (a b : D) : fLen [.tuple [a, b]] = some (.int 2) := Eq.trans rfl rfl
abbrev eTags : M D := (op2 fIn (dv (op2 fIx (dName 0) (dv (dC (.int 0))))) (dv (dFz (compL [2] (.nm 2) (iV (dv (op2 fIx (dName 0) (dv (dC (.int 1)))))) (rt true) (op2 fIx (dName 2) (dv (dC (.int 0))))))))
theorem tags_comp {n : Nat} (s : D) (ts : List D) (c : SV) (hl : ts.length ≤ 900) (h : ∀ t ∈ ts, ∃ z r, t = .tuple (.str z :: r)) : compB [2] (.nm 2) (rt true) (op2 fIx (dName 2) (dv (dC (.int 0)))) ts [.d s, c, .u] = .ok (ts.map tagD) [.d s, c, .u] := by
  by_cases hc : noOwn [SV.d s, c, .u] [2] = true
  · have hc' := compB_one (i := 2) (enc := id) (f := tagD) (me := op2 fIx (dName 2) (dv (dC (.int 0)))) (g := [.d s, c, .u]) ts (by omega) hc fun t ht => by
      obtain ⟨z, r, rfl⟩ := h t ht
      have h1 : fIx (.tuple (.str z :: r)) (.int 0) = some (.str z) := fIx_t (i := 0) (by rfl)
      simp! only [id_eq, h1]
      rfl
    rw [List.map_id] at hc'
    exact hc'
  · exact absurd rfl hc
theorem order_word {rec : List PyData → Out} {n : Nat} {s : Str} (hs : s = "sum" ∨ s = "skew") {ts : List D} {f : D → Option (List Int)} {R : List (List Int)} (hl : ts.length ≤ 900) (hg : ∀ t ∈ ts, Gd n t) (hn : n ≤ 50) (ht : ∀ t ∈ ts, ∀ p, f t = some p → ∃ z r, t = .tuple (.str z :: r))
    (hr : ∀ t ∈ ts, rec [t] = .ret (.d (optD (f t))) []) (e : mapO f ts = some R) (hR : total R R.length ≤ 900) : runF 3 [.v] (m_order_of_tree rec) [.tuple [.str s, .tuple ts]] = .ret (.d (optD (finT [.str s] ts R))) [] := by
  have cs : PyData.canLay0 (.str s) = true := by rcases hs with rfl | rfl <;> decide +kernel
  have gs : Gd 0 (.str s) := gd_str s cs
  have h0 : fEq (.tuple [.str s, .tuple ts]) (.tuple [.str "one"]) = some (.bool false) := eq_one (n := n + 2) (gd_tuple fun x hx => by
    rcases List.mem_cons.mp hx with rfl | hx
    · exact gs.mono (by omega)
    · rw [List.mem_singleton.mp hx]
      exact gd_tuple hg) (by omega)
  have h1 := trees_ok (f := f) ts hl hr
  rw [e] at h1
  have h1 : φ_orders_of_trees rec [.tuple ts] = .ret (.d (.list (R.map ti))) [] := h1
  have h2 : fIx (.tuple [.str s, .tuple ts]) (.int (-1)) = some (.tuple ts) := fIx_last (xs := [.str s])
  have h3 : fIx (.tuple [.str s, .tuple ts]) (.int 0) = some (.str s) := fIx_t (i := 0) rfl
  have h4 : fIx (.tuple [.str s, .tuple ts]) (.int 1) = some (.tuple ts) := fIx_t (i := 1) rfl
  have h5 := in_wordsT gs (by omega)
  rw [show isW (.str s) = true by rcases hs with rfl | rfl <;> decide +kernel] at h5
  have h6 : fIsN (.list (R.map ti)) .none = some (.bool false) := Eq.trans rfl rfl
  have n3 : fNe (.int 2) (.int 3) = some (.bool true) := Eq.trans rfl rfl
  by_cases h7 : 1 < R.length
  · have h7' : (1 : Int) < R.length := by omega
    have htg : ∀ t ∈ ts, ∃ z r, t = .tuple (.str z :: r) := fun t htt => by
      obtain ⟨p, _, hp⟩ := (mapO_some e).2 t htt
      exact ht t htt p hp
    have hc := tags_comp (n := n) (.tuple [.str s, .tuple ts]) ts (.d (.list (R.map ti))) hl htg
    have hi := tags_in (n := n) cs (ts := ts) fun t htt => ⟨hg t htt, htg t htt⟩
    cases hb : ts.any (isTag s) with
    | true =>
      rw [hb] at hi
      rw [show finT [.str s] ts R = none by rw [finT_1, if_pos ⟨hs, h7⟩, hb]; rfl]
      unfold m_order_of_tree
      simp! only [nc2, h0, h1, h2, h3, h4, h5, h6, List.length_map, gt_iff_lt, h7', hc, hi]
      rfl
    | false =>
      rw [hb] at hi
      rw [show finT [.str s] ts R = some (R.foldl (if s = "sum" then sm else sk) []) by rw [finT_1, if_pos ⟨hs, h7⟩, hb]; rfl]
      rcases hs with rfl | rfl
      · have hj := joined_up R (by rw [foldsm_len]; omega)
        unfold m_order_of_tree
        simp! only [nc2, h0, h1, h2, h3, h4, h5, h6, List.length_map, gt_iff_lt, h7', hc, hi, hj, sss, kkk]
        rfl
      · have hj := joined_down R (by rw [foldsk_len]; omega)
        unfold m_order_of_tree
        simp! only [nc2, h0, h1, h2, h3, h4, h5, h6, List.length_map, gt_iff_lt, h7', hc, hi, hj, sss, kkk]
        rfl
  · have h7' : ¬ (1 : Int) < R.length := by omega
    rw [show finT [.str s] ts R = none by rw [finT_1, if_neg fun z => h7 z.2]]
    unfold m_order_of_tree
    simp! only [nc2, h0, h1, h2, h3, h4, h5, h6, List.length_map, gt_iff_lt, h7', n3]
    rfl

theorem one_3 (a b : D) (r : List D) : isOne (.tuple (a :: b :: r)) = false := by cases a <;> rfl
theorem isS_eq {a : D} {z : Str} (h : isS z a = true) : a = .str z := by
  cases a with
  | str s => exact congrArg PyData.str (beq_iff_eq.mp h)
  | _ => cases h
theorem finT_no {a b : D} {ts : List D} {R : List (List Int)} (h : isS "simple" a = false) : finT [a, b] ts R = none := by
  cases a with
  | str s =>
    have h1 : ¬ s = "simple" := fun e => by
      subst e
      rw [show isS "simple" (.str "simple") = true by decide +kernel] at h
      cases h
    cases b with
    | tuple qs => rw [finT_2, if_neg h1]
    | _ => rfl
  | _ => cases b <;> rfl
theorem order_three {rec : List PyData → Out} {n : Nat} {a b : D} {ts : List D} {f : D → Option (List Int)} {R : List (List Int)} (hl : ts.length ≤ 900) (hg : Gd n (.tuple [a, b, .tuple ts])) (hn : n ≤ 50) (ga : Gd n a) (nb : noDict b = true) (hb : ∀ xs, b = .tuple xs → xs.length ≤ 900 ∧ ∀ y ∈ xs, noDict y = true)
    (hr : ∀ t ∈ ts, rec [t] = .ret (.d (optD (f t))) []) (e : mapO f ts = some R) (hR : total R R.length ≤ 900) (hR2 : R.length ≤ 100) : runF 3 [.v] (m_order_of_tree rec) [.tuple [a, b, .tuple ts]] = .ret (.d (optD (finT [a, b] ts R))) [] := by
  have h0 : fEq (.tuple [a, b, .tuple ts]) (.tuple [.str "one"]) = some (.bool false) := (eq_one hg (by omega)).trans (by rw [one_3])
  have h1 := trees_ok (f := f) ts hl hr
  rw [e] at h1
  have h1 : φ_orders_of_trees rec [.tuple ts] = .ret (.d (.list (R.map ti))) [] := h1
  have h2 : fIx (.tuple [a, b, .tuple ts]) (.int (-1)) = some (.tuple ts) := fIx_last (xs := [a, b])
  have h3 : fIx (.tuple [a, b, .tuple ts]) (.int 0) = some a := fIx_t (i := 0) rfl
  have h4 : fIx (.tuple [a, b, .tuple ts]) (.int 1) = some b := fIx_t (i := 1) rfl
  have h6 : fIsN (.list (R.map ti)) .none = some (.bool false) := Eq.trans rfl rfl
  have n3 : fNe (.int 3) (.int 3) = some (.bool false) := Eq.trans rfl rfl
  have h5 := ne_simple ga (by omega)
  cases ha : isS "simple" a with
  | false =>
    rw [ha] at h5
    have h5 : fNe a (.str "simple") = some (.bool true) := h5
    rw [finT_no ha]
    unfold m_order_of_tree
    simp! only [nc2, nc3, h0, h1, h2, h3, h4, h5, h6, n3, List.length_map]
    rfl
  | true =>
    rw [ha] at h5
    have h5 : fNe a (.str "simple") = some (.bool false) := h5
    obtain rfl := isS_eq ha
    have nope : φ_is_order_of [b] = .ret (.d (.bool false)) [] → finT [.str "simple", b] ts R = none → runF 3 [.v] (m_order_of_tree rec) [.tuple [.str "simple", b, .tuple ts]] = .ret (.d (optD (finT [.str "simple", b] ts R))) [] := fun h7 h8 => by
      rw [h8]
      unfold m_order_of_tree
      simp! only [nc2, nc3, h0, h1, h2, h3, h4, h5, h6, n3, h7, List.length_map]
      rfl
    by_cases hbt : ∃ xs, b = .tuple xs
    · obtain ⟨xs, rfl⟩ := hbt
      obtain ⟨b1, b2⟩ := hb xs rfl
      have h7 := is_order_of_d xs b1 b2
      cases hq : toInts xs with
      | none =>
        rw [hq] at h7
        exact nope h7 (by rw [finT_2, if_pos rfl, hq])
      | some q =>
        rw [hq] at h7
        have exs : xs = q.map PyData.int := toInts_ok hq
        subst exs
        cases ho : ordB q with
        | false =>
          have h7 : φ_is_order_of [ti q] = .ret (.d (.bool false)) [] := by rw [h7]; dsimp only; rw [ho]
          exact nope h7 (by rw [finT_2, if_pos rfl, hq]; dsimp only; rw [ho]; rfl)
        | true =>
          have h7 : φ_is_order_of [ti q] = .ret (.d (.bool true)) [] := by rw [h7]; dsimp only; rw [ho]
          have h8 := fNe_i (q.length : Int) (R.length : Int)
          by_cases hlq : q.length = R.length
          · rw [decide_eq_true (by omega)] at h8
            have h9 := is_simple_of_ok q (by omega)
            cases hs : simp4 q with
            | true =>
              rw [hs] at h9
              have h10 := together_of_ok q R hlq.symm (by omega) (by rw [hlq]; omega)
              rw [show finT [.str "simple", ti q] ts R = some (fillL q R R.length) by rw [finT_2, if_pos rfl, hq]; dsimp only; rw [if_pos ⟨ho, hlq, hs⟩]]
              rw [hlq] at h10
              unfold m_order_of_tree
              simp! only [nc2, nc3, h0, h1, h2, h3, h4, h5, h6, n3, h7, h8, h9, h10, List.length_map]
              rfl
            | false =>
              rw [hs] at h9
              rw [show finT [.str "simple", ti q] ts R = none by rw [finT_2, if_pos rfl, hq]; dsimp only; rw [if_neg (fun z => by rw [hs] at z; exact absurd z.2.2 Bool.false_ne_true)]]
              unfold m_order_of_tree
              simp! only [nc2, nc3, h0, h1, h2, h3, h4, h5, h6, n3, h7, h8, h9, List.length_map]
              rfl
          · rw [decide_eq_false (by omega)] at h8
            rw [show finT [.str "simple", ti q] ts R = none by rw [finT_2, if_pos rfl, hq]; dsimp only; rw [if_neg (fun z => hlq z.2.1)]]
            unfold m_order_of_tree
            simp! only [nc2, nc3, h0, h1, h2, h3, h4, h5, h6, n3, h7, h8, List.length_map]
            rfl
    · have hb2 : ∀ xs, b ≠ .tuple xs := fun xs z => hbt ⟨xs, z⟩
      refine nope (is_order_of_nt b nb hb2) ?_
      cases b <;> first | rfl | exact absurd rfl (hb2 _)

theorem ordT_tup (n : Nat) (xs : List D) : ordT (n + 1) (.tuple xs) = if isOne (.tuple xs) = true then some [1] else if xs.length < 2 then none else match xs.getLast? with
      | some (.tuple ts) => (match mapO (ordT n) ts with
        | some R => finT xs.dropLast ts R
        | none => none)
      | _ => none := Eq.trans rfl rfl
theorem order_kids_no {rec : List PyData → Out} {n : Nat} {pre : List D} {l : D} (hg : Gd n (.tuple (pre ++ [l]))) (hn : n ≤ 50) (h1 : isOne (.tuple (pre ++ [l])) = false) (h2 : 2 ≤ (pre ++ [l]).length) (h3 : φ_orders_of_trees rec [l] = .ret (.d .none) []) :
    runF 3 [.v] (m_order_of_tree rec) [.tuple (pre ++ [l])] = .ret (.d .none) [] := by
  have h0 := eq_one hg (by omega)
  rw [h1] at h0
  have e2 : fIx (.tuple (pre ++ [l])) (.int (-1)) = some l := fIx_last
  have h5 : fIsN .none .none = some (.bool true) := Eq.trans rfl rfl
  generalize pre ++ [l] = xs at *
  have h6 : ¬ (xs.length : Int) < 2 := by omega
  unfold m_order_of_tree
  simp! only [h0, e2, h3, h5, h6]
theorem order_long {rec : List PyData → Out} {n : Nat} {pre : List D} {ts : List D} {f : D → Option (List Int)} {R : List (List Int)} (hg : Gd n (.tuple (pre ++ [PyData.tuple ts]))) (hn : n ≤ 50) (h1 : isOne (.tuple (pre ++ [PyData.tuple ts])) = false) (h2 : 4 ≤ (pre ++ [PyData.tuple ts]).length) (hz : (pre ++ [PyData.tuple ts]).length ≤ 900) (hl : ts.length ≤ 900)
    (hr : ∀ t ∈ ts, rec [t] = .ret (.d (optD (f t))) []) (e : mapO f ts = some R) : runF 3 [.v] (m_order_of_tree rec) [.tuple (pre ++ [PyData.tuple ts])] = .ret (.d .none) [] := by
  have h0 := eq_one hg (by omega)
  rw [h1] at h0
  have e2 : fIx (.tuple (pre ++ [PyData.tuple ts])) (.int (-1)) = some (.tuple ts) := fIx_last
  have h3 := trees_ok (f := f) ts hl hr
  rw [e] at h3
  have h3 : φ_orders_of_trees rec [.tuple ts] = .ret (.d (.list (R.map ti))) [] := h3
  have h5 : fIsN (.list (R.map ti)) .none = some (.bool false) := Eq.trans rfl rfl
  generalize pre ++ [PyData.tuple ts] = xs at *
  have h6 : ¬ (xs.length : Int) < 2 := by omega
  have h7 : ¬ (xs.length : Int) = 2 := by omega
  have h8 := fNe_i (xs.length : Int) 3
  rw [decide_eq_false (by omega)] at h8
  unfold m_order_of_tree
  simp! only [h0, e2, h3, h5, h6, h7, h8]
theorem order_two_no {rec : List PyData → Out} {n : Nat} {a : D} {ts : List D} {f : D → Option (List Int)} {R : List (List Int)} (hg : Gd n (.tuple [a, .tuple ts])) (ga : Gd n a) (hn : n ≤ 50) (hl : ts.length ≤ 900) (hw : isW a = false)
    (hr : ∀ t ∈ ts, rec [t] = .ret (.d (optD (f t))) []) (e : mapO f ts = some R) : runF 3 [.v] (m_order_of_tree rec) [.tuple [a, .tuple ts]] = .ret (.d .none) [] := by
  have h0 : fEq (.tuple [a, .tuple ts]) (.tuple [.str "one"]) = some (.bool false) := (eq_one hg (by omega)).trans (by rw [one_3])
  have h1 := trees_ok (f := f) ts hl hr
  rw [e] at h1
  have h1 : φ_orders_of_trees rec [.tuple ts] = .ret (.d (.list (R.map ti))) [] := h1
  have h2 : fIx (.tuple [a, .tuple ts]) (.int (-1)) = some (.tuple ts) := fIx_last (xs := [a])
  have h3 : fIx (.tuple [a, .tuple ts]) (.int 0) = some a := fIx_t (i := 0) rfl
  have h5 := in_wordsT ga (by omega)
  rw [hw] at h5
  have h6 : fIsN (.list (R.map ti)) .none = some (.bool false) := Eq.trans rfl rfl
  have n3 : fNe (.int 2) (.int 3) = some (.bool true) := Eq.trans rfl rfl
  unfold m_order_of_tree
  simp! only [nc2, h0, h1, h2, h3, h5, h6, List.length_map, n3]
theorem order_atom {rec : List PyData → Out} {n : Nat} {x : D} (hg : Gd n x) (hn : n ≤ 50) (nd : noDict x = true) (h : ∀ xs, x ≠ .tuple xs) : runF 3 [.v] (m_order_of_tree rec) [x] = .ret (.d .none) [] := by
  have h0 := eq_one hg (by omega)
  cases x with
  | tuple xs => exact absurd rfl (h xs)
  | dict _ => cases nd
  | list xs =>
    have h0 : fEq (.list xs) (.tuple [.str "one"]) = some (.bool false) := h0
    unfold m_order_of_tree
    simp! only [h0]
  | int i =>
    have h0 : fEq (.int i) (.tuple [.str "one"]) = some (.bool false) := h0
    have e1 : fIs [.tuple] (.int i) = some (.bool false) := Eq.trans rfl rfl
    unfold m_order_of_tree
    simp! only [h0, e1]
  | bool i =>
    have h0 : fEq (.bool i) (.tuple [.str "one"]) = some (.bool false) := h0
    have e1 : fIs [.tuple] (.bool i) = some (.bool false) := Eq.trans rfl rfl
    unfold m_order_of_tree
    simp! only [h0, e1]
  | none =>
    have h0 : fEq .none (.tuple [.str "one"]) = some (.bool false) := h0
    have e1 : fIs [.tuple] .none = some (.bool false) := Eq.trans rfl rfl
    unfold m_order_of_tree
    simp! only [h0, e1]
  | str i =>
    have h0 : fEq (.str i) (.tuple [.str "one"]) = some (.bool false) := h0
    have e1 : fIs [.tuple] (.str i) = some (.bool false) := Eq.trans rfl rfl
    unfold m_order_of_tree
    simp! only [h0, e1]
theorem finT_noW {a : D} {ts : List D} {R : List (List Int)} (h : isW a = false) : finT [a] ts R = none := by
  cases a with
  | str s =>
    rw [finT_1, if_neg]
    rintro ⟨h1, _⟩
    rcases h1 with rfl | rfl
    · rw [show isW (.str "sum") = true by decide +kernel] at h; cases h
    · rw [show isW (.str "skew") = true by decide +kernel] at h; cases h
  | _ => rfl
theorem isW_eq {a : D} (h : isW a = true) : ∃ s : Str, (s = "sum" ∨ s = "skew") ∧ a = .str s := by
  cases a with
  | str s =>
    unfold isW at h
    rw [Bool.or_eq_true, beq_iff_eq, beq_iff_eq] at h
    exact ⟨s, h, rfl⟩
  | _ => cases h
theorem finT_long {a b c : D} {r ts : List D} {R : List (List Int)} : finT (a :: b :: c :: r) ts R = none := by
  cases a <;> cases b <;> rfl
theorem order_ok : ∀ (n d : Nat) (x : D), Sh d x → d < 2 * n → d ≤ 40 → sz x ≤ 100 → φ_order_of_tree n [x] = .ret (.d (optD (ordT n x))) []
  | 0, d, x, _, h, _, _ => absurd h (by omega)
  | n + 1, d, x, hx, hd, h40, hs => by
    show runF 3 [.v] (m_order_of_tree (φ_order_of_tree n)) [x] = _
    by_cases ht : ¬ ∃ xs, x = .tuple xs
    · have hn : ∀ xs, x ≠ .tuple xs := fun xs z => ht ⟨xs, z⟩
      have e : ordT (n + 1) x = none := by cases x <;> first | rfl | exact absurd rfl (hn _)
      rw [e]
      exact order_atom hx.gd (by omega) hx.nd hn
    obtain ⟨xs, rfl⟩ := Classical.not_not.mp ht
    have hg := hx.gd
    obtain ⟨k, rfl, hl, hk⟩ := hx.tups
    rw [ordT_tup]
    unfold sz at hs
    have hlen := szs_len xs
    rcases List.eq_nil_or_concat xs with rfl | ⟨pre, l, rfl⟩
    · have h0 := eq_one hg (by omega)
      rw [show isOne (.tuple []) = false from rfl] at h0
      rw [show isOne (.tuple []) = false from rfl]
      unfold m_order_of_tree
      simp! only [h0]
      rfl
    cases h1 : isOne (.tuple (pre.concat l)) with
    | true =>
      have h0 := eq_one hg (by omega)
      rw [h1] at h0
      rw [if_pos rfl]
      unfold m_order_of_tree
      simp! only [h0]
      rfl
    | false =>
      rw [if_neg Bool.false_ne_true]
      rw [List.concat_eq_append] at *
      by_cases h2 : (pre ++ [l]).length < 2
      · rw [if_pos h2]
        have h0 := eq_one hg (by omega)
        rw [h1] at h0
        have h2' : ((pre ++ [l]).length : Int) < 2 := by omega
        generalize pre ++ [l] = ys at *
        unfold m_order_of_tree
        simp! only [h0, h2']
        rfl
      rw [if_neg h2, List.getLast?_concat, List.dropLast_concat]
      have hll : Sh k l := hk l (List.mem_append_right _ List.mem_cons_self)
      have hsl : sz l ≤ szs (pre ++ [l]) := sz_mem (List.mem_append_right _ List.mem_cons_self)
      by_cases htl : ¬ ∃ ts, l = .tuple ts
      · have hn : ∀ xs, l ≠ .tuple xs := fun xs z => htl ⟨xs, z⟩
        cases l with
        | tuple ts => exact absurd rfl (hn ts)
        | _ => exact order_kids_no hg (by omega) h1 (by omega) (trees_no _ hll.nd hn)
      obtain ⟨ts, rfl⟩ := Classical.not_not.mp htl
      obtain ⟨j, rfl, hjl, hj⟩ := hll.tups
      unfold sz at hsl
      have htl2 := szs_len ts
      have ih : ∀ t ∈ ts, φ_order_of_tree n [t] = .ret (.d (optD (ordT n t))) [] := fun t htt => order_ok n j t (hj t htt) (by omega) (by omega) (by have := sz_mem htt; omega)
      dsimp only
      cases e : mapO (ordT n) ts with
      | none =>
        dsimp only
        have h3 := trees_ok (f := ordT n) ts (by omega) ih
        rw [e] at h3
        exact order_kids_no hg (by omega) h1 (by omega) h3
      | some R =>
        dsimp only
        have hR := mapO_tot e fun t _ p hp => ordT_len hp
        have hR2 := (mapO_some e).1
        match pre, hg, hk, h1, h2 with
        | [], _, _, _, h2 => exact absurd (by simp) h2
        | [a], hg, hk, h1, h2 =>
          cases hw : isW a with
          | false =>
            rw [finT_noW hw]
            exact order_two_no hg ((hk a List.mem_cons_self).gd.mono (by omega)) (by omega) (by omega) hw ih e
          | true =>
            obtain ⟨s, hs1, rfl⟩ := isW_eq hw
            exact order_word (n := j) hs1 (by omega) (fun t htt => (hj t htt).gd) (by omega) (fun t htt p hp => ordT_tag hp) ih e (by omega)
        | [a, b], hg, hk, h1, h2 =>
          refine order_three (by omega) hg (by omega) ((hk a List.mem_cons_self).gd.mono (by omega)) (hk b (List.mem_cons_of_mem _ List.mem_cons_self)).nd (fun ys hys => ?_) ih e (by omega) (by omega)
          subst hys
          obtain ⟨_, _, _, hyy⟩ := (hk _ (List.mem_cons_of_mem _ List.mem_cons_self)).tups
          refine ⟨?_, fun y hy => (hyy y hy).nd⟩
          have h5 : sz (.tuple ys) ≤ szs ([a, .tuple ys] ++ [.tuple ts]) := sz_mem (List.mem_cons_of_mem _ List.mem_cons_self)
          unfold sz at h5
          have := szs_len ys
          omega
        | a :: b :: c :: r, hg, hk, h1, h2 =>
          rw [finT_long]
          refine order_long hg (by omega) h1 (by simp) ?_ (by omega) ih e
          omega

theorem pick0 (r : Rs) : pick [0] [r] = [r] := Eq.trans rfl rfl
theorem sRaise_at (c : Str) (m : M D) (g : En) : sRaise c m g = (m g).thn (c := ⟨fun x g1 => .ex c x g1⟩) := Eq.trans rfl rfl
theorem hdl_own (i : Nat) (c : Str) (x : D) (g : En) (h : D → M Fl) (r : List ((Str → Option Bool) × (D → M Fl))) (hlt : i < g.length) : exHdl i c x g ((exOne c, h) :: r) = exFin i (h x (g.set i .u)) := by
  unfold exHdl exOne
  rw [if_pos rfl]
  dsimp only
  rw [if_pos hlt]
theorem from_no (x : D) (h : φ_order_of_tree 16 [x] = .ret (.d .none) []) : φ_from_tree [x] = .ex "InvalidPair" x [] := by
  have e1 : fIsN .none .none = some (.bool true) := Eq.trans rfl rfl
  unfold φ_from_tree m_from_tree
  simp! only [h, e1, sRaise_at]
  rfl
theorem from_yes (x : D) (p : List Int) (h : φ_order_of_tree 16 [x] = .ret (.d (ti p)) []) : φ_from_tree [x] = .ret (.d (ti p)) [] := by
  have e1 : fIsN (ti p) .none = some (.bool false) := Eq.trans rfl rfl
  unfold φ_from_tree m_from_tree
  simp! only [h, e1]
theorem told_no (x : D) (b : Bool) (h : φ_order_of_tree 16 [x] = .ret (.d .none) []) : φ__law_told [x, .bool b] = .ret (.d (.tuple [.str "none", x])) [] := by
  have h1 := from_no x h
  unfold φ__law_told m__law_told
  cases b
  · simp! only [sTryM, h1, pick0, outR_ex, thn_ex]
    rw [hdl_own _ _ _ _ _ _ (show 3 < 4 by decide)]
    simp! only [exFin]
  · simp! only [sTryM, h1, pick0, outR_ex, thn_ex]
    rw [hdl_own _ _ _ _ _ _ (show 3 < 4 by decide)]
    simp! only [exFin]
theorem told_yes (x : D) (b : Bool) (p : List Int) (h : φ_order_of_tree 16 [x] = .ret (.d (ti p)) []) : φ__law_told [x, .bool b] = .ret (.d (ti p)) [] := by
  have h1 := from_yes x p h
  unfold φ__law_told m__law_told
  cases b
  · simp! only [sTryM, h1, pick0]
  · simp! only [sTryM, h1, pick0]

theorem eqvAll_nil (ys : List D) : PyData.eqvAll ys [] = ys.isEmpty := by cases ys <;> rfl
theorem gd_nilL : Gd 1 (.list []) := gd_list fun _ h => nomatch h
theorem gd_nilT : Gd 1 (.tuple []) := gd_tuple fun _ h => nomatch h
theorem ne_nil {n : Nat} {ys : List D} (h : ∀ y ∈ ys, Gd n y) (hn : n ≤ 50) : fNe (.list ys) (.list []) = some (.bool (!ys.isEmpty)) := by
  rw [fNe_gd (gd_list h) gd_nilL (by omega) (by decide)]
  show some (PyData.bool (!PyData.eqvAll ys [])) = _
  rw [eqvAll_nil]
theorem eq_nil {n : Nat} {ys : List D} (h : ∀ y ∈ ys, Gd n y) (hn : n ≤ 50) : fEq (.list ys) (.list []) = some (.bool ys.isEmpty) := by
  rw [fEq_gd (gd_list h) gd_nilL (by omega) (by decide)]
  show some (PyData.bool (PyData.eqvAll ys [])) = _
  rw [eqvAll_nil]
theorem eq_unit {n : Nat} {xs : List D} (h : Gd n (.tuple xs)) (hn : n ≤ 50) : fEq (.tuple xs) (.tuple []) = some (.bool xs.isEmpty) := by
  rw [fEq_gd h gd_nilT (by omega) (by decide)]
  show some (PyData.bool (PyData.eqvAll xs [])) = _
  rw [eqvAll_nil]
theorem mapO_isSome {f : D → Option (List Int)} : ∀ ts : List D, (ts.filter fun t => !(f t).isSome).isEmpty = (mapO f ts).isSome
  | [] => rfl
  | x :: xs => by
    have ih := mapO_isSome (f := f) xs
    rw [show mapO f (x :: xs) = (match f x, mapO f xs with | some p, some R => some (p :: R) | _, _ => none) from rfl, List.filter_cons]
    cases e : f x with
    | none => rfl
    | some p =>
      rw [if_neg (by simp), ih]
      cases mapO f xs <;> rfl
/-- the trees that are none -/
theorem kids_comp {rec : List PyData → Out} {f : D → Option (List Int)} (x : D) (ts : List D) (hl : ts.length ≤ 900) (h : ∀ t ∈ ts, rec [t] = .ret (.d (.bool (f t).isSome)) []) :
    compB [1] (.nm 1) (dNot (dB (rD (callP [.v] rec (vCons (dName 1) vNil))))) (dEsc (dName 1)) ts [.d x, .u, .u, .u] = .ok (ts.filter fun t => !(f t).isSome) [.d x, .u, .u, .u] := by
  have hc := compB_fil (i := 1) (enc := id) (f := id) (p := fun t => !(f t).isSome) (mt := dNot (dB (rD (callP [.v] rec (vCons (dName 1) vNil))))) (me := dEsc (dName 1)) (g := [.d x, .u, .u, .u]) ts (by omega) rfl fun t ht => by
    have h1 := h t ht
    exact ⟨by simp! only [id_eq, h1], fun _ => by simp! only [id_eq]⟩
  rw [List.map_id, List.map_id] at hc
  exact hc
theorem filt_gd {n : Nat} {ts : List D} {p : D → Bool} (h : ∀ t ∈ ts, Gd n t) : ∀ t ∈ ts.filter p, Gd n t := fun t ht => h t (List.mem_filter.mp ht).1
theorem filt_ne {f : D → Option (List Int)} {n : Nat} {ts : List D} (h : ∀ t ∈ ts, Gd n t) (hn : n ≤ 50) : fNe (.list (ts.filter fun t => !(f t).isSome)) (.list []) = some (.bool (!(mapO f ts).isSome)) := by
  rw [ne_nil (filt_gd h) hn, mapO_isSome]
theorem tags_fil (x : D) {s : Str} (ts : List D) (hl : ts.length ≤ 900) {n : Nat} (hg : ∀ t ∈ ts, Gd n t) (hn : n ≤ 50) (h : ∀ t ∈ ts, ∃ z r, t = .tuple (.str z :: r)) (cs : PyData.canLay0 (.str s) = true) (hx : fIx x (.int 0) = some (.str s)) (many : SV) (hno : noOwn [.d x, .u, many, .u] [1] = true) :
    compB [1] (.nm 1) (dB (op2 fEq (dv (op2 fIx (dName 1) (dv (dC (.int 0))))) (dv (op2 fIx (dName 0) (dv (dC (.int 0))))))) (dEsc (dName 1)) ts [.d x, .u, many, .u] = .ok (ts.filter (isTag s)) [.d x, .u, many, .u] := by
  have hc := compB_fil (i := 1) (enc := id) (f := id) (p := isTag s) (mt := dB (op2 fEq (dv (op2 fIx (dName 1) (dv (dC (.int 0))))) (dv (op2 fIx (dName 0) (dv (dC (.int 0))))))) (me := dEsc (dName 1)) (g := [.d x, .u, many, .u]) ts (by omega) hno fun t ht => by
    have gt := hg t ht
    obtain ⟨z, r, rfl⟩ := h t ht
    have h1 : fIx (.tuple (.str z :: r)) (.int 0) = some (.str z) := fIx_t (i := 0) (by rfl)
    have h2 := str_eq z s (gd_head gt) cs
    exact ⟨by simp! only [id_eq, h1, hx, h2]; rfl, fun _ => by simp! only [id_eq]⟩
  rw [List.map_id, List.map_id] at hc
  exact hc
theorem filt_any {p : D → Bool} : ∀ ts : List D, (ts.filter p).isEmpty = !ts.any p
  | [] => rfl
  | x :: xs => by
    rw [List.filter_cons, List.any_cons]
    cases p x with
    | true => rfl
    | false => exact filt_any xs
theorem fIs_T (ts : List D) : fIs [.tuple, .str] (.tuple ts) = some (.bool true) := Eq.trans rfl rfl
theorem tr_word {rec : List PyData → Out} {n : Nat} {s : Str} (hs : s = "sum" ∨ s = "skew") {ts : List D} {f : D → Option (List Int)} {R : List (List Int)} (hl : ts.length ≤ 900) (hg : ∀ t ∈ ts, Gd n t) (hn : n ≤ 40) (ht : ∀ t ∈ ts, ∀ p, f t = some p → ∃ z r, t = .tuple (.str z :: r))
    (hr : ∀ t ∈ ts, rec [t] = .ret (.d (.bool (f t).isSome)) []) (e : mapO f ts = some R) : runF 4 [.v] (m__law_is_tree rec) [.tuple [.str s, .tuple ts]] = .ret (.d (.bool (finT [.str s] ts R).isSome)) [] := by
  have cs : PyData.canLay0 (.str s) = true := by rcases hs with rfl | rfl <;> decide +kernel
  have gs : Gd 0 (.str s) := gd_str s cs
  have gx : Gd (n + 2) (.tuple [.str s, .tuple ts]) := gd_tuple fun x hx => by
    rcases List.mem_cons.mp hx with rfl | hx
    · exact gs.mono (by omega)
    · rw [List.mem_singleton.mp hx]
      exact gd_tuple hg
  have h0 : fEq (.tuple [.str s, .tuple ts]) (.tuple [.str "one"]) = some (.bool false) := eq_one gx (by omega)
  have h0' : fEq (.tuple [.str s, .tuple ts]) (.tuple []) = some (.bool false) := eq_unit gx (by omega)
  have h1 := kids_comp (f := f) (.tuple [.str s, .tuple ts]) ts hl hr
  have h1' := filt_ne (f := f) hg (by omega)
  rw [e] at h1'
  have h1' : fNe (.list (ts.filter fun t => !(f t).isSome)) (.list []) = some (.bool false) := h1'
  have h2 : fIx (.tuple [.str s, .tuple ts]) (.int (-1)) = some (.tuple ts) := fIx_last (xs := [.str s])
  have h3 : fIx (.tuple [.str s, .tuple ts]) (.int 0) = some (.str s) := fIx_t (i := 0) rfl
  have h5 := in_wordsL gs (by omega)
  rw [show isW (.str s) = true by rcases hs with rfl | rfl <;> decide +kernel] at h5
  have hlR : ts.length = R.length := (mapO_some e).1
  have htg : ∀ t ∈ ts, ∃ z r, t = .tuple (.str z :: r) := fun t htt => by
    obtain ⟨p, _, hp⟩ := (mapO_some e).2 t htt
    exact ht t htt p hp
  have h6 := tags_fil (.tuple [.str s, .tuple ts]) ts hl hg (by omega) htg cs h3 (.d (.int (ts.length : Nat))) rfl
  have h7 := eq_nil (filt_gd (p := isTag s) hg) (by omega)
  rw [filt_any] at h7
  by_cases h8 : 1 < R.length
  · have h8' : (1 : Int) < ts.length := by omega
    rw [show (finT [.str s] ts R).isSome = !ts.any (isTag s) by rw [finT_1, if_pos ⟨hs, h8⟩]; cases ts.any (isTag s) <;> rfl]
    unfold m__law_is_tree
    simp! only [nc2, fIs_T, h0, h0', h1, h1', h2, h3, h5, h6, h7, gt_iff_lt, h8']
  · have h8' : ¬ (1 : Int) < ts.length := by omega
    rw [show (finT [.str s] ts R).isSome = false by rw [finT_1, if_neg fun z => h8 z.2]; rfl]
    unfold m__law_is_tree
    simp! only [nc2, fIs_T, h0, h0', h1, h1', h2, h3, h5, h6, h7, gt_iff_lt, h8']

theorem fIs_I (y : D) (h : noDict y = true) : ∃ b c, fIs [.int] y = some (.bool b) ∧ fIs [.bool] y = some (.bool c) ∧ (!b || c) = !isIntD y := by
  cases y with
  | dict _ => cases h
  | none => exact ⟨_, _, rfl, rfl, rfl⟩
  | bool b => exact ⟨_, _, rfl, rfl, rfl⟩
  | int i => exact ⟨_, _, rfl, rfl, rfl⟩
  | str s => exact ⟨_, _, rfl, rfl, rfl⟩
  | list xs => exact ⟨_, _, rfl, rfl, rfl⟩
  | tuple xs => exact ⟨_, _, rfl, rfl, rfl⟩
theorem ints_comp (x : D) (ys : List D) (many : SV) (hl : ys.length ≤ 900) (h : ∀ y ∈ ys, noDict y = true) (hno : noOwn [.d x, .u, many, .u] [3] = true) :
    compB [3] (.nm 3) (dOr (dNot (dB (op1 (fIs [.int]) (dName 3)))) (dB (op1 (fIs [.bool]) (dName 3)))) (dEsc (dName 3)) ys [.d x, .u, many, .u] = .ok (ys.filter fun y => !isIntD y) [.d x, .u, many, .u] := by
  have hc := compB_fil (i := 3) (enc := id) (f := id) (p := fun y => !isIntD y) (mt := dOr (dNot (dB (op1 (fIs [.int]) (dName 3)))) (dB (op1 (fIs [.bool]) (dName 3)))) (me := dEsc (dName 3)) (g := [.d x, .u, many, .u]) ys (by omega) hno fun y hy => by
    have hnd := h y hy
    obtain ⟨b, c, h1, h2, h3⟩ := fIs_I y hnd
    rw [← h3]
    cases y with
    | list xs =>
      cases b <;> cases c <;> exact ⟨by simp! only [id_eq, h1, h2]; rfl, fun _ => by simp! only [id_eq]⟩
    | _ => cases b <;> cases c <;> exact ⟨by simp! only [id_eq, h1, h2]; rfl, fun _ => by simp! only [id_eq]⟩
  rw [List.map_id, List.map_id] at hc
  exact hc
theorem filt_all : ∀ ys : List D, (ys.filter fun y => !isIntD y).isEmpty = ys.all isIntD
  | [] => rfl
  | y :: ys => by
    rw [List.filter_cons, List.all_cons]
    cases isIntD y with
    | true => exact filt_all ys
    | false => rfl
theorem srt_is {q : List Int} {m : Nat} : decide (srt q = irange 1 m) = (ordB q && decide (q.length = m)) := by
  unfold ordB
  by_cases h : q.length = m
  · subst h
    simp
  · have h1 : ¬ srt q = irange 1 m := fun e => h (by
      have := congrArg List.length e
      rw [irange_len, (srt_perm q).length_eq] at this
      exact this)
    simp [h, h1]
theorem tr_three {rec : List PyData → Out} {n : Nat} {a b : D} {ts : List D} {f : D → Option (List Int)} {R : List (List Int)} (hl : ts.length ≤ 100) (hg : ∀ t ∈ ts, Gd n t) (gx : Gd (n + 2) (.tuple [a, b, .tuple ts])) (hn : n ≤ 40) (ga : Gd (n + 2) a) (gb : Gd (n + 2) b) (nb : noDict b = true) (hb : ∀ xs, b = .tuple xs → xs.length ≤ 100 ∧ ∀ y ∈ xs, noDict y = true ∧ Gd (n + 2) y)
    (hr : ∀ t ∈ ts, rec [t] = .ret (.d (.bool (f t).isSome)) []) (e : mapO f ts = some R) : runF 4 [.v] (m__law_is_tree rec) [.tuple [a, b, .tuple ts]] = .ret (.d (.bool (finT [a, b] ts R).isSome)) [] := by
  have h0 : fEq (.tuple [a, b, .tuple ts]) (.tuple [.str "one"]) = some (.bool false) := (eq_one gx (by omega)).trans (by rw [one_3])
  have h0' : fEq (.tuple [a, b, .tuple ts]) (.tuple []) = some (.bool false) := eq_unit gx (by omega)
  have h1 := kids_comp (f := f) (.tuple [a, b, .tuple ts]) ts (by omega) hr
  have h1' := filt_ne (f := f) hg (by omega)
  rw [e] at h1'
  have h1' : fNe (.list (ts.filter fun t => !(f t).isSome)) (.list []) = some (.bool false) := h1'
  have h2 : fIx (.tuple [a, b, .tuple ts]) (.int (-1)) = some (.tuple ts) := fIx_last (xs := [a, b])
  have h3 : fIx (.tuple [a, b, .tuple ts]) (.int 0) = some a := fIx_t (i := 0) rfl
  have h4 : fIx (.tuple [a, b, .tuple ts]) (.int 1) = some b := fIx_t (i := 1) rfl
  have n3 : fNe (.int 3) (.int 3) = some (.bool false) := Eq.trans rfl rfl
  have hlR : ts.length = R.length := (mapO_some e).1
  have h5 := ne_simple ga (by omega)
  cases ha : isS "simple" a with
  | false =>
    rw [ha] at h5
    have h5 : fNe a (.str "simple") = some (.bool true) := h5
    rw [finT_no ha]
    unfold m__law_is_tree
    simp! only [nc2, nc3, fIs_T, h0, h0', h1, h1', h2, h3, h4, h5, n3]
    rfl
  | true =>
    rw [ha] at h5
    have h5 : fNe a (.str "simple") = some (.bool false) := h5
    obtain rfl := isS_eq ha
    by_cases hbt : ¬ ∃ xs, b = .tuple xs
    · have hb2 : ∀ xs, b ≠ .tuple xs := fun xs z => hbt ⟨xs, z⟩
      have h6 : fIs [.tuple] b = some (.bool false) := by cases b <;> first | rfl | exact absurd rfl (hb2 _) | cases nb
      rw [show finT [.str "simple", b] ts R = none by cases b <;> first | rfl | exact absurd rfl (hb2 _)]
      unfold m__law_is_tree
      simp! only [nc2, nc3, fIs_T, h0, h0', h1, h1', h2, h3, h4, h5, h6, n3]
      rfl
    · obtain ⟨xs, rfl⟩ := Classical.not_not.mp hbt
      obtain ⟨b1, b2⟩ := hb xs rfl
      have h6 := ints_comp (.tuple [.str "simple", .tuple xs, .tuple ts]) xs (.d (.int (ts.length : Nat))) (by omega) (fun y hy => (b2 y hy).1) rfl
      have h7 := ne_nil (ys := xs.filter fun y => !isIntD y) (fun y hy => (b2 y (List.mem_filter.mp hy).1).2) (by omega)
      rw [filt_all] at h7
      cases hi : xs.all isIntD with
      | false =>
        rw [hi] at h7
        have h7 : fNe (.list (xs.filter fun y => !isIntD y)) (.list []) = some (.bool true) := h7
        rw [show finT [.str "simple", .tuple xs] ts R = none by rw [finT_2, if_pos rfl, toInts_no hi]]
        unfold m__law_is_tree
        simp! only [nc2, nc3, fIs_T, h0, h0', h1, h1', h2, h3, h4, h5, h6, h7, n3]
        rfl
      | true =>
        rw [hi] at h7
        have h7 : fNe (.list (xs.filter fun y => !isIntD y)) (.list []) = some (.bool false) := h7
        obtain ⟨q, rfl, hq⟩ := ints_of hi
        rw [List.length_map] at b1
        have h8 := fSorted_srt q (by omega)
        have h9 := fEq_li (srt q) (irange 1 ts.length)
        rw [srt_is] at h9
        have hsm : Sm ((ts.length : Int) + 1) := sm_of (by omega) (by omega)
        have hrr : ((ts.length : Int) + 1 - 1).toNat = ts.length := by omega
        have hf : (finT [.str "simple", ti q] ts R).isSome = (ordB q && decide (q.length = ts.length) && simp4 q) := by
          rw [finT_2, if_pos rfl, hq]
          dsimp only
          rw [hlR]
          by_cases c : ordB q = true ∧ q.length = R.length ∧ simp4 q = true
          · rw [if_pos c, c.1, c.2.2, decide_eq_true c.2.1]
            rfl
          · rw [if_neg c]
            symm
            show _ = false
            refine Bool.eq_false_iff.mpr fun z => ?_
            rw [Bool.and_eq_true, Bool.and_eq_true, decide_eq_true_eq] at z
            exact c ⟨z.1.1, z.1.2, z.2⟩
        rw [hf]
        cases ho : (ordB q && decide (q.length = ts.length)) with
        | false =>
          rw [ho] at h9
          unfold m__law_is_tree
          simp! only [nc2, nc3, fIs_T, h0, h0', h1, h1', h2, h3, h4, h5, h6, h7, n3, h8, hsm, hrr, h9]
          rfl
        | true =>
          rw [ho] at h9
          rw [Bool.and_eq_true] at ho
          have h10 := lis_simple_ok q (ordB_iff.mp ho.1) (by omega)
          rw [Bool.true_and]
          unfold m__law_is_tree
          simp! only [nc2, nc3, fIs_T, h0, h0', h1, h1', h2, h3, h4, h5, h6, h7, n3, h8, hsm, hrr, h9, h10]
          try rfl

theorem tr_atom {rec : List PyData → Out} {x : D} (nd : noDict x = true) (h : ∀ xs, x ≠ .tuple xs) : runF 4 [.v] (m__law_is_tree rec) [x] = .ret (.d (.bool false)) [] := by
  have e1 : fIs [.tuple] x = some (.bool false) := by cases x <;> first | rfl | exact absurd rfl (h _) | cases nd
  cases x with
  | tuple xs => exact absurd rfl (h xs)
  | dict _ => cases nd
  | list xs =>
    unfold m__law_is_tree
    simp! only [e1]
  | int i =>
    unfold m__law_is_tree
    simp! only [e1]
  | bool i =>
    unfold m__law_is_tree
    simp! only [e1]
  | none =>
    unfold m__law_is_tree
    simp! only [e1]
  | str i =>
    unfold m__law_is_tree
    simp! only [e1]
theorem app_ne {pre : List D} {l : D} : (pre ++ [l]).isEmpty = false := by cases pre <;> rfl
theorem tr_one {rec : List PyData → Out} {n : Nat} {pre : List D} {l : D} (hg : Gd n (.tuple (pre ++ [l]))) (hn : n ≤ 50) (h1 : isOne (.tuple (pre ++ [l])) = true) : runF 4 [.v] (m__law_is_tree rec) [.tuple (pre ++ [l])] = .ret (.d (.bool true)) [] := by
  have h0 := eq_one hg (by omega)
  rw [h1] at h0
  have h0' := eq_unit hg (by omega)
  rw [app_ne] at h0'
  have e2 : fIx (.tuple (pre ++ [l])) (.int (-1)) = some l := fIx_last
  have e3 : fIs [.tuple, .str] l = some (.bool true) := by
    match pre, l, h1 with
    | [], .str s, _ => rfl
    | [], .int _, h => cases h
    | [], .bool _, h => cases h
    | [], .none, h => cases h
    | [], .tuple _, h => cases h
    | [], .list _, h => cases h
    | [], .dict _, h => cases h
    | [a], l, h =>
      rw [show ([a] ++ [l] : List D) = a :: l :: [] from rfl, one_3] at h
      cases h
    | a :: b :: r, l, h =>
      rw [show (a :: b :: r ++ [l] : List D) = a :: b :: (r ++ [l]) from rfl, one_3] at h
      cases h
  generalize pre ++ [l] = xs at *
  unfold m__law_is_tree
  simp! only [h0, h0', e2, e3]
theorem tr_last_no {rec : List PyData → Out} {n : Nat} {pre : List D} {l : D} (hg : Gd n (.tuple (pre ++ [l]))) (hn : n ≤ 50) (h1 : isOne (.tuple (pre ++ [l])) = false) (nd : noDict l = true) (h : ∀ xs, l ≠ .tuple xs) : runF 4 [.v] (m__law_is_tree rec) [.tuple (pre ++ [l])] = .ret (.d (.bool false)) [] := by
  have h0 := eq_one hg (by omega)
  rw [h1] at h0
  have h0' := eq_unit hg (by omega)
  rw [app_ne] at h0'
  have e2 : fIx (.tuple (pre ++ [l])) (.int (-1)) = some l := fIx_last
  have e1 : fIs [.tuple] l = some (.bool false) := by cases l <;> first | rfl | exact absurd rfl (h _) | cases nd
  obtain ⟨b, e3⟩ : ∃ b, fIs [.tuple, .str] l = some (.bool b) := by cases l <;> first | exact ⟨_, rfl⟩ | cases nd
  generalize pre ++ [l] = xs at *
  unfold m__law_is_tree
  cases b <;> simp! only [h0, h0', e1, e2, e3]
theorem tr_kids_no {rec : List PyData → Out} {n : Nat} {pre : List D} {ts : List D} {f : D → Option (List Int)} (hg : Gd n (.tuple (pre ++ [PyData.tuple ts]))) (hgt : ∀ t ∈ ts, Gd n t) (hn : n ≤ 50) (h1 : isOne (.tuple (pre ++ [PyData.tuple ts])) = false) (hl : ts.length ≤ 900)
    (hr : ∀ t ∈ ts, rec [t] = .ret (.d (.bool (f t).isSome)) []) (e : mapO f ts = none) : runF 4 [.v] (m__law_is_tree rec) [.tuple (pre ++ [PyData.tuple ts])] = .ret (.d (.bool false)) [] := by
  have h0 := eq_one hg (by omega)
  rw [h1] at h0
  have h0' := eq_unit hg (by omega)
  rw [app_ne] at h0'
  have e2 : fIx (.tuple (pre ++ [PyData.tuple ts])) (.int (-1)) = some (.tuple ts) := fIx_last
  have h3 := kids_comp (f := f) (.tuple (pre ++ [PyData.tuple ts])) ts hl hr
  have h4 := filt_ne (f := f) hgt (by omega)
  rw [e] at h4
  have h4 : fNe (.list (ts.filter fun t => !(f t).isSome)) (.list []) = some (.bool true) := h4
  generalize pre ++ [PyData.tuple ts] = xs at *
  unfold m__law_is_tree
  simp! only [fIs_T, h0, h0', e2, h3, h4]
theorem tr_long {rec : List PyData → Out} {n : Nat} {pre : List D} {ts : List D} {f : D → Option (List Int)} {R : List (List Int)} (hg : Gd n (.tuple (pre ++ [PyData.tuple ts]))) (hgt : ∀ t ∈ ts, Gd n t) (hn : n ≤ 50) (h1 : isOne (.tuple (pre ++ [PyData.tuple ts])) = false) (h2 : 4 ≤ (pre ++ [PyData.tuple ts]).length) (hl : ts.length ≤ 900)
    (hr : ∀ t ∈ ts, rec [t] = .ret (.d (.bool (f t).isSome)) []) (e : mapO f ts = some R) : runF 4 [.v] (m__law_is_tree rec) [.tuple (pre ++ [PyData.tuple ts])] = .ret (.d (.bool false)) [] := by
  have h0 := eq_one hg (by omega)
  rw [h1] at h0
  have h0' := eq_unit hg (by omega)
  rw [app_ne] at h0'
  have e2 : fIx (.tuple (pre ++ [PyData.tuple ts])) (.int (-1)) = some (.tuple ts) := fIx_last
  have h3 := kids_comp (f := f) (.tuple (pre ++ [PyData.tuple ts])) ts hl hr
  have h4 := filt_ne (f := f) hgt (by omega)
  rw [e] at h4
  have h4 : fNe (.list (ts.filter fun t => !(f t).isSome)) (.list []) = some (.bool false) := h4
  generalize pre ++ [PyData.tuple ts] = xs at *
  have h7 : ¬ (xs.length : Int) = 2 := by omega
  have h8 := fNe_i (xs.length : Int) 3
  rw [decide_eq_false (by omega)] at h8
  unfold m__law_is_tree
  simp! only [fIs_T, h0, h0', e2, h3, h4, h7, h8]
theorem tr_two_no {rec : List PyData → Out} {n : Nat} {a : D} {ts : List D} {f : D → Option (List Int)} {R : List (List Int)} (hg : Gd n (.tuple [a, .tuple ts])) (hgt : ∀ t ∈ ts, Gd n t) (ga : Gd n a) (hn : n ≤ 50) (hl : ts.length ≤ 900) (hw : isW a = false)
    (hr : ∀ t ∈ ts, rec [t] = .ret (.d (.bool (f t).isSome)) []) (e : mapO f ts = some R) : runF 4 [.v] (m__law_is_tree rec) [.tuple [a, .tuple ts]] = .ret (.d (.bool false)) [] := by
  have h0 : fEq (.tuple [a, .tuple ts]) (.tuple [.str "one"]) = some (.bool false) := (eq_one hg (by omega)).trans (by rw [one_3])
  have h0' : fEq (.tuple [a, .tuple ts]) (.tuple []) = some (.bool false) := eq_unit hg (by omega)
  have h2 : fIx (.tuple [a, .tuple ts]) (.int (-1)) = some (.tuple ts) := fIx_last (xs := [a])
  have h3 : fIx (.tuple [a, .tuple ts]) (.int 0) = some a := fIx_t (i := 0) rfl
  have h1 := kids_comp (f := f) (.tuple [a, .tuple ts]) ts hl hr
  have h4 := filt_ne (f := f) hgt (by omega)
  rw [e] at h4
  have h4 : fNe (.list (ts.filter fun t => !(f t).isSome)) (.list []) = some (.bool false) := h4
  have h5 := in_wordsL ga (by omega)
  rw [hw] at h5
  have n3 : fNe (.int 2) (.int 3) = some (.bool true) := Eq.trans rfl rfl
  unfold m__law_is_tree
  simp! only [nc2, fIs_T, h0, h0', h1, h2, h3, h4, h5, n3]
theorem tree_ok : ∀ (n d : Nat) (x : D), Sh d x → d < 2 * n → d ≤ 38 → sz x ≤ 100 → φ__law_is_tree n [x] = .ret (.d (.bool (ordT n x).isSome)) []
  | 0, d, x, _, h, _, _ => absurd h (by omega)
  | n + 1, d, x, hx, hd, h40, hs => by
    show runF 4 [.v] (m__law_is_tree (φ__law_is_tree n)) [x] = _
    by_cases ht : ¬ ∃ xs, x = .tuple xs
    · have hn : ∀ xs, x ≠ .tuple xs := fun xs z => ht ⟨xs, z⟩
      have e : ordT (n + 1) x = none := by cases x <;> first | rfl | exact absurd rfl (hn _)
      rw [e]
      exact tr_atom hx.nd hn
    obtain ⟨xs, rfl⟩ := Classical.not_not.mp ht
    have hg := hx.gd
    obtain ⟨k, rfl, hl, hk⟩ := hx.tups
    rw [ordT_tup]
    unfold sz at hs
    have hlen := szs_len xs
    rcases List.eq_nil_or_concat xs with rfl | ⟨pre, l, rfl⟩
    · have h0 := eq_unit hg (by omega)
      have h0 : fEq (.tuple []) (.tuple []) = some (.bool true) := h0
      rw [show isOne (.tuple []) = false from rfl]
      unfold m__law_is_tree
      simp! only [h0]
      rfl
    rw [List.concat_eq_append] at *
    cases h1 : isOne (.tuple (pre ++ [l])) with
    | true =>
      rw [if_pos rfl]
      exact tr_one hg (by omega) h1
    | false =>
      rw [if_neg Bool.false_ne_true]
      have hll : Sh k l := hk l (List.mem_append_right _ List.mem_cons_self)
      have hsl : sz l ≤ szs (pre ++ [l]) := sz_mem (List.mem_append_right _ List.mem_cons_self)
      by_cases htl : ¬ ∃ ts, l = .tuple ts
      · have hn : ∀ xs, l ≠ .tuple xs := fun xs z => htl ⟨xs, z⟩
        have := tr_last_no (rec := φ__law_is_tree n) hg (by omega) h1 hll.nd hn
        rw [this]
        rw [List.getLast?_concat]
        split
        · rfl
        · cases l with
          | tuple ts => exact absurd rfl (hn ts)
          | _ => rfl
      obtain ⟨ts, rfl⟩ := Classical.not_not.mp htl
      obtain ⟨j, rfl, hjl, hj⟩ := hll.tups
      unfold sz at hsl
      have htl2 := szs_len ts
      have ih : ∀ t ∈ ts, φ__law_is_tree n [t] = .ret (.d (.bool (ordT n t).isSome)) [] := fun t htt => tree_ok n j t (hj t htt) (by omega) (by omega) (by have := sz_mem htt; omega)
      have hgt : ∀ t ∈ ts, Gd j t := fun t htt => (hj t htt).gd
      rw [List.getLast?_concat, List.dropLast_concat]
      dsimp only
      cases e : mapO (ordT n) ts with
      | none =>
        have := tr_kids_no (rec := φ__law_is_tree n) hg (fun t htt => (hgt t htt).mono (by omega)) (by omega) h1 (by omega) ih e
        rw [this]
        split <;> rfl
      | some R =>
        dsimp only
        have hR2 := (mapO_some e).1
        match pre, hg, hk, h1, hs with
        | [], hg, hk, h1, hs =>
          rw [if_pos (by simp)]
          have h0 := eq_one hg (by omega)
          rw [h1] at h0
          have h0' := eq_unit hg (by omega)
          have h0 : fEq (.tuple [.tuple ts]) (.tuple [.str "one"]) = some (.bool false) := h0
          have h0' : fEq (.tuple [.tuple ts]) (.tuple []) = some (.bool false) := h0'
          have e2 : fIx (.tuple [.tuple ts]) (.int (-1)) = some (.tuple ts) := fIx_last (xs := [])
          have h3 := kids_comp (f := ordT n) (.tuple [.tuple ts]) ts (by omega) ih
          have h4 := filt_ne (f := ordT n) hgt (by omega)
          rw [e] at h4
          have h4 : fNe (.list (ts.filter fun t => !(ordT n t).isSome)) (.list []) = some (.bool false) := h4
          have n3 : fNe (.int 1) (.int 3) = some (.bool true) := Eq.trans rfl rfl
          have nc1 : ((1 : Nat) : Int) = 1 := rfl
          show runF 4 [.v] (m__law_is_tree (φ__law_is_tree n)) [.tuple [.tuple ts]] = _
          unfold m__law_is_tree
          simp! only [nc1, fIs_T, h0, h0', e2, h3, h4, n3]
          rfl
        | [a], hg, hk, h1, hs =>
          rw [if_neg (by simp)]
          cases hw : isW a with
          | false =>
            rw [finT_noW hw]
            exact tr_two_no hg (fun t htt => (hgt t htt).mono (by omega)) ((hk a List.mem_cons_self).gd.mono (by omega)) (by omega) (by omega) hw ih e
          | true =>
            obtain ⟨s, hs1, rfl⟩ := isW_eq hw
            exact tr_word (n := j) hs1 (by omega) hgt (by omega) (fun t htt p hp => ordT_tag hp) ih e
        | [a, b], hg, hk, h1, hs =>
          rw [if_neg (by simp)]
          refine tr_three (n := j) (by omega) hgt (hg.mono (by omega)) (by omega) ((hk a List.mem_cons_self).gd.mono (by omega)) ((hk b (List.mem_cons_of_mem _ List.mem_cons_self)).gd.mono (by omega)) (hk b (List.mem_cons_of_mem _ List.mem_cons_self)).nd (fun ys hys => ?_) ih e
          subst hys
          obtain ⟨m, hm, _, hyy⟩ := (hk _ (List.mem_cons_of_mem _ List.mem_cons_self)).tups
          refine ⟨?_, fun y hy => ⟨(hyy y hy).nd, (hyy y hy).gd.mono (by omega)⟩⟩
          have h5 : sz (.tuple ys) ≤ szs ([a, .tuple ys] ++ [.tuple ts]) := sz_mem (List.mem_cons_of_mem _ List.mem_cons_self)
          unfold sz at h5
          have := szs_len ys
          omega
        | a :: b :: c :: r, hg, hk, h1, hs =>
          rw [if_neg (by simp), finT_long]
          exact tr_long hg (fun t htt => (hgt t htt).mono (by omega)) (by omega) h1 (by simp) (by omega) ih e

theorem isOne_eq {x : D} (h : isOne x = true) : x = .tuple [.str "one"] := by
  unfold isOne at h
  split at h
  · rw [beq_iff_eq] at h
    rw [h]
  · cases h
/-- what a tree is -/
inductive Inv (n : Nat) : D → List Int → Prop
  | one : Inv n (.tuple [.str "one"]) [1]
  | word {s : Str} {ts : List D} {R : List (List Int)} (hs : s = "sum" ∨ s = "skew") (e : mapO (ordT n) ts = some R) (h1 : 1 < R.length) (h2 : ts.any (isTag s) = false) : Inv n (.tuple [.str s, .tuple ts]) (R.foldl (if s = "sum" then sm else sk) [])
  | simple {q : List Int} {ts : List D} {R : List (List Int)} (e : mapO (ordT n) ts = some R) (h1 : IsOrd q) (h2 : q.length = R.length) (h3 : simp4 q = true) : Inv n (.tuple [.str "simple", ti q, .tuple ts]) (fillL q R R.length)
theorem ordT_inv {n : Nat} {x : D} {p : List Int} (h : ordT (n + 1) x = some p) : Inv n x p := by
  cases x with
  | tuple xs =>
    rw [ordT_tup] at h
    split at h
    · rename_i h1
      cases h
      rw [isOne_eq h1]
      exact .one
    · split at h
      · cases h
      · rcases List.eq_nil_or_concat xs with rfl | ⟨pre, l, rfl⟩
        · cases h
        rw [List.concat_eq_append, List.getLast?_concat, List.dropLast_concat] at h
        rw [List.concat_eq_append]
        cases l with
        | tuple ts =>
          dsimp only at h
          cases e : mapO (ordT n) ts with
          | none => rw [e] at h; cases h
          | some R =>
            rw [e] at h
            dsimp only at h
            unfold finT at h
            split at h
            · rename_i s _ _
              split at h
              · rename_i h1
                split at h
                · cases h
                · rename_i h2
                  cases h
                  exact .word h1.1 e h1.2 (Bool.eq_false_iff.mpr h2)
              · cases h
            · rename_i s qs _ _
              split at h
              · rename_i hs
                subst hs
                split at h
                · rename_i q hq
                  split at h
                  · rename_i h1
                    cases h
                    have exs : qs = q.map PyData.int := toInts_ok hq
                    subst exs
                    exact .simple e (ordB_iff.mp h1.1) h1.2.1 h1.2.2
                  · cases h
                · cases h
              · cases h
            · cases h
        | _ => cases h
  | _ => cases h
theorem ordT_of {n : Nat} {x : D} {p : List Int} (h : Inv n x p) : ordT (n + 1) x = some p := by
  cases h with
  | one => rw [ordT_tup, if_pos (by decide +kernel)]
  | @word s ts R hs e h1 h2 =>
    rw [ordT_tup, if_neg (by rw [one_3]; exact Bool.false_ne_true), if_neg (by simp)]
    show (match mapO (ordT n) ts with | some R => finT [.str s] ts R | none => none) = _
    rw [e]
    dsimp only
    rw [finT_1, if_pos ⟨hs, h1⟩, h2]
    rfl
  | @simple q ts R e h1 h2 h3 =>
    rw [ordT_tup, if_neg (by rw [one_3]; exact Bool.false_ne_true), if_neg (by simp)]
    show (match mapO (ordT n) ts with | some R => finT [.str "simple", ti q] ts R | none => none) = _
    rw [e]
    dsimp only
    have hi : (q.map PyData.int).all isIntD = true := List.all_eq_true.mpr fun y hy => by
      obtain ⟨i, _, rfl⟩ := List.mem_map.mp hy
      rfl
    obtain ⟨q', h4, h5⟩ := ints_of hi
    obtain rfl := map_int_inj h4
    rw [finT_2, if_pos rfl, h5]
    dsimp only
    rw [if_pos ⟨ordB_iff.mpr h1, h2, h3⟩]
theorem szs_ints : ∀ q : List Int, szs (q.map PyData.int) = q.length
  | [] => rfl
  | x :: q => by
    rw [List.map_cons, szs, szs_ints q, List.length_cons, sz]
    omega
theorem sz_t2 (s : Str) (ts : List D) : sz (.tuple [.str s, .tuple ts]) = 3 + szs ts := by
  rw [sz, szs, szs, szs, sz, sz]
  omega
theorem sz_t3 (s : Str) (q : List Int) (ts : List D) : sz (.tuple [.str s, ti q, .tuple ts]) = 4 + q.length + szs ts := by
  rw [sz, szs, szs, szs, szs, sz, sz, sz, szs_ints]
  omega
theorem eq_w (s : Str) (z : Str) (b : Bool) (h : PyData.canLay0 (.str s) = true) (k : PyData.canLay0 (.str z) = true) (e : (s == z) = b) : fEq (.str s) (.str z) = some (.bool b) := by rw [str_eq s z h k, e]
theorem e_oo : fEq (.str "one") (.str "one") = some (.bool true) := eq_w _ _ _ (by decide +kernel) (by decide +kernel) (by decide +kernel)
theorem e_so : fEq (.str "sum") (.str "one") = some (.bool false) := eq_w _ _ _ (by decide +kernel) (by decide +kernel) (by decide +kernel)
theorem e_ko : fEq (.str "skew") (.str "one") = some (.bool false) := eq_w _ _ _ (by decide +kernel) (by decide +kernel) (by decide +kernel)
theorem e_mo : fEq (.str "simple") (.str "one") = some (.bool false) := eq_w _ _ _ (by decide +kernel) (by decide +kernel) (by decide +kernel)
theorem e_sm : fEq (.str "sum") (.str "simple") = some (.bool false) := eq_w _ _ _ (by decide +kernel) (by decide +kernel) (by decide +kernel)
theorem e_km : fEq (.str "skew") (.str "simple") = some (.bool false) := eq_w _ _ _ (by decide +kernel) (by decide +kernel) (by decide +kernel)
theorem e_mm : fEq (.str "simple") (.str "simple") = some (.bool true) := eq_w _ _ _ (by decide +kernel) (by decide +kernel) (by decide +kernel)
theorem rows_comp {rec : List PyData → Out} {f : D → Option (List Int)} (x : D) (ts : List D) (hl : ts.length ≤ 900) {R : List (List Int)} (e : mapO f ts = some R) (h : ∀ t ∈ ts, ∀ p, f t = some p → rec [t] = .ret (.d (ti p)) []) :
    compB [2] (.nm 2) (rt true) (rD (callP [.v] rec (vCons (dName 2) vNil))) ts [.d x, .u, .u, .u] = .ok (R.map ti) [.d x, .u, .u, .u] := by
  have hc := compB_one (i := 2) (enc := id) (f := fun t => optD (f t)) (me := rD (callP [.v] rec (vCons (dName 2) vNil))) (g := [.d x, .u, .u, .u]) ts (by omega) rfl fun t ht => by
    obtain ⟨p, _, hp⟩ := (mapO_some e).2 t ht
    have h1 := h t ht p hp
    simp! only [id_eq, h1, hp]
    rfl
  rw [List.map_id, mapO_map e] at hc
  exact hc
theorem grown_ok : ∀ (n : Nat) (x : D) (p : List Int), ordT n x = some p → sz x ≤ 100 → φ__law_grown n [x] = .ret (.d (ti p)) []
  | 0, x, p, h, _ => nomatch h
  | n + 1, x, p, h, hs => by
    show runF 4 [.v] (m__law_grown (φ__law_grown n)) [x] = _
    have hi := ordT_inv h
    cases hi with
    | one =>
      have h1 : fIx (.tuple [.str "one"]) (.int 0) = some (.str "one") := fIx_t (i := 0) rfl
      unfold m__law_grown
      simp! only [h1, e_oo]
      rfl
    | @word s ts R hw e h1 h2 =>
      rw [sz_t2] at hs
      have hts := szs_len ts
      have hR := mapO_tot e fun t _ p hp => ordT_len hp
      have hlR := (mapO_some e).1
      have hc := rows_comp (f := ordT n) (.tuple [.str s, .tuple ts]) ts (by omega) e fun t ht p hp => grown_ok n t p hp (by have := sz_mem ht; omega)
      have g0 : fIx (.tuple [.str s, .tuple ts]) (.int 0) = some (.str s) := fIx_t (i := 0) rfl
      have g2 : fIx (.tuple [.str s, .tuple ts]) (.int (-1)) = some (.tuple ts) := fIx_last (xs := [.str s])
      have hsm : Sm ((R.length : Int) + 1) := sm_of (by omega) (by omega)
      have hr : ((R.length : Int) + 1 - 1).toNat = R.length := by omega
      rcases hw with rfl | rfl
      · have hf := filled_ok (irange 1 R.length) R (by rw [irange_len]) (by rw [irange_len]; omega) (by rw [irange_len]; omega)
        rw [irange_len, fill_sm] at hf
        unfold m__law_grown
        simp! only [g0, g2, hc, e_so, e_sm, ss_eq, List.length_map, hsm, hr, hf, ite_true]
      · have hf := filled_ok (tu (irange 1 R.length)) R (by rw [tu_len, irange_len]) (by rw [tu_len, irange_len]; omega) (by rw [tu_len, irange_len]; omega)
        rw [tu_len, irange_len, fill_sk] at hf
        have hf : φ__law_filled [.tuple ((irange 1 R.length).reverse.map .int), .list (R.map ti)] = _ := hf
        unfold m__law_grown
        simp! only [g0, g2, hc, e_ko, e_km, ks_eq, List.length_map, hsm, hr, ← List.map_reverse, hf, kkk]
    | @simple q ts R e h1 h2 h3 =>
      rw [sz_t3] at hs
      have hts := szs_len ts
      have hR := mapO_tot e fun t _ p hp => ordT_len hp
      have hlR := (mapO_some e).1
      have hc := rows_comp (f := ordT n) (.tuple [.str "simple", ti q, .tuple ts]) ts (by omega) e fun t ht p hp => grown_ok n t p hp (by have := sz_mem ht; omega)
      have g0 : fIx (.tuple [.str "simple", ti q, .tuple ts]) (.int 0) = some (.str "simple") := fIx_t (i := 0) rfl
      have g1 : fIx (.tuple [.str "simple", ti q, .tuple ts]) (.int 1) = some (ti q) := fIx_t (i := 1) rfl
      have g2 : fIx (.tuple [.str "simple", ti q, .tuple ts]) (.int (-1)) = some (.tuple ts) := fIx_last (xs := [.str "simple", ti q])
      have hf := filled_ok q R h2.symm (by omega) (by rw [h2]; omega)
      rw [h2] at hf
      unfold m__law_grown
      simp! only [g0, g1, g2, hc, e_mo, e_mm, hf]

/-! ### data whose levels are counted -/
mutual
def shB : Nat → D → Bool
  | _, .int _ => true
  | _, .bool _ => true
  | _, .none => true
  | _, .str z => PyData.canLay0 (.str z)
  | n + 1, .tuple xs => decide (xs.length ≤ 100000) && shBs n xs
  | n + 1, .list xs => decide (xs.length ≤ 100000) && shBs n xs
  | 0, .tuple _ => false
  | 0, .list _ => false
  | _, .dict _ => false
def shBs : Nat → List D → Bool
  | _, [] => true
  | n, x :: xs => shB n x && shBs n xs
end
mutual
theorem shB_ok : ∀ (n : Nat) (x : D), shB n x = true → Sh n x
  | n, .int i, _ => .int n i
  | n, .bool b, _ => .bool n b
  | n, .none, _ => .non n
  | n, .str z, h => .str n z (by unfold shB at h; exact h)
  | n + 1, .tuple xs, h => by
    unfold shB at h
    rw [Bool.and_eq_true, decide_eq_true_eq] at h
    exact .tup h.1 (shBs_ok n xs h.2)
  | n + 1, .list xs, h => by
    unfold shB at h
    rw [Bool.and_eq_true, decide_eq_true_eq] at h
    exact .lst h.1 (shBs_ok n xs h.2)
  | 0, .tuple _, h => by unfold shB at h; cases h
  | 0, .list _, h => by unfold shB at h; cases h
  | n, .dict _, h => by unfold shB at h; cases h
theorem shBs_ok : ∀ (n : Nat) (xs : List D), shBs n xs = true → ∀ x ∈ xs, Sh n x
  | n, [], _ => fun x hx => nomatch hx
  | n, x :: xs, h => fun y hy => by
    unfold shBs at h
    rw [Bool.and_eq_true] at h
    rcases List.mem_cons.mp hy with e | hy
    · rw [e]
      exact shB_ok n x h.1
    · exact shBs_ok n xs h.2 y hy
end
abbrev oneD : D := .tuple [.str "one"]
abbrev someD : List D := [.tuple [.str "one"], .tuple [.str "two"], .tuple [.str "sum", .tuple []], .tuple [.str "sum", .tuple [.tuple [.str "one"]]], .tuple [.str "skew", .tuple [.tuple [.str "one"], .tuple [.str "one"]]], .tuple [], .int 1, .str "one", .tuple [.str "one", .tuple []],
  .tuple [.str "sum", .tuple [.tuple [.str "one"], .tuple [.str "one"]]], .tuple [.str "simple", .tuple [.int 2, .int 4, .int 1, .int 3], .tuple [.tuple [.str "one"], .tuple [.str "one"], .tuple [.str "one"], .tuple [.str "one"]]], .tuple [.str "simple", .tuple [.int 1, .int 2], .tuple [.tuple [.str "one"], .tuple [.str "one"]]],
  .tuple [.str "simple", .tuple [.int 2, .int 4, .int 1, .int 3], .tuple [.tuple [.str "one"], .tuple [.str "one"], .tuple [.str "one"], .tuple [.str "one"], .tuple [.str "one"]]], .tuple [.str "sum", .tuple [.tuple [.int 1], .tuple [.int 1]]], .tuple [.str "simple", .tuple [.int 2, .int 4, .int 1], .tuple [.tuple [.str "one"], .tuple [.str "one"], .tuple [.str "one"]]]]
theorem some_ok : (someD.all fun y => shB 4 y && decide (sz y ≤ 20)) = true := by decide +kernel
theorem some_at {r : Int} (h0 : 0 ≤ r) (h1 : r < 15) : ∃ y, fIx (.list someD) (.int r) = some y ∧ Sh 4 y ∧ sz y ≤ 20 := by
  have hl : r.toNat < someD.length := by
    show r.toNat < 15
    omega
  refine ⟨someD[r.toNat], ?_, ?_⟩
  · have := fIx_l (List.getElem?_eq_getElem hl)
    rwa [Int.toNat_of_nonneg h0] at this
  · have := List.all_eq_true.mp some_ok _ (List.getElem_mem hl)
    rw [Bool.and_eq_true, decide_eq_true_eq] at this
    exact ⟨shB_ok _ _ this.1, this.2⟩
abbrev wordsD : List D := [.tuple [.str "sum"], .tuple [.str "skew"], .tuple [.str "simple"], .tuple [.str "one"], .tuple [.int 1], .tuple [.str "Sum"], .tuple [.str "skew "], .tuple [.str "sums"]]
theorem words_ok : (wordsD.all fun y => match y with | .tuple [w] => shB 0 w && decide (sz w ≤ 1) | _ => false) = true := by decide +kernel
theorem words_at {r : Int} (h0 : 0 ≤ r) (h1 : r < 8) : ∃ w, fIx (.list wordsD) (.int r) = some (.tuple [w]) ∧ Sh 0 w ∧ sz w ≤ 1 := by
  have hl : r.toNat < wordsD.length := by
    show r.toNat < 8
    omega
  have h2 := fIx_l (List.getElem?_eq_getElem hl)
  rw [Int.toNat_of_nonneg h0] at h2
  have h3 := List.all_eq_true.mp words_ok _ (List.getElem_mem hl)
  split at h3
  · rename_i w e
    rw [e] at h2
    rw [Bool.and_eq_true, decide_eq_true_eq] at h3
    exact ⟨w, h2, shB_ok _ _ h3.1, h3.2⟩
  · cases h3
abbrev rowD : List D := [.tuple [.int 2, .int 4, .int 1, .int 3], .tuple [.int 1, .int 2, .int 3, .int 4], .tuple [.int 2, .int 2, .int 4, .int 1], .tuple [.int 3, .int 1, .int 4, .int 2], .tuple [.bool true, .int 2, .int 3, .int 4], .tuple [.int 2, .int 4, .bool true, .int 3], .tuple [.int 1, .int 3, .int 0, .int 2], .tuple [.int 5, .int 7, .int 4, .int 6]]
theorem rowD_ok : (rowD.all fun y => shB 1 y && decide (sz y ≤ 5)) = true := by decide +kernel
theorem row_at {r : Int} (h0 : 0 ≤ r) (h1 : r < 8) : ∃ y, fIx (.list rowD) (.int r) = some y ∧ Sh 1 y ∧ sz y ≤ 5 := by
  have hl : r.toNat < rowD.length := by
    show r.toNat < 8
    omega
  refine ⟨rowD[r.toNat], ?_, ?_⟩
  · have := fIx_l (List.getElem?_eq_getElem hl)
    rwa [Int.toNat_of_nonneg h0] at this
  · have := List.all_eq_true.mp rowD_ok _ (List.getElem_mem hl)
    rw [Bool.and_eq_true, decide_eq_true_eq] at this
    exact ⟨shB_ok _ _ this.1, this.2⟩
abbrev bhRest : M Fl := (dSeq (sIf (dB (op2 fEq (dName 3) (dv (dC (.int 10))))) (sRetO (opNo fList (vCons (dName 1) vNil))) sNx)
    (dSeq (sIf (dOr (dB (op2 fLt (dName 3) (dv (dC (.int 3))))) (dB (op2 fEq (dName 1) (dv (dTup (dCons (dC (.str "one")) dNil)))))) (sRet (op2 fIx (dName 2) (dv (rD (callP [.m, .v] φ__law_take (vCons (dName 0) (vCons (dv (dC (.int 15))) vNil))))))) sNx)
    (dSeq (sSet 4 (op2 fIx (dName 1) (dv (op1 fNeg (dv (dC (.int 1)))))))
    (dSeq (sSetR 5 (callP [.m, .v] φ__law_take (vCons (dName 0) (vCons (dv (opN fLen (vCons (dName 4) vNil))) vNil))))
    (dSeq (sIf (dB (op2 fEq (dName 3) (dv (dC (.int 3))))) (sRetR (op2r fAdd fCat (dv (rD (cutR (dName 1) oNone (oSome (op1 fNeg (dv (dC (.int 1)))))))) (dv (dTup (dCons (rD (op2r fAdd fCat (dv (rD (cutR (dName 4) oNone (oSome (dEsc (dName 5)))))) (dv (rD (cutR (dName 4) (oSome (rD (op2r fAdd fCat (dName 5) (dv (dC (.int 1)))))) oNone))))) dNil))))) sNx)
    (dSeq (sIf (dB (op2 fEq (dName 3) (dv (dC (.int 4))))) (sRetR (op2r fAdd fCat (dv (rD (cutR (dName 1) oNone (oSome (op1 fNeg (dv (dC (.int 1)))))))) (dv (dTup (dCons (rD (op2r fAdd fCat (dv (rD (cutR (dName 4) oNone (oSome (rD (op2r fAdd fCat (dName 5) (dv (dC (.int 1))))))))) (dv (rD (cutR (dName 4) (oSome (dEsc (dName 5))) oNone))))) dNil))))) sNx)
    (dSeq (sIf (dB (op2 fEq (dName 3) (dv (dC (.int 5))))) (sRetR (op2r fAdd fCat (dv (op2 fIx (dv (dFz (dLst (dCons (dTup (dCons (dC (.str "sum")) dNil)) (dCons (dTup (dCons (dC (.str "skew")) dNil)) (dCons (dTup (dCons (dC (.str "simple")) dNil)) (dCons (dTup (dCons (dC (.str "one")) dNil)) (dCons (dTup (dCons (dC (.int 1)) dNil)) (dCons (dTup (dCons (dC (.str "Sum")) dNil)) (dCons (dTup (dCons (dC (.str "skew ")) dNil)) (dCons (dTup (dCons (dC (.str "sums")) dNil)) dNil))))))))))) (dv (rD (callP [.m, .v] φ__law_take (vCons (dName 0) (vCons (dv (dC (.int 8))) vNil))))))) (dv (rD (cutR (dName 1) (oSome (dC (.int 1))) oNone))))) sNx)
    (dSeq (sIf (dB (op2 fEq (dName 3) (dv (dC (.int 6))))) (sRetR (op2r fAdd fCat (dName 1) (dv (dTup (dCons (dTup dNil) dNil))))) sNx)
    (dSeq (sIf (dB (op2 fEq (dName 3) (dv (dC (.int 7))))) (sRet (dTup (dCons (op2 fIx (dName 1) (dv (dC (.int 0)))) (dCons (dEsc (dName 4)) dNil)))) sNx)
    (dSeq (sIf (dB (op2 fEq (dName 3) (dv (dC (.int 8))))) (sRetR (op2r fAdd fCat (dv (rD (cutR (dName 1) oNone (oSome (op1 fNeg (dv (dC (.int 1)))))))) (dv (dTup (dCons (op2 fIx (dName 4) (dName 5)) dNil))))) sNx)
    (dSeq (sIf (dB (op2 fEq (dName 3) (dv (dC (.int 11))))) (sRetR (op2r fAdd fCat (dv (rD (cutR (dName 1) oNone (oSome (op1 fNeg (dv (dC (.int 1)))))))) (dv (dTup (dCons (dFz (opNo fList (vCons (dName 4) vNil))) dNil))))) sNx)
    (dSeq (sIf (dAnd (dB (op2 fEq (dName 3) (dv (dC (.int 12))))) (dB (op2 fEq (dv (op2 fIx (dName 1) (dv (dC (.int 0))))) (dv (dC (.str "simple")))))) (sRet (dTup (dCons (dC (.str "simple")) (dCons (dFz (opNo fList (vCons (dv (op2 fIx (dName 1) (dv (dC (.int 1))))) vNil))) (dCons (dEsc (dName 4)) dNil))))) sNx)
    (dSeq (sIf (dAnd (dB (op2 fEq (dv (op2 fIx (dName 1) (dv (dC (.int 0))))) (dv (dC (.str "simple"))))) (dB (op2 fEq (dv (rD (callP [.m, .v] φ__law_take (vCons (dName 0) (vCons (dv (dC (.int 2))) vNil))))) (dv (dC (.int 0)))))) (sRet (dTup (dCons (dC (.str "simple")) (dCons (rD (callP [.m, .v] φ__law_bent_simple (vCons (dName 0) (vCons (dv (op2 fIx (dName 1) (dv (dC (.int 1))))) vNil)))) (dCons (dEsc (dName 4)) dNil))))) sNx)
    (dSeq (sSetO 6 (dLst (dCons (dTup (dCons (dC (.int 2)) (dCons (dC (.int 4)) (dCons (dC (.int 1)) (dCons (dC (.int 3)) dNil))))) (dCons (dTup (dCons (dC (.int 1)) (dCons (dC (.int 2)) (dCons (dC (.int 3)) (dCons (dC (.int 4)) dNil))))) (dCons (dTup (dCons (dC (.int 2)) (dCons (dC (.int 2)) (dCons (dC (.int 4)) (dCons (dC (.int 1)) dNil))))) (dCons (dTup (dCons (dC (.int 3)) (dCons (dC (.int 1)) (dCons (dC (.int 4)) (dCons (dC (.int 2)) dNil))))) (dCons (dTup (dCons (dC (.bool true)) (dCons (dC (.int 2)) (dCons (dC (.int 3)) (dCons (dC (.int 4)) dNil))))) (dCons (dTup (dCons (dC (.int 2)) (dCons (dC (.int 4)) (dCons (dC (.bool true)) (dCons (dC (.int 3)) dNil))))) (dCons (dTup (dCons (dC (.int 1)) (dCons (dC (.int 3)) (dCons (dC (.int 0)) (dCons (dC (.int 2)) dNil))))) (dCons (dTup (dCons (dC (.int 5)) (dCons (dC (.int 7)) (dCons (dC (.int 4)) (dCons (dC (.int 6)) dNil))))) dNil))))))))))
    (sRet (dTup (dCons (dC (.str "simple")) (dCons (op2 fIx (dName 6) (dv (rD (callP [.m, .v] φ__law_take (vCons (dName 0) (vCons (dv (dC (.int 8))) vNil)))))) (dCons (dEsc (dName 4)) dNil)))))))))))))))))))
theorem bh_start {l l' : List D} {way : Int} (x : D) (hx : ∀ ys, x ≠ .list ys) (h : φ__law_take [.list l, .int 13] = .ret (.d (.int way)) l') : φ__law_bent_here [.list l, x] = outF [.m, .v] (bhRest [.own true l', .d x, .own false someD, .d (.int way), .u, .u, .u]) := by
  have m4 : fMulT (.tuple [.tuple [.str "one"]]) (.int 4) = some (.tuple [.tuple [.str "one"], .tuple [.str "one"], .tuple [.str "one"], .tuple [.str "one"]]) := Eq.trans rfl rfl
  have m5 : fMulT (.tuple [.tuple [.str "one"]]) (.int 5) = some (.tuple [.tuple [.str "one"], .tuple [.str "one"], .tuple [.str "one"], .tuple [.str "one"], .tuple [.str "one"]]) := Eq.trans rfl rfl
  have m2 : fMulT (.tuple [.tuple [.str "one"]]) (.int 2) = some (.tuple [.tuple [.str "one"], .tuple [.str "one"]]) := Eq.trans rfl rfl
  have m3 : fMulT (.tuple [.tuple [.str "one"]]) (.int 3) = some (.tuple [.tuple [.str "one"], .tuple [.str "one"], .tuple [.str "one"]]) := Eq.trans rfl rfl
  have z9 : (9 : Nat) ≤ sizeLine := by rw [sizeLine_eq]; decide
  have c1 : fAdd (.list (someD.take 9)) (.list ((someD.drop 9).take 3)) = none := Eq.trans rfl rfl
  have c2 := fCat_ok (someD.take 9) ((someD.drop 9).take 3) (by decide)
  have c3 : fAdd (.list (someD.take 12)) (.list (someD.drop 12)) = none := Eq.trans rfl rfl
  have c4 := fCat_ok (someD.take 12) (someD.drop 12) (by decide)
  simp only [List.take_succ_cons, List.take_zero, List.drop_succ_cons, List.drop_zero, List.cons_append, List.nil_append] at c1 c2 c3 c4
  unfold φ__law_bent_here m__law_bent_here
  cases x with
  | list ys => exact absurd rfl (hx ys)
  | _ => simp! only [z9, m2, m3, m4, m5, c1, c2, c3, c4, h]

theorem bent_simple_ok {l : List D} (hl : Deck l) (q : List Int) (hq : q.length ≤ 100) (hb : ∀ x ∈ q, x.natAbs ≤ 1000) : ∃ ys l', φ__law_bent_simple [.list l, ti q] = .ret (.d (.tuple ys)) l' ∧ Deck l' ∧ ys.length = q.length ∧ ∀ y ∈ ys, Sh 0 y ∧ sz y = 1 := by
  obtain ⟨way, l', h1, d1, w0, w1⟩ := take_ok hl 5 (by omega) (by omega)
  by_cases c3 : way = 3
  · subst c3
    have hc := compB_one (i := 4) (enc := PyData.int) (f := fun x => .int (if x = (q.length : Int) then (q.length : Int) + 1 else x)) (me := dIfE (dB (op2 fEq (dName 4) (dName 3))) (rD (op2r fAdd fCat (dName 3) (dv (dC (.int 1))))) (dEsc (dName 4))) (g := [.own true l', .d (ti q), .d (.int 3), .d (.int q.length), .u]) q (by omega) rfl fun x hx => by
      by_cases e : x = (q.length : Int)
      · simp! only [e, if_true]
      · simp! only [e, if_false]
    refine ⟨q.map (fun x => PyData.int (if x = (q.length : Int) then (q.length : Int) + 1 else x)), l', ?_, d1, ?_, ?_⟩
    rotate_left
    · exact List.length_map ..
    · intro y hy
      obtain ⟨x, _, rfl⟩ := List.mem_map.mp hy
      exact ⟨.int 0 _, rfl⟩
    · unfold φ__law_bent_simple m__law_bent_simple
      simp! only [List.length_map, h1, hc]
  by_cases c4 : way = 4
  · subst c4
    have hc := compB_one (i := 4) (enc := PyData.int) (f := fun x => if x = 1 then .bool true else .int x) (me := dIfE (dB (op2 fEq (dName 4) (dv (dC (.int 1))))) (dC (.bool true)) (dEsc (dName 4))) (g := [.own true l', .d (ti q), .d (.int 4), .d (.int q.length), .u]) q (by omega) rfl fun x hx => by
      by_cases e : x = 1
      · simp! only [e, if_true]
      · simp! only [e, if_false]
    refine ⟨q.map (fun x => if x = 1 then PyData.bool true else PyData.int x), l', ?_, d1, ?_, ?_⟩
    rotate_left
    · exact List.length_map ..
    · intro y hy
      obtain ⟨x, _, rfl⟩ := List.mem_map.mp hy
      split
      · exact ⟨.bool 0 _, rfl⟩
      · exact ⟨.int 0 _, rfl⟩
    · unfold φ__law_bent_simple m__law_bent_simple
      simp! only [List.length_map, h1, hc]
  · have hw : way = 0 ∨ way = 1 ∨ way = 2 := by omega
    have hc := compB_one (i := 4) (enc := PyData.int) (f := fun x => .int (if way = 0 then x - 1 else if way = 1 then x + 1 else 2 * x)) (me := op2 fIx (dv (dFz (dLst (dCons (op2 fSub (dName 4) (dv (dC (.int 1)))) (dCons (rD (op2r fAdd fCat (dName 4) (dv (dC (.int 1))))) (dCons (op2 fMul (dv (dC (.int 2))) (dName 4)) dNil)))))) (dName 2)) (g := [.own true l', .d (ti q), .d (.int way), .d (.int q.length), .u]) q (by omega) rfl fun x hx => by
      have hm := fMul_l 2 x (by decide)
      have i0 : ∀ a b c : D, fIx (.list [a, b, c]) (.int 0) = some a := fun a b c => fIx_l (i := 0) rfl
      have i1 : ∀ a b c : D, fIx (.list [a, b, c]) (.int 1) = some b := fun a b c => fIx_l (i := 1) rfl
      have i2 : ∀ a b c : D, fIx (.list [a, b, c]) (.int 2) = some c := fun a b c => fIx_l (i := 2) rfl
      rcases hw with rfl | rfl | rfl
      · simp! only [hm, i0, if_true]
      · simp! only [hm, i1, if_true, if_false]
      · simp! only [hm, i2, if_false]
    refine ⟨q.map (fun x => PyData.int (if way = 0 then x - 1 else if way = 1 then x + 1 else 2 * x)), l', ?_, d1, ?_, ?_⟩
    rotate_left
    · exact List.length_map ..
    · intro y hy
      obtain ⟨x, _, rfl⟩ := List.mem_map.mp hy
      exact ⟨.int 0 _, rfl⟩
    · unfold φ__law_bent_simple m__law_bent_simple
      simp! only [List.length_map, h1, hc, c3, c4]

def Rd : Rt → D → Prop
  | .d y, z => z = y
  | .own ys, z => z = .list ys
theorem sz_str (z : Str) : sz (.str z) = 1 := by rw [sz]
theorem sz_tu (xs : List D) : sz (.tuple xs) = 1 + szs xs := by rw [sz]
theorem sz_ls (xs : List D) : sz (.list xs) = 1 + szs xs := by rw [sz]
theorem sz_3 (a b c : D) : sz (.tuple [a, b, c]) = 1 + (sz a + (sz b + sz c)) := by rw [sz_tu, szs, szs, szs, szs]; omega
theorem szs_td (ts : List D) (k : Nat) : szs (ts.take k) + szs (ts.drop k) = szs ts := by rw [← szs_app, List.take_append_drop]
theorem szs_one (x : D) : szs [x] = sz x := by rw [szs, szs, Nat.add_zero]
theorem cut_from1 (ts : List D) (k : Nat) (h : k < ts.length) : fCutT (.tuple ts) (some ((k : Int) + 1)) none = some (.tuple (ts.drop (k + 1))) := fCutT_from ts (k + 1) (by omega)
theorem cut_take1 (ts : List D) (k : Nat) : fCutT (.tuple ts) none (some ((k : Int) + 1)) = some (.tuple (ts.take (k + 1))) := fCutT_take ts (k + 1)
theorem sh_app {k : Nat} {us vs : List D} (hu : ∀ z ∈ us, Sh k z) (hv : ∀ z ∈ vs, Sh k z) (hl : (us ++ vs).length ≤ 100000) : Sh (k + 1) (.tuple (us ++ vs)) := .tup hl fun z hz => by
  rcases List.mem_append.mp hz with h | h
  · exact hu z h
  · exact hv z h
theorem sh_1 {k : Nat} {x : D} (h : Sh k x) : ∀ z ∈ [x], Sh k z := fun z hz => by rw [List.mem_singleton.mp hz]; exact h
theorem fList_t (xs : List D) : fList [.tuple xs] = some xs := Eq.trans rfl rfl
theorem bh_gen {l : List D} (hl : Deck l) {m : Nat} {xs pre ts tl : List D} {s : Str} (hx : xs = pre ++ [.tuple ts]) (hone : fEq (.tuple xs) (.tuple [.str "one"]) = some (.bool false)) (hlast : fIx (.tuple xs) (.int (-1)) = some (.tuple ts)) (h0 : fIx (.tuple xs) (.int 0) = some (.str s)) (cs : PyData.canLay0 (.str s) = true)
    (hcd : fCutT (.tuple xs) none (some (-1)) = some (.tuple pre)) (htl : fCutT (.tuple xs) (some 1) none = some (.tuple tl)) (hts : ∀ t ∈ ts, Sh m t) (hpre : ∀ t ∈ pre, Sh (m + 1) t) (htl2 : ∀ t ∈ tl, Sh (m + 1) t) (stl : szs tl ≤ szs xs) (hne : 0 < ts.length) (hz : sz (.tuple xs) ≤ 40)
    (hq : s = "simple" → ∃ q : List Int, fIx (.tuple xs) (.int 1) = some (ti q) ∧ (∀ x ∈ q, x.natAbs ≤ 1000) ∧ q.length ≤ szs pre) :
    ∃ r y l', φ__law_bent_here [.list l, .tuple xs] = .ret r l' ∧ Rd r y ∧ Deck l' ∧ Sh (m + 6) y ∧ sz y ≤ 2 * sz (.tuple xs) + 20 := by
  obtain ⟨way, l1, e1, d1, w0, w1⟩ := take_ok hl 13 (by omega) (by omega)
  rw [bh_start (.tuple xs) (fun ys h => by cases h) e1]
  have hs1 : sz (.tuple xs) = 1 + szs xs := by rw [sz]
  have hs2 : szs xs = szs pre + (1 + szs ts) := by rw [hx, szs_app, szs_one, sz]
  have hpl := szs_len pre
  have htsl := szs_len ts
  have htll := szs_len tl
  have hxl := szs_len xs
  have hxs : ∀ z ∈ xs, Sh (m + 1) z := fun z hz => by
    rw [hx] at hz
    rcases List.mem_append.mp hz with h | h
    · exact hpre z h
    · rw [List.mem_singleton.mp h]
      exact .tup (by omega) hts
  have hT : Sh (m + 1) (.tuple ts) := .tup (by omega) hts
  have hS : Sh (m + 1) (.str s) := .str _ s cs
  by_cases c10 : way = 10
  · subst c10
    refine ⟨.own xs, .list xs, l1, ?_, rfl, d1, (Sh.lst (by omega) hxs).mono (by omega), by rw [sz_ls]; omega⟩
    unfold bhRest
    simp! only [fList_t]
  by_cases c3 : way < 3
  · obtain ⟨r, l2, e2, d2, r0, r1⟩ := take_ok d1 15 (by omega) (by omega)
    obtain ⟨y, hy, sy, zy⟩ := some_at r0 r1
    refine ⟨.d y, y, l2, ?_, rfl, d2, sy.mono (by omega), by omega⟩
    unfold bhRest
    simp! only [c10, c3, e2, hy]
  obtain ⟨at_, l2, e2, d2, a0, a1⟩ := take_ok d1 (ts.length : Int) (by omega) (by omega)
  obtain ⟨k, rfl⟩ : ∃ k : Nat, at_ = k := ⟨at_.toNat, by omega⟩
  have hk : k < ts.length := by omega
  have g1 := fCutT_take ts k
  have g2 := fCutT_from ts k (by omega)
  have g3 := cut_take1 ts k
  have g4 := cut_from1 ts k hk
  have z1 := szs_td ts k
  have z2 := szs_td ts (k + 1)
  have lt1 : (ts.take k).length ≤ ts.length := by rw [List.length_take]; omega
  have lt2 : (ts.take (k + 1)).length ≤ ts.length := by rw [List.length_take]; omega
  have lt3 : (ts.drop k).length ≤ ts.length := by rw [List.length_drop]; omega
  have lt4 : (ts.drop (k + 1)).length ≤ ts.length := by rw [List.length_drop]; omega
  have mt : ∀ j, ∀ z ∈ ts.take j, Sh m z := fun j z hz => hts z (List.mem_of_mem_take hz)
  have md : ∀ j, ∀ z ∈ ts.drop j, Sh m z := fun j z hz => hts z (List.mem_of_mem_drop hz)
  by_cases w3 : way = 3
  · subst w3
    have f1 := fAdd_tt' (ts.take k) (ts.drop (k + 1)) (by omega)
    have f2 := fAdd_tt' pre [.tuple (ts.take k ++ ts.drop (k + 1))] (by simp; omega)
    refine ⟨.d (.tuple (pre ++ [.tuple (ts.take k ++ ts.drop (k + 1))])), _, l2, ?_, rfl, d2, (sh_app hpre (sh_1 (sh_app (mt k) (md (k + 1)) (by rw [List.length_append]; omega))) (by simp; omega)).mono (by omega), ?_⟩
    · unfold bhRest
      simp! only [hone, hlast, e2, hcd, g1, g4, f1, f2]
    · have : szs (ts.drop (k + 1)) ≤ szs ts := by omega
      rw [sz_tu, szs_app, szs_one, sz_tu, szs_app]
      omega
  by_cases w4 : way = 4
  · subst w4
    have f1 := fAdd_tt' (ts.take (k + 1)) (ts.drop k) (by omega)
    have f2 := fAdd_tt' pre [.tuple (ts.take (k + 1) ++ ts.drop k)] (by simp; omega)
    refine ⟨.d (.tuple (pre ++ [.tuple (ts.take (k + 1) ++ ts.drop k)])), _, l2, ?_, rfl, d2, (sh_app hpre (sh_1 (sh_app (mt (k + 1)) (md k) (by rw [List.length_append]; omega))) (by simp; omega)).mono (by omega), ?_⟩
    · unfold bhRest
      simp! only [hone, hlast, e2, hcd, g2, g3, f1, f2]
    · rw [sz_tu, szs_app, szs_one, sz_tu, szs_app]
      omega
  by_cases w5 : way = 5
  · subst w5
    obtain ⟨r, l3, e3, d3, r0, r1⟩ := take_ok d2 8 (by omega) (by omega)
    obtain ⟨w, hw, sw, zw⟩ := words_at r0 r1
    have f2 := fAdd_tt' [w] tl (by simp; omega)
    have z8 : (8 : Nat) ≤ sizeLine := by rw [sizeLine_eq]; decide
    refine ⟨.d (.tuple ([w] ++ tl)), _, l3, ?_, rfl, d3, (sh_app (sh_1 (sw.mono (by omega))) htl2 (by simp; omega)).mono (by omega), ?_⟩
    · unfold bhRest
      simp! only [z8, hone, hlast, e2, e3, htl, hw, f2]
    · rw [sz_tu, szs_app, szs_one]
      omega
  by_cases w6 : way = 6
  · subst w6
    have f2 := fAdd_tt' xs [.tuple []] (by simp; omega)
    refine ⟨.d (.tuple (xs ++ [.tuple []])), _, l2, ?_, rfl, d2, (sh_app hxs (sh_1 (Sh.tup (n := m) (by simp) (fun _ h => absurd h List.not_mem_nil))) (by simp; omega)).mono (by omega), ?_⟩
    · unfold bhRest
      simp! only [hone, hlast, e2, f2]
    · rw [sz_tu, szs_app, szs_one, sz_tu [], szs]
      omega
  by_cases w7 : way = 7
  · subst w7
    refine ⟨.d (.tuple [.str s, .tuple ts]), _, l2, ?_, rfl, d2, (sh_app (sh_1 hS) (sh_1 hT) (by simp)).mono (by omega), ?_⟩
    · unfold bhRest
      simp! only [hone, hlast, h0, e2]
    · rw [sz_t2]
      omega
  by_cases w8 : way = 8
  · subst w8
    have h3 := fIx_t (List.getElem?_eq_getElem hk)
    have f2 := fAdd_tt' pre [ts[k]] (by simp; omega)
    have z3 : sz ts[k] ≤ szs ts := sz_mem (List.getElem_mem hk)
    refine ⟨.d (.tuple (pre ++ [ts[k]])), _, l2, ?_, rfl, d2, (sh_app hpre (sh_1 ((hts _ (List.getElem_mem hk)).mono (by omega))) (by simp; omega)).mono (by omega), ?_⟩
    · unfold bhRest
      simp! only [hone, hlast, e2, hcd, h3, f2]
    · rw [sz_tu, szs_app, szs_one]
      omega
  by_cases w11 : way = 11
  · subst w11
    have f2 := fAdd_tt' pre [.list ts] (by simp; omega)
    refine ⟨.d (.tuple (pre ++ [.list ts])), _, l2, ?_, rfl, d2, (sh_app hpre (sh_1 (Sh.lst (n := m) (by omega) hts)) (by simp; omega)).mono (by omega), ?_⟩
    · unfold bhRest
      simp! only [hone, hlast, e2, hcd, fList_t, f2]
    · rw [sz_tu, szs_app, szs_one, sz_ls]
      omega
  have em := str_eq s "simple" cs (by decide +kernel)
  have cS : Sh (m + 3) (.str "simple") := .str _ _ (by decide +kernel)
  have z8 : (8 : Nat) ≤ sizeLine := by rw [sizeLine_eq]; decide
  -- a simple order told otherwise
  have last : ∀ l3, Deck l3 → ∃ (y : D) (l' : List D) (r : Int), φ__law_take [.list l3, .int 8] = .ret (.d (.int r)) l' ∧ Deck l' ∧ fIx (.list rowD) (.int r) = some y ∧ Sh (m + 6) (.tuple [.str "simple", y, .tuple ts]) ∧ sz (.tuple [.str "simple", y, .tuple ts]) ≤ 2 * sz (.tuple xs) + 20 := fun l3 d3 => by
    obtain ⟨r, l4, e4, d4, r0, r1⟩ := take_ok d3 8 (by omega) (by omega)
    obtain ⟨y, hy, sy, zy⟩ := row_at r0 r1
    refine ⟨y, l4, r, e4, d4, hy, (Sh.tup (n := m + 3) (by simp) fun z hz => ?_).mono (by omega), ?_⟩
    · simp only [List.mem_cons, List.not_mem_nil, or_false] at hz
      rcases hz with rfl | rfl | rfl
      · exact cS
      · exact sy.mono (by omega)
      · exact hT.mono (by omega)
    · rw [sz_3, sz_str, sz_tu ts]
      omega
  by_cases hsim : s = "simple"
  · obtain ⟨q, h1, hqb, hql⟩ := hq hsim
    subst hsim
    rw [beq_self_eq_true] at em
    by_cases w12 : way = 12
    · subst w12
      refine ⟨.d (.tuple [.str "simple", .list (q.map .int), .tuple ts]), _, l2, ?_, rfl, d2, (Sh.tup (n := m + 3) (by simp) fun z hz => ?_).mono (by omega), ?_⟩
      · unfold bhRest
        simp! only [hone, hlast, h0, h1, e2, em, fList_t]
      · simp only [List.mem_cons, List.not_mem_nil, or_false] at hz
        rcases hz with rfl | rfl | rfl
        · exact cS
        · exact .lst (by rw [List.length_map]; omega) fun z hz => by
            obtain ⟨i, _, rfl⟩ := List.mem_map.mp hz
            exact .int _ _
        · exact hT.mono (by omega)
      · rw [sz_3, sz_str, sz_ls, sz_tu ts, szs_ints]
        omega
    obtain ⟨u, l3, e3, d3, u0, u1⟩ := take_ok d2 2 (by omega) (by omega)
    by_cases hu : u = 0
    · subst hu
      obtain ⟨ys, l4, e4, d4, ly, hy⟩ := bent_simple_ok d3 q (by omega) hqb
      have zys : szs ys = q.length := by
        rw [← ly]
        clear e4 ly
        induction ys with
        | nil => rfl
        | cons y ys ih =>
          rw [szs, ih fun z hz => hy z (List.mem_cons_of_mem _ hz), (hy y List.mem_cons_self).2, List.length_cons]
          omega
      refine ⟨.d (.tuple [.str "simple", .tuple ys, .tuple ts]), _, l4, ?_, rfl, d4, (Sh.tup (n := m + 3) (by simp) fun z hz => ?_).mono (by omega), ?_⟩
      · unfold bhRest
        simp! only [c10, c3, w3, w4, w5, w6, w7, w8, w11, w12, hone, hlast, h0, h1, e2, e3, e4, em]
      · simp only [List.mem_cons, List.not_mem_nil, or_false] at hz
        rcases hz with rfl | rfl | rfl
        · exact cS
        · exact .tup (by omega) fun z hz => (hy z hz).1.mono (by omega)
        · exact hT.mono (by omega)
      · rw [sz_3, sz_str, sz_tu ys, sz_tu ts, zys]
        omega
    · obtain ⟨y, l4, r, e4, d4, hy, sy, zy⟩ := last l3 d3
      refine ⟨.d (.tuple [.str "simple", y, .tuple ts]), _, l4, ?_, rfl, d4, sy, zy⟩
      unfold bhRest
      simp! only [z8, c10, c3, w3, w4, w5, w6, w7, w8, w11, w12, hu, hone, hlast, h0, h1, e2, e3, e4, em, hy]
  · rw [show (s == ("simple" : Str)) = false from beq_eq_false_iff_ne.mpr hsim] at em
    obtain ⟨y, l4, r, e4, d4, hy, sy, zy⟩ := last l2 d2
    refine ⟨.d (.tuple [.str "simple", y, .tuple ts]), _, l4, ?_, rfl, d4, sy, zy⟩
    by_cases w12 : way = 12
    · subst w12
      unfold bhRest
      simp! only [z8, hone, hlast, h0, e2, e4, em, hy]
    · unfold bhRest
      simp! only [z8, c10, c3, w3, w4, w5, w6, w7, w8, w11, w12, hone, hlast, h0, e2, e4, em, hy]

theorem cut_init (pre : List D) (l : D) : fCutT (.tuple (pre ++ [l])) none (some (-1)) = some (.tuple pre) := by
  have h1 : HT.sIx (pre ++ [l]).length 0 none = 0 := rfl
  have h2 : HT.sIx (pre ++ [l]).length (pre ++ [l]).length (some (-1)) = pre.length := by
    rw [List.length_append, List.length_singleton]
    unfold HT.sIx
    simp
    try omega
  show some (PyData.tuple (Z.cutD (pre ++ [l]) none (some (-1)))) = _
  unfold Z.cutD
  rw [h1, h2, List.drop_zero, Nat.sub_zero, List.take_left]
theorem cut_tail (x : D) (xs : List D) : fCutT (.tuple (x :: xs)) (some 1) none = some (.tuple xs) := fCutT_from (x :: xs) 1 (by simp)
theorem w_str {s : Str} (hs : s = "sum" ∨ s = "skew") : PyData.canLay0 (.str s) = true := by rcases hs with rfl | rfl <;> decide +kernel
theorem ordT_sh : ∀ {n : Nat} {x : D} {p : List Int}, ordT n x = some p → sz x ≤ 100 → Sh (2 * n) x
  | 0, x, p, h, _ => nomatch h
  | n + 1, x, p, h, hz => by
    have hi := ordT_inv h
    cases hi with
    | one => exact (shB_ok 1 _ (by decide +kernel)).mono (by omega)
    | @word s ts R hs e h1 h2 =>
      rw [sz_t2] at hz
      have hl := szs_len ts
      have ht : ∀ t ∈ ts, Sh (2 * n) t := fun t htt => by
        obtain ⟨q, _, hq⟩ := (mapO_some e).2 t htt
        exact ordT_sh hq (by have := sz_mem htt; omega)
      refine .tup (by simp) fun z hz2 => ?_
      rcases List.mem_cons.mp hz2 with rfl | hz2
      · exact .str _ _ (w_str hs)
      · rw [List.mem_singleton.mp hz2]
        exact .tup (by omega) ht
    | @simple q ts R e h1 h2 h3 =>
      rw [sz_t3] at hz
      have hl := szs_len ts
      have ht : ∀ t ∈ ts, Sh (2 * n) t := fun t htt => by
        obtain ⟨q, _, hq⟩ := (mapO_some e).2 t htt
        exact ordT_sh hq (by have := sz_mem htt; omega)
      refine .tup (by simp) fun z hz2 => ?_
      simp only [List.mem_cons, List.not_mem_nil, or_false] at hz2
      rcases hz2 with rfl | rfl | rfl
      · exact .str _ _ (by decide +kernel)
      · exact .tup (by rw [List.length_map]; omega) fun z hz => by
          obtain ⟨i, _, rfl⟩ := List.mem_map.mp hz
          exact .int _ _
      · exact .tup (by omega) ht
theorem bh_one {l : List D} (hl : Deck l) : ∃ r y l', φ__law_bent_here [.list l, .tuple [.str "one"]] = .ret r l' ∧ Rd r y ∧ Deck l' ∧ Sh 5 y ∧ sz y ≤ 20 := by
  obtain ⟨way, l1, e1, d1, w0, w1⟩ := take_ok hl 13 (by omega) (by omega)
  rw [bh_start (.tuple [.str "one"]) (fun ys h => by cases h) e1]
  by_cases c10 : way = 10
  · subst c10
    refine ⟨.own [.str "one"], .list [.str "one"], l1, ?_, rfl, d1, shB_ok 5 _ (by decide +kernel), by decide +kernel⟩
    unfold bhRest
    simp! only [fList_t]
  have h1 : fEq (.tuple [.str "one"]) (.tuple [.str "one"]) = some (.bool true) := (eq_one gd_one (by omega)).trans (by rfl)
  obtain ⟨r, l2, e2, d2, r0, r1⟩ := take_ok d1 15 (by omega) (by omega)
  obtain ⟨y, hy, sy, zy⟩ := some_at r0 r1
  refine ⟨.d y, y, l2, ?_, rfl, d2, sy.mono (by omega), by omega⟩
  by_cases c3 : way < 3
  · unfold bhRest
    simp! only [c10, c3, e2, hy]
  · unfold bhRest
    simp! only [c10, c3, h1, e2, hy]
/-- what stands in a tree -/
theorem inv_parts {n : Nat} {x : D} {p : List Int} (h : Inv n x p) (hz : sz x ≤ 100) : x = .tuple [.str "one"] ∨ ∃ (s : Str) (pre tl ts : List D) (R : List (List Int)), x = .tuple (.str s :: tl) ∧ .str s :: tl = pre ++ [.tuple ts] ∧ PyData.canLay0 (.str s) = true ∧ mapO (ordT n) ts = some R ∧ 1 < R.length ∧ (∀ t ∈ pre, Sh (2 * n + 1) t) ∧ (∀ t ∈ tl, Sh (2 * n + 1) t) ∧ (∀ t ∈ ts, Sh (2 * n) t) ∧
    (s = "simple" → ∃ q : List Int, fIx x (.int 1) = some (ti q) ∧ (∀ x ∈ q, x.natAbs ≤ 1000) ∧ q.length ≤ szs pre) := by
  cases h with
  | one => exact .inl rfl
  | @word s ts R hs e h1 h2 =>
    rw [sz_t2] at hz
    have hl := szs_len ts
    have ht : ∀ t ∈ ts, Sh (2 * n) t := fun t htt => by
      obtain ⟨q, _, hq⟩ := (mapO_some e).2 t htt
      exact ordT_sh hq (by have := sz_mem htt; omega)
    refine .inr ⟨s, [.str s], [.tuple ts], ts, R, rfl, rfl, w_str hs, e, h1, sh_1 (.str _ _ (w_str hs)), sh_1 (.tup (by omega) ht), ht, fun z => ?_⟩
    rcases hs with rfl | rfl
    · exact absurd z (by decide +kernel)
    · exact absurd z (by decide +kernel)
  | @simple q ts R e h1 h2 h3 =>
    rw [sz_t3] at hz
    have hl := szs_len ts
    have h4 := (simp_iff.mp h3).1
    have ht : ∀ t ∈ ts, Sh (2 * n) t := fun t htt => by
      obtain ⟨q, _, hq⟩ := (mapO_some e).2 t htt
      exact ordT_sh hq (by have := sz_mem htt; omega)
    have sq : Sh (2 * n + 1) (ti q) := .tup (by rw [List.length_map]; omega) fun z hz => by
      obtain ⟨i, _, rfl⟩ := List.mem_map.mp hz
      exact .int _ _
    refine .inr ⟨"simple", [.str "simple", ti q], [ti q, .tuple ts], ts, R, rfl, rfl, by decide +kernel, e, by omega, fun z hz => ?_, fun z hz => ?_, ht, fun _ => ⟨q, fIx_t (i := 1) rfl, fun x hx => ?_, ?_⟩⟩
    · simp only [List.mem_cons, List.not_mem_nil, or_false] at hz
      rcases hz with rfl | rfl
      · exact .str _ _ (by decide +kernel)
      · exact sq
    · simp only [List.mem_cons, List.not_mem_nil, or_false] at hz
      rcases hz with rfl | rfl
      · exact sq
      · exact .tup (by omega) ht
    · have := h1.lo x hx
      have := h1.hi x hx
      omega
    · rw [szs, szs, szs, sz_str, sz_tu, szs_ints]
      omega
theorem bent_ok : ∀ (n : Nat) (x : D) (p : List Int), n ≤ 12 → ordT n x = some p → sz x ≤ 40 → ∀ m, n ≤ m → ∀ l, Deck l → ∃ r y l', φ__law_bent m [.list l, x] = .ret r l' ∧ Rd r y ∧ Deck l' ∧ Sh (2 * n + 6) y ∧ sz y ≤ 2 * sz x + 20
  | 0, x, p, _, h, _, _, _, _, _ => nomatch h
  | n + 1, x, p, _, h, hz, 0, hm, _, _ => absurd hm (by omega)
  | n + 1, x, p, hn, h, hz, m + 1, hm, l, hl => by
    show ∃ r y l', runF 4 [.m, .v] (m__law_bent (φ__law_bent m)) [.list l, x] = .ret r l' ∧ _
    rcases inv_parts (ordT_inv h) (by omega) with rfl | ⟨s, pre, tl, ts, R, rfl, hx, cs, e, hR, hpre, htl, hts, hq⟩
    · obtain ⟨r, y, l', h1, h2, h3, h4, h5⟩ := bh_one hl
      have e1 : fEq (.tuple [.str "one"]) (.tuple [.str "one"]) = some (.bool true) := (eq_one gd_one (by omega)).trans (by rfl)
      refine ⟨r, y, l', ?_, h2, h3, h4.mono (by omega), by omega⟩
      unfold m__law_bent
      cases r <;> simp! only [e1, h1]
    have hlR := (mapO_some e).1
    have gx : Gd (2 * n + 2) (.tuple (.str s :: tl)) := gd_tuple fun z hz => by
      rcases List.mem_cons.mp hz with rfl | hz
      · exact (gd_str s cs).mono (by omega)
      · exact (htl z hz).gd
    have e1 : fEq (.tuple (.str s :: tl)) (.tuple [.str "one"]) = some (.bool false) := (eq_one gx (by omega)).trans (by
      cases tl with
      | nil =>
        cases pre with
        | nil => cases hx
        | cons a b => cases b <;> cases hx
      | cons b r => rw [one_3])
    have hlast : fIx (.tuple (.str s :: tl)) (.int (-1)) = some (.tuple ts) := by rw [hx]; exact fIx_last
    have h0 : fIx (.tuple (.str s :: tl)) (.int 0) = some (.str s) := fIx_t (i := 0) rfl
    have hcd : fCutT (.tuple (.str s :: tl)) none (some (-1)) = some (.tuple pre) := by rw [hx]; exact cut_init pre _
    have hsx : sz (.tuple (.str s :: tl)) = 1 + (szs pre + (1 + szs ts)) := by rw [hx, sz_tu, szs_app, szs_one, sz_tu]
    have hpl := szs_len pre
    have htsl := szs_len ts
    have here : ∀ l1, Deck l1 → ∃ r y l', φ__law_bent_here [.list l1, .tuple (.str s :: tl)] = .ret r l' ∧ Rd r y ∧ Deck l' ∧ Sh (2 * n + 6) y ∧ sz y ≤ 2 * sz (.tuple (.str s :: tl)) + 20 := fun l1 d1 =>
      bh_gen d1 hx e1 hlast h0 cs hcd (cut_tail _ _) hts hpre htl (by rw [szs]; omega) (by omega) hz hq
    obtain ⟨u, l1, e3, d1, u0, u1⟩ := take_ok hl 3 (by omega) (by omega)
    by_cases hu : u = 0
    · subst hu
      obtain ⟨r, y, l', h1, h2, h3, h4, h5⟩ := here l1 d1
      refine ⟨r, y, l', ?_, h2, h3, h4.mono (by omega), h5⟩
      unfold m__law_bent
      cases r <;> simp! only [e1, e3, h1]
    obtain ⟨at_, l2, e2, d2, a0, a1⟩ := take_ok d1 (ts.length : Int) (by omega) (by omega)
    obtain ⟨k, rfl⟩ : ∃ k : Nat, at_ = k := ⟨at_.toNat, by omega⟩
    have hk : k < ts.length := by omega
    have hmk : ts[k] ∈ ts := List.getElem_mem hk
    have zk : sz ts[k] ≤ szs ts := sz_mem hmk
    obtain ⟨q, _, hq2⟩ := (mapO_some e).2 _ hmk
    obtain ⟨r, y, l3, h1, h2, h3, h4, h5⟩ := bent_ok n ts[k] q (by omega) hq2 (by omega) m (by omega) l2 d2
    have g0 := fIx_t (List.getElem?_eq_getElem hk)
    have g1 := fCutT_take ts k
    have g4 := cut_from1 ts k hk
    have lt1 : (ts.take k).length ≤ ts.length := by rw [List.length_take]; omega
    have lt4 : (ts.drop (k + 1)).length ≤ ts.length := by rw [List.length_drop]; omega
    have f1 := fAdd_tt' (ts.take k) [y] (by simp; omega)
    have f2 := fAdd_tt' (ts.take k ++ [y]) (ts.drop (k + 1)) (by simp; omega)
    have f3 := fAdd_tt' pre [.tuple (ts.take k ++ [y] ++ ts.drop (k + 1))] (by simp; omega)
    have z1 := szs_td ts k
    rw [List.drop_eq_getElem_cons hk, szs] at z1
    refine ⟨.d (.tuple (pre ++ [.tuple (ts.take k ++ [y] ++ ts.drop (k + 1))])), _, l3, ?_, rfl, h3, ?_, ?_⟩
    · unfold m__law_bent
      cases r with
      | d y' =>
        have : y = y' := h2
        subst this
        simp! only [e1, e3, hu, hlast, e2, hcd, g0, g1, g4, h1, f1, f2, f3]
      | own ys =>
        have : y = .list ys := h2
        subst this
        simp! only [e1, e3, hu, hlast, e2, hcd, g0, g1, g4, h1, f1, f2, f3]
    · have m1 : ∀ z ∈ ts.take k, Sh (2 * n + 6) z := fun z hz => (hts z (List.mem_of_mem_take hz)).mono (by omega)
      have m2 : ∀ z ∈ ts.drop (k + 1), Sh (2 * n + 6) z := fun z hz => (hts z (List.mem_of_mem_drop hz)).mono (by omega)
      refine (sh_app (k := 2 * n + 7) (fun z hz => (hpre z hz).mono (by omega)) (sh_1 (Sh.tup (n := 2 * n + 6) ?_ fun z hz => ?_)) (by simp; omega)).mono (by omega)
      · simp
        omega
      · rcases List.mem_append.mp hz with hz | hz
        · rcases List.mem_append.mp hz with hz | hz
          · exact m1 z hz
          · rw [List.mem_singleton.mp hz]
            exact h4
        · exact m2 z hz
    · rw [hsx, sz_tu, szs_app, szs_one, sz_tu, szs_app, szs_app, szs_one]
      omega

theorem rank_dict (c : List Int) (nd : c.Nodup) (hc : c.length ≤ 900) (f : SV) :
    dcB [2, 3] (.tup [.nm 2, .nm 3]) (rt true) (dEsc (dName 3)) (rD (op2r fAdd fCat (dName 2) (dv (dC (.int 1))))) (enumD 0 ((srt c).map .int)) [f, .u, .u, .u] = .ok (.dict ((irange 0 (srt c).length).map fun i => (.int ((srt c).getD i.toNat 0), .int (i + 1)))) [f, .u, .u, .u] := by
  have hl := srt_len c
  rw [enumD_irange]
  have h := dcB_ok (vs := [2, 3]) (t := .tup [.nm 2, .nm 3]) (mt := rt true) (mk := dEsc (dName 3)) (mv := rD (op2r fAdd fCat (dName 2) (dv (dC (.int 1))))) (enc := fun i : Int => .tuple [.int i, .int ((srt c).getD i.toNat 0)]) (fv := fun i => .int (i + 1)) (fk := fun i => .inl ((srt c).getD i.toNat 0)) (g := [f, .u, .u, .u]) (irange 0 (srt c).length) (by rw [irange_len]; exact sz_le (by omega)) rfl fun i hi => by
    refine ⟨[f, .u, .d (.int i), .d (.int ((srt c).getD i.toNat 0))], ?_, by simp! only [], by simp! only []; rfl, by simp! only [], by simp! only []⟩
    rw [setT_tup, setTs_cons _ _ _ _ _ _ (setT_nm _ _ _), setTs_cons _ _ _ _ _ _ (setT_nm _ _ _), setTs_nil]
    simp! only []
  rw [h, fold_fresh]
  · rfl
  · refine (irange_sorted 0 _).imp_of_mem fun {i j} hi hj hij e => ?_
    have hi' := irange_mem.mp hi
    have hj' := irange_mem.mp hj
    have := at0_inj (q := srt c) ((srt_perm c).nodup_iff.mpr nd) (i := i.toNat) (j := j.toNat) (by omega) (by omega) (Sum.inl.inj e)
    omega
  · exact fun _ _ p hp => absurd hp List.not_mem_nil
theorem rank_find (c : List Int) (nd : c.Nodup) {x : Int} (hx : x ∈ c) : fIx (.dict ((irange 0 (srt c).length).map fun i => (.int ((srt c).getD i.toNat 0), .int (i + 1)))) (.int x) = some (.int (1 + ((c.filter fun y => decide (y < x)).length : Int))) := by
  obtain ⟨i, hi, e⟩ := mem_at0 ((srt_perm c).mem_iff.mpr hx)
  have h := dfind_map (fk := fun i : Int => (.inl ((srt c).getD i.toNat 0) : Key)) (fv := fun i => .int (i + 1)) (irange 0 (srt c).length) (i : Int) (irange_mem.mpr ⟨by omega, by omega⟩) fun j hj ej => by
    have hj' := irange_mem.mp hj
    have := at0_inj (q := srt c) ((srt_perm c).nodup_iff.mpr nd) (i := j.toNat) (j := ((i : Int)).toNat) (by omega) (by omega) (Sum.inl.inj ej)
    omega
  have e2 : (srt c).getD ((i : Int)).toNat 0 = x := by rw [Int.toNat_natCast]; exact e
  have h' : dfind ((irange 0 (srt c).length).map fun i => (PyData.int ((srt c).getD i.toNat 0), PyData.int (i + 1))) (.inl ((srt c).getD ((i : Int)).toNat 0)) = some (.int ((i : Int) + 1)) := h
  rw [e2] at h'
  have hr := rank_like nd hi
  rw [show (srt c).getD i 0 = x from e] at hr
  rw [← hr]
  exact h'
theorem compared_ok (c : List Int) (nd : c.Nodup) (hc : c.length ≤ 900) : φ_compared [ti c] = .ret (.d (ti (like c))) [] := by
  have h1 := fSorted_t _ (okSort_ints c (by omega))
  have h2 := srt_ints c
  have h3 := rank_dict c nd hc (.d (ti c))
  have h4 := compB_one (i := 3) (enc := PyData.int) (f := fun x => .int (1 + ((c.filter fun y => decide (y < x)).length : Int))) (me := op2 fIx (dName 1) (dName 3)) (g := [.d (ti c), .d (.dict ((irange 0 (srt c).length).map fun i => (.int ((srt c).getD i.toNat 0), .int (i + 1)))), .u, .u]) c (by omega) rfl fun x hx => by
    have := rank_find c nd hx
    simp! only [this]
  have e : c.map (fun x => PyData.int (1 + ((c.filter fun y => decide (y < x)).length : Int))) = (like c).map .int := by
    unfold like
    rw [List.map_map]
    rfl
  rw [e] at h4
  unfold φ_compared m_compared
  simp! only [h1, h2, h3, h4]
theorem wh_step {ms : List Nat} {t : M Bool} {b : M Fl} {n : Nat} {g g1 g2 : En} (h1 : t g = .ok true g1) (h2 : b g1 = .ok .nx g2) : whG ms t b (n + 1) g = whG ms t b n (Z.fgt ms g2) := by
  rw [whG, bnd, h1]
  dsimp only
  rw [if_pos rfl, h2]
theorem wh_end {ms : List Nat} {t : M Bool} {b : M Fl} {n : Nat} {g g1 : En} (h1 : t g = .ok false g1) : whG ms t b (n + 1) g = .ok .nx (Z.fgt ms g1) := by
  rw [whG, bnd, h1]
  dsimp only
  rw [if_neg (by decide)]
theorem compared_l (c : List Int) (nd : c.Nodup) (hc : c.length ≤ 900) : φ_compared [li c] = .ret (.d (ti (like c))) [] := by
  have h1 : fSorted [.list (c.map .int)] = _ := fSorted_l _ (okSort_ints c (by omega))
  have h2 := srt_ints c
  have h3 := rank_dict c nd hc (.a (c.map .int))
  have h4 := compB_one (i := 3) (enc := PyData.int) (f := fun x => .int (1 + ((c.filter fun y => decide (y < x)).length : Int))) (me := op2 fIx (dName 1) (dName 3)) (g := [.a (c.map .int), .d (.dict ((irange 0 (srt c).length).map fun i => (.int ((srt c).getD i.toNat 0), .int (i + 1)))), .u, .u]) c (by omega) rfl fun x hx => by
    have := rank_find c nd hx
    simp! only [this]
  have e : c.map (fun x => PyData.int (1 + ((c.filter fun y => decide (y < x)).length : Int))) = (like c).map .int := by
    unfold like
    rw [List.map_map]
    rfl
  rw [e] at h4
  unfold φ_compared m_compared
  simp! only [h1, h2, h3, h4]

def restB (p : List Int) : List (Nat × Nat) := (BL p p.length).filter fun x => !decide (x = (0, p.length))
def stops (p : List Int) (b : Nat) : List Int := ((restB p).filter fun x => decide (x.1 = b)).map fun x => (x.2 : Int)
def gend (p : List Int) (b : Nat) : Nat := (mx (stops p b)).toNat
def gchain (p : List Int) : Nat → Nat → List (Nat × Nat)
  | 0, _ => []
  | f + 1, b => if b < p.length then (b, gend p b) :: gchain p f (gend p b) else []
/-- the greatest block but the whole that begins at b -/
structure GB (p : List Int) (b e : Nat) : Prop where
  lt : b < e
  le : e ≤ p.length
  bl : blk p b e = true
  nw : (b, e) ≠ (0, p.length)
  gr : ∀ e', e < e' → e' ≤ p.length → blk p b e' = true → (b, e') = (0, p.length)
theorem restB_mem {p : List Int} {x : Nat × Nat} : x ∈ restB p ↔ x.1 < x.2 ∧ x.2 ≤ p.length ∧ blk p x.1 x.2 = true ∧ x ≠ (0, p.length) := by
  unfold restB
  rw [List.mem_filter, BL_mem (Nat.le_refl _)]
  simp only [Bool.not_eq_true', decide_eq_false_iff_not]
  constructor
  · rintro ⟨⟨_, h2, h3, h4⟩, h5⟩
    exact ⟨h2, h3, h4, h5⟩
  · rintro ⟨h2, h3, h4, h5⟩
    exact ⟨⟨by omega, h2, h3, h4⟩, h5⟩
theorem stops_mem {p : List Int} {b : Nat} {y : Int} : y ∈ stops p b ↔ ∃ e : Nat, y = e ∧ b < e ∧ e ≤ p.length ∧ blk p b e = true ∧ (b, e) ≠ (0, p.length) := by
  unfold stops
  rw [List.mem_map]
  constructor
  · rintro ⟨x, hx, rfl⟩
    rw [List.mem_filter, restB_mem, decide_eq_true_eq] at hx
    obtain ⟨⟨h1, h2, h3, h4⟩, rfl⟩ := hx
    exact ⟨x.2, rfl, h1, h2, h3, h4⟩
  · rintro ⟨e, rfl, h1, h2, h3, h4⟩
    exact ⟨(b, e), List.mem_filter.mpr ⟨restB_mem.mpr ⟨h1, h2, h3, h4⟩, decide_eq_true rfl⟩, rfl⟩
theorem blk_one {p : List Int} {b : Nat} (h : b < p.length) : blk p b (b + 1) = true := by
  unfold blk
  rw [stch_one h]
  unfold tight
  rw [mx_is (List.mem_singleton.mpr rfl) (fun y hy => by rw [List.mem_singleton.mp hy]; omega), mn_is (List.mem_singleton.mpr rfl) (fun y hy => by rw [List.mem_singleton.mp hy]; omega)]
  simp
theorem gend_gb {p : List Int} {b : Nat} (h2 : 2 ≤ p.length) (hb : b < p.length) : GB p b (gend p b) := by
  have hm : ((b + 1 : Nat) : Int) ∈ stops p b := stops_mem.mpr ⟨b + 1, rfl, by omega, by omega, blk_one hb, fun z => by
    injection z with z1 z2
    omega⟩
  have hne : stops p b ≠ [] := List.ne_nil_of_mem hm
  obtain ⟨e, he, e1, e2, e3, e4⟩ := stops_mem.mp (mx_mem hne)
  have hg : gend p b = e := by unfold gend; rw [he]; exact Int.toNat_natCast e
  rw [hg]
  refine ⟨e1, e2, e3, e4, fun e' h3 h4 h5 => Classical.byContradiction fun h6 => ?_⟩
  have := mx_ge (stops_mem.mpr ⟨e', rfl, by omega, h4, h5, h6⟩ : (e' : Int) ∈ stops p b)
  omega
abbrev whT : M Bool := (dB (op2 fLt (dName 4) (dv (opN fLen (vCons (dName 0) vNil)))))
abbrev whB : M Fl := (dSeq (sSet 5 (opN fMax (vCons (dv (dFz (compL [6, 7] (.tup [(.nm 6), (.nm 7)]) (iV (dName 1)) (dB (op2 fEq (dName 6) (dName 4))) (dEsc (dName 7))))) vNil)))
    (dSeq (sExpr (dMut 3 mAppend (dCons (dTup (dCons (dEsc (dName 4)) (dCons (dEsc (dName 5)) dNil))) dNil)))
    (sMove 4 5)))
theorem stop_comp (p : List Int) (b : Nat) (F : SV) (hF : noOwn [.d (ti p), .d (.list ((restB p).map encB)), .u, F, .d (.int (b : Int)), .u, .u, .u] [6, 7] = true) (hl : (restB p).length ≤ 100000) :
    compB [6, 7] (.tup [.nm 6, .nm 7]) (dB (op2 fEq (dName 6) (dName 4))) (dEsc (dName 7)) ((restB p).map encB) [.d (ti p), .d (.list ((restB p).map encB)), .u, F, .d (.int (b : Int)), .u, .u, .u] =
    .ok ((stops p b).map .int) [.d (ti p), .d (.list ((restB p).map encB)), .u, F, .d (.int (b : Int)), .u, .u, .u] := by
  have h := compB_ok (vs := [6, 7]) (t := .tup [.nm 6, .nm 7]) (enc := encB) (f := fun x => .int (x.2 : Int)) (p := fun x => decide (x.1 = b)) (mt := dB (op2 fEq (dName 6) (dName 4))) (me := dEsc (dName 7)) (g := [.d (ti p), .d (.list ((restB p).map encB)), .u, F, .d (.int (b : Int)), .u, .u, .u]) (restB p) (sz_le (by omega)) hF fun x hx => by
    have he : decide ((x.1 : Int) = (b : Int)) = decide (x.1 = b) := decide_eq_decide.mpr (by omega)
    refine ⟨[.d (ti p), .d (.list ((restB p).map encB)), .u, F, .d (.int (b : Int)), .u, .d (.int (x.1 : Int)), .d (.int (x.2 : Int))], ?_, ?_, fun _ => by simp! only [], by simp! only []⟩
    · unfold encB
      rw [setT_tup, setTs_cons _ _ _ _ _ _ (setT_nm _ _ _), setTs_cons _ _ _ _ _ _ (setT_nm _ _ _), setTs_nil]
      simp! only []
    · rw [← he]
      simp! only []
  rw [h]
  unfold stops
  rw [List.map_map]
  rfl
theorem gb_run (p : List Int) (h2 : 2 ≤ p.length) (hp : p.length ≤ 100) : ∀ (f b n : Nat) (F : List (Nat × Nat)), p.length ≤ b + f → b ≤ p.length → f + 1 ≤ n → F.length ≤ b →
    whG [5] whT whB n [.d (ti p), .d (.list ((restB p).map encB)), .u, .own false (F.map encB), .d (.int (b : Int)), .u, .u, .u] = .ok .nx [.d (ti p), .d (.list ((restB p).map encB)), .u, .own false ((F ++ gchain p f b).map encB), .d (.int (p.length : Int)), .u, .u, .u] := by
  have hl : (restB p).length ≤ 100000 := by
    have h1 : (restB p).length ≤ (BL p p.length).length := List.length_filter_le _ _
    have h2 := BL_len p p.length
    have h3 : p.length * p.length ≤ 100 * 100 := Nat.mul_le_mul hp hp
    omega
  intro f
  induction f with
  | zero =>
    intro b n F h1 h3 h4 h5
    obtain rfl : b = p.length := by omega
    obtain ⟨n, rfl⟩ : ∃ k, n = k + 1 := ⟨n - 1, by omega⟩
    have ht : whT [.d (ti p), .d (.list ((restB p).map encB)), .u, .own false (F.map encB), .d (.int (p.length : Int)), .u, .u, .u] = .ok false [.d (ti p), .d (.list ((restB p).map encB)), .u, .own false (F.map encB), .d (.int (p.length : Int)), .u, .u, .u] := by
      have hn : ¬ (p.length : Int) < p.length := by omega
      unfold whT
      simp! only [List.length_map, hn]
    rw [wh_end ht]
    simp! only [gchain, List.append_nil]
  | succ f ih =>
    intro b n F h1 h3 h4 h5
    obtain ⟨n, rfl⟩ : ∃ k, n = k + 1 := ⟨n - 1, by omega⟩
    by_cases hb : b < p.length
    · have g := gend_gb h2 hb
      have ht : whT [.d (ti p), .d (.list ((restB p).map encB)), .u, .own false (F.map encB), .d (.int (b : Int)), .u, .u, .u] = .ok true [.d (ti p), .d (.list ((restB p).map encB)), .u, .own false (F.map encB), .d (.int (b : Int)), .u, .u, .u] := by
        have hn : (b : Int) < p.length := by omega
        unfold whT
        simp! only [List.length_map, hn]
      have hc := stop_comp p b (.own false (F.map encB)) rfl hl
      have hne : stops p b ≠ [] := List.ne_nil_of_mem (stops_mem.mpr ⟨gend p b, rfl, g.lt, g.le, g.bl, g.nw⟩)
      have hm := fMax_l hne
      have hmx : mx (stops p b) = (gend p b : Int) := by
        obtain ⟨e, he, _⟩ := stops_mem.mp (mx_mem hne)
        unfold gend
        rw [he, Int.toNat_natCast]
      rw [hmx] at hm
      have ha := mAppend_ok (F.map encB) (encB (b, gend p b)) (by rw [List.length_map]; exact sz_lt (by omega))
      unfold encB at ha
      have hbd : whB [.d (ti p), .d (.list ((restB p).map encB)), .u, .own false (F.map encB), .d (.int (b : Int)), .u, .u, .u] = .ok .nx [.d (ti p), .d (.list ((restB p).map encB)), .u, .own false ((F ++ [(b, gend p b)]).map encB), .d (.int (gend p b : Int)), .u, .u, .u] := by
        unfold encB at hc ⊢
        unfold whB
        simp! only [hc, hm, ha, List.map_append, List.map_cons, List.map_nil]
      rw [wh_step ht hbd]
      have e2 : Z.fgt [5] [SV.d (ti p), .d (.list ((restB p).map encB)), .u, .own false ((F ++ [(b, gend p b)]).map encB), .d (.int (gend p b : Int)), .u, .u, .u] = [.d (ti p), .d (.list ((restB p).map encB)), .u, .own false ((F ++ [(b, gend p b)]).map encB), .d (.int (gend p b : Int)), .u, .u, .u] := by simp! only []
      have g1 := g.lt
      have g2 := g.le
      rw [e2, ih (gend p b) n (F ++ [(b, gend p b)]) (by omega) (by omega) (by omega) (by rw [List.length_append, List.length_singleton]; omega), List.append_assoc]
      rw [show gchain p (f + 1) b = (b, gend p b) :: gchain p f (gend p b) by rw [gchain, if_pos hb]]
      rfl
    · obtain rfl : b = p.length := by omega
      have := ih p.length (n + 1) F (by omega) (by omega) (by omega) h5
      rw [this]
      rw [show gchain p f p.length = [] by cases f with | zero => rfl | succ f => rw [gchain, if_neg (by omega)], show gchain p (f + 1) p.length = [] by rw [gchain, if_neg (by omega)]]

def gbs (p : List Int) : List (Nat × Nat) := gchain p p.length 0
theorem ne_blk (p : List Int) (x : Nat × Nat) : fNe (encB x) (.tuple [.int 0, .int (p.length : Int)]) = some (.bool (!decide (x = (0, p.length)))) := by
  have h := fNe_gd (gd_encB 0 x) (gd_encB 0 (0, p.length)) (by decide) (by decide)
  have e : PyData.eqv (encB x) (encB (0, p.length)) = decide (x = (0, p.length)) := by
    show (((x.1 : Int) == ((0 : Nat) : Int)) && (((x.2 : Int) == (p.length : Int)) && true)) = _
    rw [Bool.and_true, Bool.eq_iff_iff]
    simp only [Bool.and_eq_true, beq_iff_eq, decide_eq_true_eq]
    constructor
    · rintro ⟨h1, h2⟩
      exact Prod.ext (by omega) (by show x.2 = p.length; omega)
    · intro h
      rw [h]
      exact ⟨rfl, rfl⟩
  rw [e] at h
  exact h
theorem own_first (p : List Int) (h2 : 2 ≤ p.length) (hp : p.length ≤ 100) (n : Nat) : whG [5] whT whB (n + 1) [.d (ti p), .own false ((restB p).map encB), .u, .own false [], .d (.int 0), .u, .u, .u] = whG [5] whT whB (n + 1) [.d (ti p), .d (.list ((restB p).map encB)), .u, .own false [], .d (.int 0), .u, .u, .u] := by
  have hl : (restB p).length ≤ 100000 := by
    have h1 : (restB p).length ≤ (BL p p.length).length := List.length_filter_le _ _
    have h2 := BL_len p p.length
    have h3 : p.length * p.length ≤ 100 * 100 := Nat.mul_le_mul hp hp
    omega
  have hb : 0 < p.length := by omega
  have g := gend_gb h2 hb
  have hn : (0 : Int) < p.length := by omega
  have ht1 : whT [.d (ti p), .own false ((restB p).map encB), .u, .own false [], .d (.int 0), .u, .u, .u] = .ok true [.d (ti p), .own false ((restB p).map encB), .u, .own false [], .d (.int 0), .u, .u, .u] := by
    unfold whT
    simp! only [List.length_map, hn]
  have ht2 : whT [.d (ti p), .d (.list ((restB p).map encB)), .u, .own false [], .d (.int 0), .u, .u, .u] = .ok true [.d (ti p), .d (.list ((restB p).map encB)), .u, .own false [], .d (.int 0), .u, .u, .u] := by
    unfold whT
    simp! only [List.length_map, hn]
  have hc := stop_comp p 0 (.own false []) rfl hl
  have hne : stops p 0 ≠ [] := List.ne_nil_of_mem (stops_mem.mpr ⟨gend p 0, rfl, g.lt, g.le, g.bl, g.nw⟩)
  have hm := fMax_l hne
  have hmx : mx (stops p 0) = (gend p 0 : Int) := by
    obtain ⟨e, he, _⟩ := stops_mem.mp (mx_mem hne)
    unfold gend
    rw [he, Int.toNat_natCast]
  rw [hmx] at hm
  have ha := mAppend_ok [] (encB (0, gend p 0)) (by simp [sizeLine_eq])
  unfold encB at ha
  have nc0 : ((0 : Nat) : Int) = 0 := rfl
  rw [List.nil_append] at ha
  have hc' : compB [6, 7] (.tup [.nm 6, .nm 7]) (dB (op2 fEq (dName 6) (dName 4))) (dEsc (dName 7)) ((restB p).map encB) [.d (ti p), .d (.list ((restB p).map encB)), .u, .own false [], .d (.int 0), .u, .u, .u] = .ok ((stops p 0).map .int) [.d (ti p), .d (.list ((restB p).map encB)), .u, .own false [], .d (.int 0), .u, .u, .u] := hc
  have ha' : mAppend [] [.tuple [.int 0, .int (gend p 0 : Int)]] = some ([.tuple [.int 0, .int (gend p 0 : Int)]], .none) := ha
  have hb1 : whB [.d (ti p), .own false ((restB p).map encB), .u, .own false [], .d (.int 0), .u, .u, .u] = .ok .nx [.d (ti p), .d (.list ((restB p).map encB)), .u, .own false [.tuple [.int 0, .int (gend p 0 : Int)]], .d (.int (gend p 0 : Int)), .u, .u, .u] := by
    unfold whB
    simp! only [hc', hm, ha']
  have hb2 : whB [.d (ti p), .d (.list ((restB p).map encB)), .u, .own false [], .d (.int 0), .u, .u, .u] = .ok .nx [.d (ti p), .d (.list ((restB p).map encB)), .u, .own false [.tuple [.int 0, .int (gend p 0 : Int)]], .d (.int (gend p 0 : Int)), .u, .u, .u] := by
    unfold whB
    simp! only [hc', hm, ha']
  rw [wh_step ht1 hb1, wh_step ht2 hb2]
theorem greatest_ok (p : List Int) (h2 : 2 ≤ p.length) (hp : p.length ≤ 100) : φ_greatest_blocks [ti p] = .ret (.own ((gbs p).map encB)) [] := by
  have hl : (BL p p.length).length ≤ 100000 := by
    have h2 := BL_len p p.length
    have h3 : p.length * p.length ≤ 100 * 100 := Nat.mul_le_mul hp hp
    omega
  have h1 := blocks_of_ok p hp
  have hc := compB_fil (i := 2) (enc := encB) (f := encB) (p := fun x => !decide (x = (0, p.length))) (mt := dB (op2 fNe (dName 2) (dv (dTup (dCons (dC (.int 0)) (dCons (opN fLen (vCons (dName 0) vNil)) dNil)))))) (me := dEsc (dName 2)) (g := [.d (ti p), .u, .u, .u, .u, .u, .u, .u]) (BL p p.length) hl rfl fun x hx => by
    have e := ne_blk p x
    exact ⟨by simp! only [List.length_map, e], fun _ => by simp! only []⟩
  have hc : compB [2] (.nm 2) (dB (op2 fNe (dName 2) (dv (dTup (dCons (dC (.int 0)) (dCons (opN fLen (vCons (dName 0) vNil)) dNil)))))) (dEsc (dName 2)) ((BL p p.length).map encB) [.d (ti p), .u, .u, .u, .u, .u, .u, .u] = .ok ((restB p).map encB) [.d (ti p), .u, .u, .u, .u, .u, .u, .u] := hc
  have hr := gb_run p h2 hp p.length 0 1000000 [] (by omega) (by omega) (by omega) (by simp)
  rw [List.map_nil, List.nil_append] at hr
  unfold φ_greatest_blocks m_greatest_blocks
  simp! only [List.length_map, h1, hc]
  have hw : sWh [5] whT whB [.d (ti p), .own false ((restB p).map encB), .u, .own false [], .d (.int 0), .u, .u, .u] = .ok .nx [.d (ti p), .d (.list ((restB p).map encB)), .u, .own false ((gbs p).map encB), .d (.int (p.length : Int)), .u, .u, .u] := by
    unfold sWh
    rw [show (1000000 : Nat) = 999999 + 1 from rfl, own_first p h2 hp]
    exact hr
  rw [hw]
  simp! only []

/-! ### blocks by places -/
theorem stch_mem {p : List Int} {a b : Nat} (hb : b ≤ p.length) {y : Int} : y ∈ stch p a b ↔ ∃ t, a ≤ t ∧ t < b ∧ at0 p t = y := by
  have hl := stch_len (a := a) hb
  have hat : ∀ i, i < b - a → (stch p a b)[i]? = some (at0 p (a + i)) := fun i hi => by
    unfold stch
    rw [List.getElem?_take_of_lt hi, List.getElem?_drop, getD_get (by omega)]
  constructor
  · intro h
    obtain ⟨i, hi, e⟩ := List.getElem_of_mem h
    rw [hl] at hi
    have := hat i hi
    rw [List.getElem?_eq_getElem (by omega), e] at this
    exact ⟨a + i, by omega, by omega, (Option.some.inj this).symm⟩
  · rintro ⟨t, h1, h2, rfl⟩
    have := hat (t - a) (by omega)
    rw [show a + (t - a) = t by omega] at this
    exact List.mem_of_getElem? this
theorem blk_in {p : List Int} (nd : p.Nodup) {a b : Nat} (hb : b ≤ p.length) (h : blk p a b = true) {t1 t2 t : Nat} (h1 : a ≤ t1 ∧ t1 < b) (h2 : a ≤ t2 ∧ t2 < b) (ht : t < p.length) (l1 : at0 p t1 < at0 p t) (l2 : at0 p t < at0 p t2) : a ≤ t ∧ t < b := by
  have m1 : at0 p t1 ∈ stch p a b := (stch_mem hb).mpr ⟨t1, h1.1, h1.2, rfl⟩
  have m2 : at0 p t2 ∈ stch p a b := (stch_mem hb).mpr ⟨t2, h2.1, h2.2, rfl⟩
  have hp := tight_perm (stch_nd nd a b) h
  have k1 := irange_mem.mp (hp.mem_iff.mp m1)
  have k2 := irange_mem.mp (hp.mem_iff.mp m2)
  have m3 : at0 p t ∈ stch p a b := hp.mem_iff.mpr (irange_mem.mpr ⟨by omega, by omega⟩)
  obtain ⟨t', a1, a2, a3⟩ := (stch_mem hb).mp m3
  have := at0_inj nd (by omega) ht a3
  omega
theorem blk_of {p : List Int} (ip : IsOrd p) {a b : Nat} (hab : a < b) (hb : b ≤ p.length) (h : ∀ t1 t2 t, a ≤ t1 → t1 < b → a ≤ t2 → t2 < b → t < p.length → at0 p t1 < at0 p t → at0 p t < at0 p t2 → a ≤ t ∧ t < b) : blk p a b = true := by
  have hne := stch_ne hb hab
  have nd := stch_nd ip.nd a b
  obtain ⟨t1, a1, a2, a3⟩ := (stch_mem hb).mp (mn_mem hne)
  obtain ⟨t2, b1, b2, b3⟩ := (stch_mem hb).mp (mx_mem hne)
  have lo : 1 ≤ mn (stch p a b) := by rw [← a3]; exact ip.lo _ (at0_mem (by omega))
  have hi : mx (stch p a b) ≤ p.length := by rw [← b3]; exact ip.hi _ (at0_mem (by omega))
  have hle : mn (stch p a b) ≤ mx (stch p a b) := mn_le (mx_mem hne)
  have hp : (stch p a b).Perm (irange (mn (stch p a b)) (mx (stch p a b) - mn (stch p a b) + 1).toNat) := by
    refine (List.perm_ext_iff_of_nodup nd ((irange_sorted _ _).imp fun {x y} h => Int.ne_of_lt h)).mpr fun y => ⟨fun hy => irange_mem.mpr ⟨mn_le hy, ?_⟩, fun hy => ?_⟩
    · have := mx_ge hy
      omega
    · have hy := irange_mem.mp hy
      by_cases e1 : y = mn (stch p a b)
      · rw [e1]
        exact mn_mem hne
      by_cases e2 : y = mx (stch p a b)
      · rw [e2]
        exact mx_mem hne
      obtain ⟨t, ht, e⟩ := mem_at0 (ip.mem (x := y) (by omega) (by omega))
      obtain ⟨c1, c2⟩ := h t1 t2 t a1 a2 b1 b2 ht (by omega) (by omega)
      exact (stch_mem hb).mpr ⟨t, c1, c2, e⟩
  have hlen := hp.length_eq
  rw [irange_len] at hlen
  rw [← hlen] at hp
  exact perm_tight hne hp
/-! ### the chain of stretches -/
theorem chain_S {p : List Int} (h2 : 2 ≤ p.length) : ∀ (f b : Nat), p.length ≤ b + f → b ≤ p.length → ∃ S : Nat → Nat, S 0 = b ∧ S (gchain p f b).length = p.length ∧ ∀ i, i < (gchain p f b).length → (gchain p f b)[i]? = some (S i, S (i + 1)) ∧ GB p (S i) (S (i + 1))
  | 0, b, h, k => ⟨fun _ => b, rfl, by show b = p.length; omega, fun i hi => absurd hi (Nat.not_lt_zero _)⟩
  | f + 1, b, h, k => by
    by_cases hb : b < p.length
    · have g := gend_gb h2 hb
      have g1 := g.lt
      have g2 := g.le
      obtain ⟨S, s0, s1, s2⟩ := chain_S h2 f (gend p b) (by omega) g.le
      have e : gchain p (f + 1) b = (b, gend p b) :: gchain p f (gend p b) := by rw [gchain, if_pos hb]
      rw [e]
      refine ⟨fun i => match i with | 0 => b | i + 1 => S i, rfl, s1, fun i hi => ?_⟩
      cases i with
      | zero => exact ⟨by show some (b, gend p b) = some (b, S 0); rw [s0], by show GB p b (S 0); rw [s0]; exact g⟩
      | succ i => exact s2 i (by simpa using hi)
    · have e : gchain p (f + 1) b = [] := by rw [gchain, if_neg hb]
      rw [e]
      exact ⟨fun _ => b, rfl, by show b = p.length; omega, fun i hi => absurd hi (Nat.not_lt_zero _)⟩
section
variable {p : List Int} {S : Nat → Nat} {m : Nat}
theorem S_mono (hS : ∀ i, i < m → GB p (S i) (S (i + 1))) : ∀ {i j : Nat}, i < j → j ≤ m → S i < S j := by
  intro i j hij hj
  induction j with
  | zero => omega
  | succ j ih =>
    have h1 := (hS j (by omega)).lt
    by_cases e : i = j
    · subst e
      exact h1
    · have := ih (by omega) (by omega)
      omega
theorem S_find (hS : ∀ i, i < m → GB p (S i) (S (i + 1))) : ∀ {k t : Nat}, k ≤ m → S 0 ≤ t → t < S k → ∃ i, i < k ∧ S i ≤ t ∧ t < S (i + 1) := by
  intro k t hk h0 ht
  induction k with
  | zero => omega
  | succ k ih =>
    by_cases c : t < S k
    · obtain ⟨i, a, b, d⟩ := ih (by omega) c
      exact ⟨i, by omega, b, d⟩
    · exact ⟨k, by omega, by omega, ht⟩
/-- two stretches: what is less of one is less of all -/
theorem S_less (nd : p.Nodup) (hS : ∀ i, i < m → GB p (S i) (S (i + 1))) {i j t u : Nat} (hi : i < m) (hj : j < m) (hij : i ≠ j) (ht : S i ≤ t ∧ t < S (i + 1)) (hu : S j ≤ u ∧ u < S (j + 1)) (h : at0 p t < at0 p u) : at0 p (S i) < at0 p (S j) := by
  have gi := hS i hi
  have gj := hS j hj
  have l1 := gi.lt
  have l2 := gj.lt
  have e1 := gi.le
  have e2 := gj.le
  have apart : ∀ t, S i ≤ t → t < S (i + 1) → S j ≤ t → t < S (j + 1) → False := fun t a b c d => by
    rcases Nat.lt_or_gt_of_ne hij with h | h
    · have : S (i + 1) ≤ S j := by
        by_cases e : i + 1 = j
        · rw [e]; exact Nat.le_refl _
        · exact Nat.le_of_lt (S_mono hS (by omega) (by omega))
      omega
    · have : S (j + 1) ≤ S i := by
        by_cases e : j + 1 = i
        · rw [e]; exact Nat.le_refl _
        · exact Nat.le_of_lt (S_mono hS (by omega) (by omega))
      omega
  have ne : at0 p (S i) ≠ at0 p (S j) := fun e => by
    have := at0_inj nd (by omega) (by omega) e
    exact apart (S i) (by omega) (by omega) (by omega) (by omega)
  refine Classical.byContradiction fun hc => ?_
  have h1 : at0 p (S j) < at0 p (S i) := by omega
  by_cases c : at0 p (S i) < at0 p u
  · obtain ⟨a, b⟩ := blk_in nd gj.le gj.bl (t1 := S j) (t2 := u) (t := S i) ⟨by omega, by omega⟩ hu (by omega) h1 c
    exact apart (S i) (by omega) (by omega) a b
  · by_cases c2 : at0 p (S i) = at0 p u
    · have := at0_inj nd (by omega) (by omega) c2
      exact apart u (by omega) (by omega) hu.1 hu.2
    · obtain ⟨a, b⟩ := blk_in nd gi.le gi.bl (t1 := t) (t2 := S i) (t := u) ht ⟨by omega, by omega⟩ (by omega) h (by omega)
      exact apart u a b hu.1 hu.2
end

theorem like_lt {c : List Int} {i j : Nat} (hi : i < c.length) (hj : j < c.length) : at0 (like c) i < at0 (like c) j ↔ at0 c i < at0 c j := by
  have hat : ∀ k, k < c.length → at0 (like c) k = 1 + ((c.filter fun x => decide (x < at0 c k)).length : Int) := fun k hk => at0_map hk
  rw [hat i hi, hat j hj]
  constructor
  · intro h
    refine Classical.byContradiction fun hc => ?_
    by_cases e : at0 c j = at0 c i
    · rw [e] at h
      omega
    · have := cnt_lt (c := c) (a := at0 c j) (b := at0 c i) (by omega) (at0_mem hj)
      omega
  · intro h
    have := cnt_lt (c := c) h (at0_mem hi)
    omega
def heads (p : List Int) (L : List (Nat × Nat)) : List Int := L.map fun x => at0 p x.1
section
variable {p : List Int} {S : Nat → Nat} {L : List (Nat × Nat)}
theorem heads_at (hS : ∀ i, i < L.length → L[i]? = some (S i, S (i + 1)) ∧ GB p (S i) (S (i + 1))) {i : Nat} (hi : i < L.length) : at0 (heads p L) i = at0 p (S i) := by
  show (heads p L).getD i 0 = _
  rw [List.getD_eq_getElem?_getD]
  unfold heads
  rw [List.getElem?_map, (hS i hi).1]
  rfl
theorem heads_nd (ip : IsOrd p) (hS : ∀ i, i < L.length → L[i]? = some (S i, S (i + 1)) ∧ GB p (S i) (S (i + 1))) : (heads p L).Nodup := by
  have hg : ∀ i, i < L.length → GB p (S i) (S (i + 1)) := fun i hi => (hS i hi).2
  have hl : (heads p L).length = L.length := List.length_map ..
  rw [List.nodup_iff_pairwise_ne, List.pairwise_iff_getElem]
  intro i j hi hj hij e
  rw [hl] at hi hj
  have e1 : at0 (heads p L) i = (heads p L)[i] := by
    show (heads p L).getD i 0 = _
    rw [List.getD_eq_getElem?_getD, List.getElem?_eq_getElem (by omega)]
    rfl
  have e2 : at0 (heads p L) j = (heads p L)[j] := by
    show (heads p L).getD j 0 = _
    rw [List.getD_eq_getElem?_getD, List.getElem?_eq_getElem (by omega)]
    rfl
  rw [← e1, ← e2, heads_at hS hi, heads_at hS hj] at e
  have g1 := hg i hi
  have g2 := hg j hj
  have l1 := g1.lt
  have l2 := g2.lt
  have k1 := g1.le
  have k2 := g2.le
  have := at0_inj ip.nd (by omega) (by omega) e
  have := S_mono hg hij (Nat.le_of_lt hj)
  omega
/-- a block of the quotient is one of the order -/
theorem quo_blk (ip : IsOrd p) (s0 : S 0 = 0) (sm' : S L.length = p.length) (hS : ∀ i, i < L.length → L[i]? = some (S i, S (i + 1)) ∧ GB p (S i) (S (i + 1))) {a c : Nat} (hac : a < c) (hc : c ≤ L.length) (h : blk (like (heads p L)) a c = true) : blk p (S a) (S c) = true := by
  have hg : ∀ i, i < L.length → GB p (S i) (S (i + 1)) := fun i hi => (hS i hi).2
  have hl : (heads p L).length = L.length := List.length_map ..
  have hlq : (like (heads p L)).length = L.length := by rw [like_len, hl]
  have nq := (isOrd_like (heads_nd ip hS)).nd
  have mono : ∀ {i j : Nat}, i < j → j ≤ L.length → S i < S j := fun a b => S_mono hg a b
  have scle : S c ≤ p.length := by
    by_cases e : c = L.length
    · rw [e, sm']; exact Nat.le_refl _
    · rw [← sm']
      exact Nat.le_of_lt (mono (by omega) (Nat.le_refl _))
  have place : ∀ {i t : Nat}, i < L.length → S i ≤ t → t < S (i + 1) → S a ≤ t → t < S c → a ≤ i ∧ i < c := fun {i t} hi h1 h2 h3 h4 => by
    constructor
    · refine Classical.byContradiction fun z => ?_
      by_cases e : i + 1 = a
      · rw [e] at h2
        omega
      · have := mono (i := i + 1) (j := a) (by omega) (by omega)
        omega
    · refine Classical.byContradiction fun z => ?_
      by_cases e : i = c
      · rw [e] at h1
        omega
      · have := mono (i := c) (j := i) (by omega) (by omega)
        omega
  refine blk_of ip (mono hac hc) scle fun t1 t2 t a1 b1 a2 b2 ht l1 l2 => ?_
  obtain ⟨i1, x1, y1, z1⟩ := S_find hg (k := L.length) (t := t1) (Nat.le_refl _) (by omega) (by omega)
  obtain ⟨i2, x2, y2, z2⟩ := S_find hg (k := L.length) (t := t2) (Nat.le_refl _) (by omega) (by omega)
  obtain ⟨i, x, y, z⟩ := S_find hg (k := L.length) (t := t) (Nat.le_refl _) (by omega) (by omega)
  have w1 := place x1 y1 z1 a1 b1
  have w2 := place x2 y2 z2 a2 b2
  have w : a ≤ i ∧ i < c := by
    by_cases e1 : i1 = i
    · rw [← e1]; exact w1
    by_cases e2 : i = i2
    · rw [e2]; exact w2
    have u1 := S_less ip.nd hg x1 x e1 ⟨y1, z1⟩ ⟨y, z⟩ l1
    have u2 := S_less ip.nd hg x x2 e2 ⟨y, z⟩ ⟨y2, z2⟩ l2
    rw [← heads_at hS x1, ← heads_at hS x] at u1
    rw [← heads_at hS x, ← heads_at hS x2] at u2
    exact blk_in nq (by omega) h w1 w2 (by omega) ((like_lt (by omega) (by omega)).mpr u1) ((like_lt (by omega) (by omega)).mpr u2)
  have v1 : S a ≤ S i := by
    by_cases e : a = i
    · rw [e]; exact Nat.le_refl _
    · exact Nat.le_of_lt (mono (by omega) (by omega))
  have v2 : S (i + 1) ≤ S c := by
    by_cases e : i + 1 = c
    · rw [e]; exact Nat.le_refl _
    · exact Nat.le_of_lt (mono (by omega) (by omega))
  omega
theorem quo_none (ip : IsOrd p) (s0 : S 0 = 0) (sm' : S L.length = p.length) (hS : ∀ i, i < L.length → L[i]? = some (S i, S (i + 1)) ∧ GB p (S i) (S (i + 1))) {a c : Nat} (hac : a + 2 ≤ c) (hc : c ≤ L.length) (hw : c - a < L.length) : blk (like (heads p L)) a c = false := by
  refine Bool.eq_false_iff.mpr fun h => ?_
  have hg : ∀ i, i < L.length → GB p (S i) (S (i + 1)) := fun i hi => (hS i hi).2
  have h1 := quo_blk ip s0 sm' hS (by omega) hc h
  have h2 := hg a (by omega)
  have h3 := S_mono hg (i := a + 1) (j := c) (by omega) hc
  have scle : S c ≤ p.length := by
    by_cases e : c = L.length
    · rw [e, sm']; exact Nat.le_refl _
    · rw [← sm']
      exact Nat.le_of_lt (S_mono hg (by omega) (Nat.le_refl _))
  have h4 := h2.gr (S c) h3 scle h1
  injection h4 with h5 h6
  have ha : a = 0 := Classical.byContradiction fun z => by
    have := S_mono hg (i := 0) (j := a) (by omega) (by omega)
    omega
  have hcl : c = L.length := Classical.byContradiction fun z => by
    have := S_mono hg (i := c) (j := L.length) (by omega) (Nat.le_refl _)
    omega
  omega
end
/-! ### one, two, three stretches -/
theorem cut_two {p : List Int} (ip : IsOrd p) {s : Nat} (h1 : 1 ≤ s) (h2 : s < p.length) (hc : cut p s = true) : 1 < (Pp p).length := by
  have hne : p ≠ [] := fun e => by rw [e] at h2; exact absurd h2 (Nat.not_lt_zero _)
  obtain ⟨c1, c2, c3, c4⟩ := cut1_spec ip hne
  have c5 : cut1 p ≤ s := Classical.byContradiction fun z => by
    have := c4 s h1 (by omega)
    rw [hc] at this
    cases this
  have io := drop_ord ip c2 c3
  have hne2 : sft (-(cut1 p : Int)) (p.drop (cut1 p)) ≠ [] := fun e => by
    have := congrArg List.length e
    rw [sft_len, List.length_drop, List.length_nil] at this
    omega
  rw [Pp_cons ip hne, Pp_cons io hne2, List.length_cons, List.length_cons]
  omega
theorem cut_less {p : List Int} (ip : IsOrd p) {e : Nat} (he : e ≤ p.length) (h : ∀ t u, t < e → e ≤ u → u < p.length → at0 p t < at0 p u) : cut p e = true := by
  refine cut_iff.mpr fun x hx => Classical.byContradiction fun hc => ?_
  have hl : (p.take e).length = e := by rw [List.length_take]; omega
  have hm : ∀ v ∈ irange 1 e, v ∈ p.take e := fun v hv => by
    have hv := irange_mem.mp hv
    obtain ⟨t', ht', e'⟩ := mem_at0 (ip.mem (x := v) (by omega) (by omega))
    obtain ⟨t, ht, e2⟩ := mem_at0 hx
    rw [hl] at ht
    have e3 : at0 p t = x := by
      rw [← e2]
      show p.getD t 0 = (p.take e).getD t 0
      rw [List.getD_eq_getElem?_getD, List.getD_eq_getElem?_getD, List.getElem?_take_of_lt ht]
    by_cases c : t' < e
    · rw [← e']
      have : (p.take e)[t']? = p[t']? := List.getElem?_take_of_lt c
      rw [getD_get ht'] at this
      exact List.mem_of_getElem? this
    · have := h t t' ht (by omega) ht'
      omega
  have hp := perm_of_sub ((irange_sorted 1 e).imp fun {x y} h => Int.ne_of_lt h) (ip.nd.sublist (List.take_sublist _ _)) hm (by rw [hl, irange_len]; omega)
  have := irange_mem.mp (hp.mem_iff.mpr hx)
  omega
theorem three_blk {q : List Int} (iq : IsOrd q) (h3 : q.length = 3) : blk q 0 2 = true ∨ blk q 1 3 = true := by
  match q, h3 with
  | [x, y, z], _ =>
    have a1 := iq.lo x (by simp)
    have a2 := iq.hi x (by simp)
    have b1 := iq.lo y (by simp)
    have b2 := iq.hi y (by simp)
    have c1 := iq.lo z (by simp)
    have c2 := iq.hi z (by simp)
    have nd := iq.nd
    simp only [List.nodup_cons, List.mem_cons, List.not_mem_nil, or_false, not_or, List.length_cons, List.length_nil] at nd a2 b2 c2
    have two : ∀ u v : Int, (u - v = 1 ∨ v - u = 1) → tight [u, v] = true := fun u v h => by
      unfold tight
      rcases h with h | h
      · rw [mx_is (m := u) (by simp) (fun w hw => by simp at hw; omega), mn_is (m := v) (by simp) (fun w hw => by simp at hw; omega)]
        exact decide_eq_true (by show u - v = (2 : Int) - 1; omega)
      · rw [mx_is (m := v) (by simp) (fun w hw => by simp at hw; omega), mn_is (m := u) (by simp) (fun w hw => by simp at hw; omega)]
        exact decide_eq_true (by show v - u = (2 : Int) - 1; omega)
    by_cases e : x - y = 1 ∨ y - x = 1
    · exact .inl (two x y e)
    · exact .inr (two y z (by omega))

theorem quo_simple {p : List Int} (ip : IsOrd p) (h2 : 2 ≤ p.length) (c1 : ¬ 1 < (Pp p).length) (c2 : ¬ 1 < (Pp (mi p)).length) : simp4 (like (heads p (gbs p))) = true := by
  obtain ⟨S, s0, sm', hS⟩ := chain_S h2 p.length 0 (by omega) (by omega)
  have sm' : S (gbs p).length = p.length := sm'
  have hS : ∀ i, i < (gbs p).length → (gbs p)[i]? = some (S i, S (i + 1)) ∧ GB p (S i) (S (i + 1)) := hS
  generalize gbs p = L at *
  have hg : ∀ i, i < L.length → GB p (S i) (S (i + 1)) := fun i hi => (hS i hi).2
  have hlq : (like (heads p L)).length = L.length := by rw [like_len]; exact List.length_map ..
  have iq := isOrd_like (heads_nd ip hS)
  have none : ∀ a c, a + 2 ≤ c → c ≤ L.length → c - a < L.length → blk (like (heads p L)) a c = false := fun a c h1 h2 h3 => quo_none ip s0 sm' hS h1 h2 h3
  have n0 : L.length ≠ 0 := fun e => by rw [e, s0] at sm'; omega
  have n1 : L.length ≠ 1 := fun e => by
    have g := (hg 0 (by omega)).nw
    rw [e] at sm'
    exact g (by rw [s0, sm'])
  have n2 : L.length ≠ 2 := fun e => by
    rw [e] at sm'
    have g0 := hg 0 (by omega)
    have g1 := hg 1 (by omega)
    have l0 : S 0 < S 1 := g0.lt
    have l1 : S 1 < S 2 := g1.lt
    have k1 : S 1 ≤ p.length := g0.le
    have ne : at0 p (S 0) ≠ at0 p (S 1) := fun z => by
      have := at0_inj ip.nd (by omega) (by omega) z
      omega
    by_cases c : at0 p (S 0) < at0 p (S 1)
    · refine c1 (cut_two ip (s := S 1) (by omega) (by omega) (cut_less ip (by omega) fun t u ht hu hul => Classical.byContradiction fun z => ?_))
      have ne2 : at0 p t ≠ at0 p u := fun y => by
        have := at0_inj ip.nd (by omega) hul y
        omega
      have := S_less ip.nd hg (i := 1) (j := 0) (by omega) (by omega) (by omega) (t := u) (u := t) ⟨hu, by show u < S 2; omega⟩ ⟨by omega, by show t < S 1; omega⟩ (by omega)
      omega
    · have im := isOrd_mi ip
      have ml := mi_len p
      have am : ∀ t, t < p.length → at0 (mi p) t = p.length + 1 - at0 p t := fun t ht => at0_map ht
      refine c2 (cut_two im (s := S 1) (by omega) (by omega) (cut_less im (by omega) fun t u ht hu hul => Classical.byContradiction fun z => ?_))
      rw [ml] at hul
      rw [am t (by omega), am u hul] at z
      have ne2 : at0 p t ≠ at0 p u := fun y => by
        have := at0_inj ip.nd (by omega) hul y
        omega
      have := S_less ip.nd hg (i := 0) (j := 1) (by omega) (by omega) (by omega) (t := t) (u := u) ⟨by omega, by show t < S 1; omega⟩ ⟨hu, by show u < S 2; omega⟩ (by omega)
      omega
  have n3 : L.length ≠ 3 := fun e => by
    rcases three_blk iq (by omega) with h | h
    · rw [none 0 2 (by omega) (by omega) (by omega)] at h
      cases h
    · rw [none 1 3 (by omega) (by omega) (by omega)] at h
      cases h
  refine simp_iff.mpr ⟨by omega, fun a ha => Bool.eq_false_iff.mpr fun h => ?_⟩
  obtain ⟨j, h3, h4, h5⟩ := hbk_iff.mp h
  rw [none a (a + 2 + j) (by omega) (by omega) (by omega)] at h4
  cases h4
/-! ### parts are in no parts -/
theorem part_one {p : List Int} (ip : IsOrd p) (hne : p ≠ []) (h : ∀ t, 1 ≤ t → t < p.length → cut p t = false) : (Pp p).length = 1 := by
  have hl : 1 ≤ p.length := List.length_pos_iff.mpr hne
  have hc := cut1_eq ip hl (Nat.le_refl _) (cut_all ip) h
  rw [Pp_cons ip hne, hc, List.length_cons]
  have : sft (-(p.length : Int)) (p.drop p.length) = [] := by rw [List.drop_length]; rfl
  rw [this, Pp_nil]
  rfl
theorem Pp_irred {p : List Int} (ip : IsOrd p) : ∀ c ∈ Pp p, c ≠ [] ∧ (Pp c).length = 1 := by
  refine Pp_ind (P := fun p => ∀ c ∈ Pp p, c ≠ [] ∧ (Pp c).length = 1) (fun c hc => nomatch hc) (fun p ip hne ih c hc => ?_) p.length p (Nat.le_refl _) ip
  rw [Pp_cons ip hne] at hc
  obtain ⟨d1, d2, d3, d4⟩ := cut1_spec ip hne
  rcases List.mem_cons.mp hc with rfl | hc
  · have hl : (p.take (cut1 p)).length = cut1 p := by rw [List.length_take]; omega
    have hne2 : p.take (cut1 p) ≠ [] := fun e => by
      rw [e] at hl
      simp at hl
      omega
    refine ⟨hne2, part_one (take_ord ip d2 d3) hne2 fun t t1 t2 => ?_⟩
    rw [hl] at t2
    have := d4 t t1 t2
    unfold cut at this ⊢
    rwa [List.take_take, Nat.min_eq_left (by omega)]
  · exact ih c hc
theorem Pp_total {p : List Int} (ip : IsOrd p) : total (Pp p) (Pp p).length = p.length := by
  have := fold_sm ip []
  rw [nil_sm] at this
  rw [← foldsm_len, this]
theorem Pp_less {p : List Int} (ip : IsOrd p) (h : 1 < (Pp p).length) : ∀ c ∈ Pp p, c.length < p.length := by
  have ht := Pp_total ip
  have hI := Pp_irred ip
  generalize Pp p = C at *
  intro c hc
  have key : ∀ C : List (List Int), (∀ c ∈ C, c ≠ []) → C.length ≤ total C C.length ∧ ∀ c ∈ C, c.length + C.length ≤ total C C.length + 1 := by
    intro C
    induction C with
    | nil => intro _; exact ⟨Nat.zero_le _, fun c hc => nomatch hc⟩
    | cons d C ih =>
      intro hn
      obtain ⟨i1, i2⟩ := ih fun c hc => hn c (List.mem_cons_of_mem _ hc)
      have hd : 1 ≤ d.length := List.length_pos_iff.mpr (hn d List.mem_cons_self)
      rw [List.length_cons, total_cons]
      refine ⟨by omega, fun c hc => ?_⟩
      rcases List.mem_cons.mp hc with rfl | hc
      · omega
      · have := i2 c hc
        omega
  have := (key C fun c hc => (hI c hc).1).2 c hc
  omega
/-! ### the tree -/
def treeD : Nat → List Int → D
  | 0, _ => .none
  | k + 1, p => if p.length = 1 then .tuple [.str "one"] else if 1 < (Pp p).length then .tuple [.str "sum", .tuple ((Pp p).map (treeD k))] else if 1 < (Pp (mi p)).length then .tuple [.str "skew", .tuple (((Pp (mi p)).map mi).map (treeD k))]
    else .tuple [.str "simple", ti (like (heads p (gbs p))), .tuple ((gbs p).map fun x => treeD k (like (stch p x.1 x.2)))]
theorem kids {k : Nat} {α : Type} (T : α → D) (len : α → Nat) : ∀ C : List α, (∀ c ∈ C, (∃ p', ordT k (T c) = some p' ∧ p'.length = len c) ∧ sz (T c) + 3 ≤ 5 * len c) → ∃ R, mapO (ordT k) (C.map T) = some R ∧ R.length = C.length ∧ total R R.length = (C.map len).sum ∧ szs (C.map T) + 3 * C.length ≤ 5 * (C.map len).sum
  | [], _ => ⟨[], rfl, rfl, rfl, by simp [szs]⟩
  | c :: C, h => by
    obtain ⟨R, h1, h2, h3, h4⟩ := kids T len C fun d hd => h d (List.mem_cons_of_mem _ hd)
    obtain ⟨⟨p', e1, e2⟩, e3⟩ := h c List.mem_cons_self
    refine ⟨p' :: R, ?_, by rw [List.length_cons, List.length_cons, h2], ?_, ?_⟩
    · rw [List.map_cons, mapO, e1, h1]
    · rw [List.length_cons, total_cons, h3, List.map_cons, List.sum_cons, e2]
    · rw [List.map_cons, List.map_cons, szs, List.sum_cons, List.length_cons]
      omega
theorem sum_total : ∀ C : List (List Int), (C.map List.length).sum = total C C.length
  | [] => rfl
  | c :: C => by rw [List.map_cons, List.sum_cons, sum_total C, List.length_cons, total_cons]

theorem gchain_mem {p : List Int} (h2 : 2 ≤ p.length) : ∀ {f b : Nat} {x : Nat × Nat}, b ≤ p.length → x ∈ gchain p f b → GB p x.1 x.2
  | 0, b, x, _, hx => nomatch hx
  | f + 1, b, x, hb, hx => by
    rw [gchain] at hx
    split at hx
    · rename_i hlt
      have g := gend_gb h2 hlt
      rcases List.mem_cons.mp hx with rfl | hx
      · exact g
      · exact gchain_mem h2 g.le hx
    · cases hx
theorem gchain_sum {p : List Int} (h2 : 2 ≤ p.length) : ∀ (f b : Nat), p.length ≤ b + f → b ≤ p.length → ((gchain p f b).map fun x => x.2 - x.1).sum = p.length - b
  | 0, b, h, k => by
    show 0 = p.length - b
    omega
  | f + 1, b, h, k => by
    rw [gchain]
    split
    · rename_i hlt
      have g := gend_gb h2 hlt
      have g1 := g.lt
      have g2 := g.le
      rw [List.map_cons, List.sum_cons, gchain_sum h2 f (gend p b) (by omega) g.le]
      show gend p b - b + (p.length - gend p b) = _
      omega
    · show 0 = p.length - b
      omega
theorem gb_len {p : List Int} {x : Nat × Nat} (g : GB p x.1 x.2) : (like (stch p x.1 x.2)).length = x.2 - x.1 ∧ x.2 - x.1 < p.length := by
  have g1 := g.lt
  have g2 := g.le
  refine ⟨by rw [like_len, stch_len g.le], ?_⟩
  refine Classical.byContradiction fun z => ?_
  exact g.nw (by
    have e1 : x.1 = 0 := by omega
    have e2 : x.2 = p.length := by omega
    rw [e1, e2])
theorem tag_of (s z : Str) (ts : List D) : isTag s (.tuple (.str z :: ts)) = (z == s) := rfl
theorem td_ok : ∀ (n k : Nat) (p : List Int), IsOrd p → p ≠ [] → p.length ≤ n → p.length ≤ k → (∃ p', ordT n (treeD k p) = some p' ∧ p'.length = p.length) ∧ sz (treeD k p) + 3 ≤ 5 * p.length ∧ (isTag "sum" (treeD k p) = true → 1 < (Pp p).length) ∧ (isTag "skew" (treeD k p) = true → 1 < (Pp (mi p)).length)
  | 0, k, p, ip, hne, h1, _ => absurd (List.length_pos_iff.mpr hne) (by omega)
  | n + 1, 0, p, ip, hne, _, h1 => absurd (List.length_pos_iff.mpr hne) (by omega)
  | n + 1, k + 1, p, ip, hne, h1, h2 => by
    have hpos := List.length_pos_iff.mpr hne
    rw [treeD]
    by_cases c0 : p.length = 1
    · rw [if_pos c0]
      refine ⟨⟨[1], ordT_of .one, c0.symm⟩, ?_, fun z => ?_, fun z => ?_⟩
      · have : sz (.tuple [.str "one"]) = 2 := by decide +kernel
        omega
      · exact absurd z (by decide +kernel)
      · exact absurd z (by decide +kernel)
    rw [if_neg c0]
    by_cases c1 : 1 < (Pp p).length
    · rw [if_pos c1]
      have hm := fun c hc => Pp_mem ip c hc
      have hl := Pp_less ip c1
      have hi := Pp_irred ip
      have ih := fun c (hc : c ∈ Pp p) => td_ok n k c (hm c hc).1 (hi c hc).1 (by have := hl c hc; omega) (by have := hl c hc; omega)
      obtain ⟨R, r1, r2, r3, r4⟩ := kids (k := n) (treeD k) List.length (Pp p) fun c hc => ⟨(ih c hc).1, (ih c hc).2.1⟩
      rw [sum_total, Pp_total ip] at r3 r4
      have htag : ((Pp p).map (treeD k)).any (isTag "sum") = false := by
        rw [List.any_eq_false]
        intro t ht
        obtain ⟨c, hc, rfl⟩ := List.mem_map.mp ht
        intro z
        have := (ih c hc).2.2.1 z
        rw [(hi c hc).2] at this
        omega
      refine ⟨⟨_, ordT_of (.word (.inl rfl) r1 (by omega) htag), ?_⟩, ?_, fun _ => c1, fun z => ?_⟩
      · rw [if_pos rfl, foldsm_len, r3]
      · rw [sz_t2]
        omega
      · exact absurd z (by rw [tag_of]; decide +kernel)
    rw [if_neg c1]
    have im := isOrd_mi ip
    have ml := mi_len p
    by_cases c2 : 1 < (Pp (mi p)).length
    · rw [if_pos c2]
      have hm := fun c hc => Pp_mem im c hc
      have hl := Pp_less im c2
      have hi := Pp_irred im
      have ih := fun c (hc : c ∈ Pp (mi p)) => td_ok n k (mi c) (isOrd_mi (hm c hc).1) (fun e => (hi c hc).1 (by have := congrArg List.length e; rw [mi_len] at this; exact List.eq_nil_of_length_eq_zero this)) (by have := hl c hc; rw [mi_len]; omega) (by have := hl c hc; rw [mi_len]; omega)
      obtain ⟨R, r1, r2, r3, r4⟩ := kids (k := n) (treeD k) List.length ((Pp (mi p)).map mi) fun d hd => by
        obtain ⟨c, hc, rfl⟩ := List.mem_map.mp hd
        exact ⟨(ih c hc).1, (ih c hc).2.1⟩
      have hs : (((Pp (mi p)).map mi).map List.length).sum = p.length := by
        rw [List.map_map, show List.length ∘ mi = List.length from funext fun c => mi_len c, sum_total, Pp_total im, ml]
      rw [hs] at r3 r4
      rw [List.length_map] at r2 r4
      have htag : (((Pp (mi p)).map mi).map (treeD k)).any (isTag "skew") = false := by
        rw [List.any_eq_false]
        intro t ht
        obtain ⟨d, hd, rfl⟩ := List.mem_map.mp ht
        obtain ⟨c, hc, rfl⟩ := List.mem_map.mp hd
        intro z
        have := (ih c hc).2.2.2 z
        rw [mi_mi, (hi c hc).2] at this
        omega
      refine ⟨⟨_, ordT_of (.word (.inr rfl) r1 (by omega) htag), ?_⟩, ?_, fun z => ?_, fun _ => c2⟩
      · rw [kkk, foldsk_len, r3]
      · rw [sz_t2]
        omega
      · exact absurd z (by rw [tag_of]; decide +kernel)
    rw [if_neg c2]
    have h2' : 2 ≤ p.length := by omega
    have hq := quo_simple ip h2' c1 c2
    have hq4 := (simp_iff.mp hq).1
    have hgm : ∀ x ∈ gbs p, GB p x.1 x.2 := fun x hx => gchain_mem h2' (Nat.zero_le _) hx
    have hql : (like (heads p (gbs p))).length = (gbs p).length := by rw [like_len]; exact List.length_map ..
    have iq : IsOrd (like (heads p (gbs p))) := by
      obtain ⟨S, s0, sm', hS⟩ := chain_S h2' p.length 0 (by omega) (by omega)
      exact isOrd_like (heads_nd ip hS)
    have ih := fun x (hx : x ∈ gbs p) => td_ok n k (like (stch p x.1 x.2)) (isOrd_like (stch_nd ip.nd _ _)) (fun e => by
        have a := (gb_len (hgm x hx)).1
        have b := (hgm x hx).lt
        rw [e] at a
        simp at a
        omega) (by have := gb_len (hgm x hx); omega) (by have := gb_len (hgm x hx); omega)
    obtain ⟨R, r1, r2, r3, r4⟩ := kids (k := n) (fun x : Nat × Nat => treeD k (like (stch p x.1 x.2))) (fun x => x.2 - x.1) (gbs p) fun x hx => by
      have i1 := ih x hx
      rw [(gb_len (hgm x hx)).1] at i1
      exact ⟨i1.1, i1.2.1⟩
    have hs : ((gbs p).map fun x => x.2 - x.1).sum = p.length := gchain_sum h2' p.length 0 (by omega) (by omega)
    rw [hs] at r3 r4
    refine ⟨⟨_, ordT_of (.simple r1 iq (by omega) hq), ?_⟩, ?_, fun z => ?_, fun z => ?_⟩
    · rw [fillL_len, r3]
    · rw [sz_t3]
      omega
    · exact absurd z (by rw [tag_of]; decide +kernel)
    · exact absurd z (by rw [tag_of]; decide +kernel)

abbrev toB (rec : List PyData → Out) : M Fl := (sIf (dB (op2 fGt (dv (opN fLen (vCons (dName 2) vNil))) (dv (dC (.int 1))))) (sRet (dTup (dCons (dEsc (dName 1)) (dCons (opN fTuple (vCons (dv (dFz (compL [3] (.nm 3) (iV (dName 2)) (rt true) (rD (callP [.v] rec (vCons (dName 3) vNil)))))) vNil)) dNil)))) sNx)
theorem set_2 (a b : D) (x c d e f g h : SV) : setT (.tup [.nm 1, .nm 2]) (.tuple [a, b]) [x, c, d, e, f, g, h, .u] = some [x, .d a, .d b, e, f, g, h, .u] := by
  rw [setT_tup, setTs_cons _ _ _ _ _ _ (setT_nm _ _ _), setTs_cons _ _ _ _ _ _ (setT_nm _ _ _), setTs_nil]
  simp! only []
theorem to_yes {rec : List PyData → Out} {s : Str} {P : D} (C : List (List Int)) (T : List Int → D) (h1 : 1 < C.length) (hl : C.length ≤ 900) (h : ∀ c ∈ C, rec [ti c] = .ret (.d (T c)) []) (w : D) : toB rec [.d w, .d (.str s), .d (.tuple (C.map ti)), .u, .u, .u, .u, .u] = .ok (.rt (.d (.tuple [.str s, .tuple (C.map T)]))) [.d w, .d (.str s), .d (.tuple (C.map ti)), .u, .u, .u, .u, .u] := by
  have hc := compB_one (i := 3) (enc := ti) (f := T) (me := rD (callP [.v] rec (vCons (dName 3) vNil))) (g := [.d w, .d (.str s), .d (.tuple (C.map ti)), .u, .u, .u, .u, .u]) C (by omega) rfl fun c hcm => by
    have := h c hcm
    simp! only [this]
  have h1' : (1 : Int) < C.length := by omega
  unfold toB
  simp! only [gt_iff_lt, List.length_map, h1', hc]
theorem to_no {rec : List PyData → Out} {s : Str} (C : List (List Int)) (h1 : ¬ 1 < C.length) (w : D) : toB rec [.d w, .d (.str s), .d (.tuple (C.map ti)), .u, .u, .u, .u, .u] = .ok .nx [.d w, .d (.str s), .d (.tuple (C.map ti)), .u, .u, .u, .u, .u] := by
  have h1' : ¬ (1 : Int) < C.length := by omega
  unfold toB
  simp! only [gt_iff_lt, List.length_map, h1']
theorem tree_of_ok : ∀ (k : Nat) (p : List Int), IsOrd p → p ≠ [] → p.length ≤ k → p.length ≤ 100 → φ_tree_of k [ti p] = .ret (.d (treeD k p)) []
  | 0, p, ip, hne, h1, _ => absurd (List.length_pos_iff.mpr hne) (by omega)
  | k + 1, p, ip, hne, h1, h100 => by
    show runF 8 [.v] (m_tree_of (φ_tree_of k)) [ti p] = _
    have hpos := List.length_pos_iff.mpr hne
    rw [treeD]
    by_cases c0 : p.length = 1
    · rw [if_pos c0]
      have c0' : (p.length : Int) = 1 := by omega
      unfold m_tree_of
      simp! only [List.length_map, c0']
    rw [if_neg c0]
    have c0' : ¬ (p.length : Int) = 1 := by omega
    have ps := parts_of_sum_ok p ip h100
    have pk := parts_of_skew_ok p ip h100
    have cnt := Pp_count ip
    have im := isOrd_mi ip
    have ml := mi_len p
    have cntm := Pp_count im
    by_cases c1 : 1 < (Pp p).length
    · rw [if_pos c1]
      have hl := Pp_less ip c1
      have hi := Pp_irred ip
      have hb := to_yes (rec := φ_tree_of k) (s := "sum") (P := .none) (Pp p) (treeD k) c1 (by omega) (fun c hc => tree_of_ok k c (Pp_mem ip c hc).1 (hi c hc).1 (by have := hl c hc; omega) (by have := hl c hc; omega)) (ti p)
      have hf : ∀ r, forG (.tup [.nm 1, .nm 2]) [1, 2] (toB (φ_tree_of k)) (.tuple [.str "sum", .tuple ((Pp p).map ti)] :: r) [.d (ti p), .u, .u, .u, .u, .u, .u, .u] = .ok (.rt (.d (.tuple [.str "sum", .tuple ((Pp p).map (treeD k))]))) [.d (ti p), .d (.str "sum"), .d (.tuple ((Pp p).map ti)), .u, .u, .u, .u, .u] := fun r => by
        rw [forG, set_2]
        dsimp only
        rw [hb]
      unfold m_tree_of
      simp! only [List.length_map, c0', ps, pk, hf]
    rw [if_neg c1]
    have n1 := to_no (rec := φ_tree_of k) (s := "sum") (Pp p) c1 (ti p)
    by_cases c2 : 1 < (Pp (mi p)).length
    · rw [if_pos c2]
      have hl := Pp_less im c2
      have hi := Pp_irred im
      have hb := to_yes (rec := φ_tree_of k) (s := "skew") (P := .none) ((Pp (mi p)).map mi) (treeD k) (by rw [List.length_map]; exact c2) (by rw [List.length_map]; omega) (fun d hd => by
        obtain ⟨c, hc, rfl⟩ := List.mem_map.mp hd
        have := hl c hc
        exact tree_of_ok k (mi c) (isOrd_mi (Pp_mem im c hc).1) (fun e => (hi c hc).1 (by have := congrArg List.length e; rw [mi_len] at this; exact List.eq_nil_of_length_eq_zero this)) (by rw [mi_len]; omega) (by rw [mi_len]; omega)) (ti p)
      have hf : ∀ r, forG (.tup [.nm 1, .nm 2]) [1, 2] (toB (φ_tree_of k)) (.tuple [.str "sum", .tuple ((Pp p).map ti)] :: .tuple [.str "skew", .tuple (((Pp (mi p)).map mi).map ti)] :: r) [.d (ti p), .u, .u, .u, .u, .u, .u, .u] = .ok (.rt (.d (.tuple [.str "skew", .tuple (((Pp (mi p)).map mi).map (treeD k))]))) [.d (ti p), .d (.str "skew"), .d (.tuple (((Pp (mi p)).map mi).map ti)), .u, .u, .u, .u, .u] := fun r => by
        rw [forG, set_2]
        dsimp only
        rw [n1]
        dsimp only
        have e2 : fgt [1, 2] [SV.d (ti p), .d (.str "sum"), .d (.tuple ((Pp p).map ti)), .u, .u, .u, .u, .u] = [.d (ti p), .u, .u, .u, .u, .u, .u, .u] := by simp! only []
        rw [e2, forG, set_2]
        dsimp only
        rw [hb]
      unfold m_tree_of
      simp! only [List.length_map, c0', ps, pk, hf]
    rw [if_neg c2]
    have n2 := to_no (rec := φ_tree_of k) (s := "skew") ((Pp (mi p)).map mi) (by rw [List.length_map]; exact c2) (ti p)
    have hf : forG (.tup [.nm 1, .nm 2]) [1, 2] (toB (φ_tree_of k)) [.tuple [.str "sum", .tuple ((Pp p).map ti)], .tuple [.str "skew", .tuple (((Pp (mi p)).map mi).map ti)]] [.d (ti p), .u, .u, .u, .u, .u, .u, .u] = .ok .nx [.d (ti p), .u, .u, .u, .u, .u, .u, .u] := by
      have e2 : fgt [1, 2] [SV.d (ti p), .d (.str "sum"), .d (.tuple ((Pp p).map ti)), .u, .u, .u, .u, .u] = [.d (ti p), .u, .u, .u, .u, .u, .u, .u] := by simp! only []
      have e3 : fgt [1, 2] [SV.d (ti p), .d (.str "skew"), .d (.tuple (((Pp (mi p)).map mi).map ti)), .u, .u, .u, .u, .u] = [.d (ti p), .u, .u, .u, .u, .u, .u, .u] := by simp! only []
      rw [forG, set_2]
      dsimp only
      rw [n1]
      dsimp only
      rw [e2, forG, set_2]
      dsimp only
      rw [n2]
      dsimp only
      rw [e3, forG]
      simp! only []
    have h2' : 2 ≤ p.length := by omega
    have hgm : ∀ x ∈ gbs p, GB p x.1 x.2 := fun x hx => gchain_mem h2' (Nat.zero_le _) hx
    have hg := greatest_ok p h2' h100
    have hgl : (gbs p).length ≤ p.length := by
      obtain ⟨S, s0, sm', hS⟩ := chain_S h2' p.length 0 (by omega) (by omega)
      have sm' : S (gbs p).length = p.length := sm'
      have hS : ∀ i, i < (gbs p).length → (gbs p)[i]? = some (S i, S (i + 1)) ∧ GB p (S i) (S (i + 1)) := hS
      have key : ∀ i, i ≤ (gbs p).length → i ≤ S i := by
        intro i
        induction i with
        | zero => intro _; exact Nat.zero_le _
        | succ i ih =>
          intro hi
          have := ih (by omega)
          have := (hS i (by omega)).2.lt
          omega
      have := key _ (Nat.le_refl _)
      omega
    have nh : (heads p (gbs p)).Nodup := by
      obtain ⟨S, s0, sm', hS⟩ := chain_S h2' p.length 0 (by omega) (by omega)
      exact heads_nd ip hS
    have hhl : (heads p (gbs p)).length = (gbs p).length := List.length_map ..
    have hcm := compared_l (heads p (gbs p)) nh (by omega)
    have hc1 : compB [6, 7] (.tup [.nm 6, .nm 7]) (rt true) (op2 fIx (dName 0) (dName 6)) ((gbs p).map encB) [.d (ti p), .u, .u, .u, .d (.list ((gbs p).map encB)), .u, .u, .u] = .ok ((heads p (gbs p)).map .int) [.d (ti p), .u, .u, .u, .d (.list ((gbs p).map encB)), .u, .u, .u] := by
      have h := compB_ok (vs := [6, 7]) (t := .tup [.nm 6, .nm 7]) (enc := encB) (f := fun x => .int (at0 p x.1)) (p := fun _ => true) (mt := rt true) (me := op2 fIx (dName 0) (dName 6)) (g := [.d (ti p), .u, .u, .u, .d (.list ((gbs p).map encB)), .u, .u, .u]) (gbs p) (sz_le (by omega)) rfl fun x hx => by
        have g := hgm x hx
        have l1 := g.lt
        have l2 := g.le
        have hix : fIx (.tuple (p.map .int)) (.int (x.1 : Int)) = some (.int (at0 p x.1)) := fIx_t (by rw [List.getElem?_map, getD_get (show x.1 < p.length by omega)]; rfl)
        refine ⟨[.d (ti p), .u, .u, .u, .d (.list ((gbs p).map encB)), .u, .d (.int (x.1 : Int)), .d (.int (x.2 : Int))], ?_, by simp! only [], fun _ => by simp! only [hix], by simp! only []⟩
        unfold encB
        rw [setT_tup, setTs_cons _ _ _ _ _ _ (setT_nm _ _ _), setTs_cons _ _ _ _ _ _ (setT_nm _ _ _), setTs_nil]
        simp! only []
      rw [h, List.filter_eq_self.mpr (fun _ _ => rfl)]
      unfold heads
      rw [List.map_map]
      rfl
    have hc2 : compB [6, 7] (.tup [.nm 6, .nm 7]) (rt true) (rD (callP [.v] (φ_tree_of k) (vCons (dv (rD (callP [.v] φ_compared (vCons (dv (rD (cutR (dName 0) (oSome (dEsc (dName 6))) (oSome (dEsc (dName 7)))))) vNil)))) vNil))) ((gbs p).map encB) [.d (ti p), .u, .u, .u, .d (.list ((gbs p).map encB)), .d (ti (like (heads p (gbs p)))), .u, .u] =
        .ok ((gbs p).map fun x => treeD k (like (stch p x.1 x.2))) [.d (ti p), .u, .u, .u, .d (.list ((gbs p).map encB)), .d (ti (like (heads p (gbs p)))), .u, .u] := by
      have h := compB_ok (vs := [6, 7]) (t := .tup [.nm 6, .nm 7]) (enc := encB) (f := fun x => treeD k (like (stch p x.1 x.2))) (p := fun _ => true) (mt := rt true) (me := rD (callP [.v] (φ_tree_of k) (vCons (dv (rD (callP [.v] φ_compared (vCons (dv (rD (cutR (dName 0) (oSome (dEsc (dName 6))) (oSome (dEsc (dName 7)))))) vNil)))) vNil))) (g := [.d (ti p), .u, .u, .u, .d (.list ((gbs p).map encB)), .d (ti (like (heads p (gbs p)))), .u, .u]) (gbs p) (sz_le (by omega)) rfl fun x hx => by
        have g := hgm x hx
        have l1 := g.lt
        have l2 := g.le
        have gl := gb_len g
        have hcut := fCut_stch p (a := x.1) (b := x.2) (by omega) l2
        have hcmp := compared_ok (stch p x.1 x.2) (stch_nd ip.nd _ _) (by rw [stch_len l2]; omega)
        have hrec := tree_of_ok k (like (stch p x.1 x.2)) (isOrd_like (stch_nd ip.nd _ _)) (fun e => by
          have a := gl.1
          rw [e] at a
          simp at a
          omega) (by omega) (by omega)
        refine ⟨[.d (ti p), .u, .u, .u, .d (.list ((gbs p).map encB)), .d (ti (like (heads p (gbs p)))), .d (.int (x.1 : Int)), .d (.int (x.2 : Int))], ?_, by simp! only [], fun _ => by simp! only [hcut, hcmp, hrec], by simp! only []⟩
        unfold encB
        rw [setT_tup, setTs_cons _ _ _ _ _ _ (setT_nm _ _ _), setTs_cons _ _ _ _ _ _ (setT_nm _ _ _), setTs_nil]
        simp! only []
      rw [h, List.filter_eq_self.mpr (fun _ _ => rfl)]
    unfold m_tree_of
    simp! only [List.length_map, c0', ps, pk, hf, hg, hc1, hcm, hc2]
theorem tree_ok' (p : List Int) (ip : IsOrd p) (hne : p ≠ []) (h : p.length ≤ 16) : φ_tree [ti p] = .ret (.d (treeD 16 p)) [] := by
  have h1 := check_filled_ok p ip (by omega) hne
  have h2 := tree_of_ok 16 p ip hne h (by omega)
  unfold φ_tree m_tree
  simp! only [h1, h2]

abbrev inBody : M Fl := (dSeq (sSet 6 (dIfE (dB (rD (callP [.v] (φ__law_is_tree 16) (vCons (dName 4) vNil)))) (rD (callP [.m, .v] (φ__law_bent 16) (vCons (dName 2) (vCons (dName 4) vNil)))) (dTup dNil)))
    (dSeq (sSet 7 (dIfE (dB (rD (callP [.v] (φ__law_is_tree 16) (vCons (dName 6) vNil)))) (rD (callP [.v] (φ__law_grown 16) (vCons (dName 6) vNil))) (dTup (dCons (dC (.str "none")) (dCons (dEsc (dName 6)) dNil)))))
    (dSeq (sIf (dB (op2 fGt (dv (opN fLen (vCons (dName 7) vNil))) (dv (dC (.int 12))))) sCt sNx)
    (sIf (dOr (dNot (dB (rD (callP [.v] (φ__law_is_tree 16) (vCons (dName 4) vNil))))) (dNot (dB (rD (callP [.v, .v] (φ__law_same 28) (vCons (dv (rD (callP [.p, .p] φ__law_told (vCons (dv (dEsc (dName 6))) (vCons (dv (op2 fEq (dv (rD (callP [.m, .v] φ__law_take (vCons (dName 2) (vCons (dv (dC (.int 2))) vNil))))) (dv (dC (.int 1))))) vNil))))) (vCons (dName 7) vNil))))))) (sRet (dC (.bool false))) sNx))))
abbrev lawBody : M Fl := (dSeq (sSetR 2 (callP [.v, .v] φ__law_deck (vCons (dName 0) (vCons (dName 1) vNil))))
    (dSeq (sSetR 3 (callP [.m, .v] φ__law_row (vCons (dName 2) (vCons (dv (dC (.int 8))) vNil))))
    (dSeq (sSetR 4 (callP [.v] φ_tree (vCons (dv (dIfE (dB (op2 fNe (dName 3) (dv (dTup dNil)))) (dEsc (dName 3)) (dTup (dCons (dC (.int 1)) dNil)))) vNil)))
    (sFor (.nm 5) [5, 6, 7] (iR1 (vCons (dv (dC (.int 6))) vNil)) inBody))))
/-- what the told tree is -/
structure Told (T : D) : Prop where
  o8 : ∃ p, ordT 8 T = some p
  o16 : ∃ p, ordT 16 T = some p
  zs : sz T ≤ 40
theorem told_T {p : List Int} (ip : IsOrd p) (hne : p ≠ []) (h : p.length ≤ 8) : Told (treeD 16 p) := by
  obtain ⟨⟨a, a1, _⟩, a2, _⟩ := td_ok 8 16 p ip hne h (by omega)
  obtain ⟨⟨b, b1, _⟩, _⟩ := td_ok 16 16 p ip hne (by omega) (by omega)
  exact ⟨⟨a, a1⟩, ⟨b, b1⟩, by omega⟩
theorem in_step (ns : SV) (k turn : SV) (row T : D) (hT : Told T) (l : List D) (hl : Deck l) : ∃ (g : En) (l' : List D), (inBody [ns, k, .own false l, .d row, .d T, turn, .u, .u] = .ok .nx g ∨ inBody [ns, k, .own false l, .d row, .d T, turn, .u, .u] = .ok .ct g) ∧ Deck l' ∧ fgt [5, 6, 7] g = [ns, k, .own false l', .d row, .d T, .u, .u, .u] := by
  obtain ⟨p8, h8⟩ := hT.o8
  obtain ⟨p16, h16⟩ := hT.o16
  have hz := hT.zs
  have shT := ordT_sh h8 (by omega)
  have it := tree_ok 16 16 T shT (by omega) (by omega) (by omega)
  rw [h16] at it
  have it : φ__law_is_tree 16 [T] = .ret (.d (.bool true)) [] := it
  obtain ⟨r, y, l1, b1, b2, d1, sy, zy⟩ := bent_ok 8 T p8 (by omega) h8 (by omega) 16 (by omega) l hl
  have iy := tree_ok 16 22 y sy (by omega) (by omega) (by omega)
  have oy := order_ok 16 22 y sy (by omega) (by omega) (by omega)
  obtain ⟨u, l2, b3, d2, u0, u1⟩ := take_ok d1 2 (by omega) (by omega)
  have hb : ∃ m : Rt, r = m ∧ ((m = .d y) ∨ ∃ ys, m = .own ys ∧ y = .list ys) := by
    cases r with
    | d y' => exact ⟨_, rfl, .inl (by rw [show y = y' from b2])⟩
    | own ys => exact ⟨_, rfl, .inr ⟨ys, rfl, b2⟩⟩
  cases ho : ordT 16 y with
  | some p =>
    rw [ho] at iy oy
    have iy : φ__law_is_tree 16 [y] = .ret (.d (.bool true)) [] := iy
    have oy : φ_order_of_tree 16 [y] = .ret (.d (ti p)) [] := oy
    have gr := grown_ok 16 y p ho (by omega)
    by_cases h12 : (12 : Int) < p.length
    · refine ⟨[ns, k, .own false l1, .d row, .d T, turn, .d y, .d (ti p)], l1, .inr ?_, d1, by simp! only []⟩
      obtain ⟨m, rfl, hm⟩ := hb
      unfold inBody
      rcases hm with rfl | ⟨ys, rfl, rfl⟩ <;> simp! only [it, b1, iy, gr, List.length_map, gt_iff_lt, h12]
    · have tl := told_yes y (decide (u = 1)) p oy
      have sm' := same_ok 1 (ti p) (.tup (by rw [List.length_map]; have := ordT_len ho; omega) fun z hz => by
        obtain ⟨i, _, rfl⟩ := List.mem_map.mp hz
        exact .int _ _) 28 (by omega)
      refine ⟨[ns, k, .own false l2, .d row, .d T, turn, .d y, .d (ti p)], l2, .inl ?_, d2, by simp! only []⟩
      obtain ⟨m, rfl, hm⟩ := hb
      unfold inBody
      rcases hm with rfl | ⟨ys, rfl, rfl⟩ <;> simp! only [it, b1, iy, gr, List.length_map, gt_iff_lt, h12, b3, tl, sm']
  | none =>
    rw [ho] at iy oy
    have iy : φ__law_is_tree 16 [y] = .ret (.d (.bool false)) [] := iy
    have oy : φ_order_of_tree 16 [y] = .ret (.d .none) [] := oy
    have tl := told_no y (decide (u = 1)) oy
    have sm' := same_ok 23 (.tuple [.str "none", y]) (.tup (by simp) fun z hz => by
      rcases List.mem_cons.mp hz with rfl | hz
      · exact .str _ _ (by decide +kernel)
      · rw [List.mem_singleton.mp hz]
        exact sy) 28 (by omega)
    have n12 : ¬ (12 : Int) < 2 := by omega
    refine ⟨[ns, k, .own false l2, .d row, .d T, turn, .d y, .d (.tuple [.str "none", y])], l2, .inl ?_, d2, by simp! only []⟩
    obtain ⟨m, rfl, hm⟩ := hb
    unfold inBody
    rcases hm with rfl | ⟨ys, rfl, rfl⟩ <;> simp! only [nc2, it, b1, iy, gt_iff_lt, n12, b3, tl, sm']
theorem in_loop (ns : SV) (k : SV) (row T : D) (hT : Told T) (l : List D) (hl : Deck l) : ∃ l', Deck l' ∧ forG (.nm 5) [5, 6, 7] inBody ((irange 0 6).map .int) [ns, k, .own false l, .d row, .d T, .u, .u, .u] = .ok .nx [ns, k, .own false l', .d row, .d T, .u, .u, .u] := by
  obtain ⟨g', e1, i, l', h1, h2, h3⟩ := forG_inv (t := .nm 5) (ms := [5, 6, 7]) (b := inBody) ((irange 0 6).map .int)
    (fun r g => ∃ (i : Nat) (l' : List D), r = (irange i (6 - i)).map .int ∧ Deck l' ∧ g = [ns, k, .own false l', .d row, .d T, .u, .u, .u])
    _ ⟨0, l, rfl, hl, rfl⟩ (by
      rintro x r g ⟨i, l1, h1, d1, rfl⟩ _
      have hlt : i < 6 := by
        have := congrArg List.length h1
        rw [List.length_map, irange_len, List.length_cons] at this
        omega
      rw [show 6 - i = (6 - i - 1) + 1 by omega, irange_succ, List.map_cons] at h1
      injection h1 with hx hr
      subst hx
      obtain ⟨g2, l2, h2, d2, h3⟩ := in_step ns k (.d (.int (i : Int))) row T hT l1 d1
      refine ⟨[ns, k, .own false l1, .d row, .d T, .d (.int (i : Int)), .u, .u], g2, by simp! only [], h2, i + 1, l2, ?_, d2, h3⟩
      rw [hr]
      congr 2)
  refine ⟨l', h2, ?_⟩
  rw [e1, h3]
  simp! only []
theorem ne_unit (p : List Int) : fNe (ti p) (.tuple []) = some (.bool (!decide (p = []))) := by
  rw [fNe_gd (gd_ti 0 p) gd_nilT (by decide) (by decide)]
  show some (PyData.bool (!PyData.eqvAll (p.map .int) [])) = _
  rw [eqvAll_nil]
  cases p <;> simp
theorem law_step (ns : List Int) (k : Nat) : ∃ g : En, lawBody [.a (ns.map .int), .d (.int (k : Int)), .u, .u, .u, .u, .u, .u] = .ok .nx g ∧ fgt [1, 2, 3, 4, 5, 6, 7] g = [.a (ns.map .int), .u, .u, .u, .u, .u, .u, .u] := by
  obtain ⟨l0, h0, d0⟩ := deck_ok ns k
  obtain ⟨p, l1, h1, d1, ip, np⟩ := row_ok d0 8 (by omega)
  rw [show ((8 : Nat) : Int) = 8 from rfl] at h1
  have hne := ne_unit p
  have hs6 : Sm 6 := sm_of (by omega) (by omega)
  have i6 : ((6 : Int) - 0).toNat = 6 := rfl
  by_cases hp : p = []
  · rw [decide_eq_true hp] at hne
    have hne : fNe (ti p) (.tuple []) = some (.bool false) := hne
    have o1 : IsOrd [1] := isOrd_irange 1
    have ht := tree_ok' [1] o1 (by simp) (by simp)
    have ht : φ_tree [.tuple [.int 1]] = _ := ht
    obtain ⟨l2, d2, hi⟩ := in_loop (.a (ns.map .int)) (.d (.int (k : Int))) (ti p) (treeD 16 [1]) (told_T o1 (by simp) (by simp)) l1 d1
    refine ⟨[.a (ns.map .int), .d (.int (k : Int)), .own false l2, .d (ti p), .d (treeD 16 [1]), .u, .u, .u], ?_, by simp! only []⟩
    unfold lawBody
    simp! only [h0, h1, hne, ht, hs6]
    exact hi
  · rw [decide_eq_false hp] at hne
    have hne : fNe (ti p) (.tuple []) = some (.bool true) := hne
    have ht := tree_ok' p ip hp (by omega)
    obtain ⟨l2, d2, hi⟩ := in_loop (.a (ns.map .int)) (.d (.int (k : Int))) (ti p) (treeD 16 p) (told_T ip hp np) l1 d1
    refine ⟨[.a (ns.map .int), .d (.int (k : Int)), .own false l2, .d (ti p), .d (treeD 16 p), .u, .u, .u], ?_, by simp! only []⟩
    unfold lawBody
    simp! only [h0, h1, hne, ht, hs6]
    exact hi
theorem law_loop (ns : List Int) (n : Nat) : forG (.nm 1) [1, 2, 3, 4, 5, 6, 7] lawBody ((irange 0 n).map .int) [.a (ns.map .int), .u, .u, .u, .u, .u, .u, .u] = .ok .nx [.a (ns.map .int), .u, .u, .u, .u, .u, .u, .u] := by
  obtain ⟨g', e1, i, h1, h2⟩ := forG_inv (t := .nm 1) (ms := [1, 2, 3, 4, 5, 6, 7]) (b := lawBody) ((irange 0 n).map .int)
    (fun r g => ∃ i : Nat, r = (irange i (n - i)).map .int ∧ g = [.a (ns.map .int), .u, .u, .u, .u, .u, .u, .u])
    _ ⟨0, rfl, rfl⟩ (by
      rintro x r g ⟨i, h1, rfl⟩ _
      have hlt : i < n := by
        have := congrArg List.length h1
        rw [List.length_map, irange_len, List.length_cons] at this
        omega
      rw [show n - i = (n - i - 1) + 1 by omega, irange_succ, List.map_cons] at h1
      injection h1 with hx hr
      subst hx
      obtain ⟨g2, h2, h3⟩ := law_step ns i
      refine ⟨[.a (ns.map .int), .d (.int (i : Int)), .u, .u, .u, .u, .u, .u], g2, by simp! only [], .inl h2, i + 1, ?_, h3⟩
      rw [hr]
      congr 2)
  rw [e1, h2]
  simp! only []
theorem main (ns : List Int) (h : ns.length ≤ 63) : φ_law [.list (ns.map PyData.int)] = .ret (.d (.bool true)) [] := by
  have hsm : Sm (if (if (10 : Int) < ns.length then 10 else (ns.length : Int)) > 2 then (if (10 : Int) < ns.length then 10 else (ns.length : Int)) else 2) := by
    refine sm_of ?_ ?_ <;> (split <;> (try split) <;> omega)
  have hl := law_loop ns
  unfold φ_law m_law
  simp! only [List.length_map, hsm, hl]
end Ck07

set_option maxRecDepth 100000
open PySem PySem.W PyProof.Rows
set_option maxHeartbeats 0 in
theorem PySem.Challenge.cw_wholeorders_k07_whole_bent_trees_holds : PySem.Challenge.rw_wholeorders_k07_whole_bent_trees.Holds := by
  w_on; o_law; k_head; (case hw => w_witness2)
  k_fill
  refine L2.walk_of (l := PySem.Challenge.rw_wholeorders_k07_whole_bent_trees) (n := 63) (k := 39) (x := "script") (CX := fun w => L2.CX PySem.Challenge.pw_wholeorders_k07_whole_bent_trees w) (sp := fun w => Z.spLaw _) rfl (by decide) rfl ⟨rfl, by decide, by decide⟩ (fun w h Y => PySem.W.kIn_of Y) ?F (fun _ _ a ns hl _ hS => ⟨a, ns, rfl, hS, hl, fun _ _ e => e⟩) (fun _ _ _ _ _ h => Z.cx_none h)
  case F =>
    intro w mg fa h KX G hmg
    refine' Ck07.all_mk KX G hmg Ck07.main ?a0 ?l0 ?c0 ?k0 ?a1 ?l1 ?c1 ?k1 ?a2 ?l2 ?c2 ?k2 ?a3 ?l3 ?c3 ?k3 ?a4 ?l4 ?c4 ?k4 ?a5 ?l5 ?c5 ?k5 ?a6 ?l6 ?c6 ?k6 ?a7 ?l7 ?c7 ?k7 ?a8 ?l8 ?c8 ?k8 ?a9 ?l9 ?c9 ?k9 ?a10 ?l10 ?c10 ?k10 ?a11 ?l11 ?c11 ?k11 ?a12 ?l12 ?c12 ?k12 ?a13 ?l13 ?c13 ?k13 ?a14 ?l14 ?c14 ?k14 ?a15 ?l15 ?c15 ?k15 ?a16 ?l16 ?c16 ?k16 ?a17 ?l17 ?c17 ?k17 ?a18 ?l18 ?c18 ?k18 ?a19 ?l19 ?c19 ?k19 ?a20 ?l20 ?c20 ?k20 ?a21 ?l21 ?c21 ?k21 ?a22 ?l22 ?c22 ?k22 ?a23 ?l23 ?c23 ?k23 ?a24 ?l24 ?c24 ?k24 ?a25 ?l25 ?c25 ?k25 ?a26 ?l26 ?c26 ?k26 ?a27 ?l27 ?c27 ?k27 ?a28 ?l28 ?c28 ?k28 ?a29 ?l29 ?c29 ?k29 ?a30 ?l30 ?c30 ?k30 ?a31 ?l31 ?c31 ?k31 ?a32 ?l32 ?c32 ?k32 ?a33 ?l33 ?c33 ?k33 ?a34 ?l34 ?c34 ?k34 ?a35 ?l35 ?c35 ?k35 ?z0 ?z1 ?z2 ?z3 ?z4 ?z5 ?z6 ?z7 ?z8 ?z9 ?z10 ?z11 ?z12 ?z13 ?z14 ?z15 ?q0 ?xaC0 ?xL0 ?xsa0 ?xga0 ?xgg0 ?xnb0 ?xa10 ?xt10 ?xl10 ?xc10 ?xk10 ?xkC0 ?xeC0 ?xtC0 ?xhC0 ?xiC0 ?xsC0 ?xvV0 ?oa0
    (case a0 => k_is)
    (case l0 => k_is)
    (case c0 => k_is)
    (case k0 => k_is)
    (case a1 => k_is)
    (case l1 => k_is)
    (case c1 => k_is)
    (case k1 => k_is)
    (case a2 => k_is)
    (case l2 => k_is)
    (case c2 => k_is)
    (case k2 => k_is)
    (case a3 => k_is)
    (case l3 => k_is)
    (case c3 => k_is)
    (case k3 => k_is)
    (case a4 => k_is)
    (case l4 => k_is)
    (case c4 => k_is)
    (case k4 => k_is)
    (case a5 => k_is)
    (case l5 => k_is)
    (case c5 => k_is)
    (case k5 => k_is)
    (case a6 => k_is)
    (case l6 => k_is)
    (case c6 => k_is)
    (case k6 => k_is)
    (case a7 => k_is)
    (case l7 => k_is)
    (case c7 => k_is)
    (case k7 => k_is)
    (case a8 => k_is)
    (case l8 => k_is)
    (case c8 => k_is)
    (case k8 => k_is)
    (case a9 => k_is)
    (case l9 => k_is)
    (case c9 => k_is)
    (case k9 => k_is)
    (case a10 => k_is)
    (case l10 => k_is)
    (case c10 => k_is)
    (case k10 => k_is)
    (case a11 => k_is)
    (case l11 => k_is)
    (case c11 => k_is)
    (case k11 => k_is)
    (case a12 => k_is)
    (case l12 => k_is)
    (case c12 => k_is)
    (case k12 => k_is)
    (case a13 => k_is)
    (case l13 => k_is)
    (case c13 => k_is)
    (case k13 => k_is)
    (case a14 => k_is)
    (case l14 => k_is)
    (case c14 => k_is)
    (case k14 => k_is)
    (case a15 => k_is)
    (case l15 => k_is)
    (case c15 => k_is)
    (case k15 => k_is)
    (case a16 => k_is)
    (case l16 => k_is)
    (case c16 => k_is)
    (case k16 => k_is)
    (case a17 => k_is)
    (case l17 => k_is)
    (case c17 => k_is)
    (case k17 => k_is)
    (case a18 => k_is)
    (case l18 => k_is)
    (case c18 => k_is)
    (case k18 => k_is)
    (case a19 => k_is)
    (case l19 => k_is)
    (case c19 => k_is)
    (case k19 => k_is)
    (case a20 => k_is)
    (case l20 => k_is)
    (case c20 => k_is)
    (case k20 => k_is)
    (case a21 => k_is)
    (case l21 => k_is)
    (case c21 => k_is)
    (case k21 => k_is)
    (case a22 => k_is)
    (case l22 => k_is)
    (case c22 => k_is)
    (case k22 => k_is)
    (case a23 => k_is)
    (case l23 => k_is)
    (case c23 => k_is)
    (case k23 => k_is)
    (case a24 => k_is)
    (case l24 => k_is)
    (case c24 => k_is)
    (case k24 => k_is)
    (case a25 => k_is)
    (case l25 => k_is)
    (case c25 => k_is)
    (case k25 => k_is)
    (case a26 => k_is)
    (case l26 => k_is)
    (case c26 => k_is)
    (case k26 => k_is)
    (case a27 => k_is)
    (case l27 => k_is)
    (case c27 => k_is)
    (case k27 => k_is)
    (case a28 => k_is)
    (case l28 => k_is)
    (case c28 => k_is)
    (case k28 => k_is)
    (case a29 => k_is)
    (case l29 => k_is)
    (case c29 => k_is)
    (case k29 => k_is)
    (case a30 => k_is)
    (case l30 => k_is)
    (case c30 => k_is)
    (case k30 => k_is)
    (case a31 => k_is)
    (case l31 => k_is)
    (case c31 => k_is)
    (case k31 => k_is)
    (case a32 => k_is)
    (case l32 => k_is)
    (case c32 => k_is)
    (case k32 => k_is)
    (case a33 => k_is)
    (case l33 => k_is)
    (case c33 => k_is)
    (case k33 => k_is)
    (case a34 => k_is)
    (case l34 => k_is)
    (case c34 => k_is)
    (case k34 => k_is)
    (case a35 => k_is)
    (case l35 => k_is)
    (case c35 => k_is)
    (case k35 => k_is)
    (case z0 => k_is)
    (case z1 => k_is)
    (case z2 => k_is)
    (case z3 => k_is)
    (case z4 => k_is)
    (case z5 => k_is)
    (case z6 => k_is)
    (case z7 => k_is)
    (case z8 => k_is)
    (case z9 => k_is)
    (case z10 => k_is)
    (case z11 => k_is)
    (case z12 => k_is)
    (case z13 => k_is)
    (case z14 => k_is)
    (case z15 => k_is)
    (case q0 => k_is)
    (case xaC0 => k_is)
    (case xL0 => k_is)
    (case xsa0 => k_is)
    (case xga0 => k_is)
    (case xgg0 => k_is)
    (case xnb0 => k_is)
    (case xa10 => k_is)
    (case xt10 => k_is)
    (case xl10 => k_is)
    (case xc10 => k_is)
    (case xk10 => k_is)
    (case xkC0 => k_is)
    (case xeC0 => k_is)
    (case xtC0 => k_is)
    (case xhC0 => k_is)
    (case xiC0 => k_is)
    (case xsC0 => first | rfl | k_is)
    (case xvV0 => k_is)
    (case oa0 => k_is)
