import PyProof.Rows.All
import Wide.All
import OpenK.AllK
import Wide.FinOn
import HandS.ForMost
import HandS.ForExc
import HandS.TupAny
import HandS.SortInts
import HandS.Conv
import HandS.Style
import HandS.Zip
import HandS.Walk
import HandS.Wide
import HandS.ExcInit
import HandS.Defaults
import HandS.IsInst
import HandS.TryMany
import HandS.DictComp
import HandS.WordsDict
import KE.DataEq
import PyProof.WalkInts
import KE.SortData
import KE.GoesMore
import KE.GoesEnum
import HandS.Strs
import HandS.More
import HandS.TryOnly
import KE.GoesZip
import KE.DataFind
import HandS.TupLen
import HandS.TupSets
import KE.KeyNested
import HandS.SetBool
import KE.KDictPairs
import HandS.RaiseMore
import PyProof.Rows.SetFrom
import PyProof.Rows.StrJoinMade
import HandS.HeadHook3
import KE.KDictDisplayH
import PyProof.ZipIter
import PyProof.CallType
import PyProof.Walk
import PyProof.WalkLemmas
import PyProof.RangeIter
import PyProof.RulesTry
import HandS.ExcValue
import PyProof.Rows.TupTab
import HandS.WordsExc
import HandS.ExcField
import HandS.TupMul
import KE.DataMinMax
import HandS.SortKw
import PyProof.ReprRoads
import PyProof.ReprText
import HandS.Ends
import HandS.ExcIs
import HandS.Replace
import HandS.StrMore
import HandS.Codes
import KE.KDictSum
import KE.KDictCopyH
import PySem.Challenge.RW_wholeorders_k03_whole_parts_shown

set_option Elab.async false
set_option linter.all false
set_option maxRecDepth 100000
set_option autoImplicit false
namespace Z
open PySem PySem.Spec PyProof.Rows L2

abbrev D := PyData
abbrev St := L2.St

/-- a tuple that has no dict of its own -/
def TupN (K : PySem.W.Frag) (H : Hp) (a : Addr) (xs : List V) : Prop := (∃ o, H a = some (.frz o (.tup xs)) ∧ o.dict = none) ∨
  ∃ (o : Obj) (its : Array Value) (n : Nat), K.lookup a = some o ∧ o.cls = .type "tuple" ∧ o.dict = none ∧ o.data = .seq its n ∧ its.size ≤ sizeLine ∧ Vals xs its.toList
/-- a dict's key as data -/
def keyD : Key → PyData
  | .inl i => .int i
  | .inr x => .str x
/-- at a: an exception of the class at C, its dict at dd -/
def ExO (a C dd : Addr) : HO := .ext fun h => ∃ (o : Obj) (vs : Array Value), h.get? a = some o ∧ o.cls = .ref C ∧ o.dict = some dd ∧ o.data = .fields vs
mutual
inductive Dq (K : PySem.W.Frag) (H : Hp) : V → PyData → Prop
  | non : Dq K H .non .none
  | bl (b : Bool) : Dq K H (.bl b) (.bool b)
  | int (i : Int) : Dq K H (.int i) (.int i)
  | str (x : Str) : Dq K H (.str x) (.str x)
  | lst {a : Addr} {xs : List V} {ds : List PyData} : SqL K H a xs → DqAll K H xs ds → Dq K H (.ref a) (.list ds)
  | tup {a : Addr} {xs : List V} {ds : List PyData} : TupN K H a xs → DqAll K H xs ds → Dq K H (.ref a) (.tuple ds)
  | dic {a : Addr} {kvs : List (Key × V)} {ds : List (PyData × PyData)} : H a = some (.dK kvs) → KvAll K H kvs ds → Dq K H (.ref a) (.dict ds)
  | exc {a C dd : Addr} {c : Str} {v : V} {x : PyData} : PySem.W.nsIn K mainGlobals c = some (some (.ref C)) → H a = some (ExO a C dd) → H dd = some (.xd [(("value" : Str), v)]) → Dq K H v x → Dq K H (.ref a) (.dict [(.list [], .str c), (.list [], x)])
  | fn {a : Addr} {c : Str} : PySem.W.nsIn K mainGlobals c = some (some (.ref a)) → Dq K H (.ref a) (.dict [(.list [], .bool true), (.list [], .str c)])
inductive DqAll (K : PySem.W.Frag) (H : Hp) : List V → List PyData → Prop
  | nil : DqAll K H [] []
  | cons {v : V} {vs : List V} {d : PyData} {ds : List PyData} : Dq K H v d → DqAll K H vs ds → DqAll K H (v :: vs) (d :: ds)
inductive KvAll (K : PySem.W.Frag) (H : Hp) : List (Key × V) → List (PyData × PyData) → Prop
  | nil : KvAll K H [] []
  | cons {k : Key} {v : V} {kvs : List (Key × V)} {d : PyData} {ds : List (PyData × PyData)} : Dq K H v d → KvAll K H kvs ds → KvAll K H ((k, v) :: kvs) ((keyD k, d) :: ds)
end
section
variable {K : PySem.W.Frag} {G H : Hp}
theorem TupN.sq {a : Addr} {xs : List V} (h : TupN K G a xs) : SqT K G a xs := by
  rcases h with ⟨o, h, _⟩ | ⟨o, its, n, h1, h2, _, h3⟩
  · exact .inl (.inr ⟨o, h⟩)
  · exact .inr ⟨o, its, n, h1, h2, h3⟩
theorem TupN.mono {a : Addr} {xs : List V} (e : Same G H) (h : TupN K G a xs) : TupN K H a xs := by
  rcases h with ⟨o, h, k⟩ | h
  · exact .inl ⟨o, e _ _ h, k⟩
  · exact .inr h
theorem TupN.new {a : Addr} {xs : List V} {o : Obj} (h : o.dict = none) : TupN K (upd G a (.frz o (.tup xs))) a xs := .inl ⟨o, upd_same, h⟩
mutual
theorem Dq.dp : ∀ (d : D) (v : V), d.plain = true → Dq K G v d → Dp K G v d
  | .none, _, _, h => by cases h; exact .non
  | .bool b, _, _, h => by cases h; exact .bl b
  | .int i, _, _, h => by cases h; exact .int i
  | .str x, _, _, h => by cases h; exact .str x
  | .list ds, _, p, h => by
    cases h with
    | lst hs ha => exact .lst hs (DqAll.dp ds _ (by rw [PyData.plain] at p; exact p) ha)
  | .tuple ds, _, p, h => by
    cases h with
    | tup hs ha => exact .tup hs.sq (DqAll.dp ds _ (by rw [PyData.plain] at p; exact p) ha)
  | .dict _, _, p, _ => by
    rw [PyData.plain] at p
    cases p
theorem DqAll.dp : ∀ (ds : List D) (vs : List V), PyData.plainAll ds = true → DqAll K G vs ds → DpAll K G vs ds
  | [], _, _, h => by cases h; exact .nil
  | d :: ds, _, p, h => by
    rw [PyData.plainAll, Bool.and_eq_true] at p
    cases h with
    | cons h1 h2 => exact .cons (Dq.dp d _ p.1 h1) (DqAll.dp ds _ p.2 h2)
end
mutual
theorem dq_up (e : Same G H) : ∀ {v : V} {d : D}, Dq K G v d → Dq K H v d
  | _, _, .non => .non
  | _, _, .bl b => .bl b
  | _, _, .int i => .int i
  | _, _, .str x => .str x
  | _, _, .lst hs ha => .lst (e.seq hs) (dqAll_up e ha)
  | _, _, .tup hs ha => .tup (hs.mono e) (dqAll_up e ha)
  | _, _, .dic hk ha => .dic (e _ _ hk) (kvAll_up e ha)
  | _, _, .exc h1 h2 h3 h4 => .exc h1 (e _ _ h2) (e _ _ h3) (dq_up e h4)
  | _, _, .fn h => .fn h
theorem dqAll_up (e : Same G H) : ∀ {vs : List V} {ds : List D}, DqAll K G vs ds → DqAll K H vs ds
  | _, _, .nil => .nil
  | _, _, .cons a b => .cons (dq_up e a) (dqAll_up e b)
theorem kvAll_up (e : Same G H) : ∀ {kvs : List (Key × V)} {ds : List (D × D)}, KvAll K G kvs ds → KvAll K H kvs ds
  | _, _, .nil => .nil
  | _, _, .cons a b => .cons (dq_up e a) (kvAll_up e b)
end
theorem dp_mono (e : Same G H) : ∀ (d : D) (v : V), Dq K G v d → Dq K H v d := fun _ _ h => dq_up e h
theorem dpAll_mono (e : Same G H) : ∀ (ds : List D) (vs : List V), DqAll K G vs ds → DqAll K H vs ds := fun _ _ h => dqAll_up e h
theorem dpa_length : ∀ {vs : List V} {ds : List D}, DqAll K G vs ds → vs.length = ds.length
  | _, _, .nil => rfl
  | _, _, .cons _ h => by rw [List.length_cons, List.length_cons, dpa_length h]
theorem dpa_append : ∀ {vs : List V} {ds : List D} {us : List V} {es : List D}, DqAll K G vs ds → DqAll K G us es → DqAll K G (vs ++ us) (ds ++ es)
  | _, _, _, _, .nil, h => h
  | _, _, _, _, .cons a b, h => .cons a (dpa_append b h)
theorem dpa_get : ∀ {vs : List V} {ds : List D} {i : Nat} {d : D}, DqAll K G vs ds → ds[i]? = some d → ∃ v, vs[i]? = some v ∧ Dq K G v d
  | _, _, _, _, .nil, h => by simp at h
  | _, _, 0, _, .cons a _, h => by
    simp at h
    subst h
    exact ⟨_, rfl, a⟩
  | _, _, i + 1, d, .cons _ b, h => by
    obtain ⟨v, h1, h2⟩ := dpa_get (i := i) b (by simpa using h)
    exact ⟨v, by simpa using h1, h2⟩
theorem dpa_get' : ∀ {vs : List V} {ds : List D} {i : Nat} {v : V}, DqAll K G vs ds → vs[i]? = some v → ∃ d, ds[i]? = some d ∧ Dq K G v d
  | _, _, _, _, .nil, h => by simp at h
  | _, _, 0, _, .cons a _, h => by
    simp at h
    subst h
    exact ⟨_, rfl, a⟩
  | _, _, i + 1, d, .cons _ b, h => by
    obtain ⟨v, h1, h2⟩ := dpa_get' (i := i) b (by simpa using h)
    exact ⟨v, by simpa using h1, h2⟩
theorem dpa_take : ∀ {vs : List V} {ds : List D} (n : Nat), DqAll K G vs ds → DqAll K G (vs.take n) (ds.take n)
  | _, _, 0, _ => by simp; exact .nil
  | _, _, _ + 1, .nil => .nil
  | _, _, n + 1, .cons a b => .cons a (dpa_take n b)
theorem dpa_drop : ∀ {vs : List V} {ds : List D} (n : Nat), DqAll K G vs ds → DqAll K G (vs.drop n) (ds.drop n)
  | _, _, 0, h => h
  | _, _, _ + 1, .nil => .nil
  | _, _, n + 1, .cons _ b => dpa_drop n b
theorem dpa_set {v : V} {d : D} (r : Dq K G v d) : ∀ {vs : List V} {ds : List D} (i : Nat), DqAll K G vs ds → DqAll K G (vs.set i v) (ds.set i d)
  | _, _, _, .nil => .nil
  | _, _, 0, .cons _ b => .cons r b
  | _, _, i + 1, .cons a b => .cons a (dpa_set r i b)
theorem dpa_reverse {vs : List V} {ds : List D} (h : DqAll K G vs ds) : DqAll K G vs.reverse ds.reverse := by
  induction ds generalizing vs with
  | nil => cases h; exact .nil
  | cons d ds ih =>
    cases h with
    | cons a b =>
      rw [List.reverse_cons, List.reverse_cons]
      exact dpa_append (ih b) (.cons a .nil)
theorem dpa_ints : ∀ (ns : List Int), DqAll K G (ns.map V.int) (ns.map PyData.int)
  | [] => .nil
  | n :: ns => .cons (.int n) (dpa_ints ns)
theorem dpa_ints' : ∀ {ns : List Int} {vs : List V}, DqAll K G vs (ns.map PyData.int) → vs = ns.map V.int
  | [], _, h => by cases h; rfl
  | n :: ns, _, h => by
    cases h with
    | cons a b =>
      cases a
      rw [dpa_ints' b]
      rfl
theorem dpa_of_get : ∀ {vs : List V} {ds : List D}, vs.length = ds.length → (∀ (i : Nat) (v : V) (d : D), vs[i]? = some v → ds[i]? = some d → Dq K G v d) → DqAll K G vs ds
  | [], [], _, _ => .nil
  | [], _ :: _, h, _ => by simp at h
  | _ :: _, [], h, _ => by simp at h
  | v :: vs, d :: ds, h, k => .cons (k 0 v d rfl rfl) (dpa_of_get (by simpa using h) fun i v' d' h1 h2 => k (i + 1) v' d' (by simpa using h1) (by simpa using h2))
end

inductive SV where
  /-- not known -/
  | u
  /-- data that stays -/
  | d (x : D)
  /-- a list that is read alone (an argument) -/
  | a (xs : List D)
  /-- a list of one's own; true: the argument that is changed -/
  | own (m : Bool) (xs : List D)
  /-- a dict of one's own: its keys, tuples of ints, and what it holds -/
  | dk (ds : List (List Int × D))
/-- whether a slot holds a thing of one's own -/
def SV.ow : SV → Bool
  | .own _ _ => true
  | .dk _ => true
  | _ => false
abbrev En := List SV
inductive Rs where
  | d (x : D)
  | sl (i : Nat)
/-- what comes of a run: nothing that is spoken of, a value, an exception -/
inductive Ro (α : Type) where
  | bad
  | ok (x : α) (g : En)
  | ex (c : Str) (x : D) (g : En)
abbrev M (α : Type) := En → Ro α
def bnd {α β : Type} (m : M α) (f : α → M β) : M β := fun g => match m g with
  | .bad => .bad
  | .ok x g' => f x g'
  | .ex c x g' => .ex c x g'
def rt {α : Type} (x : α) : M α := fun g => .ok x g
/-- an argument's slot: what is a list is read alone -/
def svA : D → SV
  | .list xs => .a xs
  | x => .d x

def hT (k : List Int) : Int := reduceHash (Builtin.Tuple.tupleHashOf (k.map hashInt))
structure DkRaw (h : Heap) (l : Addr) (es : List (List Int × Addr × V)) : Prop where
  few : es.length ≤ sizeLine
  sys : (l == sysModules) = false
  ex : ∃ xs : List (List Int × Addr × Value), Paired (fun p q => p.1 = q.1 ∧ p.2.1 = q.2.1 ∧ RelV p.2.2 q.2.2) es xs ∧
    ∃ o e ep, h.get? l = some o ∧ o.ExactDict ∧ o.data = .dict e ep ∧ e.toList = xs.map (fun x => (⟨hT x.1, .ref x.2.1, x.2.2⟩ : DictEntry)) ∧ (xs.map (·.1)).Nodup
def DkO (l : Addr) (es : List (List Int × Addr × V)) : HO := .ext fun h => DkRaw h l es
inductive DkAll (K : PySem.W.Frag) (G : Hp) : List (List Int × Addr × V) → List (List Int × D) → Prop
  | nil : DkAll K G [] []
  | cons {k : List Int} {a : Addr} {v : V} {d : D} {es : List (List Int × Addr × V)} {ds : List (List Int × D)} : TupN K G a (k.map V.int) → Dq K G v d → DkAll K G es ds → DkAll K G ((k, a, v) :: es) ((k, d) :: ds)
theorem dkAll_up {K : PySem.W.Frag} {G H : Hp} (g : Same G H) : ∀ {es : List (List Int × Addr × V)} {ds : List (List Int × D)}, DkAll K G es ds → DkAll K H es ds
  | _, _, .nil => .nil
  | _, _, .cons a b c => .cons (a.mono g) (dp_mono g _ _ b) (dkAll_up g c)
/-- what a run leaves as it is: all that the frame holds; the lists that are read alone; places that a step may not make its own -/
structure Fr where
  f : Hp
  a : Hp
  k : Addr → Prop
  af : Same a f
  kf : ∀ l, k l → f l ≠ none
instance : CoeFun Fr (fun _ => Addr → Option HO) := ⟨Fr.f⟩
instance : Coe Fr Hp := ⟨Fr.f⟩
def SlotRel (K : PySem.W.Frag) (F : Fr) (G H : Hp) (Mu : Option Addr) (sv : SV) (s : Option V) : Prop := match sv with
  | .u => True
  | .d x => ∃ v, s = some v ∧ Dq K G v x
  | .a xs => ∃ l vs, s = some (.ref l) ∧ SqL K F.a l vs ∧ DqAll K G vs xs
  | .own m xs => ∃ l vs, s = some (.ref l) ∧ H l = some (.lst vs) ∧ DqAll K G vs xs ∧ F l = none ∧ G l = none ∧ (m = true → Mu = some l) ∧ (m = false → Mu ≠ some l)
  | .dk ds => ∃ l es, s = some (.ref l) ∧ H l = some (DkO l es) ∧ DkAll K G es ds ∧ F l = none ∧ G l = none ∧ Mu ≠ some l
def Owns (Γ : En) (σ : St) (i : Nat) (l : Addr) : Prop := ∃ sv : SV, Γ[i]? = some sv ∧ sv.ow = true ∧ σ[i]? = some (some (.ref l))
structure Rel (K : PySem.W.Frag) (F : Fr) (G : Hp) (Mu : Option Addr) (Γ : En) (σ : St) (H : Hp) : Prop where
  fh : Same F.f H
  lk : ∀ l, F.k l → G l = none
  gh : Same G H
  mu : ∀ l, Mu = some l → F l = none ∧ G l = none ∧ H l ≠ none
  len : Γ.length = σ.length
  sl : ∀ (i : Nat) (sv : SV), Γ[i]? = some sv → SlotRel K F G H Mu sv (σ[i]?.join)
  sep : ∀ (i j : Nat) (l : Addr), Owns Γ σ i l → Owns Γ σ j l → i = j

section
variable {K : PySem.W.Frag} {F : Fr} {G H H' G' : Hp} {Mu : Option Addr} {Γ : En} {σ : St}
theorem join_some {α : Type} {o : Option (Option α)} {v : α} (h : o.join = some v) : o = some (some v) := by
  cases o with
  | none => cases h
  | some x =>
    cases x with
    | none => cases h
    | some y =>
      cases h
      rfl
theorem Rel.owned (R : Rel K F G Mu Γ σ H) {i : Nat} {m : Bool} {xs : List D} (h : Γ[i]? = some (.own m xs)) : ∃ l vs, σ[i]? = some (some (.ref l)) ∧ H l = some (.lst vs) ∧ DqAll K G vs xs ∧ F l = none ∧ G l = none ∧ (m = true → Mu = some l) ∧ (m = false → Mu ≠ some l) ∧ Owns Γ σ i l := by
  obtain ⟨l, vs, h1, h2, h3, h4, h5, h6, h7⟩ := R.sl i _ h
  have e := join_some h1
  exact ⟨l, vs, e, h2, h3, h4, h5, h6, h7, _, h, rfl, e⟩
theorem Rel.dkd (R : Rel K F G Mu Γ σ H) {i : Nat} {ds : List (List Int × D)} (h : Γ[i]? = some (.dk ds)) : ∃ l es, σ[i]? = some (some (.ref l)) ∧ H l = some (DkO l es) ∧ DkAll K G es ds ∧ F l = none ∧ G l = none ∧ Mu ≠ some l ∧ Owns Γ σ i l := by
  obtain ⟨l, es, h1, h2, h3, h4, h5, h6⟩ := R.sl i _ h
  have e := join_some h1
  exact ⟨l, es, e, h2, h3, h4, h5, h6, _, h, rfl, e⟩
theorem Rel.data (R : Rel K F G Mu Γ σ H) {i : Nat} {x : D} (h : Γ[i]? = some (.d x)) : ∃ v, σ[i]? = some (some v) ∧ Dq K G v x := by
  obtain ⟨v, h1, h2⟩ := R.sl i _ h
  exact ⟨v, join_some h1, h2⟩
theorem Rel.arg (R : Rel K F G Mu Γ σ H) {i : Nat} {xs : List D} (h : Γ[i]? = some (.a xs)) : ∃ l vs, σ[i]? = some (some (.ref l)) ∧ SqL K F.a l vs ∧ DqAll K G vs xs := by
  obtain ⟨l, vs, h1, h2, h3⟩ := R.sl i _ h
  exact ⟨l, vs, join_some h1, h2, h3⟩
theorem Rel.mono {Mu' : Option Addr} (R : Rel K F G Mu Γ σ H) (f : Same F.f H') (g : Same G G') (gh : Same G' H') (mu : ∀ l, Mu = some l → G' l = none ∧ H' l ≠ none)
    (own : ∀ i l, Owns Γ σ i l → G' l = none ∧ H' l = H l) (lk : ∀ l, F.k l → G' l = none) : Rel K F G' Mu Γ σ H' where
  fh := f
  lk := lk
  gh := gh
  mu := fun l e => ⟨(R.mu l e).1, (mu l e).1, (mu l e).2⟩
  len := R.len
  sl := fun i sv h => by
    have q := R.sl i sv h
    cases sv with
    | u => exact True.intro
    | d x =>
      obtain ⟨v, h1, h2⟩ := q
      exact ⟨v, h1, dp_mono g x v h2⟩
    | a xs =>
      obtain ⟨l, vs, h1, h2, h3⟩ := q
      exact ⟨l, vs, h1, h2, dpAll_mono g _ _ h3⟩
    | own m xs =>
      obtain ⟨l, vs, h1, h2, h3, h4, h5, h6, h7⟩ := q
      obtain ⟨o1, o2⟩ := own i l ⟨_, h, rfl, join_some h1⟩
      exact ⟨l, vs, h1, by rw [o2]; exact h2, dpAll_mono g _ _ h3, h4, o1, h6, h7⟩
    | dk ds =>
      obtain ⟨l, es, h1, h2, h3, h4, h5, h6⟩ := q
      obtain ⟨o1, o2⟩ := own i l ⟨_, h, rfl, join_some h1⟩
      exact ⟨l, es, h1, by rw [o2]; exact h2, dkAll_up g h3, h4, o1, h6⟩
  sep := R.sep
theorem Rel.there (R : Rel K F G Mu Γ σ H) {i : Nat} {l : Addr} (h : Owns Γ σ i l) : F l = none ∧ G l = none ∧ ∃ o, H l = some o := by
  obtain ⟨sv, h1, ho, h2⟩ := h
  cases sv with
  | own m xs =>
    obtain ⟨l', vs, e, h3, _, h4, h5, _⟩ := R.owned h1
    rw [h2] at e
    cases e
    exact ⟨h4, h5, _, h3⟩
  | dk ds =>
    obtain ⟨l', es, e, h3, _, h4, h5, _⟩ := R.dkd h1
    rw [h2] at e
    cases e
    exact ⟨h4, h5, _, h3⟩
  | u => cases ho
  | d x => cases ho
  | a xs => cases ho
theorem same_upd {p : Addr} {o : HO} (n : H p = none) : Same H (upd H p o) := fun b x e => by
  rw [upd_ne (ne_of_none e n)]
  exact e
theorem same_upd2 {p : Addr} {o : HO} (e : Same G H) : Same (upd G p o) (upd H p o) := fun b x h => by
  by_cases hb : b = p
  · subst hb
    rw [upd_same] at h ⊢
    exact h
  · rw [upd_ne hb] at h ⊢
    exact e b x h
theorem same_updR {p : Addr} {o : HO} (e : Same G H) (n : G p = none) : Same G (upd H p o) := fun b x h => by
  rw [upd_ne (ne_of_none h n)]
  exact e b x h
/-- a new object that stays -/
theorem Rel.new (R : Rel K F G Mu Γ σ H) {p : Addr} {o : HO} (n : H p = none) : Rel K F (upd G p o) Mu Γ σ (upd H p o) ∧ Same G (upd G p o) := by
  have nG : G p = none := R.gh.free n
  refine ⟨R.mono (Mu' := Mu) (fun b x h => same_upd n b x (R.fh b x h)) (same_upd nG) (same_upd2 R.gh) (fun l e => ?_) (fun i l h => ?_) (fun l e => ?_), same_upd nG⟩
  · obtain ⟨_, h2, h3⟩ := R.mu l e
    have hne : l ≠ p := fun z => by rw [z] at h3; exact h3 n
    rw [upd_ne hne, upd_ne hne]
    exact ⟨h2, h3⟩
  · obtain ⟨h1, h2, vs, h3⟩ := R.there h
    have hne : l ≠ p := ne_of_none h3 n
    rw [upd_ne hne, upd_ne hne]
    exact ⟨h2, rfl⟩
  · have hne : l ≠ p := fun z => by
      obtain ⟨o, q⟩ := Option.ne_none_iff_exists'.mp (F.kf l e)
      have := R.fh l o q
      rw [z, n] at this
      cases this
    rw [upd_ne hne]
    exact R.lk l e
/-- a new object that is not told of -/
theorem Rel.newX (R : Rel K F G Mu Γ σ H) {p : Addr} {o : HO} (n : H p = none) : Rel K F G Mu Γ σ (upd H p o) := by
  refine R.mono (Mu' := Mu) (fun b x h => same_upd n b x (R.fh b x h)) (Same.refl _) (fun b x h => same_upd n b x (R.gh b x h)) (fun l e => ?_) (fun i l h => ?_) R.lk
  · obtain ⟨_, h2, h3⟩ := R.mu l e
    have hne : l ≠ p := fun z => by rw [z] at h3; exact h3 n
    rw [upd_ne hne]
    exact ⟨h2, h3⟩
  · obtain ⟨h1, h2, vs, h3⟩ := R.there h
    have hne : l ≠ p := ne_of_none h3 n
    rw [upd_ne hne]
    exact ⟨h2, rfl⟩
theorem owns_set {i j : Nat} {sv : SV} {l : Addr} (h : Owns (Γ.set j sv) σ i l) (hn : sv.ow = false) : Owns Γ σ i l ∧ i ≠ j := by
  obtain ⟨m, h1, xs, h2⟩ := h
  by_cases e : i = j
  · subst e
    by_cases hl : i < Γ.length
    · rw [List.getElem?_set_self hl] at h1
      cases h1
      rw [hn] at xs
      cases xs
    · rw [List.getElem?_eq_none (by simpa using hl)] at h1
      cases h1
  · rw [List.getElem?_set_ne (Ne.symm e)] at h1
    exact ⟨⟨m, h1, xs, h2⟩, e⟩
/-- an own list becomes data that stays -/
theorem Rel.freeze (R : Rel K F G Mu Γ σ H) {i : Nat} {xs : List D} (h : Γ[i]? = some (.own false xs)) :
    ∃ (l : Addr) (G' : Hp), σ[i]? = some (some (.ref l)) ∧ Rel K F G' Mu (Γ.set i (.d (.list xs))) σ H ∧ Same G G' ∧ Dq K G' (.ref l) (.list xs) := by
  obtain ⟨l, vs, e, h2, h3, h4, h5, _, h7, ho⟩ := R.owned h
  have hs : Same G (upd G l (.lst vs)) := same_upd h5
  have gh : Same (upd G l (.lst vs)) H := fun b x q => by
    by_cases hb : b = l
    · subst hb
      rw [upd_same] at q
      rw [h2]
      exact q
    · rw [upd_ne hb] at q
      exact R.gh b x q
  have lk' : ∀ l', F.k l' → upd G l (.lst vs) l' = none := fun l' e' => by
    rw [upd_ne (fun z => F.kf l' e' (by rw [z]; exact h4))]
    exact R.lk l' e'
  have dp : Dq K (upd G l (.lst vs)) (.ref l) (.list xs) := .lst (.of upd_same) (dpAll_mono hs _ _ h3)
  have hi : i < Γ.length := by
    have := (List.getElem?_eq_some_iff.mp h).1
    exact this
  refine ⟨l, _, e, ⟨R.fh, lk', gh, fun l' q => ?_, by rw [List.length_set]; exact R.len, fun j sv hj => ?_, fun j k l' a b => ?_⟩, hs, dp⟩
  · obtain ⟨m1, m2, m3⟩ := R.mu l' q
    have hne : l' ≠ l := fun z => h7 rfl (by rw [q, z])
    rw [upd_ne hne]
    exact ⟨m1, m2, m3⟩
  · by_cases hji : j = i
    · subst hji
      rw [List.getElem?_set_self hi] at hj
      cases hj
      exact ⟨_, by rw [e] <;> rfl, dp⟩
    · rw [List.getElem?_set_ne (Ne.symm hji)] at hj
      have q := R.sl j sv hj
      cases sv with
      | u => exact True.intro
      | d x =>
        obtain ⟨v, q1, q2⟩ := q
        exact ⟨v, q1, dp_mono hs x v q2⟩
      | a ys =>
        obtain ⟨l', vs', q1, q2, q3⟩ := q
        exact ⟨l', vs', q1, q2, dpAll_mono hs _ _ q3⟩
      | own m ys =>
        obtain ⟨l', vs', q1, q2, q3, q4, q5, q6, q7⟩ := q
        have hne : l' ≠ l := fun z => by
          subst z
          exact hji (R.sep j i l' ⟨_, hj, rfl, join_some q1⟩ ho)
        exact ⟨l', vs', q1, q2, dpAll_mono hs _ _ q3, q4, by rw [upd_ne hne]; exact q5, q6, q7⟩
      | dk ds =>
        obtain ⟨l', es, q1, q2, q3, q4, q5, q6⟩ := q
        have hne : l' ≠ l := fun z => by
          subst z
          exact hji (R.sep j i l' ⟨_, hj, rfl, join_some q1⟩ ho)
        exact ⟨l', es, q1, q2, dkAll_up hs q3, q4, by rw [upd_ne hne]; exact q5, q6⟩
  · obtain ⟨a1, _⟩ := owns_set a rfl
    obtain ⟨b1, _⟩ := owns_set b rfl
    exact R.sep j k l' a1 b1
/-- an own list's content is another -/
theorem Rel.change (R : Rel K F G Mu Γ σ H) {i : Nat} {m : Bool} {xs ys : List D} {l : Addr} {us : List V} (h : Γ[i]? = some (.own m xs)) (e : σ[i]? = some (some (.ref l))) (d : DqAll K G us ys) :
    Rel K F G Mu (Γ.set i (.own m ys)) σ (upd H l (.lst us)) := by
  obtain ⟨l0, vs, e0, h2, h3, h4, h5, h6, h7, ho⟩ := R.owned h
  rw [e] at e0
  cases e0
  have hi : i < Γ.length := (List.getElem?_eq_some_iff.mp h).1
  have own' : ∀ j l', Owns (Γ.set i (.own m ys)) σ j l' → Owns Γ σ j l' := fun j l' z => by
    obtain ⟨m', z1, zs, z2⟩ := z
    by_cases hji : j = i
    · subst hji
      rw [e] at z2
      cases z2
      exact ho
    · rw [List.getElem?_set_ne (Ne.symm hji)] at z1
      exact ⟨m', z1, zs, z2⟩
  refine ⟨same_updR R.fh h4, R.lk, same_updR R.gh h5, fun l' q => ?_, by rw [List.length_set]; exact R.len, fun j sv hj => ?_, fun j k l' a b => R.sep j k l' (own' _ _ a) (own' _ _ b)⟩
  · obtain ⟨m1, m2, m3⟩ := R.mu l' q
    refine ⟨m1, m2, ?_⟩
    by_cases hl : l' = l
    · rw [hl, upd_same]
      exact fun z => nomatch z
    · rw [upd_ne hl]
      exact m3
  · by_cases hji : j = i
    · subst hji
      rw [List.getElem?_set_self hi] at hj
      cases hj
      exact ⟨l, us, by rw [e] <;> rfl, upd_same, d, h4, h5, h6, h7⟩
    · rw [List.getElem?_set_ne (Ne.symm hji)] at hj
      have q := R.sl j sv hj
      cases sv with
      | u => exact True.intro
      | d x => exact q
      | a ys => exact q
      | own m' zs =>
        obtain ⟨l', vs', q1, q2, q3, q4, q5, q6, q7⟩ := q
        have hne : l' ≠ l := fun z => by
          subst z
          exact hji (R.sep j i l' ⟨_, hj, rfl, join_some q1⟩ ho)
        exact ⟨l', vs', q1, by rw [upd_ne hne]; exact q2, q3, q4, q5, q6, q7⟩
      | dk ds =>
        obtain ⟨l', es, q1, q2, q3, q4, q5, q6⟩ := q
        have hne : l' ≠ l := fun z => by
          subst z
          exact hji (R.sep j i l' ⟨_, hj, rfl, join_some q1⟩ ho)
        exact ⟨l', es, q1, by rw [upd_ne hne]; exact q2, q3, q4, q5, q6⟩
/-- an own dict's content is another -/
theorem Rel.changeK (R : Rel K F G Mu Γ σ H) {i : Nat} {ds ds' : List (List Int × D)} {l : Addr} {es' : List (List Int × Addr × V)} (h : Γ[i]? = some (.dk ds)) (e : σ[i]? = some (some (.ref l))) (d : DkAll K G es' ds') :
    Rel K F G Mu (Γ.set i (.dk ds')) σ (upd H l (DkO l es')) := by
  obtain ⟨l0, vs, e0, h2, h3, h4, h5, h6, ho⟩ := R.dkd h
  rw [e] at e0
  cases e0
  have hi : i < Γ.length := (List.getElem?_eq_some_iff.mp h).1
  have own' : ∀ j l', Owns (Γ.set i (.dk ds')) σ j l' → Owns Γ σ j l' := fun j l' z => by
    obtain ⟨m', z1, zs, z2⟩ := z
    by_cases hji : j = i
    · subst hji
      rw [e] at z2
      cases z2
      exact ho
    · rw [List.getElem?_set_ne (Ne.symm hji)] at z1
      exact ⟨m', z1, zs, z2⟩
  refine ⟨same_updR R.fh h4, R.lk, same_updR R.gh h5, fun l' q => ?_, by rw [List.length_set]; exact R.len, fun j sv hj => ?_, fun j k l' a b => R.sep j k l' (own' _ _ a) (own' _ _ b)⟩
  · obtain ⟨m1, m2, m3⟩ := R.mu l' q
    refine ⟨m1, m2, ?_⟩
    by_cases hl : l' = l
    · rw [hl, upd_same]
      exact fun z => nomatch z
    · rw [upd_ne hl]
      exact m3
  · by_cases hji : j = i
    · subst hji
      rw [List.getElem?_set_self hi] at hj
      cases hj
      exact ⟨l, es', by rw [e] <;> rfl, upd_same, d, h4, h5, h6⟩
    · rw [List.getElem?_set_ne (Ne.symm hji)] at hj
      have q := R.sl j sv hj
      cases sv with
      | u => exact True.intro
      | d x => exact q
      | a ys => exact q
      | own m' zs =>
        obtain ⟨l', vs', q1, q2, q3, q4, q5, q6, q7⟩ := q
        have hne : l' ≠ l := fun z => by
          subst z
          exact hji (R.sep j i l' ⟨_, hj, rfl, join_some q1⟩ ho)
        exact ⟨l', vs', q1, by rw [upd_ne hne]; exact q2, q3, q4, q5, q6, q7⟩
      | dk ds0 =>
        obtain ⟨l', es0, q1, q2, q3, q4, q5, q6⟩ := q
        have hne : l' ≠ l := fun z => by
          subst z
          exact hji (R.sep j i l' ⟨_, hj, rfl, join_some q1⟩ ho)
        exact ⟨l', es0, q1, by rw [upd_ne hne]; exact q2, q3, q4, q5, q6⟩
/-- a slot is stored -/
theorem Rel.store (R : Rel K F G Mu Γ σ H) {i : Nat} {sv : SV} {v : V} (q : SlotRel K F G H Mu sv (some v)) (hn : sv.ow = true → ∀ j l, v = .ref l → Owns Γ σ j l → j = i) : Rel K F G Mu (Γ.set i sv) (σ.set i (some v)) H := by
  have own' : ∀ j l', Owns (Γ.set i sv) (σ.set i (some v)) j l' → (j ≠ i ∧ Owns Γ σ j l') ∨ (j = i ∧ sv.ow = true ∧ v = .ref l') := fun j l' z => by
    obtain ⟨m', z1, zs, z2⟩ := z
    by_cases hji : j = i
    · subst hji
      have hi : j < Γ.length := by
        have := (List.getElem?_eq_some_iff.mp z1).1
        simpa using this
      rw [List.getElem?_set_self hi] at z1
      rw [List.getElem?_set_self (by rw [← R.len]; exact hi)] at z2
      cases z1
      cases z2
      exact .inr ⟨rfl, zs, rfl⟩
    · rw [List.getElem?_set_ne (Ne.symm hji)] at z1 z2
      exact .inl ⟨hji, m', z1, zs, z2⟩
  refine ⟨R.fh, R.lk, R.gh, R.mu, by rw [List.length_set, List.length_set]; exact R.len, fun j sv' hj => ?_, fun j k l' a b => ?_⟩
  · by_cases hji : j = i
    · subst hji
      have hi : j < Γ.length := by
        have := (List.getElem?_eq_some_iff.mp hj).1
        simpa using this
      rw [List.getElem?_set_self hi] at hj
      cases hj
      rw [List.getElem?_set_self (by rw [← R.len]; exact hi)]
      exact q
    · rw [List.getElem?_set_ne (Ne.symm hji)] at hj
      rw [List.getElem?_set_ne (Ne.symm hji)]
      exact R.sl j sv' hj
  · rcases own' j l' a with ⟨a1, a2⟩ | ⟨a1, a2, a3⟩
    · rcases own' k l' b with ⟨b1, b2⟩ | ⟨b1, b2, b3⟩
      · exact R.sep j k l' a2 b2
      · exact absurd (hn b2 j l' b3 a2) a1
    · rcases own' k l' b with ⟨b1, b2⟩ | ⟨b1, b2, b3⟩
      · exact absurd (hn a2 k l' a3 b2) b1
      · rw [a1, b1]
/-- a slot is forgotten -/
theorem Rel.forget (R : Rel K F G Mu Γ σ H) (i : Nat) {o : Option V} : Rel K F G Mu (Γ.set i .u) (σ.set i o) H := by
  have own' : ∀ j l', Owns (Γ.set i .u) (σ.set i o) j l' → Owns Γ σ j l' := fun j l' z => by
    obtain ⟨m', z1, zs, z2⟩ := z
    by_cases hji : j = i
    · subst hji
      have hi : j < Γ.length := by
        have := (List.getElem?_eq_some_iff.mp z1).1
        simpa using this
      rw [List.getElem?_set_self hi] at z1
      cases z1
      cases zs
    · rw [List.getElem?_set_ne (Ne.symm hji)] at z1 z2
      exact ⟨m', z1, zs, z2⟩
  refine ⟨R.fh, R.lk, R.gh, R.mu, by rw [List.length_set, List.length_set]; exact R.len, fun j sv' hj => ?_, fun j k l' a b => R.sep j k l' (own' _ _ a) (own' _ _ b)⟩
  by_cases hji : j = i
  · subst hji
    have hi : j < Γ.length := by
      have := (List.getElem?_eq_some_iff.mp hj).1
      simpa using this
    rw [List.getElem?_set_self hi] at hj
    cases hj
    exact True.intro
  · rw [List.getElem?_set_ne (Ne.symm hji)] at hj
    rw [List.getElem?_set_ne (Ne.symm hji)]
    exact R.sl j sv' hj
end
end Z

set_option Elab.async false
set_option linter.all false
set_option maxRecDepth 100000
set_option autoImplicit false
set_option maxHeartbeats 1000000
namespace Z
open PySem PySem.Spec PyProof.Rows L2

structure Ext (G H G' H' : Hp) : Prop where
  g : Same G G'
  gh : Same G' H'
  h : Same H H'
  out : ∀ l, H l ≠ none → G' l = G l
section
variable {K : PySem.W.Frag} {F : Fr} {G H H' G' : Hp} {Mu : Option Addr} {Γ : En} {σ : St}
theorem Ext.refl (e : Same G H) : Ext G H G H := ⟨Same.refl _, e, Same.refl _, fun _ _ => rfl⟩
theorem Ext.new {p : Addr} {o : HO} (e : Same G H) (n : H p = none) : Ext G H (upd G p o) (upd H p o) :=
  ⟨same_upd (e.free n), same_upd2 e, same_upd n, fun l h => by rw [upd_ne (fun z => h (by rw [z]; exact n))]⟩
theorem Ext.trans {G1 H1 : Hp} (a : Ext G H G1 H1) (b : Ext G1 H1 G' H') : Ext G H G' H' :=
  ⟨a.g.trans b.g, b.gh, a.h.trans b.h, fun l h => (b.out l (fun z => h (a.h.free z))).trans (a.out l h)⟩
theorem Rel.ext (R : Rel K F G Mu Γ σ H) (e : Ext G H G' H') : Rel K F G' Mu Γ σ H' := by
  refine R.mono (Mu' := Mu) (R.fh.trans e.h) e.g e.gh (fun l q => ?_) (fun i l h => ?_) (fun l q => ?_)
  · obtain ⟨_, h2, h3⟩ := R.mu l q
    exact ⟨(e.out l h3).trans h2, fun z => h3 (e.h.free z)⟩
  · obtain ⟨h1, h2, vs, h3⟩ := R.there h
    exact ⟨(e.out l (by rw [h3]; exact fun z => nomatch z)).trans h2, by rw [h3]; exact e.h l _ h3⟩
  · obtain ⟨o, w⟩ := Option.ne_none_iff_exists'.mp (F.kf l q)
    exact (e.out l (by rw [R.fh l o w]; exact fun z => nomatch z)).trans (R.lk l q)
end

abbrev Rho (α β : Type) := PySem.W.Frag → Fr → Hp → Option Addr → En → St → Hp → α → β → Prop
def zpost {α β : Type} (X : Cx) (W : WX) (σ : St) (ρ : Rho α β) (F : Fr) (G : Hp) (Mu : Option Addr) (Q : β → Hp → Prop) (o : Ro α) : Prop := match o with
  | .bad => False
  | .ok r Γ' => ∀ v H' G', Same G G' → Rel X.K F G' Mu Γ' σ H' → ρ X.K F G' Mu Γ' σ H' r v → Q v H'
  | .ex c x Γ' => ∀ C a v H' G', X.mg c = some (.ref C) → Same G G' → Rel X.K F G' Mu Γ' σ H' → H' a = some (.xd [("value", v)]) → Dq X.K G' v x → F.f a = none → Mu ≠ some a → W (.ref C) (some a) σ H'
def zt {α β : Type} (X : Cx) (W : WX) (ρ : Rho α β) (m : M α) : St → Hp → (β → Hp → Prop) → Prop := fun σ H Q =>
  ∃ F G Mu Γ, Rel X.K F G Mu Γ σ H ∧ zpost X W σ ρ F G Mu Q (m Γ)
def rhoD : Rho D V := fun K _ G _ _ _ _ x v => Dq K G v x
def rhoR : Rho Rs V := fun K _ G _ _ σ _ r v => match r with
  | .d x => Dq K G v x
  | .sl i => σ[i]? = some (some v)
def rhoO : Rho (List D) V := fun K F G Mu Γ σ H xs v => ∃ l vs, v = .ref l ∧ H l = some (.lst vs) ∧ DqAll K G vs xs ∧ F l = none ∧ G l = none ∧ Mu ≠ some l ∧ ∀ i, ¬ Owns Γ σ i l
def rhoB : Rho Bool Bool := fun _ _ _ _ _ _ _ x b => x = b
def rhoDs : Rho (List D) (List V) := fun K _ G _ _ _ _ xs vs => DqAll K G vs xs
def RsAll (K : PySem.W.Frag) (G : Hp) (σ : St) : List Rs → List V → Prop
  | [], vs => vs = []
  | r :: rs, vs => ∃ v us, vs = v :: us ∧ (match r with | .d x => Dq K G v x | .sl i => σ[i]? = some (some v)) ∧ RsAll K G σ rs us
def rhoRs : Rho (List Rs) (List V) := fun K _ G _ _ σ _ rs vs => RsAll K G σ rs vs

/-- an expression gives data that stays -/
def DP (X : Cx) (e : Expr) (m : M D) : Prop := ∀ W, Takes X W → PE X e (zt X W rhoD m)
/-- .. data, or a name -/
def DV (X : Cx) (e : Expr) (m : M Rs) : Prop := ∀ W, Takes X W → PE X e (zt X W rhoR m)
/-- .. a new list -/
def DO (X : Cx) (e : Expr) (m : M (List D)) : Prop := ∀ W, Takes X W → PE X e (zt X W rhoO m)
def DT (X : Cx) (e : Expr) (m : M Bool) : Prop := ∀ W, Takes X W → PT X e (zt X W rhoB m)
/-- .. as a part of and, or -/
def DW (X : Cx) (e : Expr) (m : M Bool) : Prop := ∀ W, Takes X W → PW X e (zt X W rhoB m)
def DPs (X : Cx) (es : List Expr) (m : M (List D)) : Prop := ∀ W, Takes X W → PA X es (zt X W rhoDs m)
def DVs (X : Cx) (es : List Expr) (m : M (List Rs)) : Prop := ∀ W, Takes X W → PA X es (zt X W rhoRs m)

theorem pe_imp {X : Cx} {e : Expr} {t t' : TE} (p : PE X e t) (h : ∀ σ H Q, t' σ H Q → t σ H Q) : PE X e t' := ⟨fun pins s σ H Q I q => p.run pins s σ H Q I (h σ H Q q)⟩
theorem pt_imp {X : Cx} {e : Expr} {t t' : TT} (p : PT X e t) (h : ∀ σ H Q, t' σ H Q → t σ H Q) : PT X e t' := ⟨fun pins s σ H Q I q => p.run pins s σ H Q I (h σ H Q q)⟩
theorem pw_imp {X : Cx} {e : Expr} {t t' : TT} (p : PW X e t) (h : ∀ σ H Q, t' σ H Q → t σ H Q) : PW X e t' := ⟨fun wh pins s σ H Q I q => p.run wh pins s σ H Q I (h σ H Q q)⟩
theorem pa_imp {X : Cx} {es : List Expr} {t t' : TA} (p : PA X es t) (h : ∀ σ H Q, t' σ H Q → t σ H Q) : PA X es t' := ⟨fun pos pins s σ H Q I q => p.run pos pins s σ H Q I (h σ H Q q)⟩
theorem ps_imp {X : Cx} {st : Stmt} {t t' : TS} (p : PS X st t) (h : ∀ D σ H, t' D σ H → t D σ H) : PS X st t' := ⟨fun pins s σ H D I q => p.run pins s σ H D I (h D σ H q)⟩
theorem pss_imp {X : Cx} {st : List Stmt} {t t' : TS} (p : PSs X st t) (h : ∀ D σ H, t' D σ H → t D σ H) : PSs X st t' := ⟨fun pins s σ H D I q => p.run pins s σ H D I (h D σ H q)⟩

section
variable {X : Cx} {W : WX} {σ : St} {H : Hp} {α β γ δ ε ζ : Type} {ρ : Rho α β} {ρ' : Rho γ δ} {ρ'' : Rho ε ζ} {F : Fr} {G G' : Hp} {Mu : Option Addr}
theorem zpost.rebase {Q : β → Hp → Prop} {o : Ro α} (e : Same G G') (p : zpost X W σ ρ F G Mu Q o) : zpost X W σ ρ F G' Mu Q o := by
  cases o with
  | bad => exact p
  | ok r Γ' => exact fun v H' G2 h => p v H' G2 (e.trans h)
  | ex c x Γ' => exact fun C a v H' G2 h1 h2 => p C a v H' G2 h1 (e.trans h2)
theorem zpost.imp {Q Q' : β → Hp → Prop} {o : Ro α} (p : zpost X W σ ρ F G Mu Q o) (h : ∀ v H', Q v H' → Q' v H') : zpost X W σ ρ F G Mu Q' o := by
  cases o with
  | bad => exact p
  | ok r Γ' => exact fun v H' G2 h1 h2 h3 => h _ _ (p v H' G2 h1 h2 h3)
  | ex c x Γ' => exact p
theorem zt.imp {m : M α} {Q Q' : β → Hp → Prop} (p : zt X W ρ m σ H Q) (h : ∀ v H', Q v H' → Q' v H') : zt X W ρ m σ H Q' := by
  obtain ⟨F, G, Mu, Γ, R, q⟩ := p
  exact ⟨F, G, Mu, Γ, R, q.imp h⟩
/-- the first part of a run, the rest behind it -/
theorem zt_bnd {m : M α} {f : α → M γ} {Q : δ → Hp → Prop} (p : zt X W ρ' (bnd m f) σ H Q) :
    zt X W ρ m σ H fun v H1 => ∃ r F G Mu Γ, Rel X.K F G Mu Γ σ H1 ∧ ρ X.K F G Mu Γ σ H1 r v ∧ zpost X W σ ρ' F G Mu Q (f r Γ) := by
  obtain ⟨F, G, Mu, Γ, R, q⟩ := p
  refine ⟨F, G, Mu, Γ, R, ?_⟩
  unfold bnd at q
  cases e : m Γ with
  | bad => rw [e] at q; exact q
  | ok r Γ1 =>
    rw [e] at q
    exact fun v H1 G1 h1 R1 h2 => ⟨r, F, G1, Mu, Γ1, R1, h2, q.rebase h1⟩
  | ex c x Γ1 => rw [e] at q; exact q
/-- two parts in a row; what the first gave still stands -/
theorem zt_bnd2 {m : M α} {n : M γ} {f : α → γ → M ε} {Q : ζ → Hp → Prop} (st : ∀ K F G Mu Γ σ H r v F' G' Mu' Γ' H', Same G G' → ρ K F G Mu Γ σ H r v → ρ K F' G' Mu' Γ' σ H' r v)
    (p : zt X W ρ'' (bnd m fun r => bnd n fun s => f r s) σ H Q) :
    zt X W ρ m σ H fun v H1 => zt X W ρ' n σ H1 fun u H2 => ∃ r s F G Mu Γ, Rel X.K F G Mu Γ σ H2 ∧ ρ X.K F G Mu Γ σ H2 r v ∧ ρ' X.K F G Mu Γ σ H2 s u ∧ zpost X W σ ρ'' F G Mu Q (f r s Γ) := by
  obtain ⟨F, G, Mu, Γ, R, q⟩ := p
  refine ⟨F, G, Mu, Γ, R, ?_⟩
  unfold bnd at q
  cases e : m Γ with
  | bad => rw [e] at q; exact q
  | ok r Γ1 =>
    rw [e] at q
    refine fun v H1 G1 h1 R1 h2 => ⟨F, G1, Mu, Γ1, R1, ?_⟩
    dsimp only at q
    cases e2 : n Γ1 with
    | bad => rw [e2] at q; exact q
    | ok s Γ2 =>
      rw [e2] at q
      exact fun u H2 G2 k1 R2 k2 => ⟨r, s, F, G2, Mu, Γ2, R2, st _ _ _ _ _ _ _ _ _ _ _ _ _ _ k1 h2, k2, q.rebase (h1.trans k1)⟩
    | ex c x Γ2 => rw [e2] at q; exact q.rebase h1
  | ex c x Γ1 => rw [e] at q; exact q
end
theorem stD : ∀ K F G Mu Γ σ H r v F' G' Mu' Γ' H', Same G G' → rhoD K F G Mu Γ σ H r v → rhoD K F' G' Mu' Γ' σ H' r v := fun _ _ _ _ _ _ _ _ _ _ _ _ _ _ e h => dp_mono e _ _ h
theorem stR : ∀ K F G Mu Γ σ H r v F' G' Mu' Γ' H', Same G G' → rhoR K F G Mu Γ σ H r v → rhoR K F' G' Mu' Γ' σ H' r v := fun _ _ _ _ _ _ _ r _ _ _ _ _ _ e h => by
  cases r with
  | d x => exact dp_mono e _ _ h
  | sl i => exact h
def vl (g : En) : Rs → Option D
  | .d x => some x
  | .sl i => match g[i]? with
    | some (.d x) => some x
    | some (.a xs) => some (.list xs)
    | some (.own _ xs) => some (.list xs)
    | _ => none
/-- what is read: data, or a list whose items are such -/
def Rdb (K : PySem.W.Frag) (G H : Hp) (v : V) (x : D) : Prop := Dq K G v x ∨ ∃ l vs xs, v = .ref l ∧ x = .list xs ∧ SqL K H l vs ∧ DqAll K G vs xs
section
variable {K : PySem.W.Frag} {F : Fr} {G H H' G' : Hp} {Mu : Option Addr} {Γ : En} {σ : St}
theorem Rdb.dp (e : Same G H) {v : V} {x : D} (h : Rdb K G H v x) : Dq K H v x := by
  rcases h with h | ⟨l, vs, xs, rfl, rfl, h1, h2⟩
  · exact dp_mono e _ _ h
  · exact .lst h1 (dpAll_mono e _ _ h2)
theorem Rdb.list (e : Same G H) {v : V} {xs : List D} (h : Rdb K G H v (.list xs)) : ∃ l vs, v = .ref l ∧ SqL K H l vs ∧ DqAll K G vs xs := by
  rcases h with h | ⟨l, vs, xs, rfl, q, h1, h2⟩
  · cases h with
    | lst h1 h2 => exact ⟨_, _, rfl, e.seq h1, h2⟩
  · cases q
    exact ⟨l, vs, rfl, h1, h2⟩
theorem Rdb.tup (e : Same G H) {v : V} {xs : List D} (h : Rdb K G H v (.tuple xs)) : ∃ l vs, v = .ref l ∧ TupN K H l vs ∧ DqAll K G vs xs := by
  rcases h with h | ⟨l, vs, xs, rfl, q, h1, h2⟩
  · cases h with
    | tup h1 h2 => exact ⟨_, _, rfl, h1.mono e, h2⟩
  · cases q
theorem Rdb.int {v : V} {i : Int} (h : Rdb K G H v (.int i)) : v = .int i := by
  rcases h with h | ⟨l, vs, xs, rfl, q, h1, h2⟩
  · cases h; rfl
  · cases q
theorem Rdb.bool {v : V} {i : Bool} (h : Rdb K G H v (.bool i)) : v = .bl i := by
  rcases h with h | ⟨l, vs, xs, rfl, q, h1, h2⟩
  · cases h; rfl
  · cases q
theorem Rdb.str {v : V} {i : Str} (h : Rdb K G H v (.str i)) : v = .str i := by
  rcases h with h | ⟨l, vs, xs, rfl, q, h1, h2⟩
  · cases h; rfl
  · cases q
theorem Rdb.none {v : V} (h : Rdb K G H v .none) : v = .non := by
  rcases h with h | ⟨l, vs, xs, rfl, q, h1, h2⟩
  · cases h; rfl
  · cases q
theorem Rel.read (R : Rel K F G Mu Γ σ H) {r : Rs} {v : V} {x : D} (h : rhoR K F G Mu Γ σ H r v) (e : vl Γ r = some x) : Rdb K G H v x := by
  cases r with
  | d y =>
    cases e
    exact .inl h
  | sl i =>
    have h' : σ[i]? = some (some v) := h
    unfold vl at e
    dsimp only at e
    split at e
    · rename_i y q
      cases e
      obtain ⟨v', h1, h2⟩ := R.data q
      rw [h'] at h1
      cases h1
      exact .inl h2
    · rename_i ys q
      cases e
      obtain ⟨l, vs, h1, h2, h3⟩ := R.arg q
      rw [h'] at h1
      cases h1
      exact .inr ⟨l, vs, ys, rfl, rfl, (F.af.trans R.fh).seq h2, h3⟩
    · rename_i m ys q
      cases e
      obtain ⟨l, vs, h1, h2, h3, _⟩ := R.owned q
      rw [h'] at h1
      cases h1
      exact .inr ⟨l, vs, ys, rfl, rfl, .of h2, h3⟩
    · cases e
end
def dName (i : Nat) : M Rs := fun g => match g[i]? with
  | some (.d x) => .ok (.d x) g
  | some (.a _) => .ok (.sl i) g
  | some (.own _ _) => .ok (.sl i) g
  | _ => .bad
def dv (m : M D) : M Rs := bnd m fun x => rt (.d x)
/-- to let a name's list go into data: an own one stays as it is from now on -/
def esc (r : Rs) : M D := fun g => match r with
  | .d x => .ok x g
  | .sl i => match g[i]? with
    | some (.d x) => .ok x g
    | some (.own false xs) => .ok (.list xs) (g.set i (.d (.list xs)))
    | _ => .bad
def dEsc (m : M Rs) : M D := bnd m esc
def dFz (m : M (List D)) : M D := bnd m fun xs => rt (.list xs)
section
variable {X : Cx} {e : Expr} {es : List Expr} {pos : Pos}
theorem zpost_ok {α β : Type} {W : WX} {σ : St} {ρ : Rho α β} {F : Fr} {G H : Hp} {Mu : Option Addr} {Γ : En} {Q : β → Hp → Prop} {r : α} {v : β} (R : Rel X.K F G Mu Γ σ H) (h : ρ X.K F G Mu Γ σ H r v) (p : zpost X W σ ρ F G Mu Q (.ok r Γ)) : Q v H := p v H G (Same.refl _) R h
theorem dv_name {i : Nat} {x : Str} (hN : X.N[i]? = some x) (hv : Vis X.env.scope x) (hd : (x == ("__debug__" : Str)) = false := by decide) (hcd : (x == ("__classdict__" : Str)) = false := by decide) : DV X (.Name x pos) (dName i) := fun W _ => by
  refine pe_imp (pe_var hN hv hd hcd) fun σ H Q h => ?_
  obtain ⟨F, G, Mu, Γ, R, p⟩ := h
  unfold dName at p
  split at p
  · rename_i y q
    obtain ⟨v, h1, h2⟩ := R.data q
    exact ⟨v, h1, zpost_ok R (show rhoR _ _ _ _ _ _ _ (.d y) v from h2) p⟩
  · rename_i ys q
    obtain ⟨l, vs, h1, h2, h3⟩ := R.arg q
    exact ⟨_, h1, zpost_ok R (show rhoR _ _ _ _ _ _ _ (.sl i) _ from h1) p⟩
  · rename_i m ys q
    obtain ⟨l, vs, h1, h2, h3, _⟩ := R.owned q
    exact ⟨_, h1, zpost_ok R (show rhoR _ _ _ _ _ _ _ (.sl i) _ from h1) p⟩
  · exact p.elim
theorem dv_of {m : M D} (h : DP X e m) : DV X e (dv m) := fun W tk => by
  refine pe_imp (h W tk) fun σ H Q p => ?_
  refine (zt_bnd (ρ := rhoD) p).imp fun v H1 ⟨r, F, G, Mu, Γ, R, h1, q⟩ => ?_
  exact zpost_ok R (show rhoR _ _ _ _ _ _ _ (.d r) v from h1) q
theorem dp_esc {m : M Rs} (h : DV X e m) : DP X e (dEsc m) := fun W tk => by
  refine pe_imp (h W tk) fun σ H Q p => ?_
  refine (zt_bnd (ρ := rhoR) p).imp fun v H1 ⟨r, F, G, Mu, Γ, R, h1, q⟩ => ?_
  unfold esc at q
  cases r with
  | d x => exact zpost_ok R (show rhoD _ _ _ _ _ _ _ x v from h1) q
  | sl i =>
    have h1' : σ[i]? = some (some v) := h1
    dsimp only at q
    split at q
    · rename_i y g
      obtain ⟨v', k1, k2⟩ := R.data g
      rw [h1'] at k1
      cases k1
      exact zpost_ok R (show rhoD _ _ _ _ _ _ _ y v from k2) q
    · rename_i ys g
      obtain ⟨l, G', k1, R', k2, k3⟩ := R.freeze g
      rw [h1'] at k1
      cases k1
      exact q _ H1 G' k2 R' k3
    · exact q.elim
/-- a new list that stays -/
theorem Rel.keep {K : PySem.W.Frag} {F : Fr} {G H : Hp} {Mu : Option Addr} {Γ : En} {σ : St} {xs : List D} {v : V} (R : Rel K F G Mu Γ σ H) (h : rhoO K F G Mu Γ σ H xs v) : ∃ G', Same G G' ∧ Rel K F G' Mu Γ σ H ∧ Dq K G' v (.list xs) := by
  obtain ⟨l, vs, rfl, h1, h2, h3, h4, h5, h6⟩ := h
  have hs : Same G (upd G l (.lst vs)) := same_upd h4
  have gh : Same (upd G l (.lst vs)) H := fun b x q => by
    by_cases hb : b = l
    · subst hb
      rw [upd_same] at q
      rw [h1]
      exact q
    · rw [upd_ne hb] at q
      exact R.gh b x q
  refine ⟨_, hs, R.mono (Mu' := Mu) R.fh hs gh (fun l' q => ?_) (fun i l' ho => ?_) (fun l' q => ?_), .lst (.of upd_same) (dpAll_mono hs _ _ h2)⟩
  · obtain ⟨_, m2, m3⟩ := R.mu l' q
    have hne : l' ≠ l := fun z => h5 (by rw [q, z])
    rw [upd_ne hne]
    exact ⟨m2, m3⟩
  · have hne : l' ≠ l := fun z => h6 i (by rw [← z]; exact ho)
    rw [upd_ne hne]
    exact ⟨(R.there ho).2.1, rfl⟩
  · rw [upd_ne (fun z => F.kf l' q (by rw [z]; exact h3))]
    exact R.lk l' q
theorem dp_fz {m : M (List D)} (h : DO X e m) : DP X e (dFz m) := fun W tk => by
  refine pe_imp (h W tk) fun σ H Q p => ?_
  refine (zt_bnd (ρ := rhoO) p).imp fun v H1 ⟨r, F, G, Mu, Γ, R, h1, q⟩ => ?_
  obtain ⟨G', k1, R', k2⟩ := R.keep h1
  exact q v H1 G' k1 R' k2

def dC (x : D) : M D := rt x
theorem zt_c {W : WX} {σ : St} {H : Hp} {Q : VK} {x : D} {v : V} (hv : ∀ K G, Dq K G v x) (h : zt X W rhoD (dC x) σ H Q) : Q v H := by
  obtain ⟨F, G, Mu, Γ, R, p⟩ := h
  exact zpost_ok R (show rhoD _ _ _ _ _ _ _ x v from hv _ _) p
theorem dp_int {i : Int} {j} : DP X (.Constant (.int i) j pos) (dC (.int i)) := fun W _ => pe_imp pe_int fun σ H Q h => zt_c (fun _ _ => .int i) h
theorem dp_bool {b : Bool} {j} : DP X (.Constant (.bool b) j pos) (dC (.bool b)) := fun W _ => pe_imp pe_bl fun σ H Q h => zt_c (fun _ _ => .bl b) h
theorem dp_none {j} : DP X (.Constant .none j pos) (dC .none) := fun W _ => pe_imp pe_non fun σ H Q h => zt_c (fun _ _ => .non) h
def dNil : M (List D) := rt []
def dCons (m : M D) (n : M (List D)) : M (List D) := bnd m fun x => bnd n fun xs => rt (x :: xs)
theorem dps_nil : DPs X [] dNil := fun W _ => pa_imp pa_nil fun σ H Q ⟨F, G, Mu, Γ, R, p⟩ => zpost_ok R (show rhoDs _ _ _ _ _ _ _ [] [] from .nil) p
theorem dps_cons {m : M D} {n : M (List D)} (h : DP X e m) (k : DPs X es n) (hs : starEach (e :: es) X.env = (false, eval e X.env) :: starEach es X.env := by rfl) : DPs X (e :: es) (dCons m n) := fun W tk => by
  refine pa_imp (pa_cons (h W tk) (k W tk) hs) fun σ H Q p => ?_
  refine (zt_bnd2 (ρ := rhoD) (ρ' := rhoDs) stD p).imp fun v H1 q => q.imp fun vs H2 ⟨x, xs, F, G, Mu, Γ, R, h1, h2, q2⟩ => ?_
  exact zpost_ok R (show rhoDs _ _ _ _ _ _ _ (x :: xs) (v :: vs) from .cons h1 h2) q2
def vNil : M (List Rs) := rt []
def vCons (m : M Rs) (n : M (List Rs)) : M (List Rs) := bnd m fun x => bnd n fun xs => rt (x :: xs)
theorem dvs_nil : DVs X [] vNil := fun W _ => pa_imp pa_nil fun σ H Q ⟨F, G, Mu, Γ, R, p⟩ => zpost_ok R (show rhoRs _ _ _ _ _ _ _ [] [] from rfl) p
theorem dvs_cons {m : M Rs} {n : M (List Rs)} (h : DV X e m) (k : DVs X es n) (hs : starEach (e :: es) X.env = (false, eval e X.env) :: starEach es X.env := by rfl) : DVs X (e :: es) (vCons m n) := fun W tk => by
  refine pa_imp (pa_cons (h W tk) (k W tk) hs) fun σ H Q p => ?_
  refine (zt_bnd2 (ρ := rhoR) (ρ' := rhoRs) stR p).imp fun v H1 q => q.imp fun vs H2 ⟨x, xs, F, G, Mu, Γ, R, h1, h2, q2⟩ => ?_
  exact zpost_ok R (show rhoRs _ _ _ _ _ _ _ (x :: xs) (v :: vs) from ⟨v, vs, rfl, h1, h2⟩) q2
end
def vls (g : En) : List Rs → Option (List D)
  | [] => some []
  | r :: rs => match vl g r with
    | none => none
    | some x => match vls g rs with
      | none => none
      | some xs => some (x :: xs)
def RdbAll (K : PySem.W.Frag) (G H : Hp) : List V → List D → Prop
  | [], xs => xs = []
  | v :: vs, xs => ∃ y ys, xs = y :: ys ∧ Rdb K G H v y ∧ RdbAll K G H vs ys
theorem Rel.reads {K : PySem.W.Frag} {F : Fr} {G H : Hp} {Mu : Option Addr} {Γ : En} {σ : St} (R : Rel K F G Mu Γ σ H) : ∀ {rs : List Rs} {vs : List V} {xs : List D}, RsAll K G σ rs vs → vls Γ rs = some xs → RdbAll K G H vs xs
  | [], vs, xs, h, e => by
    cases (show vs = [] from h)
    cases e
    rfl
  | r :: rs, vs, xs, h, e => by
    obtain ⟨v, us, rfl, h1, h2⟩ := h
    unfold vls at e
    split at e
    · cases e
    · rename_i y q
      split at e
      · cases e
      · rename_i ys q2
        cases e
        exact ⟨y, ys, rfl, R.read (show rhoR K F G Mu Γ σ H r v from h1) q, R.reads h2 q2⟩
theorem RdbAll.one {K : PySem.W.Frag} {G H : Hp} {vs : List V} {x : D} (h : RdbAll K G H vs [x]) : ∃ v, vs = [v] ∧ Rdb K G H v x := by
  cases vs with
  | nil => cases (show [x] = [] from h)
  | cons v us =>
    obtain ⟨y, ys, e, h1, h2⟩ := h
    cases e
    cases us with
    | nil => exact ⟨v, rfl, h1⟩
    | cons _ _ =>
      obtain ⟨_, _, e, _⟩ := h2
      cases e
theorem RdbAll.two {K : PySem.W.Frag} {G H : Hp} {vs : List V} {x y : D} (h : RdbAll K G H vs [x, y]) : ∃ v u, vs = [v, u] ∧ Rdb K G H v x ∧ Rdb K G H u y := by
  cases vs with
  | nil => cases (show [x, y] = [] from h)
  | cons v us =>
    obtain ⟨_, _, e, h1, h2⟩ := h
    cases e
    obtain ⟨u, rfl, h3⟩ := RdbAll.one h2
    exact ⟨v, u, rfl, h1, h3⟩

def op2 (f : D → D → Option D) (m n : M Rs) : M D := bnd m fun r => bnd n fun s => fun g => match vl g r with
  | none => .bad
  | some x => match vl g s with
    | none => .bad
    | some y => match f x y with
      | none => .bad
      | some z => .ok z g
def rD2 (K : PySem.W.Frag) (f : D → D → Option D) : R2 := fun x y H Q => ∃ G dx dy z, Same G H ∧ Rdb K G H x dx ∧ Rdb K G H y dy ∧ f dx dy = some z ∧ ∀ v H' G', Ext G H G' H' → Dq K G' v z → Q v H'
theorem op2_run {X : Cx} {W : WX} {σ : St} {H : Hp} {Q : VK} {f : D → D → Option D} {m n : M Rs} (p : zt X W rhoD (op2 f m n) σ H Q) : tOp (rD2 X.K f) (zt X W rhoR m) (zt X W rhoR n) σ H Q := by
  refine (zt_bnd2 (ρ := rhoR) (ρ' := rhoR) stR p).imp fun v H1 q => q.imp fun u H2 ⟨r, s, F, G, Mu, Γ, R, h1, h2, q2⟩ => ?_
  cases e1 : vl Γ r with
  | none => rw [e1] at q2; exact q2.elim
  | some x =>
    cases e2 : vl Γ s with
    | none => rw [e1, e2] at q2; exact q2.elim
    | some y =>
      cases e3 : f x y with
      | none =>
        rw [e1, e2] at q2
        dsimp only at q2
        rw [e3] at q2
        exact q2.elim
      | some z =>
        rw [e1, e2] at q2
        dsimp only at q2
        rw [e3] at q2
        exact ⟨G, x, y, z, R.gh, R.read h1 e1, R.read h2 e2, e3, fun w H' G' ex d => q2 w H' G' ex.g (R.ext ex) d⟩
def rO2 (K : PySem.W.Frag) (f : D → D → Option (List D)) : R2 := fun x y H Q => ∃ G dx dy zs, Same G H ∧ Rdb K G H x dx ∧ Rdb K G H y dy ∧ f dx dy = some zs ∧ ∀ l vs, H l = none → DqAll K G vs zs → Q (.ref l) (upd H l (.lst vs))
theorem Rel.newO {K : PySem.W.Frag} {F : Fr} {G H : Hp} {Mu : Option Addr} {Γ : En} {σ : St} {l : Addr} {vs : List V} {zs : List D} (R : Rel K F G Mu Γ σ H) (n : H l = none) (d : DqAll K G vs zs) : Rel K F G Mu Γ σ (upd H l (.lst vs)) ∧ rhoO K F G Mu Γ σ (upd H l (.lst vs)) zs (.ref l) :=
  ⟨R.newX n, l, vs, rfl, upd_same, d, R.fh.free n, R.gh.free n, fun z => (R.mu l z).2.2 n, fun i h => by
    obtain ⟨_, _, us, q⟩ := R.there h
    rw [n] at q
    cases q⟩
def op1 (f : D → Option D) (m : M Rs) : M D := bnd m fun r => fun g => match vl g r with
  | none => .bad
  | some x => match f x with
    | none => .bad
    | some z => .ok z g
def rD1 (K : PySem.W.Frag) (f : D → Option D) : V → Hp → VK → Prop := fun x H Q => ∃ G dx z, Same G H ∧ Rdb K G H x dx ∧ f dx = some z ∧ ∀ v H' G', Ext G H G' H' → Dq K G' v z → Q v H'
theorem op1_run {X : Cx} {W : WX} {σ : St} {H : Hp} {Q : VK} {f : D → Option D} {m : M Rs} (p : zt X W rhoD (op1 f m) σ H Q) : tUn (rD1 X.K f) (zt X W rhoR m) σ H Q := by
  refine (zt_bnd (ρ := rhoR) p).imp fun v H1 ⟨r, F, G, Mu, Γ, R, h1, q2⟩ => ?_
  cases e1 : vl Γ r with
  | none => rw [e1] at q2; exact q2.elim
  | some x =>
    cases e3 : f x with
    | none =>
      rw [e1] at q2
      dsimp only at q2
      rw [e3] at q2
      exact q2.elim
    | some z =>
      rw [e1] at q2
      dsimp only at q2
      rw [e3] at q2
      exact ⟨G, x, z, R.gh, R.read h1 e1, e3, fun w H' G' ex d => q2 w H' G' ex.g (R.ext ex) d⟩
/-- a built-in by its arguments -/
def opN (f : List D → Option D) (m : M (List Rs)) : M D := bnd m fun rs => fun g => match vls g rs with
  | none => .bad
  | some xs => match f xs with
    | none => .bad
    | some z => .ok z g
def rDN (K : PySem.W.Frag) (f : List D → Option D) : List V → Hp → VK → Prop := fun vs H Q => ∃ G xs z, Same G H ∧ RdbAll K G H vs xs ∧ f xs = some z ∧ ∀ v H' G', Ext G H G' H' → Dq K G' v z → Q v H'
theorem opN_run {X : Cx} {W : WX} {σ : St} {H : Hp} {Q : VK} {f : List D → Option D} {m : M (List Rs)} (p : zt X W rhoD (opN f m) σ H Q) : tCB (rDN X.K f) (zt X W rhoRs m) σ H Q := by
  refine (zt_bnd (ρ := rhoRs) p).imp fun v H1 ⟨r, F, G, Mu, Γ, R, h1, q2⟩ => ?_
  cases e1 : vls Γ r with
  | none => rw [e1] at q2; exact q2.elim
  | some x =>
    cases e3 : f x with
    | none =>
      rw [e1] at q2
      dsimp only at q2
      rw [e3] at q2
      exact q2.elim
    | some z =>
      rw [e1] at q2
      dsimp only at q2
      rw [e3] at q2
      exact ⟨G, x, z, R.gh, R.reads h1 e1, e3, fun w H' G' ex d => q2 w H' G' ex.g (R.ext ex) d⟩
def opNo (f : List D → Option (List D)) (m : M (List Rs)) : M (List D) := bnd m fun rs => fun g => match vls g rs with
  | none => .bad
  | some xs => match f xs with
    | none => .bad
    | some z => .ok z g
def rON (K : PySem.W.Frag) (f : List D → Option (List D)) : List V → Hp → VK → Prop := fun vs H Q => ∃ G xs zs, Same G H ∧ RdbAll K G H vs xs ∧ f xs = some zs ∧ ∀ l vs, H l = none → DqAll K G vs zs → Q (.ref l) (upd H l (.lst vs))
theorem opNo_run {X : Cx} {W : WX} {σ : St} {H : Hp} {Q : VK} {f : List D → Option (List D)} {m : M (List Rs)} (p : zt X W rhoO (opNo f m) σ H Q) : tCB (rON X.K f) (zt X W rhoRs m) σ H Q := by
  refine (zt_bnd (ρ := rhoRs) p).imp fun v H1 ⟨r, F, G, Mu, Γ, R, h1, q2⟩ => ?_
  cases e1 : vls Γ r with
  | none => rw [e1] at q2; exact q2.elim
  | some x =>
    cases e3 : f x with
    | none =>
      rw [e1] at q2
      dsimp only at q2
      rw [e3] at q2
      exact q2.elim
    | some z =>
      rw [e1] at q2
      dsimp only at q2
      rw [e3] at q2
      refine ⟨G, x, z, R.gh, R.reads h1 e1, e3, fun l vs n d => ?_⟩
      obtain ⟨R', o⟩ := R.newO n d
      exact q2 _ _ G (Same.refl _) R' o
section
variable {X : Cx} {a b e : Expr} {es : List Expr} {pos : Pos}
theorem dp_bin {op : Operator} {f : D → D → Option D} {m n : M Rs} (ho : OpR X (binaryOp op) (rD2 X.K f)) (ha : DV X a m) (hb : DV X b n) : DP X (.BinOp a op b pos) (op2 f m n) := fun W tk => pe_imp (pe_op ho (ha W tk) (hb W tk)) fun _ _ _ p => op2_run p
theorem dp_un {op : UnaryOp} {f : D → Option D} {m : M Rs} (ho : UnR X (unaryOp op) (rD1 X.K f)) (ha : DV X a m) : DP X (.UnaryOp op a pos) (op1 f m) := fun W tk => pe_imp (pe_un ho (ha W tk)) fun _ _ _ p => op1_run p
theorem dp_cmp {op : CmpOp} {f : D → D → Option D} {m n : M Rs} (ho : OpR X (compareOp op) (rD2 X.K f)) (ha : DV X a m) (hb : DV X b n) (hm : behindInMarks op b = false) : DP X (.Compare a [op] [b] pos) (op2 f m n) := fun W tk => pe_imp (pe_cmpR ho (ha W tk) (hb W tk) hm) fun _ _ _ p => op2_run p
theorem dp_ix {f : D → D → Option D} {m n : M Rs} (ho : IxR X (rD2 X.K f)) (ha : DV X a m) (hb : DV X b n) (hs : PlainIx b) : DP X (.Subscript a b pos) (op2 f m n) := fun W tk => pe_imp (pe_ix ho (ha W tk) (hb W tk) hs) fun _ _ _ p => op2_run p
end
end Z

set_option Elab.async false
set_option linter.all false
set_option maxRecDepth 100000
set_option autoImplicit false
set_option maxHeartbeats 1000000
namespace Z
open PySem PySem.Spec PyProof.Rows L2
section
variable {X : Cx} {pins : List (Addr × Obj)} {σ : St} {H : Hp} {s : Shared}
/-- the tuple just pushed is tracked, its object known -/
theorem laidT {its : List Value} {xs : List V} {h : Heap} {tk : Nat} (I : L2.Inv X pins σ H { s with heap := h, toks := tk }) (r : Vals xs its) (hz : xs.length ≤ sizeLine) :
    L2.Inv X pins σ (upd H h.objs.size (.frz { cls := .type "tuple", data := .seq its.toArray } (.tup xs))) { s with heap := h.push { cls := .type "tuple", data := .seq its.toArray }, toks := tk } := by
  have e := Heap.get?_push_size h (o := { cls := .type "tuple", data := .seq its.toArray }) rfl
  exact I.laid (t' := tk) (o := .frz { cls := .type "tuple", data := .seq its.toArray } (.tup xs)) (fun b u q => Heap.get?_push_of_some _ q) (Nat.le_refl _)
    ⟨e, hz, its, r, IsTup.new _ _⟩
theorem tryNew {its : List Value} {xs : List V} {Q : VK} (I : L2.Inv X pins σ H s) (r : Vals xs its) (hz : xs.length ≤ sizeLine)
    (q : ∀ p o, H p = none → o.dict = none → Q (.ref p) (upd H p (.frz o (.tup xs)))) : EP X pins σ Q (.ref s.heap.objs.size) { s with heap := s.heap.push { cls := .type "tuple", data := .seq its.toArray } } :=
  ⟨.ref s.heap.objs.size, _, laidT (tk := s.toks) I r hz, rfl, q _ _ (I.hok.fresh (Nat.le_refl _)) rfl⟩
end
def tTupZ (t : TA) : TE := fun σ H Q => t σ H fun xs H1 => xs.length ≤ sizeLine ∧ ∀ p o, H1 p = none → o.dict = none → Q (.ref p) (upd H1 p (.frz o (.tup xs)))
section
variable {X : Cx} {es : List Expr} {t : TA} {pos : Pos}
theorem pe_tupZ {k} (h : PA X es t) : PE X (.Tuple es k pos) (tTupZ t) := by
  refine ⟨fun pins s σ H Q I hq => wpAny_Tuple_spliced (thn (h.run pos pins s σ H _ I hq) fun us s1 ⟨xs, H1, I1, r, z, q⟩ => ⟨by rw [← r.length]; exact z, ?_⟩)⟩
  exact tryNew I1 r z q
/-- t + u -/
def rCatZ (K : PySem.W.Frag) : R2 := fun x y H Q => ∃ a b xs ys, x = .ref a ∧ y = .ref b ∧ SqT K H a xs ∧ SqT K H b ys ∧ xs.length + ys.length ≤ sizeLine ∧
  (xs = [] → Q (.ref b) H) ∧ (xs ≠ [] → ys = [] → Q (.ref a) H) ∧ (xs ≠ [] → ys ≠ [] → ∀ p o, H p = none → o.dict = none → Q (.ref p) (upd H p (.frz o (.tup (xs ++ ys)))))
theorem op_catZ : OpR X (binaryOp .Add) (rCatZ X.K) := by
  intro pins s σ H x y v u Q I rx ry h
  obtain ⟨a, b, xs, ys, rfl, rfl, ha, hb, hz, q0, q1, q2⟩ := h
  cases rx
  cases ry
  obtain ⟨ia, ra, pa, _⟩ := I.tuple ha
  obtain ⟨ib, rb, pb, _⟩ := I.tuple hb
  by_cases hx : xs = []
  · subst hx
    cases ra
    exact cat_tup0 pa pb ⟨.ref b, H, I, rfl, q0 rfl⟩
  · refine HT.cat_tup pa pb (fun z => hx (ra.nil_iff.mp z)) (fun z => ⟨.ref a, H, I, rfl, q1 hx (rb.nil_iff.mp z)⟩) (fun z => ?_) (by rw [← ra.length, ← rb.length]; exact hz)
    exact tryNew I (ra.append rb) (by rw [List.length_append]; exact hz) (q2 hx fun w => z (rb.nil_iff.mpr w))
/-- t[lo:hi] -/
def rSlZ (K : PySem.W.Frag) : V → Option Int → Option Int → Hp → VK → Prop := fun x lo hi H Q => ∃ a xs, x = .ref a ∧ SqT K H a xs ∧
  (HT.sIx xs.length 0 lo = 0 ∧ HT.sIx xs.length xs.length hi = xs.length → Q (.ref a) H) ∧
  (¬ (HT.sIx xs.length 0 lo = 0 ∧ HT.sIx xs.length xs.length hi = xs.length) → ∀ p o, H p = none → o.dict = none → Q (.ref p) (upd H p (.frz o (.tup (cutV xs lo hi)))))
theorem sl_tupZ : SlR X (rSlZ X.K) := by
  intro pins s σ H x v vl vu lo hi sl Q I rx hs pl pu h
  obtain ⟨a, xs, rfl, hx, q1, q2⟩ := h
  cases rx
  obtain ⟨its, r, ht, hz⟩ := I.tuple hx
  have hn : its.toArray.size = xs.length := by rw [List.size_toArray]; exact r.length.symm
  refine ⟨"tuple", _, PyProof.Rows.slot_tuple_getitem.lookup, ht.typeIs, ?_⟩
  by_cases hw : HT.sIx xs.length 0 lo = 0 ∧ HT.sIx xs.length xs.length hi = xs.length
  · exact getItem_tuple_whole ht hs pl pu (by rw [hn]; exact hw) ⟨.ref a, H, I, rfl, q1 hw⟩
  · refine HT.getItem_tuple_cut ht hs pl pu (by rw [hn]; exact hw) ?_ (by rw [hn]; exact hz)
    rw [hn]
    exact tryNew I ((r.drop (HT.sIx xs.length 0 lo)).take (HT.sIx xs.length xs.length hi - HT.sIx xs.length 0 lo)) (Nat.le_trans (cutV_length xs lo hi) hz) (q2 hw)
/-- tuple(x) -/
theorem call_tupleZ : CallR X (.type "tuple") (fun xs H Q => ∃ p ys, xs = [.ref p] ∧ ((SqL X.K H p ys ∧ ∀ l o, H l = none → o.dict = none → Q (.ref l) (upd H l (.frz o (.tup ys)))) ∨ (SqT X.K H p ys ∧ Q (.ref p) H))) := by
  intro pins s σ H xs us Q I r h
  obtain ⟨p, ys, rfl, h⟩ := h
  obtain ⟨u, rfl, rx⟩ := vals1 r
  cases rx
  rcases h with ⟨hq, q⟩ | ⟨hq, q⟩
  · obtain ⟨its, rv, pl, hz⟩ := I.list hq
    refine call_tuple_list pl.isList (fun h' kp => ?_) (by rw [List.size_toArray, ← rv.length]; exact hz)
    have J : L2.Inv X pins σ H { s with heap := h' } := I.kept (t' := s.toks) kp
    exact tryNew J rv hz q
  · obtain ⟨its, rv, pl, hz⟩ := I.tuple hq
    exact call_tuple_same pl ⟨.ref p, H, I, rfl, q⟩
def tTupRgZ (te : St → Hp → (Int → Int → Hp → Prop) → Prop) : TE := fun σ H Q => te σ H fun a b H1 => RgOk a b ∧ ∀ q o, H1 q = none → o.dict = none → Q (.ref q) (upd H1 q (.frz o (.tup (rgV a b))))
theorem pe_tupRgZ {e : Expr} {te : St → Hp → (Int → Int → Hp → Prop) → Prop} {p pos : Pos} (hc : X.calm = true) (hg : Gl X "tuple") (hm : X.mg "tuple" = none) (he : PRg X e te) (na : starEach [e] X.env = (false, eval e X.env) :: starEach [] X.env := by rfl) :
    PE X (.Call (.Name "tuple" p) [e] [] pos) (tTupRgZ te) := by
  refine ⟨fun pins s σ H Q I h => Call_ (ld_blt I hg hm boot_tuple (PyProof.Rows.callWith_type1 (args_cons (thn (he pins s σ H _ I h) fun x s1 ⟨r, a, b, t, u, v, H1, ex, hr, I1, ok, q⟩ => args_nil ?_) na) na))⟩
  subst ex
  obtain ⟨b1, b2, b3, b4, b5⟩ := ok
  refine call_tuple_range (n := (b - a).toNat) (I1.ok.hd hc) hr (small_one b1 b2 b3 b4) (rangeSize_nat a b) b5 fun h' tk acc hk hi => ?_
  have J : L2.Inv X pins σ H1 { s1 with heap := h', toks := tk } := I1.kept hk
  have K2 := laidT (its := acc.toList) (xs := rgV a b) (h := h') (tk := tk) J (vals_rg hi) (by rw [rgV_length, sizeLine_eq]; omega)
  rw [Array.toArray_toList] at K2
  exact ⟨.ref h'.objs.size, _, K2, rfl, q _ _ (J.hok.fresh (Nat.le_refl _)) rfl⟩
end
end Z

set_option Elab.async false
set_option linter.all false
set_option maxRecDepth 100000
set_option autoImplicit false
set_option maxHeartbeats 1000000
namespace Z
open PySem PySem.Spec PyProof.Rows L2

def fAdd : D → D → Option D
  | .int i, .int j => some (.int (i + j))
  | .str a, .str b => if a.length + b.length ≤ sizeLine then some (.str (a ++ b)) else none
  | .tuple xs, .tuple ys => if xs.length + ys.length ≤ sizeLine then some (.tuple (xs ++ ys)) else none
  | _, _ => none
def fSub : D → D → Option D
  | .int i, .int j => some (.int (i - j))
  | _, _ => none
def okMul (i j : Int) : Bool := decide (i.natAbs < 18446744073709551616) || decide (j.natAbs < 18446744073709551616) || decide (i.natAbs.log2 + j.natAbs.log2 < 1000000)
def fMul : D → D → Option D
  | .int i, .int j => if okMul i j then some (.int (i * j)) else none
  | _, _ => none
def okDiv (j : Int) : Bool := decide (0 < j) && (decide (j < 1073741824) || decide (j.natAbs.log2 < 9000))
def fDiv : D → D → Option D
  | .int i, .int j => if okDiv j then some (.int (i / j)) else none
  | _, _ => none
def fMod : D → D → Option D
  | .int i, .int j => if 0 < j then some (.int (i % j)) else none
  | _, _ => none
def fPow : D → D → Option D
  | .int i, .int j => if 0 ≤ j ∧ j ≤ 1000000 ∧ i.natAbs < 18446744073709551616 then some (.int (i ^ j.toNat)) else none
  | _, _ => none
def fNeg : D → Option D
  | .int i => some (.int (-i))
  | _ => none
/-- comparisons of ints -/
def fCmpI (p : Int → Int → Bool) : D → D → Option D
  | .int i, .int j => some (.bool (p i j))
  | _, _ => none
def fLt := fCmpI fun i j => decide (i < j)
def fLe := fCmpI fun i j => decide (i ≤ j)
def fGt := fCmpI fun i j => decide (j < i)
def fGe := fCmpI fun i j => decide (j ≤ i)
def fEq (x y : D) : Option D := if SeqAt.shaped x && SeqAt.shaped y then some (.bool (PyData.eqv x y)) else none
def fNe (x y : D) : Option D := if SeqAt.shaped x && SeqAt.shaped y then some (.bool (!PyData.eqv x y)) else none
def isNone : D → Bool
  | .none => true
  | _ => false
def fIsN (x y : D) : Option D := if isNone y then some (.bool (isNone x)) else none
def fNotN (x y : D) : Option D := if isNone y then some (.bool (!isNone x)) else none
section
variable {X : Cx}
theorem or_ints {F : Value → Value → Sem Value} {f : D → D → Option D} {c : Int → Int → Prop} {g : Int → Int → Int} (ho : OpR X F (rI c fun i j => .int (g i j)))
    (hf : ∀ x y z, f x y = some z → ∃ i j, x = .int i ∧ y = .int j ∧ c i j ∧ z = .int (g i j)) : OpR X F (rD2 X.K f) := by
  intro pins s σ H x y v u Q I rx ry h
  obtain ⟨G, dx, dy, z, gh, r1, r2, e, q⟩ := h
  obtain ⟨i, j, rfl, rfl, hc, rfl⟩ := hf _ _ _ e
  have e1 := r1.int
  have e2 := r2.int
  subst e1 e2
  exact ho pins s σ H _ _ v u Q I rx ry ⟨i, j, rfl, rfl, hc, q _ _ _ (Ext.refl gh) (.int _)⟩
theorem or_cmpI {F : Value → Value → Sem Value} {g : Int → Int → Bool} (ho : OpR X F (rI0 fun i j => .bl (g i j))) : OpR X F (rD2 X.K (fCmpI g)) := by
  intro pins s σ H x y v u Q I rx ry h
  obtain ⟨G, dx, dy, z, gh, r1, r2, e, q⟩ := h
  unfold fCmpI at e
  split at e
  · cases e
    have e1 := r1.int
    have e2 := r2.int
    subst e1 e2
    exact ho pins s σ H _ _ v u Q I rx ry ⟨_, _, rfl, rfl, q _ _ _ (Ext.refl gh) (.bl _)⟩
  · cases e
theorem or_lt : OpR X (compareOp .Lt) (rD2 X.K fLt) := or_cmpI op_lt
theorem or_le : OpR X (compareOp .LtE) (rD2 X.K fLe) := or_cmpI op_le
theorem or_gt : OpR X (compareOp .Gt) (rD2 X.K fGt) := or_cmpI op_gt
theorem or_sub : OpR X (binaryOp .Sub) (rD2 X.K fSub) := by
  refine or_ints (c := fun _ _ => True) (g := fun i j => i - j) ?_ fun x y z e => ?_
  · exact opI fun _ _ _ _ _ _ _ _ q => sub_int q
  · unfold fSub at e
    split at e
    · cases e
      exact ⟨_, _, rfl, rfl, trivial, rfl⟩
    · cases e
theorem okMul_ok {i j : Int} (h : okMul i j = true) : IntMulOk i j := by
  unfold okMul at h
  simp only [Bool.or_eq_true, decide_eq_true_eq] at h
  rcases h with (h | h) | h
  · exact CMul.ok (.inl (by omega))
  · exact CMul.ok (.inr (by omega))
  · exact CMulW.ok h
theorem or_mul : OpR X (binaryOp .Mult) (rD2 X.K fMul) := by
  refine or_ints (c := fun i j => okMul i j = true) (g := fun i j => i * j) ?_ fun x y z e => ?_
  · exact opI fun _ _ _ _ _ _ _ hc q => mul_int q (okMul_ok hc)
  · unfold fMul at e
    split at e
    · split at e
      · cases e
        exact ⟨_, _, rfl, rfl, by assumption, rfl⟩
      · cases e
    · cases e
theorem or_div : OpR X (binaryOp .FloorDiv) (rD2 X.K fDiv) := by
  refine or_ints (c := fun _ j => okDiv j = true) (g := fun i j => i / j) ?_ fun x y z e => ?_
  · refine opI fun i j _ _ _ _ _ hc q => ?_
    unfold okDiv at hc
    simp only [Bool.and_eq_true, Bool.or_eq_true, decide_eq_true_eq] at hc
    obtain ⟨h1, h2⟩ := hc
    refine floordiv_int (by omega) (by rw [Int.fdiv_eq_ediv_of_nonneg i (by omega)]; exact q) ?_
    rcases h2 with h2 | h2
    · exact .inl (PyProof.noPylong_small (by omega))
    · exact .inl (PyProof.noPylong_of_log2 h2)
  · unfold fDiv at e
    split at e
    · split at e
      · cases e
        exact ⟨_, _, rfl, rfl, by assumption, rfl⟩
      · cases e
    · cases e
theorem or_mod : OpR X (binaryOp .Mod) (rD2 X.K fMod) := by
  refine or_ints (c := fun _ j => 0 < j) (g := fun i j => i % j) op_mod fun x y z e => ?_
  unfold fMod at e
  split at e
  · split at e
    · cases e
      exact ⟨_, _, rfl, rfl, by assumption, rfl⟩
    · cases e
  · cases e
theorem or_pow : OpR X (binaryOp .Pow) (rD2 X.K fPow) := by
  refine or_ints (c := fun i j => 0 ≤ j ∧ j ≤ 1000000 ∧ i.natAbs < 18446744073709551616) (g := fun i j => i ^ j.toNat) ?_ fun x y z e => ?_
  · exact opI fun _ _ _ _ _ _ _ hc q => pow_int_small hc.1 hc.2.1 hc.2.2 q
  · unfold fPow at e
    split at e
    · split at e
      · cases e
        exact ⟨_, _, rfl, rfl, by assumption, rfl⟩
      · cases e
    · cases e
theorem or_add : OpR X (binaryOp .Add) (rD2 X.K fAdd) := by
  intro pins s σ H x y v u Q I rx ry h
  obtain ⟨G, dx, dy, z, gh, r1, r2, e, q⟩ := h
  unfold fAdd at e
  split at e
  · cases e
    have e1 := r1.int
    have e2 := r2.int
    subst e1 e2
    exact op_add pins s σ H _ _ v u Q I rx ry ⟨_, _, rfl, rfl, q _ _ _ (Ext.refl gh) (.int _)⟩
  · split at e
    · cases e
      have e1 := r1.str
      have e2 := r2.str
      subst e1 e2
      exact op_add_str pins s σ H _ _ v u Q I rx ry ⟨_, _, rfl, rfl, by assumption, q _ _ _ (Ext.refl gh) (.str _)⟩
    · cases e
  · rename_i xs ys
    split at e
    · rename_i hz
      cases e
      obtain ⟨l1, vs1, rfl, s1, d1⟩ := r1.tup gh
      obtain ⟨l2, vs2, rfl, s2, d2⟩ := r2.tup gh
      have n1 := dpa_length d1
      have n2 := dpa_length d2
      have dt1 : Dq X.K G (.ref l1) (.tuple xs) := by
        rcases r1 with r1 | ⟨_, _, _, _, c, _⟩
        · exact r1
        · cases c
      have dt2 : Dq X.K G (.ref l2) (.tuple ys) := by
        rcases r2 with r2 | ⟨_, _, _, _, c, _⟩
        · exact r2
        · cases c
      refine op_catZ pins s σ H _ _ v u Q I rx ry ⟨l1, l2, vs1, vs2, rfl, rfl, s1.sq, s2.sq, by omega, fun z => ?_, fun _ z => ?_, fun _ _ p o n ho => ?_⟩
      · subst z
        have : xs = [] := by
          cases xs with
          | nil => rfl
          | cons _ _ => simp at n1
        subst this
        exact q _ _ _ (Ext.refl gh) dt2
      · subst z
        have : ys = [] := by
          cases ys with
          | nil => rfl
          | cons _ _ => simp at n2
        subst this
        rw [List.append_nil] at q
        exact q _ _ _ (Ext.refl gh) dt1
      · have E := Ext.new (o := .frz o (.tup (vs1 ++ vs2))) gh n
        exact q _ _ _ E (.tup (.new ho) (dpAll_mono E.g _ _ (dpa_append d1 d2)))
    · cases e
  · cases e
theorem un_negD : UnR X (unaryOp .USub) (rD1 X.K fNeg) := by
  intro pins s σ H x v Q I rx h
  obtain ⟨G, dx, z, gh, r1, e, q⟩ := h
  unfold fNeg at e
  split at e
  · cases e
    have e1 := r1.int
    subst e1
    exact un_neg pins s σ H _ v Q I rx ⟨_, rfl, q _ _ _ (Ext.refl gh) (.int _)⟩
  · cases e
theorem shaped_plain {d : D} (h : SeqAt.shaped d = true) : d.plain = true := by
  unfold SeqAt.shaped at h
  rw [Bool.and_eq_true] at h
  exact PyData.plain_of_canLay0 d h.1
theorem or_eq (hu : X.A.units + 64 < cLine) : OpR X (compareOp .Eq) (rD2 X.K fEq) := by
  intro pins s σ H x y v u Q I rx ry h
  obtain ⟨G, dx, dy, z, gh, r1, r2, e, q⟩ := h
  unfold fEq at e
  split at e
  · rename_i hs
    cases e
    rw [Bool.and_eq_true] at hs
    exact op_eqD hu pins s σ H _ _ v u Q I rx ry ⟨dx, dy, (r1.dp gh).dp _ _ (shaped_plain hs.1), (r2.dp gh).dp _ _ (shaped_plain hs.2), hs.1, hs.2, q _ _ _ (Ext.refl gh) (.bl _)⟩
  · cases e
theorem or_ne (hu : X.A.units + 64 < cLine) : OpR X (compareOp .NotEq) (rD2 X.K fNe) := by
  intro pins s σ H x y v u Q I rx ry h
  obtain ⟨G, dx, dy, z, gh, r1, r2, e, q⟩ := h
  unfold fNe at e
  split at e
  · rename_i hs
    cases e
    rw [Bool.and_eq_true] at hs
    exact op_neD hu pins s σ H _ _ v u Q I rx ry ⟨dx, dy, (r1.dp gh).dp _ _ (shaped_plain hs.1), (r2.dp gh).dp _ _ (shaped_plain hs.2), hs.1, hs.2, q _ _ _ (Ext.refl gh) (.bl _)⟩
  · cases e
theorem none_dec {K : PySem.W.Frag} {G H : Hp} {v : V} {x : D} (r : Rdb K G H v x) : decide (v = .non) = isNone x := by
  rcases r with r | ⟨l, vs, xs, rfl, rfl, _, _⟩
  · cases r <;> rfl
  · rfl
theorem or_isN : OpR X (compareOp .Is) (rD2 X.K fIsN) := by
  intro pins s σ H x y v u Q I rx ry h
  obtain ⟨G, dx, dy, z, gh, r1, r2, e, q⟩ := h
  unfold fIsN at e
  split at e
  · rename_i hn
    cases e
    cases dy with
    | none =>
      have e2 := r2.none
      subst e2
      exact op_isN pins s σ H _ _ v u Q I rx ry ⟨rfl, by rw [none_dec r1]; exact q _ _ _ (Ext.refl gh) (.bl _)⟩
    | _ => cases hn
  · cases e
theorem or_notN : OpR X (compareOp .IsNot) (rD2 X.K fNotN) := by
  intro pins s σ H x y v u Q I rx ry h
  obtain ⟨G, dx, dy, z, gh, r1, r2, e, q⟩ := h
  unfold fNotN at e
  split at e
  · rename_i hn
    cases e
    cases dy with
    | none =>
      have e2 := r2.none
      subst e2
      exact op_notN pins s σ H _ _ v u Q I rx ry ⟨rfl, by rw [none_dec r1]; exact q _ _ _ (Ext.refl gh) (.bl _)⟩
    | _ => cases hn
  · cases e
end

/-- a key among data -/
def dkey : D → Option Key
  | .int i => some (.inl i)
  | .str x => some (.inr x)
  | _ => none
theorem dkey_keyD : ∀ k : Key, dkey (keyD k) = some k
  | .inl _ => rfl
  | .inr _ => rfl
theorem keyD_dkey {d : D} {k : Key} (h : dkey d = some k) : d = keyD k := by
  unfold dkey at h
  split at h
  · cases h; rfl
  · cases h; rfl
  · cases h
/-- what a dict holds at a key -/
def dfind : List (D × D) → Key → Option D
  | [], _ => none
  | p :: ds, k => if dkey p.1 = some k then some p.2 else dfind ds k
def dput (ds : List (D × D)) (k : Key) (d : D) : List (D × D) :=
  if (ds.any fun p => decide (dkey p.1 = some k)) = true then ds.map (fun p => if dkey p.1 = some k then (p.1, d) else p) else ds ++ [(keyD k, d)]
theorem kv_find {K : PySem.W.Frag} {G : Hp} {k : Key} {d : D} : ∀ {kvs : List (Key × V)} {ds : List (D × D)}, KvAll K G kvs ds → dfind ds k = some d → ∃ v, valV kvs k = some v ∧ Dq K G v d
  | _, _, .nil, h => nomatch h
  | _, _, .cons (k := k') (kvs := kvs) (ds := ds) a b, h => by
    unfold dfind at h
    rw [dkey_keyD] at h
    by_cases e : k' = k
    · subst e
      rw [if_pos rfl] at h
      cases h
      exact ⟨_, valV_pos rfl, a⟩
    · rw [if_neg (fun z => e (Option.some.inj z))] at h
      obtain ⟨v, h1, h2⟩ := kv_find b h
      exact ⟨v, by rw [valV_neg e]; exact h1, h2⟩
theorem kv_len {K : PySem.W.Frag} {G : Hp} : ∀ {kvs : List (Key × V)} {ds : List (D × D)}, KvAll K G kvs ds → kvs.length = ds.length
  | _, _, .nil => rfl
  | _, _, .cons _ b => by rw [List.length_cons, List.length_cons, kv_len b]
theorem kv_any {K : PySem.W.Frag} {G : Hp} (k : Key) : ∀ {kvs : List (Key × V)} {ds : List (D × D)}, KvAll K G kvs ds → (kvs.any fun kv => decide (kv.1 = k)) = ds.any fun p => decide (dkey p.1 = some k)
  | _, _, .nil => rfl
  | _, _, .cons (k := k') _ b => by
    rw [List.any_cons, List.any_cons, kv_any k b]
    congr 1
    show decide (k' = k) = decide (dkey (keyD k') = some k)
    rw [dkey_keyD]
    exact decide_eq_decide.mpr ⟨fun e => by rw [e], fun e => Option.some.inj e⟩
theorem kv_snoc {K : PySem.W.Frag} {G : Hp} {k : Key} {v : V} {d : D} (r : Dq K G v d) : ∀ {kvs : List (Key × V)} {ds : List (D × D)}, KvAll K G kvs ds → KvAll K G (kvs ++ [(k, v)]) (ds ++ [(keyD k, d)])
  | _, _, .nil => .cons r .nil
  | _, _, .cons a b => .cons a (kv_snoc r b)
theorem kv_over {K : PySem.W.Frag} {G : Hp} {k : Key} {v : V} {d : D} (r : Dq K G v d) : ∀ {kvs : List (Key × V)} {ds : List (D × D)}, KvAll K G kvs ds → KvAll K G (kvs.map fun kv => if kv.1 = k then (kv.1, v) else kv) (ds.map fun p => if dkey p.1 = some k then (p.1, d) else p)
  | _, _, .nil => .nil
  | _, _, .cons (k := k') a b => by
    rw [List.map_cons, List.map_cons]
    dsimp only
    rw [dkey_keyD]
    by_cases e : k' = k
    · rw [if_pos e, if_pos (by rw [e])]
      exact .cons r (kv_over r b)
    · rw [if_neg e, if_neg (fun z => e (Option.some.inj z))]
      exact .cons a (kv_over r b)
theorem kv_put {K : PySem.W.Frag} {G : Hp} {k : Key} {v : V} {d : D} {kvs : List (Key × V)} {ds : List (D × D)} (h : KvAll K G kvs ds) (r : Dq K G v d) : KvAll K G (putK kvs k v) (dput ds k d) := by
  unfold putK dput
  rw [kv_any k h]
  split
  · exact kv_over r h
  · exact kv_snoc r h
theorem dput_len (ds : List (D × D)) (k : Key) (d : D) : (dput ds k d).length ≤ ds.length + 1 := by
  unfold dput
  split
  · rw [List.length_map]
    omega
  · rw [List.length_append]
    exact Nat.le_refl _
theorem key_rel {K : PySem.W.Frag} {G H : Hp} {y : V} {d : D} {k : Key} (r : Rdb K G H y d) (h : dkey d = some k) : y = kV k := by
  have e := keyD_dkey h
  subst e
  cases k with
  | inl i => exact r.int
  | inr x => exact r.str
theorem ix_dk {X : Cx} (hu : X.A.units + 64 < cLine) : IxR X (fun x y H Q => ∃ a v, x = .ref a ∧ DGet H a y (some v) ∧ Q v H) := by
  intro value slice pins s σ H x y v u Q I rx ry h hs
  obtain ⟨a, v', e, g, q⟩ := h
  subst e
  obtain rfl : v = Value.ref a := rx
  exact tail_any (dict_typeIs I g) PySem.F.slot_dict_getitem.lookup (d_getItem (by omega) I g ry fun w' s3 I3 rw' => ⟨v', H, I3, rw', q⟩) hs
def fIx : D → D → Option D
  | .list xs, .int i => atI xs i
  | .tuple xs, .int i => atI xs i
  | .dict ds, k => match dkey k with
    | some k => dfind ds k
    | none => none
  | _, _ => none
theorem dpa_at {K : PySem.W.Frag} {G : Hp} {vs : List V} {xs : List D} {i : Int} {d : D} (h : DqAll K G vs xs) (e : atI xs i = some d) : ∃ v, atI vs i = some v ∧ Dq K G v d := by
  unfold atI at e ⊢
  rw [dpa_length h]
  cases q : ixN xs.length i with
  | none => rw [q] at e; cases e
  | some j =>
    rw [q] at e
    exact dpa_get h e
theorem ixr {X : Cx} (hu : X.A.units + 64 < cLine) : IxR X (rD2 X.K fIx) := by
  intro value slice pins s σ H x y v u Q I rx ry h hs
  obtain ⟨G, dx, dy, z, gh, r1, r2, e, q⟩ := h
  unfold fIx at e
  split at e
  · obtain ⟨l, vs, rfl, s1, d1⟩ := r1.list gh
    have e2 := r2.int
    subst e2
    obtain ⟨w, k1, k2⟩ := dpa_at d1 e
    exact ix_list value slice pins s σ H _ _ v u Q I rx ry ⟨l, vs, _, w, rfl, rfl, s1, k1, q _ _ _ (Ext.refl gh) k2⟩ hs
  · obtain ⟨l, vs, rfl, s1, d1⟩ := r1.tup gh
    have e2 := r2.int
    subst e2
    obtain ⟨w, k1, k2⟩ := dpa_at d1 e
    exact ix_tup value slice pins s σ H _ _ v u Q I rx ry ⟨l, vs, _, w, rfl, rfl, s1.sq, k1, q _ _ _ (Ext.refl gh) k2⟩ hs
  · split at e
    · rename_i k hk
      have e2 := key_rel r2 hk
      subst e2
      rcases r1 with r1 | ⟨_, _, _, _, c, _⟩
      · cases r1 with
        | dic h1 h2 =>
          obtain ⟨w, k1, k2⟩ := kv_find h2 e
          exact ix_dk hu value slice pins s σ H _ _ v u Q I rx ry ⟨_, w, rfl, .inl ⟨_, _, .inl (gh _ _ h1), rfl, k1.symm⟩, q _ _ _ (Ext.refl gh) k2⟩ hs
        | exc h1 h2 h3 h4 => cases k <;> cases e
        | fn h1 => cases k <;> cases e
      · cases c
    · cases e
  · cases e
/-- the items from lo to hi -/
def cutD {α : Type} (xs : List α) (lo hi : Option Int) : List α := (xs.drop (HT.sIx xs.length 0 lo)).take (HT.sIx xs.length xs.length hi - HT.sIx xs.length 0 lo)
theorem dpa_cut {K : PySem.W.Frag} {G : Hp} {vs : List V} {xs : List D} (lo hi : Option Int) (h : DqAll K G vs xs) : DqAll K G (cutV vs lo hi) (cutD xs lo hi) := by
  unfold cutV cutD
  rw [dpa_length h]
  exact dpa_take _ (dpa_drop _ h)
def fCutT (x : D) (lo hi : Option Int) : Option D := match x with
  | .tuple xs => some (.tuple (cutD xs lo hi))
  | _ => none
def fCutL (x : D) (lo hi : Option Int) : Option (List D) := match x with
  | .list xs => some (cutD xs lo hi)
  | _ => none
/-- a slice's bound -/
def DPo (X : Cx) (e : Option Expr) (m : M (Option Int)) : Prop := ∀ W, Takes X W → PO X e (zt X W (fun _ _ _ _ _ _ _ x y => x = y) m)
def oNone : M (Option Int) := rt none
def oSome (m : M D) : M (Option Int) := bnd m fun x => match x with
  | .int i => rt (some i)
  | _ => fun _ => .bad
theorem po_imp {X : Cx} {e : Option Expr} {t t' : TO} (p : PO X e t) (h : ∀ σ H Q, t' σ H Q → t σ H Q) : PO X e t' := ⟨fun pins s σ H Q I q => p.run pins s σ H Q I (h σ H Q q)⟩
section
variable {X : Cx} {e : Expr} {pos p2 : Pos} {lo hi : Option Expr}
theorem dpo_none : DPo X none oNone := fun W _ => po_imp po_none fun σ H Q ⟨F, G, Mu, Γ, R, p⟩ => p none H G (Same.refl _) R rfl
theorem dpo_some {m : M D} (h : DP X e m) : DPo X (some e) (oSome m) := fun W tk => by
  refine po_imp (po_some (h W tk)) fun σ H Q p => ?_
  refine (zt_bnd (ρ := rhoD) p).imp fun v H1 ⟨r, F, G, Mu, Γ, R, h1, q⟩ => ?_
  cases r with
  | int i =>
    cases h1
    exact ⟨i, rfl, q _ _ G (Same.refl _) R rfl⟩
  | _ => exact q.elim
theorem zt_bnd3 {W : WX} {σ : St} {H : Hp} {α ζ : Type} {ρ'' : Rho α ζ} {m : M Rs} {a b : M (Option Int)} {f : Rs → Option Int → Option Int → M α} {Q : ζ → Hp → Prop} (p : zt X W ρ'' (bnd m fun r => bnd a fun lo => bnd b fun hi => f r lo hi) σ H Q) :
    zt X W rhoR m σ H fun v H1 => zt X W (fun _ _ _ _ _ _ _ x y => x = y) a σ H1 fun l H2 => zt X W (fun _ _ _ _ _ _ _ x y => x = y) b σ H2 fun u H3 =>
      ∃ r F G Mu Γ, Rel X.K F G Mu Γ σ H3 ∧ rhoR X.K F G Mu Γ σ H3 r v ∧ zpost X W σ ρ'' F G Mu Q (f r l u Γ) := by
  obtain ⟨F, G, Mu, Γ, R, q⟩ := p
  refine ⟨F, G, Mu, Γ, R, ?_⟩
  unfold bnd at q
  cases e : m Γ with
  | bad => rw [e] at q; exact q
  | ex c x Γ1 => rw [e] at q; exact q
  | ok r Γ1 =>
    rw [e] at q
    refine fun v H1 G1 h1 R1 h2 => ⟨F, G1, Mu, Γ1, R1, ?_⟩
    dsimp only at q
    cases e2 : a Γ1 with
    | bad => rw [e2] at q; exact q
    | ex c x Γ2 => rw [e2] at q; exact q.rebase h1
    | ok l Γ2 =>
      rw [e2] at q
      refine fun l' H2 G2 k1 R2 k2 => ⟨F, G2, Mu, Γ2, R2, ?_⟩
      subst k2
      dsimp only at q
      cases e3 : b Γ2 with
      | bad => rw [e3] at q; exact q
      | ex c x Γ3 => rw [e3] at q; exact q.rebase (h1.trans k1)
      | ok u Γ3 =>
        rw [e3] at q
        refine fun u' H3 G3 j1 R3 j2 => ?_
        subst j2
        exact ⟨r, F, G3, Mu, Γ3, R3, stR _ _ _ _ _ _ _ _ _ _ _ _ _ _ (k1.trans j1) h2, q.rebase ((h1.trans k1).trans j1)⟩
end
end Z

set_option Elab.async false
set_option linter.all false
set_option maxRecDepth 100000
set_option autoImplicit false
set_option maxHeartbeats 1000000
namespace Z
open PySem PySem.Spec PyProof.Rows L2
section
variable {X : Cx}
/-- the numbers behind the items -/
theorem vals_num {ns : List Int} {us : List Value} (r : Vals (ns.map V.int) us) (i : Nat) (v : Value) (h : us.toArray[i]? = some v) : ∃ t, v = .int (ns.getD i 0) t := by
  have hl : i < us.length := by
    rw [List.getElem?_toArray] at h
    exact (List.getElem?_eq_some_iff.mp h).1
  have hn : i < ns.length := by
    have := r.length
    rw [List.length_map] at this
    omega
  obtain ⟨u, hu, ru⟩ := r.get (i := i) (x := V.int (ns.getD i 0)) (by rw [List.getElem?_map, List.getD_eq_getElem?_getD, List.getElem?_eq_getElem hn]; rfl)
  rw [List.getElem?_toArray, hu] at h
  cases h
  exact ru
theorem getD_in {ns : List Int} {i : Nat} (h : i < ns.length) : ns.getD i 0 ∈ ns := by
  rw [List.getD_eq_getElem?_getD, List.getElem?_eq_getElem h]
  exact List.getElem_mem h
theorem in_getD {ns : List Int} {y : Int} (h : y ∈ ns) : ∃ i, i < ns.length ∧ ns.getD i 0 = y := by
  obtain ⟨i, hi, e⟩ := List.getElem_of_mem h
  exact ⟨i, hi, by rw [List.getD_eq_getElem?_getD, List.getElem?_eq_getElem hi]; exact e⟩
def rMaxT (K : PySem.W.Frag) : List V → Hp → VK → Prop := fun vs H Q => ∃ (a : Addr) (ns : List Int), vs = [.ref a] ∧ SqT K H a (ns.map .int) ∧ ns ≠ [] ∧ ∀ m, m ∈ ns → (∀ y, y ∈ ns → y ≤ m) → Q (.int m) H
def rMinT (K : PySem.W.Frag) : List V → Hp → VK → Prop := fun vs H Q => ∃ (a : Addr) (ns : List Int), vs = [.ref a] ∧ SqT K H a (ns.map .int) ∧ ns ≠ [] ∧ ∀ m, m ∈ ns → (∀ y, y ∈ ns → m ≤ y) → Q (.int m) H
theorem cr_maxT (hc : X.calm = true) : CallR X (.builtin "max") (rMaxT X.K) := by
  intro pins s σ H vs us Q I r h
  obtain ⟨a, ns, e, hs, hne, q⟩ := h
  subst e
  obtain ⟨its, rv, p, hz⟩ := I.tuple hs
  rw [Vals.ref1 r]
  have pt : s.heap.IsTuple a its.toArray := p
  have la : a < s.heap.objs.size := by
    obtain ⟨o, k, _⟩ := id pt
    exact Heap.lt_size k
  have n1 : its.length = ns.length := by rw [← rv.length, List.length_map]
  have n0 : 0 < ns.length := List.length_pos_iff.mpr hne
  refine call_max_walk (wpAny_pyIter_tuple pt ?_)
  refine ⟨_, _, _, _, _, _, _, rfl, Walks.tuple (A := X.A.in1) (I.ok.hd hc) s.heap.objs.size a (Nat.ne_of_lt la) its.toArray, ⟨⟨_, Heap.get?_push_size _ rfl, rfl, rfl⟩, pt.push _⟩, fun b hb => ?_, ?_, CmpOf.ints_gt (fun i => ns.getD i 0) (vals_num rv), fun v h' tk hv hk => ?_⟩
  · show b < (s.heap.push _).objs.size
    rw [Heap.size_push]
    simp only [List.mem_cons, List.not_mem_nil, or_false] at hb
    rcases hb with rfl | rfl
    · exact Nat.lt_succ_self _
    · exact Nat.lt_succ_of_lt la
  · rw [List.size_toArray]
    omega
  · obtain ⟨t, rfl⟩ := vals_num rv _ _ hv
    obtain ⟨b1, b2⟩ := argBest_gt (fun i => ns.getD i 0) (its.toArray.size - 1)
    rw [List.size_toArray] at b1 b2 ⊢
    refine ⟨.int _, H, I.kept fun b u hb => hk b u (fun hm => ?_) (Heap.get?_push_of_some _ hb), ⟨_, rfl⟩, q _ (getD_in (by omega)) fun y hy => ?_⟩
    · rw [List.mem_singleton.mp hm] at hb
      exact absurd (Heap.lt_size hb) (Nat.lt_irrefl _)
    · obtain ⟨j, hj, rfl⟩ := in_getD hy
      exact b2 j (by omega)
theorem cr_minT (hc : X.calm = true) : CallR X (.builtin "min") (rMinT X.K) := by
  intro pins s σ H vs us Q I r h
  obtain ⟨a, ns, e, hs, hne, q⟩ := h
  subst e
  obtain ⟨its, rv, p, hz⟩ := I.tuple hs
  rw [Vals.ref1 r]
  have pt : s.heap.IsTuple a its.toArray := p
  have la : a < s.heap.objs.size := by
    obtain ⟨o, k, _⟩ := id pt
    exact Heap.lt_size k
  have n1 : its.length = ns.length := by rw [← rv.length, List.length_map]
  have n0 : 0 < ns.length := List.length_pos_iff.mpr hne
  refine call_min_walk (wpAny_pyIter_tuple pt ?_)
  refine ⟨_, _, _, _, _, _, _, rfl, Walks.tuple (A := X.A.in1) (I.ok.hd hc) s.heap.objs.size a (Nat.ne_of_lt la) its.toArray, ⟨⟨_, Heap.get?_push_size _ rfl, rfl, rfl⟩, pt.push _⟩, fun b hb => ?_, ?_, CmpOf.ints_lt (fun i => ns.getD i 0) (vals_num rv), fun v h' tk hv hk => ?_⟩
  · show b < (s.heap.push _).objs.size
    rw [Heap.size_push]
    simp only [List.mem_cons, List.not_mem_nil, or_false] at hb
    rcases hb with rfl | rfl
    · exact Nat.lt_succ_self _
    · exact Nat.lt_succ_of_lt la
  · rw [List.size_toArray]
    omega
  · obtain ⟨t, rfl⟩ := vals_num rv _ _ hv
    obtain ⟨b1, b2⟩ := argBest_lt (fun i => ns.getD i 0) (its.toArray.size - 1)
    rw [List.size_toArray] at b1 b2 ⊢
    refine ⟨.int _, H, I.kept fun b u hb => hk b u (fun hm => ?_) (Heap.get?_push_of_some _ hb), ⟨_, rfl⟩, q _ (getD_in (by omega)) fun y hy => ?_⟩
    · rw [List.mem_singleton.mp hm] at hb
      exact absurd (Heap.lt_size hb) (Nat.lt_irrefl _)
    · obtain ⟨j, hj, rfl⟩ := in_getD hy
      exact b2 j (by omega)
end
end Z

set_option Elab.async false
set_option linter.all false
set_option maxRecDepth 100000
set_option autoImplicit false
set_option maxHeartbeats 1000000
namespace Z
open PySem PySem.Spec PyProof.Rows L2

def dTup (m : M (List D)) : M D := bnd m fun xs => if xs.length ≤ sizeLine then rt (.tuple xs) else fun _ => .bad
def dLst (m : M (List D)) : M (List D) := bnd m fun xs => if xs.length ≤ sizeLine then rt xs else fun _ => .bad
section
variable {X : Cx} {a b c e : Expr} {es : List Expr} {pos : Pos}
theorem dp_tup {k} {m : M (List D)} (h : DPs X es m) : DP X (.Tuple es k pos) (dTup m) := fun W tk => by
  refine pe_imp (pe_tupZ (h W tk)) fun σ H Q p => ?_
  refine (zt_bnd (ρ := rhoDs) p).imp fun vs H1 ⟨xs, F, G, Mu, Γ, R, h1, q⟩ => ?_
  have n1 := dpa_length h1
  split at q
  · rename_i hz
    refine ⟨by omega, fun p o n ho => ?_⟩
    have E := Ext.new (o := .frz o (.tup vs)) R.gh n
    exact q _ _ _ E.g (R.ext E) (show rhoD _ _ _ _ _ _ _ (.tuple xs) _ from .tup (.new ho) (dpAll_mono E.g _ _ h1))
  · exact q.elim
theorem do_lst {m : M (List D)} (h : DPs X es m) : DO X (.List es pos) (dLst m) := fun W tk => by
  refine pe_imp (pe_lst (h W tk)) fun σ H Q p => ?_
  refine (zt_bnd (ρ := rhoDs) p).imp fun vs H1 ⟨xs, F, G, Mu, Γ, R, h1, q⟩ => ?_
  have n1 := dpa_length h1
  split at q
  · rename_i hz
    refine ⟨by omega, fun p n => ?_⟩
    obtain ⟨R', o⟩ := R.newO n h1
    exact q _ _ G (Same.refl _) R' o
  · exact q.elim

theorem dp_callB {id : String} {f : List D → Option D} {x : Str} {p : Pos} {m : M (List Rs)} (hc : CallR X (.builtin id) (rDN X.K f)) (hg : Gl X x) (hm : X.mg x = none) (hv : bootBuiltins x = some (.builtin id)) (ha : DVs X (e :: es) m)
    (hn : x ≠ "__name__" := by decide) (hdb : (x == ("__debug__" : Str)) = false := by decide) (he : starEach (e :: es) X.env = (false, eval e X.env) :: starEach es X.env := by rfl) (hpl : (backTo pos (starEach es X.env)).any (·.1) = false := by rfl) :
    DP X (.Call (.Name x p) (e :: es) [] pos) (opN f m) := fun W tk => pe_imp (pe_callB hc hg hm hv (ha W tk) hn hdb he hpl) fun _ _ _ p => opN_run p
theorem dp_callTy {T : String} {f : List D → Option D} {x : Str} {p : Pos} {m : M (List Rs)} (hc : CallR X (.type T) (rDN X.K f)) (hg : Gl X x) (hm : X.mg x = none) (hv : bootBuiltins x = some (.type T)) (ha : DVs X (e :: es) m)
    (hn : x ≠ "__name__" := by decide) (hdb : (x == ("__debug__" : Str)) = false := by decide) (he : starEach (e :: es) X.env = (false, eval e X.env) :: starEach es X.env := by rfl) (hpl : (backTo pos (starEach es X.env)).any (·.1) = false := by rfl) :
    DP X (.Call (.Name x p) (e :: es) [] pos) (opN f m) := fun W tk => pe_imp (pe_callTy hc hg hm hv (ha W tk) hn hdb he hpl) fun _ _ _ p => opN_run p
theorem do_callB {id : String} {f : List D → Option (List D)} {x : Str} {p : Pos} {m : M (List Rs)} (hc : CallR X (.builtin id) (rON X.K f)) (hg : Gl X x) (hm : X.mg x = none) (hv : bootBuiltins x = some (.builtin id)) (ha : DVs X (e :: es) m)
    (hn : x ≠ "__name__" := by decide) (hdb : (x == ("__debug__" : Str)) = false := by decide) (he : starEach (e :: es) X.env = (false, eval e X.env) :: starEach es X.env := by rfl) (hpl : (backTo pos (starEach es X.env)).any (·.1) = false := by rfl) :
    DO X (.Call (.Name x p) (e :: es) [] pos) (opNo f m) := fun W tk => pe_imp (pe_callB hc hg hm hv (ha W tk) hn hdb he hpl) fun _ _ _ p => opNo_run p
end
def toInts : List D → Option (List Int)
  | [] => some []
  | .int i :: r => (toInts r).map (i :: ·)
  | _ :: _ => none
def toBools : List D → Option (List Bool)
  | [] => some []
  | .bool i :: r => (toBools r).map (i :: ·)
  | _ :: _ => none
theorem toInts_ok : ∀ {xs : List D} {ns : List Int}, toInts xs = some ns → xs = ns.map PyData.int
  | [], _, h => by cases h; rfl
  | x :: r, ns, h => by
    unfold toInts at h
    split at h
    · cases ‹_ = []›
    · rename_i i r' e
      cases e
      obtain ⟨ms, h1, h2⟩ := Option.map_eq_some_iff.mp h
      subst h2
      rw [toInts_ok h1]
      rfl
    · cases h
theorem toInts_map (ns : List Int) : toInts (ns.map PyData.int) = some ns := by
  induction ns with
  | nil => rfl
  | cons n r ih =>
    show (toInts (r.map PyData.int)).map (n :: ·) = _
    rw [ih]
    rfl
theorem toBools_ok : ∀ {xs : List D} {ns : List Bool}, toBools xs = some ns → xs = ns.map PyData.bool
  | [], _, h => by cases h; rfl
  | x :: r, ns, h => by
    unfold toBools at h
    split at h
    · cases ‹_ = []›
    · rename_i i r' e
      cases e
      obtain ⟨ms, h1, h2⟩ := Option.map_eq_some_iff.mp h
      subst h2
      rw [toBools_ok h1]
      rfl
    · cases h
theorem toBools_map (ns : List Bool) : toBools (ns.map PyData.bool) = some ns := by
  induction ns with
  | nil => rfl
  | cons n r ih =>
    show (toBools (r.map PyData.bool)).map (n :: ·) = _
    rw [ih]
    rfl
theorem dpa_bools' {K : PySem.W.Frag} {G : Hp} : ∀ {ns : List Bool} {vs : List V}, DqAll K G vs (ns.map PyData.bool) → vs = ns.map V.bl
  | [], _, h => by cases h; rfl
  | n :: ns, _, h => by
    cases h with
    | cons a b =>
      cases a
      rw [dpa_bools' b]
      rfl
def fLen : List D → Option D
  | [.list xs] => some (.int xs.length)
  | [.tuple xs] => some (.int xs.length)
  | [.str z] => if z.length ≤ sizeLine then some (.int z.length) else none
  | [.dict ((.list _, _) :: _)] => none
  | [.dict ds] => some (.int ds.length)
  | _ => none
def fInt : List D → Option D
  | [.int i] => some (.int i)
  | [.bool b] => some (.int (if b then 1 else 0))
  | _ => none
def lmax : Int → List Int → Int
  | m, [] => m
  | m, x :: r => lmax (if x > m then x else m) r
def lmin : Int → List Int → Int
  | m, [] => m
  | m, x :: r => lmin (if x < m then x else m) r
theorem lmax_spec : ∀ (r : List Int) (m : Int), (lmax m r = m ∨ lmax m r ∈ r) ∧ m ≤ lmax m r ∧ ∀ y ∈ r, y ≤ lmax m r
  | [], m => ⟨.inl rfl, Int.le_refl _, fun _ h => nomatch h⟩
  | x :: r, m => by
    obtain ⟨h1, h2, h3⟩ := lmax_spec r (if x > m then x else m)
    show (lmax (if x > m then x else m) r = m ∨ lmax (if x > m then x else m) r ∈ x :: r) ∧ m ≤ lmax (if x > m then x else m) r ∧ ∀ y ∈ x :: r, y ≤ lmax (if x > m then x else m) r
    refine ⟨?_, ?_, fun y hy => ?_⟩
    · rcases h1 with h1 | h1
      · by_cases hx : x > m
        · rw [if_pos hx] at h1 ⊢
          rw [h1]
          exact .inr List.mem_cons_self
        · rw [if_neg hx] at h1 ⊢
          exact .inl h1
      · exact .inr (List.mem_cons_of_mem _ h1)
    · refine Int.le_trans ?_ h2
      split <;> omega
    · rcases List.mem_cons.mp hy with e | hy
      · subst e
        refine Int.le_trans ?_ h2
        split <;> omega
      · exact h3 y hy
theorem lmin_spec : ∀ (r : List Int) (m : Int), (lmin m r = m ∨ lmin m r ∈ r) ∧ lmin m r ≤ m ∧ ∀ y ∈ r, lmin m r ≤ y
  | [], m => ⟨.inl rfl, Int.le_refl _, fun _ h => nomatch h⟩
  | x :: r, m => by
    obtain ⟨h1, h2, h3⟩ := lmin_spec r (if x < m then x else m)
    show (lmin (if x < m then x else m) r = m ∨ lmin (if x < m then x else m) r ∈ x :: r) ∧ lmin (if x < m then x else m) r ≤ m ∧ ∀ y ∈ x :: r, lmin (if x < m then x else m) r ≤ y
    refine ⟨?_, ?_, fun y hy => ?_⟩
    · rcases h1 with h1 | h1
      · by_cases hx : x < m
        · rw [if_pos hx] at h1 ⊢
          rw [h1]
          exact .inr List.mem_cons_self
        · rw [if_neg hx] at h1 ⊢
          exact .inl h1
      · exact .inr (List.mem_cons_of_mem _ h1)
    · refine Int.le_trans h2 ?_
      split <;> omega
    · rcases List.mem_cons.mp hy with e | hy
      · subst e
        refine Int.le_trans h2 ?_
        split <;> omega
      · exact h3 y hy
theorem the_max {ns : List Int} {a b : Int} (ha : a ∈ ns) (hb : b ∈ ns) (h1 : ∀ y ∈ ns, y ≤ a) (h2 : ∀ y ∈ ns, y ≤ b) : a = b := Int.le_antisymm (h2 a ha) (h1 b hb)
theorem the_min {ns : List Int} {a b : Int} (ha : a ∈ ns) (hb : b ∈ ns) (h1 : ∀ y ∈ ns, a ≤ y) (h2 : ∀ y ∈ ns, b ≤ y) : a = b := Int.le_antisymm (h1 b hb) (h2 a ha)
def fMax : List D → Option D
  | [.int i, .int j] => some (.int (if j > i then j else i))
  | [.list xs] => match toInts xs with
    | some (n :: ns) => some (.int (lmax n ns))
    | _ => none
  | [.tuple xs] => match toInts xs with
    | some (n :: ns) => some (.int (lmax n ns))
    | _ => none
  | _ => none
def fMin : List D → Option D
  | [.int i, .int j] => some (.int (if j < i then j else i))
  | [.list xs] => match toInts xs with
    | some (n :: ns) => some (.int (lmin n ns))
    | _ => none
  | [.tuple xs] => match toInts xs with
    | some (n :: ns) => some (.int (lmin n ns))
    | _ => none
  | _ => none
def fSum : List D → Option D
  | [.list xs] => (toInts xs).map fun ns => .int ns.sum
  | _ => none
def fAll : List D → Option D
  | [.list xs] => (toBools xs).map fun bs => .bool (bs.all id)
  | _ => none
def fList : List D → Option (List D)
  | [.list xs] => some xs
  | [.tuple xs] => some xs
  | _ => none
def fTuple : List D → Option D
  | [.list xs] => some (.tuple xs)
  | [.tuple xs] => some (.tuple xs)
  | _ => none
section
variable {X : Cx}
theorem cd_len : CallR X (.builtin "len") (rDN X.K fLen) := by
  intro pins s σ H vs us Q I r h
  obtain ⟨G, xs, z, gh, rd, e, q⟩ := h
  unfold fLen at e
  split at e
  · cases e
    obtain ⟨v, rfl, rv⟩ := rd.one
    obtain ⟨l, ws, rfl, s1, d1⟩ := rv.list gh
    rw [← dpa_length d1] at q
    exact call_len_seq pins s σ H _ us Q I r ⟨l, ws, rfl, .inl s1, q _ _ _ (Ext.refl gh) (.int _)⟩
  · cases e
    obtain ⟨v, rfl, rv⟩ := rd.one
    obtain ⟨l, ws, rfl, s1, d1⟩ := rv.tup gh
    rw [← dpa_length d1] at q
    exact call_len_seq pins s σ H _ us Q I r ⟨l, ws, rfl, .inr s1.sq, q _ _ _ (Ext.refl gh) (.int _)⟩
  · split at e
    · cases e
      obtain ⟨v, rfl, rv⟩ := rd.one
      have e1 := rv.str
      subst e1
      exact call_len_str pins s σ H _ us Q I r ⟨_, rfl, by assumption, q _ _ _ (Ext.refl gh) (.int _)⟩
    · cases e
  · cases e
  · rename_i ds hne
    cases e
    obtain ⟨v, rfl, rv⟩ := rd.one
    rcases rv with rv | ⟨_, _, _, _, c, _⟩
    · cases rv with
      | dic h1 h2 =>
        rw [← kv_len h2] at q
        exact call_lenD pins s σ H _ us Q I r ⟨_, _, rfl, gh _ _ h1, q _ _ _ (Ext.refl gh) (.int _)⟩
      | exc h1 h2 h3 h4 => exact absurd rfl (hne _ _ _)
      | fn h1 => exact absurd rfl (hne _ _ _)
    · cases c
  · cases e
theorem cd_int : CallR X (.type "int") (rDN X.K fInt) := by
  intro pins s σ H vs us Q I r h
  obtain ⟨G, xs, z, gh, rd, e, q⟩ := h
  unfold fInt at e
  split at e
  · cases e
    obtain ⟨v, rfl, rv⟩ := rd.one
    have e1 := rv.int
    subst e1
    exact call_int1 pins s σ H _ us Q I r (.inl ⟨_, rfl, q _ _ _ (Ext.refl gh) (.int _)⟩)
  · cases e
    obtain ⟨v, rfl, rv⟩ := rd.one
    have e1 := rv.bool
    subst e1
    exact call_int1 pins s σ H _ us Q I r (.inr ⟨_, rfl, q _ _ _ (Ext.refl gh) (.int _)⟩)
  · cases e
theorem cd_max (hc : X.calm = true) : CallR X (.builtin "max") (rDN X.K fMax) := by
  intro pins s σ H vs us Q I r h
  obtain ⟨G, xs, z, gh, rd, e, q⟩ := h
  unfold fMax at e
  split at e
  · cases e
    obtain ⟨v, u, rfl, r1, r2⟩ := rd.two
    have e1 := r1.int
    have e2 := r2.int
    subst e1 e2
    exact call_max2 hc pins s σ H _ us Q I r ⟨_, _, rfl, q _ _ _ (Ext.refl gh) (.int _)⟩
  · rename_i xs'
    split at e
    · rename_i n ns hi
      cases e
      obtain ⟨v, rfl, rv⟩ := rd.one
      obtain ⟨l, ws, rfl, s1, d1⟩ := rv.list gh
      rw [toInts_ok hi] at d1
      have e1 := dpa_ints' d1
      subst e1
      refine cr_max hc pins s σ H _ us Q I r ⟨l, n :: ns, rfl, s1, by simp, fun m hm hy => ?_⟩
      obtain ⟨k1, k2, k3⟩ := lmax_spec ns n
      have e2 : m = lmax n ns := the_max hm (by rcases k1 with k | k <;> simp [k]) hy fun y hy => by
        rcases List.mem_cons.mp hy with e | hy
        · subst e
          exact k2
        · exact k3 y hy
      rw [e2]
      exact q _ _ _ (Ext.refl gh) (.int _)
    · cases e
  · rename_i xs'
    split at e
    · rename_i n ns hi
      cases e
      obtain ⟨v, rfl, rv⟩ := rd.one
      obtain ⟨l, ws, rfl, s1, d1⟩ := rv.tup gh
      rw [toInts_ok hi] at d1
      have e1 := dpa_ints' d1
      subst e1
      refine cr_maxT hc pins s σ H _ us Q I r ⟨l, n :: ns, rfl, s1.sq, by simp, fun m hm hy => ?_⟩
      obtain ⟨k1, k2, k3⟩ := lmax_spec ns n
      have e2 : m = lmax n ns := the_max hm (by rcases k1 with k | k <;> simp [k]) hy fun y hy => by
        rcases List.mem_cons.mp hy with e | hy
        · subst e
          exact k2
        · exact k3 y hy
      rw [e2]
      exact q _ _ _ (Ext.refl gh) (.int _)
    · cases e
  · cases e
theorem cd_min (hc : X.calm = true) : CallR X (.builtin "min") (rDN X.K fMin) := by
  intro pins s σ H vs us Q I r h
  obtain ⟨G, xs, z, gh, rd, e, q⟩ := h
  unfold fMin at e
  split at e
  · cases e
    obtain ⟨v, u, rfl, r1, r2⟩ := rd.two
    have e1 := r1.int
    have e2 := r2.int
    subst e1 e2
    exact call_min2 hc pins s σ H _ us Q I r ⟨_, _, rfl, q _ _ _ (Ext.refl gh) (.int _)⟩
  · rename_i xs'
    split at e
    · rename_i n ns hi
      cases e
      obtain ⟨v, rfl, rv⟩ := rd.one
      obtain ⟨l, ws, rfl, s1, d1⟩ := rv.list gh
      rw [toInts_ok hi] at d1
      have e1 := dpa_ints' d1
      subst e1
      refine cr_min hc pins s σ H _ us Q I r ⟨l, n :: ns, rfl, s1, by simp, fun m hm hy => ?_⟩
      obtain ⟨k1, k2, k3⟩ := lmin_spec ns n
      have e2 : m = lmin n ns := the_min hm (by rcases k1 with k | k <;> simp [k]) hy fun y hy => by
        rcases List.mem_cons.mp hy with e | hy
        · subst e
          exact k2
        · exact k3 y hy
      rw [e2]
      exact q _ _ _ (Ext.refl gh) (.int _)
    · cases e
  · rename_i xs'
    split at e
    · rename_i n ns hi
      cases e
      obtain ⟨v, rfl, rv⟩ := rd.one
      obtain ⟨l, ws, rfl, s1, d1⟩ := rv.tup gh
      rw [toInts_ok hi] at d1
      have e1 := dpa_ints' d1
      subst e1
      refine cr_minT hc pins s σ H _ us Q I r ⟨l, n :: ns, rfl, s1.sq, by simp, fun m hm hy => ?_⟩
      obtain ⟨k1, k2, k3⟩ := lmin_spec ns n
      have e2 : m = lmin n ns := the_min hm (by rcases k1 with k | k <;> simp [k]) hy fun y hy => by
        rcases List.mem_cons.mp hy with e | hy
        · subst e
          exact k2
        · exact k3 y hy
      rw [e2]
      exact q _ _ _ (Ext.refl gh) (.int _)
    · cases e
  · cases e
theorem cd_sum (hc : X.calm = true) : CallR X (.builtin "sum") (rDN X.K fSum) := by
  intro pins s σ H vs us Q I r h
  obtain ⟨G, xs, z, gh, rd, e, q⟩ := h
  unfold fSum at e
  split at e
  · obtain ⟨ns, hi, e⟩ := Option.map_eq_some_iff.mp e
    cases e
    obtain ⟨v, rfl, rv⟩ := rd.one
    obtain ⟨l, ws, rfl, s1, d1⟩ := rv.list gh
    rw [toInts_ok hi] at d1
    have e1 := dpa_ints' d1
    subst e1
    exact cr_sum hc pins s σ H _ us Q I r ⟨l, ns, rfl, s1, q _ _ _ (Ext.refl gh) (.int _)⟩
  · cases e
theorem cd_all (hc : X.calm = true) : CallR X (.builtin "all") (rDN X.K fAll) := by
  intro pins s σ H vs us Q I r h
  obtain ⟨G, xs, z, gh, rd, e, q⟩ := h
  unfold fAll at e
  split at e
  · obtain ⟨ns, hi, e⟩ := Option.map_eq_some_iff.mp e
    cases e
    obtain ⟨v, rfl, rv⟩ := rd.one
    obtain ⟨l, ws, rfl, s1, d1⟩ := rv.list gh
    rw [toBools_ok hi] at d1
    have e1 := dpa_bools' d1
    subst e1
    exact cr_all hc pins s σ H _ us Q I r ⟨l, ns, rfl, s1, q _ _ _ (Ext.refl gh) (.bl _)⟩
  · cases e
theorem cd_tuple : CallR X (.type "tuple") (rDN X.K fTuple) := by
  intro pins s σ H vs us Q I r h
  obtain ⟨G, xs, zs, gh, rd, e, q⟩ := h
  unfold fTuple at e
  split at e
  · cases e
    obtain ⟨v, rfl, rv⟩ := rd.one
    obtain ⟨l, ws, rfl, s1, d1⟩ := rv.list gh
    refine call_tupleZ pins s σ H _ us Q I r ⟨l, ws, rfl, .inl ⟨s1, fun p o n ho => ?_⟩⟩
    have E := Ext.new (o := .frz o (.tup ws)) gh n
    exact q _ _ _ E (.tup (.new ho) (dpAll_mono E.g _ _ d1))
  · cases e
    obtain ⟨v, rfl, rv⟩ := rd.one
    obtain ⟨l, ws, rfl, s1, d1⟩ := rv.tup gh
    refine call_tupleZ pins s σ H _ us Q I r ⟨l, ws, rfl, .inr ⟨s1.sq, ?_⟩⟩
    rcases rv with rv | ⟨_, _, _, _, c, _⟩
    · exact q _ _ _ (Ext.refl gh) rv
    · cases c
  · cases e
end
end Z

set_option Elab.async false
set_option linter.all false
set_option maxRecDepth 100000
set_option autoImplicit false
set_option maxHeartbeats 1000000
namespace Z
open PySem PySem.Spec PyProof.Rows L2

def dB (m : M D) : M Bool := bnd m fun x => match x with
  | .bool b => rt b
  | _ => fun _ => .bad
def dNot (m : M Bool) : M Bool := bnd m fun b => rt (!b)
def dAnd (m n : M Bool) : M Bool := bnd m fun b => if b = true then n else rt false
def dOr (m n : M Bool) : M Bool := bnd m fun b => if b = true then rt true else n
def dIfE (t : M Bool) (m n : M D) : M D := bnd t fun b => if b = true then m else n
def dAndV (m n : M D) : M D := bnd m fun x => match x with
  | .bool b => if b = true then n else rt (.bool false)
  | _ => fun _ => .bad
def dOrV (m n : M D) : M D := bnd m fun x => match x with
  | .bool b => if b = true then rt (.bool true) else n
  | _ => fun _ => .bad
def dNotV (m : M D) : M D := bnd m fun x => match x with
  | .bool b => rt (.bool (!b))
  | _ => fun _ => .bad
section
variable {X : Cx} {a b c e : Expr} {rest : List Expr} {pos : Pos}
theorem b_run {W : WX} {σ : St} {H : Hp} {m : M D} {Q : Bool → Hp → Prop} (p : zt X W rhoB (dB m) σ H Q) : zt X W rhoD m σ H fun v H1 => ∃ k, v = .bl k ∧ Q k H1 := by
  refine (zt_bnd (ρ := rhoD) p).imp fun v H1 ⟨r, F, G, Mu, Γ, R, h1, q⟩ => ?_
  cases r with
  | bool k =>
    cases h1
    exact ⟨k, rfl, zpost_ok R (show rhoB _ _ _ _ _ _ _ k k from rfl) q⟩
  | _ => exact q.elim
theorem dt_val {m : M D} (h : DP X e m) (he : ∀ whole, isTrue e X.env whole = (do let v ← whole; standAt e.pos; holding [v] (truthy v)) := by intro _; rfl) : DT X e (dB m) := fun W tk =>
  pt_imp (pt_val (h W tk) he) fun σ H Q p => b_run p
theorem dt_cmp {op : CmpOp} {f : D → D → Option D} {m n : M Rs} (ho : OpR X (compareOp op) (rD2 X.K f)) (ha : DV X a m) (hb : DV X b n) (hm : behindInMarks op b = false) : DT X (.Compare a [op] [b] pos) (dB (op2 f m n)) := fun W tk =>
  pt_imp (pt_cmpR ho (ha W tk) (hb W tk) hm) fun σ H Q p => op2_run (b_run p)
theorem dt_not {m : M Bool} (h : DT X a m) : DT X (.UnaryOp .Not a pos) (dNot m) := fun W tk => pt_imp (pt_not (h W tk)) fun σ H Q p => by
  refine (zt_bnd (ρ := rhoB) p).imp fun v H1 ⟨r, F, G, Mu, Γ, R, h1, q⟩ => ?_
  have e0 : r = v := h1
  subst e0
  exact zpost_ok R (show rhoB _ _ _ _ _ _ _ (!r) (!r) from rfl) q
theorem dw_and1 {m : M Bool} (h : DT X a m) : DW X (.BoolOp .And [a] pos) m := fun W tk => pw_and1 (h W tk)
theorem dw_or1 {m : M Bool} (h : DT X a m) : DW X (.BoolOp .Or [a] pos) m := fun W tk => pw_or1 (h W tk)
theorem dw_and {m n : M Bool} (h : DT X a m) (k : DW X (.BoolOp .And (b :: rest) pos) n) : DW X (.BoolOp .And (a :: b :: rest) pos) (dAnd m n) := fun W tk => pw_imp (pw_and (h W tk) (k W tk)) fun σ H Q p => by
  refine (zt_bnd (ρ := rhoB) p).imp fun v H1 ⟨r, F, G, Mu, Γ, R, h1, q⟩ => ?_
  have e0 : r = v := h1
  subst e0
  cases r with
  | true => exact ⟨F, G, Mu, Γ, R, q⟩
  | false => exact zpost_ok R (show rhoB _ _ _ _ _ _ _ false false from rfl) q
theorem dw_or {m n : M Bool} (h : DT X a m) (k : DW X (.BoolOp .Or (b :: rest) pos) n) : DW X (.BoolOp .Or (a :: b :: rest) pos) (dOr m n) := fun W tk => pw_imp (pw_or (h W tk) (k W tk)) fun σ H Q p => by
  refine (zt_bnd (ρ := rhoB) p).imp fun v H1 ⟨r, F, G, Mu, Γ, R, h1, q⟩ => ?_
  have e0 : r = v := h1
  subst e0
  cases r with
  | false => exact ⟨F, G, Mu, Γ, R, q⟩
  | true => exact zpost_ok R (show rhoB _ _ _ _ _ _ _ true true from rfl) q
theorem dt_w {m : M Bool} (h : DW X e m) : DT X e m := fun W tk => (h W tk).pt
theorem dp_ifE {t : M Bool} {m n : M D} (ht : DT X c t) (ha : DP X a m) (hb : DP X b n) : DP X (.IfExp c a b pos) (dIfE t m n) := fun W tk => pe_imp (pe_ifExp (ht W tk) (ha W tk) (hb W tk)) fun σ H Q p => by
  refine (zt_bnd (ρ := rhoB) p).imp fun v H1 ⟨r, F, G, Mu, Γ, R, h1, q⟩ => ?_
  have e0 : r = v := h1
  subst e0
  cases r with
  | true => exact ⟨F, G, Mu, Γ, R, q⟩
  | false => exact ⟨F, G, Mu, Γ, R, q⟩
theorem dp_one {op} {m : M D} (h : DP X a m) : DP X (.BoolOp op [a] pos) m := fun W tk => pe_one (h W tk)
theorem dp_and {m n : M D} (h : DP X a m) (k : DP X (.BoolOp .And (b :: rest) pos) n) : DP X (.BoolOp .And (a :: b :: rest) pos) (dAndV m n) := fun W tk => pe_imp (pe_and (h W tk) (k W tk)) fun σ H Q p => by
  refine (zt_bnd (ρ := rhoD) p).imp fun v H1 ⟨r, F, G, Mu, Γ, R, h1, q⟩ => ?_
  cases r with
  | bool k =>
    cases h1
    refine ⟨k, rfl, ?_⟩
    cases k with
    | true => exact ⟨F, G, Mu, Γ, R, q⟩
    | false => exact zpost_ok R (show rhoD _ _ _ _ _ _ _ (.bool false) (.bl false) from .bl _) q
  | _ => exact q.elim
theorem dp_not {m : M D} (h : DP X a m) : DP X (.UnaryOp .Not a pos) (dNotV m) := fun W tk => pe_imp (pe_not (h W tk)) fun σ H Q p => by
  refine (zt_bnd (ρ := rhoD) p).imp fun v H1 ⟨r, F, G, Mu, Γ, R, h1, q⟩ => ?_
  cases r with
  | bool k =>
    cases h1
    exact ⟨k, rfl, zpost_ok R (show rhoD _ _ _ _ _ _ _ (.bool (!k)) (.bl (!k)) from .bl _) q⟩
  | _ => exact q.elim
end

def dChain (f g : D → D → Option D) (m n o : M Rs) : M D := bnd m fun r => bnd n fun s => fun Γ => match vl Γ r, vl Γ s with
  | some x, some y => match f x y with
    | some (.bool k) => if k = true then bnd o (fun t => fun Γ' => match vl Γ' s, vl Γ' t with
      | some y', some z => match g y' z with
        | some w => .ok w Γ'
        | none => .bad
      | _, _ => .bad) Γ else .ok (.bool false) Γ
    | _ => .bad
  | _, _ => .bad
section
variable {X : Cx} {a b c : Expr} {pos : Pos} {f g : D → D → Option D}
theorem chain_run {W : WX} {σ : St} {H : Hp} {Q : VK} {m n o : M Rs} (p : zt X W rhoD (dChain f g m n o) σ H Q) : tChain (rD2 X.K f) (rD2 X.K g) (zt X W rhoR m) (zt X W rhoR n) (zt X W rhoR o) σ H Q := by
  refine (zt_bnd2 (ρ := rhoR) (ρ' := rhoR) stR p).imp fun v H1 q => q.imp fun u H2 ⟨r, s, F, G, Mu, Γ, R, h1, h2, q2⟩ => ?_
  cases e1 : vl Γ r with
  | none => rw [e1] at q2; exact q2.elim
  | some x =>
    cases e2 : vl Γ s with
    | none => rw [e1, e2] at q2; exact q2.elim
    | some y =>
      rw [e1, e2] at q2
      dsimp only at q2
      cases e3 : f x y with
      | none => rw [e3] at q2; exact q2.elim
      | some z =>
        rw [e3] at q2
        refine ⟨G, x, y, z, R.gh, R.read h1 e1, R.read h2 e2, e3, fun w H' G' ex d => ?_⟩
        cases z with
        | bool k =>
          cases d
          refine ⟨k, rfl, ?_⟩
          have R' := R.ext ex
          have q3 := q2.rebase ex.g
          cases k with
          | false => exact zpost_ok R' (show rhoD _ _ _ _ _ _ _ (.bool false) (.bl false) from .bl _) q3
          | true =>
            refine ⟨F, G', Mu, Γ, R', ?_⟩
            dsimp only at q3
            rw [if_pos rfl] at q3
            unfold bnd at q3
            cases e4 : o Γ with
            | bad => rw [e4] at q3; exact q3
            | ex c x Γ1 => rw [e4] at q3; exact q3
            | ok t Γ1 =>
              rw [e4] at q3
              dsimp only at q3
              refine fun w4 H4 G4 j1 R4 j2 => ?_
              cases e5 : vl Γ1 s with
              | none => rw [e5] at q3; exact q3.elim
              | some y' =>
                cases e6 : vl Γ1 t with
                | none => rw [e5, e6] at q3; exact q3.elim
                | some z' =>
                  rw [e5, e6] at q3
                  dsimp only at q3
                  cases e7 : g y' z' with
                  | none => rw [e7] at q3; exact q3.elim
                  | some w7 =>
                    rw [e7] at q3
                    refine ⟨G4, y', z', w7, R4.gh, R4.read (stR _ _ _ _ _ _ _ _ _ _ _ _ _ _ (ex.g.trans j1) h2) e5, R4.read j2 e6, e7, fun w H' G' ex' d => ?_⟩
                    exact q3 w H' G' (j1.trans ex'.g) (R4.ext ex') d
        | _ => exact q2.elim
theorem dt_chain {op op' : CmpOp} {m n o : M Rs} (ho : OpR X (compareOp op) (rD2 X.K f)) (ho' : OpR X (compareOp op') (rD2 X.K g)) (ha : DV X a m) (hb : DV X b n) (hc : DV X c o)
    (hm : lastMarks [op, op'] [b, c] = false := by with_unfolding_all rfl) : DT X (.Compare a [op, op'] [b, c] pos) (dB (dChain f g m n o)) := fun W tk => pt_imp (pt_chain ho ho' (ha W tk) (hb W tk) (hc W tk) hm) fun _ _ _ p => chain_run (b_run p)
end

inductive Ty where
  | int | bool | str | list | tuple
def Ty.name : Ty → String
  | .int => "int"
  | .bool => "bool"
  | .str => "str"
  | .list => "list"
  | .tuple => "tuple"
def tyD : D → String
  | .none => "NoneType"
  | .bool _ => "bool"
  | .int _ => "int"
  | .str _ => "str"
  | .list _ => "list"
  | .tuple _ => "tuple"
  | .dict _ => "dict"
def isTy : D → Ty → Bool
  | .bool _, .int => true
  | .bool _, .bool => true
  | .int _, .int => true
  | .str _, .str => true
  | .list _, .list => true
  | .tuple _, .tuple => true
  | _, _ => false
def isTys (x : D) (ts : List Ty) : Bool := ts.any (isTy x)
def fIs (ts : List Ty) (x : D) : Option D := match x with
  | .dict _ => none
  | x => some (.bool (isTys x ts))
theorem fIs_nd {ts : List Ty} {x z : D} (h : fIs ts x = some z) : (∀ kvs, x ≠ .dict kvs) ∧ z = .bool (isTys x ts) := by
  unfold fIs at h
  split at h
  · cases h
  · rename_i hx
    cases h
    exact ⟨fun kvs e => hx kvs e, rfl⟩
section
variable {X : Cx} {pos p p2 : Pos} {a : Expr}
theorem rdb_ty {K : PySem.W.Frag} {G H : Hp} {v : V} {x : D} (gh : Same G H) (r : Rdb K G H v x) (hx : ∀ kvs, x ≠ .dict kvs) : TyX K H v (.type (tyD x)) := by
  have d := r.dp gh
  cases d with
  | dic _ _ => exact absurd rfl (hx _)
  | exc _ _ _ _ => exact absurd rfl (hx _)
  | fn _ => exact absurd rfl (hx _)
  | non => exact .base .non
  | bl b => exact .base (.bl b)
  | int i => exact .base (.int i)
  | str z => exact .base (.str z)
  | lst h1 h2 =>
    rcases h1 with (h1 | ⟨o, h1⟩) | ⟨o, _, _, h1, h3, _⟩
    · exact .base (.lst h1)
    · exact .base (.frz h1)
    · exact .kList h1 h3
  | tup h1 h2 =>
    rcases h1 with ⟨o, h1, _⟩ | ⟨o, _, _, h1, h3, _⟩
    · exact .fTuple h1
    · exact .kTuple h1 h3
theorem kit_D (K : PySem.W.Frag) (x : D) (h : ∀ kvs, x ≠ .dict kvs) : ∀ t : Ty, PySem.W.kitOne K (.type (tyD x)) (.type t.name) = some (isTy x t) := by
  intro t
  cases x with
  | dict kvs => exact absurd rfl (h kvs)
  | none => cases t <;> exact kit_ty (by decide +kernel)
  | bool b =>
    cases t
    · exact kit_ty (show kitB "bool" "int" = some (isTy (.bool true) .int) by decide +kernel)
    · exact kit_ty (show kitB "bool" "bool" = some (isTy (.bool true) .bool) by decide +kernel)
    · exact kit_ty (show kitB "bool" "str" = some (isTy (.bool true) .str) by decide +kernel)
    · exact kit_ty (show kitB "bool" "list" = some (isTy (.bool true) .list) by decide +kernel)
    · exact kit_ty (show kitB "bool" "tuple" = some (isTy (.bool true) .tuple) by decide +kernel)
  | int b =>
    cases t
    · exact kit_ty (show kitB "int" "int" = some (isTy (.int 0) .int) by decide +kernel)
    · exact kit_ty (show kitB "int" "bool" = some (isTy (.int 0) .bool) by decide +kernel)
    · exact kit_ty (show kitB "int" "str" = some (isTy (.int 0) .str) by decide +kernel)
    · exact kit_ty (show kitB "int" "list" = some (isTy (.int 0) .list) by decide +kernel)
    · exact kit_ty (show kitB "int" "tuple" = some (isTy (.int 0) .tuple) by decide +kernel)
  | str b =>
    cases t
    · exact kit_ty (show kitB "str" "int" = some (isTy (.str "") .int) by decide +kernel)
    · exact kit_ty (show kitB "str" "bool" = some (isTy (.str "") .bool) by decide +kernel)
    · exact kit_ty (show kitB "str" "str" = some (isTy (.str "") .str) by decide +kernel)
    · exact kit_ty (show kitB "str" "list" = some (isTy (.str "") .list) by decide +kernel)
    · exact kit_ty (show kitB "str" "tuple" = some (isTy (.str "") .tuple) by decide +kernel)
  | list b =>
    cases t
    · exact kit_ty (show kitB "list" "int" = some (isTy (.list []) .int) by decide +kernel)
    · exact kit_ty (show kitB "list" "bool" = some (isTy (.list []) .bool) by decide +kernel)
    · exact kit_ty (show kitB "list" "str" = some (isTy (.list []) .str) by decide +kernel)
    · exact kit_ty (show kitB "list" "list" = some (isTy (.list []) .list) by decide +kernel)
    · exact kit_ty (show kitB "list" "tuple" = some (isTy (.list []) .tuple) by decide +kernel)
  | tuple b =>
    cases t
    · exact kit_ty (show kitB "tuple" "int" = some (isTy (.tuple []) .int) by decide +kernel)
    · exact kit_ty (show kitB "tuple" "bool" = some (isTy (.tuple []) .bool) by decide +kernel)
    · exact kit_ty (show kitB "tuple" "str" = some (isTy (.tuple []) .str) by decide +kernel)
    · exact kit_ty (show kitB "tuple" "list" = some (isTy (.tuple []) .list) by decide +kernel)
    · exact kit_ty (show kitB "tuple" "tuple" = some (isTy (.tuple []) .tuple) by decide +kernel)
theorem kit_Ds (K : PySem.W.Frag) (x : D) (h : ∀ kvs, x ≠ .dict kvs) : ∀ ts : List Ty, PySem.W.kitAny K (.type (tyD x)) (ts.map fun t => Value.type t.name) = some (isTys x ts)
  | [] => kitAny_nil
  | t :: ts => kitAny_cons (kit_D K x h t) (fun e => by
      rw [kit_Ds K x h ts]
      show some (isTys x ts) = some (isTy x t || isTys x ts)
      rw [e, Bool.false_or]) (fun e => by
      show (isTy x t || isTys x ts) = true
      rw [e, Bool.true_or])
theorem dp_isi {T : Str} {t : Ty} {m : M Rs} (hg : Gl X "isinstance") (hm : X.mg "isinstance" = none) (ha : DV X a m) (hgT : Gl X T) (hmT : X.mg T = none) (hv : bootBuiltins T = some (.type t.name))
    (hnT : T ≠ "__name__" := by decide) (hdT : (T == ("__debug__" : Str)) = false := by decide) (hs : starEach [a, .Name T p2] X.env = (false, eval a X.env) :: starEach [.Name T p2] X.env := by rfl) (hs2 : starEach [.Name T p2] X.env = (false, eval (.Name T p2) X.env) :: starEach [] X.env := by rfl)
    (hpl : (backTo pos (starEach [.Name T p2] X.env)).any (·.1) = false := by rfl) :
    DP X (.Call (.Name "isinstance" p) [a, .Name T p2] [] pos) (op1 (fIs [t]) m) := fun W tk => by
  refine pe_imp (pe_callB call_isi hg hm (by decide +kernel) (pa_cons (ha W tk) (pa_cons (pe_bltn (v := .ty t.name) hgT hmT hv rfl hnT hdT) pa_nil hs2) hs) (he := hs) (hpl := hpl)) fun σ H Q p => ?_
  refine (op1_run p).imp fun v H1 ⟨G, dx, z, gh, r1, e, q⟩ => ?_
  obtain ⟨hx, e⟩ := fIs_nd e
  subst e
  refine ⟨v, .ty t.name, .type (tyD dx), .type t.name, isTy dx t, rfl, .ty _, rdb_ty gh r1 hx, kit_D _ _ hx t, ?_⟩
  have q' := q (.bl (isTys dx [t])) H1 G (Ext.refl gh) (.bl _)
  have e2 : isTys dx [t] = isTy dx t := Bool.or_false _
  rw [e2] at q'
  exact q'
end
end Z

set_option Elab.async false
set_option linter.all false
set_option maxRecDepth 100000
set_option autoImplicit false
set_option maxHeartbeats 1000000
namespace Z
open PySem PySem.Spec PyProof.Rows L2

section
variable {K : PySem.W.Frag} {G H H' : Hp}
theorem Rdb.mono (e : Same H H') {v : V} {x : D} (h : Rdb K G H v x) : Rdb K G H' v x := by
  rcases h with h | ⟨l, vs, xs, rfl, rfl, h1, h2⟩
  · exact .inl h
  · exact .inr ⟨l, vs, xs, rfl, rfl, e.seq h1, h2⟩
end
def tTys (ts : List Ty) : TA := fun _ H Q => Q (ts.map fun t => V.ty t.name) H
section
variable {X : Cx} {pos p p2 : Pos} {a : Expr} {es : List Expr} {k : Nat}
theorem ty_nil : PA X [] (tTys []) := pa_nil
theorem ty_cons {T : Str} {t : Ty} {ts : List Ty} (hgT : Gl X T) (hmT : X.mg T = none) (hv : bootBuiltins T = some (.type t.name)) (h : PA X es (tTys ts))
    (hnT : T ≠ "__name__" := by decide) (hdT : (T == ("__debug__" : Str)) = false := by decide) (hs : starEach (.Name T p :: es) X.env = (false, eval (.Name T p) X.env) :: starEach es X.env := by rfl) : PA X (.Name T p :: es) (tTys (t :: ts)) :=
  pa_cons (pe_bltn (v := .ty t.name) hgT hmT hv rfl hnT hdT) h hs
theorem paired_cls : ∀ ts : List Ty, Paired ClsV (ts.map fun t => V.ty t.name) (ts.map fun t => Value.type t.name)
  | [] => .nil
  | t :: ts => .cons (.ty _) (paired_cls ts)
theorem dp_isiT {ts : List Ty} {m : M Rs} (hg : Gl X "isinstance") (hm : X.mg "isinstance" = none) (ha : DV X a m) (h : PA X es (tTys ts)) (hl : ts.length ≤ 100)
    (hs : starEach [a, .Tuple es k p2] X.env = (false, eval a X.env) :: starEach [.Tuple es k p2] X.env := by rfl) (hs2 : starEach [.Tuple es k p2] X.env = (false, eval (.Tuple es k p2) X.env) :: starEach [] X.env := by rfl)
    (hpl : (backTo pos (starEach [.Tuple es k p2] X.env)).any (·.1) = false := by rfl) :
    DP X (.Call (.Name "isinstance" p) [a, .Tuple es k p2] [] pos) (op1 (fIs ts) m) := fun W tk => by
  refine pe_imp (pe_callB call_isiT hg hm (by decide +kernel) (pa_cons (ha W tk) (pa_cons (pe_tup h) pa_nil hs2) hs) (he := hs) (hpl := hpl)) fun σ H Q p => ?_
  refine (zt_bnd (ρ := rhoR) p).imp fun v H1 ⟨r, F, G, Mu, Γ, R, h1, q⟩ => ?_
  have hz : sizeLine = 16777216 := sizeLine_eq
  refine ⟨by rw [List.length_map]; omega, fun tp n => ?_⟩
  cases e1 : vl Γ r with
  | none => rw [e1] at q; exact q.elim
  | some x =>
    rw [e1] at q
    have r1 := R.read h1 e1
    have gh2 := same_updR (o := .tup (ts.map fun t => V.ty t.name)) R.gh (R.gh.free n)
    have r2 := r1.mono (same_upd (o := .tup (ts.map fun t => V.ty t.name)) n)
    dsimp only at q
    cases e2 : fIs ts x with
    | none => rw [e2] at q; exact q.elim
    | some z =>
    obtain ⟨hx, ez⟩ := fIs_nd e2
    subst ez
    rw [e2] at q
    refine ⟨v, tp, _, .type (tyD x), _, isTys x ts, rfl, upd_same, paired_cls ts, rdb_ty gh2 r2 hx, kit_Ds _ _ hx ts, ?_⟩
    exact q _ _ G (Same.refl _) (R.newX n) (show rhoD _ _ _ _ _ _ _ (.bool (isTys x ts)) (.bl (isTys x ts)) from .bl _)
end

def fCat : D → D → Option (List D)
  | .list xs, .list ys => if xs.length + ys.length ≤ sizeLine then some (xs ++ ys) else none
  | _, _ => none
section
variable {X : Cx}
theorem or_cat : OpR X (binaryOp .Add) (rO2 X.K fCat) := by
  intro pins s σ H x y v u Q I rx ry h
  obtain ⟨G, dx, dy, zs, gh, r1, r2, e, q⟩ := h
  unfold fCat at e
  split at e
  · split at e
    · rename_i hz
      cases e
      obtain ⟨l1, vs1, rfl, s1, d1⟩ := r1.list gh
      obtain ⟨l2, vs2, rfl, s2, d2⟩ := r2.list gh
      have n1 := dpa_length d1
      have n2 := dpa_length d2
      cases rx
      cases ry
      obtain ⟨its, ra, ⟨o1, k1, e1, c1, dn1, t1⟩, _⟩ := I.list s1
      obtain ⟨its2, rb, ⟨o2, k2, e2, c2, dn2, t2⟩, _⟩ := I.list s2
      have m1 := ra.length
      have m2 := rb.length
      obtain ⟨cls1, dd1, dt1, sl1⟩ := o1
      obtain ⟨cls2, dd2, dt2, sl2⟩ := o2
      simp only at c1 dn1 t1 c2 dn2 t2
      subst c1 dn1 t1 c2 dn2 t2
      have ea : its.toArray ++ its2.toArray = (its ++ its2).toArray := by simp
      refine concat_meets ⟨_, e1, rfl⟩ ⟨_, e2, rfl⟩ noFill_list_add seq_list_add PySem.F.slot_list_add PySem.F.entry_list_add (PySem.F.args_list_add_2 _ _)
        (list_addW l1 l2 its.toArray its2.toArray k1 k2 none none sl1 sl2 (by rw [List.size_toArray, List.size_toArray]; omega)) ⟨e1, e2, ?_⟩
      rw [ea]
      exact ⟨.ref _, _, I.lnew (t' := s.toks) (ra.append rb) (by rw [List.length_append]; omega), rfl, q _ _ I.fresh (dpa_append d1 d2)⟩
    · cases e
  · cases e
end
/-- a new list that stays, told at its place -/
def rhoF : Rho (List D) V := fun K _ G _ _ _ _ xs v => ∃ l vs, v = .ref l ∧ G l = some (.lst vs) ∧ DqAll K G vs xs
def DF (X : Cx) (e : Expr) (m : M (List D)) : Prop := ∀ W, Takes X W → PE X e (zt X W rhoF m)
def fRep (xs : List D) (y : D) : Option (List D) := match y with
  | .int k => if -(2 ^ 63) ≤ k ∧ k < 2 ^ 63 ∧ xs.length * k.toNat ≤ sizeLine then some (List.replicate k.toNat xs).flatten else none
  | _ => none
def dRep (m : M (List D)) (n : M Rs) : M (List D) := bnd m fun xs => bnd n fun s => fun g => match vl g s with
  | none => .bad
  | some y => match fRep xs y with
    | none => .bad
    | some z => .ok z g
section
variable {X : Cx} {a b e : Expr} {pos : Pos}
theorem df_of {m : M (List D)} (h : DO X e m) : DF X e m := fun W tk => by
  refine pe_imp (h W tk) fun σ H Q ⟨F, G, Mu, Γ, R, p⟩ => ⟨F, G, Mu, Γ, R, ?_⟩
  cases e1 : m Γ with
  | bad => rw [e1] at p; exact p
  | ex c x Γ' => rw [e1] at p; exact p
  | ok xs Γ' =>
    rw [e1] at p
    intro v H' G' hs R' hr
    obtain ⟨l, vs, rfl, h1, h2, h3, h4, h5, h6⟩ := hr
    have hs2 : Same G' (upd G' l (.lst vs)) := same_upd h4
    have gh : Same (upd G' l (.lst vs)) H' := fun b x q => by
      by_cases hb : b = l
      · subst hb
        rw [upd_same] at q
        rw [h1]
        exact q
      · rw [upd_ne hb] at q
        exact R'.gh b x q
    refine p _ H' _ (hs.trans hs2) (R'.mono (Mu' := Mu) R'.fh hs2 gh (fun l' q => ?_) (fun i l' ho => ?_) (fun l' q => ?_)) ⟨l, vs, rfl, upd_same, dpAll_mono hs2 _ _ h2⟩
    · obtain ⟨_, m2, m3⟩ := R'.mu l' q
      have hne : l' ≠ l := fun z => h5 (by rw [q, z])
      rw [upd_ne hne]
      exact ⟨m2, m3⟩
    · have hne : l' ≠ l := fun z => h6 i (by rw [← z]; exact ho)
      rw [upd_ne hne]
      exact ⟨(R'.there ho).2.1, rfl⟩
    · rw [upd_ne (fun z => F.kf l' q (by rw [z]; exact h3))]
      exact R'.lk l' q
end

def rgD (a b : Int) : List D := (List.range (b - a).toNat).map fun i => .int (a + (i : Nat))
theorem dpa_rg {K : PySem.W.Frag} {G : Hp} (a b : Int) : DqAll K G (rgV a b) (rgD a b) := by
  refine dpa_of_get (by unfold rgD rgV; rw [List.length_map, List.length_map]) fun i v d h1 h2 => ?_
  unfold rgV at h1
  unfold rgD at h2
  rw [List.getElem?_map] at h1 h2
  cases e : (List.range (b - a).toNat)[i]? with
  | none => rw [e] at h1; cases h1
  | some j =>
    rw [e] at h1 h2
    cases h1
    cases h2
    exact .int _
def okRg (a b : Int) : Bool := decide (-(2 ^ 62) ≤ a) && decide (a < 2 ^ 62) && decide (-(2 ^ 62) ≤ b) && decide (b < 2 ^ 62) && decide ((b - a).toNat ≤ 16777216)
theorem okRg_ok {a b : Int} (h : okRg a b = true) : RgOk a b := by
  unfold okRg at h
  simp only [Bool.and_eq_true, decide_eq_true_eq] at h
  exact ⟨h.1.1.1.1, h.1.1.1.2, h.1.1.2, h.1.2, h.2⟩
/-- the bounds of a range, as values -/
def rg1 (m : M Rs) : M (Int × Int) := bnd m fun r => fun g => match vl g r with
  | some (.int n) => .ok (0, n) g
  | _ => .bad
def rg2 (m n : M Rs) : M (Int × Int) := bnd m fun r => bnd n fun s => fun g => match vl g r, vl g s with
  | some (.int i), some (.int j) => .ok (i, j) g
  | _, _ => .bad
def rhoI : Rho (Int × Int) (Int × Int) := fun _ _ _ _ _ _ _ x y => x = y
def DRg (X : Cx) (e : Expr) (m : M (Int × Int)) : Prop := ∀ W, Takes X W → PRg X e (fun σ H Q => zt X W rhoI m σ H fun ij H1 => Q ij.1 ij.2 H1)
section
variable {X : Cx} {a b e : Expr} {p pos : Pos}
theorem rg2_run {W : WX} {σ : St} {H : Hp} {m n : M Rs} {Q : Int × Int → Hp → Prop} (q : zt X W rhoI (rg2 m n) σ H Q) : zt X W rhoR m σ H fun x H1 => zt X W rhoR n σ H1 fun y H2 => ∃ i j, x = .int i ∧ y = .int j ∧ Q (i, j) H2 := by
  refine (zt_bnd2 (ρ := rhoR) (ρ' := rhoR) stR q).imp fun v H1 q1 => q1.imp fun u H2 ⟨r, s, F, G, Mu, Γ, R, h1, h2, q2⟩ => ?_
  split at q2
  · rename_i i j e1 e2
    exact ⟨i, j, (R.read h1 e1).int, (R.read h2 e2).int, q2 _ H2 G (Same.refl _) R rfl⟩
  · exact q2.elim
theorem prg_imp {e : Expr} {t t' : St → Hp → (Int → Int → Hp → Prop) → Prop} (k : PRg X e t) (h : ∀ σ H Q, t' σ H Q → t σ H Q) : PRg X e t' := fun pins s σ H Q I q => k pins s σ H Q I (h σ H Q q)
theorem drg2 {m n : M Rs} (hg : Gl X "range") (hm : X.mg "range" = none) (ha : DV X a m) (hb : DV X b n) (na : starEach [a, b] X.env = (false, eval a X.env) :: starEach [b] X.env := by rfl)
    (nb : starEach [b] X.env = (false, eval b X.env) :: starEach [] X.env := by rfl) (hp : (backTo pos (starEach [b] X.env)).any (·.1) = false := by rfl) : DRg X (.Call (.Name "range" p) [a, b] [] pos) (rg2 m n) := fun W tk =>
  prg_imp (prg_2 hg hm (ha W tk) (hb W tk) na nb hp) fun _ _ _ q => rg2_run q
def dLstRg (m : M (Int × Int)) : M (List D) := bnd m fun ij => if okRg ij.1 ij.2 then rt (rgD ij.1 ij.2) else fun _ => .bad
def dTupRg (m : M (Int × Int)) : M D := bnd m fun ij => if okRg ij.1 ij.2 then rt (.tuple (rgD ij.1 ij.2)) else fun _ => .bad
theorem do_lstRg {m : M (Int × Int)} (hc : X.calm = true) (hg : Gl X "list") (hm : X.mg "list" = none) (he : DRg X e m) (na : starEach [e] X.env = (false, eval e X.env) :: starEach [] X.env := by rfl) : DO X (.Call (.Name "list" p) [e] [] pos) (dLstRg m) := fun W tk => by
  refine pe_imp (pe_listRg hc hg hm (he W tk) na) fun σ H Q q => ?_
  refine (zt_bnd (ρ := rhoI) q).imp fun v H1 ⟨r, F, G, Mu, Γ, R, h1, q2⟩ => ?_
  have e0 : r = v := h1
  subst e0
  split at q2
  · rename_i hk
    refine ⟨okRg_ok hk, fun l n => ?_⟩
    obtain ⟨R', o⟩ := R.newO n (dpa_rg r.1 r.2)
    exact q2 _ _ G (Same.refl _) R' o
  · exact q2.elim
theorem dp_tupRg {m : M (Int × Int)} (hc : X.calm = true) (hg : Gl X "tuple") (hm : X.mg "tuple" = none) (he : DRg X e m) (na : starEach [e] X.env = (false, eval e X.env) :: starEach [] X.env := by rfl) : DP X (.Call (.Name "tuple" p) [e] [] pos) (dTupRg m) := fun W tk => by
  refine pe_imp (pe_tupRgZ hc hg hm (he W tk) na) fun σ H Q q => ?_
  refine (zt_bnd (ρ := rhoI) q).imp fun v H1 ⟨r, F, G, Mu, Γ, R, h1, q2⟩ => ?_
  have e0 : r = v := h1
  subst e0
  split at q2
  · rename_i hk
    refine ⟨okRg_ok hk, fun l o n ho => ?_⟩
    have E := Ext.new (o := .frz o (.tup (rgV r.1 r.2))) R.gh n
    exact q2 _ _ _ E.g (R.ext E) (show rhoD _ _ _ _ _ _ _ (.tuple (rgD r.1 r.2)) _ from .tup (.new ho) (dpa_rg _ _))
  · exact q2.elim
end

def ixOf (k : Int) : List Int → Option Nat
  | [] => none
  | n :: r => if n = k then some 0 else (ixOf k r).map (· + 1)
theorem ixOf_some : ∀ {ns : List Int} {k : Int} {j : Nat}, ixOf k ns = some j → ns[j]? = some k ∧ ∀ m, m < j → ns[m]? ≠ some k
  | [], _, _, h => by cases h
  | n :: r, k, j, h => by
    unfold ixOf at h
    split at h
    · rename_i e
      cases h
      exact ⟨by rw [← e] <;> rfl, fun m hm => absurd hm (Nat.not_lt_zero _)⟩
    · rename_i e
      obtain ⟨i, h1, h2⟩ := Option.map_eq_some_iff.mp h
      subst h2
      obtain ⟨k1, k2⟩ := ixOf_some h1
      refine ⟨by simpa using k1, fun m hm => ?_⟩
      cases m with
      | zero => simpa using e
      | succ m => simpa using k2 m (by omega)
theorem flat_ints (ns : List Int) : (ns.map V.int).all flatV = true := by
  rw [List.all_map]
  exact List.all_eq_true.mpr fun _ _ => rfl
section
variable {X : Cx}
theorem mt_tup_indexI : MtR X "tuple.index" (fun x xs H Q => ∃ p, ∃ ns : List Int, ∃ k j, x = .ref p ∧ xs = [.int k] ∧ SqT X.K H p (ns.map V.int) ∧ ixOf k ns = some j ∧ Q (.int (j : Nat)) H) := by
  intro pins s σ H x xs v us Q I rx rs h
  obtain ⟨p, ns, k, j, rfl, rfl, hq, hy, q⟩ := h
  obtain ⟨hj0, hno⟩ := ixOf_some hy
  cases rx
  obtain ⟨u, rfl, t, rfl⟩ := vals1 rs
  obtain ⟨its, r, pl, hz⟩ := I.tuple hq
  obtain ⟨⟨cls, dd, dt, sl⟩, ho, hc, n, hd⟩ := pl
  simp only at hc hd
  subst hc hd
  have hl : its.toArray.size = ns.length := by rw [List.size_toArray, ← r.length, List.length_map]
  have hj : j < its.toArray.size := by rw [hl]; exact (List.getElem?_eq_some_iff.mp hj0).1
  have each : ∀ (m : Nat) (hm : m < its.toArray.size), ∃ y t', ns[m]? = some y ∧ its.toArray[m] = Value.int y t' := fun m hm => by
    have hm' : m < ns.length := by rw [← hl]; exact hm
    obtain ⟨w, hw, t', hw'⟩ := r.get (i := m) (x := .int ns[m]) (by simp [hm'])
    refine ⟨ns[m], t', List.getElem?_eq_getElem hm', ?_⟩
    have e := (List.getElem?_eq_some_iff.mp hw).2
    rw [← hw', ← e]
    simp
  refine call_meets PySem.F.slot_tuple_index ⟨_, ho, rfl⟩ PySem.F.entry_tuple_index (PySem.F.args_tuple_index_2 _ _) (TI.tuple_indexAt p its.toArray n dd sl (.int k t) (eqU (.int k)) j hj ?_ ?_)
    ⟨ho, fun w hw => mem_eqAt (x := .int k) ⟨t, rfl⟩ rfl r (flat_ints ns) w (by simpa using hw), ⟨.int (j : Nat), H, I.tok _, ⟨_, rfl⟩, q⟩⟩
  · obtain ⟨y, t', h1, h2⟩ := each j hj
    rw [hj0] at h1
    cases h1
    rw [h2]
    show (k == k) = true
    exact beq_self_eq_true k
  · intro m hm hmj
    obtain ⟨y, t', h1, h2⟩ := each m hm
    rw [h2]
    show (y == k) = false
    exact beq_eq_false_iff_ne.mpr fun e => hno m hmj (e ▸ h1)
end
end Z

set_option Elab.async false
set_option linter.all false
set_option maxRecDepth 100000
set_option autoImplicit false
set_option maxHeartbeats 1000000
namespace Z
open PySem PySem.Spec PyProof.Rows L2

section
variable {prog : Program} {w : World} {A : Around} {E : Value → Shared → Prop} {s : Shared}
theorem back_places (n : Nat) : Builtin.Slice.slicePlaces ((n : Int) - 1) (-1) (-1) = n := by
  unfold Builtin.Slice.slicePlaces
  have h1 : ¬ ((-1 : Int) > 0) := by decide
  simp only [h1, if_false]
  split
  · rw [show (- -1 : Int) = 1 by decide, Int.ediv_one]
    omega
  · omega
theorem fm_congr {α β : Type} {f g : α → Option β} : ∀ (l : List α), (∀ x ∈ l, f x = g x) → l.filterMap f = l.filterMap g
  | [], _ => rfl
  | x :: l, h => by
    rw [List.filterMap_cons, List.filterMap_cons, h x List.mem_cons_self, fm_congr l fun y hy => h y (List.mem_cons_of_mem _ hy)]
theorem back_adjust (n : Nat) : Builtin.Slice.sliceAdjust none none (-1) (n : Int) = ((n : Int) - 1, -1) := by
  first
  | rfl
  | (unfold Builtin.Slice.sliceAdjust; simp)
theorem back_applied {sl : Addr} {t : Tok} {n : Nat} {Q : Int × Int × Nat → Shared → Prop} (hs : s.heap.IsSliceOf sl .none .none (.int (-1) t))
    (h : Q ((n : Int) - 1, -1, n) s) : wpAny (model prog w) A (Builtin.Slice.sliceApplied (.ref sl) (pure (n : Int))) Q E s := by
  obtain ⟨ob, hob, _, hfd⟩ := id hs
  unfold Builtin.Slice.sliceApplied Builtin.Slice.sliceFields
  refine wpAny_bind (wpAny_bind (wpAny_field hob hfd (x := .none) rfl (wpAny_bind (wpAny_field hob hfd (x := .none) rfl (wpAny_bind (wpAny_field hob hfd (x := .int (-1) t) rfl (wpAny_pure ?_)))))))
  refine wpAny_bind (HT.slicePart_ (.int (-1) t) ?_)
  show wpAny _ _ (if ((-1 : Int) == 0) = true then _ else _) _ _ s
  rw [if_neg (by decide)]
  refine wpAny_bind (HT.slicePart_ .none (wpAny_bind (HT.slicePart_ .none (wpAny_bind (wpAny_pure ?_)))))
  show wpAny _ _ (match Builtin.Slice.sliceAdjust none none (-1) (n : Int) with | (lo, hi) => pure (lo, (-1 : Int), Builtin.Slice.slicePlaces lo hi (-1))) _ _ s
  rw [back_adjust n]
  show wpAny _ _ (pure ((n : Int) - 1, (-1 : Int), Builtin.Slice.slicePlaces ((n : Int) - 1) (-1) (-1))) _ _ s
  rw [back_places]
  exact wpAny_pure h
theorem back_pick (xs : Array Value) : ((List.range xs.size).filterMap fun (m : Nat) => xs[(((xs.size : Int) - 1) + (m : Int) * (-1)).toNat]?).toArray = xs.toList.reverse.toArray := by
  have h : ((List.range xs.size).filterMap fun (m : Nat) => xs[(((xs.size : Int) - 1) + (m : Int) * (-1)).toNat]?) = xs.toList.reverse := by
    rw [← PySem.W.krv_all xs, ← List.filterMap_reverse, ← PySem.W.krv_range, List.filterMap_map]
    refine fm_congr _ fun m hm => ?_
    have := List.mem_range.mp hm
    show xs[(((xs.size : Int) - 1) + (m : Int) * (-1)).toNat]? = xs[xs.size - 1 - m]?
    rw [show (((xs.size : Int) - 1) + (m : Int) * (-1)).toNat = xs.size - 1 - m by omega]
  rw [h]
theorem back_tuple {t sl : Addr} {items : Array Value} {tk : Tok} {Q : Value → Shared → Prop} (ht : IsTup s.heap t items) (hs : s.heap.IsSliceOf sl .none .none (.int (-1) tk))
    (h : Q (.ref s.heap.objs.size) { s with heap := s.heap.push { cls := .type "tuple", data := .seq items.toList.reverse.toArray } }) (hsz : items.size ≤ sizeLine) : wpAny (model prog w) A (getItem (.ref t) (.ref sl)) Q E s := by
  have hfit : sizeOk (.seq items.toList.reverse.toArray) := by
    show items.toList.reverse.toArray.size ≤ sizeLine
    rw [List.size_toArray, List.length_reverse, Array.length_toList]
    exact hsz
  obtain ⟨ob, hob, hcb, _⟩ := id hs
  have hTs : s.TypeIs (.ref sl) "slice" := ⟨ob, hob, hcb⟩
  unfold getItem
  try with_reducible refine wpAny_holding ?_
  first | refine wpAny_bind (wpAny_pure ?_) | skip
  refine wpAny_bind (wpAny_sequenceKey ht.typeIs (by decide) (wpAny_bind (wpAny_callSpecial?_slot (name := Str.ofString "__getitem__") ht.typeIs PyProof.Rows.slot_tuple_getitem
    (wpAny_call_entry PyProof.Rows.slot_tuple_getitem ht.typeIs entry_tuple_getitem ?_ (args_tuple_getitem _ _)))))
  show wpAny _ _ (Builtin.Tuple.tupleItemsOf (.ref t) >>= _) _ _ s
  refine wpAny_bind (tupleItemsOf_ ht (wpAny_bind (wpAny_typeOf hTs ?_)))
  rw [if_pos (by decide)]
  refine wpAny_bind (back_applied hs ?_)
  have hno : ¬ ((((items.size : Int) - 1) == 0 && (-1 : Int) == 1 && items.size == items.size) = true) := by simp
  show wpAny _ _ (if (((items.size : Int) - 1) == 0 && (-1 : Int) == 1 && items.size == items.size) = true then _ else _) _ _ s
  rw [if_neg hno, back_pick]
  first
    | exact wpAny_bind (m := Builtin.Tuple.tupleExact _) (wpAny_newObj_type (wpAny_pure ⟨_, rfl, wpAny_pure h⟩) hfit)
    | exact wpAny_bind (m := Builtin.Tuple.tupleExact _) (wpAny_newObj_type (wpAny_bind (wpAny_pure (wpAny_pure ⟨_, rfl, wpAny_pure h⟩))) hfit)
    | exact wpAny_bind (wpAny_bind (m := Builtin.Tuple.tupleExact _) (wpAny_newObj_type (wpAny_pure (wpAny_pure ⟨_, rfl, wpAny_pure h⟩)) hfit))
    | exact wpAny_bind (wpAny_bind (m := Builtin.Tuple.tupleExact _) (wpAny_newObj_type (wpAny_pure ⟨_, rfl, wpAny_pure h⟩) hfit))
end
def fBack : D → Option D
  | .tuple xs => some (.tuple xs.reverse)
  | _ => none
def fBackL : D → Option (List D)
  | .list xs => some xs.reverse
  | _ => none
def op1o (f : D → Option (List D)) (m : M Rs) : M (List D) := bnd m fun r => fun g => match vl g r with
  | none => .bad
  | some x => match f x with
    | none => .bad
    | some z => .ok z g
section
variable {X : Cx} {e : Expr} {k : Nat} {p1 p2 p3 pos : Pos}
theorem dp_back {m : M Rs} (h : DV X e m) : DP X (.Subscript e (.Slice none none (some (.UnaryOp .USub (.Constant (.int 1) k p1) p2)) p3) pos) (op1 fBack m) := fun W tk => by
  refine ⟨fun pins s σ H Q I hq => Subscript_ (thn ((h W tk).run pins s σ H _ I (op1_run hq)) fun v s1 ⟨x, H1, I1, r1, G, dx, z, gh, rd, e, q⟩ => ?_)⟩
  have hst : PO X (some (.UnaryOp .USub (.Constant (.int 1) k p1) p2)) (tPart (tUn (rU fun i => .int (-i)) (tC (.int 1)))) := po_some (pe_un un_neg pe_int)
  refine wpAny_Slice (thn (po_none.run pins s1 σ H1 (fun o H2 => o = none ∧ H2 = H1) I1 ⟨rfl, rfl⟩) fun vl s2 ⟨l, H2, I2, pl, el, e2⟩ => ?_)
  subst el e2
  refine thn (po_none.run pins s2 σ H2 (fun o H3 => o = none ∧ H3 = H2) I2 ⟨rfl, rfl⟩) fun vu s3 ⟨u, H3, I3, pu, eu, e3⟩ => ?_
  subst eu e3
  refine thn (hst.run pins s3 σ H3 (fun o H4 => o = some (-1) ∧ H4 = H3) I3 ⟨1, rfl, -1, rfl, rfl, rfl⟩) fun vs s4 ⟨o, H4, I4, ps, eo, e4⟩ => ?_
  subst eo e4
  cases pl
  cases pu
  cases ps with
  | int i t =>
    have I5 : L2.Inv X pins σ H4 { s4 with heap := s4.heap.push { cls := .type "slice", data := .fields #[.none, .none, .int (-1) t] } } := I4.kept (t' := s4.toks) fun b ob q => Heap.get?_push_of_some _ q
    cases dx with
    | tuple xs =>
      cases e
      obtain ⟨a, ws, rfl, s1', d1⟩ := rd.tup gh
      cases r1
      obtain ⟨its, r, ht, hz⟩ := I5.tuple s1'.sq
      show wpAny (model X.prog X.w) X.A (subscriptTail e (.Slice none none (some (.UnaryOp .USub (.Constant (.int 1) k p1) p2)) p3) (.ref a) (.ref s4.heap.objs.size)) (EP X pins σ Q) X.xe { s4 with heap := s4.heap.push { cls := .type "slice", data := .fields #[.none, .none, .int (-1) t] } }
      refine tail_any (ops := [.ref a, .ref s4.heap.objs.size]) ht.typeIs PyProof.Rows.slot_tuple_getitem.lookup ?_ (by with_unfolding_all rfl)
      refine back_tuple ht (Heap.IsSliceOf.new ..) ?_ (by rw [List.size_toArray, ← r.length]; exact hz)
      have er : (its.toArray.toList.reverse.toArray) = its.reverse.toArray := by simp
      rw [er]
      refine tryNew I5 r.reverse (by rw [List.length_reverse]; exact hz) fun p o n ho => ?_
      have E := Ext.new (o := .frz o (.tup ws.reverse)) gh n
      exact q _ _ _ E (.tup (.new ho) (dpAll_mono E.g _ _ (dpa_reverse d1)))
    | _ => cases e
theorem do_backL {m : M Rs} (h : DV X e m) : DO X (.Subscript e (.Slice none none (some (.UnaryOp .USub (.Constant (.int 1) k p1) p2)) p3) pos) (op1o fBackL m) := fun W tk => by
  refine pe_imp (pe_revL (h W tk)) fun σ H Q q => ?_
  refine (zt_bnd (ρ := rhoR) q).imp fun v H1 ⟨r, F, G, Mu, Γ, R, h1, q2⟩ => ?_
  cases e1 : vl Γ r with
  | none => rw [e1] at q2; exact q2.elim
  | some x =>
    rw [e1] at q2
    cases x with
    | list xs =>
      obtain ⟨a, ws, rfl, s1', d1⟩ := (R.read h1 e1).list R.gh
      refine ⟨a, ws, rfl, s1', fun l n => ?_⟩
      obtain ⟨R', o⟩ := R.newO n (dpa_reverse d1)
      exact q2 _ _ G (Same.refl _) R' o
    | _ => exact q2.elim
end

section
variable {X : Cx} {o e : Expr} {apos cpos : Pos} {to : TE} {t : TA} {es : List Expr} {name : Str} {id : String} {r : V → List V → Hp → VK → Prop}
theorem tupN_is {pins : List (Addr × Obj)} {σ : St} {H : Hp} {s : Shared} {a : Addr} {xs : List V} (I : L2.Inv X pins σ H s) (h : TupN X.K H a xs) : s.TypeIs (.ref a) "tuple" ∧ ∀ b, Value.ref a = .ref b → ∃ ob, s.heap.get? b = some ob ∧ ob.dict = none := by
  refine ⟨let ⟨_, _, ht, _⟩ := I.tuple h.sq; ht.typeIs, fun b e => ?_⟩
  cases e
  rcases h with ⟨o, h, k⟩ | ⟨o, _, _, h, _, k, _⟩
  · obtain ⟨e, _⟩ := I.hok _ _ h
    exact ⟨o, e, k⟩
  · exact ⟨o, I.kIn _ _ h, k⟩
theorem pe_tm (pa : PlainAttrs "tuple") (slot : Slot "tuple" name id) (hty : typeOf (.builtin id) = pure (.type "method_descriptor")) (hm : MtR X id r) (ho : PE X o to) (ha : PA X (e :: es) t)
    (hbase : attributeBase o name X.env (eval o X.env) = eval o X.env := by rfl)
    (hfew : ((backTo cpos (starEach (e :: es) X.env)).all (fun x => !x.1) && (backToKw cpos (keywordEach [] X.env)).all (fun x => x.1.isSome)
      && decide ((e :: es).length + ([] : List Keyword).length + (if ([] : List Keyword).isEmpty then 0 else 1) < 30)) = true := by rfl)
    (hline : (apos.endLine == cpos.line) = true := by rfl) (hs : starEach (e :: es) X.env = (false, eval e X.env) :: starEach es X.env := by rfl) (hplain : (backTo cpos (starEach es X.env)).any (·.1) = false := by rfl) :
    PE X (.Call (.Attribute o name apos) (e :: es) [] cpos) (fun σ H Q => to σ H fun x H1 => (∃ a xs, x = .ref a ∧ TupN X.K H1 a xs) ∧ t σ H1 fun xs H2 => r x xs H2 Q) := by
  refine ⟨fun pins s σ H Q I h => wpAny_Call_method_late hbase hfew hline rfl (thn (ho.run pins s σ H _ I h) fun v s1 ⟨x, H1, I1, r1, ⟨a, xs, ex, tn⟩, q1⟩ => ?_)⟩
  subst ex
  cases r1
  obtain ⟨h1, h2⟩ := tupN_is I1 tn
  refine ⟨"tuple", id, pa, slot, hty, h1, h2, ?_⟩
  have hA := ha.run cpos pins s1 σ H1 _ I1 q1
  rw [hs] at hA ⊢
  refine Calls.callWith_builtin (by show (false || (backTo cpos (starEach es X.env)).any (·.1)) = false; rw [hplain] <;> rfl) (Calls.evalArgs_plain (thn hA fun us s2 ⟨vs, H2, I2, r2, q2⟩ => ?_))
  exact hm pins s2 σ H2 (.ref a) vs (.ref a) us Q I2 rfl r2 q2
def fIxT : D → D → Option D
  | .tuple xs, .int k => match toInts xs with
    | some ns => (ixOf k ns).map fun j => .int (j : Nat)
    | none => none
  | _, _ => none
/-- the receiver is looked at ahead of the argument -/
def dIndexT (m n : M Rs) : M D := bnd m fun r => fun g => match vl g r with
  | some (.tuple _) => op2 fIxT (rt r) n g
  | _ => .bad
theorem dp_indexT {m n : M Rs} (ho : DV X o m) (ha : DV X e n) (hbase : attributeBase o "index" X.env (eval o X.env) = eval o X.env := by rfl)
    (hfew : ((backTo cpos (starEach [e] X.env)).all (fun x => !x.1) && (backToKw cpos (keywordEach [] X.env)).all (fun x => x.1.isSome)
      && decide (([e] : List Expr).length + ([] : List Keyword).length + (if ([] : List Keyword).isEmpty then 0 else 1) < 30)) = true := by rfl)
    (hline : (apos.endLine == cpos.line) = true := by rfl) (hs : starEach [e] X.env = (false, eval e X.env) :: starEach [] X.env := by rfl) :
    DP X (.Call (.Attribute o "index" apos) [e] [] cpos) (dIndexT m n) := fun W tk => by
  refine pe_imp (pe_tm PySem.F.plainAttrs_tuple PySem.F.slot_tuple_index PySem.F.type_tuple_index mt_tup_indexI (ho W tk) (pa_cons (ha W tk) pa_nil hs) hbase hfew hline hs) fun σ H Q q => ?_
  refine (zt_bnd (ρ := rhoR) q).imp fun v H1 ⟨r, F, G, Mu, Γ, R, h1, q2⟩ => ?_
  split at q2
  · rename_i xs e1
    obtain ⟨a, ws, rfl, tn, d1⟩ := (R.read h1 e1).tup R.gh
    refine ⟨⟨a, ws, rfl, tn⟩, F, G, Mu, Γ, R, ?_⟩
    unfold op2 bnd rt at q2
    dsimp only at q2
    cases e2 : n Γ with
    | bad => rw [e2] at q2; exact q2
    | ex c x Γ1 => rw [e2] at q2; exact q2
    | ok s Γ1 =>
      rw [e2] at q2
      dsimp only at q2
      intro u H2 G2 k1 R2 k2
      cases e3 : vl Γ1 r with
      | none => rw [e3] at q2; exact q2.elim
      | some x =>
        rw [e3] at q2
        dsimp only at q2
        cases e4 : vl Γ1 s with
        | none => rw [e4] at q2; exact q2.elim
        | some y =>
          rw [e4] at q2
          dsimp only at q2
          cases e5 : fIxT x y with
          | none => rw [e5] at q2; exact q2.elim
          | some z =>
            rw [e5] at q2
            have rx := R2.read (stR _ _ _ _ _ _ _ _ _ _ _ _ _ _ k1 h1) e3
            have ry := R2.read k2 e4
            unfold fIxT at e5
            split at e5
            · split at e5
              · rename_i ns hn
                obtain ⟨j, hj, e6⟩ := Option.map_eq_some_iff.mp e5
                subst e6
                obtain ⟨a', ws', e7, tn', d'⟩ := rx.tup R2.gh
                cases e7
                rw [toInts_ok hn] at d'
                have e8 := dpa_ints' d'
                subst e8
                have e9 := ry.int
                subst e9
                exact ⟨a, ns, _, j, rfl, rfl, tn'.sq, hj, q2 _ H2 G2 k1 R2 (show rhoD _ _ _ _ _ _ _ (.int (j : Nat)) _ from .int _)⟩
              · cases e5
            · cases e5
  · exact q2.elim
end
end Z

set_option Elab.async false
set_option linter.all false
set_option maxRecDepth 100000
set_option autoImplicit false
set_option maxHeartbeats 1000000
namespace Z
open PySem PySem.Spec PyProof.Rows L2

def dMut (i : Nat) (f : List D → List D → Option (List D × D)) (m : M (List D)) : M D := fun g => match g[i]? with
  | some (.own _ _) => bnd m (fun args => fun g' => match g'[i]? with
    | some (.own b xs) => match f xs args with
      | some (ys, r) => .ok r (g'.set i (.own b ys))
      | none => .bad
    | _ => .bad) g
  | _ => .bad
def rMut (K : PySem.W.Frag) (f : List D → List D → Option (List D × D)) : V → List V → Hp → VK → Prop := fun x vs H Q => ∃ l us xs args ys r G, x = .ref l ∧ H l = some (.lst us) ∧ DqAll K G us xs ∧ DqAll K G vs args ∧ f xs args = some (ys, r) ∧ Same G H ∧
  ∀ us' v, DqAll K G us' ys → Dq K G v r → Q v (upd H l (.lst us'))
def mAppend (xs : List D) (as : List D) : Option (List D × D) := match as with
  | [y] => if xs.length < sizeLine then some (xs ++ [y], .none) else none
  | _ => none
def mInsert (xs : List D) (as : List D) : Option (List D × D) := match as with
  | [.int i, y] => if xs.length < sizeLine ∧ 0 ≤ i ∧ i < 2 ^ 63 then some (xs.take i.toNat ++ [y] ++ xs.drop i.toNat, .none) else none
  | _ => none
def mReverse (xs : List D) (as : List D) : Option (List D × D) := match as with
  | [] => some (xs.reverse, .none)
  | _ => none
theorem dpa_two {K : PySem.W.Frag} {G : Hp} {vs : List V} {x y : D} (h : DqAll K G vs [x, y]) : ∃ v u, vs = [v, u] ∧ Dq K G v x ∧ Dq K G u y := by
  cases h with
  | cons a b =>
    cases b with
    | cons c d =>
      cases d
      exact ⟨_, _, rfl, a, c⟩
theorem dpa_one {K : PySem.W.Frag} {G : Hp} {vs : List V} {x : D} (h : DqAll K G vs [x]) : ∃ v, vs = [v] ∧ Dq K G v x := by
  cases h with
  | cons a b =>
    cases b
    exact ⟨_, rfl, a⟩
section
variable {X : Cx}
theorem mr_append : MtR X "list.append" (rMut X.K mAppend) := by
  intro pins s σ H x vs v us Q I rx rv h
  obtain ⟨l, ws, xs, args, ys, r, G, rfl, hl, d1, d2, e, gh, q⟩ := h
  unfold mAppend at e
  split at e
  · split at e
    · rename_i hz
      cases e
      obtain ⟨w, rfl, d3⟩ := dpa_one d2
      refine mt_append pins s σ H _ _ v us Q I rx rv ⟨l, ws, w, rfl, rfl, hl, by rw [dpa_length d1]; exact hz, ?_⟩
      exact q _ _ (dpa_append d1 (.cons d3 .nil)) .non
    · cases e
  · cases e
theorem mr_insert : MtR X "list.insert" (rMut X.K mInsert) := by
  intro pins s σ H x vs v us Q I rx rv h
  obtain ⟨l, ws, xs, args, ys, r, G, rfl, hl, d1, d2, e, gh, q⟩ := h
  unfold mInsert at e
  split at e
  · split at e
    · rename_i hz
      cases e
      obtain ⟨w1, w2, rfl, d3, d4⟩ := dpa_two d2
      cases d3
      refine mt_insert pins s σ H _ _ v us Q I rx rv ⟨l, ws, _, w2, rfl, rfl, hl, by rw [dpa_length d1]; exact hz.1, hz.2.1, hz.2.2, ?_⟩
      exact q _ _ (dpa_append (dpa_append (dpa_take _ d1) (.cons d4 .nil)) (dpa_drop _ d1)) .non
    · cases e
  · cases e
theorem mr_reverse : MtR X "list.reverse" (rMut X.K mReverse) := by
  intro pins s σ H x vs v us Q I rx rv h
  obtain ⟨l, ws, xs, args, ys, r, G, rfl, hl, d1, d2, e, gh, q⟩ := h
  unfold mReverse at e
  split at e
  · cases e
    cases d2
    exact mt_reverse pins s σ H _ _ v us Q I rx rv ⟨l, ws, rfl, rfl, hl, q _ _ (dpa_reverse d1) .non⟩
  · cases e
end
section
variable {X : Cx} {e : Expr} {es : List Expr} {apos cpos p : Pos} {x name : Str} {id : String} {i : Nat} {f : List D → List D → Option (List D × D)}
theorem mut_end {W : WX} {σ : St} {F : Fr} {G H : Hp} {Mu : Option Addr} {Γ : En} {Q : VK} {args : List D} {vs : List V} {l : Addr} (R : Rel X.K F G Mu Γ σ H) (hv : DqAll X.K G vs args) (hl : σ[i]? = some (some (.ref l)))
    (q : zpost X W σ rhoD F G Mu Q (match Γ[i]? with
      | some (.own b xs) => match f xs args with
        | some (ys, r) => .ok r (Γ.set i (.own b ys))
        | none => .bad
      | _ => .bad)) : rMut X.K f (.ref l) vs H Q := by
  split at q
  · rename_i b xs hg
    split at q
    · rename_i ys r hf
      obtain ⟨l', us, h1, h2, h3, h4, h5, h6, h7, ho⟩ := R.owned hg
      rw [hl] at h1
      cases h1
      exact ⟨l, us, xs, args, ys, r, G, rfl, h2, h3, hv, hf, R.gh, fun us' v k1 k2 => q v _ G (Same.refl _) (R.change hg hl k1) k2⟩
    · exact q.elim
  · exact q.elim
theorem dp_mut {m : M (List D)} (hN : X.N[i]? = some x) (hv : Vis X.env.scope x) (slot : Slot "list" name id) (hty : typeOf (.builtin id) = pure (.type "method_descriptor")) (hm : MtR X id (rMut X.K f)) (ha : DPs X (e :: es) m)
    (hd : (x == ("__debug__" : Str)) = false := by decide) (hcd : (x == ("__classdict__" : Str)) = false := by decide)
    (hbase : attributeBase (.Name x p) name X.env (eval (.Name x p) X.env) = eval (.Name x p) X.env := by rfl)
    (hfew : ((backTo cpos (starEach (e :: es) X.env)).all (fun x => !x.1) && (backToKw cpos (keywordEach [] X.env)).all (fun x => x.1.isSome)
      && decide ((e :: es).length + ([] : List Keyword).length + (if ([] : List Keyword).isEmpty then 0 else 1) < 30)) = true := by rfl)
    (hline : (apos.endLine == cpos.line) = true := by rfl) (hs : starEach (e :: es) X.env = (false, eval e X.env) :: starEach es X.env := by rfl) (hplain : (backTo cpos (starEach es X.env)).any (·.1) = false := by rfl) :
    DP X (.Call (.Attribute (.Name x p) name apos) (e :: es) [] cpos) (dMut i f m) := fun W tk => by
  refine pe_imp (pe_bm PySem.F.plainAttrs_list slot hty hm (pe_var hN hv hd hcd) (ha W tk) hbase hfew hline hs hplain) fun σ H Q ⟨F, G, Mu, Γ, R, q⟩ => ?_
  unfold dMut at q
  split at q
  · rename_i b xs hg
    obtain ⟨l, us, h1, h2, h3, h4, h5, h6, h7, ho⟩ := R.owned hg
    refine ⟨_, h1, .inl ⟨rfl, us, .of h2⟩, F, G, Mu, Γ, R, ?_⟩
    unfold bnd at q
    dsimp only at q
    cases e1 : m Γ with
    | bad => rw [e1] at q; exact q
    | ex c y Γ1 => rw [e1] at q; exact q
    | ok args Γ1 =>
      rw [e1] at q
      intro vs H1 G1 k1 R1 k2
      exact mut_end (W := W) R1 k2 h1 (q.rebase k1)
  · exact q.elim
theorem dp_mut0 (hN : X.N[i]? = some x) (hv : Vis X.env.scope x) (slot : Slot "list" name id) (hty : typeOf (.builtin id) = pure (.type "method_descriptor")) (hm : MtR X id (rMut X.K f))
    (hd : (x == ("__debug__" : Str)) = false := by decide) (hcd : (x == ("__classdict__" : Str)) = false := by decide)
    (hbase : attributeBase (.Name x p) name X.env (eval (.Name x p) X.env) = eval (.Name x p) X.env := by rfl) (hline : (apos.endLine == cpos.line) = true := by rfl) :
    DP X (.Call (.Attribute (.Name x p) name apos) [] [] cpos) (dMut i f (rt [])) := fun W tk => by
  refine pe_imp (pe_bm0 PySem.F.plainAttrs_list slot hty hm (pe_var hN hv hd hcd) hbase hline) fun σ H Q ⟨F, G, Mu, Γ, R, q⟩ => ?_
  unfold dMut at q
  split at q
  · rename_i b xs hg
    obtain ⟨l, us, h1, h2, h3, h4, h5, h6, h7, ho⟩ := R.owned hg
    exact ⟨_, h1, .inl ⟨rfl, us, .of h2⟩, mut_end (W := W) R .nil h1 q⟩
  · exact q.elim
/-- xs.extend(a new list) -/
def mExtend (xs zs : List D) : Option (List D × D) := if xs.length + zs.length ≤ sizeLine then some (xs ++ zs, .none) else none
theorem dp_extend {m : M (List D)} (hN : X.N[i]? = some x) (hv : Vis X.env.scope x) (ha : DF X e m)
    (hd : (x == ("__debug__" : Str)) = false := by decide) (hcd : (x == ("__classdict__" : Str)) = false := by decide)
    (hbase : attributeBase (.Name x p) "extend" X.env (eval (.Name x p) X.env) = eval (.Name x p) X.env := by rfl)
    (hfew : ((backTo cpos (starEach [e] X.env)).all (fun x => !x.1) && (backToKw cpos (keywordEach [] X.env)).all (fun x => x.1.isSome)
      && decide (([e] : List Expr).length + ([] : List Keyword).length + (if ([] : List Keyword).isEmpty then 0 else 1) < 30)) = true := by rfl)
    (hline : (apos.endLine == cpos.line) = true := by rfl) (hs : starEach [e] X.env = (false, eval e X.env) :: starEach [] X.env := by rfl) :
    DP X (.Call (.Attribute (.Name x p) "extend" apos) [e] [] cpos) (dMut i mExtend m) := fun W tk => by
  refine pe_imp (pe_bm PySem.F.plainAttrs_list PySem.F.slot_list_extend PySem.F.type_list_extend mt_extend (pe_var hN hv hd hcd) (pa_cons (ha W tk) pa_nil hs) hbase hfew hline hs) fun σ H Q ⟨F, G, Mu, Γ, R, q⟩ => ?_
  unfold dMut at q
  split at q
  · rename_i b xs hg
    obtain ⟨l, us, h1, h2, h3, h4, h5, h6, h7, ho⟩ := R.owned hg
    refine ⟨_, h1, .inl ⟨rfl, us, .of h2⟩, F, G, Mu, Γ, R, ?_⟩
    unfold bnd at q
    dsimp only at q
    cases e1 : m Γ with
    | bad => rw [e1] at q; exact q
    | ex c y Γ1 => rw [e1] at q; exact q
    | ok zs Γ1 =>
      rw [e1] at q
      intro v H1 G1 k1 R1 ⟨b1, ws, ev, k2, k3⟩
      subst ev
      dsimp only at q
      split at q
      · rename_i b' xs' hg'
        split at q
        · rename_i ys r hf
          obtain ⟨l', us', j1, j2, j3, j4, j5, j6, j7, jo⟩ := R1.owned hg'
          rw [h1] at j1
          cases j1
          unfold mExtend at hf
          split at hf
          · rename_i hz
            cases hf
            refine ⟨l, b1, us', ws, rfl, rfl, j2, R1.gh _ _ k2, by rw [dpa_length j3, dpa_length k3]; exact hz, ?_⟩
            exact q _ _ G1 k1 (R1.change hg' h1 (dpa_append j3 k3)) (show rhoD _ _ _ _ _ _ _ .none .non from .non)
          · cases hf
        · exact q.elim
      · exact q.elim
  · exact q.elim
end
end Z

set_option Elab.async false
set_option linter.all false
set_option maxRecDepth 100000
set_option autoImplicit false
set_option maxHeartbeats 1000000
namespace Z
open PySem PySem.Spec PyProof.Rows L2

inductive Rt where
  | d (x : D)
  | own (xs : List D)
inductive Fl where
  | nx
  | rt (r : Rt)
  | bk
  | ct
def rhoT : Rho Rt V := fun K F G Mu Γ σ H r v => match r with
  | .d x => Dq K G v x
  | .own xs => rhoO K F G Mu Γ σ H xs v
def spost (X : Cx) (W : WX) (F : Fr) (G : Hp) (Mu : Option Addr) (D : Ends) (o : Ro Fl) : Prop := match o with
  | .bad => False
  | .ok .nx Γ' => ∀ σ' H' G', Same G G' → Rel X.K F G' Mu Γ' σ' H' → D.nx σ' H'
  | .ok (.rt r) Γ' => ∀ v σ' H' G', Same G G' → Rel X.K F G' Mu Γ' σ' H' → rhoT X.K F G' Mu Γ' σ' H' r v → D.rt v H'
  | .ok .bk Γ' => ∀ σ' H' G', Same G G' → Rel X.K F G' Mu Γ' σ' H' → D.bk σ' H'
  | .ok .ct Γ' => ∀ σ' H' G', Same G G' → Rel X.K F G' Mu Γ' σ' H' → D.ct σ' H'
  | .ex c x Γ' => ∀ C a v σ' H' G', X.mg c = some (.ref C) → Same G G' → Rel X.K F G' Mu Γ' σ' H' → H' a = some (.xd [("value", v)]) → Dq X.K G' v x → F.f a = none → Mu ≠ some a → W (.ref C) (some a) σ' H'
def st (X : Cx) (W : WX) (m : M Fl) : TS := fun D σ H => ∃ F G Mu Γ, Rel X.K F G Mu Γ σ H ∧ spost X W F G Mu D (m Γ)
def DS (X : Cx) (s : Stmt) (m : M Fl) : Prop := ∀ W, Takes X W → PS X s (st X W m)
def DSs (X : Cx) (ss : List Stmt) (m : M Fl) : Prop := ∀ W, Takes X W → PSs X ss (st X W m)
def dSeq (a b : M Fl) : M Fl := fun g => match a g with
  | .ok .nx g' => b g'
  | o => o
def sNx : M Fl := fun g => .ok .nx g
def sBk : M Fl := fun g => .ok .bk g
def sCt : M Fl := fun g => .ok .ct g
section
variable {X : Cx} {W : WX} {F : Fr} {G G' : Hp} {Mu : Option Addr} {D D' : Ends}
theorem spost.rebase {o : Ro Fl} (e : Same G G') (p : spost X W F G Mu D o) : spost X W F G' Mu D o := by
  cases o with
  | bad => exact p
  | ok r Γ' =>
    cases r with
    | nx => exact fun σ' H' G2 h => p σ' H' G2 (e.trans h)
    | rt r => exact fun v σ' H' G2 h => p v σ' H' G2 (e.trans h)
    | bk => exact fun σ' H' G2 h => p σ' H' G2 (e.trans h)
    | ct => exact fun σ' H' G2 h => p σ' H' G2 (e.trans h)
  | ex c x Γ' => exact fun C a v σ' H' G2 h1 h2 => p C a v σ' H' G2 h1 (e.trans h2)
end
section
variable {X : Cx} {s : Stmt} {ss : List Stmt} {e c : Expr} {pos : Pos}
theorem dss_nil : DSs X [] sNx := fun W _ => pss_imp pss_nil fun D σ H ⟨F, G, Mu, Γ, R, p⟩ => p σ H G (Same.refl _) R
theorem dss_cons {m n : M Fl} (h : DS X s m) (k : DSs X ss n) : DSs X (s :: ss) (dSeq m n) := fun W tk => pss_imp (pss_cons (h W tk) (k W tk)) fun D σ H ⟨F, G, Mu, Γ, R, p⟩ => by
  refine ⟨F, G, Mu, Γ, R, ?_⟩
  unfold dSeq at p
  cases e1 : m Γ with
  | bad => rw [e1] at p; exact p
  | ex c x Γ' => rw [e1] at p; exact p
  | ok r Γ' =>
    rw [e1] at p
    cases r with
    | nx => exact fun σ' H' G' h R' => ⟨F, G', Mu, Γ', R', p.rebase h⟩
    | rt r => exact p
    | bk => exact p
    | ct => exact p
theorem dss_one {m : M Fl} (h : DS X s m) : DSs X [s] m := fun W tk => pss_one (h W tk)
theorem st_bnd {α β : Type} {ρ : Rho α β} {W : WX} {σ : St} {H : Hp} {D : Ends} {m : M α} {f : α → M Fl} (p : st X W (bnd m f) D σ H) : zt X W ρ m σ H fun v H1 => ∃ r F G Mu Γ, Rel X.K F G Mu Γ σ H1 ∧ ρ X.K F G Mu Γ σ H1 r v ∧ spost X W F G Mu D (f r Γ) := by
  obtain ⟨F, G, Mu, Γ, R, q⟩ := p
  refine ⟨F, G, Mu, Γ, R, ?_⟩
  unfold bnd at q
  cases e : m Γ with
  | bad => rw [e] at q; exact q
  | ok r Γ1 =>
    rw [e] at q
    exact fun v H1 G1 h1 R1 h2 => ⟨r, F, G1, Mu, Γ1, R1, h2, q.rebase h1⟩
  | ex c x Γ1 =>
    rw [e] at q
    exact fun C a v H' G' => q C a v σ H' G'
def sExpr (m : M D) : M Fl := bnd m fun _ => sNx
def sRet (m : M D) : M Fl := bnd m fun x => fun g => .ok (.rt (.d x)) g
def sRetO (m : M (List D)) : M Fl := bnd m fun x => fun g => .ok (.rt (.own x)) g
def sRetN : M Fl := fun g => .ok (.rt (.d .none)) g
def sSet (i : Nat) (m : M D) : M Fl := bnd m fun x => fun g => .ok .nx (g.set i (.d x))
def sSetO (i : Nat) (m : M (List D)) : M Fl := bnd m fun x => fun g => .ok .nx (g.set i (.own false x))
def sIf (t : M Bool) (a b : M Fl) : M Fl := bnd t fun k => if k = true then a else b
theorem ds_expr {m : M D} (h : DP X e m) (hs : swapsWith e none pos.line X.env = pure false := by rfl) : DS X (.Expr e pos) (sExpr m) := fun W tk => ps_imp (ps_expr (h W tk) hs) fun D σ H p =>
  (st_bnd (ρ := rhoD) p).imp fun v H1 ⟨r, F, G, Mu, Γ, R, _, q⟩ => q σ H1 G (Same.refl _) R
theorem ds_ret {m : M D} (h : DP X e m) : DS X (.Return (some e) pos) (sRet m) := fun W tk => ps_imp (ps_ret (h W tk)) fun D σ H p =>
  (st_bnd (ρ := rhoD) p).imp fun v H1 ⟨r, F, G, Mu, Γ, R, h1, q⟩ => q v σ H1 G (Same.refl _) R h1
theorem ds_retO {m : M (List D)} (h : DO X e m) : DS X (.Return (some e) pos) (sRetO m) := fun W tk => ps_imp (ps_ret (h W tk)) fun D σ H p =>
  (st_bnd (ρ := rhoO) p).imp fun v H1 ⟨r, F, G, Mu, Γ, R, h1, q⟩ => q v σ H1 G (Same.refl _) R h1
/-- return of a name that holds a list of one's own: it is the caller's -/
def sRetV (i : Nat) : M Fl := fun g => match g[i]? with
  | some (.own false xs) => .ok (.rt (.own xs)) (g.set i .u)
  | some (.d x) => .ok (.rt (.d x)) g
  | _ => .bad
theorem ds_retV {i : Nat} {x : Str} {p : Pos} (hN : X.N[i]? = some x) (hv : Vis X.env.scope x) (hd : (x == ("__debug__" : Str)) = false := by decide) (hcd : (x == ("__classdict__" : Str)) = false := by decide) : DS X (.Return (some (.Name x p)) pos) (sRetV i) := fun W _ =>
  ps_imp (ps_ret (pe_var hN hv hd hcd)) fun D σ H ⟨F, G, Mu, Γ, R, q⟩ => by
    unfold sRetV at q
    split at q
    · rename_i xs hg
      obtain ⟨l, us, h1, h2, h3, h4, h5, h6, h7, ho⟩ := R.owned hg
      have e : σ.set i (σ[i]?.join) = σ := by
        rw [h1]
        exact List.ext_getElem? fun j => by
          by_cases hj : i = j
          · subst hj
            have hi := (List.getElem?_eq_some_iff.mp h1).1
            rw [List.getElem?_set_self hi, h1]
            rfl
          · rw [List.getElem?_set_ne hj]
      have R' := R.forget i (o := σ[i]?.join)
      rw [e] at R'
      refine ⟨_, h1, q _ σ H G (Same.refl _) R' ⟨l, us, rfl, h2, h3, h4, h5, h7 rfl, fun j hj => ?_⟩⟩
      obtain ⟨k1, k2⟩ := owns_set hj rfl
      exact k2 (R.sep j i l k1 ho)
    · rename_i y hg
      obtain ⟨v, h1, h2⟩ := R.data hg
      exact ⟨v, h1, q v σ H G (Same.refl _) R h2⟩
    · exact q.elim
theorem ds_if {t : M Bool} {m n : M Fl} {a b : List Stmt} (hc : DT X c t) (ha : DSs X a m) (hb : DSs X b n) : DS X (.If c a b pos) (sIf t m n) := fun W tk => ps_imp (ps_if (hc W tk) (ha W tk) (hb W tk)) fun D σ H p =>
  (st_bnd (ρ := rhoB) p).imp fun v H1 ⟨r, F, G, Mu, Γ, R, h1, q⟩ => by
    have e0 : r = v := h1
    subst e0
    cases r with
    | true => exact ⟨F, G, Mu, Γ, R, q⟩
    | false => exact ⟨F, G, Mu, Γ, R, q⟩
variable {i : Nat} {x : Str} {pos' : Pos}
theorem ds_set {m : M D} (hN : X.N.Nodup) (hi : X.N[i]? = some x) (hx : Loc X.env.scope x) (h : DP X e m) (hs : swapsWith e (some (.Name x pos')) pos.line X.env = pure false := by rfl)
    (hf : X.fn x = true ∨ X.env.scope.names.lookup x = some .local := by first | exact .inl rfl | exact .inr rfl | assumption) : DS X (.Assign [.Name x pos'] e pos) (sSet i m) := fun W tk =>
  ps_imp (ps_set hN hi hx (h W tk) hs hf) fun D σ H p => (st_bnd (ρ := rhoD) p).imp fun v H1 ⟨r, F, G, Mu, Γ, R, h1, q⟩ =>
    q _ H1 G (Same.refl _) (R.store (sv := .d r) ⟨v, rfl, h1⟩ fun z => nomatch z)
theorem Rel.storeO {K : PySem.W.Frag} {F : Fr} {G H : Hp} {Mu : Option Addr} {Γ : En} {σ : St} {xs : List Z.D} {v : V} (R : Rel K F G Mu Γ σ H) (h : rhoO K F G Mu Γ σ H xs v) (i : Nat) : Rel K F G Mu (Γ.set i (.own false xs)) (σ.set i (some v)) H := by
  obtain ⟨l, vs, rfl, h1, h2, h3, h4, h5, h6⟩ := h
  exact R.store (sv := .own false xs) ⟨l, vs, rfl, h1, h2, h3, h4, (fun z => nomatch z), fun _ => h5⟩ fun _ j l' e ho => by
    cases e
    exact absurd ho (h6 j)
theorem ds_setO {m : M (List Z.D)} (hN : X.N.Nodup) (hi : X.N[i]? = some x) (hx : Loc X.env.scope x) (h : DO X e m) (hs : swapsWith e (some (.Name x pos')) pos.line X.env = pure false := by rfl)
    (hf : X.fn x = true ∨ X.env.scope.names.lookup x = some .local := by first | exact .inl rfl | exact .inr rfl | assumption) : DS X (.Assign [.Name x pos'] e pos) (sSetO i m) := fun W tk =>
  ps_imp (ps_set hN hi hx (h W tk) hs hf) fun D σ H p => (st_bnd (ρ := rhoO) p).imp fun v H1 ⟨r, F, G, Mu, Γ, R, h1, q⟩ => q _ H1 G (Same.refl _) (R.storeO h1 i)
/-- xs[k] = v, xs a name's own list -/
def sSub (i : Nat) (m : M Z.D) (k : M Rs) : M Fl := bnd m fun y => fun g => match g[i]? with
  | some (.own _ _) => bnd k (fun s => fun g' => match g'[i]?, vl g' s with
    | some (.own b xs), some (.int n) => match ixN xs.length n with
      | some j => .ok .nx (g'.set i (.own b (xs.set j y)))
      | none => .bad
    | _, _ => .bad) g
  | _ => .bad
theorem ds_sub {m : M Z.D} {k : M Rs} {ix : Expr} {pn ps : Pos} (hi : X.N[i]? = some x) (hv : Vis X.env.scope x) (he : DP X e m) (hk : DV X ix k) (hd : (x == ("__debug__" : Str)) = false := by decide) (hcd : (x == ("__classdict__" : Str)) = false := by decide)
    (ha : ∀ v, assign (.Subscript (.Name x pn) ix ps) X.env v = (do
      let ov ← holding [v] (eval (.Name x pn) X.env)
      let iv ← holding [v, ov] (eval ix X.env)
      standAt ps
      holding [v, ov, iv] (setItem ov iv v)
      release [v, ov, iv] []) := by intro _; rfl) (hs : swapsWithSole [.Subscript (.Name x pn) ix ps] e pos.line X.env = pure false := by rfl) (hw : swappedStores [.Subscript (.Name x pn) ix ps] e X.env = pure none := by rfl)
    (h1 : (assignEach [.Subscript (.Name x pn) ix ps] X.env).map (·.2) = [assign (.Subscript (.Name x pn) ix ps) X.env] := by rfl) : DS X (.Assign [.Subscript (.Name x pn) ix ps] e pos) (sSub i m k) := fun W tk =>
  ps_imp (ps_asg (he W tk) (pg_sub (pe_var hi hv hd hcd) (hk W tk) set_list ha) hs hw h1) fun D σ H p => (st_bnd (ρ := rhoD) p).imp fun v H1 ⟨y, F, G, Mu, Γ, R, d1, q⟩ => by
    split at q
    · rename_i b xs hg
      obtain ⟨l, us, j1, j2, j3, j4, j5, j6, j7, jo⟩ := R.owned hg
      refine ⟨_, j1, F, G, Mu, Γ, R, ?_⟩
      unfold bnd at q
      cases e1 : k Γ with
      | bad => rw [e1] at q; exact q
      | ex c z Γ1 =>
        rw [e1] at q
        exact fun C a v H' G' => q C a v σ H' G'
      | ok s Γ1 =>
        rw [e1] at q
        intro u H2 G2 k1 R2 k2
        dsimp only at q
        split at q
        · rename_i b' xs' n hg' e2
          split at q
          · rename_i j hj
            obtain ⟨l', us', i1, i2, i3, i4, i5, i6, i7, io⟩ := R2.owned hg'
            rw [j1] at i1
            cases i1
            have e3 := (R2.read k2 e2).int
            subst e3
            refine ⟨l, us', n, j, rfl, rfl, i2, by rw [dpa_length i3]; exact hj, ?_⟩
            exact q σ _ G2 k1 (R2.change hg' j1 (dpa_set (dp_mono k1 _ _ d1) j i3))
          · exact q.elim
        · exact q.elim
    · exact q.elim
end
end Z

set_option Elab.async false
set_option linter.all false
set_option maxRecDepth 100000
set_option autoImplicit false
set_option maxHeartbeats 1000000
namespace Z
open PySem PySem.Spec PyProof.Rows L2

def Fr.lock (F : Fr) (l : Addr) (o : HO) (n : F l = none) : Fr where
  f := upd F.f l o
  a := F.a
  k := fun b => F.k b ∨ b = l
  af := F.af.trans (same_upd n)
  kf := fun b h => by
    rcases h with h | h
    · rw [upd_ne (fun z => F.kf b h (by rw [z]; exact n))]
      exact F.kf b h
    · rw [h, upd_same]
      exact fun z => nomatch z
theorem Fr.lock_back {F : Fr} {l : Addr} {o : HO} {n : F l = none} {b : Addr} (q : (F.lock l o n).f b = none) : F.f b = none := by
  by_cases hb : b = l
  · rw [hb]
    exact n
  · rw [show (F.lock l o n).f b = F.f b from upd_ne hb] at q
    exact q
section
variable {K : PySem.W.Frag} {F : Fr} {G H H' G' : Hp} {Mu : Option Addr} {Γ : En} {σ : St} {l : Addr} {o : HO}
theorem Rel.lock (R : Rel K F G Mu Γ σ H) (n : F l = none) (h : H l = some o) (g : G l = none) (m : Mu ≠ some l) (ow : ∀ i, ¬ Owns Γ σ i l) : Rel K (F.lock l o n) G Mu Γ σ H where
  fh := fun b x q => by
    by_cases hb : b = l
    · subst hb
      rw [show (F.lock b o n).f b = some o from upd_same] at q
      rw [h]
      exact q
    · rw [show (F.lock l o n).f b = F.f b from upd_ne hb] at q
      exact R.fh b x q
  lk := fun b q => by
    rcases q with q | q
    · exact R.lk b q
    · rw [q]
      exact g
  gh := R.gh
  mu := fun b q => by
    obtain ⟨h1, h2, h3⟩ := R.mu b q
    have hne : b ≠ l := fun z => m (by rw [q, z])
    exact ⟨(upd_ne hne).trans h1, h2, h3⟩
  len := R.len
  sl := fun i sv q => by
    have p := R.sl i sv q
    cases sv with
    | u => exact p
    | d x => exact p
    | a xs => exact p
    | own b xs =>
      obtain ⟨l', vs, p1, p2, p3, p4, p5, p6, p7⟩ := p
      have hne : l' ≠ l := fun z => ow i (by rw [← z]; exact ⟨_, q, rfl, join_some p1⟩)
      exact ⟨l', vs, p1, p2, p3, (upd_ne hne).trans p4, p5, p6, p7⟩
    | dk ds =>
      obtain ⟨l', es, p1, p2, p3, p4, p5, p6⟩ := p
      have hne : l' ≠ l := fun z => ow i (by rw [← z]; exact ⟨_, q, rfl, join_some p1⟩)
      exact ⟨l', es, p1, p2, p3, (upd_ne hne).trans p4, p5, p6⟩
  sep := R.sep
theorem Rel.unlock {n : F l = none} (R : Rel K (F.lock l o n) G Mu Γ σ H) : Rel K F G Mu Γ σ H ∧ H l = some o ∧ G l = none ∧ Mu ≠ some l ∧ ∀ i, ¬ Owns Γ σ i l := by
  have back : ∀ b, (F.lock l o n) b = none → F b = none := fun b q => by
    by_cases hb : b = l
    · rw [hb]
      exact n
    · rw [show (F.lock l o n) b = F.f b from upd_ne hb] at q
      exact q
  have at_l : (F.lock l o n) l = some o := upd_same
  refine ⟨⟨fun b x q => R.fh b x (same_upd n b x q), fun b q => R.lk b (.inl q), R.gh, fun b q => ⟨back b (R.mu b q).1, (R.mu b q).2⟩, R.len, fun i sv q => ?_, R.sep⟩, R.fh _ _ at_l, R.lk l (.inr rfl), fun q => ?_, fun i q => ?_⟩
  · have p := R.sl i sv q
    cases sv with
    | u => exact p
    | d x => exact p
    | a xs => exact p
    | own b xs =>
      obtain ⟨l', vs, p1, p2, p3, p4, p5, p6, p7⟩ := p
      exact ⟨l', vs, p1, p2, p3, back l' p4, p5, p6, p7⟩
    | dk ds =>
      obtain ⟨l', es, p1, p2, p3, p4, p5, p6⟩ := p
      exact ⟨l', es, p1, p2, p3, back l' p4, p5, p6⟩
  · have := (R.mu l q).1
    rw [at_l] at this
    cases this
  · have := (R.there q).1
    rw [at_l] at this
    cases this
end

def Apart (l : V) : List Rt → List V → Prop
  | [], _ => True
  | .d _ :: rs, vs => Apart l rs vs.tail
  | .own _ :: rs, vs => vs.head? ≠ some l ∧ Apart l rs vs.tail
def RtAll (K : PySem.W.Frag) (F : Fr) (G : Hp) (Mu : Option Addr) (Γ : En) (σ : St) (H : Hp) : List Rt → List V → Prop
  | [], vs => vs = []
  | .d x :: rs, vs => ∃ v us, vs = v :: us ∧ Dq K G v x ∧ RtAll K F G Mu Γ σ H rs us
  | .own xs :: rs, vs => ∃ v us, vs = v :: us ∧ rhoO K F G Mu Γ σ H xs v ∧ Apart v rs us ∧ RtAll K F G Mu Γ σ H rs us
def rhoMs : Rho (List Rt) (List V) := fun K F G Mu Γ σ H rs vs => RtAll K F G Mu Γ σ H rs vs
def DMs (X : Cx) (es : List Expr) (m : M (List Rt)) : Prop := ∀ W, Takes X W → PA X es (zt X W rhoMs m)
def msNil : M (List Rt) := rt []
def msD (m : M D) (n : M (List Rt)) : M (List Rt) := bnd m fun x => bnd n fun xs => rt (.d x :: xs)
def msO (m : M (List D)) (n : M (List Rt)) : M (List Rt) := bnd m fun x => bnd n fun xs => rt (.own x :: xs)
section
variable {K : PySem.W.Frag} {F : Fr} {G H H' G' : Hp} {Mu : Option Addr} {Γ : En} {σ : St} {l : Addr} {o : HO} {n : F l = none}
theorem rtAll_unlock : ∀ {rs : List Rt} {vs : List V}, RtAll K (F.lock l o n) G Mu Γ σ H rs vs → RtAll K F G Mu Γ σ H rs vs ∧ Apart (.ref l) rs vs
  | [], _, h => ⟨h, trivial⟩
  | .d x :: rs, _, h => by
    obtain ⟨v, us, rfl, h1, h2⟩ := h
    obtain ⟨k1, k2⟩ := rtAll_unlock h2
    exact ⟨⟨v, us, rfl, h1, k1⟩, k2⟩
  | .own x :: rs, _, h => by
    obtain ⟨v, us, rfl, h1, h2, h3⟩ := h
    obtain ⟨k1, k2⟩ := rtAll_unlock h3
    obtain ⟨l', ws, rfl, p1, p2, p3, p4, p5, p6⟩ := h1
    have hne : l' ≠ l := fun z => by
      rw [show (F.lock l o n) l' = upd F.f l o l' from rfl, z, upd_same] at p3
      cases p3
    exact ⟨⟨_, us, rfl, ⟨l', ws, rfl, p1, p2, by rw [show (F.lock l o n) l' = F.f l' from upd_ne hne] at p3; exact p3, p4, p5, p6⟩, h2, k1⟩, fun z => hne (by injection z with z; injection z), k2⟩
end
section
variable {X : Cx} {e : Expr} {es : List Expr} {pos : Pos}
theorem dms_nil : DMs X [] msNil := fun W _ => pa_imp pa_nil fun σ H Q ⟨F, G, Mu, Γ, R, p⟩ => zpost_ok R (show rhoMs _ _ _ _ _ _ _ [] [] from rfl) p
theorem dms_d {m : M D} {n : M (List Rt)} (h : DP X e m) (k : DMs X es n) (hs : starEach (e :: es) X.env = (false, eval e X.env) :: starEach es X.env := by rfl) : DMs X (e :: es) (msD m n) := fun W tk => by
  refine pa_imp (pa_cons (h W tk) (k W tk) hs) fun σ H Q p => ?_
  refine (zt_bnd2 (ρ := rhoD) (ρ' := rhoMs) stD p).imp fun v H1 q => q.imp fun vs H2 ⟨x, xs, F, G, Mu, Γ, R, h1, h2, q2⟩ => ?_
  exact zpost_ok R (show rhoMs _ _ _ _ _ _ _ (.d x :: xs) (v :: vs) from ⟨v, vs, rfl, h1, h2⟩) q2
theorem dms_o {m : M (List D)} {n : M (List Rt)} (h : DO X e m) (k : DMs X es n) (hs : starEach (e :: es) X.env = (false, eval e X.env) :: starEach es X.env := by rfl) : DMs X (e :: es) (msO m n) := fun W tk => by
  refine pa_imp (pa_cons (h W tk) (k W tk) hs) fun σ H Q p => ?_
  refine (zt_bnd (ρ := rhoO) p).imp fun v H1 ⟨xs, F, G, Mu, Γ, R, ⟨l, us, ev, o1, o2, o3, o4, o5, o6⟩, q⟩ => ?_
  subst ev
  refine ⟨F.lock l _ o3, G, Mu, Γ, R.lock o3 o1 o4 o5 o6, ?_⟩
  unfold bnd at q
  cases e1 : n Γ with
  | bad => rw [e1] at q; exact q
  | ex c x Γ1 =>
    rw [e1] at q
    exact fun C a v H' G' w1 w2 w3 w4 w5 w6 => q C a v H' G' w1 w2 w3.unlock.1 w4 w5 (Fr.lock_back w6)
  | ok rs Γ1 =>
    rw [e1] at q
    intro vs H2 G2 k1 R2 k2
    obtain ⟨R3, j1, j2, j3, j4⟩ := R2.unlock
    obtain ⟨a1, a2⟩ := rtAll_unlock k2
    exact q (.ref l :: vs) H2 G2 k1 R3 ⟨.ref l, vs, rfl, ⟨l, us, rfl, j1, dpAll_mono k1 _ _ o2, o3, j2, j3, j4⟩, a2, a1⟩
end

def setRs : List Nat → List Rt → En → Option En
  | [], [], g => some g
  | i :: is, .d x :: rs, g => setRs is rs (g.set i (.d x))
  | i :: is, .own xs :: rs, g => setRs is rs (g.set i (.own false xs))
  | _, _, _ => none
def stV : List Nat → List V → St → St
  | i :: is, v :: vs, σ => stV is vs (σ.set i (some v))
  | _, _, σ => σ
section
variable {K : PySem.W.Frag} {F : Fr} {G H : Hp} {Mu : Option Addr}
theorem rhoO_set {Γ : En} {σ : St} {xs : List D} {v w : V} {i : Nat} {sv : SV} (h : rhoO K F G Mu Γ σ H xs w) (hn : sv.ow = false ∨ v ≠ w) : rhoO K F G Mu (Γ.set i sv) (σ.set i (some v)) H xs w := by
  obtain ⟨l, us, rfl, h1, h2, h3, h4, h5, h6⟩ := h
  refine ⟨l, us, rfl, h1, h2, h3, h4, h5, fun j hj => ?_⟩
  obtain ⟨m, k1, ys, k2⟩ := hj
  by_cases e : j = i
  · subst e
    have hj1 : j < Γ.length := by
      have := (List.getElem?_eq_some_iff.mp k1).1
      simpa using this
    have hj2 : j < σ.length := by
      have := (List.getElem?_eq_some_iff.mp k2).1
      simpa using this
    rw [List.getElem?_set_self hj1] at k1
    rw [List.getElem?_set_self hj2] at k2
    cases k1
    cases k2
    rcases hn with hn | hn
    · rw [hn] at ys
      cases ys
    · exact hn rfl
  · rw [List.getElem?_set_ne (Ne.symm e)] at k1 k2
    exact h6 j ⟨m, k1, ys, k2⟩
theorem rtAll_set {Γ : En} {σ : St} {v : V} {i : Nat} {sv : SV} : ∀ {rs : List Rt} {vs : List V}, RtAll K F G Mu Γ σ H rs vs → (sv.ow = false ∨ Apart v rs vs) → RtAll K F G Mu (Γ.set i sv) (σ.set i (some v)) H rs vs
  | [], _, h, _ => h
  | .d x :: rs, _, h, hn => by
    obtain ⟨w, us, rfl, h1, h2⟩ := h
    exact ⟨w, us, rfl, h1, rtAll_set h2 hn⟩
  | .own x :: rs, _, h, hn => by
    obtain ⟨w, us, rfl, h1, h2, h3⟩ := h
    refine ⟨w, us, rfl, rhoO_set h1 (hn.imp id fun z e => z.1 (by rw [e]; rfl)), h2, rtAll_set h3 (hn.imp id fun z => z.2)⟩
theorem Rel.setRs : ∀ {is : List Nat} {rs : List Rt} {vs : List V} {Γ Γ' : En} {σ : St}, Rel K F G Mu Γ σ H → RtAll K F G Mu Γ σ H rs vs → Z.setRs is rs Γ = some Γ' → Rel K F G Mu Γ' (stV is vs σ) H ∧ vs.length = is.length
  | [], [], vs, _, _, _, R, h, e => by
    cases (show vs = [] from h)
    cases e
    exact ⟨R, rfl⟩
  | i :: is, .d x :: rs, _, _, _, _, R, h, e => by
    obtain ⟨w, us, rfl, h1, h2⟩ := h
    have := Rel.setRs (is := is) (R.store (i := i) (sv := .d x) ⟨w, rfl, h1⟩ fun z => nomatch z) (rtAll_set h2 (.inl rfl)) e
    exact ⟨this.1, by rw [List.length_cons, List.length_cons, this.2]⟩
  | i :: is, .own x :: rs, _, _, _, _, R, h, e => by
    obtain ⟨w, us, rfl, h1, h2, h3⟩ := h
    have := Rel.setRs (is := is) (R.storeO h1 i) (rtAll_set h3 (.inr h2)) e
    exact ⟨this.1, by rw [List.length_cons, List.length_cons, this.2]⟩
  | [], _ :: _, _, _, _, _, _, _, e => by cases e
  | _ :: _, [], _, _, _, _, _, _, e => by cases e
end
def sPar (is : List Nat) (m : M (List Rt)) : M Fl := bnd m fun rs => fun g => match setRs is rs g with
  | some g' => .ok .nx g'
  | none => .bad
section
variable {X : Cx} {pos : Pos}
theorem par_end {W : WX} {D : Ends} {σ : St} {H : Hp} {is : List Nat} {m : M (List Rt)} (p : st X W (sPar is m) D σ H) : zt X W rhoMs m σ H fun vs H1 => vs.length = is.length ∧ D.nx (stV is vs σ) H1 :=
  (st_bnd (ρ := rhoMs) p).imp fun v H1 ⟨r, F, G, Mu, Γ, R, h1, q⟩ => by
    split at q
    · rename_i g' e
      obtain ⟨R', hl⟩ := R.setRs h1 e
      exact ⟨hl, q _ H1 G (Same.refl _) R'⟩
    · exact q.elim
theorem ds_par {i j : Nat} {x y : Str} {a b : Expr} {px py pt : Pos} {kt k2 pt2} {m : M (List Rt)} (hc : X.calm = true) (hN : X.N.Nodup) (hi : X.N[i]? = some x) (hj : X.N[j]? = some y) (hij : i ≠ j)
    (hx : X.env.scope.names.lookup x = some .local) (hy : X.env.scope.names.lookup y = some .local) (ha : DMs X [a, b] m)
    (hw : swappedStores [.Tuple [.Name x px, .Name y py] kt pt] (.Tuple [a, b] k2 pt2) X.env = pure (some [x, y]) := by rfl)
    (hs : swapsWithSole [.Tuple [.Name x px, .Name y py] kt pt] (.Tuple [a, b] k2 pt2) pos.line X.env = pure false := by rfl) :
    DS X (.Assign [.Tuple [.Name x px, .Name y py] kt pt] (.Tuple [a, b] k2 pt2) pos) (sPar [i, j] m) := fun W tk =>
  ps_imp (ps_par hc hN hi hj hij hx hy (ha W tk) hw hs) fun D σ H p => (par_end p).imp fun vs H1 ⟨hl, q⟩ => by
    match vs, hl, q with
    | [v, w], _, q => exact ⟨v, w, rfl, q⟩
end

inductive Tg where
  | nm (i : Nat)
  | tup (ts : List Tg)
mutual
def setT : Tg → D → En → Option En
  | .nm i, x, g => some (g.set i (.d x))
  | .tup ts, .tuple xs, g => setTs ts xs g
  | .tup ts, .list xs, g => setTs ts xs g
  | .tup _, _, _ => none
def setTs : List Tg → List D → En → Option En
  | [], [], g => some g
  | t :: ts, x :: xs, g => match setT t x g with
    | some g' => setTs ts xs g'
    | none => none
  | _, _, _ => none
end
mutual
def tgS : Tg → List Nat
  | .nm i => [i]
  | .tup ts => tgsS ts
def tgsS : List Tg → List Nat
  | [] => []
  | t :: ts => tgS t ++ tgsS ts
end
theorem setTs_len : ∀ {ts : List Tg} {xs : List D} {g g' : En}, setTs ts xs g = some g' → xs.length = ts.length
  | [], [], _, _, _ => rfl
  | [], _ :: _, _, _, e => by
    unfold setTs at e
    cases e
  | _ :: _, [], _, _, e => by
    unfold setTs at e
    cases e
  | t :: ts, x :: xs, _, _, e => by
    unfold setTs at e
    split at e
    · rw [List.length_cons, List.length_cons, setTs_len e]
    · cases e
/-- two states that are the same outside of some slots -/
def Off (is : List Nat) (σ σ' : St) : Prop := σ'.length = σ.length ∧ ∀ j, j ∉ is → σ'[j]? = σ[j]?
theorem Off.refl {is : List Nat} {σ : St} : Off is σ σ := ⟨rfl, fun _ _ => rfl⟩
theorem Off.trans {is js : List Nat} {σ σ' σ'' : St} (a : Off is σ σ') (b : Off js σ' σ'') : Off (is ++ js) σ σ'' := ⟨b.1.trans a.1, fun j hj => by
  rw [b.2 j (fun z => hj (List.mem_append_right _ z)), a.2 j (fun z => hj (List.mem_append_left _ z))]⟩
def zG (X : Cx) (t : Tg) : TG := fun v σ H Q => ∃ F G Mu Γ Γ' x, Rel X.K F G Mu Γ σ H ∧ Dq X.K G v x ∧ setT t x Γ = some Γ' ∧ ∀ σ', Rel X.K F G Mu Γ' σ' H → Off (tgS t) σ σ' → Q σ' H
def zGs (X : Cx) (ts : List Tg) : TGs := fun vs σ H Q => ∃ F G Mu Γ Γ' xs, Rel X.K F G Mu Γ σ H ∧ DqAll X.K G vs xs ∧ setTs ts xs Γ = some Γ' ∧ ∀ σ', Rel X.K F G Mu Γ' σ' H → Off (tgsS ts) σ σ' → Q σ' H
def DG (X : Cx) (e : Expr) (t : Tg) : Prop := PG X e (zG X t)
def DGs (X : Cx) (es : List Expr) (ts : List Tg) : Prop := PGs X es (zGs X ts)
theorem pg_imp {X : Cx} {e : Expr} {t t' : TG} (p : PG X e t) (h : ∀ v σ H Q, t' v σ H Q → t v σ H Q) : PG X e t' := ⟨fun pins s σ H v u Q I r q => p.run pins s σ H v u Q I r (h v σ H Q q)⟩
theorem pgs_imp {X : Cx} {es : List Expr} {t t' : TGs} (p : PGs X es t) (h : ∀ v σ H Q, t' v σ H Q → t v σ H Q) : PGs X es t' := ⟨fun pins s σ H v u Q I r q => p.run pins s σ H v u Q I r (h v σ H Q q)⟩
section
variable {X : Cx} {pos : Pos} {x : Str} {i : Nat} {e : Expr} {es : List Expr}
theorem dg_name (hN : X.N.Nodup) (hi : X.N[i]? = some x) (hx : Loc X.env.scope x) (hf : X.fn x = true ∨ X.env.scope.names.lookup x = some .local := by first | exact .inl rfl | exact .inr rfl | assumption) : DG X (.Name x pos) (.nm i) :=
  pg_imp (pg_name hN hi hx hf) fun v σ H Q ⟨F, G, Mu, Γ, Γ', y, R, h1, h2, q⟩ => by
    unfold setT at h2
    cases h2
    refine q _ (R.store (sv := .d y) ⟨v, rfl, h1⟩ fun z => nomatch z) ⟨by rw [List.length_set], fun j hj => ?_⟩
    unfold tgS at hj
    rw [List.getElem?_set_ne (fun z => hj (by rw [z]; exact List.mem_singleton_self _))]
theorem dgs_nil : DGs X [] [] := pgs_imp pgs_nil fun vs σ H Q ⟨F, G, Mu, Γ, Γ', ys, R, h1, h2, q⟩ => by
  cases ys with
  | nil =>
    unfold setTs at h2
    cases h2
    cases h1
    exact ⟨rfl, q _ R .refl⟩
  | cons y ys =>
    unfold setTs at h2
    cases h2
theorem dgs_cons {t : Tg} {ts : List Tg} (h : DG X e t) (k : DGs X es ts) (hs : (assignEach (e :: es) X.env).map (·.2) = assign e X.env :: (assignEach es X.env).map (·.2) := by rfl) : DGs X (e :: es) (t :: ts) :=
  pgs_imp (pgs_cons h k hs) fun vs σ H Q ⟨F, G, Mu, Γ, Γ', ys, R, h1, h2, q⟩ => by
    cases ys with
    | nil => cases h2
    | cons y ys =>
      cases h1 with
      | cons d1 d2 =>
        unfold setTs at h2
        split at h2
        · rename_i g' e1
          exact ⟨_, _, rfl, F, G, Mu, Γ, g', y, R, d1, e1, fun σ1 R1 o1 => ⟨F, G, Mu, g', Γ', ys, R1, d2, h2, fun σ2 R2 o2 => q σ2 R2 (by unfold tgsS; exact o1.trans o2)⟩⟩
        · cases h2
theorem dg_tup {k : Nat} {ts : List Tg} {n : Nat} (hc : X.calm = true) (h : DGs X es ts) (hn : (assignEach es X.env).length = n := by rfl) (hst : (assignEach es X.env).findIdx? (·.1) = none := by rfl) (hl : ts.length = n := by rfl) : DG X (.Tuple es k pos) (.tup ts) :=
  ⟨fun pins s σ H v u Q I r ⟨F, G, Mu, Γ, Γ', y, R, h1, h2, q⟩ => by
    cases y with
    | tuple ys =>
      unfold setT at h2
      cases h1 with
      | tup a b =>
        refine (pg_tup (k := k) (pos := pos) hc h hn hst).run pins s σ H _ u Q I r ⟨_, _, rfl, (a.mono R.gh).sq, ?_, F, G, Mu, Γ, Γ', ys, R, b, h2, fun σ' R' o => q σ' R' (by unfold tgS; exact o)⟩
        rw [dpa_length b, ← hl]
        exact setTs_len h2
    | list ys =>
      unfold setT at h2
      cases h1 with
      | lst a b =>
        refine (pg_lst (k := k) (pos := pos) hc h hn hst).run pins s σ H _ u Q I r ⟨_, _, rfl, R.gh.seq a, ?_, F, G, Mu, Γ, Γ', ys, R, b, h2, fun σ' R' o => q σ' R' (by unfold tgS; exact o)⟩
        rw [dpa_length b, ← hl]
        exact setTs_len h2
    | _ => cases h2⟩
end
end Z

set_option Elab.async false
set_option linter.all false
set_option maxRecDepth 100000
set_option autoImplicit false
set_option maxHeartbeats 1000000
namespace Z
open PySem PySem.Spec PyProof.Rows L2

def YV (b : Bool) (K : PySem.W.Frag) (G H : Hp) (v : V) (x : D) (H' : Hp) : Prop := match b with
  | false => H' = H ∧ Dq K G v x
  | true => ∃ T us ds, v = .ref T ∧ x = .tuple ds ∧ H T = none ∧ H' = upd H T (.tup us) ∧ DqAll K G us ds
def Src (b : Bool) (K : PySem.W.Frag) (F : Fr) (G : Hp) (J : It) (xs : List D) : Prop := Walk J xs.length (fun H => Same F.a H ∧ Same G H) (fun i H v H' => ∃ x, xs[i]? = some x ∧ YV b K G H v x H')
def rhoW (b : Bool) : Rho (List D) It := fun K F G _ _ _ _ xs J => Src b K F G J xs
def DI (b : Bool) (X : Cx) (tg e : Expr) (m : M (List D)) : Prop := ∀ W, Takes X W → PI X tg e (zt X W (rhoW b) m)
theorem pi_imp {X : Cx} {tg e : Expr} {t t' : TI} (p : PI X tg e t) (h : ∀ σ H Q, t' σ H Q → t σ H Q) : PI X tg e t' := ⟨fun pins s σ H Q I q => p.run pins s σ H Q I (h σ H Q q)⟩
theorem src_list {K : PySem.W.Frag} {F : Fr} {G : Hp} {l : Addr} {vs : List V} {xs : List D} (q : ∀ H, Same F.a H → Same G H → SqL K H l vs) (h : DqAll K G vs xs) : Src false K F G (Itl K l) xs := by
  have w := (walk_list (K := K) (a := l) (xs := vs)).mono (G' := fun H => Same F.a H ∧ Same G H) (Y' := fun i H v H' => ∃ x, xs[i]? = some x ∧ YV false K G H v x H') (fun H e => q H e.1 e.2) fun i H v H' hi _ y => by
    obtain ⟨x, h1, h2⟩ := dpa_get' h y.2
    exact ⟨x, h1, y.1, h2⟩
  rw [dpa_length h] at w
  exact w
theorem src_tup {K : PySem.W.Frag} {F : Fr} {G : Hp} {l : Addr} {vs : List V} {xs : List D} (q : ∀ H, Same F.a H → Same G H → SqT K H l vs) (h : DqAll K G vs xs) : Src false K F G (Itt K l) xs := by
  have w := (walk_tup (K := K) (a := l) (xs := vs)).mono (G' := fun H => Same F.a H ∧ Same G H) (Y' := fun i H v H' => ∃ x, xs[i]? = some x ∧ YV false K G H v x H') (fun H e => q H e.1 e.2) fun i H v H' hi _ y => by
    obtain ⟨x, h1, h2⟩ := dpa_get' h y.2
    exact ⟨x, h1, y.1, h2⟩
  rw [dpa_length h] at w
  exact w
/-- lo, lo + c, .. -/
def rngD (lo c : Int) (n : Nat) : List D := (List.range n).map fun (i : Nat) => .int (lo + (i : Int) * c)
theorem rngD_len {lo c : Int} {n : Nat} : (rngD lo c n).length = n := by simp [rngD]
theorem rngD_get {lo c : Int} {n i : Nat} (h : i < n) : (rngD lo c n)[i]? = some (.int (lo + (i : Int) * c)) := by simp [rngD, h]
theorem src_range {K : PySem.W.Frag} {F : Fr} {G : Hp} {lo : Int} {n : Nat} : Src false K F G (Itr lo n) (rngD lo 1 n) := by
  have w := (walk_range (lo := lo) (n := n)).mono (G' := fun H => Same F.a H ∧ Same G H) (Y' := fun i H v H' => ∃ x, (rngD lo 1 n)[i]? = some x ∧ YV false K G H v x H') (fun _ _ => trivial) fun i H v H' hi _ y =>
    ⟨_, rngD_get hi, y.1, by rw [y.2, Int.mul_one]; exact .int _⟩
  unfold Src
  rw [rngD_len]
  exact w
def iSq (K : PySem.W.Frag) (te : TE) : TI := fun σ H R => te σ H fun x H1 => ∃ a, x = .ref a ∧ ((∃ vs, SqL K H1 a vs ∧ R (Itl K a) H1) ∨ ∃ vs, SqT K H1 a vs ∧ R (Itt K a) H1)
theorem pi_sq {X : Cx} {tg e : Expr} {te : TE} (he : PE X e te) : PI X tg e (iSq X.K te) := by
  refine ⟨fun pins s σ H R I h => thn (he.run pins s σ H _ I h) fun v s1 ⟨x, H1, I1, r1, q1⟩ => ?_⟩
  obtain ⟨a, rfl, q⟩ := q1
  cases r1
  rcases q with ⟨vs, hq, q⟩ | ⟨vs, hq, q⟩
  · obtain ⟨its, _, p, _⟩ := I1.list hq
    exact wpAny_pyIter_list p.isList (pi_one (tk := s1.toks) I1 _ (turn_list a _) ⟨_, Heap.get?_push_size _ rfl, rfl, rfl⟩ q)
  · obtain ⟨its, _, p, _⟩ := I1.tuple hq
    exact wpAny_pyIter_tuple (show s1.heap.IsTuple a its.toArray from p) (pi_one (tk := s1.toks) I1 _ (turn_tuple a _) ⟨_, Heap.get?_push_size _ rfl, rfl, rfl⟩ q)
def seqD : D → Option (List D)
  | .list xs => some xs
  | .tuple xs => some xs
  | _ => none
def itR (r : Rs) : M (List D) := fun g => match r with
  | .d x => match seqD x with
    | some xs => .ok xs g
    | none => .bad
  | .sl i => match g[i]? with
    | some (.d x) => match seqD x with
      | some xs => .ok xs g
      | none => .bad
    | some (.a xs) => .ok xs g
    | some (.own false xs) => .ok xs (g.set i (.d (.list xs)))
    | _ => .bad
def iV (m : M Rs) : M (List D) := bnd m itR
theorem it_data {X : Cx} {W : WX} {σ : St} {F : Fr} {G H : Hp} {Mu : Option Addr} {Γ : En} {R : It → Hp → Prop} {v : V} {x : D} (Rl : Rel X.K F G Mu Γ σ H) (h : Dq X.K G v x) (q : zpost X W σ (rhoW false) F G Mu R (match seqD x with
      | some xs => .ok xs Γ
      | none => .bad)) : ∃ a, v = .ref a ∧ ((∃ vs, SqL X.K H a vs ∧ R (Itl X.K a) H) ∨ ∃ vs, SqT X.K H a vs ∧ R (Itt X.K a) H) := by
  cases h with
  | lst a b =>
    rename_i l vs xs
    exact ⟨l, rfl, .inl ⟨vs, Rl.gh.seq a, zpost_ok Rl (src_list (fun H' _ e => e.seq a) b) q⟩⟩
  | tup a b =>
    rename_i l vs xs
    exact ⟨l, rfl, .inr ⟨vs, (a.mono Rl.gh).sq, zpost_ok Rl (src_tup (fun H' _ e => (a.mono e).sq) b) q⟩⟩
  | _ => exact q.elim
theorem di_val {X : Cx} {tg e : Expr} {m : M Rs} (he : DV X e m) : DI false X tg e (iV m) := fun W tk =>
  pi_imp (pi_sq (he W tk)) fun σ H R p => (zt_bnd (ρ := rhoR) p).imp fun v H1 ⟨r, F, G, Mu, Γ, Rl, h1, q⟩ => by
    unfold itR at q
    cases r with
    | d x => exact it_data Rl h1 q
    | sl i =>
      have h1' : σ[i]? = some (some v) := h1
      dsimp only at q
      split at q
      · rename_i x g
        obtain ⟨u, k1, k2⟩ := Rl.data g
        rw [h1'] at k1
        cases k1
        exact it_data Rl k2 q
      · rename_i xs g
        obtain ⟨l, vs, k1, k2, k3⟩ := Rl.arg g
        rw [h1'] at k1
        cases k1
        exact ⟨l, rfl, .inl ⟨vs, (F.af.trans Rl.fh).seq k2, zpost_ok Rl (src_list (fun H' e _ => e.seq k2) k3) q⟩⟩
      · rename_i xs g
        obtain ⟨l, G', k1, R', k2, k3⟩ := Rl.freeze g
        rw [h1'] at k1
        cases k1
        cases k3 with
        | lst a b => exact ⟨l, rfl, .inl ⟨_, R'.gh.seq a, q _ H1 G' k2 R' (src_list (fun H' _ e => e.seq a) b)⟩⟩
      · exact q.elim
/-- a new list -/
def iO (m : M (List D)) : M (List D) := m
def rgLim (i : Int) : Prop := -(2 ^ 62) ≤ i ∧ i < 2 ^ 62
instance {i : Int} : Decidable (rgLim i) := by unfold rgLim; infer_instance
def iR1 (m : M (List Rs)) : M (List D) := bnd m fun rs => fun g => match vls g rs with
  | some [.int j] => if rgLim j then .ok (rngD 0 1 j.toNat) g else .bad
  | _ => .bad
def iR2 (m : M (List Rs)) : M (List D) := bnd m fun rs => fun g => match vls g rs with
  | some [.int i, .int j] => if rgLim i ∧ rgLim j then .ok (rngD i 1 (j - i).toNat) g else .bad
  | _ => .bad
def iR3 (m : M (List Rs)) : M (List D) := bnd m fun rs => fun g => match vls g rs with
  | some [.int i, .int j, .int c] => if rgLim i ∧ rgLim j ∧ c = -1 then .ok (rngD i (-1) (i - j).toNat) g else .bad
  | _ => .bad
section
variable {X : Cx} {tg a b c : Expr} {m : M (List Rs)} {p pos : Pos}
theorem di_range1 (hg : Gl X "range") (hm : X.mg "range" = none) (ha : DVs X [a] m) (hs : starEach [a] X.env = [(false, eval a X.env)] := by rfl) : DI false X tg (.Call (.Name "range" p) [a] [] pos) (iR1 m) := fun W tk =>
  pi_imp (pi_range1 hg hm (ha W tk) hs) fun σ H R q => (zt_bnd (ρ := rhoRs) q).imp fun vs H1 ⟨r, F, G, Mu, Γ, Rl, h1, q⟩ => by
    split at q
    · rename_i j e
      split at q
      · rename_i hj
        obtain ⟨v, rfl, h2⟩ := (Rl.reads h1 e).one
        cases h2.int
        exact ⟨j, rfl, hj.1, hj.2, zpost_ok Rl src_range q⟩
      · exact q.elim
    · exact q.elim
theorem di_range2 (hg : Gl X "range") (hm : X.mg "range" = none) (ha : DVs X [a, b] m) (hs : starEach [a, b] X.env = [(false, eval a X.env), (false, eval b X.env)] := by rfl) (hs2 : starEach [b] X.env = [(false, eval b X.env)] := by rfl) :
    DI false X tg (.Call (.Name "range" p) [a, b] [] pos) (iR2 m) := fun W tk =>
  pi_imp (pi_range2 hg hm (ha W tk) hs hs2) fun σ H R q => (zt_bnd (ρ := rhoRs) q).imp fun vs H1 ⟨r, F, G, Mu, Γ, Rl, h1, q⟩ => by
    split at q
    · rename_i i j e
      split at q
      · rename_i hj
        obtain ⟨v, u, rfl, h2, h3⟩ := (Rl.reads h1 e).two
        cases h2.int
        cases h3.int
        exact ⟨i, j, rfl, ⟨hj.1.1, hj.1.2, hj.2.1, hj.2.2⟩, zpost_ok Rl src_range q⟩
      · exact q.elim
    · exact q.elim
theorem RdbAll.three {K : PySem.W.Frag} {G H : Hp} {vs : List V} {x y z : D} (h : RdbAll K G H vs [x, y, z]) : ∃ v u w, vs = [v, u, w] ∧ Rdb K G H v x ∧ Rdb K G H u y ∧ Rdb K G H w z := by
  cases vs with
  | nil => cases (show [x, y, z] = [] from h)
  | cons v us =>
    obtain ⟨_, _, e, h1, h2⟩ := h
    cases e
    obtain ⟨u, w, rfl, h3, h4⟩ := RdbAll.two h2
    exact ⟨v, u, w, rfl, h1, h3, h4⟩
end

def zGb (b : Bool) (X : Cx) (t : Tg) : TG := fun v σ H Q => ∃ F G Mu Γ Γ' x H0, Rel X.K F G Mu Γ σ H0 ∧ YV b X.K G H0 v x H ∧ setT t x Γ = some Γ' ∧ ∀ σ', Rel X.K F G Mu Γ' σ' H → Off (tgS t) σ σ' → Q σ' H
def DGb (b : Bool) (X : Cx) (e : Expr) (t : Tg) : Prop := PG X e (zGb b X t)
section
variable {X : Cx} {pos : Pos} {e : Expr} {es : List Expr}
theorem dgb_any {t : Tg} (h : DG X e t) : DGb false X e t := pg_imp h fun v σ H Q ⟨F, G, Mu, Γ, Γ', x, H0, R, ⟨e1, d⟩, s, q⟩ => by
  subst e1
  exact ⟨F, G, Mu, Γ, Γ', x, R, d, s, q⟩
theorem dgb_tup {k : Nat} {ts : List Tg} {n : Nat} (hc : X.calm = true) (h : DGs X es ts) (hn : (assignEach es X.env).length = n := by rfl) (hst : (assignEach es X.env).findIdx? (·.1) = none := by rfl) (hl : ts.length = n := by rfl) : DGb true X (.Tuple es k pos) (.tup ts) :=
  pg_imp (pg_tup hc h hn hst) fun v σ H Q ⟨F, G, Mu, Γ, Γ', x, H0, R, ⟨T, us, ds, ev, ex, nT, eH, d⟩, s, q⟩ => by
    subst ev ex eH
    unfold setT at s
    exact ⟨T, us, rfl, .inl (.inl upd_same), by rw [dpa_length d, ← hl]; exact setTs_len s, F, G, Mu, Γ, Γ', ds, R.newX nT, d, s, fun σ' R' o => q σ' R' (by unfold tgS; exact o)⟩
end

def fgt : List Nat → En → En
  | [], g => g
  | i :: is, g => fgt is (g.set i .u)
theorem Rel.forget' {K : PySem.W.Frag} {F : Fr} {G H : Hp} {Mu : Option Addr} {Γ : En} {σ : St} (R : Rel K F G Mu Γ σ H) (i : Nat) : Rel K F G Mu (Γ.set i .u) σ H := by
  cases h : σ[i]? with
  | none =>
    have hl : Γ.length ≤ i := by rw [R.len]; exact List.getElem?_eq_none_iff.mp h
    rw [List.set_eq_of_length_le hl]
    exact R
  | some o =>
    have e : σ.set i o = σ := List.ext_getElem? fun j => by
      by_cases hj : i = j
      · subst hj
        have hi := (List.getElem?_eq_some_iff.mp h).1
        rw [List.getElem?_set_self hi, h]
      · rw [List.getElem?_set_ne hj]
    have R' := R.forget i (o := o)
    rw [e] at R'
    exact R'
theorem Rel.fgt {K : PySem.W.Frag} {F : Fr} {G H : Hp} {Mu : Option Addr} {σ : St} : ∀ {is : List Nat} {Γ : En}, Rel K F G Mu Γ σ H → Rel K F G Mu (Z.fgt is Γ) σ H
  | [], _, R => R
  | i :: is, _, R => Rel.fgt (is := is) (R.forget' i)
/-- a for over xs; ms: the slots that are of no more use behind a turn -/
def forG (t : Tg) (ms : List Nat) (b : M Fl) : List D → M Fl
  | [], g => .ok .nx (fgt ms g)
  | x :: xs, g => match setT t x g with
    | none => .bad
    | some g1 => match b g1 with
      | .ok .nx g2 => forG t ms b xs (fgt ms g2)
      | .ok .ct g2 => forG t ms b xs (fgt ms g2)
      | .ok .bk g2 => .ok .nx (fgt ms g2)
      | o => o
def sFor (t : Tg) (ms : List Nat) (mi : M (List D)) (b : M Fl) : M Fl := bnd mi fun xs => forG t ms b xs
theorem ds_for {X : Cx} {b : Bool} {tg iter : Expr} {body : List Stmt} {pos : Pos} {t : Tg} {mi : M (List D)} {mb : M Fl} (ms : List Nat) (hp : PassesOwn (model X.prog X.w) X.A X.env X.xe) (hc : X.calm = true) (hi : DI b X tg iter mi) (hg : DGb b X tg t) (hb : DSs X body mb)
    (hs : ∀ x, foldedSetIterable iter X.env x = pure x := by intro _; rfl) : DS X (.For tg iter body [] pos) (sFor t ms mi mb) := fun W tk =>
  ps_imp (ps_for hp hc (hi W tk) hg (hb W tk) hs) fun D σ H p => (st_bnd (ρ := rhoW b) p).imp fun J H1 ⟨xs, F, G, Mu, Γ, R, h1, q⟩ => by
    refine for_it h1 (fun i σ' H' => ∃ G' Γ', Same G G' ∧ Rel X.K F G' Mu Γ' σ' H' ∧ spost X W F G' Mu D (forG t ms mb (xs.drop i) Γ')) ⟨G, Γ, Same.refl _, R, q⟩
      (fun i σ' H' _ ⟨G', Γ', g, R', _⟩ => ⟨F.af.trans R'.fh, g.trans R'.gh⟩) (fun i v σ' H' H2 hi ⟨G', Γ', g, R', p'⟩ ⟨x, hx, y⟩ => ?_) fun σ' H' ⟨G', Γ', g, R', p'⟩ => ?_
    · have hd : xs.drop i = x :: xs.drop (i + 1) := by
        obtain ⟨hl, e⟩ := List.getElem?_eq_some_iff.mp hx
        rw [← e]
        exact List.drop_eq_getElem_cons hl
      rw [hd] at p'
      unfold forG at p'
      cases e1 : setT t x Γ' with
      | none => rw [e1] at p'; exact p'.elim
      | some g1 =>
        rw [e1] at p'
        dsimp only at p'
        have y' : YV b X.K G' H' v x H2 := by
          cases b with
          | false => exact ⟨y.1, dp_mono g _ _ y.2⟩
          | true =>
            obtain ⟨T, us, ds, a1, a2, a3, a4, a5⟩ := y
            exact ⟨T, us, ds, a1, a2, a3, a4, dpAll_mono g _ _ a5⟩
        refine ⟨F, G', Mu, Γ', g1, x, H', R', y', e1, fun σ2 R2 _ => ⟨F, G', Mu, g1, R2, ?_⟩⟩
        cases e2 : mb g1 with
        | bad => rw [e2] at p'; exact p'
        | ex c z Γ2 => rw [e2] at p'; exact p'
        | ok f Γ2 =>
          rw [e2] at p'
          cases f with
          | nx => exact fun σ3 H3 G3 k R3 => ⟨G3, _, g.trans k, R3.fgt, p'.rebase k⟩
          | ct => exact fun σ3 H3 G3 k R3 => ⟨G3, _, g.trans k, R3.fgt, p'.rebase k⟩
          | rt r => exact p'
          | bk => exact fun σ3 H3 G3 k R3 => p' σ3 H3 G3 k R3.fgt
    · rw [List.drop_length] at p'
      exact p' σ' H' G' (Same.refl _) R'.fgt
end Z

set_option Elab.async false
set_option linter.all false
set_option maxRecDepth 100000
set_option autoImplicit false
set_option maxHeartbeats 1000000
namespace Z
open PySem PySem.Spec PyProof.Rows L2

def wipG (g : En) : List Nat → En
  | [] => g
  | v :: vs => (wipG g vs).set v .u
def rstG (g g' : En) : List Nat → En
  | [] => g'
  | v :: vs => match g[v]? with
    | some sv => (rstG g g' vs).set v sv
    | none => rstG g g' vs
def noOwn (g : En) (vs : List Nat) : Bool := vs.all fun v => match g[v]? with
  | some (.own _ _) => false
  | some (.dk _) => false
  | _ => true
theorem noOwn_at {g : En} {vs : List Nat} {j : Nat} {sv : SV} (no : noOwn g vs = true) (hj : j ∈ vs) (e : g[j]? = some sv) : sv.ow = false := by
  have := List.all_eq_true.mp no j hj
  rw [e] at this
  cases sv with
  | own m xs => cases this
  | dk ds => cases this
  | u => rfl
  | d x => rfl
  | a xs => rfl
theorem wipG_len {g : En} : ∀ {vs : List Nat}, (wipG g vs).length = g.length
  | [] => rfl
  | v :: vs => by
    unfold wipG
    rw [List.length_set, wipG_len]
theorem rstG_len {g g' : En} : ∀ {vs : List Nat}, (rstG g g' vs).length = g'.length
  | [] => rfl
  | v :: vs => by
    unfold rstG
    split
    · rw [List.length_set, rstG_len]
    · exact rstG_len
theorem rstG_in {g g' : En} (hl : g'.length = g.length) {i : Nat} : ∀ {vs : List Nat}, i ∈ vs → (rstG g g' vs)[i]? = g[i]?
  | [], h => nomatch h
  | v :: vs, h => by
    unfold rstG
    by_cases e : v = i
    · subst e
      split
      · rename_i sv hv
        rw [List.getElem?_set_self (by rw [rstG_len, hl]; exact (List.getElem?_eq_some_iff.mp hv).1), hv]
      · rename_i hv
        rw [hv, List.getElem?_eq_none_iff, rstG_len, hl]
        exact List.getElem?_eq_none_iff.mp hv
    · have h2 : i ∈ vs := by
        rcases List.mem_cons.mp h with z | z
        · exact absurd z.symm e
        · exact z
      split
      · rw [List.getElem?_set_ne e]
        exact rstG_in hl h2
      · exact rstG_in hl h2
theorem rstG_out {g g' : En} {i : Nat} : ∀ {vs : List Nat}, i ∉ vs → (rstG g g' vs)[i]? = g'[i]?
  | [], _ => rfl
  | v :: vs, h => by
    have h1 : v ≠ i := fun e => h (by rw [e]; exact List.mem_cons_self)
    have h2 : i ∉ vs := fun m => h (List.mem_cons_of_mem _ m)
    unfold rstG
    split
    · rw [List.getElem?_set_ne h1]
      exact rstG_out h2
    · exact rstG_out h2
theorem wipe_in {σ : St} {i : Nat} : ∀ {vs : List Nat}, i ∈ vs → (wipe σ vs)[i]? = (σ[i]?).map fun _ => none
  | [], h => nomatch h
  | v :: vs, h => by
    unfold wipe
    by_cases e : v = i
    · subst e
      cases hv : σ[v]? with
      | none =>
        rw [Option.map_none, List.getElem?_eq_none_iff, List.length_set, wipe_length]
        exact List.getElem?_eq_none_iff.mp hv
      | some o =>
        rw [List.getElem?_set_self (by rw [wipe_length]; exact (List.getElem?_eq_some_iff.mp hv).1)]
        rfl
    · have h2 : i ∈ vs := by
        rcases List.mem_cons.mp h with z | z
        · exact absurd z.symm e
        · exact z
      rw [List.getElem?_set_ne e]
      exact wipe_in h2
theorem wipe_off {σ σ' : St} {is vs : List Nat} (h : Off is (wipe σ vs) σ') (hs : ∀ i ∈ is, i ∈ vs) : wipe σ' vs = wipe σ vs := List.ext_getElem? fun j => by
  by_cases hj : j ∈ vs
  · rw [wipe_in hj, wipe_in hj]
    have hl : σ'.length = σ.length := h.1.trans (wipe_length σ vs)
    cases e : σ[j]? with
    | none =>
      have : σ'[j]? = none := by
        rw [List.getElem?_eq_none_iff, hl]
        exact List.getElem?_eq_none_iff.mp e
      rw [this]
    | some o =>
      have hj2 : j < σ'.length := by
        rw [hl]
        exact (List.getElem?_eq_some_iff.mp e).1
      rw [List.getElem?_eq_getElem hj2]
      rfl
  · rw [wipe_out hj, wipe_out hj, h.2 j (fun z => hj (hs j z)), wipe_out hj]
section
variable {K : PySem.W.Frag} {F : Fr} {G H G' H' : Hp} {Mu : Option Addr} {Γ Γ' : En} {σ : St}
theorem Rel.wipe (R : Rel K F G Mu Γ σ H) : ∀ vs : List Nat, Rel K F G Mu (wipG Γ vs) (L2.wipe σ vs) H
  | [] => R
  | v :: vs => (Rel.wipe R vs).forget v
/-- back out of a block -/
theorem Rel.back {vs : List Nat} (R : Rel K F G Mu Γ σ H) (R' : Rel K F G' Mu Γ' (L2.wipe σ vs) H') (g : Same G G') (no : noOwn Γ vs = true) : Rel K F G' Mu (rstG Γ Γ' vs) σ H' := by
  have hl : Γ'.length = Γ.length := by rw [R'.len, R.len, wipe_length]
  have nin : ∀ {j : Nat} {sv : SV}, (rstG Γ Γ' vs)[j]? = some sv → sv.ow = true → j ∉ vs := fun {j sv} e ho hj => by
    rw [rstG_in hl hj] at e
    rw [noOwn_at no hj e] at ho
    cases ho
  have own' : ∀ {j : Nat} {l : Addr}, Owns (rstG Γ Γ' vs) σ j l → Owns Γ' (L2.wipe σ vs) j l := fun {j l} ⟨m, h1, xs, h2⟩ => by
    have hj := nin h1 xs
    exact ⟨m, by rw [← rstG_out hj]; exact h1, xs, by rw [wipe_out hj]; exact h2⟩
  refine ⟨R'.fh, R'.lk, R'.gh, R'.mu, by rw [rstG_len, hl, R.len], fun j sv e => ?_, fun i j l a b => R'.sep i j l (own' a) (own' b)⟩
  by_cases hj : j ∈ vs
  · rw [rstG_in hl hj] at e
    have q := R.sl j sv e
    cases sv with
    | u => exact True.intro
    | d x =>
      obtain ⟨v, h1, h2⟩ := q
      exact ⟨v, h1, dp_mono g _ _ h2⟩
    | a xs =>
      obtain ⟨l, us, h1, h2, h3⟩ := q
      exact ⟨l, us, h1, h2, dpAll_mono g _ _ h3⟩
    | own m xs => exact absurd hj (nin (by rw [rstG_in hl hj]; exact e) rfl)
    | dk ds => exact absurd hj (nin (by rw [rstG_in hl hj]; exact e) rfl)
  · rw [rstG_out hj] at e
    have q := R'.sl j sv e
    rw [wipe_out hj] at q
    exact q
theorem Rel.poke (R : Rel K F G Mu Γ σ H) {l : Addr} {o : HO} (n : F l = none) (g : G l = none) (m : Mu ≠ some l) (ow : ∀ i, ¬ Owns Γ σ i l) : Rel K F G Mu Γ σ (upd H l o) := by
  refine R.mono (Mu' := Mu) (same_updR R.fh n) (Same.refl _) (same_updR R.gh g) (fun b q => ?_) (fun i b h => ?_) R.lk
  · obtain ⟨_, h2, h3⟩ := R.mu b q
    rw [upd_ne (fun z => m (by rw [q, z]))]
    exact ⟨h2, h3⟩
  · rw [upd_ne (fun z => ow i (by rw [← z]; exact h))]
    exact ⟨(R.there h).2.1, rfl⟩
end

def compG (vs : List Nat) (t : Tg) (mt : M Bool) (me : M D) : List D → List D → M (List D)
  | [], ys, g => .ok ys g
  | x :: xs, ys, g => match setT t x g with
    | none => .bad
    | some g1 => match mt g1 with
      | .ok true g2 => match me g2 with
        | .ok y g3 => compG vs t mt me xs (ys ++ [y]) (wipG g3 vs)
        | _ => .bad
      | .ok false g2 => compG vs t mt me xs ys (wipG g2 vs)
      | _ => .bad
def compB (vs : List Nat) (t : Tg) (mt : M Bool) (me : M D) (xs : List D) : M (List D) := fun g => if xs.length ≤ sizeLine ∧ noOwn g vs = true then match compG vs t mt me xs [] (wipG g vs) with
    | .ok ys g' => .ok ys (rstG g g' vs)
    | _ => .bad
  else .bad
def compL (vs : List Nat) (t : Tg) (mi : M (List D)) (mt : M Bool) (me : M D) : M (List D) := bnd mi (compB vs t mt me)
def DTs (X : Cx) (ifs : List Expr) (m : M Bool) : Prop := ∀ W, Takes X W → PTs X ifs (zt X W rhoB m)
theorem pts_imp {X : Cx} {es : List Expr} {t t' : TT} (p : PTs X es t) (h : ∀ σ H Q, t' σ H Q → t σ H Q) : PTs X es t' := ⟨fun pins s σ H Q I q => p.run pins s σ H Q I (h σ H Q q)⟩
theorem dts_nil {X : Cx} : DTs X [] (rt true) := fun W _ => pts_imp pts_nil fun σ H Q ⟨F, G, Mu, Γ, R, p⟩ => zpost_ok R (show rhoB _ _ _ _ _ _ _ true true from rfl) p
theorem dts_one {X : Cx} {c : Expr} {m : M Bool} (h : DT X c m) : DTs X [c] m := fun W tk => pts_one (h W tk)
abbrev W0 : WX := fun _ _ _ _ => False
theorem comp_run {X : Cx} {b : Bool} {W : WX} {σ : St} {H : Hp} {Q : VK} {vs : List Nat} {t : Tg} {mi : M (List D)} {mt : M Bool} {me : M D} (hv : ∀ i ∈ tgS t, i ∈ vs) (p : zt X W rhoO (compL vs t mi mt me) σ H Q) :
    tLc (zt X W (rhoW b) mi) (zGb b X t) (zt X W0 rhoB mt) (zt X W0 rhoD me) vs σ H Q :=
  (zt_bnd (ρ := rhoW b) p).imp fun J H1 ⟨xs, F, G, Mu, Γ, R, h1, q⟩ l nl => by
    unfold compB at q
    split at q
    · rename_i hz
      obtain ⟨hz, no⟩ := hz
      have nF : F l = none := R.fh.free nl
      have nG : G l = none := R.gh.free nl
      have nM : Mu ≠ some l := fun z => (R.mu l z).2.2 nl
      have nO : ∀ i, ¬ Owns (wipG Γ vs) (wipe σ vs) i l := fun i h => by
        obtain ⟨_, _, us, z⟩ := (R.wipe vs).there h
        rw [nl] at z
        cases z
      cases e1 : compG vs t mt me xs [] (wipG Γ vs) with
      | bad => rw [e1] at q; exact q.elim
      | ex c y Γ1 => rw [e1] at q; exact q.elim
      | ok zs Γz =>
        rw [e1] at q
        refine lc_it h1 (fun i H' => ∃ G' Γ' acc ys, Same G G' ∧ Rel X.K (F.lock l (.lst acc) nF) G' Mu Γ' (wipe σ vs) H' ∧ DqAll X.K G' acc ys ∧ ys.length ≤ i ∧ compG vs t mt me (xs.drop i) ys Γ' = .ok zs Γz) ?_
          (fun i H' _ ⟨G', Γ', acc, ys, g, R', _⟩ => ⟨fun a o z => R'.unlock.1.fh a o (F.af a o z), g.trans R'.gh⟩) (fun i v H' H2 hi ⟨G', Γ', acc, ys, g, R', hd, hy, hc⟩ ⟨x, hx, y⟩ => ?_) fun H' ⟨G', Γ', acc, ys, g, R', hd, hy, hc⟩ => ?_
        · exact ⟨G, wipG Γ vs, [], [], Same.refl _, ((R.wipe vs).newX nl).lock nF upd_same nG nM (fun i h => nO i h), .nil, Nat.le_refl _, e1⟩
        · have hdr : xs.drop i = x :: xs.drop (i + 1) := by
            obtain ⟨hl, e⟩ := List.getElem?_eq_some_iff.mp hx
            rw [← e]
            exact List.drop_eq_getElem_cons hl
          rw [hdr] at hc
          unfold compG at hc
          split at hc
          · cases hc
          · rename_i g1 e2
            have y' : YV b X.K G' H' v x H2 := by
              cases b with
              | false => exact ⟨y.1, dp_mono g _ _ y.2⟩
              | true =>
                obtain ⟨T, us, ds, a1, a2, a3, a4, a5⟩ := y
                exact ⟨T, us, ds, a1, a2, a3, a4, dpAll_mono g _ _ a5⟩
            refine ⟨_, G', Mu, Γ', g1, x, H', R', y', e2, fun σ2 R2 off => ⟨wipe_off off hv, ?_⟩⟩
            have ew := wipe_off off hv
            split at hc
            · rename_i g2 e3
              split at hc
              · rename_i z g3 e4
                refine ⟨_, G', Mu, g1, R2, ?_⟩
                rw [e3]
                intro bb H3 G3 k3 R3 hb
                cases (show true = bb from hb)
                rw [if_pos rfl]
                refine ⟨_, G3, Mu, g2, R3, ?_⟩
                rw [e4]
                intro u H4 G4 k4 R4 hu
                obtain ⟨R5, j1, j2, j3, j4⟩ := R4.unlock
                refine ⟨acc, j1, ?_, G4, wipG g3 vs, acc ++ [u], ys ++ [z], (g.trans k3).trans k4, ?_, dpa_append (dpAll_mono k4 _ _ (dpAll_mono k3 _ _ hd)) (.cons hu .nil), by rw [List.length_append]; exact Nat.add_le_add_right hy 1, hc⟩
                · rw [dpa_length hd]
                  omega
                · have R6 := R5.wipe vs
                  rw [ew] at R6
                  have o6 : ∀ i, ¬ Owns (wipG g3 vs) (wipe σ vs) i l := fun i h => by
                    obtain ⟨w1, w2, w3⟩ := R6.there h
                    have R7 := R4.wipe vs
                    rw [ew] at R7
                    have := (R7.there h).1
                    rw [show (F.lock l (HO.lst acc) nF) l = some (.lst acc) from upd_same] at this
                    cases this
                  exact (R6.poke (o := .lst (acc ++ [u])) nF j2 j3 o6).lock nF upd_same j2 j3 o6
              · cases hc
            · rename_i g2 e3
              refine ⟨_, G', Mu, g1, R2, ?_⟩
              rw [e3]
              intro bb H3 G3 k3 R3 hb
              cases (show false = bb from hb)
              rw [if_neg Bool.false_ne_true]
              have R6 := R3.wipe vs
              rw [ew] at R6
              exact ⟨G3, wipG g2 vs, acc, ys, g.trans k3, R6, dpAll_mono k3 _ _ hd, by omega, hc⟩
            · cases hc
        · rw [List.drop_length] at hc
          unfold compG at hc
          cases hc
          obtain ⟨R5, j1, j2, j3, j4⟩ := R'.unlock
          have R6 := R.back R5 g no
          refine q _ H' G' g R6 ⟨l, acc, rfl, j1, hd, nF, j2, j3, fun i h => ?_⟩
          obtain ⟨m, w1, ws, w2⟩ := h
          have hni : i ∉ vs := fun hin => by
            rw [rstG_in (by rw [R5.len, R.len, wipe_length]) hin] at w1
            rw [noOwn_at no hin w1] at ws
            cases ws
          exact j4 i ⟨m, by rw [← rstG_out hni]; exact w1, ws, by rw [wipe_out hni]; exact w2⟩
    · exact q.elim
section
variable {X : Cx} {b : Bool} {elt tg iter : Expr} {ifs : List Expr} {scope : Scope} {pos : Pos} {t : Tg} {mi : M (List D)} {mt : M Bool} {me : M D}
theorem do_comp (own : List (Str × Nat)) (hc : X.calm = true) (hN : X.N.Nodup) (hi : DI b X tg iter mi) (ok : BlkOk X.N X.env.scope scope own)
    (hg : ∀ (s : Shared) (H : Hp) (C : Addr) (cl : List (Str × Addr)) (fp : List Addr), DGb b (X.blk s H scope (compEnvC scope cl C X.env) fp) tg t) (ht : ∀ (s : Shared) (H : Hp) (C : Addr) (cl : List (Str × Addr)) (fp : List Addr), DTs (X.blk s H scope (compEnvC scope cl C X.env) fp) ifs mt)
    (he : ∀ (s : Shared) (H : Hp) (C : Addr) (cl : List (Str × Addr)) (fp : List Addr), DP (X.blk s H scope (compEnvC scope cl C X.env) fp) elt me) (hv : ∀ i ∈ tgS t, i ∈ own.map (·.2)) (hs : ∀ x, foldedSetIterable iter X.env x = pure x := by intro _; rfl) :
    DO X (.ListComp elt [⟨tg, iter, ifs, 0⟩] scope pos) (compL (own.map (·.2)) t mi mt me) := fun W tk =>
  pe_imp (pe_lc (g := zGb b X t) (tt := zt X W0 rhoB mt) (te := zt X W0 rhoD me) hc hN (hi W tk) ok (fun s H C cl fp => hg s H C cl fp) (fun s H C cl fp => ht s H C cl fp W0 takes0) (fun s H C cl fp => he s H C cl fp W0 takes0) hs) fun σ H Q p => comp_run hv p
theorem ds_setComp (own : List (Str × Nat)) {i : Nat} {y : Str} {py spos : Pos} (hc : X.calm = true) (hN : X.N.Nodup) (hy : X.N[i]? = some y) (hyl : X.env.scope.names.lookup y = some .local) (hsw : swapsWith (.ListComp elt [⟨tg, iter, ifs, 0⟩] scope pos) (some (.Name y py)) spos.line X.env = pure true)
    (hi : DI b X tg iter mi) (ok : BlkOk X.N X.env.scope scope own)
    (hg : ∀ (s : Shared) (H : Hp) (C : Addr) (cl : List (Str × Addr)) (fp : List Addr), DGb b (X.blk s H scope (compEnvC scope cl C X.env) fp) tg t) (ht : ∀ (s : Shared) (H : Hp) (C : Addr) (cl : List (Str × Addr)) (fp : List Addr), DTs (X.blk s H scope (compEnvC scope cl C X.env) fp) ifs mt)
    (he : ∀ (s : Shared) (H : Hp) (C : Addr) (cl : List (Str × Addr)) (fp : List Addr), DP (X.blk s H scope (compEnvC scope cl C X.env) fp) elt me) (hv : ∀ i ∈ tgS t, i ∈ own.map (·.2)) (hs : ∀ x, foldedSetIterable iter X.env x = pure x := by intro _; rfl) :
    DS X (.Assign [.Name y py] (.ListComp elt [⟨tg, iter, ifs, 0⟩] scope pos) spos) (sSetO i (compL (own.map (·.2)) t mi mt me)) := fun W tk =>
  ps_imp (ps_setLc (g := zGb b X t) (tt := zt X W0 rhoB mt) (te := zt X W0 rhoD me) hc hN hy hyl hsw (hi W tk) ok (fun s H C cl fp => hg s H C cl fp) (fun s H C cl fp => ht s H C cl fp W0 takes0) (fun s H C cl fp => he s H C cl fp W0 takes0) hs) fun D σ H p =>
    comp_run (W := W) hv ((st_bnd (ρ := rhoO) p).imp fun v H1 ⟨r, F, G, Mu, Γ, R, h1, q⟩ => q _ H1 G (Same.refl _) (R.storeO h1 i))
end
end Z

set_option Elab.async false
set_option linter.all false
set_option maxRecDepth 100000
set_option autoImplicit false
set_option maxHeartbeats 1000000
namespace Z
open PySem PySem.Spec PyProof.Rows L2

/-- how a parameter is taken: read alone; kept; a list that is changed -/
inductive Pk where
  | v
  | p
  | m
inductive Out where
  | bad
  | ret (r : Rt) (ms : List D)
  | ex (c : Str) (x : D) (ms : List D)
def del (H : Hp) (Mu : Option Addr) : Hp := fun b => if Mu = some b then none else H b
theorem del_sub {H : Hp} {Mu : Option Addr} : Same (del H Mu) H := fun b o h => by
  unfold del at h
  split at h
  · cases h
  · exact h
theorem del_at {H : Hp} {Mu : Option Addr} {l : Addr} (h : Mu = some l) : del H Mu l = none := if_pos h
theorem del_ne {H : Hp} {Mu : Option Addr} {l : Addr} (h : Mu ≠ some l) : del H Mu l = H l := if_neg h
def ArgV (K : PySem.W.Frag) (G H : Hp) (Mu : Option Addr) (v : V) (x : D) : Prop := Dq K G v x ∨ ∃ l us ys, v = .ref l ∧ x = .list ys ∧ SqL K (del H Mu) l us ∧ DqAll K G us ys
def ArgM (K : PySem.W.Frag) (G H : Hp) (Mu : Option Addr) (v : V) (x : D) : Prop := ∃ l us ys, x = .list ys ∧ v = .ref l ∧ Mu = some l ∧ H l = some (.lst us) ∧ DqAll K G us ys ∧ G l = none
def ArgK (K : PySem.W.Frag) (G H : Hp) (Mu : Option Addr) : Pk → V → D → Prop
  | .v => ArgV K G H Mu
  | .p => Dq K G
  | .m => ArgM K G H Mu
def ArgsR (K : PySem.W.Frag) (G H : Hp) (Mu : Option Addr) : List Pk → List V → List D → Prop
  | [], vs, xs => vs = [] ∧ xs = []
  | k :: ks, vs, xs => ∃ v us x ys, vs = v :: us ∧ xs = x :: ys ∧ ArgK K G H Mu k v x ∧ ArgsR K G H Mu ks us ys
structure Post (K : PySem.W.Frag) (G H : Hp) (Mu : Option Addr) (G' H' : Hp) (ms : List D) : Prop where
  g : Same G G'
  gh : Same G' H'
  fr : Same (del H Mu) H'
  keep : ∀ b, H b ≠ none → G b = none → G' b = none
  mu : ∀ l, Mu = some l → ∃ us, H' l = some (.lst us) ∧ DqAll K G' us ms
def RetR (K : PySem.W.Frag) (H G' H' : Hp) (r : Rt) (v : V) : Prop := match r with
  | .d x => Dq K G' v x
  | .own xs => ∃ l us, v = .ref l ∧ H' l = some (.lst us) ∧ DqAll K G' us xs ∧ H l = none ∧ G' l = none
def outP (K : PySem.W.Frag) (mg : Str → Option Value) (G H : Hp) (Mu : Option Addr) (Q : VK) (E : XK) : Out → Prop
  | .bad => False
  | .ret r ms => ∀ v H' G', Post K G H Mu G' H' ms → RetR K H G' H' r v → Q v H'
  | .ex c x ms => ∀ C a v H' G', mg c = some (.ref C) → Post K G H Mu G' H' ms → H' a = some (.xd [("value", v)]) → Dq K G' v x → H a = none → E (.ref C) (some a) H'
def hasM : List Pk → Bool
  | [] => false
  | .m :: _ => true
  | _ :: ks => hasM ks
def spF (K : PySem.W.Frag) (mg : Str → Option Value) (ks : List Pk) (φ : List D → Out) : Sp := fun vs H Q E => ∃ G Mu xs, Same G H ∧ (∀ l, Mu = some l → G l = none ∧ H l ≠ none) ∧ (hasM ks = false → Mu = none) ∧ ArgsR K G H Mu ks vs xs ∧ outP K mg G H Mu Q E (φ xs)

def svK : Pk → D → SV
  | .m, .list ys => .own true ys
  | .m, _ => .u
  | .p, x => .d x
  | .v, x => svA x
def svs : List Pk → List D → List SV
  | k :: ks, x :: xs => svK k x :: svs ks xs
  | _, _ => []
def start0 (n : Nat) (ks : List Pk) (xs : List D) : En := svs ks xs ++ List.replicate (n - ks.length) .u
def muOf : List Pk → En → Option (List D)
  | [], _ => some []
  | .m :: _, .own true ms :: _ => some ms
  | .v :: ks, _ :: g => muOf ks g
  | .p :: ks, _ :: g => muOf ks g
  | _, _ => none
def oneM : List Pk → Bool
  | [] => true
  | .m :: ks => !hasM ks
  | _ :: ks => oneM ks
def outM (ks : List Pk) (r : Rt) (g : En) : Out := match muOf ks g with
  | some ms => .ret r ms
  | none => .bad
/-- a def's answer -/
def runF (n : Nat) (ks : List Pk) (b : M Fl) (xs : List D) : Out := match b (start0 n ks xs) with
  | .ok .nx g => outM ks (.d .none) g
  | .ok (.rt r) g => outM ks r g
  | .ex c x g => match muOf ks g with
    | some ms => .ex c x ms
    | none => .bad
  | _ => .bad
section
variable {K : PySem.W.Frag} {G H : Hp} {Mu : Option Addr}
theorem args_len : ∀ {ks : List Pk} {vs : List V} {xs : List D}, ArgsR K G H Mu ks vs xs → vs.length = ks.length ∧ xs.length = ks.length ∧ (svs ks xs).length = ks.length
  | [], _, _, h => by
    obtain ⟨rfl, rfl⟩ := h
    exact ⟨rfl, rfl, rfl⟩
  | k :: ks, _, _, h => by
    obtain ⟨v, us, x, ys, rfl, rfl, _, h⟩ := h
    obtain ⟨a, b, c⟩ := args_len h
    refine ⟨by rw [List.length_cons, List.length_cons, a], by rw [List.length_cons, List.length_cons, b], ?_⟩
    show (svs ks ys).length + 1 = _
    rw [c, List.length_cons]
theorem args_get : ∀ {ks : List Pk} {vs : List V} {xs : List D} {i : Nat} {sv : SV}, ArgsR K G H Mu ks vs xs → (svs ks xs)[i]? = some sv → ∃ k v x, ks[i]? = some k ∧ vs[i]? = some v ∧ sv = svK k x ∧ ArgK K G H Mu k v x
  | [], _, _, _, _, h, e => by
    obtain ⟨rfl, rfl⟩ := h
    cases e
  | k :: ks, _, _, 0, sv, h, e => by
    obtain ⟨v, us, x, ys, rfl, rfl, h1, h⟩ := h
    have e' : some (svK k x) = some sv := e
    cases e'
    exact ⟨k, v, x, rfl, rfl, rfl, h1⟩
  | k :: ks, _, _, i + 1, sv, h, e => by
    obtain ⟨v, us, x, ys, rfl, rfl, h1, h⟩ := h
    obtain ⟨k', v', x', a, b, c, d⟩ := args_get (i := i) h (show (svs ks ys)[i]? = some sv from e)
    exact ⟨k', v', x', by simpa using a, by simpa using b, c, d⟩
theorem hasM_get : ∀ {ks : List Pk} {i : Nat}, ks[i]? = some .m → hasM ks = true
  | [], _, h => by simp at h
  | .m :: ks, _, _ => rfl
  | .v :: ks, 0, h => by simp at h
  | .p :: ks, 0, h => by simp at h
  | .v :: ks, i + 1, h => hasM_get (ks := ks) (i := i) (by simpa using h)
  | .p :: ks, i + 1, h => hasM_get (ks := ks) (i := i) (by simpa using h)
theorem oneM_eq : ∀ {ks : List Pk} {i j : Nat}, oneM ks = true → ks[i]? = some .m → ks[j]? = some .m → i = j
  | [], _, _, _, h, _ => by simp at h
  | _ :: _, 0, 0, _, _, _ => rfl
  | .m :: ks, 0, j + 1, h, _, e => by
    have := hasM_get (ks := ks) (i := j) (by simpa using e)
    simp [oneM, this] at h
  | .m :: ks, i + 1, 0, h, e, _ => by
    have := hasM_get (ks := ks) (i := i) (by simpa using e)
    simp [oneM, this] at h
  | .v :: ks, 0, j + 1, h, e, _ => by simp at e
  | .p :: ks, 0, j + 1, h, e, _ => by simp at e
  | .v :: ks, i + 1, 0, h, _, e => by simp at e
  | .p :: ks, i + 1, 0, h, _, e => by simp at e
  | .m :: ks, i + 1, j + 1, h, e, e2 => by
    have := hasM_get (ks := ks) (i := i) (by simpa using e)
    simp [oneM, this] at h
  | .v :: ks, i + 1, j + 1, h, e, e2 => by rw [oneM_eq (ks := ks) (i := i) (j := j) h (by simpa using e) (by simpa using e2)]
  | .p :: ks, i + 1, j + 1, h, e, e2 => by rw [oneM_eq (ks := ks) (i := i) (j := j) h (by simpa using e) (by simpa using e2)]
/-- the frame of a def that is called -/
def frD (G H : Hp) (Mu : Option Addr) : Fr where
  f := del H Mu
  a := del H Mu
  k := fun b => del H Mu b ≠ none ∧ G b = none
  af := Same.refl _
  kf := fun _ h => h.1
theorem start_at {N : List Str} {vs : List V} {i : Nat} {v : V} (h : vs[i]? = some v) : (L2.start N vs)[i]? = some (some v) := by
  unfold L2.start
  rw [List.getElem?_append_left (by rw [List.length_map]; exact (List.getElem?_eq_some_iff.mp h).1), List.getElem?_map, h]
  rfl
theorem svK_ow {k : Pk} {x : D} (h : (svK k x).ow = true) : k = .m := by
  cases k with
  | m => rfl
  | p => cases h
  | v =>
    cases x with
    | _ => cases h
theorem rel_start {N : List Str} {ks : List Pk} {vs : List V} {xs : List D} (gh : Same G H) (mu : ∀ l, Mu = some l → G l = none ∧ H l ≠ none) (a : ArgsR K G H Mu ks vs xs) (one : oneM ks = true) (hn : ks.length ≤ N.length) :
    Rel K (frD G H Mu) G Mu (start0 N.length ks xs) (L2.start N vs) H := by
  obtain ⟨l1, l2, l3⟩ := args_len a
  have get : ∀ {i : Nat} {sv : SV}, (start0 N.length ks xs)[i]? = some sv → (∃ k v x, ks[i]? = some k ∧ (L2.start N vs)[i]? = some (some v) ∧ sv = svK k x ∧ ArgK K G H Mu k v x) ∨ sv = .u := fun {i sv} e => by
    unfold start0 at e
    by_cases hi : i < (svs ks xs).length
    · rw [List.getElem?_append_left hi] at e
      obtain ⟨k, v, x, h1, h2, h3, h4⟩ := args_get a e
      exact .inl ⟨k, v, x, h1, start_at h2, h3, h4⟩
    · rw [List.getElem?_append_right (by omega), List.getElem?_replicate] at e
      split at e
      · cases e
        exact .inr rfl
      · cases e
  refine ⟨del_sub, fun l h => h.2, gh, fun l h => ⟨del_at h, mu l h⟩, ?_, fun i sv e => ?_, fun i j l ⟨m, a1, ys, a2⟩ ⟨m', b1, ys', b2⟩ => ?_⟩
  · unfold start0 L2.start
    rw [List.length_append, List.length_append, List.length_map, List.length_replicate, List.length_replicate, l3, l1]
  · rcases get e with ⟨k, v, x, h1, h2, rfl, h4⟩ | rfl
    · rw [h2]
      cases k with
      | p => exact ⟨v, rfl, h4⟩
      | m =>
        obtain ⟨l, us, ys, rfl, rfl, q1, q2, q3, q4⟩ := h4
        exact ⟨l, us, rfl, q2, q3, del_at q1, q4, fun _ => q1, fun z => nomatch z⟩
      | v =>
        rcases h4 with h4 | ⟨l, us, ys, rfl, rfl, q1, q2⟩
        · have hd := h4
          cases h4 with
          | lst q1 q2 =>
            rename_i l us ys
            refine ⟨l, us, rfl, ?_, q2⟩
            rcases q1 with (q1 | ⟨o, q1⟩) | q1
            · exact .inl (.inl ((del_ne fun z => by rw [(mu l z).1] at q1; cases q1).trans (gh _ _ q1)))
            · exact .inl (.inr ⟨o, (del_ne fun z => by rw [(mu l z).1] at q1; cases q1).trans (gh _ _ q1)⟩)
            · exact .inr q1
          | _ => exact ⟨_, rfl, hd⟩
        · exact ⟨l, us, rfl, q1, q2⟩
    · exact True.intro
  · rcases get a1 with ⟨k, v, x, h1, h2, h3, h4⟩ | z
    · rcases get b1 with ⟨k', v', x', i1, i2, i3, i4⟩ | z
      · subst h3
        subst i3
        obtain rfl := svK_ow ys
        obtain rfl := svK_ow ys'
        exact oneM_eq one h1 i1
      · subst z
        cases ys'
    · subst z
      cases ys
theorem mu_end {F : Fr} {G' H' : Hp} {l : Addr} (hM : Mu = some l) : ∀ {ks : List Pk} {Γ' : En} {σ' : St} {ms : List D}, hasM ks = true → Rel K F G' Mu Γ' σ' H' → muOf ks Γ' = some ms → ∃ us, H' l = some (.lst us) ∧ DqAll K G' us ms := by
  have key : ∀ {ks : List Pk} {g : En} {ms : List D}, hasM ks = true → muOf ks g = some ms → ∃ i : Nat, g[i]? = some (SV.own true ms) := by
    intro ks
    induction ks with
    | nil => intro g ms h; cases h
    | cons k ks ih =>
      intro g ms h e
      cases g with
      | nil => cases k <;> cases e
      | cons sv g =>
        cases k with
        | m =>
          cases sv with
          | own b ys =>
            cases b with
            | true =>
              cases e
              exact ⟨0, rfl⟩
            | false => cases e
          | _ => cases e
        | v =>
          obtain ⟨i, hi⟩ := ih h (show muOf ks g = some ms from e)
          exact ⟨i + 1, by simpa using hi⟩
        | p =>
          obtain ⟨i, hi⟩ := ih h (show muOf ks g = some ms from e)
          exact ⟨i + 1, by simpa using hi⟩
  intro ks Γ' σ' ms h R e
  obtain ⟨i, hi⟩ := key h e
  obtain ⟨l', us, _, h2, h3, _, _, h6, _⟩ := R.owned hi
  have := h6 rfl
  rw [hM] at this
  cases this
  exact ⟨us, h2, h3⟩
theorem post_of {G' H' : Hp} {ks : List Pk} {Γ' : En} {σ' : St} {ms : List D} (hm : hasM ks = false → Mu = none) (g : Same G G') (R : Rel K (frD G H Mu) G' Mu Γ' σ' H') (e : muOf ks Γ' = some ms) : Post K G H Mu G' H' ms where
  g := g
  gh := R.gh
  fr := R.fh
  keep := fun b h1 h2 => by
    by_cases hb : Mu = some b
    · exact (R.mu b hb).2.1
    · exact R.lk b ⟨by rw [del_ne hb]; exact h1, h2⟩
  mu := fun l h => by
    cases hh : hasM ks with
    | false =>
      rw [hm hh] at h
      cases h
    | true => exact mu_end h hh R e
end
section
variable {P : Program} {w : World} {K : PySem.W.Frag} {mg : Str → Option Value} {base : Heap}
/-- a def by its body -/
theorem fn_ok {x qual : Str} {stm : Stmt} {f : Addr} {fd : FuncData} {N ps : List Str} {k : Nat} {ks : List Pk} {m : M Fl} (Fn : Fun K x qual stm f fd) (S : FnScope N ps (defScope stm)) (hl : ks.length = ps.length) (one : oneM ks = true)
    (body : ∀ (cdv : Value) (A : Around) (outer : List Env) (s : Shared) (H : Hp) (E : XK), Room k (A.deeper (envOfC qual (defScope stm) s.heap.objs.size f cdv)) → DSs (cxOf (L2.CX P w) P w K mg base N qual (defScope stm) f cdv A outer s H E) (defBody stm) m) :
    FnOk P w K mg base (L2.CX P w) (k + 1) f fd ps (spF K mg ks (runF N.length ks m)) := by
  have hpl : ps.length ≤ N.length := by
    have := congrArg List.length S.pre
    rw [List.length_take] at this
    omega
  refine Fn.okX S (fun vs H Q E ⟨G, Mu, xs, _, _, _, a, _⟩ => by rw [(args_len a).1, hl]) fun cdv A outer s H vs Q E hr ⟨G, Mu, xs, gh, mu, hm, a, q⟩ => ?_
  refine ⟨_, body cdv A outer s H E hr (fun cls d _ H => E cls d H) (takes_of rfl rfl rfl rfl), frD G H Mu, G, Mu, start0 N.length ks xs, rel_start gh mu a one (by omega), ?_⟩
  unfold runF at q
  have ret : ∀ {r : Rt} {Γ' : En}, outP K mg G H Mu Q E (outM ks r Γ') → ∀ v σ' H' G', Same G G' → Rel K (frD G H Mu) G' Mu Γ' σ' H' → rhoT K (frD G H Mu) G' Mu Γ' σ' H' r v → Q v H' := fun {r Γ'} q v σ' H' G' g R h => by
    unfold outM at q
    cases e : muOf ks Γ' with
    | none => rw [e] at q; exact q.elim
    | some ms =>
      rw [e] at q
      refine q v H' G' (post_of hm g R e) ?_
      cases r with
      | d x => exact h
      | own ys =>
        obtain ⟨l, us, rfl, h1, h2, h3, h4, h5, _⟩ := h
        exact ⟨l, us, rfl, h1, h2, by rw [show (frD G H Mu) l = del H Mu l from rfl, del_ne h5] at h3; exact h3, h4⟩
  cases e : m (start0 N.length ks xs) with
  | bad => rw [e] at q; exact q.elim
  | ok fl Γ' =>
    rw [e] at q
    cases fl with
    | nx => exact fun σ' H' G' g R => ret q .non σ' H' G' g R .non
    | rt r => exact fun v σ' H' G' g R h => ret q v σ' H' G' g R h
    | bk => exact q.elim
    | ct => exact q.elim
  | ex c z Γ' =>
    rw [e] at q
    intro C ad v σ' H' G' h1 g R h2 h3 f1 f2
    have f3 : H ad = none := by
      rw [show (frD G H Mu).f ad = del H Mu ad from rfl, del_ne f2] at f1
      exact f1
    dsimp only at q
    cases e2 : muOf ks Γ' with
    | none => rw [e2] at q; exact q.elim
    | some ms =>
      rw [e2] at q
      exact q C ad v H' G' h1 (post_of hm g R e2) h2 h3 f3
end

def mIx : List Pk → List Rs → Option Nat
  | .m :: _, .sl i :: _ => some i
  | _ :: ks, _ :: rs => mIx ks rs
  | _, _ => none
def argD (g : En) (mi : Option Nat) : List Pk → List Rs → Option (List D)
  | [], [] => some []
  | k :: ks, r :: rs => match argD g mi ks rs with
    | none => none
    | some xs => match k, r with
      | .m, .sl i => match g[i]? with
        | some (.own _ ys) => if mi = some i then some (.list ys :: xs) else none
        | _ => none
      | .v, .d x => some (x :: xs)
      | .v, .sl i => if mi = some i then none else match vl g (.sl i) with
        | some x => some (x :: xs)
        | none => none
      | .p, .d x => some (x :: xs)
      | _, _ => none
  | _, _ => none
def putM (mi : Option Nat) (ms : List D) (g : En) : En := match mi with
  | none => g
  | some i => match g[i]? with
    | some (.own b _) => g.set i (.own b ms)
    | _ => g
def callM (ks : List Pk) (φ : List D → Out) (rs : List Rs) : M Rt := fun g => match argD g (mIx ks rs) ks rs with
  | none => .bad
  | some xs => match φ xs with
    | .bad => .bad
    | .ret r ms => .ok r (putM (mIx ks rs) ms g)
    | .ex c x ms => .ex c x (putM (mIx ks rs) ms g)
section
variable {K : PySem.W.Frag} {F : Fr} {G H : Hp} {Mu : Option Addr} {Γ : En} {σ : St}
def muA (σ : St) (mi : Option Nat) : Option Addr := match mi with
  | none => none
  | some i => match σ[i]? with
    | some (some (.ref l)) => some l
    | _ => none
theorem muA_own {mi : Option Nat} (hmi : ∀ i, mi = some i → ∃ b ys, Γ[i]? = some (.own b ys)) {l : Addr} (h : muA σ mi = some l) : ∃ j, mi = some j ∧ Owns Γ σ j l := by
  unfold muA at h
  split at h
  · cases h
  · rename_i j
    split at h
    · rename_i l' hl
      cases h
      obtain ⟨b, ys, e⟩ := hmi j rfl
      exact ⟨j, rfl, _, e, rfl, hl⟩
    · cases h
theorem argsM (R : Rel K F G Mu Γ σ H) {mi : Option Nat} (hmi : ∀ i, mi = some i → ∃ b ys, Γ[i]? = some (.own b ys)) : ∀ {ks : List Pk} {rs : List Rs} {vs : List V} {xs : List D}, RsAll K G σ rs vs → argD Γ mi ks rs = some xs → ArgsR K G H (muA σ mi) ks vs xs
  | [], [], _, _, h, e => by
    cases e
    exact ⟨h, rfl⟩
  | [], _ :: _, _, _, _, e => by cases e
  | _ :: _, [], _, _, _, e => by cases e
  | k :: ks, r :: rs, _, _, h, e => by
    obtain ⟨v, us, rfl, h1, h2⟩ := h
    unfold argD at e
    split at e
    · cases e
    · rename_i ys e1
      have ih := argsM R hmi h2 e1
      split at e
      · rename_i i
        split at e
        · rename_i b zs hg
          split at e
          · rename_i hm
            cases e
            obtain ⟨l, ws, k1, k2, k3, k4, k5, _⟩ := R.owned hg
            have h1' : σ[i]? = some (some v) := h1
            rw [h1'] at k1
            cases k1
            refine ⟨_, us, _, ys, rfl, rfl, ⟨l, ws, zs, rfl, rfl, ?_, k2, k3, k5⟩, ih⟩
            rw [hm]
            unfold muA
            dsimp only
            rw [h1']
          · cases e
        · cases e
      · rename_i x
        cases e
        exact ⟨v, us, x, ys, rfl, rfl, .inl h1, ih⟩
      · rename_i i
        split at e
        · cases e
        · rename_i hm
          have h1' : σ[i]? = some (some v) := h1
          split at e
          · rename_i x hx
            cases e
            refine ⟨v, us, x, ys, rfl, rfl, ?_, ih⟩
            unfold vl at hx
            dsimp only at hx
            split at hx
            · rename_i y hg
              cases hx
              obtain ⟨v', w1, w2⟩ := R.data hg
              rw [h1'] at w1
              cases w1
              exact .inl w2
            · rename_i zs hg
              cases hx
              obtain ⟨l, ws, w1, w2, w3⟩ := R.arg hg
              rw [h1'] at w1
              cases w1
              refine .inr ⟨l, ws, zs, rfl, rfl, ?_, w3⟩
              have hne : ∀ o, F.a l = some o → muA σ mi ≠ some l := fun o w z => by
                obtain ⟨j, _, oj⟩ := muA_own hmi z
                have := F.af _ _ w
                rw [(R.there oj).1] at this
                cases this
              rcases w2 with (w2 | ⟨o, w2⟩) | w2
              · exact .inl (.inl ((del_ne (hne _ w2)).trans (R.fh _ _ (F.af _ _ w2))))
              · exact .inl (.inr ⟨o, (del_ne (hne _ w2)).trans (R.fh _ _ (F.af _ _ w2))⟩)
              · exact .inr w2
            · rename_i b zs hg
              cases hx
              obtain ⟨l, ws, w1, w2, w3, _, _, _, _, ow⟩ := R.owned hg
              rw [h1'] at w1
              cases w1
              refine .inr ⟨l, ws, zs, rfl, rfl, .inl (.inl ((del_ne fun z => ?_).trans w2)), w3⟩
              obtain ⟨j, hj, oj⟩ := muA_own hmi z
              exact hm (by rw [hj, R.sep i j l ow oj])
            · cases hx
          · cases e
      · rename_i x
        cases e
        exact ⟨v, us, x, ys, rfl, rfl, h1, ih⟩
      · cases e
theorem mIx_no : ∀ {ks : List Pk} {rs : List Rs}, hasM ks = false → mIx ks rs = none
  | [], _, _ => by unfold mIx; rfl
  | .m :: _, _, h => by cases h
  | .v :: ks, [], _ => rfl
  | .p :: ks, [], _ => rfl
  | .v :: ks, r :: rs, h => mIx_no (ks := ks) (rs := rs) h
  | .p :: ks, r :: rs, h => mIx_no (ks := ks) (rs := rs) h
theorem mIx_own {g : En} {mi : Option Nat} : ∀ {ks : List Pk} {rs : List Rs} {xs : List D}, argD g mi ks rs = some xs → ∀ i, mIx ks rs = some i → ∃ b ys, g[i]? = some (.own b ys)
  | [], _, _, _, _, h => by
    unfold mIx at h
    cases h
  | k :: ks, [], _, e, _, h => by
    cases e
  | k :: ks, r :: rs, xs, e, i, h => by
    unfold argD at e
    split at e
    · cases e
    · rename_i ys e1
      split at e
      · rename_i j
        cases h
        split at e
        · rename_i b zs hg
          exact ⟨b, zs, hg⟩
        · cases e
      · exact mIx_own e1 i h
      · exact mIx_own e1 i h
      · exact mIx_own e1 i h
      · cases e
theorem putM_len {mi : Option Nat} {ms : List D} : (putM mi ms Γ).length = Γ.length := by
  unfold putM
  split
  · rfl
  · split
    · rw [List.length_set]
    · rfl
/-- behind a call -/
theorem Rel.called {G' H' : Hp} {ms : List D} {mi : Option Nat} (R : Rel K F G Mu Γ σ H) (hmi : ∀ i, mi = some i → ∃ b ys, Γ[i]? = some (.own b ys)) (p : Post K G H (muA σ mi) G' H' ms) : Rel K F G' Mu (putM mi ms Γ) σ H' := by
  have same : ∀ {l : Addr} {o : HO}, H l = some o → muA σ mi ≠ some l → H' l = some o := fun {l o} h n => p.fr _ _ ((del_ne n).trans h)
  have at_own : ∀ {i : Nat} {l : Addr}, Owns Γ σ i l → mi ≠ some i → muA σ mi ≠ some l := fun {i l} h n z => by
    obtain ⟨j, hj, oj⟩ := muA_own hmi z
    exact n (by rw [hj, R.sep i j l h oj])
  have own' : ∀ {i : Nat} {l : Addr}, Owns (putM mi ms Γ) σ i l → Owns Γ σ i l := fun {i l} ⟨m, h1, xs, h2⟩ => by
    unfold putM at h1
    split at h1
    · exact ⟨m, h1, xs, h2⟩
    · rename_i j _
      split at h1
      · rename_i b ys hg
        by_cases e : j = i
        · subst e
          exact ⟨_, hg, rfl, h2⟩
        · rw [List.getElem?_set_ne e] at h1
          exact ⟨m, h1, xs, h2⟩
      · exact ⟨m, h1, xs, h2⟩
  refine ⟨fun b o h => same (R.fh b o h) fun z => ?_, fun b h => ?_, p.gh, fun l h => ?_, by rw [putM_len, R.len], fun i sv e => ?_, fun i j l a b => R.sep i j l (own' a) (own' b)⟩
  · obtain ⟨j, _, oj⟩ := muA_own hmi z
    rw [(R.there oj).1] at h
    cases h
  · refine p.keep b (fun z => ?_) (R.lk b h)
    obtain ⟨o, w⟩ := Option.ne_none_iff_exists'.mp (F.kf b h)
    rw [R.fh b o w] at z
    cases z
  · obtain ⟨m1, m2, m3⟩ := R.mu l h
    refine ⟨m1, p.keep l m3 m2, ?_⟩
    by_cases hl : muA σ mi = some l
    · obtain ⟨us, h1, _⟩ := p.mu l hl
      rw [h1]
      exact fun z => nomatch z
    · obtain ⟨o, w⟩ := Option.ne_none_iff_exists'.mp m3
      rw [same w hl]
      exact fun z => nomatch z
  · have old : Γ[i]? = some sv → mi ≠ some i → SlotRel K F G' H' Mu sv (σ[i]?.join) := fun e hn => by
      have q := R.sl i sv e
      cases sv with
      | u => exact True.intro
      | d x =>
        obtain ⟨v, h1, h2⟩ := q
        exact ⟨v, h1, dp_mono p.g _ _ h2⟩
      | a xs =>
        obtain ⟨l, us, h1, h2, h3⟩ := q
        exact ⟨l, us, h1, h2, dpAll_mono p.g _ _ h3⟩
      | own m xs =>
        obtain ⟨l, us, h1, h2, h3, h4, h5, h6, h7⟩ := q
        have ow : Owns Γ σ i l := ⟨_, e, rfl, join_some h1⟩
        exact ⟨l, us, h1, same h2 (at_own ow hn), dpAll_mono p.g _ _ h3, h4, p.keep l (by rw [h2]; exact fun z => nomatch z) h5, h6, h7⟩
      | dk ds =>
        obtain ⟨l, es, h1, h2, h3, h4, h5, h6⟩ := q
        have ow : Owns Γ σ i l := ⟨_, e, rfl, join_some h1⟩
        exact ⟨l, es, h1, same h2 (at_own ow hn), dkAll_up p.g h3, h4, p.keep l (by rw [h2]; exact fun z => nomatch z) h5, h6⟩
    unfold putM at e
    split at e
    · exact old e (fun z => nomatch z)
    · rename_i j
      obtain ⟨b, ys, hg⟩ := hmi j rfl
      rw [hg] at e
      dsimp only at e
      by_cases hji : j = i
      · subst hji
        rw [List.getElem?_set_self (List.getElem?_eq_some_iff.mp hg).1] at e
        cases e
        obtain ⟨l, us, h1, h2, h3, h4, h5, h6, h7, ow⟩ := R.owned hg
        have hl : muA σ (some j) = some l := by
          unfold muA
          dsimp only
          rw [h1]
        obtain ⟨ws, w1, w2⟩ := p.mu l hl
        exact ⟨l, ws, by rw [h1]; rfl, w1, w2, h4, p.keep l (by rw [h2]; exact fun z => nomatch z) h5, h6, h7⟩
      · rw [List.getElem?_set_ne hji] at e
        exact old e (fun z => hji (by cases z; rfl))
end
def DR (X : Cx) (e : Expr) (m : M Rt) : Prop := ∀ W, Takes X W → PE X e (zt X W rhoT m)
section
variable {X : Cx} {W : WX} {σ : St} {F : Fr} {G H : Hp} {Mu : Option Addr} {Γ : En} {Q : VK}
theorem call_end {ks : List Pk} {φ : List D → Out} {rs : List Rs} {vs : List V} (R : Rel X.K F G Mu Γ σ H) (h : RsAll X.K G σ rs vs) (q : zpost X W σ rhoT F G Mu Q (callM ks φ rs Γ)) : spF X.K X.mg ks φ vs H Q (WE W σ) := by
  unfold callM at q
  split at q
  · exact q.elim
  · rename_i xs e
    have hmi := mIx_own e
    have ar := argsM R hmi h e
    refine ⟨G, muA σ (mIx ks rs), xs, R.gh, fun l hl => ?_, fun hm => by rw [mIx_no hm]; rfl, ar, ?_⟩
    · obtain ⟨j, _, oj⟩ := muA_own hmi hl
      obtain ⟨_, h2, us, h3⟩ := R.there oj
      exact ⟨h2, by rw [h3]; exact fun z => nomatch z⟩
    · split at q
      · exact q.elim
      · rename_i r ms e2
        rw [e2]
        intro v H' G' p hr
        refine q v H' G' p.g (R.called hmi p) ?_
        cases r with
        | d x => exact hr
        | own ys =>
          obtain ⟨l, us, rfl, h1, h2, h3, h4⟩ := hr
          have R' := R.called hmi p
          refine ⟨l, us, rfl, h1, h2, R.fh.free h3, h4, fun z => (R.mu l z).2.2 h3, fun i hi => ?_⟩
          obtain ⟨m, w1, ws, w2⟩ := hi
          have : ∃ sv : SV, Γ[i]? = some sv ∧ sv.ow = true := by
            unfold putM at w1
            split at w1
            · exact ⟨m, w1, ws⟩
            · rename_i j _
              split at w1
              · rename_i b zs hg
                by_cases hji : j = i
                · subst hji
                  exact ⟨_, hg, rfl⟩
                · rw [List.getElem?_set_ne hji] at w1
                  exact ⟨m, w1, ws⟩
              · exact ⟨m, w1, ws⟩
          obtain ⟨m', w3, ws'⟩ := this
          obtain ⟨_, _, us', w4⟩ := R.there (i := i) (l := l) ⟨m', w3, ws', w2⟩
          rw [h3] at w4
          cases w4
      · rename_i c x ms e2
        rw [e2]
        exact fun C a v H' G' h1 p h2 h3 h4 => q C a v H' G' h1 p.g (R.called hmi p) h2 h3 (R.fh.free h4) (fun z => (R.mu a z).2.2 h4)
end
end Z

set_option Elab.async false
set_option linter.all false
set_option maxRecDepth 100000
set_option autoImplicit false
set_option maxHeartbeats 1000000
namespace Z
open PySem PySem.Spec PyProof.Rows L2

structure FnP (P : Program) (w : World) (K : PySem.W.Frag) (mg : Str → Option Value) (base : Heap) (x : Str) (st : Stmt) (k : Nat) (ps : List Str) (ks : List Pk) (φ : List D → Out) : Prop where
  ex : ∃ f fd qual, Fun K x qual st f fd ∧ mg x = some (.ref f) ∧ FnOk P w K mg base (L2.CX P w) k f fd ps (spF K mg ks φ) ∧ Binds K fd ps []
theorem FnP.mono {P : Program} {w : World} {K : PySem.W.Frag} {mg : Str → Option Value} {base : Heap} {x : Str} {st : Stmt} {j k : Nat} {ps : List Str} {ks : List Pk} {φ : List D → Out} (F : FnP P w K mg base x st j ps ks φ) (h : j ≤ k) : FnP P w K mg base x st k ps ks φ := by
  obtain ⟨f, fd, qual, a, b, c, d⟩ := F.ex
  exact ⟨f, fd, qual, a, b, c.mono h, d⟩
/-- keywords, and positions ahead of them: how the values come to the parameters' order -/
def pick {α : Type} (pm : List Nat) (xs : List α) : List α := pm.filterMap (xs[·]?)
theorem vals_get : ∀ {vs : List V} {us : List Value} {i : Nat}, Vals vs us → (∃ v u, vs[i]? = some v ∧ us[i]? = some u ∧ RelV v u) ∨ (vs[i]? = none ∧ us[i]? = none)
  | _, _, _, .nil => .inr ⟨rfl, rfl⟩
  | _, _, 0, .cons a _ => .inl ⟨_, _, rfl, rfl, a⟩
  | _, _, i + 1, .cons _ b => by
    rcases vals_get (i := i) b with ⟨v, u, h1, h2, h3⟩ | ⟨h1, h2⟩
    · exact .inl ⟨v, u, by simpa using h1, by simpa using h2, h3⟩
    · exact .inr ⟨by simpa using h1, by simpa using h2⟩
theorem vals_pick {vs : List V} {us : List Value} (h : Vals vs us) : ∀ pm : List Nat, Vals (pick pm vs) (pick pm us)
  | [] => .nil
  | i :: pm => by
    unfold pick
    rcases vals_get (i := i) h with ⟨v, u, h1, h2, h3⟩ | ⟨h1, h2⟩
    · rw [List.filterMap_cons_some h1, List.filterMap_cons_some h2]
      exact .cons h3 (vals_pick h pm)
    · rw [List.filterMap_cons_none h1, List.filterMap_cons_none h2]
      exact vals_pick h pm
theorem rsAll_len {K : PySem.W.Frag} {G : Hp} {σ : St} : ∀ {rs : List Rs} {vs : List V}, RsAll K G σ rs vs → rs.length = vs.length
  | [], _, h => by rw [show _ = [] from h]; rfl
  | r :: rs, _, h => by
    obtain ⟨v, us, rfl, _, h2⟩ := h
    rw [List.length_cons, List.length_cons, rsAll_len h2]
theorem rsAll_get {K : PySem.W.Frag} {G : Hp} {σ : St} : ∀ {rs : List Rs} {vs : List V} {i : Nat}, RsAll K G σ rs vs → (∃ r v, rs[i]? = some r ∧ vs[i]? = some v ∧ (match r with | .d x => Dq K G v x | .sl i => σ[i]? = some (some v))) ∨ (rs[i]? = none ∧ vs[i]? = none)
  | [], _, _, h => by
    rw [show _ = [] from h]
    exact .inr ⟨rfl, rfl⟩
  | r :: rs, _, 0, h => by
    obtain ⟨v, us, rfl, h1, _⟩ := h
    exact .inl ⟨r, v, rfl, rfl, h1⟩
  | r :: rs, _, i + 1, h => by
    obtain ⟨v, us, rfl, _, h2⟩ := h
    rcases rsAll_get (i := i) h2 with ⟨r', v', a, b, c⟩ | ⟨a, b⟩
    · exact .inl ⟨r', v', by simpa using a, by simpa using b, c⟩
    · exact .inr ⟨by simpa using a, by simpa using b⟩
theorem rsAll_pick {K : PySem.W.Frag} {G : Hp} {σ : St} {rs : List Rs} {vs : List V} (h : RsAll K G σ rs vs) : ∀ pm : List Nat, RsAll K G σ (pick pm rs) (pick pm vs)
  | [] => rfl
  | i :: pm => by
    unfold pick
    rcases rsAll_get (i := i) h with ⟨r, v, h1, h2, h3⟩ | ⟨h1, h2⟩
    · rw [List.filterMap_cons_some h1, List.filterMap_cons_some h2]
      exact ⟨v, _, rfl, h3, rsAll_pick h pm⟩
    · rw [List.filterMap_cons_none h1, List.filterMap_cons_none h2]
      exact rsAll_pick h pm
theorem rsAll_append {K : PySem.W.Frag} {G : Hp} {σ : St} : ∀ {rs : List Rs} {vs : List V} {rs' : List Rs} {vs' : List V}, RsAll K G σ rs vs → RsAll K G σ rs' vs' → RsAll K G σ (rs ++ rs') (vs ++ vs')
  | [], _, _, _, h, k => by
    rw [show _ = [] from h]
    exact k
  | r :: rs, _, _, _, h, k => by
    obtain ⟨v, us, rfl, h1, h2⟩ := h
    exact ⟨v, us ++ _, rfl, h1, rsAll_append h2 k⟩
def callP (ks : List Pk) (φ : List D → Out) (m : M (List Rs)) : M Rt := bnd m (callM ks φ)
def callK (ks : List Pk) (φ : List D → Out) (pm : List Nat) (m n : M (List Rs)) : M Rt := bnd m fun rs => bnd n fun rs' => callM ks φ (pick pm (rs ++ rs'))
/-- the values of keywords -/
def DKs (X : Cx) (kws : List Keyword) (m : M (List Rs)) : Prop := ∀ W, Takes X W → PK X kws (zt X W rhoRs m)
theorem pk_imp {X : Cx} {kws : List Keyword} {t t' : TA} (p : PK X kws t) (h : ∀ σ H Q, t' σ H Q → t σ H Q) : PK X kws t' := ⟨fun pos pins s σ H Q I q => p.run pos pins s σ H Q I (h σ H Q q)⟩
section
variable {X : Cx} {kws : List Keyword} {nm : Option Str} {e : Expr} {es : List Expr} {kpos p pos : Pos} {x : Str} {st : Stmt} {k : Nat} {ps : List Str} {ks : List Pk} {φ : List D → Out}
theorem dks_nil : DKs X [] vNil := fun W _ => pk_imp pk_nil fun σ H Q ⟨F, G, Mu, Γ, R, p⟩ => zpost_ok R (show rhoRs _ _ _ _ _ _ _ [] [] from rfl) p
theorem dks_cons {m : M Rs} {n : M (List Rs)} (h : DV X e m) (k : DKs X kws n) : DKs X (⟨nm, e, kpos⟩ :: kws) (vCons m n) := fun W tk => by
  refine pk_imp (pk_cons (h W tk) (k W tk)) fun σ H Q p => ?_
  refine (zt_bnd2 (ρ := rhoR) (ρ' := rhoRs) stR p).imp fun v H1 q => q.imp fun vs H2 ⟨x, xs, F, G, Mu, Γ, R, h1, h2, q2⟩ => ?_
  exact zpost_ok R (show rhoRs _ _ _ _ _ _ _ (x :: xs) (v :: vs) from ⟨v, vs, rfl, h1, h2⟩) q2
theorem dr_fn (F : FnP X.prog X.w X.K X.mg X.base x st k ps ks φ) (hr : Room k X.A) (hg : Gl X x) {m : M (List Rs)} (ha : DVs X (e :: es) m)
    (hdb : (x == ("__debug__" : Str)) = false := by decide) (he : starEach (e :: es) X.env = (false, eval e X.env) :: starEach es X.env := by rfl) (hpl : (backTo pos (starEach es X.env)).any (·.1) = false := by rfl) :
    DR X (.Call (.Name x p) (e :: es) [] pos) (callP ks φ m) := fun W tk => by
  obtain ⟨f, fd, qual, f1, f2, f3, f4⟩ := F.ex
  refine pe_imp (pe_callS f3 hr hg f2 f1.kp f4 (passAt tk) (ha W tk) hdb he hpl) fun σ H Q p => ?_
  exact (zt_bnd (ρ := rhoRs) p).imp fun vs H1 ⟨rs, F, G, Mu, Γ, R, h1, q⟩ => call_end R h1 q
theorem run_kw {W : WX} {pins : List (Addr × Obj)} {σ : St} {H : Hp} {s : Shared} {Q : VK} {f : Addr} {fd : FuncData} {us ws : List Value} {vs zs : List V} {kn : List Str} {pm : List Nat} {sp : Sp} (F : FnOk X.prog X.w X.K X.mg X.base (L2.CX X.prog X.w) k f fd ps sp) (hr : Room k X.A) (tk : Takes X W)
    (hb : BindsTo s fd ⟨us, kn.zip ws⟩ (ps.zip (pick pm (us ++ ws)))) (I : Inv X pins σ H s) (r : Vals vs us) (rz : Vals zs ws) (h : sp (pick pm (vs ++ zs)) H Q (WE W σ)) : wpAny (model X.prog X.w) X.A (call (.ref f) us (kn.zip ws)) (EP X pins σ Q) X.xe s := by
  refine wpAny_call (codeAny_mono (F.run X.A X.stack s H ⟨us, kn.zip ws⟩ _ _ Q (WE W σ) hr I.env0 hb (vals_pick (r.append rz) pm) h) fun r s' hq => ?_)
  cases r with
  | error e => exact passAt tk σ pins H s e s' I hq
  | ok fl =>
    cases fl with
    | ret u => exact I.after hq
    | next => exact False.elim hq
    | brk => exact False.elim hq
    | cont => exact False.elim hq
theorem dr_fnK0 (F : FnP X.prog X.w X.K X.mg X.base x st k ps ks φ) (hr : Room k X.A) (hg : Gl X x) (kn : List Str) (pm : List Nat) {n : M (List Rs)} (hkw : DKs X kws n)
    (hb : ∀ (qual : Str) (kV doc pm' : Value) (an : Option Addr) (cdv ct : Value) (ws : List Value), ws.length = kn.length → bindArgs (PySem.W.fnOf x qual (defArgs st) (defBody st) (defScope st) .none kV doc pm' an cdv ct) ⟨[], kn.zip ws⟩ = pure (ps.zip (pick pm ([] ++ ws))))
    (hall : (backToKw pos (keywordEach kws X.env)).all (·.1.isSome) = true := by rfl) (hks : (backToKw pos (keywordEach kws X.env)).filterMap (·.1) = kn := by rfl)
    (hln : ∀ W σ H Q, Takes X W → zt X W rhoRs n σ H Q → zt X W rhoRs n σ H fun vs H' => vs.length = kn.length ∧ Q vs H')
    (hdb : (x == ("__debug__" : Str)) = false := by decide)
    (hpl : ((backTo pos (starEach [] X.env)).any (·.1) || (backToKw pos (keywordEach kws X.env)).any (·.1.isNone)) = false := by rfl) :
    DR X (.Call (.Name x p) [] kws pos) (callK ks φ pm vNil n) := fun W tk => by
  obtain ⟨f, fd, qual, f1, f2, f3, f4⟩ := F.ex
  obtain ⟨oc, od, kV, doc, pm', an, cdv, ct, osl, efd, lk, hcd⟩ := f1.ex
  refine ⟨fun pins s σ H Q I q => ?_⟩
  refine wpAny_Call_Name_kw (ld_glob I hg f2 ?_ hdb)
  have q1 : zt X W rhoRs n σ H fun zs H2 => spF X.K X.mg ks φ (pick pm ([] ++ zs)) H2 Q (WE W σ) :=
    (zt_bnd (ρ := rhoRs) (m := n) (f := fun rs' => callM ks φ (pick pm ([] ++ rs'))) q).imp fun zs H2 ⟨rs', F, G, Mu, Γ, R, h2, q2⟩ => call_end R (rsAll_pick (rsAll_append (rs := []) (vs := []) rfl h2) pm) q2
  refine PySem.W.callWith_KW0 (h₀ := X.base) I.ok.mod.kin f1.kp hall ?_ hpl
  refine thn ((hkw W tk).run pos pins s σ H _ I (hln W σ H _ tk q1)) fun ws s2 ⟨zs, H2, I2, rz, l2, q2⟩ => ⟨I2.kIn, ?_⟩
  rw [hks]
  exact run_kw (us := []) (vs := []) f3 hr tk (.of_eq (by rw [efd]; exact hb qual kV doc pm' an cdv ct ws (by rw [← rz.length, l2]))) I2 .nil rz q2
end
/-- how many values a list of arguments gives -/
def Len (n : Nat) (m : M (List Rs)) : Prop := ∀ g rs g', m g = .ok rs g' → rs.length = n
theorem len_nil : Len 0 vNil := fun g rs g' e => by
  cases e
  rfl
theorem len_cons {m : M Rs} {k : M (List Rs)} {n : Nat} (h : Len n k) : Len (n + 1) (vCons m k) := fun g rs g' e => by
  unfold vCons bnd at e
  cases e1 : m g with
  | bad => rw [e1] at e; cases e
  | ex c x g1 => rw [e1] at e; cases e
  | ok x g1 =>
    rw [e1] at e
    dsimp only at e
    cases e2 : k g1 with
    | bad => rw [e2] at e; cases e
    | ex c x g1 => rw [e2] at e; cases e
    | ok xs g2 =>
      rw [e2] at e
      cases e
      rw [List.length_cons, h _ _ _ e2]
theorem len_zt {X : Cx} {W : WX} {σ : St} {H : Hp} {m : M (List Rs)} {n : Nat} {Q : List V → Hp → Prop} (h : Len n m) (p : zt X W rhoRs m σ H Q) : zt X W rhoRs m σ H fun vs H' => vs.length = n ∧ Q vs H' := by
  obtain ⟨F, G, Mu, Γ, R, q⟩ := p
  refine ⟨F, G, Mu, Γ, R, ?_⟩
  cases e : m Γ with
  | bad => rw [e] at q; exact q
  | ex c x Γ1 => rw [e] at q; exact q
  | ok rs Γ1 =>
    rw [e] at q
    exact fun vs H1 G1 k1 R1 k2 => ⟨by rw [← rsAll_len k2, h Γ rs Γ1 e], q vs H1 G1 k1 R1 k2⟩

def rtD : Rt → M D
  | .d x => rt x
  | .own xs => rt (.list xs)
def rtO : Rt → M (List D)
  | .own xs => rt xs
  | _ => fun _ => .bad
def rD (m : M Rt) : M D := bnd m rtD
def rO (m : M Rt) : M (List D) := bnd m rtO
def msR (m : M Rt) (n : M (List Rt)) : M (List Rt) := bnd m fun r => bnd n fun rs => rt (r :: rs)
def sExprR (m : M Rt) : M Fl := bnd m fun _ => sNx
def sRetR (m : M Rt) : M Fl := bnd m fun r => fun g => .ok (.rt r) g
def sSetR (i : Nat) (m : M Rt) : M Fl := bnd m fun r => fun g => match r with
  | .d x => .ok .nx (g.set i (.d x))
  | .own xs => .ok .nx (g.set i (.own false xs))
section
variable {X : Cx} {e : Expr} {es : List Expr} {pos pos' : Pos} {x : Str} {i : Nat}
theorem dp_ofR {m : M Rt} (h : DR X e m) : DP X e (rD m) := fun W tk => pe_imp (h W tk) fun σ H Q p => (zt_bnd (ρ := rhoT) p).imp fun v H1 ⟨r, F, G, Mu, Γ, R, h1, q⟩ => by
  cases r with
  | d x => exact zpost_ok R (show rhoD _ _ _ _ _ _ _ x v from h1) q
  | own xs =>
    obtain ⟨G', k1, R', k2⟩ := R.keep (show rhoO _ _ _ _ _ _ _ xs v from h1)
    exact q v H1 G' k1 R' k2
theorem dms_r {m : M Rt} {n : M (List Rt)} (h : DR X e m) (k : DMs X es n) (hs : starEach (e :: es) X.env = (false, eval e X.env) :: starEach es X.env := by rfl) : DMs X (e :: es) (msR m n) := fun W tk => by
  refine pa_imp (pa_cons (h W tk) (k W tk) hs) fun σ H Q p => ?_
  refine (zt_bnd (ρ := rhoT) p).imp fun v H1 ⟨r, F, G, Mu, Γ, R, h1, q⟩ => ?_
  cases r with
  | d x =>
    refine ⟨F, G, Mu, Γ, R, ?_⟩
    unfold bnd at q
    cases e1 : n Γ with
    | bad => rw [e1] at q; exact q
    | ex c y Γ1 => rw [e1] at q; exact q
    | ok rs Γ1 =>
      rw [e1] at q
      exact fun vs H2 G2 k1 R2 k2 => q (v :: vs) H2 G2 k1 R2 ⟨v, vs, rfl, dp_mono k1 _ _ h1, k2⟩
  | own xs =>
    obtain ⟨l, us, ev, o1, o2, o3, o4, o5, o6⟩ := (show rhoO _ _ _ _ _ _ _ xs v from h1)
    subst ev
    refine ⟨F.lock l _ o3, G, Mu, Γ, R.lock o3 o1 o4 o5 o6, ?_⟩
    unfold bnd at q
    cases e1 : n Γ with
    | bad => rw [e1] at q; exact q
    | ex c x Γ1 =>
      rw [e1] at q
      exact fun C a v H' G' w1 w2 w3 w4 w5 w6 => q C a v H' G' w1 w2 w3.unlock.1 w4 w5 (Fr.lock_back w6)
    | ok rs Γ1 =>
      rw [e1] at q
      intro vs H2 G2 k1 R2 k2
      obtain ⟨R3, j1, j2, j3, j4⟩ := R2.unlock
      obtain ⟨a1, a2⟩ := rtAll_unlock k2
      exact q (.ref l :: vs) H2 G2 k1 R3 ⟨.ref l, vs, rfl, ⟨l, us, rfl, j1, dpAll_mono k1 _ _ o2, o3, j2, j3, j4⟩, a2, a1⟩
theorem ds_exprR {m : M Rt} (h : DR X e m) (hs : swapsWith e none pos.line X.env = pure false := by rfl) : DS X (.Expr e pos) (sExprR m) := fun W tk => ps_imp (ps_expr (h W tk) hs) fun D σ H p =>
  (st_bnd (ρ := rhoT) p).imp fun v H1 ⟨r, F, G, Mu, Γ, R, _, q⟩ => q σ H1 G (Same.refl _) R
theorem ds_retR {m : M Rt} (h : DR X e m) : DS X (.Return (some e) pos) (sRetR m) := fun W tk => ps_imp (ps_ret (h W tk)) fun D σ H p =>
  (st_bnd (ρ := rhoT) p).imp fun v H1 ⟨r, F, G, Mu, Γ, R, h1, q⟩ => q v σ H1 G (Same.refl _) R h1
theorem ds_setR {m : M Rt} (hN : X.N.Nodup) (hi : X.N[i]? = some x) (hx : Loc X.env.scope x) (h : DR X e m) (hs : swapsWith e (some (.Name x pos')) pos.line X.env = pure false := by rfl)
    (hf : X.fn x = true ∨ X.env.scope.names.lookup x = some .local := by first | exact .inl rfl | exact .inr rfl | assumption) : DS X (.Assign [.Name x pos'] e pos) (sSetR i m) := fun W tk =>
  ps_imp (ps_set hN hi hx (h W tk) hs hf) fun D σ H p => (st_bnd (ρ := rhoT) p).imp fun v H1 ⟨r, F, G, Mu, Γ, R, h1, q⟩ => by
    cases r with
    | d y => exact q _ H1 G (Same.refl _) (R.store (sv := .d y) ⟨v, rfl, h1⟩ fun z => nomatch z)
    | own xs => exact q _ H1 G (Same.refl _) (R.storeO h1 i)
end
end Z

set_option Elab.async false
set_option linter.all false
set_option maxRecDepth 100000
set_option autoImplicit false
set_option maxHeartbeats 1000000
namespace Z
open PySem PySem.Spec PyProof.Rows L2

def isTup1 : D → Bool
  | .tuple (_ :: _) => true
  | _ => false
def plainS : D → Bool
  | .none => false
  | .tuple _ => false
  | _ => true
def okSort (xs : List D) : Bool := (xs.all fun d => xs.all (PySem.W.alike d)) && (xs.all isTup1 || xs.all plainS) && decide (xs.length ≤ sizeLine) && xs.all fun d => decide (d.depth ≤ 30)
def sortD (xs : List D) : List D := xs.mergeSort (PySem.W.dataLe false id)
def fSorted : List D → Option (List D)
  | [.list xs] => if okSort xs then some (sortD xs) else none
  | [.tuple xs] => if okSort xs then some (sortD xs) else none
  | _ => none
theorem okSort_ok {xs : List D} (h : okSort xs = true) : PySem.W.AllAlike xs ∧ PySem.W.Sortable xs ∧ xs.length ≤ sizeLine ∧ ∀ d, d ∈ xs → d.depth ≤ 30 := by
  unfold okSort at h
  simp only [Bool.and_eq_true, decide_eq_true_eq, List.all_eq_true, Bool.or_eq_true] at h
  obtain ⟨⟨⟨h1, h2⟩, h3⟩, h4⟩ := h
  refine ⟨fun d hd d' hd' => h1 d hd d' hd', ?_, h3, h4⟩
  rcases h2 with h2 | h2
  · refine .inl fun d hd => ?_
    have := h2 d hd
    unfold isTup1 at this
    split at this
    · exact ⟨_, _, rfl⟩
    · cases this
  · refine .inr fun d hd => ?_
    have := h2 d hd
    refine ⟨fun e => ?_, fun ys e => ?_⟩
    · rw [e] at this
      cases this
    · rw [e] at this
      cases this
section
variable {prog : Program} {w : World} {A : Around} {E : Value → Shared → Prop} {s : Shared}
open PySem.W PySem.Calls in
theorem sorted_any {it : Addr} {T : String} {o : Obj} {n : Nat} {vs : List Value} {xs : List D} {R : Value → D → Prop} {Q : Value → Shared → Prop} (hT : T = "list" ∨ T = "tuple") (ho : s.heap.get? it = some o) (hc : o.cls = .type T) (hd : o.data = .seq vs.toArray n)
    (e : EachIs R vs xs) (er : EachIs (fun v b => ∃ as, Reads s.heap v b as) vs xs) (hok : okSort xs = true) (hu : A.units + 2 + 30 < cLine)
    (h : ∀ (h1 h' : Heap) (out : List Value) (c : Nat), (∀ b ob, s.heap.get? b = some ob → h1.get? b = some ob) → (∀ b ob, h1.get? b = some ob → h'.get? b = some ob) → h'.get? h1.objs.size = some (seqObj "list" out.toArray c) → EachIs R out (sortD xs) → Q (.ref h1.objs.size) { s with heap := h' }) :
    wpAny (model prog w) A (call (.builtin "sorted") [.ref it]) Q E s := by
  obtain ⟨hal, hk, hL, hdp⟩ := okSort_ok hok
  have hlen : vs.length ≤ sizeLine := by rw [e.length]; exact hL
  refine call_function_entry_kw kind_sorted plain_sorted entry_sorted (args_sorted1 _) ?_
  unfold Builtin.«sorted»
  refine wpAny_bind (m := checkCount "sorted" 1 1 _) (wpAny_pure ?_)
  refine wpAny_bind (wpAny_collect_seq (hsz := by rw [List.size_toArray]; exact hlen) it hT ho hc hd fun h1 k1 => ?_)
  refine wpAny_bind (wpAny_newList ?_ hlen)
  show wpAny (model prog w) _ _ _ _ { s with heap := h1.push (seqObj "list" vs.toArray 0) }
  have ho2 : (h1.push (seqObj "list" vs.toArray 0)).get? h1.objs.size = some (seqObj "list" vs.toArray 0) := Heap.get?_push_size _ rfl
  have k2 : ∀ b ob, s.heap.get? b = some ob → (sortingHeap (h1.push (seqObj "list" vs.toArray 0)) h1.objs.size vs).get? b = some ob := fun b ob q => sortingHeap_old (Nat.ne_of_lt (Heap.lt_size (k1 b ob q))) (Heap.get?_push_of_some _ (k1 b ob q))
  have er' : EachIs (fun v d => ∃ as, Reads (sortingHeap (h1.push (seqObj "list" vs.toArray 0)) h1.objs.size vs) v d as) vs xs := er.mono fun _ _ ⟨as, r⟩ => ⟨as, PyProof.Rows.Reads.keeps k2 r⟩
  refine wpAny_bind (wpAny_holding (wpAny_call_entry_kw slot_list_sort ⟨_, ho2, rfl⟩ entry_list_sort ?body (args_list_sort _)))
  case body =>
    have S := SortsAt.data (prog := prog) (w := w) (A := A.in1.in1) (s := { s with heap := sortingHeap (h1.push (seqObj "list" vs.toArray 0)) h1.objs.size vs }) er' hal hk fun d hd => by
      have := hdp d hd
      show A.units + 2 + d.depth < cLine
      omega
    refine list_sort_vals (s := { s with heap := h1.push (seqObj "list" vs.toArray 0) }) ho2 S hlen ?_
    refine ⟨_, rfl, wpAny_pure ?_⟩
    obtain ⟨c, hc'⟩ := sortedHeap_at (h := h1.push (seqObj "list" vs.toArray 0)) (a := h1.objs.size) (vs := vs) (n := 0) (out := (sortVals (dataKind (sortingHeap (h1.push (seqObj "list" vs.toArray 0)) h1.objs.size vs) xs) false vs vs).toArray) ho2
    refine ⟨_, rfl, h h1 _ _ c k1 (fun b ob q => ?_) hc' ?_⟩
    · rw [sortedHeap_old (Nat.ne_of_lt (Heap.lt_size q)) (Heap.lt_size (Heap.get?_push_of_some _ q))]
      exact Heap.get?_push_of_some _ q
    · have q := sortVals_data (R := R) (enc := id) (bs := xs) (vs := vs) false e (by exact er') (by rw [List.map_id]; exact hal)
      rw [List.map_id] at q
      exact q
end
end Z

set_option Elab.async false
set_option linter.all false
set_option maxRecDepth 100000
set_option autoImplicit false
set_option maxHeartbeats 1000000
namespace Z
open PySem PySem.Spec PyProof.Rows L2

theorem meets_enum1 {v : Value} {o : Obj} {Hh : Heap → Prop} (B : Begins v o Hh) :
    Meets (Builtin.«enumerate.__new__» ⟨[.type "enumerate", v], []⟩) (fun _ R s => Hh s.heap ∧
      R (.ok (.ret (.ref (s.heap.push o).objs.size))) { s with heap := (s.heap.push o).push { cls := .type "enumerate", data := .fields #[.none, .bool false, .ref s.heap.objs.size, rawInt 0, .none, .none] } }) :=
  .of_wp fun prog w A R s h => by
    obtain ⟨hp, g, d, tk, os⟩ := s
    obtain ⟨h1, h⟩ := h
    have hsub := sub_enumerate
    have go : ∀ {A' : Around} {E : Value → Shared → Prop} {Q : Value → Shared → Prop}, Q (.ref hp.objs.size) ⟨hp.push o, g, d, tk, os⟩ → wpAny (model prog w) A' (pyIter v) Q E ⟨hp, g, d, tk, os⟩ :=
      fun z => B.iter prog w _ _ ⟨hp, g, d, tk, os⟩ _ h1 z
    wp_walk using go
    refine wpAny_stack_any fun st => wpAny_pure ?_
    split
    · rename_i c _ _ _ _ _
      cases (c == Value.type "enumerate") <;>
      · wp_walk using go
        exact ⟨_, rfl, h⟩
    · wp_walk using go
      exact ⟨_, rfl, h⟩
def IteT (K : PySem.W.Frag) (a : Addr) (n : Nat) : It :=
  ⟨fun i H => ∃ (xs : List V) (x : V), SqT K H a xs ∧ xs.length = n ∧ xs[i]? = some x, fun i H v H' => ∃ T x, v = .ref T ∧ H T = none ∧ H' = upd H T (.tup [.int (i : Nat), x]) ∧ ∀ xs, SqT K H a xs → xs[i]? = some x, fun i H => ∃ xs : List V, SqT K H a xs ∧ xs.length = n ∧ n ≤ i⟩
theorem turn_enumT {P : Program} {w : World} {K : PySem.W.Frag} {elts : List Expr} {kk : Nat} {tpos : Pos} (a e it : Addr) (n : Nat) :
    Turn P w K (.Tuple elts kk tpos) (IteT K a n) [e, it] e (fun i h => (∃ old, IsEnum h e it ((i : Nat) : Int) old) ∧ h.IsTupleIter it a i ∧ e ≠ it ∧ i ≤ n) where
  mem := List.mem_cons_self
  obj := fun i h st b hb => by
    obtain ⟨⟨old, he⟩, ⟨o, ho, hc, hd⟩, _, _⟩ := st
    rcases List.mem_cons.mp hb with z | z
    · rw [z]; exact ⟨_, he, fun v q => nomatch q⟩
    · rw [List.mem_singleton.mp z]; exact ⟨o, ho, fun v q => by rw [hd] at q; cases q⟩
  keep := fun i h h' st k => by
    obtain ⟨⟨old, he⟩, hi, hne, hin⟩ := st
    exact ⟨⟨old, k e List.mem_cons_self _ he⟩, hi.at fun o q => k it (List.mem_cons_of_mem _ List.mem_cons_self) o q, hne, hin⟩
  item := by
    intro X hP hw hK hc i pins s σ H E I hf st hg
    subst hP hw hK
    obtain ⟨⟨old, he⟩, hit, hne, hin⟩ := st
    obtain ⟨xs, x, hq, hn, hx⟩ := hg
    obtain ⟨its, rv, p, hz⟩ := I.tuple hq
    obtain ⟨u, hu, ru⟩ := rv.get hx
    have hel : e < s.heap.objs.size := Heap.lt_size he
    have hil : it < s.heap.objs.size := by obtain ⟨_, q, _⟩ := hit; exact Heap.lt_size q
    have pt : s.heap.IsTuple a its.toArray := p
    have hai : a ≠ it := fun z => by
      obtain ⟨o1, e1, c1, _⟩ := pt
      obtain ⟨o2, e2, c2, _⟩ := hit
      rw [z, e2] at e1
      cases e1
      rw [c1] at c2
      injection c2 with c2
      exact absurd c2 (by decide)
    have hae : a ≠ e := fun z => by
      obtain ⟨o1, e1, c1, _⟩ := pt
      rw [z, he] at e1
      cases e1
      injection c1 with c1
      exact absurd c1 (by decide)
    have Dr := Draws.tuple (prog := X.prog) (w := X.w) (A := X.A.in1) (I.ok.hd hc) it a hai its.toArray
    have hlt : i < its.toArray.size := by
      rw [List.size_toArray]
      exact (List.getElem?_eq_some_iff.mp hu).1
    refine wpAny_pyNext_enum_itemD Dr he ⟨hit, pt⟩ hlt hne (fun z => ?_) fun x' h' tk hP ho hst hT hsz hk => ?_
    · rcases List.mem_cons.mp z with z | z
      · exact hne z
      · exact hae (List.mem_singleton.mp z).symm
    have ex : x' = u := by
      have hP' : its.toArray[i]? = some x' := hP
      rw [List.getElem?_toArray, hu] at hP'
      exact (Option.some.inj hP').symm
    subst ex
    refine ⟨_, rfl, wpAny_letOwnedTupleGo_enum (s := { s with heap := h', toks := tk + 1 }) ho fun h'' he' sb => ?_⟩
    have hT2 : h''.get? s.heap.objs.size = some { cls := .type "tuple", data := .seq #[.int i tk, x'] } := (sb.2 _ (Nat.ne_of_gt hel)).trans hT
    have new : ObjOk X.prog X.w (upd H s.heap.objs.size (.tup [.int (i : Nat), x])) h'' s.heap.objs.size (.tup [.int (i : Nat), x]) :=
      ⟨show 2 ≤ sizeLine by decide, [.int i tk, x'], .cons ⟨_, rfl⟩ (.cons ru .nil), _, hT2, rfl, _, rfl⟩
    have old2 : ∀ b ob, b ∉ [e, it] → s.heap.get? b = some ob → h''.get? b = some ob := fun b ob hb q => (sb.2 b (fun z => hb (by rw [z]; exact List.mem_cons_self))).trans (hk b ob (fun z => hb (by rw [z]; exact List.mem_cons_self)) (fun z => hb (by rw [z]; exact List.mem_cons_of_mem _ List.mem_cons_self)) q)
    have I1 : L2.Inv X pins σ (upd H s.heap.objs.size (.tup [.int (i : Nat), x])) { s with heap := h'', toks := tk + 1 } := I.turnedNew (ch := [e, it]) old2 hf (Nat.le_refl _) new
    refine ⟨.ref s.heap.objs.size, _, I1, rfl, ⟨_, x, rfl, I.hok.fresh (Nat.le_refl _), rfl, fun ys hy => ?_⟩, ⟨⟨x', ?_⟩, hst.1.at fun o q => (sb.2 it (Ne.symm hne)).trans q, hne, by rw [← hn]; exact (List.getElem?_eq_some_iff.mp hx).1⟩, fun b hb => ?_⟩
    · rw [I.tuple_inj hy hq]
      exact hx
    · have e1 : ((i + 1 : Nat) : Int) = (i : Int) + 1 := Int.natCast_succ i
      rw [e1]
      exact he'
    · have hb' : b < s.heap.objs.size := by
        rcases List.mem_cons.mp hb with z | z
        · rw [z]; exact hel
        · rw [List.mem_singleton.mp z]; exact hil
      rw [upd_ne (Nat.ne_of_lt hb')]
      exact (hf b hb).1
  done := by
    intro X hP hw hK hc i pins s σ H E I hf st hg
    subst hP hw hK
    obtain ⟨⟨old, he⟩, hit, hne, hin⟩ := st
    obtain ⟨xs, hq, hn, hx⟩ := hg
    obtain ⟨its, rv, p, hz⟩ := I.tuple hq
    obtain ⟨f0, f1, f2, f3, f4, f5⟩ := hf it (List.mem_cons_of_mem _ List.mem_cons_self)
    have pt : s.heap.IsTuple a its.toArray := p
    have hai : a ≠ it := fun z => by
      obtain ⟨o1, e1, c1, _⟩ := pt
      obtain ⟨o2, e2, c2, _⟩ := hit
      rw [z, e2] at e1
      cases e1
      rw [c1] at c2
      injection c2 with c2
      exact absurd c2 (by decide)
    have Dr := Draws.tuple (prog := X.prog) (w := X.w) (A := X.A.in1) (I.ok.hd hc) it a hai its.toArray
    have en : its.toArray.size = i := by
      rw [List.size_toArray, ← rv.length, hn]
      exact Nat.le_antisymm hx hin
    exact wpAny_pyNext_enum_endD Dr he (show s.heap.IsTupleIter it a its.toArray.size ∧ _ by rw [en]; exact ⟨hit, pt⟩) fun h' eb => ⟨rfl, I.turned (t' := s.toks) (fun b o hb q => eb b o hb q) f0 f1 f3 f4 f5⟩
  self := fun A i s Q E st h => by
    obtain ⟨⟨_, he⟩, _⟩ := st
    exact wpAny_pyIter_enum he h
theorem call_enumT {prog : Program} {w : World} {A : Around} {E : Value → Shared → Prop} {s : Shared} {a : Addr} {items : Array Value} {Q : Value → Shared → Prop} (ht : s.heap.IsTuple a items)
    (h : ∀ h', IsEnum h' (s.heap.objs.size + 1) s.heap.objs.size 0 .none → h'.IsTupleIter s.heap.objs.size a 0 → (∀ b o, s.heap.get? b = some o → h'.get? b = some o) → Q (.ref (s.heap.objs.size + 1)) { s with heap := h' }) :
    wpAny (model prog w) A (call (.type "enumerate") [.ref a]) Q E s := by
  refine callType_new F.called_enumerate (by decide) (F.typeCall_enumerate_1 _) (F.newCall_enumerate_1 _) (fun obj => F.args_object_init_2 obj _) F.entry_enumerate_new (meets_enum1 (begins_tuple a items)) ⟨ht, ?_⟩
  have hz : (s.heap.push { cls := .type "tuple_iterator", data := .fields #[.ref a, .int 0 0] }).objs.size = s.heap.objs.size + 1 := Heap.size_push ..
  show _ ∧ _
  rw [hz]
  have he : IsEnum ((s.heap.push { cls := .type "tuple_iterator", data := .fields #[.ref a, .int 0 0] }).push { cls := .type "enumerate", data := .fields #[.none, .bool false, .ref s.heap.objs.size, rawInt 0, .none, .none] }) (s.heap.objs.size + 1) s.heap.objs.size 0 .none := by
    rw [← hz]
    exact Heap.get?_push_size _ rfl
  exact ⟨⟨_, he, rfl⟩, h _ he ⟨_, Heap.get?_push_of_some _ (Heap.get?_push_size _ rfl), rfl, rfl⟩ fun b o x => Heap.get?_push_of_some _ (Heap.get?_push_of_some _ x)⟩

def enumD : Nat → List D → List D
  | _, [] => []
  | i, x :: xs => .tuple [.int (i : Nat), x] :: enumD (i + 1) xs
theorem enumD_len : ∀ {xs : List D} {i : Nat}, (enumD i xs).length = xs.length
  | [], _ => rfl
  | x :: xs, i => by
    unfold enumD
    rw [List.length_cons, List.length_cons, enumD_len]
theorem enumD_get : ∀ {xs : List D} {i j : Nat} {x : D}, xs[j]? = some x → (enumD i xs)[j]? = some (.tuple [.int ((i + j : Nat) : Int), x])
  | [], _, _, _, h => by simp at h
  | x :: xs, i, 0, _, h => by
    simp at h
    subst h
    rfl
  | x :: xs, i, j + 1, y, h => by
    have := enumD_get (xs := xs) (i := i + 1) (j := j) (x := y) (by simpa using h)
    rw [show i + 1 + j = i + (j + 1) by omega] at this
    simpa [enumD] using this
def iEn (K : PySem.W.Frag) (ta : TA) : TI := fun σ H R => ta σ H fun vs H1 => ∃ a, vs = [.ref a] ∧ ((∃ xs, SqL K H1 a xs ∧ R (Ite K a) H1) ∨ ∃ xs, SqT K H1 a xs ∧ R (IteT K a xs.length) H1)
theorem pi_en {X : Cx} {e : Expr} {ta : TA} {p pos tpos : Pos} {elts : List Expr} {kk : Nat} (hg : Gl X "enumerate") (hm : X.mg "enumerate" = none) (ha : PA X [e] ta) (hs : starEach [e] X.env = [(false, eval e X.env)] := by rfl) :
    PI X (.Tuple elts kk tpos) (.Call (.Name "enumerate" p) [e] [] pos) (iEn X.K ta) := by
  refine ⟨fun pins s σ H R I h => ?_⟩
  refine Call_ (ld_blt I hg hm boot_enumerate (PyProof.Rows.callWith_type1 (thn (ha.run pos pins s σ H _ I h) fun us s1 ⟨vs, H1, I1, r1, q1⟩ => ?_) hs rfl))
  obtain ⟨a, ex, q⟩ := q1
  subst ex
  cases r1 with
  | cons r rr =>
    cases rr
    cases r
    have fp : ∀ b ∈ [s1.heap.objs.size + 1, s1.heap.objs.size], FpOk X pins H1 b := fun b hb => by
      have hle : s1.heap.objs.size ≤ b := by
        rcases List.mem_cons.mp hb with z | z
        · rw [z]; exact Nat.le_succ _
        · rw [List.mem_singleton.mp z]; exact Nat.le_refl _
      exact I1.fpOk hle (I1.hok.fresh hle)
    rcases q with ⟨xs, hq, q⟩ | ⟨xs, hq, q⟩
    · obtain ⟨its, rv, p', _⟩ := I1.list hq
      exact call_enumerate_list p'.isList fun h' he hit _ hk => wpAny_pyIter_enum he ⟨_, _, _, _, H1, rfl, I1.kept (t' := s1.toks) hk, turn_enum a (s1.heap.objs.size + 1) s1.heap.objs.size, ⟨⟨.none, he⟩, hit, Nat.succ_ne_self _⟩, fp, q⟩
    · obtain ⟨its, rv, p', _⟩ := I1.tuple hq
      exact call_enumT (show s1.heap.IsTuple a its.toArray from p') fun h' he hit hk => wpAny_pyIter_enum he ⟨_, _, _, _, H1, rfl, I1.kept (t' := s1.toks) hk, turn_enumT a (s1.heap.objs.size + 1) s1.heap.objs.size _, ⟨⟨.none, he⟩, hit, Nat.succ_ne_self _, Nat.zero_le _⟩, fp, q⟩
theorem src_enum {K : PySem.W.Frag} {F : Fr} {G : Hp} {l : Addr} {vs : List V} {xs : List D} (q : ∀ H, Same F.a H → Same G H → SqL K H l vs) (h : DqAll K G vs xs) : Src true K F G (Ite K l) (enumD 0 xs) := by
  have w := (walk_enum (K := K) (a := l) (xs := vs)).mono (G' := fun H => Same F.a H ∧ Same G H) (Y' := fun i H v H' => ∃ x, (enumD 0 xs)[i]? = some x ∧ YV true K G H v x H') (fun H e => q H e.1 e.2) fun i H v H' hi _ y => by
    obtain ⟨T, x, z, h1, h2, h3, h4, h5⟩ := y
    obtain ⟨d, e1, e2⟩ := dpa_get' h h5
    cases h4
    refine ⟨_, enumD_get e1, T, _, _, h1, rfl, h2, h3, ?_⟩
    rw [Nat.zero_add]
    exact .cons (.int _) (.cons e2 .nil)
  unfold Src
  rw [enumD_len, ← dpa_length h]
  exact w
theorem src_enumT {K : PySem.W.Frag} {F : Fr} {G : Hp} {l : Addr} {vs : List V} {xs : List D} (q : ∀ H, Same F.a H → Same G H → SqT K H l vs) (h : DqAll K G vs xs) : Src true K F G (IteT K l vs.length) (enumD 0 xs) := by
  unfold Src
  rw [enumD_len, ← dpa_length h]
  refine ⟨fun i H hi e => ⟨vs, vs[i], q H e.1 e.2, rfl, by simp [hi]⟩, fun H e => ⟨vs, q H e.1 e.2, rfl, Nat.le_refl _⟩, fun i H v H' hi e y => ?_⟩
  obtain ⟨T, z, h1, h2, h3, h4⟩ := y
  obtain ⟨d, e1, e2⟩ := dpa_get' h (h4 vs (q H e.1 e.2))
  refine ⟨_, enumD_get e1, T, _, _, h1, rfl, h2, h3, ?_⟩
  rw [Nat.zero_add]
  exact .cons (.int _) (.cons e2 .nil)
def iEnV (m : M Rs) : M (List D) := bnd m fun r => bnd (itR r) fun xs => rt (enumD 0 xs)
/-- an iterated value as an argument -/
theorem en_data {X : Cx} {W : WX} {σ : St} {F : Fr} {G H : Hp} {Mu : Option Addr} {Γ : En} {R : It → Hp → Prop} {v : V} {x : D} (Rl : Rel X.K F G Mu Γ σ H) (h : Dq X.K G v x) (q : zpost X W σ (rhoW true) F G Mu R (match seqD x with
      | some xs => .ok (enumD 0 xs) Γ
      | none => .bad)) : ∃ a, v = .ref a ∧ ((∃ vs, SqL X.K H a vs ∧ R (Ite X.K a) H) ∨ ∃ vs, SqT X.K H a vs ∧ R (IteT X.K a vs.length) H) := by
  cases h with
  | lst a b =>
    rename_i l vs xs
    exact ⟨l, rfl, .inl ⟨vs, Rl.gh.seq a, zpost_ok Rl (src_enum (fun H' _ e => e.seq a) b) q⟩⟩
  | tup a b =>
    rename_i l vs xs
    exact ⟨l, rfl, .inr ⟨vs, (a.mono Rl.gh).sq, zpost_ok Rl (src_enumT (fun H' _ e => (a.mono e).sq) b) q⟩⟩
  | _ => exact q.elim
theorem di_enum {X : Cx} {e : Expr} {m : M Rs} {p pos tpos : Pos} {elts : List Expr} {kk : Nat} (hg : Gl X "enumerate") (hm : X.mg "enumerate" = none) (he : DV X e m) (hs : starEach [e] X.env = [(false, eval e X.env)] := by rfl) :
    DI true X (.Tuple elts kk tpos) (.Call (.Name "enumerate" p) [e] [] pos) (iEnV m) := fun W tk =>
  pi_imp (pi_en hg hm (pa_cons (he W tk) pa_nil hs) hs) fun σ H R p => (zt_bnd (ρ := rhoR) p).imp fun v H1 ⟨r, F, G, Mu, Γ, Rl, h1, q⟩ => by
    have fin : ∀ {v : V}, (∃ a, v = .ref a ∧ ((∃ vs, SqL X.K H1 a vs ∧ R (Ite X.K a) H1) ∨ ∃ vs, SqT X.K H1 a vs ∧ R (IteT X.K a vs.length) H1)) → ∃ a, [v] = [.ref a] ∧ ((∃ xs, SqL X.K H1 a xs ∧ R (Ite X.K a) H1) ∨ ∃ xs, SqT X.K H1 a xs ∧ R (IteT X.K a xs.length) H1) := fun {v} ⟨a, e, h⟩ => ⟨a, by rw [e], h⟩
    refine fin ?_
    unfold bnd itR at q
    cases r with
    | d x =>
      refine en_data (W := W) Rl h1 ?_
      dsimp only at q
      cases e1 : seqD x with
      | none => rw [e1] at q; exact q
      | some xs => rw [e1] at q; exact q
    | sl i =>
      have h1' : σ[i]? = some (some v) := h1
      dsimp only at q
      cases hg : Γ[i]? with
      | none => rw [hg] at q; exact q.elim
      | some sv =>
        rw [hg] at q
        cases sv with
        | u => exact q.elim
        | dk ds => exact q.elim
        | d x =>
          obtain ⟨u, k1, k2⟩ := Rl.data hg
          rw [h1'] at k1
          cases k1
          refine en_data (W := W) Rl k2 ?_
          dsimp only at q
          cases e1 : seqD x with
          | none => rw [e1] at q; exact q
          | some xs => rw [e1] at q; exact q
        | a xs =>
          obtain ⟨l, vs, k1, k2, k3⟩ := Rl.arg hg
          rw [h1'] at k1
          cases k1
          exact ⟨l, rfl, .inl ⟨vs, (F.af.trans Rl.fh).seq k2, zpost_ok Rl (src_enum (fun H' e _ => e.seq k2) k3) q⟩⟩
        | own b xs =>
          cases b with
          | true => exact q.elim
          | false =>
            obtain ⟨l, G', k1, R', k2, k3⟩ := Rl.freeze hg
            rw [h1'] at k1
            cases k1
            cases k3 with
            | lst a b => exact ⟨l, rfl, .inl ⟨_, R'.gh.seq a, q _ H1 G' k2 R' (src_enum (fun H' _ e => e.seq a) b)⟩⟩
/-- .. of a new list -/
def iEnO (m : M (List D)) : M (List D) := bnd m fun xs => rt (enumD 0 xs)
theorem di_enumO {X : Cx} {e : Expr} {m : M (List D)} {p pos tpos : Pos} {elts : List Expr} {kk : Nat} (hg : Gl X "enumerate") (hm : X.mg "enumerate" = none) (he : DO X e m) (hs : starEach [e] X.env = [(false, eval e X.env)] := by rfl) :
    DI true X (.Tuple elts kk tpos) (.Call (.Name "enumerate" p) [e] [] pos) (iEnO m) := fun W tk =>
  pi_imp (pi_en hg hm (pa_cons (he W tk) pa_nil hs) hs) fun σ H R p => (zt_bnd (ρ := rhoO) p).imp fun v H1 ⟨xs, F, G, Mu, Γ, Rl, h1, q⟩ => by
    obtain ⟨G2, j1, R2, j2⟩ := Rl.keep h1
    cases j2 with
    | lst a b => exact ⟨_, rfl, .inl ⟨_, R2.gh.seq a, q _ H1 G2 j1 R2 (src_enum (fun H' _ e => e.seq a) b)⟩⟩
end Z

set_option Elab.async false
set_option linter.all false
set_option maxRecDepth 100000
set_option autoImplicit false
set_option maxHeartbeats 1000000
namespace Z
open PySem PySem.Spec PyProof.Rows L2

section
variable {X : Cx}
theorem each_dq {K : PySem.W.Frag} {G : Hp} : ∀ {xs : List D} {vs : List V} {us : List Value}, DqAll K G vs xs → Vals vs us → PySem.W.EachIs (fun u d => ∃ v, RelV v u ∧ Dq K G v d) us xs
  | [], _, _, h, r => by
    cases h
    cases r
    exact .nil
  | d :: xs, _, _, h, r => by
    cases h with
    | cons a b =>
      cases r with
      | cons c e => exact .cons ⟨_, c, a⟩ (each_dq b e)
theorem each_dqP {K : PySem.W.Frag} {G : Hp} : ∀ {xs : List D} {vs : List V} {us : List Value}, (∀ d ∈ xs, d.plain = true) → DqAll K G vs xs → Vals vs us → PySem.W.EachIs (fun u d => ∃ v, RelV v u ∧ Dq K G v d ∧ d.plain = true) us xs
  | [], _, _, _, h, r => by
    cases h
    cases r
    exact .nil
  | d :: xs, _, _, p, h, r => by
    cases h with
    | cons a b =>
      cases r with
      | cons c e => exact .cons ⟨_, c, a, p d List.mem_cons_self⟩ (each_dqP (fun y hy => p y (List.mem_cons_of_mem _ hy)) b e)
mutual
theorem alike_plain : ∀ d : D, PySem.W.alike d d = true → d.plain = true
  | .none, _ => by rw [PyData.plain]
  | .bool _, _ => by rw [PyData.plain]
  | .int _, _ => by rw [PyData.plain]
  | .str _, _ => by rw [PyData.plain]
  | .list xs, h => by
    rw [PyData.plain]
    exact alike_plainA xs (by rw [PySem.W.alike] at h; exact h)
  | .tuple xs, h => by
    rw [PyData.plain]
    exact alike_plainA xs (by rw [PySem.W.alike] at h; exact h)
  | .dict _, h => by
    simp [PySem.W.alike] at h
theorem alike_plainA : ∀ xs : List D, PySem.W.alikeAll xs xs = true → PyData.plainAll xs = true
  | [], _ => by rw [PyData.plainAll]
  | x :: xs, h => by
    rw [PySem.W.alikeAll, Bool.and_eq_true] at h
    rw [PyData.plainAll, Bool.and_eq_true]
    exact ⟨alike_plain x h.1, alike_plainA xs h.2⟩
end
theorem alike_plains {xs : List D} (h : PySem.W.AllAlike xs) : ∀ d ∈ xs, d.plain = true := fun d hd => alike_plain d (h d hd d hd)
theorem dq_each {K : PySem.W.Frag} {G : Hp} : ∀ {xs : List D} {us : List Value}, PySem.W.EachIs (fun u d => ∃ v, RelV v u ∧ Dq K G v d) us xs → ∃ vs, Vals vs us ∧ DqAll K G vs xs
  | [], _, h => by
    cases h
    exact ⟨[], .nil, .nil⟩
  | d :: xs, _, h => by
    cases h with
    | cons a b =>
      obtain ⟨v, h1, h2⟩ := a
      obtain ⟨vs, h3, h4⟩ := dq_each b
      exact ⟨v :: vs, .cons h1 h3, .cons h2 h4⟩
theorem cd_sorted (hu : X.A.units + 64 < cLine) : CallR X (.builtin "sorted") (rON X.K fSorted) := by
  intro pins s σ H vs us Q I r h
  obtain ⟨G, xs, zs, gh, rd, e, q⟩ := h
  have main : ∀ {a : Addr} {T : String} {o : Obj} {n : Nat} {its : List Value} {ws : List V} {ys : List D}, (T = "list" ∨ T = "tuple") → s.heap.get? a = some o → o.cls = .type T → o.data = .seq its.toArray n → Vals ws its → DqAll X.K G ws ys → okSort ys = true → zs = sortD ys →
      wpAny (model X.prog X.w) X.A (call (.builtin "sorted") [.ref a]) (EP X pins σ Q) X.xe s := fun {a T o n its ws ys} hT ho hc hd rv dv ok ez => by
    have er : PySem.W.EachIs (fun u d => ∃ as, Reads s.heap u d as) its ys := (each_dqP (alike_plains (okSort_ok ok).1) dv rv).mono fun u d ⟨v, h1, h2, h3⟩ => Dp.reads I d v u ((dp_mono gh d v h2).dp _ _ h3) h1
    refine sorted_any hT ho hc hd (each_dq dv rv) er ok (by omega) fun h1 h' out c k1 k2 hD he => ?_
    obtain ⟨vs', r1, d1⟩ := dq_each he
    have I1 : L2.Inv X pins σ H { s with heap := h1 } := I.kept (t' := s.toks) k1
    have hz : vs'.length ≤ sizeLine := by
      rw [dpa_length d1]
      obtain ⟨_, _, h3, _⟩ := okSort_ok ok
      unfold sortD
      rw [List.length_mergeSort]
      exact h3
    have I2 : L2.Inv X pins σ (upd H h1.objs.size (.lst vs')) { s with heap := h' } := I1.laid (t' := s.toks) k2 (Nat.le_refl _) (show ObjOk X.prog X.w _ _ _ (.lst vs') from ⟨hz, out, c, r1, hD⟩)
    exact ⟨.ref h1.objs.size, _, I2, rfl, q _ vs' (I1.hok.fresh (Nat.le_refl _)) (by rw [ez]; exact d1)⟩
  unfold fSorted at e
  split at e
  · rename_i ys
    split at e
    · rename_i ok
      cases e
      obtain ⟨v, rfl, rv⟩ := rd.one
      obtain ⟨l, ws, rfl, s1, d1⟩ := rv.list gh
      obtain ⟨u, rfl, rx⟩ := vals1 r
      cases rx
      obtain ⟨its, r', pl, _⟩ := I.list s1
      obtain ⟨o, ho, hc, n, hd⟩ := pl.isList
      exact main (.inl rfl) ho hc hd r' d1 ok rfl
    · cases e
  · rename_i ys
    split at e
    · rename_i ok
      cases e
      obtain ⟨v, rfl, rv⟩ := rd.one
      obtain ⟨l, ws, rfl, s1, d1⟩ := rv.tup gh
      obtain ⟨u, rfl, rx⟩ := vals1 r
      cases rx
      obtain ⟨its, r', pl, _⟩ := I.tuple s1.sq
      obtain ⟨o, ho, hc, n, hd⟩ := pl
      exact main (.inr rfl) ho hc hd r' d1 ok rfl
    · cases e
  · cases e
end

def op2r (f : D → D → Option D) (h : D → D → Option (List D)) (m n : M Rs) : M Rt := bnd m fun r => bnd n fun s => fun g => match vl g r with
  | none => .bad
  | some x => match vl g s with
    | none => .bad
    | some y => match f x y with
      | some z => .ok (.d z) g
      | none => match h x y with
        | some zs => .ok (.own zs) g
        | none => .bad
def cutR (m : M Rs) (a b : M (Option Int)) : M Rt := bnd m fun r => bnd a fun lo => bnd b fun hi => fun g => match vl g r with
  | none => .bad
  | some x => match fCutT x lo hi with
    | some z => .ok (.d z) g
    | none => match fCutL x lo hi with
      | some zs => .ok (.own zs) g
      | none => .bad
section
variable {X : Cx} {a b e : Expr} {pos p2 : Pos} {lo hi : Option Expr}
theorem OpR.both {F : Value → Value → Sem Value} {r r' : R2} (h : OpR X F r) (k : OpR X F r') : OpR X F (fun x y H Q => r x y H Q ∨ r' x y H Q) := by
  intro pins s σ H x y v u Q I rx ry q
  rcases q with q | q
  · exact h pins s σ H x y v u Q I rx ry q
  · exact k pins s σ H x y v u Q I rx ry q
theorem dr_bin {op : Operator} {f : D → D → Option D} {h : D → D → Option (List D)} {m n : M Rs} (ho : OpR X (binaryOp op) (rD2 X.K f)) (ho' : OpR X (binaryOp op) (rO2 X.K h)) (ha : DV X a m) (hb : DV X b n) : DR X (.BinOp a op b pos) (op2r f h m n) := fun W tk =>
  pe_imp (pe_op (OpR.both ho ho') (ha W tk) (hb W tk)) fun σ H Q p => (zt_bnd2 (ρ := rhoR) (ρ' := rhoR) stR p).imp fun v H1 q => q.imp fun u H2 ⟨r, s, F, G, Mu, Γ, R, h1, h2, q2⟩ => by
    cases e1 : vl Γ r with
    | none => rw [e1] at q2; exact q2.elim
    | some x =>
      cases e2 : vl Γ s with
      | none => rw [e1, e2] at q2; exact q2.elim
      | some y =>
        rw [e1, e2] at q2
        dsimp only at q2
        cases e3 : f x y with
        | some z =>
          rw [e3] at q2
          exact .inl ⟨G, x, y, z, R.gh, R.read h1 e1, R.read h2 e2, e3, fun w H' G' ex d => q2 w H' G' ex.g (R.ext ex) d⟩
        | none =>
          rw [e3] at q2
          dsimp only at q2
          cases e4 : h x y with
          | none => rw [e4] at q2; exact q2.elim
          | some zs =>
            rw [e4] at q2
            refine .inr ⟨G, x, y, zs, R.gh, R.read h1 e1, R.read h2 e2, e4, fun l vs n d => ?_⟩
            obtain ⟨R', o⟩ := R.newO n d
            exact q2 _ _ G (Same.refl _) R' o
theorem dr_cut {m : M Rs} {ma mb : M (Option Int)} (h : DV X e m) (ha : DPo X lo ma) (hb : DPo X hi mb) : DR X (.Subscript e (.Slice lo hi none p2) pos) (cutR m ma mb) := fun W tk => by
  refine pe_imp (pe_slice (SlR.or sl_tupZ sl_list) (h W tk) (ha W tk) (hb W tk)) fun σ H Q p => ?_
  refine (zt_bnd3 p).imp fun v H1 q1 => q1.imp fun l H2 q2 => q2.imp fun u H3 ⟨r, F, G, Mu, Γ, R, h1, q⟩ => ?_
  cases e1 : vl Γ r with
  | none => rw [e1] at q; exact q.elim
  | some x =>
    rw [e1] at q
    have rd := R.read h1 e1
    cases x with
    | tuple xs =>
      obtain ⟨a, vs, rfl, s1, d1⟩ := rd.tup R.gh
      have dt : Dq X.K G (.ref a) (.tuple xs) := by
        rcases rd with rd | ⟨_, _, _, _, c, _⟩
        · exact rd
        · cases c
      have n1 := dpa_length d1
      have q' : zpost X W σ rhoT F G Mu Q (.ok (.d (.tuple (cutD xs l u))) Γ) := q
      refine .inl ⟨a, vs, rfl, s1.sq, fun w => ?_, fun _ p o n ho => ?_⟩
      · have : cutD xs l u = xs := by
          unfold cutD
          rw [← n1, w.1, w.2, List.drop_zero, Nat.sub_zero, n1, List.take_length]
        rw [this] at q'
        exact q' _ _ G (Same.refl _) R dt
      · have E := Ext.new (o := .frz o (.tup (cutV vs l u))) R.gh n
        exact q' _ _ _ E.g (R.ext E) (show rhoT _ _ _ _ _ _ _ (.d (.tuple (cutD xs l u))) _ from .tup (.new ho) (dpAll_mono E.g _ _ (dpa_cut l u d1)))
    | list xs =>
      have q' : zpost X W σ rhoT F G Mu Q (.ok (.own (cutD xs l u)) Γ) := q
      obtain ⟨a, vs, rfl, s1, d1⟩ := rd.list R.gh
      refine .inr ⟨a, vs, rfl, s1, fun p n => ?_⟩
      obtain ⟨R', o⟩ := R.newO n (dpa_cut l u d1)
      exact q' _ _ G (Same.refl _) R' o
    | _ => exact q.elim
end
end Z

set_option Elab.async false
set_option linter.all false
set_option maxRecDepth 100000
set_option autoImplicit false
set_option maxHeartbeats 1000000
namespace Z
open PySem PySem.Spec PyProof.Rows L2

def mixR (m : M D) (n : M (List D)) : M Rt := fun g => match m g with
  | .ok x g' => .ok (.d x) g'
  | .ex c x g' => .ex c x g'
  | .bad => match n g with
    | .ok xs g' => .ok (.own xs) g'
    | .ex c x g' => .ex c x g'
    | .bad => .bad
section
variable {X : Cx} {e : Expr} {pos : Pos}
theorem dr_or {m : M D} {n : M (List D)} (h : DP X e m) (k : DO X e n) : DR X e (mixR m n) := fun W tk => ⟨fun pins s σ H Q I ⟨F, G, Mu, Γ, R, q⟩ => by
  unfold mixR at q
  cases e1 : m Γ with
  | ok x g' =>
    rw [e1] at q
    exact (h W tk).run pins s σ H Q I ⟨F, G, Mu, Γ, R, by rw [e1]; exact q⟩
  | ex c x g' =>
    rw [e1] at q
    exact (h W tk).run pins s σ H Q I ⟨F, G, Mu, Γ, R, by rw [e1]; exact q⟩
  | bad =>
    rw [e1] at q
    dsimp only at q
    cases e2 : n Γ with
    | ok x g' =>
      rw [e2] at q
      exact (k W tk).run pins s σ H Q I ⟨F, G, Mu, Γ, R, by rw [e2]; exact q⟩
    | ex c x g' =>
      rw [e2] at q
      exact (k W tk).run pins s σ H Q I ⟨F, G, Mu, Γ, R, by rw [e2]; exact q⟩
    | bad =>
      rw [e2] at q
      exact q.elim⟩
/-- what a proof never comes to -/
def sBad : M Fl := fun _ => .bad
theorem ds_bad {s : Stmt} : DS X s sBad := fun W _ => ps_imp ps_never fun D σ H ⟨F, G, Mu, Γ, R, p⟩ => p
end
theorem passX {P : Program} {w : World} {K : PySem.W.Frag} {mg : Str → Option Value} {base : Heap} {N : List Str} {qual : Str} {scope : Scope} {f : Addr} {cd : Value} {A : Around} {outer : List Env} {s : Shared} {H : Hp} {E : XK} :
    PassesOwn (model (cxOf (L2.CX P w) P w K mg base N qual scope f cd A outer s H E).prog (cxOf (L2.CX P w) P w K mg base N qual scope f cd A outer s H E).w) (cxOf (L2.CX P w) P w K mg base N qual scope f cd A outer s H E).A (cxOf (L2.CX P w) P w K mg base N qual scope f cd A outer s H E).env (cxOf (L2.CX P w) P w K mg base N qual scope f cd A outer s H E).xe := PassesOwn.leaving

inductive Nms (X : Cx) : List Expr → List Nat → Prop where
  | nil : Nms X [] []
  | cons {x : Str} {pos : Pos} {i : Nat} {es : List Expr} {is : List Nat} (hi : X.N[i]? = some x) (hx : Loc X.env.scope x) (hf : X.fn x = true ∨ X.env.scope.names.lookup x = some .local) (hs : (assignEach (.Name x pos :: es) X.env).map (·.2) = assign (.Name x pos) X.env :: (assignEach es X.env).map (·.2)) (h : Nms X es is) : Nms X (.Name x pos :: es) (i :: is)
def dTupRg3 (m : M (List Rs)) : M D := bnd m fun rs => fun g => match vls g rs with
  | some [.int i, .int j, .int c] => if rgLim i ∧ rgLim j ∧ c = -1 ∧ (i - j).toNat ≤ 16777216 then .ok (.tuple (rngD i (-1) (i - j).toNat)) g else .bad
  | _ => .bad
def rngV (lo c : Int) (n : Nat) : List V := (List.range n).map fun (i : Nat) => .int (lo + (i : Int) * c)
theorem dpa_rng {K : PySem.W.Frag} {G : Hp} (lo c : Int) (n : Nat) : DqAll K G (rngV lo c n) (rngD lo c n) := by
  have e1 : rngV lo c n = ((List.range n).map fun (i : Nat) => lo + (i : Int) * c).map V.int := by simp [rngV]
  have e2 : rngD lo c n = ((List.range n).map fun (i : Nat) => lo + (i : Int) * c).map PyData.int := by simp [rngD]
  rw [e1, e2]
  exact dpa_ints _
theorem vals_rng {lo c : Int} {n : Nat} {acc : Array Value} (h : ItemsOf (fun i v => ∃ t, v = .int (lo + i * c) t) acc n) : Vals (rngV lo c n) acc.toList := by
  have e : acc.toList.length = n := by rw [Array.length_toList, h.1]
  unfold rngV
  rw [← e]
  refine vals_of_get acc.toList _ fun j u hj => ?_
  rw [Array.getElem?_toList] at hj
  exact h.2 j u hj
theorem dp_tupRg3 {X : Cx} {a b c : Expr} {m : M (List Rs)} {p p2 pos pos2 : Pos} (hc : X.calm = true) (hg : Gl X "tuple") (hm : X.mg "tuple" = none) (hg2 : Gl X "range") (hm2 : X.mg "range" = none) (ha : DVs X [a, b, c] m)
    (hs : starEach [a, b, c] X.env = (false, eval a X.env) :: starEach [b, c] X.env := by rfl) (hpl : (backTo pos (starEach [b, c] X.env)).any (·.1) = false := by rfl)
    (na : starEach [.Call (.Name "range" p) [a, b, c] [] pos] X.env = (false, eval (.Call (.Name "range" p) [a, b, c] [] pos) X.env) :: starEach [] X.env := by rfl) :
    DP X (.Call (.Name "tuple" p2) [.Call (.Name "range" p) [a, b, c] [] pos] [] pos2) (dTupRg3 m) := fun W tk => by
  refine ⟨fun pins s σ H Q I h => Call_ (ld_blt I hg hm boot_tuple (PyProof.Rows.callWith_type1 (args_cons (Call_ (ld_blt I hg2 hm2 boot_range (PyProof.Rows.callWith_type1 (thn ((ha W tk).run pos pins s σ H _ I (zt_bnd (ρ := rhoRs) h)) fun us s1 ⟨vs, H1, I1, r1, rs, F, G, Mu, Γ, R, h1, q⟩ => ?_) hs hpl))) na) na))⟩
  split at q
  · rename_i i j k e
    split at q
    · rename_i hj
      obtain ⟨v1, v2, v3, rfl, h2, h3, h4⟩ := (R.reads h1 e).three
      cases h2.int
      cases h3.int
      cases h4.int
      obtain ⟨h5, h6, rfl, h7⟩ := hj
      cases r1 with
      | cons r rr =>
        cases rr with
        | cons r' rr =>
          cases rr with
          | cons r'' rr =>
            cases rr
            obtain ⟨t, rfl⟩ := r
            obtain ⟨t', rfl⟩ := r'
            obtain ⟨t'', rfl⟩ := r''
            obtain ⟨c0, c1, c2, c3⟩ := RgC.neg h5.1 h5.2 h6.1 h6.2
            refine call_range_3 c0 ?_ (.inl (PyProof.noPylong_small c1))
            have I2 : L2.Inv X pins σ H1 { s1 with heap := s1.heap.push { cls := .type "range", data := .fields #[.int i t, .int j t', .int (-1) t''] } } := I1.kept (t' := s1.toks) fun b o e => Heap.get?_push_of_some _ e
            refine args_nil ?_
            refine call_tuple_range (n := (i - j).toNat) (I2.ok.hd hc) (IsRange.new ..) c2 c3 (by omega) fun h' tk acc hk hi => ?_
            have J : L2.Inv X pins σ H1 { s1 with heap := h', toks := tk } := I2.kept hk
            have K2 := laidT (its := acc.toList) (xs := rngV i (-1) (i - j).toNat) (h := h') (tk := tk) J (vals_rng hi) (by rw [dpa_length (dpa_rng (K := X.K) (G := G) i (-1) _), rngD_len, sizeLine_eq]; exact h7)
            rw [Array.toArray_toList] at K2
            have E := Ext.new (o := .frz { cls := .type "tuple", data := .seq acc } (.tup (rngV i (-1) (i - j).toNat))) R.gh (J.hok.fresh (Nat.le_refl _))
            exact ⟨.ref h'.objs.size, _, K2, rfl, q _ _ _ E.g (R.ext E) (show rhoD _ _ _ _ _ _ _ (.tuple _) _ from .tup (.new rfl) (dpa_rng _ _ _))⟩
    · exact q.elim
  · exact q.elim
end Z

set_option Elab.async false
set_option linter.all false
set_option maxRecDepth 100000
set_option autoImplicit false
set_option maxHeartbeats 1000000
namespace Z
open PySem PySem.Spec PyProof.Rows L2
section
variable {X : Cx}
theorem zv (i : Nat) {x : Str} {pos : Pos} (hN : X.N[i]? = some x := by rfl) (hv : Vis X.env.scope x := by first | exact Or.inl rfl | exact Or.inr (Or.inl rfl) | exact Or.inr (Or.inr rfl)) (hd : (x == ("__debug__" : Str)) = false := by decide)
    (hcd : (x == ("__classdict__" : Str)) = false := by decide) : DV X (.Name x pos) (dName i) := dv_name hN hv hd hcd
end
section
variable {P : Program} {w : World} {K : PySem.W.Frag} {mg : Str → Option Value} {base : Heap}
theorem fnP_bad {x : Str} {st : Stmt} {k : Nat} {ps : List Str} {ks : List Pk} {f : Addr} {fd : FuncData} {qual : Str} (Fn : Fun K x qual st f fd) (hm : mg x = some (.ref f)) (hb : Binds K fd ps []) : FnP P w K mg base x st k ps ks (fun _ => .bad) :=
  ⟨f, fd, qual, Fn, hm, ⟨fun vs H Q E ⟨_, _, _, _, _, _, _, q⟩ => q.elim, fun _ _ _ _ _ _ _ _ _ _ _ _ _ ⟨_, _, _, _, _, _, _, q⟩ => q.elim⟩, hb⟩
theorem fnP_mk {x : Str} {stm : Stmt} {f : Addr} {fd : FuncData} {N ps : List Str} {k : Nat} {ks : List Pk} {m : M Fl} (Fn : Fun K x x stm f fd) (hm : mg x = some (.ref f)) (hb : Binds K fd ps []) (S : FnScope N ps (defScope stm)) (hl : ks.length = ps.length) (one : oneM ks = true)
    (body : ∀ (cdv : Value) (A : Around) (outer : List Env) (s : Shared) (H : Hp) (E : XK), Room k (A.deeper (envOfC x (defScope stm) s.heap.objs.size f cdv)) → DSs (cxOf (L2.CX P w) P w K mg base N x (defScope stm) f cdv A outer s H E) (defBody stm) m) :
    FnP P w K mg base x stm (k + 1) ps ks (runF N.length ks m) := ⟨f, fd, x, Fn, hm, fn_ok Fn S hl one body, hb⟩
end
end Z

set_option Elab.async false
set_option linter.all false
set_option maxRecDepth 100000
set_option autoImplicit false
set_option maxHeartbeats 1000000
namespace Z
open PySem PySem.Spec PyProof.Rows L2

def call1 (φ : List D → Out) (m : M (List D)) : M Rt := bnd m fun xs => fun g => match φ [.list xs] with
  | .bad => .bad
  | .ret r _ => .ok r g
  | .ex c x _ => .ex c x g
section
variable {K : PySem.W.Frag} {F : Fr} {G H G' H' : Hp} {Mu : Option Addr} {Γ : En} {σ : St} {l : Addr} {ms : List D}
end
section
variable {X : Cx} {e : Expr} {p pos : Pos} {x : Str} {st : Stmt} {k : Nat} {ps : List Str} {φ : List D → Out}
end
end Z

set_option Elab.async false
set_option linter.all false
set_option maxRecDepth 100000
set_option autoImplicit false
set_option maxHeartbeats 1000000
namespace Z
open PySem PySem.Spec PyProof.Rows L2
def spLaw (K : PySem.W.Frag) : Sp := fun vs H Q _ => ∃ (a : Addr) (ns : List Int), vs = [.ref a] ∧ SqL K H a (ns.map V.int) ∧ ns.length ≤ 63 ∧ ∀ v H', v = .bl true → Q v H'
theorem law_sp {K : PySem.W.Frag} {mg : Str → Option Value} {φ : List D → Out} (h : ∀ ns : List Int, ns.length ≤ 63 → φ [.list (ns.map PyData.int)] = .ret (.d (.bool true)) []) (vs : List V) (H : Hp) (Q : VK) (E : XK) (q : spLaw K vs H Q E) : spF K mg [.v] φ vs H Q E := by
  obtain ⟨a, ns, rfl, hs, hl, q⟩ := q
  refine ⟨fun _ => none, none, [.list (ns.map PyData.int)], (fun _ _ z => by cases z), (fun _ z => by cases z), fun _ => rfl, ⟨_, _, _, _, rfl, rfl, .inr ⟨a, ns.map V.int, ns.map PyData.int, rfl, rfl, ?_, dpa_ints ns⟩, rfl, rfl⟩, ?_⟩
  · rcases hs with (hs | ⟨o, hs⟩) | hs
    · exact .inl (.inl ((del_ne (fun z => by cases z)).trans hs))
    · exact .inl (.inr ⟨o, (del_ne (fun z => by cases z)).trans hs⟩)
    · exact .inr hs
  · rw [h ns hl]
    intro v H' G' _ hr
    cases (show Dq K G' v (.bool true) from hr)
    exact q _ H' rfl
theorem law_fn {P : Program} {w : World} {K : PySem.W.Frag} {mg : Str → Option Value} {base : Heap} {x : Str} {st : Stmt} {k : Nat} {ps : List Str} {φ : List D → Out} {fa : Addr} {fd : FuncData}
    (F : FnP P w K mg base x st k ps [.v] φ) (hm : mg x = some (.ref fa)) (hl : ∃ (oc : Value) (od : Option Addr) (osl : Array (Option Value)), K.lookup fa = some ⟨oc, od, .func fd, osl⟩)
    (h : ∀ ns : List Int, ns.length ≤ 63 → φ [.list (ns.map PyData.int)] = .ret (.d (.bool true)) []) : FnOk P w K mg base (L2.CX P w) k fa fd ps (spLaw K) := by
  obtain ⟨f, fd', qual, Fn, hm', ok, _⟩ := F.ex
  rw [hm] at hm'
  cases hm'
  obtain ⟨oc, od, osl, e1⟩ := hl
  obtain ⟨oc', od', kV, doc, pm, an, cdv, ct, osl', rfl, e2, _⟩ := Fn.ex
  rw [e1] at e2
  cases e2
  exact ok.imp fun vs H Q E q => law_sp h vs H Q E q
theorem cx_none {P : Program} {w : World} {H : Hp} {s : Shared} {e : Value} {s' : Shared} (h : L2.CX P w [] H s (fun _ _ _ => False) e s') : False := by
  obtain ⟨_, _, _, _, _, _, _, _, _, _, _, _, z⟩ := h
  exact z
end Z

set_option Elab.async false
set_option linter.all false
set_option maxRecDepth 100000
set_option autoImplicit false
set_option maxHeartbeats 1000000
namespace Z
open PySem PySem.Spec PyProof.Rows L2

class Cont (α β : Type) where
  k : α → En → Ro β
def Ro.thn {α β : Type} (r : Ro α) [c : Cont α β] : Ro β := match r with
  | .bad => .bad
  | .ok x g => c.k x g
  | .ex e x g => .ex e x g
theorem thn_ok {α β : Type} (x : α) (g : En) (f : α → En → Ro β) : (Ro.ok x g).thn (c := ⟨f⟩) = f x g := Eq.trans rfl rfl
theorem thn_ex {α β : Type} (c : Str) (x : D) (g : En) (f : Cont α β) : (Ro.ex c x g).thn (c := f) = .ex c x g := Eq.trans rfl rfl
/-- an answer that may lack -/
def oRo {α : Type} (o : Option α) (g : En) : Ro α := match o with
  | some x => .ok x g
  | none => .bad
theorem oRo_some {α : Type} (x : α) (g : En) : oRo (some x) g = .ok x g := Eq.trans rfl rfl
class OCont (α β : Type) where
  k : α → Option β
def oMap {α β : Type} (o : Option α) [c : OCont α β] : Option β := match o with
  | some x => c.k x
  | none => none
theorem oMap_some {α β : Type} (x : α) (f : α → Option β) : oMap (some x) (c := ⟨f⟩) = f x := Eq.trans rfl rfl
/-- a choice -/
def brn {α : Type} (k : Bool) (a b : M α) (g : En) : Ro α := if k = true then a g else b g
theorem brn_t {α : Type} (a b : M α) (g : En) : brn true a b g = a g := Eq.trans rfl rfl
theorem brn_f {α : Type} (a b : M α) (g : En) : brn false a b g = b g := Eq.trans rfl rfl
def bdn {α : Type} (k : Prop) [Decidable k] (a : Ro α) : Ro α := if k then a else .bad
theorem bdn_t {α : Type} {k : Prop} [Decidable k] (a : Ro α) (h : k) : bdn k a = a := if_pos h

def bdz {α : Type} (n : Nat) (a : Ro α) : Ro α := if n ≤ sizeLine then a else .bad
theorem bdz_ok {α : Type} (n : Nat) (a : Ro α) (h : n ≤ sizeLine) : bdz n a = a := if_pos h
section
variable {α β : Type}
theorem bnd_at (m : M α) (f : α → M β) (g : En) : bnd m f g = (m g).thn (c := ⟨f⟩) := Eq.trans rfl rfl
theorem rt_at (x : α) (g : En) : rt x g = .ok x g := Eq.trans rfl rfl
end
/-- what a slot gives -/
def slR (i : Nat) (o : Option SV) (g : En) : Ro Rs := match o with
  | some (.d x) => .ok (.d x) g
  | some (.a _) => .ok (.sl i) g
  | some (.own _ _) => .ok (.sl i) g
  | _ => .bad
theorem dName_at (i : Nat) (g : En) : dName i g = slR i g[i]? g := Eq.trans rfl rfl
theorem slR_d (i : Nat) (x : D) (g : En) : slR i (some (.d x)) g = .ok (.d x) g := Eq.trans rfl rfl
theorem slR_a (i : Nat) (x : List D) (g : En) : slR i (some (.a x)) g = .ok (.sl i) g := Eq.trans rfl rfl
theorem slR_o (i : Nat) (m : Bool) (x : List D) (g : En) : slR i (some (.own m x)) g = .ok (.sl i) g := Eq.trans rfl rfl
def slV (o : Option SV) : Option D := match o with
  | some (.d x) => some x
  | some (.a xs) => some (.list xs)
  | some (.own _ xs) => some (.list xs)
  | _ => none
theorem vl_d (g : En) (x : D) : vl g (.d x) = some x := Eq.trans rfl rfl
theorem vl_s (g : En) (i : Nat) : vl g (.sl i) = slV g[i]? := Eq.trans rfl rfl
theorem slV_d (x : D) : slV (some (.d x)) = some x := Eq.trans rfl rfl
theorem slV_a (x : List D) : slV (some (.a x)) = some (.list x) := Eq.trans rfl rfl
theorem slV_o (m : Bool) (x : List D) : slV (some (.own m x)) = some (.list x) := Eq.trans rfl rfl
theorem dv_at (m : M D) (g : En) : dv m g = (m g).thn (c := ⟨fun x g' => .ok (.d x) g'⟩) := Eq.trans rfl rfl
def escS (i : Nat) (o : Option SV) (g : En) : Ro D := match o with
  | some (.d x) => .ok x g
  | some (.own false xs) => .ok (.list xs) (g.set i (.d (.list xs)))
  | _ => .bad
theorem dEsc_at (m : M Rs) (g : En) : dEsc m g = (m g).thn (c := ⟨esc⟩) := Eq.trans rfl rfl
theorem esc_d (x : D) (g : En) : esc (.d x) g = .ok x g := Eq.trans rfl rfl
theorem esc_s (i : Nat) (g : En) : esc (.sl i) g = escS i g[i]? g := Eq.trans rfl rfl
theorem escS_d (i : Nat) (x : D) (g : En) : escS i (some (.d x)) g = .ok x g := Eq.trans rfl rfl
theorem escS_o (i : Nat) (xs : List D) (g : En) : escS i (some (.own false xs)) g = .ok (.list xs) (g.set i (.d (.list xs))) := Eq.trans rfl rfl
theorem dFz_at (m : M (List D)) (g : En) : dFz m g = (m g).thn (c := ⟨fun xs g' => .ok (.list xs) g'⟩) := Eq.trans rfl rfl
theorem dC_at (x : D) (g : En) : dC x g = .ok x g := Eq.trans rfl rfl
theorem dNil_at (g : En) : dNil g = .ok [] g := Eq.trans rfl rfl
theorem dCons_at (m : M D) (n : M (List D)) (g : En) : dCons m n g = (m g).thn (c := ⟨fun x g1 => (n g1).thn (c := ⟨fun xs g2 => .ok (x :: xs) g2⟩)⟩) := Eq.trans rfl rfl
theorem vNil_at (g : En) : vNil g = .ok [] g := Eq.trans rfl rfl
theorem vCons_at (m : M Rs) (n : M (List Rs)) (g : En) : vCons m n g = (m g).thn (c := ⟨fun x g1 => (n g1).thn (c := ⟨fun xs g2 => .ok (x :: xs) g2⟩)⟩) := Eq.trans rfl rfl
theorem op2_at (f : D → D → Option D) (m n : M Rs) (g : En) : op2 f m n g = (m g).thn (c := ⟨fun r g1 => (n g1).thn (c := ⟨fun s g2 => oRo (oMap (vl g2 r) (c := ⟨fun x => oMap (vl g2 s) (c := ⟨fun y => f x y⟩)⟩)) g2⟩)⟩) := by
  unfold op2 bnd Ro.thn
  cases m g with
  | ok r g1 =>
    dsimp only
    cases n g1 with
    | ok s g2 =>
      dsimp only
      cases vl g2 r with
      | none => rfl
      | some x =>
        cases vl g2 s with
        | none => rfl
        | some y =>
          dsimp only [oMap]
          cases f x y <;> rfl
    | _ => rfl
  | _ => rfl
theorem op2r_at (f : D → D → Option D) (h : D → D → Option (List D)) (m n : M Rs) (g : En) : op2r f h m n g = (m g).thn (c := ⟨fun r g1 => (n g1).thn (c := ⟨fun s g2 => oRo (oMap (vl g2 r) (c := ⟨fun x => oMap (vl g2 s) (c := ⟨fun y => (match f x y with
    | some z => some (Rt.d z)
    | none => match h x y with
      | some zs => some (Rt.own zs)
      | none => none)⟩)⟩)) g2⟩)⟩) := by
  unfold op2r bnd Ro.thn
  cases m g with
  | ok r g1 =>
    dsimp only
    cases n g1 with
    | ok s g2 =>
      dsimp only
      cases vl g2 r with
      | none => rfl
      | some x =>
        cases vl g2 s with
        | none => rfl
        | some y =>
          dsimp only [oMap]
          cases f x y with
          | some z => rfl
          | none => cases h x y <;> rfl
    | _ => rfl
  | _ => rfl
theorem op1_at (f : D → Option D) (m : M Rs) (g : En) : op1 f m g = (m g).thn (c := ⟨fun r g1 => oRo (oMap (vl g1 r) (c := ⟨f⟩)) g1⟩) := by
  unfold op1 bnd Ro.thn
  cases m g with
  | ok r g1 =>
    dsimp only
    cases vl g1 r with
    | none => rfl
    | some x =>
      dsimp only [oMap]
      cases f x <;> rfl
  | _ => rfl
theorem op1o_at (f : D → Option (List D)) (m : M Rs) (g : En) : op1o f m g = (m g).thn (c := ⟨fun r g1 => oRo (oMap (vl g1 r) (c := ⟨f⟩)) g1⟩) := by
  unfold op1o bnd Ro.thn
  cases m g with
  | ok r g1 =>
    dsimp only
    cases vl g1 r with
    | none => rfl
    | some x =>
      dsimp only [oMap]
      cases f x <;> rfl
  | _ => rfl
theorem opN_at (f : List D → Option D) (m : M (List Rs)) (g : En) : opN f m g = (m g).thn (c := ⟨fun rs g1 => oRo (oMap (vls g1 rs) (c := ⟨f⟩)) g1⟩) := by
  unfold opN bnd Ro.thn
  cases m g with
  | ok r g1 =>
    dsimp only
    cases vls g1 r with
    | none => rfl
    | some x =>
      dsimp only [oMap]
      cases f x <;> rfl
  | _ => rfl
theorem opNo_at (f : List D → Option (List D)) (m : M (List Rs)) (g : En) : opNo f m g = (m g).thn (c := ⟨fun rs g1 => oRo (oMap (vls g1 rs) (c := ⟨f⟩)) g1⟩) := by
  unfold opNo bnd Ro.thn
  cases m g with
  | ok r g1 =>
    dsimp only
    cases vls g1 r with
    | none => rfl
    | some x =>
      dsimp only [oMap]
      cases f x <;> rfl
  | _ => rfl
theorem vls_nil (g : En) : vls g [] = some [] := Eq.trans rfl rfl
theorem vls_cons (g : En) (r : Rs) (rs : List Rs) : vls g (r :: rs) = oMap (vl g r) (c := ⟨fun x => oMap (vls g rs) (c := ⟨fun xs => some (x :: xs)⟩)⟩) := by
  rw [vls]
  unfold oMap
  cases vl g r with
  | none => rfl
  | some x => cases vls g rs <;> rfl
theorem cutR_at (m : M Rs) (a b : M (Option Int)) (g : En) : cutR m a b g = (m g).thn (c := ⟨fun r g1 => (a g1).thn (c := ⟨fun lo g2 => (b g2).thn (c := ⟨fun hi g3 => oRo (oMap (vl g3 r) (c := ⟨fun x => match fCutT x lo hi with
    | some z => some (Rt.d z)
    | none => match fCutL x lo hi with
      | some zs => some (Rt.own zs)
      | none => none⟩)) g3⟩)⟩)⟩) := by
  unfold cutR bnd Ro.thn
  cases m g with
  | ok r g1 =>
    dsimp only
    cases a g1 with
    | ok lo g2 =>
      dsimp only
      cases b g2 with
      | ok hi g3 =>
        dsimp only
        cases vl g3 r with
        | none => rfl
        | some x =>
          dsimp only [oMap]
          cases fCutT x lo hi with
          | some z => rfl
          | none => cases fCutL x lo hi <;> rfl
      | _ => rfl
    | _ => rfl
  | _ => rfl
theorem oNone_at (g : En) : oNone g = .ok none g := Eq.trans rfl rfl
theorem oSome_at (m : M D) (g : En) : oSome m g = (m g).thn (c := ⟨fun x g1 => match x with
    | .int i => .ok (some i) g1
    | _ => .bad⟩) := by
  unfold oSome bnd Ro.thn
  cases m g with
  | ok x g1 => cases x <;> rfl
  | _ => rfl
theorem dTup_at (m : M (List D)) (g : En) : dTup m g = (m g).thn (c := ⟨fun xs g1 => bdz xs.length (.ok (.tuple xs) g1)⟩) := by
  unfold dTup bnd Ro.thn bdz
  cases m g with
  | ok x g1 =>
    dsimp only
    split <;> rfl
  | _ => rfl
theorem dLst_at (m : M (List D)) (g : En) : dLst m g = (m g).thn (c := ⟨fun xs g1 => bdz xs.length (.ok xs g1)⟩) := by
  unfold dLst bnd Ro.thn bdz
  cases m g with
  | ok x g1 =>
    dsimp only
    split <;> rfl
  | _ => rfl
def boolD : D → Option Bool
  | .bool b => some b
  | _ => none
theorem dB_at (m : M D) (g : En) : dB m g = (m g).thn (c := ⟨fun x g1 => oRo (boolD x) g1⟩) := by
  unfold dB bnd Ro.thn
  cases m g with
  | ok x g1 => cases x <;> rfl
  | _ => rfl
theorem boolD_b (b : Bool) : boolD (.bool b) = some b := Eq.trans rfl rfl
theorem dNot_at (m : M Bool) (g : En) : dNot m g = (m g).thn (c := ⟨fun b g1 => .ok (!b) g1⟩) := Eq.trans rfl rfl
theorem dAnd_at (m n : M Bool) (g : En) : dAnd m n g = (m g).thn (c := ⟨fun b g1 => brn b n (rt false) g1⟩) := by
  unfold dAnd bnd Ro.thn brn
  cases m g with
  | ok b g1 => cases b <;> rfl
  | _ => rfl
theorem dOr_at (m n : M Bool) (g : En) : dOr m n g = (m g).thn (c := ⟨fun b g1 => brn b (rt true) n g1⟩) := by
  unfold dOr bnd Ro.thn brn
  cases m g with
  | ok b g1 => cases b <;> rfl
  | _ => rfl
theorem dIfE_at (t : M Bool) (m n : M D) (g : En) : dIfE t m n g = (t g).thn (c := ⟨fun b g1 => brn b m n g1⟩) := by
  unfold dIfE bnd Ro.thn brn
  cases t g with
  | ok b g1 => cases b <;> rfl
  | _ => rfl
theorem dAndV_at (m n : M D) (g : En) : dAndV m n g = (m g).thn (c := ⟨fun x g1 => (oRo (boolD x) g1).thn (c := ⟨fun b g2 => brn b n (rt x) g2⟩)⟩) := by
  unfold dAndV bnd Ro.thn brn
  cases m g with
  | ok x g1 =>
    cases x with
    | bool b => cases b <;> rfl
    | _ => rfl
  | _ => rfl
theorem dOrV_at (m n : M D) (g : En) : dOrV m n g = (m g).thn (c := ⟨fun x g1 => (oRo (boolD x) g1).thn (c := ⟨fun b g2 => brn b (rt x) n g2⟩)⟩) := by
  unfold dOrV bnd Ro.thn brn
  cases m g with
  | ok x g1 =>
    cases x with
    | bool b => cases b <;> rfl
    | _ => rfl
  | _ => rfl
theorem dNotV_at (m : M D) (g : En) : dNotV m g = (m g).thn (c := ⟨fun x g1 => (oRo (boolD x) g1).thn (c := ⟨fun b g2 => .ok (.bool (!b)) g2⟩)⟩) := by
  unfold dNotV bnd Ro.thn
  cases m g with
  | ok x g1 => cases x <;> rfl
  | _ => rfl

def dsq (r : Ro Fl) (b : M Fl) : Ro Fl := match r with
  | .ok .nx g => b g
  | o => o
theorem dSeq_at (a b : M Fl) (g : En) : dSeq a b g = dsq (a g) b := by
  unfold dSeq dsq
  cases a g with
  | ok f g1 => cases f <;> rfl
  | _ => rfl
theorem dsq_nx (g : En) (b : M Fl) : dsq (.ok .nx g) b = b g := Eq.trans rfl rfl
theorem dsq_rt (r : Rt) (g : En) (b : M Fl) : dsq (.ok (.rt r) g) b = .ok (.rt r) g := Eq.trans rfl rfl
theorem dsq_bk (g : En) (b : M Fl) : dsq (.ok .bk g) b = .ok .bk g := Eq.trans rfl rfl
theorem dsq_ct (g : En) (b : M Fl) : dsq (.ok .ct g) b = .ok .ct g := Eq.trans rfl rfl
theorem dsq_ex (c : Str) (x : D) (g : En) (b : M Fl) : dsq (.ex c x g) b = .ex c x g := Eq.trans rfl rfl
theorem sNx_at (g : En) : sNx g = .ok .nx g := Eq.trans rfl rfl
theorem sBk_at (g : En) : sBk g = .ok .bk g := Eq.trans rfl rfl
theorem sCt_at (g : En) : sCt g = .ok .ct g := Eq.trans rfl rfl
theorem sExpr_at (m : M D) (g : En) : sExpr m g = (m g).thn (c := ⟨fun _ g1 => .ok .nx g1⟩) := Eq.trans rfl rfl
theorem sRet_at (m : M D) (g : En) : sRet m g = (m g).thn (c := ⟨fun x g1 => .ok (.rt (.d x)) g1⟩) := Eq.trans rfl rfl
theorem sRetO_at (m : M (List D)) (g : En) : sRetO m g = (m g).thn (c := ⟨fun x g1 => .ok (.rt (.own x)) g1⟩) := Eq.trans rfl rfl
theorem sRetN_at (g : En) : sRetN g = .ok (.rt (.d .none)) g := Eq.trans rfl rfl
def retS (i : Nat) (o : Option SV) (g : En) : Ro Fl := match o with
  | some (.own false xs) => .ok (.rt (.own xs)) (g.set i .u)
  | some (.d x) => .ok (.rt (.d x)) g
  | _ => .bad
theorem sRetV_at (i : Nat) (g : En) : sRetV i g = retS i g[i]? g := Eq.trans rfl rfl
theorem retS_d (i : Nat) (x : D) (g : En) : retS i (some (.d x)) g = .ok (.rt (.d x)) g := Eq.trans rfl rfl
theorem retS_o (i : Nat) (xs : List D) (g : En) : retS i (some (.own false xs)) g = .ok (.rt (.own xs)) (g.set i .u) := Eq.trans rfl rfl
theorem sSet_at (i : Nat) (m : M D) (g : En) : sSet i m g = (m g).thn (c := ⟨fun x g1 => .ok .nx (g1.set i (.d x))⟩) := Eq.trans rfl rfl
theorem sSetO_at (i : Nat) (m : M (List D)) (g : En) : sSetO i m g = (m g).thn (c := ⟨fun x g1 => .ok .nx (g1.set i (.own false x))⟩) := Eq.trans rfl rfl
theorem sIf_at (t : M Bool) (a b : M Fl) (g : En) : sIf t a b g = (t g).thn (c := ⟨fun k g1 => brn k a b g1⟩) := by
  unfold sIf bnd Ro.thn brn
  cases t g with
  | ok b g1 => cases b <;> rfl
  | _ => rfl
def ownV (o : Option SV) : Option (Bool × List D) := match o with
  | some (.own b xs) => some (b, xs)
  | _ => none
theorem ownV_o (b : Bool) (xs : List D) : ownV (some (.own b xs)) = some (b, xs) := Eq.trans rfl rfl
def subS (i : Nat) (y : D) (o : Option (Bool × List D)) (v : Option D) (g : En) : Ro Fl := match o, v with
  | some (b, xs), some (.int n) => match ixN xs.length n with
    | some j => .ok .nx (g.set i (.own b (xs.set j y)))
    | none => .bad
  | _, _ => .bad
theorem subS_at (i : Nat) (y : D) (b : Bool) (xs : List D) (n : Int) (g : En) (j : Nat) (h : ixN xs.length n = some j) : subS i y (some (b, xs)) (some (.int n)) g = .ok .nx (g.set i (.own b (xs.set j y))) := by
  unfold subS
  dsimp only
  rw [h]
/-- the list is there -/
class MCont (α : Type) where
  k : M α
def chk {α : Type} (o : Option (Bool × List D)) [c : MCont α] (g : En) : Ro α := match o with
  | some _ => c.k g
  | none => .bad
theorem chk_some {α : Type} (p : Bool × List D) (f : M α) (g : En) : chk (some p) (c := ⟨f⟩) g = f g := Eq.trans rfl rfl
theorem sSub_at (i : Nat) (m : M D) (k : M Rs) (g : En) : sSub i m k g = (m g).thn (c := ⟨fun y g1 => chk (ownV g1[i]?) (c := ⟨fun g1 => (k g1).thn (c := ⟨fun s g2 => subS i y (ownV g2[i]?) (vl g2 s) g2⟩)⟩) g1⟩) := by
  unfold sSub
  rw [bnd_at]
  unfold Ro.thn
  cases m g with
  | ok y g1 =>
    dsimp only
    unfold chk ownV
    cases g1[i]? with
    | none => rfl
    | some sv =>
      cases sv with
      | own b0 xs0 =>
        dsimp only
        unfold bnd
        cases k g1 with
        | ok s g2 =>
          dsimp only
          unfold subS
          cases g2[i]? with
          | none => rfl
          | some sv =>
            cases sv with
            | own b xs =>
              dsimp only
              cases vl g2 s with
              | none => rfl
              | some x => cases x <;> rfl
            | _ => rfl
        | _ => rfl
      | _ => rfl
  | _ => rfl
def mutS (i : Nat) (b : Bool) (o : Option (List D × D)) (g : En) : Ro D := match o with
  | some (ys, r) => .ok r (g.set i (.own b ys))
  | none => .bad
theorem mutS_some (i : Nat) (b : Bool) (ys : List D) (r : D) (g : En) : mutS i b (some (ys, r)) g = .ok r (g.set i (.own b ys)) := Eq.trans rfl rfl
def mutP (f : List D → Option (List D × D)) (i : Nat) (o : Option (Bool × List D)) (g : En) : Ro D := match o with
  | some (b, xs) => mutS i b (f xs) g
  | none => .bad
theorem mutP_some (f : List D → Option (List D × D)) (i : Nat) (b : Bool) (xs : List D) (g : En) : mutP f i (some (b, xs)) g = mutS i b (f xs) g := Eq.trans rfl rfl
theorem dMut_at (i : Nat) (f : List D → List D → Option (List D × D)) (m : M (List D)) (g : En) : dMut i f m g = chk (ownV g[i]?) (c := ⟨fun g => (m g).thn (c := ⟨fun args g' => mutP (fun xs => f xs args) i (ownV g'[i]?) g'⟩)⟩) g := by
  unfold dMut chk ownV
  cases g[i]? with
  | none => rfl
  | some sv =>
    cases sv with
    | own b0 xs0 =>
      dsimp only
      unfold bnd Ro.thn
      cases m g with
      | ok args g' =>
        dsimp only
        unfold mutP mutS
        cases g'[i]? with
        | none => rfl
        | some sv =>
          cases sv with
          | own b xs =>
            dsimp only
            all_goals (cases f xs args <;> rfl)
          | _ => rfl
      | _ => rfl
    | _ => rfl
theorem msNil_at (g : En) : msNil g = .ok [] g := Eq.trans rfl rfl
theorem msD_at (m : M D) (n : M (List Rt)) (g : En) : msD m n g = (m g).thn (c := ⟨fun x g1 => (n g1).thn (c := ⟨fun xs g2 => .ok (.d x :: xs) g2⟩)⟩) := Eq.trans rfl rfl
theorem msO_at (m : M (List D)) (n : M (List Rt)) (g : En) : msO m n g = (m g).thn (c := ⟨fun x g1 => (n g1).thn (c := ⟨fun xs g2 => .ok (.own x :: xs) g2⟩)⟩) := Eq.trans rfl rfl
theorem msR_at (m : M Rt) (n : M (List Rt)) (g : En) : msR m n g = (m g).thn (c := ⟨fun x g1 => (n g1).thn (c := ⟨fun xs g2 => .ok (x :: xs) g2⟩)⟩) := Eq.trans rfl rfl
def gRo (o : Option En) : Ro Fl := match o with
  | some g => .ok .nx g
  | none => .bad
theorem gRo_some (g : En) : gRo (some g) = .ok .nx g := Eq.trans rfl rfl
theorem sPar_at (is : List Nat) (m : M (List Rt)) (g : En) : sPar is m g = (m g).thn (c := ⟨fun rs g1 => gRo (setRs is rs g1)⟩) := Eq.trans rfl rfl
theorem setRs_nil (g : En) : setRs [] [] g = some g := Eq.trans rfl rfl
theorem setRs_d (i : Nat) (is : List Nat) (x : D) (rs : List Rt) (g : En) : setRs (i :: is) (.d x :: rs) g = setRs is rs (g.set i (.d x)) := Eq.trans rfl rfl
theorem setRs_o (i : Nat) (is : List Nat) (x : List D) (rs : List Rt) (g : En) : setRs (i :: is) (.own x :: rs) g = setRs is rs (g.set i (.own false x)) := Eq.trans rfl rfl

theorem callP_at (ks : List Pk) (φ : List D → Out) (m : M (List Rs)) (g : En) : callP ks φ m g = (m g).thn (c := ⟨fun rs g1 => callM ks φ rs g1⟩) := Eq.trans rfl rfl
theorem callK_at (ks : List Pk) (φ : List D → Out) (pm : List Nat) (m n : M (List Rs)) (g : En) : callK ks φ pm m n g = (m g).thn (c := ⟨fun rs g1 => (n g1).thn (c := ⟨fun rs' g2 => callM ks φ (pick pm (rs ++ rs')) g2⟩)⟩) := Eq.trans rfl rfl
def outR (mi : Option Nat) (g : En) (o : Out) : Ro Rt := match o with
  | .bad => .bad
  | .ret r ms => .ok r (putM mi ms g)
  | .ex c x ms => .ex c x (putM mi ms g)
def argO (φ : List D → Out) (o : Option (List D)) : Out := match o with
  | some xs => φ xs
  | none => .bad
theorem argO_some (φ : List D → Out) (xs : List D) : argO φ (some xs) = φ xs := Eq.trans rfl rfl
theorem callM_at (ks : List Pk) (φ : List D → Out) (rs : List Rs) (g : En) : callM ks φ rs g = outR (mIx ks rs) g (argO φ (argD g (mIx ks rs) ks rs)) := by
  unfold callM outR argO
  cases argD g (mIx ks rs) ks rs with
  | none => rfl
  | some xs =>
    dsimp only
    all_goals (cases φ xs <;> rfl)
theorem outR_ret (mi : Option Nat) (g : En) (r : Rt) (ms : List D) : outR mi g (.ret r ms) = .ok r (putM mi ms g) := Eq.trans rfl rfl
theorem outR_ex (mi : Option Nat) (g : En) (c : Str) (x : D) (ms : List D) : outR mi g (.ex c x ms) = .ex c x (putM mi ms g) := Eq.trans rfl rfl
theorem argD_nil (g : En) (mi : Option Nat) : argD g mi [] [] = some [] := Eq.trans rfl rfl
theorem argD_v (g : En) (mi : Option Nat) (ks : List Pk) (x : D) (rs : List Rs) : argD g mi (.v :: ks) (.d x :: rs) = oMap (argD g mi ks rs) (c := ⟨fun xs => some (x :: xs)⟩) := by
  rw [argD]
  unfold oMap
  cases argD g mi ks rs <;> rfl
theorem argD_p (g : En) (mi : Option Nat) (ks : List Pk) (x : D) (rs : List Rs) : argD g mi (.p :: ks) (.d x :: rs) = oMap (argD g mi ks rs) (c := ⟨fun xs => some (x :: xs)⟩) := by
  rw [argD]
  unfold oMap
  cases argD g mi ks rs <;> rfl
theorem argD_vs (g : En) (mi : Option Nat) (ks : List Pk) (i : Nat) (rs : List Rs) (h : mi ≠ some i) : argD g mi (.v :: ks) (.sl i :: rs) = oMap (argD g mi ks rs) (c := ⟨fun xs => oMap (slV g[i]?) (c := ⟨fun x => some (x :: xs)⟩)⟩) := by
  rw [argD]
  unfold oMap
  cases argD g mi ks rs with
  | none => rfl
  | some xs =>
    dsimp only
    rw [if_neg h, vl_s]
    cases slV g[i]? <;> rfl
theorem argD_m (g : En) (ks : List Pk) (i : Nat) (rs : List Rs) : argD g (some i) (.m :: ks) (.sl i :: rs) = oMap (argD g (some i) ks rs) (c := ⟨fun xs => oMap (ownV g[i]?) (c := ⟨fun p => some (.list p.2 :: xs)⟩)⟩) := by
  rw [argD]
  unfold oMap ownV
  cases argD g (some i) ks rs with
  | none => rfl
  | some xs =>
    dsimp only
    cases g[i]? with
    | none => rfl
    | some sv =>
      cases sv with
      | own b ys =>
        dsimp only
        rw [if_pos rfl]
      | _ => rfl
theorem mIx_m (ks : List Pk) (i : Nat) (rs : List Rs) : mIx (.m :: ks) (.sl i :: rs) = some i := Eq.trans rfl rfl
theorem mIx_v (ks : List Pk) (r : Rs) (rs : List Rs) : mIx (.v :: ks) (r :: rs) = mIx ks rs := by cases r <;> rfl
theorem mIx_p (ks : List Pk) (r : Rs) (rs : List Rs) : mIx (.p :: ks) (r :: rs) = mIx ks rs := by cases r <;> rfl
theorem mIx_nil (rs : List Rs) : mIx [] rs = none := by
  unfold mIx
  rfl
theorem putM_none (ms : List D) (g : En) : putM none ms g = g := Eq.trans rfl rfl
def putO (i : Nat) (ms : List D) (g : En) (o : Option SV) : En := match o with
  | some (.own b _) => g.set i (.own b ms)
  | _ => g
theorem putM_some (i : Nat) (ms : List D) (g : En) : putM (some i) ms g = putO i ms g g[i]? := Eq.trans rfl rfl
theorem putO_o (i : Nat) (ms : List D) (g : En) (b : Bool) (xs : List D) : putO i ms g (some (.own b xs)) = g.set i (.own b ms) := Eq.trans rfl rfl
theorem call1_at (φ : List D → Out) (m : M (List D)) (g : En) : call1 φ m g = (m g).thn (c := ⟨fun xs g1 => outR none g1 (φ [.list xs])⟩) := by
  unfold call1 bnd Ro.thn outR
  cases m g with
  | ok xs g1 =>
    dsimp only
    cases φ [.list xs] <;> rfl
  | _ => rfl
theorem rD_at (m : M Rt) (g : En) : rD m g = (m g).thn (c := ⟨fun r g1 => rtD r g1⟩) := Eq.trans rfl rfl
theorem rtD_d (x : D) (g : En) : rtD (.d x) g = .ok x g := Eq.trans rfl rfl
theorem rtD_o (x : List D) (g : En) : rtD (.own x) g = .ok (.list x) g := Eq.trans rfl rfl
theorem rO_at (m : M Rt) (g : En) : rO m g = (m g).thn (c := ⟨fun r g1 => rtO r g1⟩) := Eq.trans rfl rfl
theorem rtO_o (x : List D) (g : En) : rtO (.own x) g = .ok x g := Eq.trans rfl rfl
theorem sExprR_at (m : M Rt) (g : En) : sExprR m g = (m g).thn (c := ⟨fun _ g1 => .ok .nx g1⟩) := Eq.trans rfl rfl
theorem sRetR_at (m : M Rt) (g : En) : sRetR m g = (m g).thn (c := ⟨fun r g1 => .ok (.rt r) g1⟩) := Eq.trans rfl rfl
def setS (i : Nat) (g : En) (r : Rt) : Ro Fl := match r with
  | .d x => .ok .nx (g.set i (.d x))
  | .own xs => .ok .nx (g.set i (.own false xs))
theorem sSetR_at (i : Nat) (m : M Rt) (g : En) : sSetR i m g = (m g).thn (c := ⟨fun r g1 => setS i g1 r⟩) := by
  unfold sSetR bnd Ro.thn setS
  cases m g with
  | ok r g1 => cases r <;> rfl
  | _ => rfl
theorem setS_d (i : Nat) (g : En) (x : D) : setS i g (.d x) = .ok .nx (g.set i (.d x)) := Eq.trans rfl rfl
theorem setS_o (i : Nat) (g : En) (x : List D) : setS i g (.own x) = .ok .nx (g.set i (.own false x)) := Eq.trans rfl rfl
def outF (ks : List Pk) (r : Ro Fl) : Out := match r with
  | .ok .nx g => outM ks (.d .none) g
  | .ok (.rt r) g => outM ks r g
  | .ex c x g => match muOf ks g with
    | some ms => .ex c x ms
    | none => .bad
  | _ => .bad
theorem runF_at (n : Nat) (ks : List Pk) (b : M Fl) (xs : List D) : runF n ks b xs = outF ks (b (start0 n ks xs)) := by
  unfold runF outF
  cases b (start0 n ks xs) with
  | ok f g => cases f <;> rfl
  | _ => rfl
def mOut (o : Option (List D)) (r : Rt) : Out := match o with
  | some ms => .ret r ms
  | none => .bad
theorem outF_nx (ks : List Pk) (g : En) : outF ks (.ok .nx g) = mOut (muOf ks g) (.d .none) := Eq.trans rfl rfl
theorem outF_rt (ks : List Pk) (r : Rt) (g : En) : outF ks (.ok (.rt r) g) = mOut (muOf ks g) r := Eq.trans rfl rfl
theorem mOut_some (ms : List D) (r : Rt) : mOut (some ms) r = .ret r ms := Eq.trans rfl rfl
theorem muOf_nil (g : En) : muOf [] g = some [] := by
  unfold muOf
  rfl
theorem muOf_m (ks : List Pk) (ms : List D) (g : En) : muOf (.m :: ks) (.own true ms :: g) = some ms := Eq.trans rfl rfl
theorem muOf_v (ks : List Pk) (sv : SV) (g : En) : muOf (.v :: ks) (sv :: g) = muOf ks g := Eq.trans rfl rfl
theorem muOf_p (ks : List Pk) (sv : SV) (g : En) : muOf (.p :: ks) (sv :: g) = muOf ks g := Eq.trans rfl rfl

theorem mixR_at (m : M D) (n : M (List D)) (g : En) : mixR m n g = match m g with
  | .ok x g' => .ok (.d x) g'
  | .ex c x g' => .ex c x g'
  | .bad => (n g).thn (c := ⟨fun xs g' => .ok (.own xs) g'⟩) := by
  unfold mixR Ro.thn
  cases m g with
  | bad => cases n g <;> rfl
  | _ => rfl
theorem dChain_at (f h : D → D → Option D) (m n o : M Rs) (g : En) : dChain f h m n o g = (m g).thn (c := ⟨fun r g1 => (n g1).thn (c := ⟨fun s g2 => (oRo (oMap (vl g2 r) (c := ⟨fun x => oMap (vl g2 s) (c := ⟨fun y => oMap (f x y) (c := ⟨boolD⟩)⟩)⟩)) g2).thn (c := ⟨fun k g3 => brn k (fun g3 => (o g3).thn (c := ⟨fun t g4 => oRo (oMap (vl g4 s) (c := ⟨fun y' => oMap (vl g4 t) (c := ⟨fun z => h y' z⟩)⟩)) g4⟩)) (rt (.bool false)) g3⟩)⟩)⟩) := by
  unfold dChain bnd Ro.thn
  cases m g with
  | ok r g1 =>
    dsimp only
    cases n g1 with
    | ok s g2 =>
      dsimp only
      cases vl g2 r with
      | none => rfl
      | some x =>
        cases vl g2 s with
        | none => rfl
        | some y =>
          dsimp only [oMap]
          cases f x y with
          | none => rfl
          | some w =>
            cases w with
            | bool k =>
              dsimp only [boolD, oRo]
              cases k with
              | false => rfl
              | true =>
                unfold brn
                rw [if_pos rfl, if_pos rfl]
                dsimp only
                cases o g2 with
                | ok t g4 =>
                  dsimp only
                  cases vl g4 s with
                  | none => rfl
                  | some y' =>
                    cases vl g4 t with
                    | none => rfl
                    | some z =>
                      dsimp only
                      cases h y' z <;> rfl
                | _ => rfl
            | _ => rfl
    | _ => rfl
  | _ => rfl
theorem dRep_at (m : M (List D)) (n : M Rs) (g : En) : dRep m n g = (m g).thn (c := ⟨fun xs g1 => (n g1).thn (c := ⟨fun s g2 => oRo (oMap (vl g2 s) (c := ⟨fun y => fRep xs y⟩)) g2⟩)⟩) := by
  unfold dRep bnd Ro.thn
  cases m g with
  | ok xs g1 =>
    dsimp only
    cases n g1 with
    | ok s g2 =>
      dsimp only
      cases vl g2 s with
      | none => rfl
      | some y =>
        dsimp only [oMap]
        cases fRep xs y <;> rfl
    | _ => rfl
  | _ => rfl
def intD : D → Option Int
  | .int i => some i
  | _ => none
theorem intD_i (i : Int) : intD (.int i) = some i := Eq.trans rfl rfl
theorem rg1_at (m : M Rs) (g : En) : rg1 m g = (m g).thn (c := ⟨fun r g1 => oRo (oMap (vl g1 r) (c := ⟨fun x => oMap (intD x) (c := ⟨fun i => some (0, i)⟩)⟩)) g1⟩) := by
  unfold rg1 bnd Ro.thn
  cases m g with
  | ok r g1 =>
    dsimp only
    cases vl g1 r with
    | none => rfl
    | some x => cases x <;> rfl
  | _ => rfl
theorem rg2_at (m n : M Rs) (g : En) : rg2 m n g = (m g).thn (c := ⟨fun r g1 => (n g1).thn (c := ⟨fun s g2 => oRo (oMap (vl g2 r) (c := ⟨fun x => oMap (vl g2 s) (c := ⟨fun y => oMap (intD x) (c := ⟨fun i => oMap (intD y) (c := ⟨fun j => some (i, j)⟩)⟩)⟩)⟩)) g2⟩)⟩) := by
  unfold rg2 bnd Ro.thn
  cases m g with
  | ok r g1 =>
    dsimp only
    cases n g1 with
    | ok s g2 =>
      dsimp only
      cases vl g2 r with
      | none => rfl
      | some x =>
        cases vl g2 s with
        | none => cases x <;> rfl
        | some y => cases x <;> cases y <;> rfl
    | _ => rfl
  | _ => rfl
def intsD : List D → Option (List Int)
  | [] => some []
  | .int i :: xs => (intsD xs).map (i :: ·)
  | _ => none
theorem dIndexT_at (m n : M Rs) (g : En) : dIndexT m n g = (m g).thn (c := ⟨fun r g1 => match vl g1 r with
  | some (.tuple _) => op2 fIxT (rt r) n g1
  | _ => .bad⟩) := rfl

def seqS (i : Nat) (o : Option SV) (g : En) : Ro (List D) := match o with
  | some (.d x) => oRo (seqD x) g
  | some (.a xs) => .ok xs g
  | some (.own false xs) => .ok xs (g.set i (.d (.list xs)))
  | _ => .bad
theorem seqS_d (i : Nat) (x : D) (g : En) : seqS i (some (.d x)) g = oRo (seqD x) g := Eq.trans rfl rfl
theorem seqS_a (i : Nat) (x : List D) (g : En) : seqS i (some (.a x)) g = .ok x g := Eq.trans rfl rfl
theorem seqS_o (i : Nat) (x : List D) (g : En) : seqS i (some (.own false x)) g = .ok x (g.set i (.d (.list x))) := Eq.trans rfl rfl
theorem seqD_l (xs : List D) : seqD (.list xs) = some xs := Eq.trans rfl rfl
theorem seqD_t (xs : List D) : seqD (.tuple xs) = some xs := Eq.trans rfl rfl
theorem itR_d (x : D) (g : En) : itR (.d x) g = oRo (seqD x) g := by
  unfold itR oRo
  dsimp only
  cases seqD x <;> rfl
theorem itR_s (i : Nat) (g : En) : itR (.sl i) g = seqS i g[i]? g := by
  unfold itR seqS
  dsimp only
  cases g[i]? with
  | none => rfl
  | some sv =>
    cases sv with
    | d x =>
      dsimp only
      cases seqD x <;> rfl
    | own b xs => cases b <;> rfl
    | _ => rfl
theorem iV_at (m : M Rs) (g : En) : iV m g = (m g).thn (c := ⟨fun r g1 => itR r g1⟩) := Eq.trans rfl rfl
theorem iO_at (m : M (List D)) (g : En) : iO m g = m g := Eq.trans rfl rfl
theorem iEnV_at (m : M Rs) (g : En) : iEnV m g = (m g).thn (c := ⟨fun r g1 => (itR r g1).thn (c := ⟨fun xs g2 => .ok (enumD 0 xs) g2⟩)⟩) := Eq.trans rfl rfl
theorem iEnO_at (m : M (List D)) (g : En) : iEnO m g = (m g).thn (c := ⟨fun xs g2 => .ok (enumD 0 xs) g2⟩) := Eq.trans rfl rfl
theorem sFor_at (t : Tg) (ms : List Nat) (mi : M (List D)) (b : M Fl) (g : En) : sFor t ms mi b g = (mi g).thn (c := ⟨fun xs g1 => forG t ms b xs g1⟩) := Eq.trans rfl rfl
theorem compL_at (vs : List Nat) (t : Tg) (mi : M (List D)) (mt : M Bool) (me : M D) (g : En) : compL vs t mi mt me g = (mi g).thn (c := ⟨fun xs g1 => compB vs t mt me xs g1⟩) := Eq.trans rfl rfl

theorem forG_inv {t : Tg} {ms : List Nat} {b : M Fl} : ∀ (xs : List D) (P : List D → En → Prop) (g : En), P xs g → (∀ x r g, P (x :: r) g → (x :: r) <:+ xs → ∃ g1 g2, setT t x g = some g1 ∧ (b g1 = .ok .nx g2 ∨ b g1 = .ok .ct g2) ∧ P r (fgt ms g2)) → ∃ g', forG t ms b xs g = .ok .nx (fgt ms g') ∧ P [] g' := by
  intro xs P
  have key : ∀ (r : List D) (g : En), P r g → r <:+ xs → (∀ x r g, P (x :: r) g → (x :: r) <:+ xs → ∃ g1 g2, setT t x g = some g1 ∧ (b g1 = .ok .nx g2 ∨ b g1 = .ok .ct g2) ∧ P r (fgt ms g2)) → ∃ g', forG t ms b r g = .ok .nx (fgt ms g') ∧ P [] g' := by
    intro r
    induction r with
    | nil => exact fun g h _ _ => ⟨g, rfl, h⟩
    | cons x r ih =>
      intro g h hs step
      obtain ⟨g1, g2, h1, h2, h3⟩ := step x r g h hs
      obtain ⟨g', h4, h5⟩ := ih (fgt ms g2) h3 (List.IsSuffix.trans (List.suffix_cons x r) hs) step
      refine ⟨g', ?_, h5⟩
      rw [forG, h1]
      dsimp only
      rcases h2 with h2 | h2
      · rw [h2]
        exact h4
      · rw [h2]
        exact h4
  exact fun g h step => key xs g h (List.suffix_refl _) step
theorem compG_ok {β : Type} {vs : List Nat} {t : Tg} {mt : M Bool} {me : M D} {enc f : β → D} {p : β → Bool} {g : En} : ∀ (l : List β) (ys : List D),
    (∀ x ∈ l, ∃ g1, setT t (enc x) g = some g1 ∧ mt g1 = .ok (p x) g1 ∧ (p x = true → me g1 = .ok (f x) g1) ∧ wipG g1 vs = g) → compG vs t mt me (l.map enc) ys g = .ok (ys ++ (l.filter p).map f) g
  | [], ys, _ => by
    show Ro.ok ys g = Ro.ok (ys ++ []) g
    rw [List.append_nil]
  | x :: l, ys, h => by
    obtain ⟨g1, h1, h2, h3, h4⟩ := h x List.mem_cons_self
    have ih := compG_ok (vs := vs) (t := t) (mt := mt) (me := me) (enc := enc) (f := f) (p := p) (g := g) l
    rw [List.map_cons, compG, h1]
    dsimp only
    rw [h2]
    cases hp : p x with
    | true =>
      dsimp only
      rw [h3 hp]
      dsimp only
      rw [h4, ih (ys ++ [f x]) (fun y hy => h y (List.mem_cons_of_mem _ hy)), List.filter_cons_of_pos hp, List.map_cons, List.append_assoc]
      rfl
    | false =>
      dsimp only
      rw [h4, ih ys (fun y hy => h y (List.mem_cons_of_mem _ hy)), List.filter_cons_of_neg (by rw [hp]; exact Bool.false_ne_true)]
theorem wipG_out {g : En} {i : Nat} : ∀ {vs : List Nat}, i ∉ vs → (wipG g vs)[i]? = g[i]?
  | [], _ => rfl
  | v :: vs, h => by
    have h1 : v ≠ i := fun e => h (by rw [e]; exact List.mem_cons_self)
    unfold wipG
    rw [List.getElem?_set_ne h1]
    exact wipG_out fun m => h (List.mem_cons_of_mem _ m)
theorem rst_wip {g : En} : ∀ {vs : List Nat}, rstG g (wipG g vs) vs = g := fun {vs} => List.ext_getElem? fun i => by
  by_cases h : i ∈ vs
  · exact rstG_in wipG_len h
  · rw [rstG_out h, wipG_out h]
theorem compB_ok {β : Type} {vs : List Nat} {t : Tg} {mt : M Bool} {me : M D} {enc f : β → D} {p : β → Bool} {g : En} (l : List β) (hz : l.length ≤ sizeLine) (hn : noOwn g vs = true)
    (h : ∀ x ∈ l, ∃ g1, setT t (enc x) (wipG g vs) = some g1 ∧ mt g1 = .ok (p x) g1 ∧ (p x = true → me g1 = .ok (f x) g1) ∧ wipG g1 vs = wipG g vs) : compB vs t mt me (l.map enc) g = .ok ((l.filter p).map f) g := by
  unfold compB
  rw [if_pos ⟨by rw [List.length_map]; exact hz, hn⟩, compG_ok (p := p) (f := f) l [] h]
  show Ro.ok _ (rstG g (wipG g vs) vs) = _
  rw [rst_wip, List.nil_append]
end Z

set_option Elab.async false
set_option linter.all false
set_option maxRecDepth 100000
set_option autoImplicit false
set_option maxHeartbeats 1000000
namespace Z
open PySem PySem.Spec PyProof.Rows L2

theorem fAdd_i (i j : Int) : fAdd (.int i) (.int j) = some (.int (i + j)) := Eq.trans rfl rfl
theorem fSub_i (i j : Int) : fSub (.int i) (.int j) = some (.int (i - j)) := Eq.trans rfl rfl
theorem fLt_i (i j : Int) : fLt (.int i) (.int j) = some (.bool (decide (i < j))) := Eq.trans rfl rfl
theorem fLe_i (i j : Int) : fLe (.int i) (.int j) = some (.bool (decide (i ≤ j))) := Eq.trans rfl rfl
theorem fGt_i (i j : Int) : fGt (.int i) (.int j) = some (.bool (decide (j < i))) := Eq.trans rfl rfl
theorem fGe_i (i j : Int) : fGe (.int i) (.int j) = some (.bool (decide (j ≤ i))) := Eq.trans rfl rfl
theorem fMod_i (i j : Int) (h : 0 < j) : fMod (.int i) (.int j) = some (.int (i % j)) := if_pos h
theorem fDiv_i (i j : Int) (h : 0 < j) (h2 : j < 1073741824) : fDiv (.int i) (.int j) = some (.int (i / j)) := by
  unfold fDiv
  dsimp only
  rw [if_pos (by unfold okDiv; rw [decide_eq_true h, decide_eq_true h2]; rfl)]
theorem fDiv_33 (i : Int) : fDiv (.int i) (.int 8589934592) = some (.int (i / 8589934592)) := Eq.trans rfl rfl
theorem fMul_r (i j : Int) (h : j.natAbs < 18446744073709551616) : fMul (.int i) (.int j) = some (.int (i * j)) := by
  unfold fMul
  dsimp only
  rw [if_pos (by unfold okMul; rw [decide_eq_true h, Bool.or_true, Bool.true_or])]
theorem fMul_l (i j : Int) (h : i.natAbs < 18446744073709551616) : fMul (.int i) (.int j) = some (.int (i * j)) := by
  unfold fMul
  dsimp only
  rw [if_pos (by unfold okMul; rw [decide_eq_true h, Bool.true_or, Bool.true_or])]
theorem fMul_take (i : Int) : fMul (.int i) (.int 6364136223846793005) = some (.int (i * 6364136223846793005)) := fMul_r i _ (by decide)
theorem fMul_7919 (i : Int) : fMul (.int 7919) (.int i) = some (.int (7919 * i)) := fMul_l _ i (by decide)
theorem fMul_31 (i : Int) : fMul (.int 31) (.int i) = some (.int (31 * i)) := fMul_l _ i (by decide)
theorem fPow_64 : fPow (.int 2) (.int 64) = some (.int 18446744073709551616) := Eq.trans rfl rfl
theorem fPow_33 : fPow (.int 2) (.int 33) = some (.int 8589934592) := Eq.trans rfl rfl
theorem fPow_18 : fPow (.int 10) (.int 18) = some (.int 1000000000000000000) := Eq.trans rfl rfl
theorem fNeg_i (i : Int) : fNeg (.int i) = some (.int (-i)) := Eq.trans rfl rfl
theorem fLen_l (xs : List D) : fLen [.list xs] = some (.int xs.length) := Eq.trans rfl rfl
theorem fLen_t (xs : List D) : fLen [.tuple xs] = some (.int xs.length) := Eq.trans rfl rfl
theorem fInt_i (i : Int) : fInt [.int i] = some (.int i) := Eq.trans rfl rfl
theorem fTuple_l (xs : List D) : fTuple [.list xs] = some (.tuple xs) := Eq.trans rfl rfl
theorem fList_l (xs : List D) : fList [.list xs] = some xs := Eq.trans rfl rfl
theorem fMax_2 (i j : Int) : fMax [.int i, .int j] = some (.int (if j > i then j else i)) := Eq.trans rfl rfl
theorem fMin_2 (i j : Int) : fMin [.int i, .int j] = some (.int (if j < i then j else i)) := Eq.trans rfl rfl
theorem ixN_nat {n i : Nat} (h : i < n) : ixN n (i : Int) = some i := by
  unfold ixN
  rw [if_pos (Int.natCast_nonneg i), if_pos (Int.ofNat_lt.mpr h), Int.toNat_natCast]
theorem atI_of {xs : List D} {i : Nat} {x : D} (h : xs[i]? = some x) : atI xs (i : Int) = some x := by
  unfold atI
  rw [ixN_nat (List.getElem?_eq_some_iff.mp h).1]
  exact h
theorem fIx_l {xs : List D} {i : Nat} {x : D} (h : xs[i]? = some x) : fIx (.list xs) (.int (i : Int)) = some x := atI_of h
theorem fIx_t {xs : List D} {i : Nat} {x : D} (h : xs[i]? = some x) : fIx (.tuple xs) (.int (i : Int)) = some x := atI_of h
theorem fIx_l0 (x : D) (xs : List D) : fIx (.list (x :: xs)) (.int 0) = some x := fIx_l (i := 0) rfl
theorem fIx_l1 (x y : D) (xs : List D) : fIx (.list (x :: y :: xs)) (.int 1) = some y := fIx_l (i := 1) rfl
theorem fIx_l2 (x y z : D) (xs : List D) : fIx (.list (x :: y :: z :: xs)) (.int 2) = some z := fIx_l (i := 2) rfl
theorem fIx_last {xs : List D} {x : D} : fIx (.tuple (xs ++ [x])) (.int (-1)) = some x := by
  show atI (xs ++ [x]) (-1) = some x
  unfold atI ixN
  have h1 : ¬ (0 : Int) ≤ -1 := by decide
  have h2 : -((xs ++ [x]).length : Int) ≤ -1 := by
    rw [List.length_append, List.length_singleton]
    omega
  rw [if_neg h1, if_pos h2]
  have h3 : (-1 + ((xs ++ [x]).length : Int)).toNat = xs.length := by
    rw [List.length_append, List.length_singleton]
    omega
  show (xs ++ [x])[(-1 + ((xs ++ [x]).length : Int)).toNat]? = some x
  rw [h3, List.getElem?_append_right (Nat.le_refl _), Nat.sub_self]
  rfl
theorem subS0 (i : Nat) (y : D) (b : Bool) (x : D) (xs : List D) (g : En) : subS i y (some (b, x :: xs)) (some (.int 0)) g = .ok .nx (g.set i (.own b (y :: xs))) := subS_at i y b (x :: xs) 0 g 0 (ixN_nat (i := 0) (Nat.succ_pos _))
theorem subS1 (i : Nat) (y : D) (b : Bool) (x z : D) (xs : List D) (g : En) : subS i y (some (b, x :: z :: xs)) (some (.int 1)) g = .ok .nx (g.set i (.own b (x :: y :: xs))) := subS_at i y b (x :: z :: xs) 1 g 1 (ixN_nat (i := 1) (by simp))

abbrev ti (p : List Int) : D := .tuple (p.map .int)
abbrev li (p : List Int) : D := .list (p.map .int)
/-- data without dicts, of few levels -/
def Gd (n : Nat) (d : D) : Prop := d.canLay0 = true ∧ d.depth ≤ n
theorem gd_int (n : Nat) (i : Int) : Gd n (.int i) := ⟨rfl, Nat.zero_le _⟩
theorem gd_bool (n : Nat) (i : Bool) : Gd n (.bool i) := ⟨rfl, Nat.zero_le _⟩
theorem gd_all : ∀ {n : Nat} {xs : List D}, (∀ x ∈ xs, Gd n x) → PyData.canLayAll0 xs = true ∧ PyData.depthAll xs ≤ n
  | _, [], _ => ⟨rfl, Nat.zero_le _⟩
  | n, x :: xs, h => by
    obtain ⟨a, b⟩ := h x List.mem_cons_self
    obtain ⟨c, d⟩ := gd_all (xs := xs) fun y hy => h y (List.mem_cons_of_mem _ hy)
    exact ⟨by show (x.canLay0 && PyData.canLayAll0 xs) = true; rw [a, c]; rfl, Nat.max_le.mpr ⟨b, d⟩⟩
theorem gd_list {n : Nat} {xs : List D} (h : ∀ x ∈ xs, Gd n x) : Gd (n + 1) (.list xs) := by
  obtain ⟨a, b⟩ := gd_all h
  exact ⟨a, Nat.succ_le_succ b⟩
theorem gd_tuple {n : Nat} {xs : List D} (h : ∀ x ∈ xs, Gd n x) : Gd (n + 1) (.tuple xs) := by
  obtain ⟨a, b⟩ := gd_all h
  exact ⟨a, Nat.succ_le_succ b⟩
theorem Gd.mono {m n : Nat} {d : D} (h : Gd m d) (l : m ≤ n) : Gd n d := ⟨h.1, Nat.le_trans h.2 l⟩
theorem gd_ints (n : Nat) (p : List Int) : ∀ x ∈ p.map PyData.int, Gd n x := fun x hx => by
  obtain ⟨i, _, rfl⟩ := List.mem_map.mp hx
  exact gd_int n i
theorem gd_ti (n : Nat) (p : List Int) : Gd (n + 1) (ti p) := gd_tuple (gd_ints n p)
theorem gd_li (n : Nat) (p : List Int) : Gd (n + 1) (li p) := gd_list (gd_ints n p)
theorem Gd.shaped {n : Nat} {d : D} (h : Gd n d) (hn : n ≤ 64) : SeqAt.shaped d = true := by
  unfold SeqAt.shaped
  rw [h.1, decide_eq_true (Nat.le_trans h.2 hn)]
  rfl
theorem Gd.eqv {n : Nat} {d : D} (h : Gd n d) : PyData.eqv d d = true := PySem.SeqAt.eqv_refl d h.1
theorem eqvAll_ints : ∀ p q : List Int, PyData.eqvAll (p.map .int) (q.map .int) = decide (p = q)
  | [], [] => rfl
  | [], _ :: _ => rfl
  | _ :: _, [] => rfl
  | x :: p, y :: q => by
    show ((x == y) && PyData.eqvAll (p.map .int) (q.map .int)) = decide (x :: p = y :: q)
    rw [eqvAll_ints p q]
    by_cases h : x = y
    · subst h
      by_cases h2 : p = q
      · subst h2
        simp
      · simp [h2]
    · simp [h]
theorem fEq_gd {n m : Nat} {x y : D} (h : Gd n x) (k : Gd m y) (hn : n ≤ 64) (hm : m ≤ 64) : fEq x y = some (.bool (PyData.eqv x y)) := by
  unfold fEq
  rw [h.shaped hn, k.shaped hm]
  rfl
theorem fNe_gd {n m : Nat} {x y : D} (h : Gd n x) (k : Gd m y) (hn : n ≤ 64) (hm : m ≤ 64) : fNe x y = some (.bool (!PyData.eqv x y)) := by
  unfold fNe
  rw [h.shaped hn, k.shaped hm]
  rfl
theorem fEq_i (i j : Int) : fEq (.int i) (.int j) = some (.bool (decide (i = j))) := by
  rw [fEq_gd (gd_int 0 i) (gd_int 0 j) (by decide) (by decide)]
  show some (PyData.bool (i == j)) = _
  by_cases h : i = j <;> simp [h]
theorem fEq_li (p q : List Int) : fEq (li p) (li q) = some (.bool (decide (p = q))) := by
  rw [fEq_gd (gd_li 0 p) (gd_li 0 q) (by decide) (by decide)]
  show some (PyData.bool (PyData.eqvAll _ _)) = _
  rw [eqvAll_ints]
theorem fNe_ti (p q : List Int) : fNe (ti p) (ti q) = some (.bool (!decide (p = q))) := by
  rw [fNe_gd (gd_ti 0 p) (gd_ti 0 q) (by decide) (by decide)]
  show some (PyData.bool (!PyData.eqvAll _ _)) = _
  rw [eqvAll_ints]

theorem dataLe_tot : PySem.W.TotalLe (PySem.W.dataLe (β := D) false id) := PySem.W.sortLe_total _ _ _
theorem sortD_eq {xs ys : List D} (hp : xs.Perm ys) (hs : ys.Pairwise fun a b => PySem.W.dataLe false id a b = true) (anti : ∀ a ∈ ys, ∀ b ∈ ys, PySem.W.dataLe false id a b = true → PySem.W.dataLe false id b a = true → a = b) : sortD xs = ys := by
  unfold sortD
  have p1 := (List.mergeSort_perm xs (PySem.W.dataLe false id)).trans hp
  refine List.Perm.eq_of_pairwise (le := fun a b => PySem.W.dataLe (β := D) false id a b = true) (fun a b ha hb => anti a (p1.mem_iff.mp ha) b hb) (List.pairwise_mergeSort (fun a b c => dataLe_tot.trans a b c) (fun a b => ?_) xs) hs p1
  have := dataLe_tot.total a b
  simpa using this
theorem le_int (i j : Int) : PySem.W.dataLe false id (PyData.int i) (.int j) = decide (i ≤ j) := by
  have := congrFun (congrFun (PySem.W.dataLe_int (β := Int) (fun i => i)) i) j
  exact this
theorem sortD_ints {p q : List Int} (hp : p.Perm q) (hs : q.Pairwise (· ≤ ·)) : sortD (p.map .int) = q.map .int := by
  refine sortD_eq (hp.map _) ?_ ?_
  · rw [List.pairwise_map]
    exact hs.imp fun {a b} h => by rw [le_int]; exact decide_eq_true h
  · intro a ha b hb h1 h2
    obtain ⟨i, _, rfl⟩ := List.mem_map.mp ha
    obtain ⟨j, _, rfl⟩ := List.mem_map.mp hb
    rw [le_int] at h1 h2
    rw [Int.le_antisymm (of_decide_eq_true h1) (of_decide_eq_true h2)]
end Z

set_option Elab.async false
set_option linter.all false
set_option maxRecDepth 100000
set_option autoImplicit false
set_option maxHeartbeats 1000000
namespace Z
open PySem PySem.Spec PyProof.Rows L2

def irange (a : Int) (n : Nat) : List Int := (List.range n).map fun (i : Nat) => a + (i : Int)
theorem irange_len (a : Int) (n : Nat) : (irange a n).length = n := by simp [irange]
theorem irange_zero (a : Int) : irange a 0 = [] := Eq.trans rfl rfl
theorem irange_succ (a : Int) (n : Nat) : irange a (n + 1) = a :: irange (a + 1) n := by
  unfold irange
  rw [List.range_succ_eq_map, List.map_cons, List.map_map]
  congr 1
  · simp
  · apply List.map_congr_left
    intro i _
    simp only [Function.comp, Nat.succ_eq_add_one]
    omega
theorem irange_get (a : Int) (n i : Nat) (h : i < n) : (irange a n)[i]? = some (a + i) := by simp [irange, h]
theorem irange_mem {a : Int} {n : Nat} {x : Int} : x ∈ irange a n ↔ a ≤ x ∧ x < a + n := by
  unfold irange
  rw [List.mem_map]
  constructor
  · rintro ⟨i, hi, rfl⟩
    have := List.mem_range.mp hi
    omega
  · rintro ⟨h1, h2⟩
    exact ⟨(x - a).toNat, List.mem_range.mpr (by omega), by omega⟩
theorem irange_sorted (a : Int) (n : Nat) : (irange a n).Pairwise (· < ·) := by
  unfold irange
  rw [List.pairwise_map]
  exact List.pairwise_lt_range.imp fun {i j} h => by omega
theorem irange_nodup (a : Int) (n : Nat) : (irange a n).Nodup := (irange_sorted a n).imp fun {i j} h => by omega
theorem rngD_irange (a : Int) (n : Nat) : rngD a 1 n = (irange a n).map .int := by
  unfold rngD irange
  rw [List.map_map]
  apply List.map_congr_left
  intro i _
  simp
theorem rgD_irange (a b : Int) : rgD a b = (irange a (b - a).toNat).map .int := by
  unfold rgD irange
  rw [List.map_map]
  rfl

structure IsOrd (p : List Int) : Prop where
  nd : p.Nodup
  lo : ∀ x ∈ p, 1 ≤ x
  hi : ∀ x ∈ p, x ≤ p.length
theorem perm_of_sub {p q : List Int} (hp : p.Nodup) (hq : q.Nodup) (h : ∀ x ∈ p, x ∈ q) (hl : q.length ≤ p.length) : p.Perm q := by
  rw [List.perm_ext_iff_of_nodup hp hq]
  intro a
  refine ⟨h a, fun ha => ?_⟩
  by_cases hn : a ∈ p
  · exact hn
  · have h1 : (a :: p).Nodup := List.nodup_cons.mpr ⟨hn, hp⟩
    have h2 : (a :: p) ⊆ q := fun x hx => by
      rcases List.mem_cons.mp hx with e | e
      · rw [e]; exact ha
      · exact h x e
    have := List.Nodup.length_le_of_subset h1 h2
    rw [List.length_cons] at this
    omega
theorem IsOrd.perm {p : List Int} (h : IsOrd p) : p.Perm (irange 1 p.length) :=
  perm_of_sub h.nd (irange_nodup _ _) (fun x hx => irange_mem.mpr ⟨h.lo x hx, by have := h.hi x hx; omega⟩) (by rw [irange_len]; exact Nat.le_refl _)
theorem IsOrd.of_perm {p : List Int} (h : p.Perm (irange 1 p.length)) : IsOrd p :=
  ⟨h.nodup_iff.mpr (irange_nodup _ _), fun x hx => (irange_mem.mp (h.mem_iff.mp hx)).1, fun x hx => by have := (irange_mem.mp (h.mem_iff.mp hx)).2; omega⟩
theorem IsOrd.mem {p : List Int} (h : IsOrd p) {x : Int} (h1 : 1 ≤ x) (h2 : x ≤ p.length) : x ∈ p := h.perm.mem_iff.mpr (irange_mem.mpr ⟨h1, by omega⟩)
theorem isOrd_nil : IsOrd [] := ⟨List.nodup_nil, fun _ h => (nomatch h), fun _ h => (nomatch h)⟩
theorem isOrd_insert {p : List Int} (h : IsOrd p) (r : Nat) : IsOrd (p.take r ++ [((p.length + 1 : Nat) : Int)] ++ p.drop r) := by
  have hp : (p.take r ++ [((p.length + 1 : Nat) : Int)] ++ p.drop r).Perm (((p.length + 1 : Nat) : Int) :: p) := by
    rw [List.append_assoc, List.singleton_append]
    refine List.perm_middle.trans ?_
    rw [List.take_append_drop]
  have hl : (p.take r ++ [((p.length + 1 : Nat) : Int)] ++ p.drop r).length = p.length + 1 := by rw [hp.length_eq, List.length_cons]
  refine ⟨hp.nodup_iff.mpr (List.nodup_cons.mpr ⟨fun hm => ?_, h.nd⟩), fun x hx => ?_, fun x hx => ?_⟩
  · have := h.hi _ hm
    omega
  · rcases List.mem_cons.mp (hp.mem_iff.mp hx) with e | e
    · omega
    · exact h.lo x e
  · rw [hl]
    rcases List.mem_cons.mp (hp.mem_iff.mp hx) with e | e
    · omega
    · have := h.hi x e
      omega
theorem mInsert_ok (xs : List D) (i : Int) (y : D) (h1 : xs.length < sizeLine) (h0 : 0 ≤ i) (h2 : i < 2 ^ 63) : mInsert xs [.int i, y] = some (xs.take i.toNat ++ [y] ++ xs.drop i.toNat, .none) := if_pos ⟨h1, h0, h2⟩
theorem mAppend_ok (xs : List D) (y : D) (h1 : xs.length < sizeLine) : mAppend xs [y] = some (xs ++ [y], .none) := if_pos h1
theorem setT_nm (i : Nat) (x : D) (g : En) : setT (.nm i) x g = some (g.set i (.d x)) := by
  unfold setT
  rfl
theorem setT_tup (ts : List Tg) (xs : List D) (g : En) : setT (.tup ts) (.tuple xs) g = setTs ts xs g := by rw [setT]
theorem setTs_nil (g : En) : setTs [] [] g = some g := by rw [setTs]
theorem setTs_cons (t : Tg) (ts : List Tg) (x : D) (xs : List D) (g g' : En) (h : setT t x g = some g') : setTs (t :: ts) (x :: xs) g = setTs ts xs g' := by rw [setTs, h]
theorem fgt_nil (g : En) : fgt [] g = g := Eq.trans rfl rfl
theorem fgt_cons (i : Nat) (is : List Nat) (g : En) : fgt (i :: is) g = fgt is (g.set i .u) := Eq.trans rfl rfl
theorem wipG_nil (g : En) : wipG g [] = g := Eq.trans rfl rfl
theorem wipG_cons (g : En) (v : Nat) (vs : List Nat) : wipG g (v :: vs) = (wipG g vs).set v .u := Eq.trans rfl rfl
theorem sizeLine_big : sizeLine = 16777216 := by decide
def rgO1 (o : Option (List D)) (g : En) : Ro (List D) := match o with
  | some [.int j] => if rgLim j then .ok (rngD 0 1 j.toNat) g else .bad
  | _ => .bad
def rgO2 (o : Option (List D)) (g : En) : Ro (List D) := match o with
  | some [.int i, .int j] => if rgLim i ∧ rgLim j then .ok (rngD i 1 (j - i).toNat) g else .bad
  | _ => .bad
def rgO3 (o : Option (List D)) (g : En) : Ro (List D) := match o with
  | some [.int i, .int j, .int c] => if rgLim i ∧ rgLim j ∧ c = -1 then .ok (rngD i (-1) (i - j).toNat) g else .bad
  | _ => .bad
def rgT3 (o : Option (List D)) (g : En) : Ro D := match o with
  | some [.int i, .int j, .int c] => if rgLim i ∧ rgLim j ∧ c = -1 ∧ (i - j).toNat ≤ 16777216 then .ok (.tuple (rngD i (-1) (i - j).toNat)) g else .bad
  | _ => .bad
theorem iR1_go (m : M (List Rs)) (g : En) : iR1 m g = (m g).thn (c := ⟨fun rs g1 => rgO1 (vls g1 rs) g1⟩) := Eq.trans rfl rfl
theorem iR2_go (m : M (List Rs)) (g : En) : iR2 m g = (m g).thn (c := ⟨fun rs g1 => rgO2 (vls g1 rs) g1⟩) := Eq.trans rfl rfl
theorem iR3_go (m : M (List Rs)) (g : En) : iR3 m g = (m g).thn (c := ⟨fun rs g1 => rgO3 (vls g1 rs) g1⟩) := Eq.trans rfl rfl
theorem dTupRg3_go (m : M (List Rs)) (g : En) : dTupRg3 m g = (m g).thn (c := ⟨fun rs g1 => rgT3 (vls g1 rs) g1⟩) := Eq.trans rfl rfl
/-- a bound of a range -/
def Sm (i : Int) : Prop := -1000000 ≤ i ∧ i ≤ 1000000
theorem Sm.rg {i : Int} (h : Sm i) : rgLim i := by
  unfold rgLim
  obtain ⟨h1, h2⟩ := h
  omega
/-- lo, lo - 1, .. -/
def drange (a : Int) (n : Nat) : List Int := (List.range n).map fun (i : Nat) => a - (i : Int)
theorem rngD_drange (a : Int) (n : Nat) : rngD a (-1) n = (drange a n).map .int := by
  unfold rngD drange
  rw [List.map_map]
  apply List.map_congr_left
  intro i _
  simp only [Function.comp]
  congr 1
  omega
theorem drange_len (a : Int) (n : Nat) : (drange a n).length = n := by simp [drange]
theorem drange_get (a : Int) (n i : Nat) (h : i < n) : (drange a n)[i]? = some (a - i) := by simp [drange, h]
theorem rgO1_ok (j : Int) (g : En) (h : Sm j) : rgO1 (some [.int j]) g = .ok ((irange 0 j.toNat).map .int) g := by
  rw [← rngD_irange]
  exact if_pos h.rg
theorem rgO2_ok (i j : Int) (g : En) (h : Sm i) (k : Sm j) : rgO2 (some [.int i, .int j]) g = .ok ((irange i (j - i).toNat).map .int) g := by
  rw [← rngD_irange]
  exact if_pos ⟨h.rg, k.rg⟩
theorem rgO3_ok (i j : Int) (g : En) (h : Sm i) (k : Sm j) : rgO3 (some [.int i, .int j, .int (-1)]) g = .ok ((drange i (i - j).toNat).map .int) g := by
  rw [← rngD_drange]
  exact if_pos ⟨h.rg, k.rg, rfl⟩
theorem rgT3_ok (i j : Int) (g : En) (h : Sm i) (k : Sm j) : rgT3 (some [.int i, .int j, .int (-1)]) g = .ok (.tuple ((drange i (i - j).toNat).map .int)) g := by
  rw [← rngD_drange]
  exact if_pos ⟨h.rg, k.rg, rfl, by obtain ⟨h1, h2⟩ := h; obtain ⟨k1, k2⟩ := k; omega⟩
theorem okRg_sm {i j : Int} (h : Sm i) (k : Sm j) : okRg i j = true := by
  obtain ⟨h1, h2⟩ := h
  obtain ⟨k1, k2⟩ := k
  unfold okRg
  simp only [Bool.and_eq_true, decide_eq_true_eq]
  omega
def rgL (ij : Int × Int) (g : En) : Ro (List D) := if okRg ij.1 ij.2 then .ok (rgD ij.1 ij.2) g else .bad
theorem dLstRg_go (m : M (Int × Int)) (g : En) : dLstRg m g = (m g).thn (c := ⟨fun ij g1 => rgL ij g1⟩) := by
  unfold dLstRg bnd Ro.thn rgL
  cases m g with
  | ok x g1 =>
    dsimp only
    split <;> rfl
  | _ => rfl
theorem rgL_ok (i j : Int) (g : En) (h : Sm i) (k : Sm j) : rgL (i, j) g = .ok ((irange i (j - i).toNat).map .int) g := by
  rw [← rgD_irange]
  exact if_pos (okRg_sm h k)
def rgT (ij : Int × Int) (g : En) : Ro D := if okRg ij.1 ij.2 then .ok (.tuple (rgD ij.1 ij.2)) g else .bad
theorem dTupRg_go (m : M (Int × Int)) (g : En) : dTupRg m g = (m g).thn (c := ⟨fun ij g1 => rgT ij g1⟩) := by
  unfold dTupRg bnd Ro.thn rgT
  cases m g with
  | ok x g1 =>
    dsimp only
    split <;> rfl
  | _ => rfl
theorem rgT_ok (i j : Int) (g : En) (h : Sm i) (k : Sm j) : rgT (i, j) g = .ok (.tuple ((irange i (j - i).toNat).map .int)) g := by
  rw [← rgD_irange]
  exact if_pos (okRg_sm h k)
theorem sm0 : Sm 0 := ⟨by decide, by decide⟩
theorem sm1 : Sm 1 := ⟨by decide, by decide⟩
theorem sm_of {i : Int} (h : 0 ≤ i) (k : i ≤ 1000) : Sm i := ⟨by omega, by omega⟩
theorem sz1 : 1 ≤ sizeLine := by decide
theorem sz2 : 2 ≤ sizeLine := by decide
theorem sz3 : 3 ≤ sizeLine := by decide
theorem sz4 : 4 ≤ sizeLine := by decide
theorem sz5 : 5 ≤ sizeLine := by decide
theorem sz_le {n : Nat} (h : n ≤ 100000) : n ≤ sizeLine := Nat.le_trans h (by decide)
theorem sz_lt {n : Nat} (h : n < 100000) : n < sizeLine := Nat.lt_of_lt_of_le h (by decide)
end Z

set_option Elab.async false
set_option linter.all false
set_option maxRecDepth 100000
set_option autoImplicit false
set_option maxHeartbeats 1000000
namespace Z
open PySem PySem.Spec PyProof.Rows L2
theorem compB_map {β : Type} {vs : List Nat} {t : Tg} {me : M D} {enc f : β → D} {g : En} (l : List β) (hz : l.length ≤ sizeLine) (hn : noOwn g vs = true)
    (h : ∀ x ∈ l, ∃ g1, setT t (enc x) (wipG g vs) = some g1 ∧ me g1 = .ok (f x) g1 ∧ wipG g1 vs = wipG g vs) : compB vs t (rt true) me (l.map enc) g = .ok (l.map f) g := by
  have := compB_ok (vs := vs) (t := t) (mt := rt true) (me := me) (enc := enc) (f := f) (p := fun _ => true) l hz hn fun x hx => by
    obtain ⟨g1, h1, h2, h3⟩ := h x hx
    exact ⟨g1, h1, rfl, fun _ => h2, h3⟩
  rw [this, List.filter_eq_self.mpr (fun _ _ => rfl)]
theorem compB_one {β : Type} {i : Nat} {me : M D} {enc f : β → D} {g : En} (l : List β) (hz : l.length ≤ 100000) (hn : noOwn g [i] = true)
    (h : ∀ x ∈ l, me (g.set i (.d (enc x))) = .ok (f x) (g.set i (.d (enc x)))) : compB [i] (.nm i) (rt true) me (l.map enc) g = .ok (l.map f) g :=
  compB_map l (sz_le hz) hn fun x hx => ⟨g.set i (.d (enc x)), by rw [setT_nm]; show some ((g.set i .u).set i _) = _; rw [List.set_set], h x hx, by show (g.set i _).set i .u = g.set i .u; rw [List.set_set]⟩
theorem compB_fil {β : Type} {i : Nat} {mt : M Bool} {me : M D} {enc f : β → D} {p : β → Bool} {g : En} (l : List β) (hz : l.length ≤ 100000) (hn : noOwn g [i] = true)
    (h : ∀ x ∈ l, mt (g.set i (.d (enc x))) = .ok (p x) (g.set i (.d (enc x))) ∧ (p x = true → me (g.set i (.d (enc x))) = .ok (f x) (g.set i (.d (enc x))))) : compB [i] (.nm i) mt me (l.map enc) g = .ok ((l.filter p).map f) g :=
  compB_ok l (sz_le hz) hn fun x hx => ⟨g.set i (.d (enc x)), by rw [setT_nm]; show some ((g.set i .u).set i _) = _; rw [List.set_set], (h x hx).1, (h x hx).2, by show (g.set i _).set i .u = g.set i .u; rw [List.set_set]⟩
theorem fIs_ii (i : Int) : fIs [.int] (.int i) = some (.bool true) := Eq.trans rfl rfl
theorem fIs_ib (i : Int) : fIs [.bool] (.int i) = some (.bool false) := Eq.trans rfl rfl
theorem fIs_is (i : Int) : fIs [.str] (.int i) = some (.bool false) := Eq.trans rfl rfl
theorem fIs_itl (i : Int) : fIs [.tuple, .list] (.int i) = some (.bool false) := Eq.trans rfl rfl
theorem fIs_tt (xs : List D) : fIs [.tuple] (.tuple xs) = some (.bool true) := Eq.trans rfl rfl
theorem fIs_tl (xs : List D) : fIs [.list] (.tuple xs) = some (.bool false) := Eq.trans rfl rfl
theorem fIs_ttl (xs : List D) : fIs [.tuple, .list] (.tuple xs) = some (.bool true) := Eq.trans rfl rfl
theorem fIs_lt (xs : List D) : fIs [.tuple] (.list xs) = some (.bool false) := Eq.trans rfl rfl
theorem fIs_ll (xs : List D) : fIs [.list] (.list xs) = some (.bool true) := Eq.trans rfl rfl
theorem fIs_ltl (xs : List D) : fIs [.tuple, .list] (.list xs) = some (.bool true) := Eq.trans rfl rfl
theorem fAll_b (bs : List Bool) : fAll [.list (bs.map .bool)] = some (.bool (bs.all id)) := by
  unfold fAll
  dsimp only
  rw [toBools_map]
  rfl
theorem fSum_i (ns : List Int) : fSum [.list (ns.map .int)] = some (.int ns.sum) := by
  unfold fSum
  dsimp only
  rw [toInts_map]
  rfl
theorem okSort_ints (p : List Int) (h : p.length ≤ 100000) : okSort (p.map .int) = true := by
  unfold okSort
  simp only [Bool.and_eq_true, List.all_eq_true, decide_eq_true_eq, Bool.or_eq_true, List.length_map]
  refine ⟨⟨⟨fun x hx y hy => ?_, .inr fun x hx => ?_⟩, sz_le h⟩, fun x hx => ?_⟩
  · obtain ⟨i, _, rfl⟩ := List.mem_map.mp hx
    obtain ⟨j, _, rfl⟩ := List.mem_map.mp hy
    rfl
  · obtain ⟨i, _, rfl⟩ := List.mem_map.mp hx
    rfl
  · obtain ⟨i, _, rfl⟩ := List.mem_map.mp hx
    exact Nat.zero_le _
theorem fSorted_t (xs : List D) (h : okSort xs = true) : fSorted [.tuple xs] = some (sortD xs) := if_pos h
theorem fBack_t (xs : List D) : fBack (.tuple xs) = some (.tuple xs.reverse) := Eq.trans rfl rfl
theorem fBackL_l (xs : List D) : fBackL (.list xs) = some xs.reverse := Eq.trans rfl rfl
theorem all_true (n : Nat) : (List.replicate n true).all id = true := by
  rw [List.all_eq_true]
  intro x hx
  rw [List.eq_of_mem_replicate hx]
  rfl
theorem map_true {α : Type} (l : List α) : l.map (fun _ => PyData.bool true) = (List.replicate l.length true).map PyData.bool := by
  induction l with
  | nil => rfl
  | cons x l ih => rw [List.map_cons, ih]; rfl
end Z

set_option Elab.async false
set_option linter.all false
set_option maxRecDepth 100000
set_option autoImplicit false
set_option maxHeartbeats 1000000
namespace Z
open PySem PySem.Spec PyProof.Rows L2
theorem ixOf_idx : ∀ {p : List Int} {k : Int}, k ∈ p → ixOf k p = some (p.idxOf k)
  | x :: p, k, h => by
    unfold ixOf
    by_cases e : x = k
    · subst e
      rw [if_pos rfl, List.idxOf_cons_self]
    · have hb : (x == k) = false := by simp [e]
      rw [if_neg e, List.idxOf_cons, hb, ixOf_idx (by
        rcases List.mem_cons.mp h with z | z
        · exact absurd z.symm e
        · exact z)]
      rfl
theorem fIxT_ok {p : List Int} {k : Int} (h : k ∈ p) : fIxT (.tuple (p.map .int)) (.int k) = some (.int (p.idxOf k : Nat)) := by
  unfold fIxT
  dsimp only
  rw [toInts_map]
  dsimp only
  rw [ixOf_idx h]
  rfl
def tu (p : List Int) : List Int := p.reverse
def mi (p : List Int) : List Int := p.map fun x => p.length + 1 - x
theorem tu_len (p : List Int) : (tu p).length = p.length := List.length_reverse
theorem isOrd_tu {p : List Int} (h : IsOrd p) : IsOrd (tu p) := ⟨by unfold tu; exact List.pairwise_reverse.mpr (h.nd.imp fun {a b} e => Ne.symm e), fun x hx => h.lo x (List.mem_reverse.mp hx), fun x hx => by rw [tu_len]; exact h.hi x (List.mem_reverse.mp hx)⟩
end Z

set_option Elab.async false
set_option linter.all false
set_option maxRecDepth 100000
set_option autoImplicit false
set_option maxHeartbeats 1000000
namespace Z
open PySem PySem.Spec PyProof.Rows L2
theorem argD_vn (g : En) (ks : List Pk) (i : Nat) (rs : List Rs) : argD g none (.v :: ks) (.sl i :: rs) = oMap (argD g none ks rs) (c := ⟨fun xs => oMap (slV g[i]?) (c := ⟨fun x => some (x :: xs)⟩)⟩) := argD_vs g none ks i rs (fun z => nomatch z)
def like (c : List Int) : List Int := c.map fun y => 1 + ((c.filter fun x => decide (x < y)).length : Int)
theorem like_len (c : List Int) : (like c).length = c.length := List.length_map ..
theorem cnt_lt : ∀ {c : List Int} {a b : Int}, a < b → a ∈ c → (c.filter fun x => decide (x < a)).length < (c.filter fun x => decide (x < b)).length
  | [], _, _, _, h => nomatch h
  | x :: c, a, b, hab, h => by
    have le : (c.filter fun x => decide (x < a)).length ≤ (c.filter fun x => decide (x < b)).length := by
      clear h
      induction c with
      | nil => exact Nat.le_refl _
      | cons y c ih =>
        by_cases h1 : y < a
        · rw [List.filter_cons_of_pos (by simpa using h1), List.filter_cons_of_pos (by simp; omega)]
          exact Nat.succ_le_succ ih
        · rw [List.filter_cons_of_neg (by simpa using h1)]
          by_cases h2 : y < b
          · rw [List.filter_cons_of_pos (by simpa using h2)]
            exact Nat.le_succ_of_le ih
          · rw [List.filter_cons_of_neg (by simpa using h2)]
            exact ih
    by_cases e : x = a
    · subst e
      rw [List.filter_cons_of_neg (by simp), List.filter_cons_of_pos (by simpa using hab)]
      exact Nat.lt_succ_of_le le
    · have hm : a ∈ c := by
        rcases List.mem_cons.mp h with z | z
        · exact absurd z.symm e
        · exact z
      have ih := cnt_lt hab hm
      by_cases h1 : x < a
      · rw [List.filter_cons_of_pos (by simpa using h1), List.filter_cons_of_pos (by simp; omega)]
        exact Nat.succ_lt_succ ih
      · rw [List.filter_cons_of_neg (by simpa using h1)]
        by_cases h2 : x < b
        · rw [List.filter_cons_of_pos (by simpa using h2)]
          exact Nat.lt_succ_of_lt ih
        · rw [List.filter_cons_of_neg (by simpa using h2)]
          exact ih
theorem isOrd_like {c : List Int} (h : c.Nodup) : IsOrd (like c) := by
  refine ⟨?_, fun x hx => ?_, fun x hx => ?_⟩
  · unfold like
    refine List.pairwise_map.mpr ?_
    refine List.Pairwise.imp_of_mem (fun {a b} ha hb hab e => ?_) h
    rcases Int.lt_trichotomy a b with z | z | z
    · have := cnt_lt z ha
      omega
    · exact hab z
    · have := cnt_lt z hb
      omega
  · obtain ⟨y, hy, rfl⟩ := List.mem_map.mp hx
    omega
  · obtain ⟨y, hy, rfl⟩ := List.mem_map.mp hx
    rw [like_len]
    have h1 : (c.filter fun x => decide (x < y)).length < (c.filter fun x => decide (x < y + 1)).length := cnt_lt (by omega) hy
    have h2 := List.length_filter_le (fun x => decide (x < y + 1)) c
    omega
def wsum (w : Nat → Nat) (P : Nat → Bool) : Nat → Nat
  | 0 => 0
  | n + 1 => wsum w P n + if P n = true then w n else 0
theorem wsum_le {w : Nat → Nat} {P Q : Nat → Bool} : ∀ {n : Nat}, (∀ j, j < n → P j = true → Q j = true) → wsum w P n ≤ wsum w Q n
  | 0, _ => Nat.le_refl _
  | n + 1, h => by
    have ih := wsum_le (w := w) (P := P) (Q := Q) (n := n) fun j hj => h j (by omega)
    unfold wsum
    by_cases hp : P n = true
    · rw [if_pos hp, if_pos (h n (Nat.lt_succ_self n) hp)]
      omega
    · rw [if_neg hp]
      omega
theorem wsum_lt {w : Nat → Nat} {P Q : Nat → Bool} : ∀ {n a : Nat}, a < n → P a = false → Q a = true → (∀ j, j < n → P j = true → Q j = true) → wsum w P n + w a ≤ wsum w Q n
  | 0, _, ha, _, _, _ => absurd ha (Nat.not_lt_zero _)
  | n + 1, a, ha, h1, h2, h => by
    unfold wsum
    by_cases e : a = n
    · subst e
      have ih := wsum_le (w := w) (P := P) (Q := Q) (n := a) fun j hj => h j (by omega)
      rw [h1, h2, if_neg Bool.false_ne_true, if_pos rfl]
      omega
    · have ih := wsum_lt (w := w) (P := P) (Q := Q) (n := n) (a := a) (by omega) h1 h2 fun j hj => h j (by omega)
      by_cases hp : P n = true
      · rw [if_pos hp, if_pos (h n (Nat.lt_succ_self n) hp)]
        omega
      · rw [if_neg hp]
        omega
theorem irange_snoc (a : Int) (n : Nat) : irange a (n + 1) = irange a n ++ [a + n] := by
  unfold irange
  rw [List.range_succ, List.map_append]
  rfl
theorem wsum_eq (w : Nat → Nat) (P : Nat → Bool) : ∀ n : Nat, (((irange 0 n).filter fun i => P i.toNat).map fun i => ((w i.toNat : Nat) : Int)).sum = (wsum w P n : Int)
  | 0 => rfl
  | n + 1 => by
    rw [irange_snoc, List.filter_append, List.map_append, List.sum_append, wsum_eq w P n]
    have e : ((0 : Int) + (n : Int)).toNat = n := by omega
    rw [show wsum w P (n + 1) = wsum w P n + (if P n = true then w n else 0) from rfl]
    by_cases h : P n = true
    · rw [List.filter_cons_of_pos (by rw [e]; exact h), List.filter_nil, if_pos h, List.map_cons, List.map_nil, e]
      simp
    · rw [List.filter_cons_of_neg (by rw [e]; exact h), List.filter_nil, if_neg h]
      simp
def lessOf (p : List Int) (R : List (List Int)) (k : Nat) : Nat := wsum (fun j => (R.getD j []).length) (fun j => decide (p.getD j 0 < p.getD k 0)) p.length
def fillL (p : List Int) (R : List (List Int)) : Nat → List Int
  | 0 => []
  | k + 1 => fillL p R k ++ (R.getD k []).map fun x => (lessOf p R k : Int) + x
def total (R : List (List Int)) (n : Nat) : Nat := wsum (fun j => (R.getD j []).length) (fun _ => true) n
theorem fillL_len (p : List Int) (R : List (List Int)) : ∀ k : Nat, (fillL p R k).length = total R k
  | 0 => rfl
  | k + 1 => by
    unfold fillL total wsum
    rw [List.length_append, fillL_len p R k, List.length_map, if_pos rfl]
    rfl
theorem fillL_mem {p : List Int} {R : List (List Int)} {y : Int} : ∀ {k : Nat}, y ∈ fillL p R k → ∃ j x, j < k ∧ x ∈ R.getD j [] ∧ y = (lessOf p R j : Int) + x
  | 0, h => nomatch h
  | k + 1, h => by
    unfold fillL at h
    rcases List.mem_append.mp h with h | h
    · obtain ⟨j, x, h1, h2, h3⟩ := fillL_mem h
      exact ⟨j, x, by omega, h2, h3⟩
    · obtain ⟨x, h1, h2⟩ := List.mem_map.mp h
      exact ⟨k, x, Nat.lt_succ_self k, h1, h2.symm⟩
theorem less_total {p : List Int} {R : List (List Int)} {k : Nat} (hk : k < p.length) : lessOf p R k + (R.getD k []).length ≤ total R p.length := wsum_lt (w := fun j => (R.getD j []).length) hk (by simp) rfl fun _ _ _ => rfl
theorem less_less {p : List Int} {R : List (List Int)} {i j : Nat} (hi : i < p.length) (h : p.getD i 0 < p.getD j 0) : lessOf p R i + (R.getD i []).length ≤ lessOf p R j :=
  wsum_lt (w := fun j => (R.getD j []).length) hi (by simp) (by simpa using h) fun k _ hk => by
    have := of_decide_eq_true hk
    exact decide_eq_true (by omega)
theorem isOrd_fill {p : List Int} {R : List (List Int)} (hp : p.Nodup) (hR : ∀ j, j < p.length → IsOrd (R.getD j [])) : IsOrd (fillL p R p.length) := by
  have bl : ∀ {j : Nat} {x : Int}, j < p.length → x ∈ R.getD j [] → 1 ≤ x ∧ x ≤ (R.getD j []).length := fun {j x} hj hx => ⟨(hR j hj).lo x hx, (hR j hj).hi x hx⟩
  refine ⟨?_, fun y hy => ?_, fun y hy => ?_⟩
  · have : ∀ k : Nat, k ≤ p.length → (fillL p R k).Nodup := by
      intro k
      induction k with
      | zero => exact fun _ => List.nodup_nil
      | succ k ih =>
        intro hk
        unfold fillL
        refine List.nodup_append.mpr ⟨ih (by omega), List.pairwise_map.mpr ((hR k (by omega)).nd.imp fun {a b} e => by omega), fun a ha b hb e => ?_⟩
        subst e
        obtain ⟨j, x, h1, h2, h3⟩ := fillL_mem ha
        obtain ⟨x', h4, h5⟩ := List.mem_map.mp hb
        have b1 := bl (show j < p.length by omega) h2
        have b2 := bl (show k < p.length by omega) h4
        have hne : p.getD j 0 ≠ p.getD k 0 := by
          rw [List.getD_eq_getElem?_getD, List.getD_eq_getElem?_getD, List.getElem?_eq_getElem (show j < p.length by omega), List.getElem?_eq_getElem (show k < p.length by omega)]
          intro z
          have := (List.getElem_inj (h₀ := show j < p.length by omega) (h₁ := show k < p.length by omega) hp).mp z
          omega
        rcases Int.lt_or_gt_of_ne hne with z | z
        · have := less_less (R := R) (show j < p.length by omega) z
          omega
        · have := less_less (R := R) (show k < p.length by omega) z
          omega
    exact this _ (Nat.le_refl _)
  · obtain ⟨j, x, h1, h2, rfl⟩ := fillL_mem hy
    have := bl h1 h2
    omega
  · obtain ⟨j, x, h1, h2, rfl⟩ := fillL_mem hy
    have := bl h1 h2
    have h3 := less_total (R := R) h1
    rw [fillL_len]
    omega
theorem total_snoc {R : List (List Int)} {r : List Int} : total (R ++ [r]) (R.length + 1) = total R R.length + r.length := by
  unfold total
  rw [wsum, if_pos rfl]
  congr 1
  · have : ∀ n : Nat, n ≤ R.length → wsum (fun j => ((R ++ [r]).getD j []).length) (fun _ => true) n = wsum (fun j => (R.getD j []).length) (fun _ => true) n := by
      intro n
      induction n with
      | zero => exact fun _ => rfl
      | succ n ih =>
        intro hn
        unfold wsum
        rw [ih (by omega), if_pos rfl, if_pos rfl, List.getD_eq_getElem?_getD, List.getElem?_append_left (by omega), List.getD_eq_getElem?_getD]
    exact this _ (Nat.le_refl _)
  · rw [List.getD_eq_getElem?_getD, List.getElem?_append_right (Nat.le_refl _), Nat.sub_self]
    rfl
end Z

set_option Elab.async false
set_option linter.all false
set_option maxRecDepth 100000
set_option autoImplicit false
set_option maxHeartbeats 1000000
namespace Z
open PySem PySem.Spec PyProof.Rows L2
def mx : List Int → Int
  | [] => 0
  | n :: ns => lmax n ns
def mn : List Int → Int
  | [] => 0
  | n :: ns => lmin n ns
theorem mx_mem {l : List Int} (h : l ≠ []) : mx l ∈ l := by
  cases l with
  | nil => exact absurd rfl h
  | cons n ns =>
    rcases (lmax_spec ns n).1 with e | e
    · show lmax n ns ∈ n :: ns
      rw [e]
      exact List.mem_cons_self
    · exact List.mem_cons_of_mem _ e
theorem mx_ge {l : List Int} {x : Int} (h : x ∈ l) : x ≤ mx l := by
  cases l with
  | nil => exact nomatch h
  | cons n ns =>
    rcases List.mem_cons.mp h with e | e
    · rw [e]
      exact (lmax_spec ns n).2.1
    · exact (lmax_spec ns n).2.2 x e
theorem mn_mem {l : List Int} (h : l ≠ []) : mn l ∈ l := by
  cases l with
  | nil => exact absurd rfl h
  | cons n ns =>
    rcases (lmin_spec ns n).1 with e | e
    · show lmin n ns ∈ n :: ns
      rw [e]
      exact List.mem_cons_self
    · exact List.mem_cons_of_mem _ e
theorem mn_le {l : List Int} {x : Int} (h : x ∈ l) : mn l ≤ x := by
  cases l with
  | nil => exact nomatch h
  | cons n ns =>
    rcases List.mem_cons.mp h with e | e
    · rw [e]
      exact (lmin_spec ns n).2.1
    · exact (lmin_spec ns n).2.2 x e
theorem fMax_l {l : List Int} (h : l ≠ []) : fMax [.list (l.map .int)] = some (.int (mx l)) := by
  cases l with
  | nil => exact absurd rfl h
  | cons n ns =>
    show (match toInts ((n :: ns).map .int) with
      | some (n :: ns) => some (PyData.int (lmax n ns))
      | _ => none) = _
    rw [toInts_map]
    rfl
theorem fMin_l {l : List Int} (h : l ≠ []) : fMin [.list (l.map .int)] = some (.int (mn l)) := by
  cases l with
  | nil => exact absurd rfl h
  | cons n ns =>
    show (match toInts ((n :: ns).map .int) with
      | some (n :: ns) => some (PyData.int (lmin n ns))
      | _ => none) = _
    rw [toInts_map]
    rfl
theorem fNe_li (p q : List Int) : fNe (li p) (li q) = some (.bool (!decide (p = q))) := by
  rw [fNe_gd (gd_li 0 p) (gd_li 0 q) (by decide) (by decide)]
  show some (PyData.bool (!PyData.eqvAll _ _)) = _
  rw [eqvAll_ints]
theorem fCutT_take (xs : List D) (i : Nat) : fCutT (.tuple xs) none (some (i : Int)) = some (.tuple (xs.take i)) := by
  show some (PyData.tuple (cutD xs none (some (i : Int)))) = _
  unfold cutD
  rw [HT.sIx_none, HT.sIx_nat, List.drop_zero, Nat.sub_zero]
  congr 2
  by_cases h : i ≤ xs.length
  · rw [Nat.min_eq_left h]
  · rw [Nat.min_eq_right (by omega), List.take_length, List.take_of_length_le (by omega)]
def qAt (q : List Int) (a : Nat) : Int := q.getD a 0
def lesser (q : List Int) (a : Nat) : List Int := (q.take a).filter fun x => decide (x < qAt q a)
def greater (q : List Int) (a : Nat) : List Int := (q.take a).filter fun x => decide (qAt q a < x)
def belD (q : List Int) (a : Nat) : D := if lesser q a = [] then .none else .int (q.idxOf (mx (lesser q a)) : Nat)
def abvD (q : List Int) (a : Nat) : D := if greater q a = [] then .none else .int (q.idxOf (mn (greater q a)) : Nat)
def nbD (q : List Int) (a : Nat) : D := .tuple [belD q a, abvD q a]
def nbs (q : List Int) (k : Nat) : List D := (List.range k).map (nbD q)
theorem nbs_len (q : List Int) (k : Nat) : (nbs q k).length = k := by simp [nbs]
theorem nbs_succ (q : List Int) (k : Nat) : nbs q (k + 1) = nbs q k ++ [nbD q k] := by simp [nbs, List.range_succ]
theorem enumD_cons (i : Nat) (x : D) (xs : List D) : enumD i (x :: xs) = .tuple [.int (i : Nat), x] :: enumD (i + 1) xs := rfl
theorem getD_get {q : List Int} {a : Nat} (h : a < q.length) : q[a]? = some (q.getD a 0) := by
  rw [List.getD_eq_getElem?_getD, List.getElem?_eq_getElem h]
  rfl
end Z

set_option Elab.async false
set_option linter.all false
set_option maxRecDepth 100000
set_option autoImplicit false
set_option maxHeartbeats 1000000
namespace Z
open PySem PySem.Spec PyProof.Rows L2
def pAt (p : List Int) (x : Int) : Int := p.getD x.toNat 0
def leastI (p q : List Int) (a : Nat) (t : List Int) : Int := if lesser q a = [] then 0 else pAt p (t.getD (q.idxOf (mx (lesser q a))) 0)
def mostI (p q : List Int) (a : Nat) (t : List Int) : Int := if greater q a = [] then (p.length : Int) + 1 else pAt p (t.getD (q.idxOf (mn (greater q a))) 0)
def startI (t : List Int) : Int := match t.getLast? with
  | some x => x + 1
  | none => 0
def stopI (p q : List Int) (a : Nat) : Int := (p.length : Int) - ((q.length : Int) - a - 1)
def okI (p q : List Int) (a : Nat) (t : List Int) (x : Int) : Bool := decide (leastI p q a t < pAt p x) && decide (pAt p x < mostI p q a t)
def extT (p q : List Int) (a : Nat) (t : List Int) : List (List Int) := ((irange (startI t) (stopI p q a - startI t).toNat).filter (okI p q a t)).map fun x => t ++ [x]
def Ls (p q : List Int) : Nat → List (List Int)
  | 0 => [[]]
  | a + 1 => (Ls p q a).flatMap (extT p q a)
/-- a tuple of places so far -/
structure Pl (p : List Int) (a : Nat) (t : List Int) : Prop where
  len : t.length = a
  lo : ∀ x ∈ t, 0 ≤ x
  hi : ∀ x ∈ t, x < p.length
theorem startI_bd {p : List Int} {a : Nat} {t : List Int} (h : Pl p a t) : 0 ≤ startI t ∧ startI t ≤ p.length := by
  unfold startI
  cases e : t.getLast? with
  | none => exact ⟨Int.le_refl _, by show (0 : Int) ≤ _; omega⟩
  | some x =>
    have hm := List.mem_of_getLast? e
    have h1 := h.lo x hm
    have h2 := h.hi x hm
    dsimp only
    omega
theorem pl_ext {p q : List Int} {a : Nat} {t u : List Int} (h : Pl p a t) (ha : a < q.length) (hu : u ∈ extT p q a t) : Pl p (a + 1) u := by
  unfold extT at hu
  obtain ⟨x, hx, rfl⟩ := List.mem_map.mp hu
  obtain ⟨h1, _⟩ := List.mem_filter.mp hx
  have h2 := irange_mem.mp h1
  have h3 := startI_bd h
  have h4 : x < p.length := by
    have : stopI p q a ≤ p.length := by unfold stopI; omega
    omega
  refine ⟨by rw [List.length_append, h.len]; rfl, fun y hy => ?_, fun y hy => ?_⟩
  · rcases List.mem_append.mp hy with z | z
    · exact h.lo y z
    · rw [List.mem_singleton.mp z]
      omega
  · rcases List.mem_append.mp hy with z | z
    · exact h.hi y z
    · rw [List.mem_singleton.mp z]
      exact h4
theorem pl_Ls {p q : List Int} : ∀ {a : Nat}, a ≤ q.length → ∀ t ∈ Ls p q a, Pl p a t
  | 0, _, t, ht => by
    have e : t = [] := List.mem_singleton.mp ht
    subst e
    exact ⟨rfl, fun _ h => (nomatch h), fun _ h => (nomatch h)⟩
  | a + 1, ha, t, ht => by
    obtain ⟨s, hs, h⟩ := List.mem_flatMap.mp ht
    exact pl_ext (pl_Ls (by omega) s hs) (by omega) h
theorem extT_len {p q : List Int} {a : Nat} {t : List Int} (h : Pl p a t) (ha : a < q.length) : (extT p q a t).length ≤ p.length := by
  unfold extT
  rw [List.length_map]
  refine Nat.le_trans (List.length_filter_le _ _) ?_
  rw [irange_len]
  have := startI_bd h
  have : stopI p q a ≤ p.length := by unfold stopI; omega
  omega
theorem idx_take {q : List Int} {a : Nat} {x : Int} (h : x ∈ q.take a) : q.idxOf x < a := by
  have e : q.idxOf x = (q.take a).idxOf x := by
    conv => lhs; rw [← List.take_append_drop a q]
    rw [List.idxOf_append, if_pos h]
  rw [e]
  have := List.idxOf_lt_length_of_mem h
  rw [List.length_take] at this
  omega
theorem fNotN_n : fNotN .none .none = some (.bool false) := Eq.trans rfl rfl
theorem fNotN_i (i : Int) : fNotN (.int i) .none = some (.bool true) := Eq.trans rfl rfl
theorem fAdd_tt (xs ys : List D) (h : xs.length + ys.length ≤ 100000) : fAdd (.tuple xs) (.tuple ys) = some (.tuple (xs ++ ys)) := if_pos (sz_le h)
theorem mExtend_ok (xs zs : List D) (h : xs.length + zs.length ≤ sizeLine) : mExtend xs zs = some (xs ++ zs, .none) := if_pos h
theorem fIx_p {p : List Int} {x : Int} (h0 : 0 ≤ x) (h1 : x < p.length) : fIx (.tuple (p.map .int)) (.int x) = some (.int (pAt p x)) := by
  have := fIx_t (xs := p.map .int) (i := x.toNat) (x := .int (pAt p x)) (by rw [List.getElem?_map, getD_get (show x.toNat < p.length by omega)]; rfl)
  rw [show ((x.toNat : Nat) : Int) = x by omega] at this
  exact this
theorem fIx_pn {t : List Int} {j : Nat} (h : j < t.length) : fIx (.tuple (t.map .int)) (.int (j : Int)) = some (.int (t.getD j 0)) := fIx_t (by rw [List.getElem?_map, getD_get h]; rfl)
end Z

set_option Elab.async false
set_option linter.all false
set_option maxRecDepth 100000
set_option autoImplicit false
set_option maxHeartbeats 1000000
namespace Z
open PySem PySem.Spec PyProof.Rows L2
abbrev at0 (t : List Int) (i : Nat) : Int := t.getD i 0
theorem at0_mem {t : List Int} {i : Nat} (h : i < t.length) : at0 t i ∈ t := by
  unfold at0
  rw [List.getD_eq_getElem?_getD, List.getElem?_eq_getElem h]
  exact List.getElem_mem h
theorem mem_at0 {t : List Int} {x : Int} (h : x ∈ t) : ∃ i, i < t.length ∧ at0 t i = x := by
  obtain ⟨i, hi, e⟩ := List.mem_iff_getElem.mp h
  refine ⟨i, hi, ?_⟩
  unfold at0
  rw [List.getD_eq_getElem?_getD, List.getElem?_eq_getElem hi, ← e]
  rfl
theorem at0_app1 {t u : List Int} {i : Nat} (h : i < t.length) : at0 (t ++ u) i = at0 t i := by
  unfold at0
  rw [List.getD_eq_getElem?_getD, List.getD_eq_getElem?_getD, List.getElem?_append_left h]
theorem at0_app2 {t : List Int} {x : Int} : at0 (t ++ [x]) t.length = x := by
  unfold at0
  rw [List.getD_eq_getElem?_getD, List.getElem?_append_right (Nat.le_refl _), Nat.sub_self]
  rfl
theorem at0_inj {q : List Int} (h : q.Nodup) {i j : Nat} (hi : i < q.length) (hj : j < q.length) (e : at0 q i = at0 q j) : i = j := by
  unfold at0 at e
  rw [List.getD_eq_getElem?_getD, List.getD_eq_getElem?_getD, List.getElem?_eq_getElem hi, List.getElem?_eq_getElem hj] at e
  exact (List.getElem_inj (h₀ := hi) (h₁ := hj) h).mp e
theorem pAt_bd {p : List Int} (h : IsOrd p) {x : Int} (h0 : 0 ≤ x) (h1 : x < p.length) : 1 ≤ pAt p x ∧ pAt p x ≤ p.length := by
  have hm : pAt p x ∈ p := at0_mem (show x.toNat < p.length by omega)
  exact ⟨h.lo _ hm, h.hi _ hm⟩
/-- the first a things of q are shown at t -/
structure Mt (p q : List Int) (a : Nat) (t : List Int) : Prop where
  pl : Pl p a t
  asc : ∀ i j, i < j → j < a → at0 t i < at0 t j
  ord : ∀ i j, i < a → j < a → (pAt p (at0 t i) < pAt p (at0 t j) ↔ at0 q i < at0 q j)
theorem startI_le {t : List Int} {x : Int} (asc : ∀ i j, i < j → j < t.length → at0 t i < at0 t j) (h0 : 0 ≤ x) : startI t ≤ x ↔ ∀ y ∈ t, y < x := by
  rcases List.eq_nil_or_concat t with rfl | ⟨s, z, rfl⟩
  · exact ⟨fun _ _ h => (nomatch h), fun _ => h0⟩
  · rw [List.concat_eq_append] at *
    have hs : startI (s ++ [z]) = z + 1 := by
      unfold startI
      rw [List.getLast?_concat]
    rw [hs]
    constructor
    · intro h y hy
      rcases List.mem_append.mp hy with hy | hy
      · obtain ⟨i, hi, rfl⟩ := mem_at0 hy
        have := asc i s.length hi (by rw [List.length_append, List.length_singleton]; omega)
        rw [at0_app1 hi, at0_app2] at this
        omega
      · rw [List.mem_singleton.mp hy]
        omega
    · intro h
      have := h z (List.mem_append_right _ (List.mem_singleton.mpr rfl))
      omega
section
variable {p q : List Int} {a : Nat} {t : List Int}
theorem q_take {i : Nat} (hi : i < a) (ha : a < q.length) : at0 q i ∈ q.take a := by
  have : at0 q i = at0 (q.take a) i := by
    unfold at0
    rw [List.getD_eq_getElem?_getD, List.getD_eq_getElem?_getD, List.getElem?_take_of_lt hi]
  rw [this]
  exact at0_mem (by rw [List.length_take]; omega)
theorem take_q {x : Int} (h : x ∈ q.take a) : ∃ i, i < a ∧ i < q.length ∧ at0 q i = x ∧ i = q.idxOf x := by
  have h1 := idx_take h
  have h2 := List.idxOf_lt_length_of_mem (List.mem_of_mem_take h)
  refine ⟨q.idxOf x, h1, h2, ?_, rfl⟩
  unfold at0
  rw [List.getD_eq_getElem?_getD, List.getElem?_eq_getElem h2, List.getElem_idxOf]
  rfl
theorem least_iff (ip : IsOrd p) (iq : q.Nodup) (ha : a < q.length) (m : Mt p q a t) {x : Int} (h0 : 0 ≤ x) (h1 : x < p.length) : leastI p q a t < pAt p x ↔ ∀ i, i < a → at0 q i < at0 q a → pAt p (at0 t i) < pAt p x := by
  unfold leastI
  by_cases z : lesser q a = []
  · rw [if_pos z]
    refine ⟨fun _ i hi hq => ?_, fun _ => by have := (pAt_bd ip h0 h1).1; omega⟩
    have : at0 q i ∈ lesser q a := List.mem_filter.mpr ⟨q_take hi ha, decide_eq_true hq⟩
    rw [z] at this
    cases this
  · rw [if_neg z]
    have hm := mx_mem z
    obtain ⟨b, b1, b2, b3, b4⟩ := take_q (List.mem_filter.mp hm).1
    have b5 : mx (lesser q a) < at0 q a := of_decide_eq_true (List.mem_filter.mp hm).2
    rw [← b4]
    constructor
    · intro h i hi hq
      have hl : at0 q i ≤ mx (lesser q a) := mx_ge (List.mem_filter.mpr ⟨q_take hi ha, decide_eq_true hq⟩)
      by_cases e : i = b
      · rw [e]
        exact h
      · have : at0 q i < at0 q b := by
          have hne : at0 q i ≠ at0 q b := fun w => e (at0_inj iq (by omega) b2 w)
          omega
        have := (m.ord i b hi b1).mpr this
        exact Int.lt_trans this h
    · intro h
      exact h b b1 (by rw [b3]; exact b5)
theorem most_iff (ip : IsOrd p) (iq : q.Nodup) (ha : a < q.length) (m : Mt p q a t) {x : Int} (h0 : 0 ≤ x) (h1 : x < p.length) : pAt p x < mostI p q a t ↔ ∀ i, i < a → at0 q a < at0 q i → pAt p x < pAt p (at0 t i) := by
  unfold mostI
  by_cases z : greater q a = []
  · rw [if_pos z]
    refine ⟨fun _ i hi hq => ?_, fun _ => by have := (pAt_bd ip h0 h1).2; omega⟩
    have : at0 q i ∈ greater q a := List.mem_filter.mpr ⟨q_take hi ha, decide_eq_true hq⟩
    rw [z] at this
    cases this
  · rw [if_neg z]
    have hm := mn_mem z
    obtain ⟨b, b1, b2, b3, b4⟩ := take_q (List.mem_filter.mp hm).1
    have b5 : at0 q a < mn (greater q a) := of_decide_eq_true (List.mem_filter.mp hm).2
    rw [← b4]
    constructor
    · intro h i hi hq
      have hl : mn (greater q a) ≤ at0 q i := mn_le (List.mem_filter.mpr ⟨q_take hi ha, decide_eq_true hq⟩)
      by_cases e : i = b
      · rw [e]
        exact h
      · have : at0 q b < at0 q i := by
          have hne : at0 q i ≠ at0 q b := fun w => e (at0_inj iq (by omega) b2 w)
          omega
        have := (m.ord b i b1 hi).mpr this
        exact Int.lt_trans h this
    · intro h
      exact h b b1 (by rw [b3]; exact b5)
/-- one thing more -/
theorem mt_snoc (ip : IsOrd p) (iq : q.Nodup) (ha : a < q.length) {x : Int} (hl : t.length = a) : Mt p q (a + 1) (t ++ [x]) ↔ Mt p q a t ∧ startI t ≤ x ∧ 0 ≤ x ∧ x < p.length ∧ okI p q a t x = true := by
  subst hl
  constructor
  · intro m
    have hx : x ∈ t ++ [x] := List.mem_append_right _ (List.mem_singleton.mpr rfl)
    have h0 := m.pl.lo x hx
    have h1 := m.pl.hi x hx
    have m0 : Mt p q t.length t := by
      refine ⟨⟨rfl, fun y hy => m.pl.lo y (List.mem_append_left _ hy), fun y hy => m.pl.hi y (List.mem_append_left _ hy)⟩, fun i j hij hj => ?_, fun i j hi hj => ?_⟩
      · have := m.asc i j hij (by omega)
        rw [at0_app1 (by omega), at0_app1 hj] at this
        exact this
      · have := m.ord i j (by omega) (by omega)
        rw [at0_app1 hi, at0_app1 hj] at this
        exact this
    refine ⟨m0, (startI_le m0.asc h0).mpr fun y hy => ?_, h0, h1, ?_⟩
    · obtain ⟨i, hi, rfl⟩ := mem_at0 hy
      have := m.asc i t.length hi (by omega)
      rw [at0_app1 hi, at0_app2] at this
      exact this
    · unfold okI
      rw [Bool.and_eq_true, decide_eq_true_eq, decide_eq_true_eq, least_iff ip iq ha m0 h0 h1, most_iff ip iq ha m0 h0 h1]
      refine ⟨fun i hi hq => ?_, fun i hi hq => ?_⟩
      · have := (m.ord i t.length (by omega) (by omega)).mpr hq
        rw [at0_app1 hi, at0_app2] at this
        exact this
      · have := (m.ord t.length i (by omega) (by omega)).mpr hq
        rw [at0_app1 hi, at0_app2] at this
        exact this
  · rintro ⟨m, h2, h0, h1, h3⟩
    unfold okI at h3
    rw [Bool.and_eq_true, decide_eq_true_eq, decide_eq_true_eq, least_iff ip iq ha m h0 h1, most_iff ip iq ha m h0 h1] at h3
    have hy := (startI_le m.asc h0).mp h2
    have split : ∀ i, i < t.length + 1 → i < t.length ∨ i = t.length := fun i hi => by omega
    refine ⟨⟨by rw [List.length_append]; rfl, fun y hy => ?_, fun y hy => ?_⟩, fun i j hij hj => ?_, fun i j hi hj => ?_⟩
    · rcases List.mem_append.mp hy with z | z
      · exact m.pl.lo y z
      · rw [List.mem_singleton.mp z]
        exact h0
    · rcases List.mem_append.mp hy with z | z
      · exact m.pl.hi y z
      · rw [List.mem_singleton.mp z]
        exact h1
    · rcases split j hj with z | rfl
      · rw [at0_app1 (by omega), at0_app1 z]
        exact m.asc i j hij z
      · rw [at0_app1 hij, at0_app2]
        exact hy _ (at0_mem hij)
    · have tri : ∀ i, i < t.length → at0 q i < at0 q t.length ∨ at0 q t.length < at0 q i := fun i hi => by
        have : at0 q i ≠ at0 q t.length := fun w => by
          have := at0_inj iq (by omega) ha w
          omega
        omega
      rcases split i hi with zi | rfl
      · rcases split j hj with zj | rfl
        · rw [at0_app1 zi, at0_app1 zj]
          exact m.ord i j zi zj
        · rw [at0_app1 zi, at0_app2]
          rcases tri i zi with w | w
          · exact ⟨fun _ => w, fun _ => h3.1 i zi w⟩
          · have := h3.2 i zi w
            constructor <;> intro <;> omega
      · rcases split j hj with zj | rfl
        · rw [at0_app1 zj, at0_app2]
          rcases tri j zj with w | w
          · have := h3.1 j zj w
            constructor <;> intro <;> omega
          · exact ⟨fun _ => w, fun _ => h3.2 j zj w⟩
        · rw [at0_app2]
          constructor <;> intro <;> omega
end
theorem mem_Ls {p q : List Int} (ip : IsOrd p) (iq : q.Nodup) : ∀ {a : Nat}, a ≤ q.length → ∀ t : List Int, t ∈ Ls p q a ↔ Mt p q a t ∧ ∀ x ∈ t, x + ((q.length : Int) - a) < p.length
  | 0, _, t => by
    constructor
    · intro h
      have e : t = [] := List.mem_singleton.mp h
      subst e
      exact ⟨⟨⟨rfl, fun _ h => (nomatch h), fun _ h => (nomatch h)⟩, fun i j _ hj => absurd hj (Nat.not_lt_zero _), fun i j hi _ => absurd hi (Nat.not_lt_zero _)⟩, fun _ h => (nomatch h)⟩
    · rintro ⟨m, _⟩
      rw [List.eq_nil_of_length_eq_zero m.pl.len]
      exact List.mem_singleton.mpr rfl
  | a + 1, ha, t => by
    have ih := mem_Ls ip iq (a := a) (by omega)
    constructor
    · intro h
      obtain ⟨s, hs, hu⟩ := List.mem_flatMap.mp h
      obtain ⟨m, hr⟩ := (ih s).mp hs
      unfold extT at hu
      obtain ⟨x, hx, rfl⟩ := List.mem_map.mp hu
      obtain ⟨hx1, hx2⟩ := List.mem_filter.mp hx
      have hx3 := irange_mem.mp hx1
      have hb := startI_bd m.pl
      have hst : stopI p q a = (p.length : Int) - ((q.length : Int) - a - 1) := rfl
      have m' := (mt_snoc ip iq (show a < q.length by omega) m.pl.len (x := x)).mpr ⟨m, hx3.1, by omega, by omega, hx2⟩
      refine ⟨m', fun y hy => ?_⟩
      rcases List.mem_append.mp hy with z | z
      · have h2 := (startI_le (by rw [m.pl.len]; exact m.asc) (show 0 ≤ x by omega)).mp hx3.1 y z
        omega
      · rw [List.mem_singleton.mp z]
        omega
    · rintro ⟨m, hr⟩
      rcases List.eq_nil_or_concat t with rfl | ⟨s, x, rfl⟩
      · have := m.pl.len
        cases this
      · rw [List.concat_eq_append] at *
        have hl : s.length = a := by
          have := m.pl.len
          rw [List.length_append, List.length_singleton] at this
          omega
        obtain ⟨m0, h2, h0, h1, h3⟩ := (mt_snoc ip iq (show a < q.length by omega) hl).mp m
        have hx := hr x (List.mem_append_right _ (List.mem_singleton.mpr rfl))
        have hst : stopI p q a = (p.length : Int) - ((q.length : Int) - a - 1) := rfl
        refine List.mem_flatMap.mpr ⟨s, (ih s).mpr ⟨m0, fun y hy => ?_⟩, List.mem_map.mpr ⟨x, List.mem_filter.mpr ⟨irange_mem.mpr ⟨h2, by omega⟩, h3⟩, rfl⟩⟩
        have := (startI_le (by rw [m0.pl.len]; exact m0.asc) h0).mp h2 y hy
        omega
/-- all places -/
def PL (p q : List Int) : List (List Int) := Ls p q q.length
theorem mem_PL {p q : List Int} (ip : IsOrd p) (iq : q.Nodup) (t : List Int) : t ∈ PL p q ↔ Mt p q q.length t := by
  unfold PL
  rw [mem_Ls ip iq (Nat.le_refl _)]
  refine ⟨fun h => h.1, fun h => ⟨h, fun x hx => ?_⟩⟩
  have := h.pl.hi x hx
  omega
/-- two ascending lists of the same things -/
theorem asc_eq {l m : List (List Int)} (hl : l.Pairwise (· < ·)) (hm : m.Pairwise (· < ·)) (h : ∀ t, t ∈ l ↔ t ∈ m) : l = m := by
  have n1 : l.Nodup := hl.imp fun {a b} h e => by subst e; exact List.lt_irrefl _ h
  have n2 : m.Nodup := hm.imp fun {a b} h e => by subst e; exact List.lt_irrefl _ h
  exact List.Perm.eq_of_pairwise (le := fun a b => a < b) (fun a b _ _ h1 h2 => absurd (List.lt_trans h1 h2) (List.lt_irrefl _)) hl hm ((List.perm_ext_iff_of_nodup n1 n2).mpr h)
theorem le_ti (s t : List Int) : PySem.W.dataLe false id (ti s) (ti t) = decide (s ≤ t) := by
  have := congrFun (congrFun (PySem.W.dataLe_rows (β := List Int) (fun s => s)) s) t
  exact this
theorem sortD_ti {l m : List (List Int)} (hm : m.Pairwise (· < ·)) (hl : l.Nodup) (h : ∀ t, t ∈ l ↔ t ∈ m) : sortD (l.map ti) = m.map ti := by
  have n2 : m.Nodup := hm.imp fun {a b} h e => by subst e; exact List.lt_irrefl _ h
  refine sortD_eq (((List.perm_ext_iff_of_nodup hl n2).mpr h).map _) ?_ ?_
  · rw [List.pairwise_map]
    exact hm.imp fun {a b} h => by rw [le_ti]; exact decide_eq_true (List.le_of_lt h)
  · intro a ha b hb h1 h2
    obtain ⟨s, _, rfl⟩ := List.mem_map.mp ha
    obtain ⟨t, _, rfl⟩ := List.mem_map.mp hb
    rw [le_ti] at h1 h2
    rw [List.le_antisymm (of_decide_eq_true h1) (of_decide_eq_true h2)]
theorem okSort_ti {l : List (List Int)} (h : l.length ≤ 100000) (hne : ∀ t ∈ l, t ≠ []) : okSort (l.map ti) = true := by
  unfold okSort
  simp only [Bool.and_eq_true, List.all_eq_true, decide_eq_true_eq, Bool.or_eq_true, List.length_map]
  refine ⟨⟨⟨fun x hx y hy => ?_, .inl fun x hx => ?_⟩, sz_le h⟩, fun x hx => ?_⟩
  · obtain ⟨s, _, rfl⟩ := List.mem_map.mp hx
    obtain ⟨t, _, rfl⟩ := List.mem_map.mp hy
    exact PySem.W.alike_ints s t
  · obtain ⟨s, hs, rfl⟩ := List.mem_map.mp hx
    cases s with
    | nil => exact absurd rfl (hne _ hs)
    | cons _ _ => rfl
  · obtain ⟨s, _, rfl⟩ := List.mem_map.mp hx
    exact Nat.le_trans (gd_ti 0 s).2 (by decide)
end Z

set_option Elab.async false
set_option linter.all false
set_option maxRecDepth 100000
set_option autoImplicit false
set_option maxHeartbeats 1000000
namespace Z
open PySem PySem.Spec PyProof.Rows L2
theorem at0_map {t : List Int} {f : Int → Int} {i : Nat} (h : i < t.length) : at0 (t.map f) i = f (at0 t i) := by
  unfold at0
  rw [List.getD_eq_getElem?_getD, List.getD_eq_getElem?_getD, List.getElem?_map, List.getElem?_eq_getElem h]
  rfl
theorem pAt_at0 (p : List Int) (x : Int) : pAt p x = at0 p x.toNat := rfl
end Z

set_option Elab.async false
set_option linter.all false
set_option maxRecDepth 100000
set_option autoImplicit false
set_option maxHeartbeats 1000000
namespace Z
open PySem PySem.Spec PyProof.Rows L2
end Z

set_option Elab.async false
set_option linter.all false
set_option maxRecDepth 100000
set_option autoImplicit false
set_option maxHeartbeats 1000000
namespace Z
open PySem PySem.Spec PyProof.Rows L2
def sft (k : Int) (c : List Int) : List Int := c.map fun x => x + k
theorem cnt_range (y : Int) : ∀ n : Nat, 1 ≤ y → y ≤ n + 1 → ((irange 1 n).filter fun x => decide (x < y)).length = (y - 1).toNat
  | 0, h1, h2 => by
    rw [irange_zero]
    simp
    omega
  | n + 1, h1, h2 => by
    rw [irange_snoc, List.filter_append, List.length_append]
    by_cases h : y ≤ n + 1
    · rw [cnt_range y n h1 h, List.filter_cons_of_neg (by simp; omega)]
      rfl
    · have e : y = (n : Int) + 2 := by omega
      rw [List.filter_cons_of_pos (by simp; omega)]
      have : (irange 1 n).filter (fun x => decide (x < y)) = irange 1 n := List.filter_eq_self.mpr fun x hx => by
        have := irange_mem.mp hx
        simp
        omega
      rw [this, irange_len]
      simp
      omega
theorem like_ord {p : List Int} (h : IsOrd p) : like p = p := by
  unfold like
  refine (List.map_congr_left fun y hy => ?_).trans (List.map_id p)
  have h1 := h.lo y hy
  have h2 := h.hi y hy
  have := (h.perm.filter fun x => decide (x < y)).length_eq
  rw [this, cnt_range y p.length h1 (by omega)]
  simp only [id]
  omega
end Z

set_option Elab.async false
set_option linter.all false
set_option maxRecDepth 100000
set_option autoImplicit false
set_option maxHeartbeats 1000000
namespace Z
open PySem PySem.Spec PyProof.Rows L2
theorem fCutT_from (xs : List D) (a : Nat) (ha : a ≤ xs.length) : fCutT (.tuple xs) (some (a : Int)) none = some (.tuple (xs.drop a)) := by
  show some (PyData.tuple (cutD xs (some (a : Int)) none)) = _
  unfold cutD
  rw [HT.sIx_nat, HT.sIx_none, Nat.min_eq_left ha, List.take_of_length_le (by rw [List.length_drop]; omega)]
end Z

set_option Elab.async false
set_option linter.all false
set_option maxRecDepth 100000
set_option autoImplicit false
set_option maxHeartbeats 1000000
namespace Z
open PySem PySem.Spec PyProof.Rows L2
def sm (p q : List Int) : List Int := p ++ sft p.length q
end Z

set_option Elab.async false
set_option linter.all false
set_option maxRecDepth 100000
set_option autoImplicit false
set_option maxHeartbeats 1000000
namespace Z
open PySem PySem.Spec PyProof.Rows L2
def due (k : Bool) (n t : Nat) : List Int := if k then irange ((n : Int) - t + 1) t else irange 1 t
end Z

set_option Elab.async false
set_option linter.all false
set_option maxRecDepth 100000
set_option autoImplicit false
set_option maxHeartbeats 1000000
namespace Z
open PySem PySem.Spec PyProof.Rows L2
end Z

set_option Elab.async false
set_option linter.all false
set_option maxRecDepth 100000
set_option autoImplicit false
set_option maxHeartbeats 1000000
namespace Z
open PySem PySem.Spec PyProof.Rows L2
end Z

set_option Elab.async false
set_option linter.all false
set_option maxRecDepth 100000
set_option autoImplicit false
set_option maxHeartbeats 1000000
namespace Z
open PySem PySem.Spec PySem.W PyProof.Rows L2
end Z

set_option Elab.async false
set_option linter.all false
set_option maxRecDepth 100000
set_option autoImplicit false
set_option maxHeartbeats 1000000
namespace Z
open PySem PySem.Spec PySem.W PyProof.Rows L2
end Z

set_option Elab.async false
set_option linter.all false
set_option maxRecDepth 100000
set_option autoImplicit false
set_option maxHeartbeats 1000000
namespace Z
open PySem PySem.Spec PyProof.Rows L2
def zipD (xs ys : List D) : List D := List.zipWith (fun x y => .tuple [x, y]) xs ys
def iZip (m : M (List Rs)) : M (List D) := bnd m fun rs => match rs with
  | [r, s] => bnd (itR r) fun xs => bnd (itR s) fun ys => rt (zipD xs ys)
  | _ => fun _ => .bad
end Z

set_option Elab.async false
set_option linter.all false
set_option maxRecDepth 100000
set_option autoImplicit false
set_option maxHeartbeats 1000000
namespace Z
open PySem PySem.Spec PyProof.Rows L2
theorem mx_is {l : List Int} {m : Int} (h : m ∈ l) (k : ∀ y ∈ l, y ≤ m) : mx l = m :=
  Int.le_antisymm (k _ (mx_mem (List.ne_nil_of_mem h))) (mx_ge h)
def stch (p : List Int) (a b : Nat) : List Int := (p.drop a).take (b - a)
def tight (c : List Int) : Bool := decide (mx c - mn c = (c.length : Int) - 1)
def blk (p : List Int) (a b : Nat) : Bool := tight (stch p a b)
end Z

set_option Elab.async false
set_option linter.all false
set_option maxRecDepth 100000
set_option autoImplicit false
set_option maxHeartbeats 1000000
namespace Z
open PySem PySem.Spec PyProof.Rows L2
theorem by_places (c : List Int) : c = (List.range c.length).map fun i => c.getD i 0 := List.ext_getElem? fun i => by
  by_cases h : i < c.length
  · rw [List.getElem?_map, List.getElem?_range h, getD_get h]
    rfl
  · rw [List.getElem?_eq_none (by omega), List.getElem?_eq_none (by rw [List.length_map, List.length_range]; omega)]
theorem like_places (c : List Int) : like c = (List.range c.length).map fun j => 1 + ((((List.range c.length).filter fun i => decide (c.getD i 0 < c.getD j 0)).length : Nat) : Int) := by
  have e : ∀ y : Int, (c.filter fun x => decide (x < y)).length = ((List.range c.length).filter fun i => decide (c.getD i 0 < y)).length := fun y => by
    conv => lhs; rw [by_places c]
    rw [List.filter_map, List.length_map]
    rfl
  unfold like
  conv => lhs; arg 2; rw [by_places c]
  rw [List.map_map]
  exact List.map_congr_left fun j _ => by
    show 1 + (((c.filter fun x => decide (x < c.getD j 0)).length : Nat) : Int) = _
    rw [e]
theorem like_cmp {c d : List Int} (hl : c.length = d.length) (h : ∀ i j, i < c.length → j < c.length → (c.getD i 0 < c.getD j 0 ↔ d.getD i 0 < d.getD j 0)) : like c = like d := by
  rw [like_places, like_places, ← hl]
  refine List.map_congr_left fun j hj => ?_
  have e : ((List.range c.length).filter fun i => decide (c.getD i 0 < c.getD j 0)) = (List.range c.length).filter fun i => decide (d.getD i 0 < d.getD j 0) := by
    refine List.filter_congr fun i hi => ?_
    exact decide_eq_decide.mpr (h i j (List.mem_range.mp hi) (List.mem_range.mp hj))
  rw [e]
def wt (n : Nat) (t : List Int) : Nat := 2 ^ (n - (startI t).toNat)
theorem startI_snoc (t : List Int) (x : Int) : startI (t ++ [x]) = x + 1 := by
  unfold startI
  rw [List.getLast?_append]
  rfl
theorem geo (n : Nat) : ∀ (k s : Nat), s + k ≤ n → ((irange (s : Int) k).map fun x => 2 ^ (n - (x + 1).toNat)).sum ≤ 2 ^ (n - s)
  | 0, _, _ => Nat.zero_le _
  | k + 1, s, h => by
    rw [irange_succ, List.map_cons, List.sum_cons]
    have ih := geo n k (s + 1) (by omega)
    rw [show ((s + 1 : Nat) : Int) = (s : Int) + 1 from rfl] at ih
    have e1 : ((s : Int) + 1).toNat = s + 1 := by omega
    rw [e1]
    have e2 : 2 ^ (n - s) = 2 ^ (n - (s + 1)) + 2 ^ (n - (s + 1)) := by
      rw [show n - s = (n - (s + 1)) + 1 by omega, Nat.pow_succ]
      omega
    omega
theorem sum_filter (f : Int → Nat) (P : Int → Bool) : ∀ l : List Int, ((l.filter P).map f).sum ≤ (l.map f).sum
  | [] => Nat.le_refl _
  | x :: l => by
    have ih := sum_filter f P l
    by_cases h : P x = true
    · rw [List.filter_cons_of_pos h, List.map_cons, List.map_cons, List.sum_cons, List.sum_cons]
      omega
    · rw [List.filter_cons_of_neg h, List.map_cons, List.sum_cons]
      omega
theorem ext_wt {p q : List Int} {a : Nat} {t : List Int} (h : Pl p a t) (ha : a < q.length) : ((extT p q a t).map (wt p.length)).sum ≤ wt p.length t := by
  obtain ⟨b1, b2⟩ := startI_bd h
  unfold extT
  rw [List.map_map]
  have e : (wt p.length ∘ fun x => t ++ [x]) = fun x => 2 ^ (p.length - (x + 1).toNat) := funext fun x => by
    show wt p.length (t ++ [x]) = _
    unfold wt
    rw [startI_snoc]
  rw [e]
  refine Nat.le_trans (sum_filter _ _ _) ?_
  have hs : stopI p q a ≤ p.length := by
    unfold stopI
    omega
  have := geo p.length (stopI p q a - startI t).toNat (startI t).toNat (by omega)
  rw [Int.toNat_of_nonneg b1] at this
  exact this
theorem sum_flat (f : List Int → List (List Int)) (w : List Int → Nat) : ∀ l : List (List Int), (∀ t ∈ l, ((f t).map w).sum ≤ w t) → ((l.flatMap f).map w).sum ≤ (l.map w).sum
  | [], _ => Nat.le_refl _
  | t :: l, h => by
    rw [List.flatMap_cons, List.map_append, List.sum_append, List.map_cons, List.sum_cons]
    have h1 := h t List.mem_cons_self
    have h2 := sum_flat f w l fun u hu => h u (List.mem_cons_of_mem _ hu)
    omega
theorem Ls_wt {p q : List Int} : ∀ {a : Nat}, a ≤ q.length → ((Ls p q a).map (wt p.length)).sum ≤ 2 ^ p.length
  | 0, _ => by
    show wt p.length [] + 0 ≤ _
    exact Nat.le_refl _
  | a + 1, ha => by
    refine Nat.le_trans (sum_flat _ _ _ fun t ht => ext_wt (pl_Ls (by omega) t ht) ha) (Ls_wt (by omega))
theorem len_sum (w : List Int → Nat) (h : ∀ t, 0 < w t) : ∀ l : List (List Int), l.length ≤ (l.map w).sum
  | [] => Nat.le_refl _
  | t :: l => by
    rw [List.length_cons, List.map_cons, List.sum_cons]
    have := h t
    have := len_sum w h l
    omega
theorem Ls_two {p q : List Int} {a : Nat} (ha : a ≤ q.length) : (Ls p q a).length ≤ 2 ^ p.length :=
  Nat.le_trans (len_sum (wt p.length) (fun _ => Nat.pow_pos (by omega)) _) (Ls_wt ha)
def zipR (rs : List Rs) : M (List D) := match rs with
  | [r, s] => bnd (itR r) fun xs => bnd (itR s) fun ys => rt (zipD xs ys)
  | _ => fun _ => .bad
theorem iZip_at (m : M (List Rs)) (g : En) : iZip m g = (m g).thn (c := ⟨fun rs g1 => zipR rs g1⟩) := Eq.trans rfl rfl
theorem zipR_at (r s : Rs) (g : En) : zipR [r, s] g = (itR r g).thn (c := ⟨fun xs g1 => (itR s g1).thn (c := ⟨fun ys g2 => .ok (zipD xs ys) g2⟩)⟩) := Eq.trans rfl rfl
theorem forG_each {t : Tg} {ms : List Nat} {b : M Fl} {g : En} (hg : Z.fgt ms g = g) : ∀ xs : List D, (∀ x ∈ xs, ∃ g1 g2, setT t x g = some g1 ∧ b g1 = .ok .nx g2 ∧ Z.fgt ms g2 = g) → forG t ms b xs g = .ok .nx g
  | [], _ => by
    rw [forG, hg]
  | x :: xs, h => by
    obtain ⟨g1, g2, h1, h2, h3⟩ := h x List.mem_cons_self
    rw [forG, h1]
    dsimp only
    rw [h2]
    dsimp only
    rw [h3]
    exact forG_each hg xs fun y hy => h y (List.mem_cons_of_mem _ hy)
end Z

set_option Elab.async false
set_option linter.all false
set_option maxRecDepth 100000
set_option autoImplicit false
set_option maxHeartbeats 1000000
namespace Z
open PySem PySem.Spec PyProof.Rows L2
def dcG (vs : List Nat) (t : Tg) (mt : M Bool) (mk mv : M D) : List D → List (D × D) → M (List (D × D))
  | [], ys, g => .ok ys g
  | x :: xs, ys, g => match setT t x g with
    | none => .bad
    | some g1 => match mt g1 with
      | .ok true g2 => match mk g2 with
        | .ok k g3 => match dkey k with
          | none => .bad
          | some key => match mv g3 with
            | .ok d g4 => dcG vs t mt mk mv xs (dput ys key d) (wipG g4 vs)
            | _ => .bad
        | _ => .bad
      | .ok false g2 => dcG vs t mt mk mv xs ys (wipG g2 vs)
      | _ => .bad
def dcB (vs : List Nat) (t : Tg) (mt : M Bool) (mk mv : M D) (xs : List D) : M D := fun g => if xs.length ≤ sizeLine ∧ noOwn g vs = true then match dcG vs t mt mk mv xs [] (wipG g vs) with
    | .ok ys g' => .ok (.dict ys) (rstG g g' vs)
    | _ => .bad
  else .bad
def dcL (vs : List Nat) (t : Tg) (mi : M (List D)) (mt : M Bool) (mk mv : M D) : M D := bnd mi (dcB vs t mt mk mv)
theorem Rel.keepX {K : PySem.W.Frag} {F : Fr} {G H : Hp} {Mu : Option Addr} {Γ : En} {σ : St} {l : Addr} {o : HO} (R : Rel K F G Mu Γ σ H) (h1 : H l = some o) (h3 : F l = none) (h4 : G l = none) (h5 : Mu ≠ some l) (h6 : ∀ i, ¬ Owns Γ σ i l) : Same G (upd G l o) ∧ Rel K F (upd G l o) Mu Γ σ H := by
  have hs : Same G (upd G l o) := same_upd h4
  have gh : Same (upd G l o) H := fun b x q => by
    by_cases hb : b = l
    · subst hb
      rw [upd_same] at q
      rw [h1]
      exact q
    · rw [upd_ne hb] at q
      exact R.gh b x q
  refine ⟨hs, R.mono (Mu' := Mu) R.fh hs gh (fun l' q => ?_) (fun i l' ho => ?_) (fun l' q => ?_)⟩
  · obtain ⟨_, m2, m3⟩ := R.mu l' q
    rw [upd_ne (show l' ≠ l from fun z => h5 (by rw [q, z]))]
    exact ⟨m2, m3⟩
  · rw [upd_ne (show l' ≠ l from fun z => h6 i (by rw [← z]; exact ho))]
    exact ⟨(R.there ho).2.1, rfl⟩
  · rw [upd_ne (fun z => F.kf l' q (by rw [z]; exact h3))]
    exact R.lk l' q
theorem dc_it {J : It} {n : Nat} {Gp : Hp → Prop} {Y : Nat → Hp → V → Hp → Prop} (w : Walk J n Gp Y) {g : TG} {tt : TT} {tk tv : TE} {vs : List Nat} {σ : L2.St} {H1 : Hp} {D : Addr} {Qd : Hp → Prop} (Pv : Nat → Hp → Prop) (h0 : Pv 0 (upd H1 D (.dK []))) (hG : ∀ i H, i ≤ n → Pv i H → Gp H)
    (hs : ∀ i x H H', i < n → Pv i H → Y i H x H' → g x (wipe σ vs) H' fun σ2 H2 => wipe σ2 vs = wipe σ vs ∧ tt σ2 H2 fun b H3 =>
      if b = true then tk σ2 H3 fun y H4 => tv σ2 H4 fun z H5 => ∃ kvs k, y = kV k ∧ H5 D = some (.dK kvs) ∧ kvs.length < sizeLine ∧ Pv (i + 1) (upd H5 D (.dK (putK kvs k z))) else Pv (i + 1) H3) (hd : ∀ H, Pv n H → Qd H) :
    ∃ W : Nat → Nat → Hp → Prop, (∃ m, W 0 m (upd H1 D (.dK []))) ∧ ∀ i m H, W i m H →
      (J.stop i H ∧ Qd H) ∨ (J.go i H ∧ ∃ Nx : Hp → Prop, (∀ H', Nx H' → ∃ m', m' < m ∧ W (i + 1) m' H') ∧ ∀ x H', J.yld i H x H' → g x (wipe σ vs) H' fun σ2 H2 => wipe σ2 vs = wipe σ vs ∧ tt σ2 H2 fun b H3 =>
        if b = true then tk σ2 H3 fun y H4 => tv σ2 H4 fun z H5 => ∃ kvs k, y = kV k ∧ H5 D = some (.dK kvs) ∧ kvs.length < sizeLine ∧ Nx (upd H5 D (.dK (putK kvs k z))) else Nx H3) := by
  refine ⟨fun i m H => m + i = n ∧ Pv i H, ⟨n, Nat.add_zero n, h0⟩, ?_⟩
  intro i m H hW
  have hi : i ≤ n := by omega
  have hq := hG i H hi hW.2
  rcases Nat.lt_or_eq_of_le hi with hlt | e
  · exact .inr ⟨w.goes i H hlt hq, Pv (i + 1), fun H' p' => ⟨m - 1, by omega, by omega, p'⟩, fun x H' y => hs i x H H' hlt hW.2 (w.yields i H x H' hlt hq y)⟩
  · subst e
    exact .inl ⟨w.stops H hq, hd H hW.2⟩
theorem dc_run {X : Cx} {b : Bool} {W : WX} {σ : St} {H : Hp} {Q : VK} {vs : List Nat} {t : Tg} {mi : M (List D)} {mt : M Bool} {mk mv : M D} (hv : ∀ i ∈ tgS t, i ∈ vs) (p : zt X W rhoD (dcL vs t mi mt mk mv) σ H Q) :
    tDc (zt X W (rhoW b) mi) (zGb b X t) (zt X W0 rhoB mt) (zt X W0 rhoD mk) (zt X W0 rhoD mv) vs σ H Q :=
  (zt_bnd (ρ := rhoW b) p).imp fun J H1 ⟨xs, F, G, Mu, Γ, R, h1, q⟩ l nl => by
    unfold dcB at q
    split at q
    · rename_i hz
      obtain ⟨hz, no⟩ := hz
      have nF : F l = none := R.fh.free nl
      have nG : G l = none := R.gh.free nl
      have nM : Mu ≠ some l := fun z => (R.mu l z).2.2 nl
      have nO : ∀ i, ¬ Owns (wipG Γ vs) (wipe σ vs) i l := fun i h => by
        obtain ⟨_, _, us, z⟩ := (R.wipe vs).there h
        rw [nl] at z
        cases z
      cases e1 : dcG vs t mt mk mv xs [] (wipG Γ vs) with
      | bad => rw [e1] at q; exact q.elim
      | ex c y Γ1 => rw [e1] at q; exact q.elim
      | ok zs Γz =>
        rw [e1] at q
        refine dc_it h1 (fun i H' => ∃ G' Γ' acc ys, Same G G' ∧ Rel X.K (F.lock l (.dK acc) nF) G' Mu Γ' (wipe σ vs) H' ∧ KvAll X.K G' acc ys ∧ ys.length ≤ i ∧ dcG vs t mt mk mv (xs.drop i) ys Γ' = .ok zs Γz) ?_
          (fun i H' _ ⟨G', Γ', acc, ys, g, R', _⟩ => ⟨fun a o z => R'.unlock.1.fh a o (F.af a o z), g.trans R'.gh⟩) (fun i v H' H2 hi ⟨G', Γ', acc, ys, g, R', hd, hy, hc⟩ ⟨x, hx, y⟩ => ?_) fun H' ⟨G', Γ', acc, ys, g, R', hd, hy, hc⟩ => ?_
        · exact ⟨G, wipG Γ vs, [], [], Same.refl _, ((R.wipe vs).newX nl).lock nF upd_same nG nM (fun i h => nO i h), .nil, Nat.le_refl _, e1⟩
        · have hdr : xs.drop i = x :: xs.drop (i + 1) := by
            obtain ⟨hl, e⟩ := List.getElem?_eq_some_iff.mp hx
            rw [← e]
            exact List.drop_eq_getElem_cons hl
          rw [hdr] at hc
          unfold dcG at hc
          split at hc
          · cases hc
          · rename_i g1 e2
            have y' : YV b X.K G' H' v x H2 := by
              cases b with
              | false => exact ⟨y.1, dp_mono g _ _ y.2⟩
              | true =>
                obtain ⟨T, us, ds, a1, a2, a3, a4, a5⟩ := y
                exact ⟨T, us, ds, a1, a2, a3, a4, dpAll_mono g _ _ a5⟩
            refine ⟨_, G', Mu, Γ', g1, x, H', R', y', e2, fun σ2 R2 off => ⟨wipe_off off hv, ?_⟩⟩
            have ew := wipe_off off hv
            split at hc
            · rename_i g2 e3
              split at hc
              · rename_i zk g3 e4
                split at hc
                · cases hc
                · rename_i key ek
                  split at hc
                  · rename_i z g4 e5
                    refine ⟨_, G', Mu, g1, R2, ?_⟩
                    rw [e3]
                    intro bb H3 G3 k3 R3 hb
                    cases (show true = bb from hb)
                    rw [if_pos rfl]
                    refine ⟨_, G3, Mu, g2, R3, ?_⟩
                    rw [e4]
                    intro yk H4 G4 k4 R4 hk
                    refine ⟨_, G4, Mu, g3, R4, ?_⟩
                    rw [e5]
                    intro u H5 G5 k5 R5 hu
                    obtain ⟨R6, j1, j2, j3, j4⟩ := R5.unlock
                    have hyk : yk = kV key := key_rel (H := H4) (G := G4) (.inl hk) ek
                    have hd' := kvAll_up k5 (kvAll_up k4 (kvAll_up k3 hd))
                    refine ⟨acc, key, hyk, j1, ?_, G5, wipG g4 vs, putK acc key u, dput ys key z, ((g.trans k3).trans k4).trans k5, ?_, kv_put hd' hu, Nat.le_trans (dput_len _ _ _) (Nat.add_le_add_right hy 1), hc⟩
                    · rw [kv_len hd]
                      omega
                    · have R7 := R6.wipe vs
                      rw [ew] at R7
                      have o7 : ∀ i, ¬ Owns (wipG g4 vs) (wipe σ vs) i l := fun i h => by
                        have R8 := R5.wipe vs
                        rw [ew] at R8
                        have := (R8.there h).1
                        rw [show (F.lock l (HO.dK acc) nF) l = some (.dK acc) from upd_same] at this
                        cases this
                      exact (R7.poke (o := .dK (putK acc key u)) nF j2 j3 o7).lock nF upd_same j2 j3 o7
                  · cases hc
              · cases hc
            · rename_i g2 e3
              refine ⟨_, G', Mu, g1, R2, ?_⟩
              rw [e3]
              intro bb H3 G3 k3 R3 hb
              cases (show false = bb from hb)
              rw [if_neg Bool.false_ne_true]
              have R6 := R3.wipe vs
              rw [ew] at R6
              exact ⟨G3, wipG g2 vs, acc, ys, g.trans k3, R6, kvAll_up k3 hd, by omega, hc⟩
            · cases hc
        · rw [List.drop_length] at hc
          unfold dcG at hc
          cases hc
          obtain ⟨R5, j1, j2, j3, j4⟩ := R'.unlock
          have R6 := R.back R5 g no
          have o6 : ∀ i, ¬ Owns (rstG Γ Γz vs) σ i l := fun i h => by
            obtain ⟨m, w1, ws, w2⟩ := h
            have hni : i ∉ vs := fun hin => by
              rw [rstG_in (by rw [R5.len, R.len, wipe_length]) hin] at w1
              rw [noOwn_at no hin w1] at ws
              cases ws
            exact j4 i ⟨m, by rw [← rstG_out hni]; exact w1, ws, by rw [wipe_out hni]; exact w2⟩
          obtain ⟨s7, R7⟩ := R6.keepX j1 nF j2 j3 o6
          exact q _ H' _ (g.trans s7) R7 (show rhoD _ _ _ _ _ _ _ (.dict zs) (.ref l) from .dic upd_same (kvAll_up s7 hd))
    · exact q.elim
section
variable {X : Cx} {b : Bool} {kx vx tg iter : Expr} {ifs : List Expr} {scope : Scope} {pos : Pos} {t : Tg} {mi : M (List D)} {mt : M Bool} {mk mv : M D}
theorem dp_dcomp (own : List (Str × Nat)) (hc : X.calm = true) (hN : X.N.Nodup) (hi : DI b X tg iter mi) (ok : BlkOk X.N X.env.scope scope own)
    (hg : ∀ (s : Shared) (H : Hp) (C : Addr) (cl : List (Str × Addr)) (fp : List Addr), DGb b (X.blk s H scope (compEnvC scope cl C X.env) fp) tg t) (ht : ∀ (s : Shared) (H : Hp) (C : Addr) (cl : List (Str × Addr)) (fp : List Addr), DTs (X.blk s H scope (compEnvC scope cl C X.env) fp) ifs mt)
    (hk : ∀ (s : Shared) (H : Hp) (C : Addr) (cl : List (Str × Addr)) (fp : List Addr), DP (X.blk s H scope (compEnvC scope cl C X.env) fp) kx mk)
    (he : ∀ (s : Shared) (H : Hp) (C : Addr) (cl : List (Str × Addr)) (fp : List Addr), DP (X.blk s H scope (compEnvC scope cl C X.env) fp) vx mv) (hv : ∀ i ∈ tgS t, i ∈ own.map (·.2)) (hs : ∀ x, foldedSetIterable iter X.env x = pure x := by intro _; rfl) :
    DP X (.DictComp kx vx [⟨tg, iter, ifs, 0⟩] scope pos) (dcL (own.map (·.2)) t mi mt mk mv) := fun W tk =>
  pe_imp (pe_dc (g := zGb b X t) (tt := zt X W0 rhoB mt) (tk := zt X W0 rhoD mk) (tv := zt X W0 rhoD mv) hc hN (hi W tk) ok (fun s H C cl fp => hg s H C cl fp) (fun s H C cl fp => ht s H C cl fp W0 takes0) (fun s H C cl fp => hk s H C cl fp W0 takes0) (fun s H C cl fp => he s H C cl fp W0 takes0) hs) fun σ H Q p => dc_run hv p
end
theorem dcL_at (vs : List Nat) (t : Tg) (mi : M (List D)) (mt : M Bool) (mk mv : M D) (g : En) : dcL vs t mi mt mk mv g = (mi g).thn (c := ⟨fun xs g1 => dcB vs t mt mk mv xs g1⟩) := Eq.trans rfl rfl
theorem dcG_ok {β : Type} {vs : List Nat} {t : Tg} {mt : M Bool} {mk mv : M D} {enc fv : β → D} {fk : β → Key} {g0 : En} : ∀ (l : List β) (ys : List (D × D)), (∀ x ∈ l, ∃ g1, setT t (enc x) g0 = some g1 ∧ mt g1 = .ok true g1 ∧ mk g1 = .ok (keyD (fk x)) g1 ∧ mv g1 = .ok (fv x) g1 ∧ wipG g1 vs = g0) →
    dcG vs t mt mk mv (l.map enc) ys g0 = .ok (l.foldl (fun ys x => dput ys (fk x) (fv x)) ys) g0
  | [], _, _ => rfl
  | x :: l, ys, h => by
    obtain ⟨g1, h1, h2, h3, h4, h5⟩ := h x List.mem_cons_self
    rw [List.map_cons, dcG, h1]
    dsimp only
    rw [h2]
    dsimp only
    rw [h3]
    dsimp only
    rw [dkey_keyD]
    dsimp only
    rw [h4]
    dsimp only
    rw [h5, List.foldl_cons]
    exact dcG_ok l _ fun y hy => h y (List.mem_cons_of_mem _ hy)
theorem dcB_ok {β : Type} {vs : List Nat} {t : Tg} {mt : M Bool} {mk mv : M D} {enc fv : β → D} {fk : β → Key} {g : En} (l : List β) (hz : l.length ≤ sizeLine) (hn : noOwn g vs = true)
    (h : ∀ x ∈ l, ∃ g1, setT t (enc x) (wipG g vs) = some g1 ∧ mt g1 = .ok true g1 ∧ mk g1 = .ok (keyD (fk x)) g1 ∧ mv g1 = .ok (fv x) g1 ∧ wipG g1 vs = wipG g vs) :
    dcB vs t mt mk mv (l.map enc) g = .ok (.dict (l.foldl (fun ys x => dput ys (fk x) (fv x)) [])) g := by
  unfold dcB
  rw [if_pos ⟨by rw [List.length_map]; exact hz, hn⟩, dcG_ok l [] h]
  dsimp only
  rw [rst_wip]
end Z

set_option Elab.async false
set_option linter.all false
set_option maxRecDepth 100000
set_option autoImplicit false
set_option maxHeartbeats 1000000
namespace Z
open PySem PySem.Spec PyProof.Rows L2
def sSubG (i : Nat) (y : D) (k : M Rs) : M Fl := fun g => match g[i]? with
  | some (.own _ _) => bnd k (fun s => fun g' => match g'[i]?, vl g' s with
    | some (.own b xs), some (.int n) => match ixN xs.length n with
      | some j => .ok .nx (g'.set i (.own b (xs.set j y)))
      | none => .bad
    | _, _ => .bad) g
  | _ => .bad
def sSwap (i : Nat) (m : M (List D)) (k1 k2 : M Rs) : M Fl := bnd (dTup m) fun t => match t with
  | .tuple [y1, y2] => dSeq (sSubG i y1 k1) (sSubG i y2 k2)
  | _ => fun _ => .bad
def swapR (i : Nat) (k1 k2 : M Rs) (t : D) : M Fl := match t with
  | .tuple [y1, y2] => dSeq (sSub i (rt y1) k1) (sSub i (rt y2) k2)
  | _ => fun _ => .bad
theorem sSwap_at (i : Nat) (m : M (List D)) (k1 k2 : M Rs) (g : En) : sSwap i m k1 k2 g = (dTup m g).thn (c := ⟨fun t g1 => swapR i k1 k2 t g1⟩) := Eq.trans rfl rfl
theorem swapR_at (i : Nat) (k1 k2 : M Rs) (y1 y2 : D) (g : En) : swapR i k1 k2 (.tuple [y1, y2]) g = dSeq (sSub i (rt y1) k1) (sSub i (rt y2) k2) g := Eq.trans rfl rfl
end Z

set_option Elab.async false
set_option linter.all false
set_option maxRecDepth 100000
set_option autoImplicit false
set_option maxHeartbeats 1000000
namespace Z
open PySem PySem.Spec PyProof.Rows L2
theorem isOrd_ir (n : Nat) : IsOrd (irange 1 n) := .of_perm (by rw [irange_len])
theorem at0_ir {n i : Nat} (h : i < n) : at0 (irange 1 n) i = (i : Int) + 1 := by
  show List.getD _ _ _ = _
  rw [List.getD_eq_getElem?_getD, irange_get _ _ _ h]
  show (1 : Int) + i = _
  omega
theorem pAt_ir {n : Nat} {x : Int} (h0 : 0 ≤ x) (h1 : x < n) : pAt (irange 1 n) x = x + 1 := by
  rw [pAt_at0, at0_ir (by omega)]
  omega
theorem okI_ir {n k a : Nat} {t : List Int} {x : Int} (ha : a < k) (ht : t ∈ Ls (irange 1 n) (irange 1 k) a) (h0 : startI t ≤ x) (h1 : x < n) : okI (irange 1 n) (irange 1 k) a t x = true := by
  have lk : (irange 1 k).length = k := irange_len _ _
  have ln : (irange 1 n).length = n := irange_len _ _
  have m := ((mem_Ls (isOrd_ir n) (irange_nodup 1 k) (by rw [lk]; omega) t).mp ht).1
  have s0 := (startI_bd m.pl).1
  have hl := m.pl.len
  have hy := (startI_le (x := x) (fun i j hij hj => m.asc i j hij (by omega)) (by omega)).mp h0
  have b1 : ∀ i, i < a → 0 ≤ at0 t i ∧ at0 t i < x := fun i hi => ⟨m.pl.lo _ (at0_mem (by omega)), hy _ (at0_mem (by omega))⟩
  unfold okI
  rw [Bool.and_eq_true, decide_eq_true_eq, decide_eq_true_eq]
  refine ⟨(least_iff (isOrd_ir n) (irange_nodup 1 k) (by rw [lk]; exact ha) m (by omega) (by rw [ln]; exact h1)).mpr fun i hi _ => ?_, (most_iff (isOrd_ir n) (irange_nodup 1 k) (by rw [lk]; exact ha) m (by omega) (by rw [ln]; exact h1)).mpr fun i hi hq => ?_⟩
  · have := b1 i hi
    rw [pAt_ir (by omega) (by omega), pAt_ir (by omega) h1]
    omega
  · rw [at0_ir ha, at0_ir (by omega)] at hq
    omega
theorem extT_ir {n k a : Nat} {t : List Int} (ha : a < k) (ht : t ∈ Ls (irange 1 n) (irange 1 k) a) : extT (irange 1 n) (irange 1 k) a t = (irange (startI t) (stopI (irange 1 n) (irange 1 k) a - startI t).toNat).map fun x => t ++ [x] := by
  unfold extT
  rw [List.filter_eq_self.mpr fun x hx => ?_]
  have hx' := irange_mem.mp hx
  have hs : stopI (irange 1 n) (irange 1 k) a ≤ n := by
    unfold stopI
    rw [irange_len, irange_len]
    omega
  exact okI_ir ha ht hx'.1 (by omega)
theorem cnt_le (c : List Int) {a b : Int} (h : a ≤ b) : (c.filter fun x => decide (x < a)).length ≤ (c.filter fun x => decide (x < b)).length := by
  rw [← List.countP_eq_length_filter, ← List.countP_eq_length_filter]
  exact List.countP_mono_left fun x _ hx => by
    have := of_decide_eq_true hx
    exact decide_eq_true (by omega)
theorem like_getD {c : List Int} {i : Nat} (h : i < c.length) : (like c).getD i 0 = 1 + ((c.filter fun x => decide (x < c.getD i 0)).length : Int) := by
  unfold like
  rw [List.getD_eq_getElem?_getD, List.getElem?_map, getD_get h]
  rfl
theorem like_lt {c : List Int} {i j : Nat} (hi : i < c.length) (hj : j < c.length) : (like c).getD i 0 < (like c).getD j 0 ↔ c.getD i 0 < c.getD j 0 := by
  rw [like_getD hi, like_getD hj]
  constructor
  · intro h
    rcases Int.lt_or_le (c.getD i 0) (c.getD j 0) with z | z
    · exact z
    · have := cnt_le c z
      omega
  · intro h
    have := cnt_lt h (at0_mem hi)
    omega
theorem like_iff {c q : List Int} (iq : IsOrd q) (hl : c.length = q.length) : like c = q ↔ ∀ i j, i < q.length → j < q.length → (c.getD i 0 < c.getD j 0 ↔ q.getD i 0 < q.getD j 0) := by
  constructor
  · intro e i j hi hj
    rw [← like_lt (c := c) (by omega) (by omega), e]
  · intro h
    rw [like_cmp hl fun i j hi hj => h i j (by omega) (by omega), like_ord iq]
theorem PL_long {p q : List Int} (ip : IsOrd p) (iq : IsOrd q) (h : p.length < q.length) : PL p q = [] := by
  cases e : PL p q with
  | nil => rfl
  | cons t L =>
    have m := (mem_PL ip iq.nd t).mp (by rw [e]; exact List.mem_cons_self)
    have hl := m.pl.len
    have nd : t.Nodup := List.pairwise_iff_getElem.mpr fun i j hi hj hij z => by
      have := m.asc i j hij (by omega)
      rw [show at0 t i = t[i] from by show t.getD i 0 = _; rw [List.getD_eq_getElem?_getD, List.getElem?_eq_getElem hi]; rfl, show at0 t j = t[j] from by show t.getD j 0 = _; rw [List.getD_eq_getElem?_getD, List.getElem?_eq_getElem hj]; rfl] at this
      omega
    have := List.Nodup.length_le_of_subset nd (show t ⊆ irange 0 p.length from fun x hx => irange_mem.mpr ⟨m.pl.lo x hx, by have := m.pl.hi x hx; omega⟩)
    rw [irange_len] at this
    omega

def srt (c : List Int) : List Int := c.mergeSort fun a b => decide (a ≤ b)
theorem srt_perm (c : List Int) : (srt c).Perm c := List.mergeSort_perm c _
theorem srt_le (c : List Int) : (srt c).Pairwise (· ≤ ·) := by
  have := List.pairwise_mergeSort (le := fun a b : Int => decide (a ≤ b)) (fun a b c h k => decide_eq_true (Int.le_trans (of_decide_eq_true h) (of_decide_eq_true k))) (fun a b => by simp; omega) c
  exact this.imp fun h => of_decide_eq_true h
theorem srt_ints (c : List Int) : sortD (c.map .int) = (srt c).map .int := sortD_ints (srt_perm c).symm (srt_le c)
theorem srt_len (c : List Int) : (srt c).length = c.length := (srt_perm c).length_eq
theorem srt_lt {c : List Int} (nd : c.Nodup) : (srt c).Pairwise (· < ·) := by
  have h1 := srt_le c
  have h2 : (srt c).Nodup := (srt_perm c).nodup_iff.mpr nd
  exact (List.Pairwise.and h1 h2).imp fun {a b} h => by
    have h3 := h.1
    have h4 := h.2
    omega
theorem rank_like {c : List Int} (nd : c.Nodup) {i : Nat} (hi : i < (srt c).length) : (i : Int) + 1 = 1 + ((c.filter fun x => decide (x < (srt c).getD i 0)).length : Int) := by
  have hlt := srt_lt nd
  have e1 : (c.filter fun x => decide (x < (srt c).getD i 0)).length = ((srt c).filter fun x => decide (x < (srt c).getD i 0)).length := ((srt_perm c).filter _).length_eq.symm
  have e2 : srt c = (srt c).take i ++ (srt c).getD i 0 :: (srt c).drop (i + 1) := by
    conv => lhs; rw [← List.take_append_drop i (srt c)]
    rw [List.drop_eq_getElem_cons hi, List.getD_eq_getElem?_getD, List.getElem?_eq_getElem hi]
    rfl
  have hg : ∀ z : Int, z = (srt c).getD i 0 → ((srt c).filter fun x => decide (x < z)).length = i := fun z hz => by
    rw [e2, ← hz] at hlt ⊢
    obtain ⟨a1, a2, a3⟩ := List.pairwise_append.mp hlt
    obtain ⟨a4, a5⟩ := List.pairwise_cons.mp a2
    rw [List.filter_append, List.filter_eq_self.mpr fun x hx => decide_eq_true (a3 x hx z List.mem_cons_self), List.filter_cons_of_neg (by simp), List.filter_eq_nil_iff.mpr fun x hx => by
      have := a4 x hx
      simp
      omega, List.append_nil, List.length_take]
    omega
  rw [e1, hg _ rfl]
  omega
theorem dput_new {ys : List (D × D)} {k : Key} {d : D} (h : ∀ p ∈ ys, dkey p.1 ≠ some k) : dput ys k d = ys ++ [(keyD k, d)] := by
  unfold dput
  rw [if_neg]
  intro e
  obtain ⟨p, hp, e2⟩ := List.any_eq_true.mp e
  exact h p hp (of_decide_eq_true e2)
theorem fold_fresh {β : Type} {fk : β → Key} {fv : β → D} : ∀ (l : List β) (ys : List (D × D)), l.Pairwise (fun x y => fk x ≠ fk y) → (∀ x ∈ l, ∀ p ∈ ys, dkey p.1 ≠ some (fk x)) → l.foldl (fun ys x => dput ys (fk x) (fv x)) ys = ys ++ l.map fun x => (keyD (fk x), fv x)
  | [], ys, _, _ => by
    rw [List.map_nil, List.append_nil]
    rfl
  | x :: l, ys, h, hy => by
    obtain ⟨h1, h2⟩ := List.pairwise_cons.mp h
    rw [List.foldl_cons, dput_new (hy x List.mem_cons_self), fold_fresh l _ h2 fun z hz p hp => ?_, List.map_cons, List.append_assoc]
    · rfl
    · rcases List.mem_append.mp hp with e | e
      · exact hy z (List.mem_cons_of_mem _ hz) p e
      · rw [List.mem_singleton.mp e]
        show dkey (keyD (fk x)) ≠ _
        rw [dkey_keyD]
        exact fun e => h1 z hz (Option.some.inj e)
theorem dfind_map {β : Type} {fk : β → Key} {fv : β → D} : ∀ (l : List β) (x : β), x ∈ l → (∀ y ∈ l, fk y = fk x → y = x) → dfind (l.map fun y => (keyD (fk y), fv y)) (fk x) = some (fv x)
  | y :: l, x, h, hi => by
    rw [List.map_cons, dfind]
    dsimp only
    rw [dkey_keyD]
    by_cases e : fk y = fk x
    · rw [if_pos (by rw [e]), hi y List.mem_cons_self e]
    · rw [if_neg fun z => e (Option.some.inj z)]
      rcases List.mem_cons.mp h with e2 | e2
      · exact absurd (by rw [e2]) e
      · exact dfind_map l x e2 fun z hz => hi z (List.mem_cons_of_mem _ hz)
theorem enumD_irange (s : List Int) : enumD 0 (s.map .int) = (irange 0 s.length).map fun i => .tuple [.int i, .int (s.getD i.toNat 0)] := by
  have h : ∀ (s : List Int) (a : Nat), enumD a (s.map .int) = (irange a s.length).map fun i => .tuple [.int i, .int (s.getD (i.toNat - a) 0)] := by
    intro s
    induction s with
    | nil => exact fun a => rfl
    | cons x s ih =>
      intro a
      rw [List.map_cons, enumD_cons, ih, List.length_cons, irange_succ, List.map_cons]
      congr 1
      · rw [Int.toNat_natCast, Nat.sub_self]
        rfl
      · rw [show ((a + 1 : Nat) : Int) = (a : Int) + 1 from rfl]
        refine List.map_congr_left fun i hi => ?_
        have := irange_mem.mp hi
        rw [show i.toNat - a = (i.toNat - (a + 1)) + 1 by omega, List.getD_cons_succ]
  have := h s 0
  simp only [Nat.sub_zero] at this
  exact this
end Z

set_option Elab.async false
set_option linter.all false
set_option maxRecDepth 100000
set_option autoImplicit false
set_option maxHeartbeats 1000000
namespace Z
open PySem PySem.Spec PyProof.Rows L2
def moveV (o : Option SV) : Option SV := match o with
  | some (.own false xs) => some (.own false xs)
  | some (.d x) => some (.d x)
  | _ => none
def sMove (i j : Nat) : M Fl := fun g => match moveV g[j]? with
  | some sv => .ok .nx ((g.set j .u).set i sv)
  | none => .bad
theorem ds_move {X : Cx} {i j : Nat} {x y : Str} {px py pos : Pos} (hN : X.N.Nodup) (hi : X.N[i]? = some x) (hx : Loc X.env.scope x) (hj : X.N[j]? = some y) (hv : Vis X.env.scope y) (hd : (y == ("__debug__" : Str)) = false := by decide) (hcd : (y == ("__classdict__" : Str)) = false := by decide)
    (hs : swapsWith (.Name y py) (some (.Name x px)) pos.line X.env = pure false := by rfl) (hf : X.fn x = true ∨ X.env.scope.names.lookup x = some .local := by first | exact .inl rfl | exact .inr rfl | assumption) :
    DS X (.Assign [.Name x px] (.Name y py) pos) (sMove i j) := fun W tk =>
  ps_imp (ps_set hN hi hx (pe_var hj hv hd hcd) hs hf) fun D σ H ⟨F, G, Mu, Γ, R, q⟩ => by
    unfold sMove at q
    cases hg : Γ[j]? with
    | none => rw [hg] at q; exact q.elim
    | some sv =>
      rw [hg] at q
      cases sv with
      | u => exact q.elim
      | a xs => exact q.elim
      | dk ds => exact q.elim
      | d z =>
        obtain ⟨v, h1, h2⟩ := R.data hg
        refine ⟨v, h1, ?_⟩
        exact q _ H G (Same.refl _) ((R.forget' j).store (sv := .d z) ⟨v, rfl, h2⟩ fun e => nomatch e)
      | own b xs =>
        cases b with
        | true => exact q.elim
        | false =>
          obtain ⟨l, vs, h1, h2, h3, h4, h5, _, h7, ho⟩ := R.owned hg
          refine ⟨_, h1, ?_⟩
          refine q _ H G (Same.refl _) ((R.forget' j).storeO ⟨l, vs, rfl, h2, h3, h4, h5, h7 rfl, fun k hk => ?_⟩ i)
          obtain ⟨m, w1, ws, w2⟩ := hk
          by_cases e : j = k
          · subst e
            have hl : j < Γ.length := (List.getElem?_eq_some_iff.mp hg).1
            rw [List.getElem?_set_self hl] at w1
            cases w1
            cases ws
          · rw [List.getElem?_set_ne e] at w1
            exact e (R.sep j k l ho ⟨m, w1, ws, w2⟩)
theorem moveV_o (xs : List D) : moveV (some (.own false xs)) = some (.own false xs) := Eq.trans rfl rfl
theorem moveV_d (x : D) : moveV (some (.d x)) = some (.d x) := Eq.trans rfl rfl
def mvR (i j : Nat) (g : En) (o : Option SV) : Ro Fl := match o with
  | some sv => .ok .nx ((g.set j .u).set i sv)
  | none => .bad
theorem sMove_at (i j : Nat) (g : En) : sMove i j g = mvR i j g (moveV g[j]?) := Eq.trans rfl rfl
theorem mvR_some (i j : Nat) (g : En) (sv : SV) : mvR i j g (some sv) = .ok .nx ((g.set j .u).set i sv) := Eq.trans rfl rfl
end Z

set_option Elab.async false
set_option linter.all false
set_option maxRecDepth 100000
set_option autoImplicit false
set_option maxHeartbeats 1000000
namespace Z
open PySem PySem.Spec PyProof.Rows L2
section
variable {X : Cx}
variable {o e : Expr} {apos cpos : Pos}
end
end Z

set_option Elab.async false
set_option linter.all false
set_option maxRecDepth 100000
set_option autoImplicit false
set_option maxHeartbeats 1000000
namespace Z
open PySem PySem.Spec PyProof.Rows L2
def sUnp (t : Tg) (m : M D) : M Fl := bnd m fun x => fun g => match setT t x g with
  | some g' => .ok .nx g'
  | none => .bad
def unpR (t : Tg) (x : D) : M Fl := fun g => match setT t x g with
  | some g' => .ok .nx g'
  | none => .bad
theorem sUnp_at (t : Tg) (m : M D) (g : En) : sUnp t m g = (m g).thn (c := ⟨fun x g1 => unpR t x g1⟩) := Eq.trans rfl rfl
theorem unpR_2 (i j : Nat) (x y : D) (g : En) : unpR (.tup [.nm i, .nm j]) (.tuple [x, y]) g = .ok .nx ((g.set i (.d x)).set j (.d y)) := by
  unfold unpR
  rw [setT_tup, setTs_cons _ _ _ _ _ _ (setT_nm _ _ _), setTs_cons _ _ _ _ _ _ (setT_nm _ _ _), setTs_nil]
end Z

set_option Elab.async false
set_option linter.all false
set_option maxRecDepth 100000
set_option autoImplicit false
set_option maxHeartbeats 1000000
namespace Z
open PySem PySem.Spec PyProof.Rows L2
def c2G (vs : List Nat) (t : Tg) (mt : M Bool) (vs1 : List Nat) (mi1 : M (List D)) (t1 : Tg) (mt1 : M Bool) (me : M D) : List D → List D → M (List D)
  | [], ys, g => .ok ys g
  | x :: xs, ys, g => match setT t x g with
    | none => .bad
    | some g1 => match mt g1 with
      | .ok true g2 => match mi1 g2 with
        | .ok xs1 g3 => match compG vs1 t1 mt1 me xs1 ys (wipG g3 vs1) with
          | .ok zs g4 => c2G vs t mt vs1 mi1 t1 mt1 me xs zs (wipG g4 vs)
          | _ => .bad
        | _ => .bad
      | .ok false g2 => c2G vs t mt vs1 mi1 t1 mt1 me xs ys (wipG g2 vs)
      | _ => .bad
def c2B (vs : List Nat) (t : Tg) (mt : M Bool) (vs1 : List Nat) (mi1 : M (List D)) (t1 : Tg) (mt1 : M Bool) (me : M D) (xs : List D) : M (List D) := fun g => if noOwn g vs = true then match c2G vs t mt vs1 mi1 t1 mt1 me xs [] (wipG g vs) with
    | .ok ys g' => if ys.length ≤ sizeLine then .ok ys (rstG g g' vs) else .bad
    | _ => .bad
  else .bad
def c2L (vs : List Nat) (t : Tg) (mi : M (List D)) (mt : M Bool) (vs1 : List Nat) (mi1 : M (List D)) (t1 : Tg) (mt1 : M Bool) (me : M D) : M (List D) := bnd mi (c2B vs t mt vs1 mi1 t1 mt1 me)
theorem it2 {J : It} {n : Nat} {Gp : Hp → Prop} {Y : Nat → Hp → V → Hp → Prop} (w : Walk J n Gp Y) {Bd : (Hp → Prop) → V → Hp → Prop} {Qd : Hp → Prop} {H0 : Hp} (Pv : Nat → Hp → Prop) (h0 : Pv 0 H0) (hG : ∀ i H, i ≤ n → Pv i H → Gp H)
    (hs : ∀ i x H H', i < n → Pv i H → Y i H x H' → Bd (Pv (i + 1)) x H') (hd : ∀ H, Pv n H → Qd H) :
    ∃ W : Nat → Nat → Hp → Prop, (∃ m, W 0 m H0) ∧ ∀ i m H, W i m H → (J.stop i H ∧ Qd H) ∨ (J.go i H ∧ ∃ Nx : Hp → Prop, (∀ H', Nx H' → ∃ m', m' < m ∧ W (i + 1) m' H') ∧ ∀ x H', J.yld i H x H' → Bd Nx x H') := by
  refine ⟨fun i m H => m + i = n ∧ Pv i H, ⟨n, Nat.add_zero n, h0⟩, ?_⟩
  intro i m H hW
  have hi : i ≤ n := by omega
  have hq := hG i H hi hW.2
  rcases Nat.lt_or_eq_of_le hi with hlt | e
  · exact .inr ⟨w.goes i H hlt hq, Pv (i + 1), fun H' p' => ⟨m - 1, by omega, by omega, p'⟩, fun x H' y => hs i x H H' hlt hW.2 (w.yields i H x H' hlt hq y)⟩
  · subst e
    exact .inl ⟨w.stops H hq, hd H hW.2⟩
section
variable {X : Cx} {b b1 : Bool} {elt tg iter tg1 iter1 : Expr} {ifs ifs1 : List Expr} {scope : Scope} {pos : Pos} {t t1 : Tg} {mi mi1 : M (List D)} {mt mt1 : M Bool} {me : M D}
end
theorem c2L_at (vs : List Nat) (t : Tg) (mi : M (List D)) (mt : M Bool) (vs1 : List Nat) (mi1 : M (List D)) (t1 : Tg) (mt1 : M Bool) (me : M D) (g : En) : c2L vs t mi mt vs1 mi1 t1 mt1 me g = (mi g).thn (c := ⟨fun xs g1 => c2B vs t mt vs1 mi1 t1 mt1 me xs g1⟩) := Eq.trans rfl rfl
end Z

set_option Elab.async false
set_option linter.all false
set_option maxRecDepth 100000
set_option autoImplicit false
set_option maxHeartbeats 1000000
namespace Z
open PySem PySem.Spec PyProof.Rows L2
def sUnpL (ts : List Tg) (m : M D) : M Fl := bnd m fun x => fun g => match x with
  | .list xs => match setTs ts xs g with
    | some g' => .ok .nx g'
    | none => .bad
  | _ => .bad
def unpRL (ts : List Tg) (x : D) : M Fl := fun g => match x with
  | .list xs => match setTs ts xs g with
    | some g' => .ok .nx g'
    | none => .bad
  | _ => .bad
theorem sUnpL_at (ts : List Tg) (m : M D) (g : En) : sUnpL ts m g = (m g).thn (c := ⟨fun x g1 => unpRL ts x g1⟩) := Eq.trans rfl rfl
theorem unpRL_2 (i j : Nat) (x y : D) (g : En) : unpRL [.nm i, .nm j] (.list [x, y]) g = .ok .nx ((g.set i (.d x)).set j (.d y)) := by
  unfold unpRL
  dsimp only
  rw [setTs_cons _ _ _ _ _ _ (setT_nm _ _ _), setTs_cons _ _ _ _ _ _ (setT_nm _ _ _), setTs_nil]
end Z

set_option Elab.async false
set_option linter.all false
set_option maxRecDepth 100000
set_option autoImplicit false
set_option maxHeartbeats 1000000
namespace Z
open PySem PySem.Spec PyProof.Rows L2
def nz : List Int → Bool
  | [] => true
  | [_] => true
  | x :: y :: r => !(decide (x = 0) && decide (y = 0)) && nz (y :: r)
theorem nz_app : ∀ (A B : List Int), nz (A ++ B) = true ↔ nz A = true ∧ nz B = true ∧ ¬ (A.getLast? = some 0 ∧ B.head? = some 0)
  | [], B => by simp [nz]
  | [x], [] => by simp [nz]
  | [x], y :: r => by
    show (!(decide (x = 0) && decide (y = 0)) && nz (y :: r)) = true ↔ _
    simp [nz]
    constructor
    · rintro ⟨h1, h2⟩
      exact ⟨h2, fun hx hy => h1.elim (fun z => z hx) (fun z => z hy)⟩
    · rintro ⟨h1, h2⟩
      exact ⟨(Classical.em (x = 0)).elim (fun a => .inr (h2 a)) .inl, h1⟩
  | x :: y :: r, B => by
    have ih := nz_app (y :: r) B
    show (!(decide (x = 0) && decide (y = 0)) && nz ((y :: r) ++ B)) = true ↔ (!(decide (x = 0) && decide (y = 0)) && nz (y :: r)) = true ∧ _
    rw [Bool.and_eq_true, Bool.and_eq_true, ih, List.getLast?_cons_cons]
    constructor
    · rintro ⟨h1, h2, h3, h4⟩
      exact ⟨⟨h1, h2⟩, h3, h4⟩
    · rintro ⟨⟨h1, h2⟩, h3, h4⟩
      exact ⟨h1, h2, h3, h4⟩
def nums (F : List Int) : List Int := F.filter fun x => decide (x ≠ 0)
structure IsForm (F : List Int) : Prop where
  sep : nz F = true
  ord : IsOrd (nums F)
  ne : F ≠ []
theorem form0 : IsForm [0] := ⟨rfl, isOrd_nil, by simp⟩
def cntz (F : List Int) : Nat := (F.filter fun x => decide (x = 0)).length
/-- the places of the slots -/
def zs (F : List Int) : List Int := (irange 0 F.length).filter fun k => decide (F.getD k.toNat 0 = 0)
theorem by_irange' (F : List Int) : F = (irange 0 F.length).map fun i => F.getD i.toNat 0 := List.ext_getElem? fun i => by
  by_cases h : i < F.length
  · rw [List.getElem?_map, irange_get _ _ _ h, getD_get h]
    show _ = some (F.getD ((0 : Int) + i).toNat 0)
    rw [show ((0 : Int) + i).toNat = i by omega]
  · rw [List.getElem?_eq_none (by omega), List.getElem?_eq_none (by rw [List.length_map, irange_len]; omega)]
theorem zs_len (F : List Int) : (zs F).length = cntz F := by
  unfold zs cntz
  conv => rhs; rw [by_irange' F]
  rw [List.filter_map, List.length_map]
  rfl
theorem zs_mem {F : List Int} {k : Int} : k ∈ zs F ↔ 0 ≤ k ∧ k < F.length ∧ F.getD k.toNat 0 = 0 := by
  unfold zs
  rw [List.mem_filter, irange_mem, decide_eq_true_eq]
  constructor
  · rintro ⟨⟨h1, h2⟩, h3⟩
    exact ⟨h1, by omega, h3⟩
  · rintro ⟨h1, h2, h3⟩
    exact ⟨⟨h1, by omega⟩, h3⟩
/-- the place of a slot -/
def zat (F : List Int) (s : Int) : Int := (zs F).getD (s - 1).toNat 0
structure Valid (F : List Int) (s w : Int) : Prop where
  s1 : 1 ≤ s
  s2 : s ≤ cntz F
  w0 : 0 ≤ w
  w3 : w ≤ 3
theorem zat_ok {F : List Int} {s w : Int} (h : Valid F s w) : 0 ≤ zat F s ∧ zat F s < F.length ∧ F.getD (zat F s).toNat 0 = 0 := by
  have hl := zs_len F
  have h1 := h.s1
  have h2 := h.s2
  exact zs_mem.mp (at0_mem (t := zs F) (i := (s - 1).toNat) (by omega))
def fillW (w n : Int) : List Int := if w = 0 then [0, n, 0] else if w = 1 then [n, 0] else if w = 2 then [0, n] else [n]
def putF (F : List Int) (s w : Int) : List Int := F.take (zat F s).toNat ++ fillW w (mx F + 1) ++ F.drop ((zat F s).toNat + 1)
theorem split_at {F : List Int} {a : Nat} (h : a < F.length) (h0 : F.getD a 0 = 0) : F = F.take a ++ 0 :: F.drop (a + 1) := by
  conv => lhs; rw [← List.take_append_drop a F]
  rw [List.drop_eq_getElem_cons h]
  have : F[a] = 0 := by
    rw [List.getD_eq_getElem?_getD, List.getElem?_eq_getElem h] at h0
    exact h0
  rw [this]
theorem nums_app (A B : List Int) : nums (A ++ B) = nums A ++ nums B := List.filter_append ..
theorem nums_fill {w n : Int} (hn : n ≠ 0) : nums (fillW w n) = [n] := by
  unfold fillW nums
  split
  · simp [hn]
  · split
    · simp [hn]
    · split
      · simp [hn]
      · simp [hn]
theorem nz_fill {w n : Int} (hn : n ≠ 0) : nz (fillW w n) = true := by
  unfold fillW
  split
  · simp [nz, hn]
  · split
    · simp [nz, hn]
    · split
      · simp [nz, hn]
      · simp [nz]
theorem fill_ne {w n : Int} : fillW w n ≠ [] := by
  unfold fillW
  split
  · simp
  · split
    · simp
    · split <;> simp
theorem mx_form {F : List Int} (h : IsForm F) (h0 : (0 : Int) ∈ F) : mx F = (nums F).length := by
  refine mx_is ?_ fun y hy => ?_
  · by_cases hp : nums F = []
    · rw [hp]
      exact h0
    · have hl := List.length_pos_iff.mpr hp
      exact (List.mem_filter.mp (h.ord.mem (x := ((nums F).length : Int)) (by omega) (Int.le_refl _))).1
  · by_cases e : y = 0
    · omega
    · exact h.ord.hi y (List.mem_filter.mpr ⟨hy, decide_eq_true e⟩)
theorem form_put {F : List Int} {s w : Int} (h : IsForm F) (v : Valid F s w) : IsForm (putF F s w) := by
  obtain ⟨z0, z1, z2⟩ := zat_ok v
  have hs := split_at (F := F) (a := (zat F s).toNat) (by omega) z2
  have h0 : (0 : Int) ∈ F := by
    rw [hs]
    exact List.mem_append_right _ List.mem_cons_self
  have hm := mx_form h h0
  have hn : mx F + 1 ≠ 0 := by omega
  unfold putF
  generalize hA : F.take (zat F s).toNat = A at *
  generalize hB : F.drop ((zat F s).toNat + 1) = B at *
  have hsep := h.sep
  rw [hs, nz_app, show (0 : Int) :: B = [0] ++ B from rfl, nz_app] at hsep
  obtain ⟨a1, ⟨a2, a3, a4⟩, a5⟩ := hsep
  have b4 : ¬ B.head? = some 0 := fun e => a4 ⟨rfl, e⟩
  have b5 : ¬ A.getLast? = some 0 := fun e => a5 ⟨e, rfl⟩
  have hnum : nums F = nums A ++ nums B := by
    conv => lhs; rw [hs]
    rw [nums_app]
    congr 1
  refine ⟨?_, ?_, ?_⟩
  · rw [List.append_assoc, nz_app, nz_app]
    exact ⟨a1, ⟨nz_fill hn, a3, fun e => b4 e.2⟩, fun e => b5 e.1⟩
  · rw [nums_app, nums_app, nums_fill hn, hm]
    have hi := isOrd_insert h.ord (nums A).length
    rw [hnum, List.take_left, List.drop_left] at hi
    rw [hnum]
    have e : (((nums A ++ nums B).length + 1 : Nat) : Int) = ((nums A ++ nums B).length : Int) + 1 := rfl
    rw [e] at hi
    exact hi
  · intro e
    rw [List.append_assoc] at e
    exact fill_ne (List.append_eq_nil_iff.mp (List.append_eq_nil_iff.mp e).2).1
theorem fill_len (w n : Int) : (fillW w n).length ≤ 3 := by
  unfold fillW
  split
  · simp
  · split
    · simp
    · split <;> simp
theorem put_len {F : List Int} {s w : Int} (v : Valid F s w) : (putF F s w).length ≤ F.length + 2 := by
  obtain ⟨z0, z1, z2⟩ := zat_ok v
  have := fill_len w (mx F + 1)
  unfold putF
  rw [List.length_append, List.length_append, List.length_take, List.length_drop]
  omega
def OkW (F : List Int) : List (Int × Int) → Prop
  | [] => True
  | l :: r => Valid F l.1 l.2 ∧ OkW (putF F l.1 l.2) r
def lead (F : List Int) : List (Int × Int) → List Int
  | [] => F
  | l :: r => lead (putF F l.1 l.2) r
theorem lead_form : ∀ (w : List (Int × Int)) (F : List Int), IsForm F → OkW F w → IsForm (lead F w) ∧ (lead F w).length ≤ F.length + 2 * w.length
  | [], F, h, _ => ⟨h, Nat.le_refl _⟩
  | x :: w, F, h, k => by
    obtain ⟨h1, h2⟩ := lead_form w _ (form_put h k.1) k.2
    have := put_len k.1
    refine ⟨h1, ?_⟩
    show (lead (putF F x.1 x.2) w).length ≤ _
    rw [List.length_cons]
    omega
end Z

set_option Elab.async false
set_option linter.all false
set_option maxRecDepth 100000
set_option autoImplicit false
set_option maxHeartbeats 1000000
namespace Z
open PySem PySem.Spec PyProof.Rows L2
def dkPut (ds : List (List Int × D)) (k : List Int) (d : D) : List (List Int × D) :=
  if (ds.any fun p => decide (p.1 = k)) = true then ds.map (fun p => if p.1 = k then (p.1, d) else p) else ds ++ [(k, d)]
def dkPutE (es : List (List Int × Addr × V)) (k : List Int) (a : Addr) (v : V) : List (List Int × Addr × V) :=
  if (es.any fun p => decide (p.1 = k)) = true then es.map (fun p => if p.1 = k then (p.1, p.2.1, v) else p) else es ++ [(k, a, v)]
abbrev DkP : List (List Int × Addr × V) → List (List Int × Addr × Value) → Prop := Paired fun p q => p.1 = q.1 ∧ p.2.1 = q.2.1 ∧ RelV p.2.2 q.2.2
theorem dk_obj {P : Program} {w : World} {H : Hp} {h : Heap} {l : Addr} {es : List (List Int × Addr × V)} (r : DkRaw h l es) : ObjOk P w H h l (DkO l es) := by
  have ⟨_, _, _, _, o, _, _, ho, _⟩ := r
  refine ⟨r, ⟨o, ho⟩, fun h1 h2 p k => ?_⟩
  obtain ⟨a, b, xs, p1, o, e, ep, h, q⟩ := p
  exact ⟨a, b, xs, p1, o, e, ep, k o h, q⟩
theorem dkAll_len {K : PySem.W.Frag} {G : Hp} : ∀ {es : List (List Int × Addr × V)} {ds : List (List Int × D)}, DkAll K G es ds → es.length = ds.length
  | _, _, .nil => rfl
  | _, _, .cons _ _ c => by rw [List.length_cons, List.length_cons, dkAll_len c]
theorem dkAll_any {K : PySem.W.Frag} {G : Hp} (k : List Int) : ∀ {es : List (List Int × Addr × V)} {ds : List (List Int × D)}, DkAll K G es ds → (es.any fun p => decide (p.1 = k)) = ds.any fun p => decide (p.1 = k)
  | _, _, .nil => rfl
  | _, _, .cons _ _ c => by rw [List.any_cons, List.any_cons, dkAll_any k c]
theorem dkAll_over {K : PySem.W.Frag} {G : Hp} {k : List Int} {v : V} {d : D} (r : Dq K G v d) : ∀ {es : List (List Int × Addr × V)} {ds : List (List Int × D)}, DkAll K G es ds →
    DkAll K G (es.map fun p => if p.1 = k then (p.1, p.2.1, v) else p) (ds.map fun p => if p.1 = k then (p.1, d) else p)
  | _, _, .nil => .nil
  | _, _, .cons (k := k') a b c => by
    rw [List.map_cons, List.map_cons]
    by_cases e : k' = k
    · rw [if_pos e, if_pos e]
      exact .cons a r (dkAll_over r c)
    · rw [if_neg e, if_neg e]
      exact .cons a b (dkAll_over r c)
theorem dkAll_snoc {K : PySem.W.Frag} {G : Hp} {k : List Int} {a : Addr} {v : V} {d : D} (t : TupN K G a (k.map V.int)) (r : Dq K G v d) : ∀ {es : List (List Int × Addr × V)} {ds : List (List Int × D)}, DkAll K G es ds → DkAll K G (es ++ [(k, a, v)]) (ds ++ [(k, d)])
  | _, _, .nil => .cons t r .nil
  | _, _, .cons a b c => .cons a b (dkAll_snoc t r c)
theorem dkAll_put {K : PySem.W.Frag} {G : Hp} {k : List Int} {a : Addr} {v : V} {d : D} (t : TupN K G a (k.map V.int)) (r : Dq K G v d) {es : List (List Int × Addr × V)} {ds : List (List Int × D)} (h : DkAll K G es ds) : DkAll K G (dkPutE es k a v) (dkPut ds k d) := by
  unfold dkPutE dkPut
  rw [dkAll_any k h]
  split
  · exact dkAll_over r h
  · exact dkAll_snoc t r h
theorem dkPutE_len (es : List (List Int × Addr × V)) (k : List Int) (a : Addr) (v : V) : (dkPutE es k a v).length ≤ es.length + 1 := by
  unfold dkPutE
  split
  · rw [List.length_map]
    omega
  · rw [List.length_append]
    exact Nat.le_refl _
theorem dkp_any (k : List Int) : ∀ {es : List (List Int × Addr × V)} {xs : List (List Int × Addr × Value)}, DkP es xs → (es.any fun p => decide (p.1 = k)) = (atKey xs k).isSome := by
  intro es xs h
  induction h with
  | nil => rfl
  | @cons p q ps qs a t ih =>
    rw [List.any_cons, ih, a.1]
    unfold atKey
    rw [List.find?_cons]
    by_cases e : q.1 = k
    · rw [decide_eq_true e]
      rfl
    · rw [decide_eq_false e]
      rfl
theorem dkp_put {k : List Int} {a : Addr} {v : V} {u : Value} (r : RelV v u) {es : List (List Int × Addr × V)} {xs : List (List Int × Addr × Value)} (h : DkP es xs) : DkP (dkPutE es k a v) (storedH xs k a u) := by
  unfold dkPutE storedH
  rw [dkp_any k h]
  split
  · rename_i hh
    clear hh
    induction h with
    | nil => exact .nil
    | @cons p q ps qs a t ih =>
      rw [List.map_cons, List.map_cons]
      refine .cons ?_ ih
      unfold putAt
      by_cases e : q.1 = k
      · rw [if_pos e, if_pos (a.1.trans e)]
        exact ⟨a.1, a.2.1, r⟩
      · rw [if_neg e, if_neg (fun z => e (a.1.symm.trans z))]
        exact a
  · exact Paired.snoc h ⟨rfl, rfl, r⟩
theorem dk_keys {K : PySem.W.Frag} {G : Hp} {P : List Int → Addr → Prop} (hP : ∀ k a, TupN K G a (k.map V.int) → P k a) : ∀ {es : List (List Int × Addr × V)} {xs : List (List Int × Addr × Value)} {ds : List (List Int × D)}, DkP es xs → DkAll K G es ds → ∀ x ∈ xs, P x.1 x.2.1 := by
  intro es xs ds h
  induction h generalizing ds with
  | nil => exact fun _ x hx => nomatch hx
  | @cons p q ps qs a t ih =>
    intro d x hx
    cases d with
    | cons d1 d2 d3 =>
      rcases List.mem_cons.mp hx with rfl | hx
      · have z := hP _ _ d1
        have e1 := a.1
        have e2 := a.2.1
        dsimp only at e1 e2
        rw [e1, e2] at z
        exact z
      · exact ih d3 x hx
section
variable {X : Cx} {pins : List (Addr × Obj)} {σ : L2.St} {H G : Hp} {s : Shared} {l : Addr} {es : List (List Int × Addr × V)} {ds : List (List Int × D)}
theorem dk_full (I : Inv X pins σ H s) (h : H l = some (DkO l es)) (gh : Same G H) (d : DkAll X.K G es ds) : es.length ≤ sizeLine ∧ (l == sysModules) = false ∧ ∃ xs, DkP es xs ∧ s.heap.DictOfH (tupleKind (intKind X.prog X.w)) l xs := by
  have r : DkRaw s.heap l es := (I.hok l _ h).1
  obtain ⟨z, y, xs, p, o, e, ep, h1, h2, h3, h4, h5⟩ := r
  exact ⟨z, y, xs, p, o, e, ep, h1, h2, h3, h4, dk_keys (P := fun k a => (tupleKind (intKind X.prog X.w)).is s.heap k a) (fun k a t => I.isT ((t.mono gh).sq)) p d, h5⟩
def rSetK (K : PySem.W.Frag) : TSet := fun o i v H Q => ∃ (l : Addr) (es : List (List Int × Addr × V)) (ds : List (List Int × D)) (k : List Int) (a : Addr) (G : Hp), o = .ref l ∧ H l = some (DkO l es) ∧ DkAll K G es ds ∧ Same G H ∧ i = .ref a ∧ TupN K G a (k.map V.int) ∧
  es.length < sizeLine ∧ Q (upd H l (DkO l (dkPutE es k a v)))
theorem set_dk (hu : X.A.units + 64 < cLine) : PSet X (rSetK X.K) := by
  intro pins s σ H o i v ov iv u Q I ro ri rv h
  obtain ⟨l, es, ds, k, a, G, rfl, hl, hd, gh, rfl, ht, hz, q⟩ := h
  cases (show ov = Value.ref l from ro)
  cases (show iv = Value.ref a from ri)
  obtain ⟨_, y, xs, p, dd⟩ := dk_full I hl gh hd
  have hx : xs.length ≤ sizeLine := by rw [← Paired.length p]; exact Nat.le_of_lt hz
  refine wpAny_setItem_heap (hsz := hx) (knd := tupleKind (intKind X.prog X.w)) (tupleKind_room_in1 (by omega)) (I.isT (ht.mono gh).sq) dd fun h' dd' hs => ⟨_, ?_, q⟩
  obtain ⟨o', es', ep, hq, h2, h3, h4, _, h5⟩ := dd'
  refine d_write I (by rw [hl]; exact True.intro) hs ⟨o', hq⟩ (dk_obj ⟨?_, y, _, dkp_put rv p, o', es', ep, hq, h2, h3, h4, h5⟩)
  exact Nat.le_trans (dkPutE_len es k a v) hz
/-- {} -/
def tDNewX : TE := fun _ H Q => ∀ p, H p = none → Q (.ref p) (upd H p (DkO p []))
theorem pe_dnewX {pos : Pos} : PE X (.Dict [] [] pos) tDNewX := ⟨fun pins s σ H Q I h =>
  wpAny_Dict_empty ⟨.ref s.heap.objs.size, _, I.laid (a := s.heap.objs.size) (o := DkO s.heap.objs.size []) (t' := s.toks) (fun _ _ q => Heap.get?_push_of_some _ q) (Nat.le_refl _)
    (dk_obj ⟨Nat.zero_le _, beq_eq_false_iff_ne.mpr (Ne.symm (Nat.ne_of_lt I.big)), [], .nil, _, #[], 0, Heap.get?_push_size _ rfl, ⟨rfl, rfl, rfl⟩, rfl, rfl, List.nodup_nil⟩), rfl, h _ (I.hok.fresh (Nat.le_refl _))⟩⟩
end
theorem intsD_is : ∀ {xs : List D} {k : List Int}, intsD xs = some k → xs = k.map .int
  | [], k, h => by
    cases h
    rfl
  | x :: xs, k, h => by
    unfold intsD at h
    split at h
    · cases h
      rename_i e
      cases e
    · rename_i i r e1
      cases e1
      obtain ⟨is, e, rfl⟩ := Option.map_eq_some_iff.mp h
      rw [intsD_is e]
      rfl
    · cases h
theorem intsD_ok : ∀ p : List Int, intsD (p.map .int) = some p
  | [] => rfl
  | i :: p => by
    show (intsD (p.map .int)).map (i :: ·) = _
    rw [intsD_ok p]
    rfl
def sPutK (i : Nat) (m : M D) (k : M Rs) : M Fl := bnd m fun y => fun g => match g[i]? with
  | some (.dk _) => bnd k (fun s => fun g' => match g'[i]?, vl g' s with
    | some (.dk ds), some (.tuple xs) => match intsD xs with
      | some ks => if ds.length < sizeLine then .ok .nx (g'.set i (.dk (dkPut ds ks y))) else .bad
      | none => .bad
    | _, _ => .bad) g
  | _ => .bad
section
variable {K : PySem.W.Frag} {F : Fr} {G H : Hp} {Mu : Option Addr} {Γ : En} {σ : St}
theorem Rdb.tupG {v : V} {xs : List D} (h : Rdb K G H v (.tuple xs)) : ∃ l vs, v = .ref l ∧ TupN K G l vs ∧ DqAll K G vs xs := by
  rcases h with h | ⟨l, vs, xs, rfl, q, h1, h2⟩
  · cases h with
    | tup h1 h2 => exact ⟨_, _, rfl, h1, h2⟩
  · cases q
end
section
variable {X : Cx} {i j : Nat} {x y : Str} {a e : Expr} {px py pt pos pd : Pos} {kt k2 : Nat} {pt2 : Pos}
theorem ds_putK {m : M D} {k : M Rs} {ix : Expr} {pn ps : Pos} (hu : X.A.units + 64 < cLine) (hi : X.N[i]? = some x) (hv : Vis X.env.scope x) (he : DP X e m) (hk : DV X ix k) (hd : (x == ("__debug__" : Str)) = false := by decide) (hcd : (x == ("__classdict__" : Str)) = false := by decide)
    (ha : ∀ v, assign (.Subscript (.Name x pn) ix ps) X.env v = (do
      let ov ← holding [v] (eval (.Name x pn) X.env)
      let iv ← holding [v, ov] (eval ix X.env)
      standAt ps
      holding [v, ov, iv] (setItem ov iv v)
      release [v, ov, iv] []) := by intro _; rfl) (hs : swapsWithSole [.Subscript (.Name x pn) ix ps] e pos.line X.env = pure false := by rfl) (hw : swappedStores [.Subscript (.Name x pn) ix ps] e X.env = pure none := by rfl)
    (h1 : (assignEach [.Subscript (.Name x pn) ix ps] X.env).map (·.2) = [assign (.Subscript (.Name x pn) ix ps) X.env] := by rfl) : DS X (.Assign [.Subscript (.Name x pn) ix ps] e pos) (sPutK i m k) := fun W tk =>
  ps_imp (ps_asg (he W tk) (pg_sub (pe_var hi hv hd hcd) (hk W tk) (set_dk hu) ha) hs hw h1) fun D σ H p => (st_bnd (ρ := rhoD) p).imp fun v H1 ⟨y, F, G, Mu, Γ, R, d1, q⟩ => by
    split at q
    · rename_i ds hg
      obtain ⟨l, es, j1, j2, j3, j4, j5, j6, jo⟩ := R.dkd hg
      refine ⟨_, j1, F, G, Mu, Γ, R, ?_⟩
      unfold bnd at q
      cases e1 : k Γ with
      | bad => rw [e1] at q; exact q
      | ex c z Γ1 =>
        rw [e1] at q
        exact fun C a v H' G' => q C a v σ H' G'
      | ok s Γ1 =>
        rw [e1] at q
        intro u H2 G2 k1 R2 k2
        dsimp only at q
        split at q
        · rename_i ds' xs hg' e2
          split at q
          · rename_i ks e3
            split at q
            · rename_i hz
              obtain ⟨l', es', i1, i2, i3, i4, i5, i6, io⟩ := R2.dkd hg'
              rw [j1] at i1
              cases i1
              obtain ⟨a, ws, rfl, tn, da⟩ := (R2.read k2 e2).tupG
              rw [intsD_is e3] at da
              cases dpa_ints' da
              refine ⟨l, es', ds', ks, a, G2, rfl, i2, i3, R2.gh, rfl, tn, by rw [dkAll_len i3]; exact hz, ?_⟩
              exact q σ _ G2 k1 (R2.changeK hg' j1 (dkAll_put tn (dp_mono k1 _ _ d1) i3))
            · exact q.elim
          · exact q.elim
        · exact q.elim
    · exact q.elim
end
theorem sPutK_ok {i : Nat} {m : M D} {k : M Rs} {g g1 : En} {y : D} {s : Rs} {ks : List Int} {ds : List (List Int × D)} (hm : m g = .ok y g1) (h1 : g1[i]? = some (.dk ds)) (hk : k g1 = .ok s g1) (hv : vl g1 s = some (.tuple (ks.map .int))) (hz : ds.length < 100000) :
    sPutK i m k g = .ok .nx (g1.set i (.dk (dkPut ds ks y))) := by
  unfold sPutK bnd
  rw [hm]
  dsimp only
  rw [h1]
  dsimp only
  rw [hk]
  dsimp only
  rw [h1, hv]
  dsimp only
  rw [intsD_ok]
  dsimp only
  rw [if_pos (by rw [sizeLine_eq]; omega)]
end Z

set_option Elab.async false
set_option linter.all false
set_option maxRecDepth 100000
set_option autoImplicit false
set_option maxHeartbeats 1000000
namespace Z
open PySem PySem.Spec PyProof.Rows L2
/-- the form that holds the numbers below k; b: whether a slot is open ahead -/
def col (k : Int) : Bool → List Int → List Int
  | _, [] => []
  | b, x :: r => if k ≤ x then (if b then col k true r else 0 :: col k true r) else x :: col k false r
def lo (k : Int) : Bool → List Int → Bool
  | b, [] => b
  | _, x :: r => lo k (decide (k ≤ x)) r
def wst (k : Int) (p : List Int) (j : Int) : Bool := decide (k ≤ p.getD j.toNat 0) && (decide (j = 0) || !decide (k ≤ p.getD (j - 1).toNat 0))
def wlf (k : Int) (p : List Int) (a : Int) : Bool := decide (0 < a) && decide (k ≤ p.getD (a - 1).toNat 0)
def wrt (k : Int) (p : List Int) (a : Int) : Bool := decide (a + 1 < p.length) && decide (k ≤ p.getD (a + 1).toNat 0)
def bz (b : Bool) : Int := if b then 1 else 0
/-- the letter of the number k, a its place -/
def lwA (k : Int) (p : List Int) (a : Nat) : Int × Int := ((((irange 0 (a + 1)).filter (wst k p)).length : Nat), 3 - 2 * bz (wrt k p a) - bz (wlf k p a))
def lw (p : List Int) (k : Int) : Int × Int := lwA k p (p.idxOf k)
def lword (p : List Int) : List (Int × Int) := (irange 1 p.length).map (lw p)
end Z

set_option Elab.async false
set_option linter.all false
set_option maxRecDepth 100000
set_option autoImplicit false
set_option maxHeartbeats 1000000
namespace Z
open PySem PySem.Spec PyProof.Rows L2
/-- a loop that puts behind a list what each item gives -/
theorem forG_gather {α : Type} {t : Tg} {ms : List Nat} {b : M Fl} (enc : α → D) (f : α → List D) (G : List D → En) (hG : ∀ a, Z.fgt ms (G a) = G a) (N : Nat) : ∀ (xs : List α) (acc : List D), acc.length + (xs.flatMap f).length ≤ N →
    (∀ x ∈ xs, ∀ a : List D, a.length + (f x).length ≤ N → ∃ g1 g2, setT t (enc x) (G a) = some g1 ∧ b g1 = .ok .nx g2 ∧ Z.fgt ms g2 = G (a ++ f x)) → forG t ms b (xs.map enc) (G acc) = .ok .nx (G (acc ++ xs.flatMap f))
  | [], acc, _, _ => by
    rw [List.flatMap_nil, List.append_nil, List.map_nil, forG, hG]
  | x :: xs, acc, hN, h => by
    rw [List.flatMap_cons, List.length_append] at hN
    obtain ⟨g1, g2, h1, h2, h3⟩ := h x List.mem_cons_self acc (by omega)
    rw [List.map_cons, forG, h1]
    dsimp only
    rw [h2]
    dsimp only
    rw [h3, forG_gather enc f G hG N xs (acc ++ f x) (by rw [List.length_append]; omega) fun y hy => h y (List.mem_cons_of_mem _ hy), List.flatMap_cons, List.append_assoc]
theorem fIx_tiz {p : List Int} {j : Int} (h0 : 0 ≤ j) (h1 : j < p.length) : fIx (.tuple (p.map .int)) (.int j) = some (.int (p.getD j.toNat 0)) := by
  have := fIx_t (xs := p.map PyData.int) (i := j.toNat) (x := .int (p.getD j.toNat 0)) (by
    rw [List.getElem?_map, getD_get (by omega)]
    rfl)
  rw [Int.toNat_of_nonneg h0] at this
  exact this
end Z

set_option Elab.async false
set_option linter.all false
set_option maxRecDepth 100000
set_option autoImplicit false
set_option maxHeartbeats 1000000
namespace Z
open PySem PySem.Spec PyProof.Rows L2
def letsI (F : List Int) : List (Int × Int) := (irange 1 (cntz F)).flatMap fun s => [(s, 0), (s, 1), (s, 2), (s, 3)]
abbrev WF : Type := List (Int × Int) × List Int
def wwL (m : Int) (r : WF) (l : Int × Int) : List WF := if (cntz (Z.putF r.2 l.1 l.2) : Int) ≤ m then [(r.1 ++ [l], Z.putF r.2 l.1 l.2)] else []
def wwIn (m : Int) (r : WF) : List WF := (letsI r.2).flatMap (wwL m r)
def wwRows (n : Nat) : Nat → List WF
  | 0 => [([], [0])]
  | k + 1 => (wwRows n k).flatMap (wwIn ((n : Int) - k - 1))
def ww (n : Nat) : List WF := (wwRows n n).filter fun r => decide ((0 : Int) ∉ r.2)
structure WwOk (k : Nat) (r : WF) : Prop where
  ok : OkW [0] r.1
  ld : lead [0] r.1 = r.2
  len : r.1.length = k
theorem WwOk.form {k : Nat} {r : WF} (h : WwOk k r) : IsForm r.2 ∧ r.2.length ≤ 1 + 2 * k := by
  have := lead_form r.1 [0] form0 h.ok
  rw [h.ld, h.len] at this
  exact this
structure WwAll (n c : Nat) : Prop where
  wd : ∀ r ∈ ww n, r.1 = lword r.2
  nd : ((ww n).map (·.2)).Nodup
  len : (ww n).length = c
  few : ∀ k, k ≤ n → (wwRows n k).length ≤ 40000
end Z

set_option Elab.async false
set_option linter.all false
set_option maxRecDepth 100000
set_option autoImplicit false
set_option maxHeartbeats 1000000
namespace Z
open PySem PySem.Spec PyProof.Rows L2
section
variable {X : Cx} {e st : Expr} {p2 pos : Pos} {te ts : TE}
end
end Z

set_option Elab.async false
set_option linter.all false
set_option maxRecDepth 100000
set_option autoImplicit false
set_option maxHeartbeats 1000000
namespace Z
open PySem PySem.Spec PyProof.Rows L2
/-- whether p shows q -/
def Shows (p q : List Int) : Prop := ∃ t, Mt p q q.length t
theorem PL_shows {p q : List Int} (ip : IsOrd p) (iq : q.Nodup) : PL p q ≠ [] ↔ Shows p q := by
  constructor
  · intro h
    obtain ⟨t, ht⟩ := List.exists_mem_of_ne_nil _ h
    exact ⟨t, (mem_PL ip iq t).mp ht⟩
  · rintro ⟨t, ht⟩ e
    have := (mem_PL ip iq t).mpr ht
    rw [e] at this
    cases this
theorem shows_len {p q : List Int} (h : Shows p q) : q.length ≤ p.length := by
  obtain ⟨t, m⟩ := h
  have key : ∀ i, i < q.length → (i : Int) ≤ at0 t i := by
    intro i
    induction i with
    | zero => exact fun h => m.pl.lo _ (at0_mem (by rw [m.pl.len]; exact h))
    | succ i ih =>
      intro h
      have := ih (by omega)
      have := m.asc i (i + 1) (by omega) h
      omega
  by_cases h0 : q.length = 0
  · omega
  · have a := key (q.length - 1) (by omega)
    have b := m.pl.hi _ (at0_mem (t := t) (i := q.length - 1) (by rw [m.pl.len]; omega))
    omega
end Z

set_option Elab.async false
set_option linter.all false
set_option maxRecDepth 100000
set_option autoImplicit false
set_option maxHeartbeats 1000000
namespace Z
open PySem PySem.Spec PyProof.Rows L2
end Z

set_option Elab.async false
set_option linter.all false
set_option maxRecDepth 100000
set_option autoImplicit false
set_option maxHeartbeats 1000000
namespace Z
open PySem PySem.Spec PyProof.Rows L2
end Z

set_option Elab.async false
set_option linter.all false
set_option maxRecDepth 100000
set_option autoImplicit false
set_option maxHeartbeats 1000000
namespace Z
open PySem PySem.Spec PyProof.Rows L2
end Z

set_option Elab.async false
set_option linter.all false
set_option maxRecDepth 100000
set_option autoImplicit false
set_option maxHeartbeats 1000000
namespace Z
open PySem PySem.Spec PyProof.Rows L2
end Z

set_option Elab.async false
set_option linter.all false
set_option maxRecDepth 100000
set_option autoImplicit false
set_option maxHeartbeats 1000000
namespace Z
open PySem PySem.Spec PyProof.Rows L2
/-- s compares as q -/
def Cmp (s q : List Int) : Prop := s.length = q.length ∧ ∀ i j, i < q.length → j < q.length → (at0 s i < at0 s j ↔ at0 q i < at0 q j)
theorem shows_sub {c q : List Int} : Shows c q ↔ ∃ s, s.Sublist c ∧ Cmp s q := by
  constructor
  · rintro ⟨t, m⟩
    have hlt : ∀ x ∈ t, x.toNat < c.length := fun x hx => by
      have := m.pl.lo x hx
      have := m.pl.hi x hx
      omega
    have hp : t.Pairwise (· < ·) := by
      rw [List.pairwise_iff_getElem]
      intro i j hi hj hij
      have := m.asc i j hij (by rw [← m.pl.len]; exact hj)
      unfold at0 at this
      rw [List.getD_eq_getElem?_getD, List.getD_eq_getElem?_getD, List.getElem?_eq_getElem hi, List.getElem?_eq_getElem hj] at this
      exact this
    have hs := List.map_getElem_sublist (l := c) (is := t.pmap (fun x h => (⟨x.toNat, h⟩ : Fin c.length)) hlt) (by
      rw [List.pairwise_pmap]
      refine hp.imp_of_mem fun {a b} ha hb hab h1 h2 => ?_
      have := m.pl.lo a ha
      show a.toNat < b.toNat
      omega)
    have e : (t.pmap (fun x h => (⟨x.toNat, h⟩ : Fin c.length)) hlt).map (fun x => c[x]) = t.map (pAt c) := by
      rw [List.map_pmap, ← List.pmap_eq_map (p := fun x => x.toNat < c.length) (f := pAt c) (H := hlt)]
      refine List.pmap_congr_left _ fun x hx h1 h2 => ?_
      show c[x.toNat] = c.getD x.toNat 0
      rw [List.getD_eq_getElem?_getD, List.getElem?_eq_getElem h1]
      rfl
    rw [e] at hs
    refine ⟨_, hs, by rw [List.length_map, m.pl.len], fun i j hi hj => ?_⟩
    rw [at0_map (by rw [m.pl.len]; exact hi), at0_map (by rw [m.pl.len]; exact hj)]
    exact m.ord i j hi hj
  · rintro ⟨s, hs, hl, ho⟩
    obtain ⟨is, rfl, hp⟩ := List.sublist_eq_map_getElem hs
    rw [List.length_map] at hl
    have g : ∀ i (h : i < q.length), at0 (is.map fun i : Fin c.length => ((i.val : Nat) : Int)) i = ((is[i]'(by omega)).val : Int) := fun i h => by
      unfold at0
      rw [List.getD_eq_getElem?_getD, List.getElem?_map, List.getElem?_eq_getElem (by omega)]
      rfl
    have g2 : ∀ i (h : i < q.length), at0 (is.map fun x : Fin c.length => c[x]) i = pAt c (at0 (is.map fun i : Fin c.length => ((i.val : Nat) : Int)) i) := fun i h => by
      rw [g i h]
      unfold at0 pAt
      rw [List.getD_eq_getElem?_getD, List.getElem?_map, List.getElem?_eq_getElem (by omega), Int.toNat_natCast, List.getD_eq_getElem?_getD, List.getElem?_eq_getElem (is[i]'(by omega)).isLt]
      rfl
    refine ⟨is.map fun i : Fin c.length => ((i.val : Nat) : Int), ⟨by rw [List.length_map, hl], fun x hx => ?_, fun x hx => ?_⟩, fun i j hij hj => ?_, fun i j hi hj => ?_⟩
    · obtain ⟨i, _, rfl⟩ := List.mem_map.mp hx
      omega
    · obtain ⟨i, _, rfl⟩ := List.mem_map.mp hx
      have := i.isLt
      omega
    · rw [g i (by omega), g j hj]
      have := List.pairwise_iff_getElem.mp hp i j (by omega) (by omega) hij
      exact Int.ofNat_lt.mpr this
    · rw [← g2 i hi, ← g2 j hj]
      exact ho i j hi hj
theorem shows_mono {c d q : List Int} (h : c.Sublist d) (k : Shows c q) : Shows d q := by
  obtain ⟨s, hs, hc⟩ := shows_sub.mp k
  exact shows_sub.mpr ⟨s, hs.trans h, hc⟩
/-- what compares alike shows alike -/
theorem shows_cmp {c d q : List Int} (hl : c.length = d.length) (h : ∀ i j, i < c.length → j < c.length → (at0 c i < at0 c j ↔ at0 d i < at0 d j)) (k : Shows c q) : Shows d q := by
  obtain ⟨t, m⟩ := k
  refine ⟨t, ⟨m.pl.len, m.pl.lo, fun x hx => by rw [← hl]; exact m.pl.hi x hx⟩, m.asc, fun i j hi hj => ?_⟩
  have a1 := m.pl.lo _ (at0_mem (t := t) (i := i) (by rw [m.pl.len]; exact hi))
  have a2 := m.pl.hi _ (at0_mem (t := t) (i := i) (by rw [m.pl.len]; exact hi))
  have b1 := m.pl.lo _ (at0_mem (t := t) (i := j) (by rw [m.pl.len]; exact hj))
  have b2 := m.pl.hi _ (at0_mem (t := t) (i := j) (by rw [m.pl.len]; exact hj))
  rw [← m.ord i j hi hj]
  exact (h (at0 t i).toNat (at0 t j).toNat (by omega) (by omega)).symm
def fil : List Int → List Int → List Int
  | [], _ => []
  | x :: F, row => if x = 0 then match row with
    | [] => fil F []
    | r :: rs => r :: fil F rs
    else x :: fil F row
theorem cntz_cons (x : Int) (F : List Int) : cntz (x :: F) = (if x = 0 then 1 else 0) + cntz F := by
  unfold cntz
  by_cases h : x = 0
  · rw [List.filter_cons_of_pos (by simpa using h), if_pos h, List.length_cons, Nat.add_comm]
  · rw [List.filter_cons_of_neg (by simpa using h), if_neg h, Nat.zero_add]
/-- all of the numbers come in -/
theorem fil_perm : ∀ (F row : List Int), row.length ≤ cntz F → (fil F row).Perm (nums F ++ row)
  | [], row, h => by
    have : row = [] := List.length_eq_zero_iff.mp (by simpa [cntz] using h)
    subst this
    exact .nil
  | x :: F, row, h => by
    rw [cntz_cons] at h
    unfold fil
    by_cases hx : x = 0
    · rw [if_pos hx] at h ⊢
      have en : nums (x :: F) = nums F := by
        unfold nums
        rw [List.filter_cons_of_neg (by simpa using hx)]
      rw [en]
      cases row with
      | nil => exact fil_perm F [] (Nat.zero_le _)
      | cons r rs =>
        dsimp only
        rw [List.length_cons] at h
        exact ((fil_perm F rs (by omega)).cons r).trans List.perm_middle.symm
    · rw [if_neg hx] at h ⊢
      have en : nums (x :: F) = x :: nums F := by
        unfold nums
        rw [List.filter_cons_of_pos (by simpa using hx)]
      rw [en]
      exact (fil_perm F row (by omega)).cons x
/-- rows of unlike numbers behind the form's -/
structure RowOk (F row : List Int) : Prop where
  len : row.length ≤ cntz F
  nd : row.Nodup
  lo : ∀ x ∈ row, mx F < x
  hi : ∀ x ∈ row, x ≤ mx F + cntz F
theorem nums_mem {F : List Int} {x : Int} (h : x ∈ nums F) : x ∈ F ∧ x ≠ 0 := by
  obtain ⟨h1, h2⟩ := List.mem_filter.mp h
  exact ⟨h1, of_decide_eq_true h2⟩
theorem row_nodup {F row : List Int} (f : IsForm F) (r : RowOk F row) : (fil F row).Nodup := by
  rw [(fil_perm F row r.len).nodup_iff]
  refine List.nodup_append.mpr ⟨f.ord.nd, r.nd, fun a ha b hb e => ?_⟩
  have h1 := r.lo b hb
  have h2 := mx_ge (nums_mem ha).1
  omega
end Z

set_option Elab.async false
set_option linter.all false
set_option maxRecDepth 100000
set_option autoImplicit false
set_option maxHeartbeats 1000000
namespace Z
open PySem PySem.Spec PyProof.Rows L2
def shB (p q : List Int) : Bool := !decide (PL p q = [])
theorem shB_iff {p q : List Int} (ip : IsOrd p) (iq : IsOrd q) : shB p q = true ↔ Shows p q := by
  unfold shB
  rw [← PL_shows ip iq.nd]
  simp
def letB (P : List (List Int)) (p : List Int) : Bool := P.all fun q => !shB p q
theorem letB_iff {P : List (List Int)} {p : List Int} (hP : ∀ q ∈ P, IsOrd q) (ip : IsOrd p) : letB P p = true ↔ ∀ q ∈ P, ¬ Shows p q := by
  unfold letB
  rw [List.all_eq_true]
  refine forall_congr' fun q => forall_congr' fun hq => ?_
  rw [Bool.not_eq_true', ← shB_iff ip (hP q hq)]
  simp
inductive Exp : List Int → List Int → Prop
  | nil : Exp [] []
  | num {x : Int} {F e : List Int} : x ≠ 0 → Exp F e → Exp (x :: F) (x :: e)
  | slot {b F e : List Int} : b ≠ [] → Exp F e → Exp (0 :: F) (b ++ e)
def ch : Nat → Nat → Nat
  | _, 0 => 1
  | 0, _ + 1 => 0
  | n + 1, k + 1 => ch n k + ch n (k + 1)
end Z

set_option Elab.async false
set_option linter.all false
set_option maxRecDepth 100000
set_option autoImplicit false
set_option maxHeartbeats 1000000
namespace Z
open PySem PySem.Spec PyProof.Rows L2
end Z

set_option Elab.async false
set_option linter.all false
set_option maxRecDepth 100000
set_option autoImplicit false
set_option maxHeartbeats 2000000
namespace Z
open PySem PySem.Spec PyProof.Rows L2
abbrev NKey := NestedKey
mutual
/-- no texts within -/
def ntx : NKey → Bool
  | .text _ => false
  | .none => true
  | .num _ => true
  | .tup ks => ntxs ks
def ntxs : List NKey → Bool
  | [] => true
  | k :: ks => ntx k && ntxs ks
end
section
variable {P : Program} {w : World}
/-- two small questions that the table asks of what it stores -/
structure Tame (P : Program) (w : World) (n : Nat) (s : Shared) (v : Value) : Prop where
  cls : ∀ (A : Around) (E : Value → Shared → Prop) (Q : Bool → Shared → Prop), Q false s → wpAny (model P w) A (ofAClassStatement n v) Q E s
  hsh : ∀ (A : Around) (E : Value → Shared → Prop) (Q : Bool → Shared → Prop), Q true s → wpAny (model P w) A (hashByValue n v) Q E s
theorem Tame.tup {n : Nat} {s : Shared} {a : Addr} {o : Obj} {its : Array Value} {m : Nat} (ho : s.heap.get? a = some o) (hc : o.cls = .type "tuple") (hd : o.data = .seq its m) (hi : ∀ v ∈ its.toList, Tame P w n s v) : Tame P w (n + 1) s (.ref a) := by
  have ty : s.TypeIs (.ref a) "tuple" := ⟨o, ho, hc⟩
  constructor
  · intro A E Q q
    unfold ofAClassStatement
    refine wpAny_bind (wpAny_typeOf ty ?_)
    simp only [show (("tuple" : String) == "tuple") = true by decide, if_true]
    try refine wpAny_bind (wpAny_pure ?_)
    simp only [Bool.not_true, Bool.false_eq_true, if_false]
    try refine wpAny_bind (wpAny_pure ?_)
    refine wpAny_bind (wpAny_seqItems (items := its) ho hd ?_)
    dsimp only
    refine wpAny_bind ?_
    rw [← Array.forIn_toList]
    refine wpAny_forIn_list _ (fun left acc now => (acc.1 = none ∧ now = s) ∧ ∀ v ∈ left, Tame P w n s v) _ ?_ ?_ _ _ ⟨⟨rfl, rfl⟩, hi⟩
    · rintro v left acc now ⟨⟨e1, rfl⟩, al⟩
      refine wpAny_bind ((al v List.mem_cons_self).cls _ _ _ ?_)
      simp only [Bool.false_eq_true, if_false]
      exact wpAny_pure ⟨⟨rfl, rfl⟩, fun z hz => al z (List.mem_cons_of_mem _ hz)⟩
    · rintro ⟨acc, u⟩ now ⟨⟨e1, rfl⟩, _⟩
      cases (show acc = none from e1)
      exact wpAny_pure q
  · intro A E Q q
    unfold hashByValue
    refine wpAny_bind (wpAny_specialOf ty F.slot_tuple_hash.lookup ?_)
    dsimp only
    refine wpAny_bind (wpAny_seqItems (items := its) ho hd ?_)
    refine wpAny_bind ?_
    show wpAny _ _ (forIn its _ _) _ _ s
    rw [← Array.forIn_toList]
    refine wpAny_forIn_list _ (fun left acc now => (acc.1 = none ∧ now = s) ∧ ∀ v ∈ left, Tame P w n s v) _ ?_ ?_ _ _ ⟨⟨rfl, rfl⟩, hi⟩
    · rintro v left acc now ⟨⟨e1, rfl⟩, al⟩
      refine wpAny_bind ((al v List.mem_cons_self).hsh _ _ _ ?_)
      simp only [Bool.not_true, Bool.false_eq_true, if_false]
      exact wpAny_pure ⟨⟨rfl, rfl⟩, fun z hz => al z (List.mem_cons_of_mem _ hz)⟩
    · rintro ⟨acc, u⟩ now ⟨⟨e1, rfl⟩, _⟩
      cases (show acc = none from e1)
      exact wpAny_pure q
theorem Tame.plain {n : Nat} {s : Shared} {v : Value} (h1 : ofAClassStatement n v = pure false) (h2 : hashByValue n v = pure true) : Tame P w n s v :=
  ⟨fun A E Q q => by rw [h1]; exact wpAny_pure q, fun A E Q q => by rw [h2]; exact wpAny_pure q⟩
end
end Z

set_option Elab.async false
set_option linter.all false
set_option maxRecDepth 100000
set_option autoImplicit false
set_option maxHeartbeats 4000000
namespace Z
open PySem PySem.Spec PyProof.Rows L2
/-- a member: the tuple at b is the key k -/
structure Mem (h : Heap) (k : NKey) (b : Addr) : Prop where
  is : NestedIs h k (.ref b)
  dep : k.depth ≤ 8
  ntx : ntx k = true
abbrev Row : Type := Addr × NKey
section
variable {P : Program} {w : World} {A : Around} {E : Value → Shared → Prop} {s : Shared}
theorem Mem.more {h h' : Heap} {k : NKey} {b : Addr} (m : Mem h k b) (e : ∀ c o vs n, h.get? c = some o → o.data = .seq vs n → h'.get? c = some o) : Mem h' k b := ⟨NestedIs.at e _ _ m.is, m.dep, m.ntx⟩
def hOf (w : World) (p : Row) : Int := p.2.hash w
structure NSet (w : World) (h : Heap) (a : Addr) (L : List Row) (es : Array (Int × Value)) (ep : Nat) (t : SetTable) : Prop where
  obj : ∃ o, h.get? a = some o ∧ o.ExactSet ∧ o.data = .set es ep t
  ents : es.toList = L.map fun p => (hOf w p, Value.ref p.1)
  tab : TabOk t (L.map (hOf w))
  nd : (L.map Prod.snd).Nodup
  mem : ∀ p ∈ L, Mem h p.2 p.1
  pln : t.plain = true
  led : w.params.followText "set-order" = true ∨ t.led = true
  room : L.length * 5 < t.mask * 3
  few : L.length < 64
variable {a : Addr} {L : List Row} {es : Array (Int × Value)} {ep : Nat} {t : SetTable}
theorem NSet.esz (S : NSet w s.heap a L es ep t) : es.size = L.length := by
  rw [← Array.length_toList, S.ents, List.length_map]
theorem NSet.psz (S : NSet w s.heap a L es ep t) : t.place.toList.length = L.length := by
  rw [Array.length_toList, S.tab.sz, List.length_map]
theorem NSet.fit (S : NSet w s.heap a L es ep t) : t.fits es.size = true := by
  have r := S.room
  have z := S.psz
  rw [Array.length_toList] at z
  unfold SetTable.fits SetTable.fill
  rw [S.tab.dm, S.esz, z]
  simp
  omega
theorem NSet.stays (S : NSet w s.heap a L es ep t) : ¬ t.gaveWay = true := by
  have := mask_odd S.tab.mok
  unfold SetTable.gaveWay
  rw [this]
  decide
end
end Z

set_option Elab.async false
set_option linter.all false
set_option maxRecDepth 100000
set_option autoImplicit false
set_option maxHeartbeats 4000000
namespace Z
open PySem PySem.Spec PyProof.Rows L2
section
variable {P : Program} {w : World} {A : Around} {E : Value → Shared → Prop} {s : Shared}
abbrev entOf (w : World) (p : Row) : Int × Value := (hOf w p, Value.ref p.1)
variable {a : Addr} {L : List Row} {es : Array (Int × Value)} {ep : Nat} {t : SetTable}
end
end Z

set_option Elab.async false
set_option linter.all false
set_option maxRecDepth 100000
set_option autoImplicit false
set_option maxHeartbeats 4000000
namespace Z
open PySem PySem.Spec PyProof.Rows L2
def Held (w : World) (h : Heap) (a : Addr) (L : List Row) : Prop := ∃ (es : Array (Int × Value)) (ep : Nat) (t : SetTable), (∃ o, h.get? a = some o ∧ o.ExactSet ∧ o.data = .set es ep t) ∧ es.toList = L.map (entOf w) ∧ TabOk t (L.map (hOf w)) ∧ (L.map Prod.snd).Nodup ∧
  t.plain = true ∧ (w.params.followText "set-order" = true ∨ t.led = true) ∧ L.length * 5 < t.mask * 3 ∧ L.length < 64
theorem NSet.held {w : World} {h : Heap} {a : Addr} {L : List Row} {es : Array (Int × Value)} {ep : Nat} {t : SetTable} (S : NSet w h a L es ep t) : Held w h a L := ⟨es, ep, t, S.obj, S.ents, S.tab, S.nd, S.pln, S.led, S.room, S.few⟩
section
variable {X : Cx} {pins : List (Addr × Obj)} {σ : St} {G H : Hp} {s : Shared}
mutual
theorem nested_of (I : L2.Inv X pins σ H s) (g : Same G H) : ∀ (k : NKey) (v : V) (u : Value), ntx k = true → Dq X.K G v k.data → RelV v u → NestedIs s.heap k u
  | .none, v, u, _, d, r => by
    rw [NestedKey.data] at d
    cases d
    cases r
    exact .none
  | .num i, v, u, _, d, r => by
    rw [NestedKey.data] at d
    cases d
    obtain ⟨t, rfl⟩ := r
    exact .int i t
  | .text x, v, u, t, _, _ => by cases (show false = true from t)
  | .tup ks, v, u, t, d, r => by
    rw [NestedKey.data] at d
    cases d with
    | tup ht ha =>
      cases r
      obtain ⟨its, rv, ⟨o, ho, hc, n, hd⟩, _⟩ := I.tuple (ht.mono g).sq
      exact .tup ho hc hd (by simpa using nested_all I g ks _ _ t ha rv)
theorem nested_all (I : L2.Inv X pins σ H s) (g : Same G H) : ∀ (ks : List NKey) (vs : List V) (us : List Value), ntxs ks = true → DqAll X.K G vs (NestedKey.datas ks) → Vals vs us → NestedAll s.heap ks us
  | [], vs, us, _, d, r => by
    rw [NestedKey.datas] at d
    cases d
    cases r
    exact .nil
  | k :: ks, vs, us, t, d, r => by
    rw [NestedKey.datas] at d
    rw [ntxs, Bool.and_eq_true] at t
    cases d with
    | cons d1 d2 =>
      cases r with
      | cons r1 r2 => exact .cons (nested_of I g k _ _ t.1 d1 r1) (nested_all I g ks _ _ t.2 d2 r2)
end
/-- a row's key, seen in the layer -/
def RowAt (K : PySem.W.Frag) (G : Hp) (p : Row) : Prop := Dq K G (.ref p.1) p.2.data ∧ p.2.depth ≤ 8 ∧ ntx p.2 = true
theorem RowAt.up {K : PySem.W.Frag} {G G' : Hp} {p : Row} (r : RowAt K G p) (g : Same G G') : RowAt K G' p := ⟨dp_mono g _ _ r.1, r.2⟩
theorem RowAt.mem {p : Row} (r : RowAt X.K G p) (I : L2.Inv X pins σ H s) (g : Same G H) : Mem s.heap p.2 p.1 := ⟨nested_of I g _ _ _ r.2.2 r.1 rfl, r.2.1, r.2.2⟩
end
end Z

set_option Elab.async false
set_option linter.all false
set_option maxRecDepth 100000
set_option autoImplicit false
set_option maxHeartbeats 4000000
namespace Z
open PySem PySem.Spec PyProof.Rows L2 PpSet
section
variable {X : Cx}
end
end Z

set_option Elab.async false
set_option linter.all false
set_option maxRecDepth 100000
set_option autoImplicit false
set_option maxHeartbeats 4000000
namespace Z
open PySem PySem.Spec PyProof.Rows L2
theorem okSort_perm {xs ys : List D} (hp : xs.Perm ys) (h : okSort ys = true) : okSort xs = true := by
  unfold okSort at *
  simp only [Bool.and_eq_true, Bool.or_eq_true, List.all_eq_true, decide_eq_true_eq] at h ⊢
  obtain ⟨⟨⟨h1, h2⟩, h3⟩, h4⟩ := h
  have m := fun d => (hp.mem_iff (a := d)).mp
  exact ⟨⟨⟨fun a ha b hb => h1 a (m a ha) b (m b hb), h2.imp (fun z a ha => z a (m a ha)) fun z a ha => z a (m a ha)⟩, by rw [hp.length_eq]; exact h3⟩, fun a ha => h4 a (m a ha)⟩
theorem perm_map_of {α β : Type} (f : α → β) {vs : List β} {M : List β} (hp : vs.Perm M) : ∀ L : List α, M = L.map f → ∃ L1 : List α, vs = L1.map f ∧ L1.Perm L := by
  induction hp with
  | nil => intro L e; exact ⟨L, e, .refl _⟩
  | cons x _ ih =>
    intro L e
    cases L with
    | nil => cases e
    | cons y L =>
      rw [List.map_cons] at e
      injection e with e1 e2
      obtain ⟨L1, q1, q2⟩ := ih L e2
      exact ⟨y :: L1, by rw [List.map_cons, ← e1, q1], .cons y q2⟩
  | swap x y l =>
    intro L e
    match L, e with
    | a :: b :: L, e =>
      simp only [List.map_cons, List.cons.injEq] at e
      obtain ⟨e1, e2, e3⟩ := e
      exact ⟨b :: a :: L, by rw [List.map_cons, List.map_cons, ← e1, ← e2, ← e3], .swap _ _ _⟩
  | trans _ _ ih1 ih2 =>
    intro L e
    obtain ⟨L1, q1, q2⟩ := ih2 L e
    obtain ⟨L2, r1, r2⟩ := ih1 L1 q1
    exact ⟨L2, r1, r2.trans q2⟩
end Z

set_option Elab.async false
set_option linter.all false
set_option maxRecDepth 100000
set_option autoImplicit false
set_option maxHeartbeats 4000000
namespace Z
open PySem PySem.Spec PyProof.Rows L2
section
variable {prog : Program} {w : World} {A : Around} {E : Value → Shared → Prop} {s : Shared}
open PySem.W PySem.Calls in
/-- what comes of sorted(s): a new list of the members' values, in the order of their data -/
theorem sorted_members {a : Addr} {L : List Row} {es : Array (Int × Value)} {ep : Nat} {t : SetTable} {R : Value → D → Prop} {Q : Value → Shared → Prop} (S : NSet w s.heap a L es ep t) (hh : A.handled = none) (hu : A.units + 2 + 30 < cLine)
    (rel : ∀ p ∈ L, R (.ref p.1) p.2.data ∧ ∃ as, Reads s.heap (.ref p.1) p.2.data as) (ok : okSort (L.map fun p => p.2.data) = true)
    (h : ∀ (L1 : List Row) (s1 : Shared) (h' : Heap) (out : List Value) (c : Nat), L1.Perm L → (∀ b o, s.heap.get? b = some o → s1.heap.get? b = some o) → s.heap.objs.size ≤ s1.heap.objs.size → s1.gens = s.gens → s1.os = s.os → (∀ b o, s1.heap.get? b = some o → h'.get? b = some o) →
      h'.get? s1.heap.objs.size = some (seqObj "list" out.toArray c) → EachIs R out (sortD (L1.map fun p => p.2.data)) → Q (.ref s1.heap.objs.size) { s1 with heap := h' }) :
    wpAny (model prog w) A (call (.builtin "sorted") [.ref a]) Q E s := by
  obtain ⟨o, go, ex, dat⟩ := S.obj
  have few := S.few
  have big : 64 ≤ sizeLine := by rw [sizeLine_eq]; omega
  refine call_function_entry_kw kind_sorted plain_sorted entry_sorted (args_sorted1 _) ?_
  unfold Builtin.«sorted»
  refine wpAny_bind (m := checkCount "sorted" 1 1 _) (wpAny_pure ?_)
  refine wpAny_bind (collect_set (A := A.in1) hh ⟨o, go, ex.1, dat⟩ S.fit (by rw [S.esz]; unfold scanBound; omega) S.tab.ris S.led fun s1 vs k1 sz g1 o1 pm => ?_)
  rw [show es.toList.map (·.2) = L.map fun p => Value.ref p.1 by rw [S.ents, List.map_map]; rfl] at pm
  obtain ⟨L1, rfl, pL⟩ := perm_map_of (fun p : Row => Value.ref p.1) pm L rfl
  have len : (L1.map fun p => Value.ref p.1).length ≤ sizeLine := by rw [List.length_map, pL.length_eq]; omega
  refine wpAny_bind (wpAny_newList ?_ len)
  show wpAny (model prog w) _ _ _ _ { s1 with heap := s1.heap.push (seqObj "list" (L1.map fun p => Value.ref p.1).toArray 0) }
  generalize hvs : (L1.map fun p => Value.ref p.1) = vs at *
  have atL : (s1.heap.push (seqObj "list" vs.toArray 0)).get? s1.heap.objs.size = some (seqObj "list" vs.toArray 0) := Heap.get?_push_size _ rfl
  have k2 : ∀ b ob, s.heap.get? b = some ob → (sortingHeap (s1.heap.push (seqObj "list" vs.toArray 0)) s1.heap.objs.size vs).get? b = some ob := fun b ob q => sortingHeap_old (Nat.ne_of_lt (Heap.lt_size (k1 b ob q))) (Heap.get?_push_of_some _ (k1 b ob q))
  have each : ∀ M : List Row, (∀ p ∈ M, p ∈ L) → EachIs R (M.map fun p => Value.ref p.1) (M.map fun p => p.2.data) ∧ EachIs (fun v d => ∃ as, Reads s.heap v d as) (M.map fun p => Value.ref p.1) (M.map fun p => p.2.data) := by
    intro M
    induction M with
    | nil => intro _; exact ⟨.nil, .nil⟩
    | cons p M ih =>
      intro hm
      obtain ⟨a1, a2⟩ := ih fun q hq => hm q (List.mem_cons_of_mem _ hq)
      obtain ⟨b1, b2⟩ := rel p (hm p List.mem_cons_self)
      exact ⟨.cons b1 a1, .cons b2 a2⟩
  obtain ⟨er, rd⟩ := each L1 fun p hp => pL.mem_iff.mp hp
  rw [hvs] at er rd
  have okL := okSort_perm (pL.map fun p : Row => p.2.data) ok
  generalize hxs : (L1.map fun p => p.2.data) = xs at *
  obtain ⟨al, so, _, dep⟩ := okSort_ok okL
  have rd' : EachIs (fun v d => ∃ as, Reads (sortingHeap (s1.heap.push (seqObj "list" vs.toArray 0)) s1.heap.objs.size vs) v d as) vs xs := rd.mono fun _ _ ⟨as, r⟩ => ⟨as, PyProof.Rows.Reads.keeps k2 r⟩
  refine wpAny_bind (wpAny_holding (wpAny_call_entry_kw slot_list_sort ⟨_, atL, rfl⟩ entry_list_sort ?_ (args_list_sort _)))
  have srt := SortsAt.data (prog := prog) (w := w) (A := A.in1.in1) (s := { s1 with heap := sortingHeap (s1.heap.push (seqObj "list" vs.toArray 0)) s1.heap.objs.size vs }) rd' al so fun d hd => by
    have := dep d hd
    show A.units + 2 + d.depth < cLine
    omega
  refine list_sort_vals (s := { s1 with heap := s1.heap.push (seqObj "list" vs.toArray 0) }) atL srt len ⟨_, rfl, wpAny_pure ?_⟩
  obtain ⟨c, atS⟩ := sortedHeap_at (h := s1.heap.push (seqObj "list" vs.toArray 0)) (a := s1.heap.objs.size) (vs := vs) (n := 0) (out := (sortVals (dataKind (sortingHeap (s1.heap.push (seqObj "list" vs.toArray 0)) s1.heap.objs.size vs) xs) false vs vs).toArray) atL
  have out := sortVals_data (R := R) (enc := id) (bs := xs) (vs := vs) false er rd' (by rw [List.map_id]; exact al)
  rw [List.map_id] at out
  refine ⟨_, rfl, h L1 s1 _ _ c pL k1 sz g1 o1 (fun b ob q => ?_) atS ?_⟩
  · rw [sortedHeap_old (Nat.ne_of_lt (Heap.lt_size q)) (Heap.lt_size (Heap.get?_push_of_some _ q))]
    exact Heap.get?_push_of_some _ q
  · rw [hxs]
    exact out
end
section
variable {X : Cx}
end
end Z

set_option Elab.async false
set_option linter.all false
set_option maxRecDepth 100000
set_option autoImplicit false
set_option maxHeartbeats 4000000
namespace Z
open PySem PySem.Spec PyProof.Rows L2
section
variable {X : Cx} {b : Bool} {elt tg iter : Expr} {ifs : List Expr} {scope : Scope} {pos cpos p : Pos} {t : Tg} {mi : M (List D)} {mt : M Bool} {me : M D}
end
end Z

set_option Elab.async false
set_option linter.all false
set_option maxRecDepth 100000
set_option autoImplicit false
set_option maxHeartbeats 1000000
namespace Z
open PySem PySem.Spec PyProof.Rows L2
def slt (p q : List Int) : Prop := p.length < q.length ∨ (p.length = q.length ∧ p < q)
theorem slt_irrefl {p : List Int} : ¬ slt p p := fun h => by
  rcases h with h | ⟨_, h⟩
  · omega
  · exact List.lt_irrefl p h
theorem slt_trans {p q r : List Int} (h : slt p q) (k : slt q r) : slt p r := by
  rcases h with h | ⟨h, h'⟩ <;> rcases k with k | ⟨k, k'⟩
  · exact .inl (by omega)
  · exact .inl (by omega)
  · exact .inl (by omega)
  · exact .inr ⟨by omega, List.lt_trans h' k'⟩
theorem slt_tri (p q : List Int) : slt p q ∨ p = q ∨ slt q p := by
  rcases Nat.lt_trichotomy p.length q.length with h | h | h
  · exact .inl (.inl h)
  · by_cases e : p = q
    · exact .inr (.inl e)
    · rcases Classical.em (p < q) with c | c
      · exact .inl (.inr ⟨h, c⟩)
      · have : q ≤ p := List.not_lt.mp c
        rcases List.le_iff_lt_or_eq.mp this with d | d
        · exact .inr (.inr (.inr ⟨h.symm, d⟩))
        · exact absurd d.symm e
  · exact .inr (.inr (.inl h))
theorem srt_uniq {l m : List (List Int)} (hl : l.Pairwise slt) (hm : m.Pairwise slt) (h : ∀ t, t ∈ l ↔ t ∈ m) : l = m := by
  have nd : ∀ {k : List (List Int)}, k.Pairwise slt → k.Nodup := fun {k} hk => by
    unfold List.Nodup
    exact hk.imp fun {a b} s e => by rw [e] at s; exact slt_irrefl s
  refine List.Perm.eq_of_pairwise (le := fun a b => slt a b ∨ a = b) (fun a b _ _ x y => ?_) (hl.imp .inl) (hm.imp .inl) ((List.perm_ext_iff_of_nodup (nd hl) (nd hm)).mpr h)
  rcases x with x | x
  · rcases y with y | y
    · exact absurd (slt_trans x y) slt_irrefl
    · exact y.symm
  · exact x
end Z

set_option Elab.async false
set_option linter.all false
set_option maxRecDepth 100000
set_option autoImplicit false
set_option maxHeartbeats 2000000
namespace Z
open PySem PySem.Spec PyProof.Rows L2
theorem cmp_refl (q : List Int) : Cmp q q := ⟨rfl, fun _ _ _ _ => Iff.rfl⟩
theorem shows_refl (q : List Int) : Shows q q := shows_sub.mpr ⟨q, .refl _, cmp_refl q⟩
theorem shows_trans {p q r : List Int} (h : Shows p q) (k : Shows q r) : Shows p r := by
  obtain ⟨s, hs, hc⟩ := shows_sub.mp h
  exact shows_mono hs (shows_cmp hc.1.symm (fun i j hi hj => (hc.2 i j hi hj).symm) k)
theorem shows_same {p q : List Int} (ip : IsOrd p) (iq : IsOrd q) (h : Shows p q) (l : p.length = q.length) : p = q := by
  obtain ⟨s, hs, hc⟩ := shows_sub.mp h
  have e : s = p := hs.eq_of_length (by rw [hc.1, l])
  subst e
  have := like_cmp (c := s) (d := q) l fun i j hi hj => hc.2 i j (by omega) (by omega)
  rwa [like_ord ip, like_ord iq] at this
instance (p q : List Int) : Decidable (slt p q) := by unfold slt; exact inferInstance
def insP (q : List Int) : List (List Int) → List (List Int)
  | [] => [q]
  | x :: r => if q = x then x :: r else if slt q x then q :: x :: r else x :: insP q r
def srtP : List (List Int) → List (List Int)
  | [] => []
  | q :: F => insP q (srtP F)
theorem insP_mem {q t : List Int} : ∀ {L : List (List Int)}, t ∈ insP q L ↔ t = q ∨ t ∈ L
  | [] => by simp [insP]
  | x :: r => by
    unfold insP
    split
    · rename_i e
      subst e
      simp
    · split
      · simp
      · rw [List.mem_cons, insP_mem, List.mem_cons]
        constructor
        · rintro (h | h | h)
          · exact .inr (.inl h)
          · exact .inl h
          · exact .inr (.inr h)
        · rintro (h | h | h)
          · exact .inr (.inl h)
          · exact .inl h
          · exact .inr (.inr h)
theorem insP_srt {q : List Int} : ∀ {L : List (List Int)}, L.Pairwise slt → (insP q L).Pairwise slt
  | [], _ => List.pairwise_singleton _ _
  | x :: r, h => by
    obtain ⟨h1, h2⟩ := List.pairwise_cons.mp h
    unfold insP
    split
    · exact h
    · split
      · rename_i c
        exact List.pairwise_cons.mpr ⟨fun y hy => by
          rcases List.mem_cons.mp hy with rfl | hy
          · exact c
          · exact slt_trans c (h1 y hy), h⟩
      · rename_i e c
        refine List.pairwise_cons.mpr ⟨fun y hy => ?_, insP_srt h2⟩
        rcases insP_mem.mp hy with rfl | hy
        · rcases slt_tri x y with d | d | d
          · exact d
          · exact absurd d.symm e
          · exact absurd d c
        · exact h1 y hy
theorem srtP_mem {t : List Int} : ∀ {F : List (List Int)}, t ∈ srtP F ↔ t ∈ F
  | [] => Iff.rfl
  | q :: F => by
    show t ∈ insP q (srtP F) ↔ _
    rw [insP_mem, srtP_mem, List.mem_cons]
theorem srtP_srt : ∀ F : List (List Int), (srtP F).Pairwise slt
  | [] => .nil
  | q :: F => insP_srt (srtP_srt F)
theorem insP_len (q : List Int) : ∀ L : List (List Int), (insP q L).length ≤ L.length + 1
  | [] => Nat.le_refl _
  | x :: r => by
    unfold insP
    split
    · exact Nat.le_succ _
    · split
      · exact Nat.le_refl _
      · exact Nat.succ_le_succ (insP_len q r)
theorem srtP_len : ∀ F : List (List Int), (srtP F).length ≤ F.length
  | [] => Nat.le_refl _
  | q :: F => Nat.le_trans (insP_len q _) (Nat.succ_le_succ (srtP_len F))
end Z

set_option Elab.async false
set_option linter.all false
set_option maxRecDepth 100000
set_option autoImplicit false
set_option maxHeartbeats 2000000
namespace Z
open PySem PySem.Spec PyProof.Rows L2
end Z

set_option Elab.async false
set_option linter.all false
set_option maxRecDepth 100000
set_option autoImplicit false
set_option maxHeartbeats 2000000
namespace Z
open PySem PySem.Spec PyProof.Rows L2
def lgo : List (List Int) → List (List Int) → List (List Int)
  | acc, [] => acc
  | acc, q :: r => lgo (if letB acc q = true then acc ++ [q] else acc) r
def leastL (F : List (List Int)) : List (List Int) := lgo [] (srtP F)
abbrev Ords (F : List (List Int)) : Prop := ∀ q ∈ F, IsOrd q
/-- what shows no other one -/
def Minl (F : List (List Int)) (q : List Int) : Prop := q ∈ F ∧ ∀ r ∈ F, Shows q r → r = q
theorem minl_below {F : List (List Int)} (hF : Ords F) : ∀ (n : Nat) (q : List Int), q.length ≤ n → q ∈ F → ∃ m, Minl F m ∧ Shows q m
  | n, q, hn, hq => by
    by_cases c : ∀ r ∈ F, Shows q r → r = q
    · exact ⟨q, ⟨hq, c⟩, shows_refl q⟩
    · obtain ⟨r, hc⟩ := Classical.not_forall.mp c
      obtain ⟨hr, hc⟩ := Classical.not_imp.mp hc
      obtain ⟨hs, hne⟩ := Classical.not_imp.mp hc
      have l1 := shows_len hs
      have l2 : r.length ≠ q.length := fun e => hne (shows_same (hF q hq) (hF r hr) hs e.symm).symm
      cases n with
      | zero => omega
      | succ n =>
        obtain ⟨m, hm, sm⟩ := minl_below hF n r (by omega) hr
        exact ⟨m, hm, shows_trans hs sm⟩
theorem lgo_sub : ∀ (r acc : List (List Int)), acc.Sublist (lgo acc r) ∧ (lgo acc r).Sublist (acc ++ r)
  | [], acc => ⟨.refl _, by rw [List.append_nil]; exact .refl _⟩
  | q :: r, acc => by
    unfold lgo
    split
    · obtain ⟨a, b⟩ := lgo_sub r (acc ++ [q])
      exact ⟨(List.sublist_append_left _ _).trans a, by rw [List.append_assoc] at b; exact b⟩
    · obtain ⟨a, b⟩ := lgo_sub r acc
      exact ⟨a, b.trans (List.Sublist.append_left (List.sublist_cons_self _ _) _)⟩
theorem leastL_sub (F : List (List Int)) : (leastL F).Sublist (srtP F) := (lgo_sub (srtP F) []).2
theorem leastL_in {F : List (List Int)} {q : List Int} (h : q ∈ leastL F) : q ∈ F := srtP_mem.mp ((leastL_sub F).subset h)
theorem leastL_ords {F : List (List Int)} (h : Ords F) : Ords (leastL F) := fun q hq => h q (leastL_in hq)
theorem lgo_mem {F : List (List Int)} (hF : Ords F) : ∀ (r pre acc : List (List Int)), pre ++ r = srtP F → (∀ q, q ∈ acc ↔ q ∈ pre ∧ Minl F q) → ∀ q, q ∈ lgo acc r ↔ Minl F q
  | [], pre, acc, e, h, q => by
    rw [List.append_nil] at e
    show q ∈ acc ↔ _
    rw [h, e, srtP_mem]
    exact ⟨fun z => z.2, fun z => ⟨z.1, z⟩⟩
  | x :: r, pre, acc, e, h, q => by
    have hx : x ∈ F := srtP_mem.mp (by rw [← e]; simp)
    have ps := srtP_srt F
    rw [← e] at ps
    have pre_lt : ∀ y ∈ pre, slt y x := fun y hy => (List.pairwise_append.mp ps).2.2 y hy x List.mem_cons_self
    have accO : Ords acc := fun y hy => hF y ((h y).mp hy).2.1
    have key : letB acc x = true ↔ Minl F x := by
      rw [letB_iff accO (hF x hx)]
      constructor
      · intro hn
        obtain ⟨m, hm, sm⟩ := minl_below hF x.length x (Nat.le_refl _) hx
        have hms : m ∈ srtP F := srtP_mem.mpr hm.1
        rw [← e] at hms
        rcases List.mem_append.mp hms with k | k
        · exact absurd sm (hn m ((h m).mpr ⟨k, hm⟩))
        · rcases List.mem_cons.mp k with rfl | k
          · exact hm
          · have lt := (List.pairwise_cons.mp (List.pairwise_append.mp ps).2.1).1 m k
            have l1 := shows_len sm
            rcases lt with lt | ⟨le, lt⟩
            · omega
            · have := shows_same (hF x hx) (hF m hm.1) sm le
              subst this
              exact absurd lt (List.lt_irrefl _)
      · intro hm y hy sy
        obtain ⟨k1, k2⟩ := (h y).mp hy
        have := hm.2 y k2.1 sy
        subst this
        exact slt_irrefl (pre_lt y k1)
    unfold lgo
    by_cases c : letB acc x = true
    · rw [if_pos c]
      refine lgo_mem hF r (pre ++ [x]) (acc ++ [x]) (by rw [List.append_assoc]; exact e) (fun y => ?_) q
      rw [List.mem_append, List.mem_append, List.mem_singleton, h]
      constructor
      · rintro (⟨a, b⟩ | rfl)
        · exact ⟨.inl a, b⟩
        · exact ⟨.inr rfl, key.mp c⟩
      · rintro ⟨a | rfl, b⟩
        · exact .inl ⟨a, b⟩
        · exact .inr rfl
    · rw [if_neg c]
      refine lgo_mem hF r (pre ++ [x]) acc (by rw [List.append_assoc]; exact e) (fun y => ?_) q
      rw [List.mem_append, List.mem_singleton, h]
      constructor
      · rintro ⟨a, b⟩
        exact ⟨.inl a, b⟩
      · rintro ⟨a | rfl, b⟩
        · exact ⟨a, b⟩
        · exact absurd (key.mpr b) c
theorem leastL_mem {F : List (List Int)} (hF : Ords F) {q : List Int} : q ∈ leastL F ↔ Minl F q := lgo_mem hF (srtP F) [] [] rfl (fun q => by simp) q
theorem leastL_let {F : List (List Int)} (hF : Ords F) {p : List Int} (ip : IsOrd p) : letB (leastL F) p = letB F p := by
  rw [Bool.eq_iff_iff, letB_iff (leastL_ords hF) ip, letB_iff hF ip]
  constructor
  · intro h q hq hs
    obtain ⟨m, hm, sm⟩ := minl_below hF q.length q (Nat.le_refl _) hq
    exact h m ((leastL_mem hF).mpr hm) (shows_trans hs sm)
  · exact fun h q hq => h q (leastL_in hq)
end Z

set_option Elab.async false
set_option linter.all false
set_option maxRecDepth 100000
set_option autoImplicit false
set_option maxHeartbeats 2000000
namespace Z
open PySem PySem.Spec PyProof.Rows L2
structure Mv (w : List Int → List Int) : Prop where
  ord : ∀ {p : List Int}, IsOrd p → IsOrd (w p)
  len : ∀ p : List Int, (w p).length = p.length
  back : ∀ {p : List Int}, IsOrd p → w (w p) = p
  sh : ∀ {p q : List Int}, IsOrd p → IsOrd q → Shows p q → Shows (w p) (w q)
variable {w : List Int → List Int}
theorem Mv.iff (h : Mv w) {p q : List Int} (ip : IsOrd p) (iq : IsOrd q) : Shows (w p) (w q) ↔ Shows p q := by
  constructor
  · intro s
    have := h.sh (h.ord ip) (h.ord iq) s
    rwa [h.back ip, h.back iq] at this
  · exact h.sh ip iq
theorem Mv.ords (h : Mv w) {F : List (List Int)} (hF : Ords F) : Ords (F.map w) := fun q hq => by
  obtain ⟨p, hp, rfl⟩ := List.mem_map.mp hq
  exact h.ord (hF p hp)
theorem Mv.let (h : Mv w) {F : List (List Int)} (hF : Ords F) {p : List Int} (ip : IsOrd p) : letB (leastL (F.map w)) (w p) = letB F p := by
  rw [leastL_let (h.ords hF) (h.ord ip), Bool.eq_iff_iff, letB_iff (h.ords hF) (h.ord ip), letB_iff hF ip]
  constructor
  · intro a q hq hs
    exact a (w q) (List.mem_map.mpr ⟨q, hq, rfl⟩) ((h.iff ip (hF q hq)).mpr hs)
  · intro a q hq hs
    obtain ⟨r, hr, rfl⟩ := List.mem_map.mp hq
    exact a r hr ((h.iff ip (hF r hr)).mp hs)
end Z

set_option Elab.async false
set_option linter.all false
set_option maxRecDepth 100000
set_option autoImplicit false
set_option maxHeartbeats 2000000
namespace Z
open PySem PySem.Spec PyProof.Rows L2
def insG (p : List Int) (i : Nat) : List Int := p.take i ++ [((p.length + 1 : Nat) : Int)] ++ p.drop i
def lngG (p : List Int) : List (List Int) := (irange 0 (p.length + 1)).map fun i => insG p i.toNat
theorem insG_len (p : List Int) (i : Nat) : (insG p i).length = p.length + 1 := by
  unfold insG
  rw [List.length_append, List.length_append, List.length_take, List.length_drop, List.length_singleton]
  omega
theorem lngG_len (p : List Int) : (lngG p).length = p.length + 1 := by unfold lngG; rw [List.length_map, irange_len]
theorem lngG_ord {p q : List Int} (ip : IsOrd p) (h : q ∈ lngG p) : IsOrd q ∧ q.length = p.length + 1 := by
  obtain ⟨i, _, rfl⟩ := List.mem_map.mp h
  exact ⟨isOrd_insert ip i.toNat, insG_len p _⟩
/-- without the greatest -/
def shr (q : List Int) : List Int := q.filter fun x => decide (x ≠ (q.length : Int))
theorem shr_ins {p : List Int} (ip : IsOrd p) (i : Nat) : shr (insG p i) = p := by
  have hn : ∀ x ∈ p, decide (x ≠ ((p.length + 1 : Nat) : Int)) = true := fun x hx => by
    have := ip.hi x hx
    exact decide_eq_true (by omega)
  unfold shr
  rw [insG_len]
  unfold insG
  rw [List.filter_append, List.filter_append, List.filter_eq_self.mpr fun x hx => hn x (List.mem_of_mem_take hx), List.filter_eq_self.mpr fun x hx => hn x (List.mem_of_mem_drop hx)]
  rw [List.filter_cons_of_neg (by simp), List.filter_nil, List.append_nil, List.take_append_drop]
theorem shr_ord {q : List Int} (iq : IsOrd q) {n : Nat} (hn : q.length = n + 1) : IsOrd (shr q) ∧ (shr q).length = n ∧ q ∈ lngG (shr q) := by
  have hm : (((n + 1 : Nat)) : Int) ∈ q := iq.mem (by omega) (by rw [hn]; exact Int.le_refl _)
  obtain ⟨a, b, e⟩ := List.append_of_mem hm
  have nd := iq.nd
  rw [e] at nd
  have hne : ∀ x ∈ a ++ b, x ≠ ((n + 1 : Nat) : Int) := fun x hx z => by
    subst z
    rw [List.nodup_append] at nd
    obtain ⟨_, n2, n3⟩ := nd
    rcases List.mem_append.mp hx with h | h
    · exact n3 _ h _ List.mem_cons_self rfl
    · exact (List.nodup_cons.mp n2).1 h
  have es : shr q = a ++ b := by
    unfold shr
    rw [hn]
    conv => lhs; rw [e]
    rw [List.filter_append, List.filter_cons_of_neg (by simp), ← List.filter_append]
    exact List.filter_eq_self.mpr fun x hx => decide_eq_true (hne x hx)
  have sub : (a ++ b).Sublist q := by rw [e]; exact List.Sublist.append_left (List.sublist_cons_self _ _) _
  have hl : (a ++ b).length = n := by
    have := congrArg List.length e
    rw [hn, List.length_append, List.length_cons] at this
    rw [List.length_append]
    omega
  rw [es]
  refine ⟨⟨iq.nd.sublist sub, fun x hx => iq.lo x (sub.subset hx), fun x hx => ?_⟩, hl, ?_⟩
  · have h1 := iq.hi x (sub.subset hx)
    have h2 := hne x hx
    rw [hl]
    rw [hn] at h1
    omega
  · refine List.mem_map.mpr ⟨(a.length : Int), irange_mem.mpr ⟨by omega, by rw [List.length_append]; omega⟩, ?_⟩
    unfold insG
    rw [Int.toNat_natCast, hl, List.take_left, List.drop_left, List.append_assoc]
    exact e.symm
theorem lngG_nd {p : List Int} (ip : IsOrd p) : (lngG p).Nodup := by
  unfold lngG List.Nodup
  rw [List.pairwise_map]
  refine (irange_sorted 0 _).imp_of_mem fun {i j} hi hj hij e => ?_
  have hi' := irange_mem.mp hi
  have hj' := irange_mem.mp hj
  have g : ∀ k : Nat, k ≤ p.length → (insG p k).idxOf ((p.length + 1 : Nat) : Int) = k := fun k hk => by
    have hn : ((p.length + 1 : Nat) : Int) ∉ p.take k := fun h => by
      have := ip.hi _ (List.mem_of_mem_take h)
      omega
    unfold insG
    rw [List.append_assoc, List.idxOf_append, if_neg hn]
    show ([((p.length + 1 : Nat) : Int)] ++ p.drop k).idxOf _ + (p.take k).length = k
    rw [List.length_take, Nat.min_eq_left hk, List.singleton_append, List.idxOf_cons_self, Nat.zero_add]
  have a := g i.toNat (by omega)
  have b := g j.toNat (by omega)
  rw [e, b] at a
  omega
def fac : Nat → Nat
  | 0 => 1
  | n + 1 => (n + 1) * fac n
def allO : Nat → List (List Int)
  | 0 => [[]]
  | n + 1 => ((allO n).flatMap lngG).mergeSort (fun a b => decide (a ≤ b))
structure AllOk (n : Nat) (L : List (List Int)) : Prop where
  asc : L.Pairwise (· < ·)
  mem : ∀ t, t ∈ L ↔ IsOrd t ∧ t.length = n
theorem flat_nd {α β : Type} {f : α → List β} {L : List α} (h1 : L.Nodup) (h2 : ∀ x ∈ L, (f x).Nodup) (g : β → α) (h3 : ∀ x ∈ L, ∀ y ∈ f x, g y = x) : (L.flatMap f).Nodup := by
  induction L with
  | nil => exact .nil
  | cons x L ih =>
    obtain ⟨n1, n2⟩ := List.nodup_cons.mp h1
    rw [List.flatMap_cons, List.nodup_append]
    refine ⟨h2 x List.mem_cons_self, ih n2 (fun y hy => h2 y (List.mem_cons_of_mem _ hy)) fun y hy => h3 y (List.mem_cons_of_mem _ hy), fun a ha b hb e => ?_⟩
    obtain ⟨y, hy, hb'⟩ := List.mem_flatMap.mp hb
    have e1 := h3 x List.mem_cons_self a ha
    have e2 := h3 y (List.mem_cons_of_mem _ hy) b hb'
    rw [e, e2] at e1
    subst e1
    exact n1 hy
theorem allO_ok : ∀ n : Nat, AllOk n (allO n) ∧ ((allO n).flatMap lngG).Nodup ∧ (allO n).length = fac n
  | 0 => ⟨⟨List.pairwise_singleton _ _, fun t => by
      show t ∈ [[]] ↔ _
      rw [List.mem_singleton, List.length_eq_zero_iff]
      constructor
      · rintro rfl
        exact ⟨isOrd_nil, rfl⟩
      · exact fun h => h.2⟩, by
      show (List.flatMap lngG [[]]).Nodup
      decide, rfl⟩
  | n + 1 => by
    obtain ⟨⟨a, m⟩, nd, ln⟩ := allO_ok n
    have pm := List.mergeSort_perm ((allO n).flatMap lngG) (fun a b => decide (a ≤ b))
    have tot : ∀ x y : List Int, (decide (x ≤ y) || decide (y ≤ x)) = true := fun x y => by
      rcases List.le_total x y with h | h <;> simp [h]
    have tr : ∀ x y z : List Int, decide (x ≤ y) = true → decide (y ≤ z) = true → decide (x ≤ z) = true := fun x y z h1 h2 => decide_eq_true (List.le_trans (of_decide_eq_true h1) (of_decide_eq_true h2))
    have hs := List.pairwise_mergeSort (le := fun x y : List Int => decide (x ≤ y)) tr tot ((allO n).flatMap lngG)
    have nd' : (allO (n + 1)).Nodup := pm.nodup_iff.mpr nd
    have asc : (allO (n + 1)).Pairwise (· < ·) := by
      refine List.Pairwise.imp₂ (R := fun x y => decide (x ≤ y) = true) (S := fun x y => x ≠ y) (fun x y h1 h2 => ?_) hs nd'
      rcases List.le_iff_lt_or_eq.mp (of_decide_eq_true h1) with h | h
      · exact h
      · exact absurd h h2
    have mem : ∀ t, t ∈ allO (n + 1) ↔ IsOrd t ∧ t.length = n + 1 := fun t => by
      show t ∈ ((allO n).flatMap lngG).mergeSort _ ↔ _
      rw [pm.mem_iff, List.mem_flatMap]
      constructor
      · rintro ⟨p, hp, ht⟩
        obtain ⟨ip, lp⟩ := (m p).mp hp
        obtain ⟨h1, h2⟩ := lngG_ord ip ht
        exact ⟨h1, by rw [h2, lp]⟩
      · rintro ⟨it, lt⟩
        obtain ⟨h1, h2, h3⟩ := shr_ord it lt
        exact ⟨shr t, (m _).mpr ⟨h1, h2⟩, h3⟩
    refine ⟨⟨asc, mem⟩, flat_nd nd' (fun x hx => lngG_nd ((mem x).mp hx).1) shr fun x hx y hy => ?_, ?_⟩
    · obtain ⟨i, _, rfl⟩ := List.mem_map.mp hy
      exact shr_ins ((mem x).mp hx).1 _
    · show (((allO n).flatMap lngG).mergeSort _).length = _
      rw [List.length_mergeSort]
      have : ∀ L : List (List Int), (∀ x ∈ L, x.length = n) → (L.flatMap lngG).length = (n + 1) * L.length := by
        intro L
        induction L with
        | nil => intro _; simp
        | cons x L ih =>
          intro h
          rw [List.flatMap_cons, List.length_append, lngG_len, h x List.mem_cons_self, ih fun y hy => h y (List.mem_cons_of_mem _ hy), List.length_cons, Nat.mul_succ]
          omega
      rw [this _ fun x hx => ((m x).mp hx).2, ln]
      rfl
end Z

set_option Elab.async false
set_option linter.all false
set_option maxRecDepth 100000
set_option autoImplicit false
set_option maxHeartbeats 2000000
namespace Z
open PySem PySem.Spec PyProof.Rows L2
end Z

set_option Elab.async false
set_option linter.all false
set_option maxRecDepth 100000
set_option autoImplicit false
set_option maxHeartbeats 2000000
namespace Z
open PySem PySem.Spec PyProof.Rows L2
end Z

set_option Elab.async false
set_option linter.all false
set_option maxRecDepth 100000
set_option autoImplicit false
set_option maxHeartbeats 2000000
namespace Z
open PySem PySem.Spec PyProof.Rows L2
section
variable {X : Cx}
end
end Z

set_option Elab.async false
set_option linter.all false
set_option maxRecDepth 100000
set_option autoImplicit false
set_option maxHeartbeats 2000000
namespace Z
open PySem PySem.Spec PyProof.Rows L2
section
variable {X : Cx}
end
section
variable {X : Cx} {pins : List (Addr × Obj)} {σ : L2.St} {H G : Hp} {s : Shared}
structure PrOk (X : Cx) (H G : Hp) (s : Shared) (ps : List (List Int × D)) (its : List Value) (as : List Addr) (es : List (List Int × Addr × V)) (xs : List (List Int × Addr × Value)) : Prop where
  it : its = as.map Value.ref
  al : DkAll X.K G es ps
  dp : DkP es xs
  la : as.length = xs.length
  pr : ∀ (j : Nat) (x : List Int × Addr × Value), xs[j]? = some x → ∃ a, as[j]? = some a ∧ PairAt s.heap a (.ref x.2.1) x.2.2
  ks : ∀ x ∈ xs, IsTupleKey (intKind X.prog X.w) s.heap x.1 x.2.1
end
end Z

set_option Elab.async false
set_option linter.all false
set_option maxRecDepth 100000
set_option autoImplicit false
set_option maxHeartbeats 2000000
namespace Z
open PySem PySem.Spec PyProof.Rows L2
section
variable {X : Cx} {i j : Nat} {x y : Str} {px py pt pos pd pc pl : Pos} {kt k2 : Nat} {pt2 : Pos} {arg : Expr}
end
section
variable {X : Cx} {b b1 : Bool} {elt tg iter tg1 iter1 : Expr} {ifs ifs1 : List Expr} {scope : Scope} {pos : Pos} {t t1 : Tg} {mi mi1 : M (List D)} {mt mt1 : M Bool} {me : M D}
end
end Z

set_option Elab.async false
set_option linter.all false
set_option maxRecDepth 100000
set_option autoImplicit false
set_option maxHeartbeats 2000000
namespace Z
open PySem PySem.Spec PyProof.Rows L2
def rmx : List Int → List Int
  | [] => []
  | x :: l => if ∀ y ∈ l, y < x then x :: rmx l else rmx l
def rst : List Int → List Int
  | [] => []
  | x :: l => if ∀ y ∈ l, y < x then rst l else x :: rst l
theorem rmx_sub : ∀ l : List Int, (rmx l).Sublist l
  | [] => .refl _
  | x :: l => by
    unfold rmx
    split
    · exact (rmx_sub l).cons_cons x
    · exact (rmx_sub l).cons x
theorem rst_sub : ∀ l : List Int, (rst l).Sublist l
  | [] => .refl _
  | x :: l => by
    unfold rst
    split
    · exact (rst_sub l).cons x
    · exact (rst_sub l).cons_cons x
theorem rmx_len : ∀ l : List Int, (rmx l).length + (rst l).length = l.length
  | [] => rfl
  | x :: l => by
    have := rmx_len l
    unfold rmx rst
    split <;> simp only [List.length_cons] <;> omega
theorem rmx_desc : ∀ l : List Int, (rmx l).Pairwise (· > ·)
  | [] => .nil
  | x :: l => by
    unfold rmx
    split
    · rename_i h
      exact .cons (fun y hy => h y ((rmx_sub l).subset hy)) (rmx_desc l)
    · exact rmx_desc l
theorem rst_ext : ∀ (l s : List Int), l.Nodup → s.Sublist (rst l) → s ≠ [] → s.Pairwise (· < ·) → ∃ y, (s ++ [y]).Sublist l ∧ (s ++ [y]).Pairwise (· < ·)
  | [], s, _, h, hn, _ => absurd (List.sublist_nil.mp h) hn
  | x :: l, s, nd, h, hn, hp => by
    obtain ⟨n1, n2⟩ := List.nodup_cons.mp nd
    unfold rst at h
    split at h
    · obtain ⟨y, h1, h2⟩ := rst_ext l s n2 h hn hp
      exact ⟨y, h1.cons x, h2⟩
    · rename_i hx
      cases h with
      | cons _ h =>
        obtain ⟨y, h1, h2⟩ := rst_ext l s n2 h hn hp
        exact ⟨y, h1.cons x, h2⟩
      | cons_cons _ h =>
        rename_i s'
        obtain ⟨p1, p2⟩ := List.pairwise_cons.mp hp
        by_cases c : s' = []
        · subst c
          obtain ⟨y, hy⟩ := Classical.not_forall.mp hx
          obtain ⟨hy, hlt⟩ := Classical.not_imp.mp hy
          have ne : y ≠ x := fun z => n1 (z ▸ hy)
          refine ⟨y, (List.singleton_sublist.mpr hy).cons_cons x, ?_⟩
          show [x, y].Pairwise (· < ·)
          refine .cons (fun z hz => ?_) (List.pairwise_singleton _ _)
          rw [List.mem_singleton.mp hz]
          omega
        · obtain ⟨y, h1, h2⟩ := rst_ext l s' n2 h c p2
          refine ⟨y, h1.cons_cons x, .cons (fun z hz => ?_) h2⟩
          rcases List.mem_append.mp hz with a | a
          · exact p1 z a
          · rw [List.mem_singleton.mp a]
            obtain ⟨w, hw⟩ := List.exists_mem_of_ne_nil _ c
            have := p1 w hw
            have := (List.pairwise_append.mp h2).2.2 w hw y (List.mem_singleton.mpr rfl)
            omega
theorem far (f : Nat) : ∀ (r : Nat) (l : List Int), l.Nodup → r * f < l.length → (∃ s : List Int, s.Sublist l ∧ s.Pairwise (· < ·) ∧ s.length = r + 1) ∨ ∃ s : List Int, s.Sublist l ∧ s.Pairwise (· > ·) ∧ s.length = f + 1
  | 0, l, nd, h => by
    cases l with
    | nil => rw [List.length_nil] at h; omega
    | cons x l => exact .inl ⟨[x], List.singleton_sublist.mpr List.mem_cons_self, List.pairwise_singleton _ _, rfl⟩
  | r + 1, l, nd, h => by
    by_cases c : f + 1 ≤ (rmx l).length
    · exact .inr ⟨(rmx l).take (f + 1), (List.take_sublist _ _).trans (rmx_sub l), (rmx_desc l).sublist (List.take_sublist _ _), by rw [List.length_take]; omega⟩
    · have hl := rmx_len l
      rw [Nat.add_mul, Nat.one_mul] at h
      rcases far f r (rst l) (nd.sublist (rst_sub l)) (by omega) with ⟨s, h1, h2, h3⟩ | ⟨s, h1, h2, h3⟩
      · obtain ⟨y, k1, k2⟩ := rst_ext l s nd h1 (fun z => by rw [z] at h3; cases h3) h2
        exact .inl ⟨s ++ [y], k1, k2, by rw [List.length_append, h3]; rfl⟩
      · exact .inr ⟨s, h1.trans (rst_sub l), h2, h3⟩
end Z

set_option Elab.async false
set_option linter.all false
set_option maxRecDepth 100000
set_option autoImplicit false
set_option maxHeartbeats 2000000
namespace Z
open PySem PySem.Spec PyProof.Rows L2
def kGen : SortKind := by constructor
open Classical in
noncomputable def kOne (v : Value) : PyProof.Rows.KeyKind where
  α := Unit
  blt := fun _ _ => false
  irrefl := fun _ => rfl
  trans := fun _ _ _ h => by cases h
  negTrans := fun _ _ _ h => by cases h
  total := fun _ _ _ _ => rfl
  keyOf := fun u => if u = v then some () else none
  dflt := ()
section
variable {prog : Program} {w : World} {A : Around} {E : Value → Shared → Prop} {s : Shared}
theorem one_lt {e : Addr} (h : IsTup s.heap e #[]) (hu : A.units < cLine) : H.LtAt prog w A s (kOne (.ref e)) kGen := by
  intro E x y a b Q hx hy q
  have key : ∀ {u : Value} {c : Unit}, (kOne (.ref e)).keyOf u = some c → u = .ref e := fun {u c} hk => by
    refine Classical.byContradiction fun z => ?_
    have : (kOne (.ref e)).keyOf u = none := if_neg z
    rw [this] at hk
    cases hk
  rw [key hx, key hy]
  show wpAny (model prog w) A (compareOp .Lt (.ref e) (.ref e) >>= truthOfDropped) Q E s
  exact wpAny_bind (HT.lt_tupInts h h (ns := []) (ms := []) .nil .nil hu (wpAny_pure q))
open PySem.W PySem.Calls in
theorem sorted_one {it e : Addr} {o : Obj} {n : Nat} {Q : Value → Shared → Prop} (ho : s.heap.get? it = some o) (hc : o.cls = .type "list") (hd : o.data = .seq [Value.ref e].toArray n) (he : IsTup s.heap e #[]) (hu : A.units + 2 + 30 < cLine)
    (h : ∀ (h1 h' : Heap) (c : Nat), (∀ b ob, s.heap.get? b = some ob → h1.get? b = some ob) → (∀ b ob, h1.get? b = some ob → h'.get? b = some ob) → h'.get? h1.objs.size = some (seqObj "list" [Value.ref e].toArray c) → Q (.ref h1.objs.size) { s with heap := h' }) :
    wpAny (model prog w) A (call (.builtin "sorted") [.ref it]) Q E s := by
  have hlen : [Value.ref e].length ≤ sizeLine := show 1 ≤ sizeLine by decide
  refine call_function_entry_kw kind_sorted plain_sorted entry_sorted (args_sorted1 _) ?_
  unfold Builtin.«sorted»
  refine wpAny_bind (m := checkCount "sorted" 1 1 _) (wpAny_pure ?_)
  refine wpAny_bind (wpAny_collect_seq (hsz := by rw [List.size_toArray]; exact hlen) it (.inl rfl) ho hc hd fun h1 k1 => ?_)
  refine wpAny_bind (wpAny_newList ?_ hlen)
  show wpAny (model prog w) _ _ _ _ { s with heap := h1.push (seqObj "list" [Value.ref e].toArray 0) }
  have ho2 : (h1.push (seqObj "list" [Value.ref e].toArray 0)).get? h1.objs.size = some (seqObj "list" [Value.ref e].toArray 0) := Heap.get?_push_size _ rfl
  have k2 : ∀ b ob, s.heap.get? b = some ob → (sortingHeap (h1.push (seqObj "list" [Value.ref e].toArray 0)) h1.objs.size [Value.ref e]).get? b = some ob := fun b ob q => sortingHeap_old (Nat.ne_of_lt (Heap.lt_size (k1 b ob q))) (Heap.get?_push_of_some _ (k1 b ob q))
  refine wpAny_bind (wpAny_holding (wpAny_call_entry_kw slot_list_sort ⟨_, ho2, rfl⟩ entry_list_sort ?body (args_list_sort _)))
  case body =>
    have he' : IsTup (sortingHeap (h1.push (seqObj "list" [Value.ref e].toArray 0)) h1.objs.size [Value.ref e]) e #[] := by
      obtain ⟨oe, g1, g2⟩ := he
      exact ⟨oe, k2 e oe g1, g2⟩
    have S : SortsAt prog w A.in1.in1 { s with heap := sortingHeap (h1.push (seqObj "list" [Value.ref e].toArray 0)) h1.objs.size [Value.ref e] } (kOne (.ref e)) [Value.ref e] :=
      ⟨fun v hv => ⟨(), by rw [List.mem_singleton.mp hv]; exact if_pos rfl⟩, kGen, one_lt he' (by show A.units + 1 + 1 < cLine; omega), fun z => absurd z (show ¬ 2 ≤ 1 by decide)⟩
    refine list_sort_vals (s := { s with heap := h1.push (seqObj "list" [Value.ref e].toArray 0) }) ho2 S hlen ?_
    refine ⟨_, rfl, wpAny_pure ?_⟩
    have ev : sortVals (kOne (.ref e)) false [Value.ref e] [Value.ref e] = [Value.ref e] := by
      unfold sortVals
      simp
    rw [ev]
    obtain ⟨c, hc'⟩ := sortedHeap_at (h := h1.push (seqObj "list" [Value.ref e].toArray 0)) (a := h1.objs.size) (vs := [Value.ref e]) (n := 0) (out := [Value.ref e].toArray) ho2
    refine ⟨_, rfl, h h1 _ c k1 (fun b ob q => ?_) hc'⟩
    rw [sortedHeap_old (Nat.ne_of_lt (Heap.lt_size q)) (Heap.lt_size (Heap.get?_push_of_some _ q))]
    exact Heap.get?_push_of_some _ q
end
def fSorted1 : List D → Option (List D)
  | [.list [.tuple []]] => some [.tuple []]
  | xs => fSorted xs
theorem fSorted1_unit : fSorted1 [.list [.tuple []]] = some [.tuple []] := rfl
theorem fSorted1_of {xs ys : List D} (h : fSorted xs = some ys) (hn : xs ≠ [.list [.tuple []]]) : fSorted1 xs = some ys := by
  unfold fSorted1
  split
  · exact absurd rfl hn
  · exact h
theorem cd_sorted1 {X : Cx} (hu : X.A.units + 64 < cLine) : CallR X (.builtin "sorted") (rON X.K fSorted1) := by
  intro pins s σ H vs us Q I r h
  have h0 := h
  obtain ⟨G, xs, zs, gh, rd, e, q⟩ := h
  unfold fSorted1 at e
  split at e
  · cases e
    obtain ⟨v, rfl, rv⟩ := rd.one
    obtain ⟨l, ws, rfl, s1, d1⟩ := rv.list gh
    obtain ⟨u, rfl, rx⟩ := vals1 r
    cases rx
    cases d1 with
    | cons d2 d3 =>
      cases d3
      cases d2 with
      | tup t1 d4 =>
        cases d4
        rename_i T
        obtain ⟨its, r', pl, _⟩ := I.list s1
        obtain ⟨o, ho, hc, n, hd⟩ := pl.isList
        cases r' with
        | cons r1 r2 =>
          cases r2
          cases r1
          obtain ⟨it2, vs2, tp, _⟩ := I.tuple ((t1.mono gh).sq)
          cases vs2
          refine sorted_one ho hc hd tp (by omega) fun h1 h' c k1 k2 hD => ?_
          have I1 : L2.Inv X pins σ H { s with heap := h1 } := I.kept (t' := s.toks) k1
          have I2 : L2.Inv X pins σ (upd H h1.objs.size (.lst [.ref T])) { s with heap := h' } := I1.laid (t' := s.toks) k2 (Nat.le_refl _) (show ObjOk X.prog X.w _ _ _ (.lst [.ref T]) from ⟨(show 1 ≤ sizeLine by decide), [.ref T], c, .cons rfl .nil, hD⟩)
          exact ⟨.ref h1.objs.size, _, I2, rfl, q _ [.ref T] (I1.hok.fresh (Nat.le_refl _)) (.cons (.tup t1 .nil) .nil)⟩
  · exact cd_sorted hu pins s σ H vs us Q I r ⟨G, xs, zs, gh, rd, e, q⟩
end Z

set_option Elab.async false
set_option linter.all false
set_option maxRecDepth 100000
set_option autoImplicit false
set_option maxHeartbeats 1000000
namespace Z
open PySem PySem.Spec PyProof.Rows L2
section
variable {X : Cx}
end
def fitJ (a : Str) (ys : List Str) : Prop := (ys.map (·.length)).sum + ys.length * a.length ≤ 16777216
instance (a : Str) (ys : List Str) : Decidable (fitJ a ys) := by unfold fitJ; exact inferInstance
section
variable {X : Cx} {o e : Expr} {apos pos : Pos}
end
end Z

set_option Elab.async false
set_option linter.all false
set_option maxRecDepth 100000
set_option autoImplicit false
set_option maxHeartbeats 3200000
namespace Z
open PySem PySem.Spec PyProof.Rows L2
section
variable {P : Program} {w : World} {A : Around} {E : Value → Shared → Prop} {s : Shared}
end
section
variable {X : Cx} {pins : List (Addr × Obj)} {σ : St}
end
end Z

set_option Elab.async false
set_option linter.all false
set_option maxRecDepth 100000
set_option autoImplicit false
set_option maxHeartbeats 3200000
namespace Z
open PySem PySem.Spec PyProof.Rows L2
section
variable {X : Cx} {e : Expr} {p p2 pos pos2 : Pos}
end
end Z

set_option Elab.async false
set_option linter.all false
set_option maxRecDepth 100000
set_option autoImplicit false
set_option maxHeartbeats 1000000
namespace Z
open PySem PySem.Spec PyProof.Rows L2
end Z

set_option Elab.async false
set_option linter.all false
set_option maxRecDepth 100000
set_option autoImplicit false
set_option maxHeartbeats 1000000
namespace Z
open PySem PySem.Spec PyProof.Rows L2
end Z

set_option Elab.async false
set_option linter.all false
set_option maxRecDepth 100000
set_option autoImplicit false
set_option maxHeartbeats 1000000
namespace Z
open PySem PySem.Spec PyProof.Rows L2
end Z

set_option Elab.async false
set_option linter.all false
set_option maxRecDepth 100000
set_option autoImplicit false
set_option maxHeartbeats 4000000
namespace Z
open PySem PySem.Spec PyProof.Rows L2
end Z

set_option Elab.async false
set_option linter.all false
set_option maxRecDepth 100000
set_option autoImplicit false
set_option maxHeartbeats 4000000
namespace Z
open PySem PySem.Spec PyProof.Rows L2
structure QF (F : Fr) (G : Hp) (Mu : Option Addr) (p l1 l2 : Addr) : Prop where
  ne : l1 ≠ l2
  n1 : p ≠ l1
  n2 : p ≠ l2
  fp : F p = none
  f1 : F l1 = none
  f2 : F l2 = none
  gp : G p = none
  g1 : G l1 = none
  g2 : G l2 = none
  mu : ∀ l, Mu = some l → l ≠ p ∧ l ≠ l1 ∧ l ≠ l2
structure QH (F : Fr) (G : Hp) (Mu : Option Addr) (v0 : V) (p l1 l2 : Addr) (s : List Int × List Int) (σ : St) (H : Hp) : Prop where
  len : σ.length = 5
  s0 : σ[0]? = some (some v0)
  s1 : σ[1]? = some (some (.ref p))
  hp : ∃ ob : Obj, ob.dict = none ∧ H p = some (.frz ob (.tup [.ref l1, .ref l2]))
  h1 : H l1 = some (.lst (s.1.map .int))
  h2 : H l2 = some (.lst (s.2.map .int))
  mu : ∀ l, Mu = some l → H l ≠ none
  fh : Same F.f H
  gh : Same G H
end Z

set_option Elab.async false
set_option linter.all false
set_option maxRecDepth 100000
set_option autoImplicit false
set_option maxHeartbeats 4000000
namespace Z
open PySem PySem.Spec PyProof.Rows L2
end Z

set_option Elab.async false
set_option linter.all false
set_option maxRecDepth 100000
set_option autoImplicit false
set_option maxHeartbeats 4000000
namespace Z
open PySem PySem.Spec PyProof.Rows L2
end Z

set_option Elab.async false
set_option linter.all false
set_option maxRecDepth 100000
set_option autoImplicit false
set_option maxHeartbeats 1000000
namespace Z
open PySem PySem.Spec PyProof.Rows L2
structure FnA (P : Program) (w : World) (K : PySem.W.Frag) (mg : Str → Option Value) (base : Heap) (y : Str) (st : Stmt) (k : Nat) (ps : List Str) (ks : List Pk) (φ : List D → Out) : Prop where
  ex : ∃ f fd x qual, Fun K x qual st f fd ∧ mg y = some (.ref f) ∧ FnOk P w K mg base (L2.CX P w) k f fd ps (spF K mg ks φ) ∧ Binds K fd ps []
theorem FnA.mono {P : Program} {w : World} {K : PySem.W.Frag} {mg : Str → Option Value} {base : Heap} {y : Str} {st : Stmt} {j k : Nat} {ps : List Str} {ks : List Pk} {φ : List D → Out} (F : FnA P w K mg base y st j ps ks φ) (h : j ≤ k) : FnA P w K mg base y st k ps ks φ := by
  obtain ⟨f, fd, x, qual, a, b, c, d⟩ := F.ex
  exact ⟨f, fd, x, qual, a, b, c.mono h, d⟩
section
variable {P : Program} {w : World} {K : PySem.W.Frag} {mg : Str → Option Value} {base : Heap}
end
section
variable {X : Cx} {e : Expr} {es : List Expr} {p pos : Pos} {x : Str} {st : Stmt} {k : Nat} {ps : List Str} {ks : List Pk} {φ : List D → Out}
end
end Z

set_option Elab.async false
set_option linter.all false
set_option maxRecDepth 100000
set_option autoImplicit false
set_option maxHeartbeats 1000000
namespace Z
open PySem PySem.Spec PyProof.Rows L2
section
variable {X : Cx} {i j : Nat} {pt pos pd pc pl pb : Pos} {kt k2 k3 : Nat} {pt2 : Pos}
end
end Z

set_option Elab.async false
set_option linter.all false
set_option maxRecDepth 100000
set_option maxHeartbeats 2000000
namespace Zp
open PySem PySem.Spec
open Sem (wp)
theorem prm_mro : mroOf (.type "itertools.permutations") = pure [.type "itertools.permutations", .type "object"] := by rw [mroOf_type]; kernel_rfl
theorem prm_new : typeLookup (.type "itertools.permutations") "__new__" = pure (some (.builtin "itertools.permutations.__new__")) := by rw [typeLookup_type, builtinLookup_eq_fast]; kernel_rfl
theorem prm_init : Slot "itertools.permutations" "__init__" "object.__init__" :=
  .of (owner := "object") (n := "__init__") (by rw [typeLookup_type, builtinLookup_eq_fast]; kernel_rfl) (by decide +kernel) (by decide +kernel) (by decide +kernel)
    (by first | exact .inl (by decide +kernel) | exact .inr (by decide +kernel)) (by rw [isSubtype_type]; kernel_rfl)
theorem prm_sub : isSubtype (.type "itertools.permutations") (.type "itertools.permutations") = pure true := by rw [isSubtype_type]; kernel_rfl
theorem prm_called : TypeCalled "itertools.permutations" "itertools.permutations.__new__" "object.__init__" :=
  ⟨by decide +kernel, by decide +kernel, ⟨_, _, prm_mro⟩, madeBy_type prm_mro prm_new (by decide +kernel), by decide +kernel, prm_sub, prm_init⟩
theorem prm_typeCall (a : Value) : checkTypeCall "itertools.permutations" ⟨[a], []⟩ = pure () := by kernel_rfl
theorem prm_newCall (a : Value) : checkBuiltinCall "itertools.permutations.__new__" ⟨[.type "itertools.permutations", a], []⟩ = pure () := by kernel_rfl
theorem prm_entry_new : entryFor table "itertools.permutations.__new__" = some Builtin.«itertools.permutations.__new__» := entryFor_of_tree (by kernel_rfl)
theorem prm_slot_iter : Slot "itertools.permutations" "__iter__" "itertools.permutations.__iter__" :=
  .of (owner := "itertools.permutations") (n := "__iter__") (by rw [typeLookup_type, builtinLookup_eq_fast]; kernel_rfl) (by decide +kernel) (by decide +kernel) (by decide +kernel)
    (by first | exact .inl (by decide +kernel) | exact .inr (by decide +kernel)) prm_sub
theorem prm_slot_next : Slot "itertools.permutations" "__next__" "itertools.permutations.__next__" :=
  .of (owner := "itertools.permutations") (n := "__next__") (by rw [typeLookup_type, builtinLookup_eq_fast]; kernel_rfl) (by decide +kernel) (by decide +kernel) (by decide +kernel)
    (by first | exact .inl (by decide +kernel) | exact .inr (by decide +kernel)) prm_sub
theorem prm_entry_iter : entryFor table "itertools.permutations.__iter__" = some Builtin.«dict_keyiterator.__iter__» :=
  entryFor_alias (id' := "dict_keyiterator.__iter__") (by kernel_rfl) (by first | rfl | decide +kernel | (unfold String.splitOn; simp +decide [String.splitOnAux])) (by decide +kernel) (by kernel_rfl)
theorem prm_entry_next : entryFor table "itertools.permutations.__next__" = some Builtin.«itertools.permutations.__next__» := entryFor_of_tree (by kernel_rfl)
theorem prm_owner : Manifest.owners.lookup (String.ofList ['s', 'n', 'o', 'i', 't', 'a', 't', 'u', 'm', 'r', 'e', 'p', '.', 's', 'l', 'o', 'o', 't', 'r', 'e', 't', 'i'].reverse) = some Manifest.sig_itertools_permutations := by kernel_rfl
theorem prm_args_iter (a : Value) : argsOk "itertools.permutations.__iter__" ⟨[a], []⟩ := by
  unfold argsOk; rw [signature?_of (id := "itertools.permutations.__iter__") (n := ['_', '_', 'r', 'e', 't', 'i', '_', '_']) (o := ['s', 'n', 'o', 'i', 't', 'a', 't', 'u', 'm', 'r', 'e', 'p', '.', 's', 'l', 'o', 'o', 't', 'r', 'e', 't', 'i']) (by kernel_rfl) prm_owner]; kernel_rfl
theorem prm_args_next (a : Value) : argsOk "itertools.permutations.__next__" ⟨[a], []⟩ := by
  unfold argsOk; rw [signature?_of (id := "itertools.permutations.__next__") (n := ['_', '_', 't', 'x', 'e', 'n', '_', '_']) (o := ['s', 'n', 'o', 'i', 't', 'a', 't', 'u', 'm', 'r', 'e', 'p', '.', 's', 'l', 'o', 'o', 't', 'r', 'e', 't', 'i']) (by kernel_rfl) prm_owner]; kernel_rfl
theorem prm_noDict : typeHasDict (.type "itertools.permutations") = false := by decide +kernel
theorem prm_noLen : typeLookup (.type "itertools.permutations") "__len__" = pure none := by rw [typeLookup_type, builtinLookup_eq_fast]; kernel_rfl
theorem prm_noHint : typeLookup (.type "itertools.permutations") "__length_hint__" = pure none := by rw [typeLookup_type, builtinLookup_eq_fast]; kernel_rfl
theorem prm_bind (v : Value) : Builtin.Itertools.itBindNamed "permutations" ["iterable", "r"] 1 2 [v] [] = pure [some v, none] := by first | rfl | kernel_rfl
end Zp
set_option Elab.async false
set_option linter.all false
set_option maxRecDepth 100000
set_option maxHeartbeats 2000000
namespace Zp
open PySem PySem.Spec
open Sem (wp)
def prmN (nums : List Nat) : List Value := nums.map fun (i : Nat) => Value.int (i : Int) 0
abbrev prmF (p : Addr) (ph : Int) (n : Nat) (bf : Value) (nums : List Nat) : List Value := Value.ref p :: Value.int ph 0 :: Value.int (n : Int) 0 :: bf :: prmN nums
abbrev IsPrm (h : Heap) (it p : Addr) (ph : Int) (n : Nat) (bf : Value) (nums : List Nat) : Prop :=
  h.get? it = some { cls := .type "itertools.permutations", dict := none, data := .fields (prmF p ph n bf nums).toArray, slots := #[] }
abbrev tupO (vs : List Value) : Obj := { cls := .type "tuple", data := .seq vs.toArray }
abbrev pickV (its : List Value) (ind : List Nat) : List Value := ind.map fun i => its.getD i Value.none
section
variable {prog : Program} {w : World} {A : Around} {E : Value → Shared → Prop} {s : Shared}
theorem nums_of (nums : List Nat) : (prmN nums).map (fun x => match x with | .int n _ => n.toNat | _ => 0) = nums := by
  unfold prmN
  rw [List.map_map]
  exact List.map_id'' (fun i => rfl) nums
theorem pick_arr (its : List Value) (ind : List Nat) : ind.map (fun i => its.toArray.getD i Value.none) = pickV its ind := by
  refine List.map_congr_left fun i _ => ?_
  simp
/-- what is handed out is kept in the object, too -/
theorem prm_out {it p : Addr} {n : Nat} {ph : Int} {bf : Value} {nums : List Nat} {vs : List Value} {Q : Option Value → Shared → Prop} {h : Heap} (hit : IsPrm h it p ph n bf nums) (hz : vs.length ≤ sizeLine)
    (q : ∀ h', IsPrm h' it p ph n (.ref h.objs.size) nums → h'.get? h.objs.size = some (tupO vs) → (∀ b o, b ≠ it → h.get? b = some o → h'.get? b = some o) → Q (some (.ref h.objs.size)) { s with heap := h' }) :
    wpAny (model prog w) A (do
      let t ← newTuple vs
      let b ← field (.ref it) 3
      setField (.ref it) 3 t
      letGo [b] [t]
      ret t) (fun fin s' => ∃ v, fin = Fin.done (Flow.ret v) ∧ Q (some v) s') E { s with heap := h } := by
  refine wpAny_bind (wpAny_newTuple ?_ hz)
  have hlt := Heap.lt_size hit
  have hit2 : IsPrm (h.push (tupO vs)) it p ph n bf nums := Heap.get?_push_of_some _ hit
  refine wpAny_bind (wpAny_field hit2 rfl (x := bf) rfl ?_)
  refine wpAny_bind (wpAny_setField hit2 rfl (by simp) ?_)
  refine wpAny_bind (wpAny_letGo ?_)
  refine wpAny_pure ⟨_, rfl, ?_⟩
  refine q _ (Heap.get?_update_self _ hit2 rfl) ?_ fun b o hb e => ?_
  · exact (Heap.get?_update_other _ _ (Nat.ne_of_lt hlt)).trans (Heap.get?_push_size _ rfl)
  · exact (Heap.get?_update_other _ _ (Ne.symm hb)).trans (Heap.get?_push_of_some _ e)
def StopE (e : Value) (h : Heap) : Prop := ∃ a o vs, e = .ref a ∧ h.get? a = some o ∧ o.cls = .type "StopIteration" ∧ o.data = .fields vs ∧ vs[5]? = some Value.none
theorem prm_stop {α : Type} {Q : α → Shared → Prop} (hh : A.handled = none) (q : ∀ e h', StopE e h' → (∀ b o, s.heap.get? b = some o → h'.get? b = some o) → E e { s with heap := h' }) :
    wpAny (model prog w) A (Builtin.Itertools.itStop (α := α)) Q E s := by
  unfold Builtin.Itertools.itStop
  refine wpAny_bind ?_
  simp only [newExc, newTuple]
  refine wpAny_bind (wpAny_newObj_type ?_ (by size_fits))
  refine wpAny_bind (m := firstArgMember _ _) (wpAny_of_eq (a := Value.none) (by first | rfl | (simp only [firstArgMember]; rfl)) ?_)
  refine wpAny_newObj_type ?_ (by size_fits)
  simp only [raiseNew]
  refine wpAny_bind (wpAny_handled ?_)
  first | rw [show A.in1.handled = none from hh] | rw [hh]
  refine wpAny_bind (wpAny_pure (wpAny_throw ?_))
  exact q _ _ ⟨_, _, _, rfl, Heap.get?_push_size _ rfl, rfl, rfl, rfl⟩ fun b o e => Heap.get?_push_of_some _ (Heap.get?_push_of_some _ e)
abbrev NextF := Nat → Nat → List Nat → List Nat → Option (List Nat × List Nat)
/-- what f makes: the rows behind one -/
def runN (f : NextF) (n : Nat) : Nat → List Nat → List Nat → Option (List (List Nat))
  | 0, _, _ => none
  | k + 1, i, c => match f n n i c with
    | none => some [i]
    | some (i', c') => if i'.length = n ∧ c'.length = n then (runN f n k i' c').map (i :: ·) else none
def pmL : Nat → List Nat → List (List Nat)
  | 0, _ => [[]]
  | k + 1, l => l.flatMap fun x => (pmL k (l.erase x)).map (x :: ·)
def NextOk (f : NextF) : Prop := ∀ {prog : Program} {w : World} {A : Around} {E : Value → Shared → Prop} {s : Shared} {it p : Addr} {n : Nat} {its : List Value} {bf : Value} {ind cyc : List Nat} {Q : Option Value → Shared → Prop},
    A.handled = none → IsPrm s.heap it p 1 n bf (ind ++ cyc) → s.heap.get? p = some (tupO its) → p ≠ it → its.length = n → n ≤ 1000 → ind.length = n → (∀ i' c', f n n ind cyc = some (i', c') → i'.length = n ∧ c'.length = n) →
    (∀ i' c' h', f n n ind cyc = some (i', c') → IsPrm h' it p 1 n (.ref s.heap.objs.size) (i' ++ c') → h'.get? s.heap.objs.size = some (tupO (pickV its i')) → (∀ b o, b ≠ it → s.heap.get? b = some o → h'.get? b = some o) → Q (some (.ref s.heap.objs.size)) { s with heap := h' }) → 
    (∀ e h', f n n ind cyc = none → StopE e h' → (∀ b o, b ≠ it → s.heap.get? b = some o → h'.get? b = some o) → E e { s with heap := h' }) →
    wpAny (model prog w) A (callSpecial? (.ref it) "__next__") Q E s
theorem prm_first {it p : Addr} {n : Nat} {its : List Value} {ind cyc : List Nat} {Q : Option Value → Shared → Prop} (hit : IsPrm s.heap it p 0 n .none (ind ++ cyc)) (hp : s.heap.get? p = some (tupO its)) (hn : its.length = n) (hn2 : n ≤ 1000) (hi : ind.length = n)
    (q1 : ∀ h', IsPrm h' it p 1 n (.ref s.heap.objs.size) (ind ++ cyc) → h'.get? s.heap.objs.size = some (tupO (pickV its ind)) → (∀ b o, b ≠ it → s.heap.get? b = some o → h'.get? b = some o) → Q (some (.ref s.heap.objs.size)) { s with heap := h' }) :
    wpAny (model prog w) A (callSpecial? (.ref it) "__next__") Q E s := by
  have hT : s.TypeIs (.ref it) "itertools.permutations" := ⟨_, hit, rfl⟩
  refine wpAny_callSpecial?_slot (name := Str.ofString "__next__") hT prm_slot_next (wpAny_call_entry prm_slot_next hT prm_entry_next ?_ (prm_args_next _))
  show wpAny _ _ (field (.ref it) 0 >>= _) _ _ s
  refine wpAny_bind (wpAny_field hit rfl (x := .ref p) rfl ?_)
  show wpAny _ _ (Builtin.Itertools.itPoolItems (.ref p) >>= _) _ _ s
  refine wpAny_bind ?_
  unfold Builtin.Itertools.itPoolItems
  refine wpAny_bind (wpAny_seqItems hp rfl ?_)
  refine wpAny_pure ?_
  show wpAny _ _ (Builtin.Itertools.itIntField (.ref it) 2 >>= _) _ _ s
  refine wpAny_bind ?_
  unfold Builtin.Itertools.itIntField
  refine wpAny_bind (wpAny_field hit rfl (x := .int (n : Int) 0) rfl ?_)
  refine wpAny_pure ?_
  show wpAny _ _ (Builtin.Itertools.itNumbersFrom (.ref it) 4 >>= _) _ _ s
  refine wpAny_bind ?_
  show wpAny _ _ (load it >>= _) _ _ s
  refine wpAny_bind (wpAny_load hit ?_)
  refine wpAny_pure ?_
  dsimp only
  rw [Int.toNat_natCast]
  have e3 : (ind ++ cyc).take n = ind := by rw [← hi]; exact List.take_left' rfl
  refine wpAny_bind (wpAny_bind (wpAny_field hit rfl (x := .int 0 0) rfl (wpAny_pure ?_)))
  simp only [prmN, List.drop_succ_cons, List.drop_zero, List.map_map, Function.comp_def, Int.toNat_natCast, List.map_id', e3]
  refine wpAny_bind (wpAny_setField hit rfl (by simp) ?_)
  rw [pick_arr]
  have hit2 : IsPrm (s.heap.update it (Obj.mapFields fun fs => fs.setIfInBounds 1 (rawInt 1))) it p 1 n .none (ind ++ cyc) := Heap.get?_update_self _ hit rfl
  refine prm_out hit2 (by rw [List.length_map, hi, sizeLine_eq]; omega) fun h' k1 k2 k3 => ?_
  have ez : (s.heap.update it (Obj.mapFields fun fs => fs.setIfInBounds 1 (rawInt 1))).objs.size = s.heap.objs.size := Heap.size_update ..
  rw [ez] at k1 k2 ⊢
  exact q1 h' k1 k2 fun b o hb e => k3 b o hb ((Heap.get?_update_other _ _ (Ne.symm hb)).trans e)
theorem prm_iter {it p : Addr} {ph : Int} {n : Nat} {bf : Value} {nums : List Nat} {Q : Value → Shared → Prop} (hit : IsPrm s.heap it p ph n bf nums) (h : Q (.ref it) s) : wpAny (model prog w) A (pyIter (.ref it)) Q E s := by
  have hT : s.TypeIs (.ref it) "itertools.permutations" := ⟨_, hit, rfl⟩
  refine wpAny_pyIter_slot hT prm_slot_iter (wpAny_call_entry prm_slot_iter hT prm_entry_iter ?_ (prm_args_iter _))
  show wpAny _ _ (ret (.ref it)) _ _ s
  exact wpAny_pure ⟨_, rfl, "itertools.permutations", _, hT, prm_slot_next.lookup, h⟩
end
end Zp
set_option Elab.async false
set_option linter.all false
set_option maxRecDepth 100000
set_option maxHeartbeats 2000000
namespace Zp
open PySem PySem.Spec PyProof.Rows
open Sem (wp)
section
variable {prog : Program} {w : World} {A : Around} {E : Value → Shared → Prop} {s : Shared} {r : Addr} {a b : Int} {t u v : Tok} {n : Nat}
abbrev prm0 (n : Nat) : List Nat := List.range n
abbrev prmC (n : Nat) : List Nat := (List.range n).map fun i => n - i
theorem prm_made (hr : IsRange s.heap r a b 1 t u v) (hsmall : Builtin.Range.small a b 1 = true) (hn : Builtin.Range.rangeSize a b 1 = n) (hlen : n ≤ 100) :
    MeetsIn prog w (Builtin.«itertools.permutations.__new__» ⟨[.type "itertools.permutations", .ref r], []⟩)
    (fun A R s0 => s0 = s ∧ A.handled = none ∧ ∀ (h' : Heap) (tk : Nat) (its : List Value) (p it : Addr), (∀ b o, s.heap.get? b = some o → h'.get? b = some o) → its.length = n → ItemsOf (fun i v => ∃ t, v = .int (a + i * 1) t) its.toArray n →
      s.heap.get? p = none → s.heap.get? it = none → p ≠ it → h'.get? p = some (tupO its) → IsPrm h' it p 0 n .none (prm0 n ++ prmC n) → R (.ok (.ret (.ref it))) { s with heap := h', toks := tk }) :=
  .of_wp fun A R s0 h => by
    obtain ⟨rfl, hh, q⟩ := h
    show wpAny _ _ (Builtin.Itertools.itClassAndRest "permutations" ⟨[.type "itertools.permutations", .ref r], []⟩ >>= _) _ _ s0
    have e1 : Builtin.Itertools.itClassAndRest "permutations" ⟨[.type "itertools.permutations", .ref r], []⟩ = pure (.type "itertools.permutations", [.ref r]) := by
      unfold Builtin.Itertools.itClassAndRest
      simp only [isType, pure_bind, Bool.not_true, Bool.false_eq_true, if_false]
      rw [show (("itertools." : String) ++ "permutations") = "itertools.permutations" by decide]
      rw [prm_sub]
      rfl
    refine wpAny_bind (wpAny_of_eq e1 ?_)
    dsimp only
    refine wpAny_bind (wpAny_of_eq (prm_bind _) ?_)
    dsimp only
    refine wpAny_bind (L2.collect_range hh hr hsmall hn (by omega) fun h' tk acc hk hi => ?_)
    have hl : acc.toList.length = n := by rw [Array.length_toList, hi.1]
    show wpAny _ _ (pure (acc.toList.length : Int) >>= _) _ _ _
    refine wpAny_bind (wpAny_pure ?_)
    rw [hl]
    refine wpAny_ite_false (decide_eq_false (by omega)) ?_
    have e2 : Builtin.Itertools.itTooMany (n : Int) = false := by
      unfold Builtin.Itertools.itTooMany
      exact decide_eq_false (by rw [show (2 : Int) ^ 20 = 1048576 from by decide]; omega)
    rw [e2]
    refine wpAny_ite_false rfl ?_
    rw [Int.toNat_natCast]
    refine wpAny_bind (wpAny_newTuple ?_ (by rw [hl, sizeLine_eq]; omega))
    refine wpAny_bind ?_
    unfold Builtin.Itertools.itNewRecord
    rw [prm_noDict]
    refine wpAny_ite_true rfl ?_
    refine wpAny_newObj_type ?_ (by
      show (List.toArray _).size ≤ sizeLine + 2
      rw [List.size_toArray, sizeLine_eq]
      simp
      omega)
    refine wpAny_pure ?_
    have np : ∀ c, h'.get? c = none → s0.heap.get? c = none := fun c e => by
      cases e3 : s0.heap.get? c with
      | none => rfl
      | some o => rw [hk c o e3] at e; cases e
    have z1 : (h'.push (tupO acc.toList)).objs.size = h'.objs.size + 1 := Heap.size_push ..
    refine ⟨_, rfl, q _ tk acc.toList h'.objs.size (h'.push (tupO acc.toList)).objs.size (fun b o e => Heap.get?_push_of_some _ (Heap.get?_push_of_some _ (hk b o e))) hl (by rw [Array.toArray_toList]; exact hi)
      (np _ (Heap.get?_none_of_le (Nat.le_refl _))) (np _ (Heap.get?_none_of_le (by rw [z1]; exact Nat.le_succ _))) (fun e => absurd (e.trans z1) (Nat.ne_of_lt (Nat.lt_succ_self _))) (Heap.get?_push_of_some _ (Heap.get?_push_size _ rfl)) ?_⟩
    refine (Heap.get?_push_size _ rfl).trans ?_
    rw [if_neg (Nat.lt_irrefl n)]
    have e5 : (List.range n).map (fun (i : Nat) => rawInt ((n : Int) - (i : Int))) = prmN (prmC n) := by
      unfold prmN prmC
      rw [List.map_map]
      refine List.map_congr_left fun i hi => ?_
      have := List.mem_range.mp hi
      show Value.int _ 0 = Value.int (((n - i : Nat)) : Int) 0
      congr 1
      omega
    rw [e5]
    have e6 : prmN (prm0 n ++ prmC n) = (List.range n).map (fun (i : Nat) => rawInt (i : Int)) ++ prmN (prmC n) := by
      unfold prmN
      rw [List.map_append]
      rfl
    unfold prmF
    rw [e6]
    rfl
theorem prm_call {Q : Value → Shared → Prop} (hh : A.handled = none) (hr : IsRange s.heap r a b 1 t u v) (hsmall : Builtin.Range.small a b 1 = true) (hn : Builtin.Range.rangeSize a b 1 = n) (hlen : n ≤ 100)
    (q : ∀ (h' : Heap) (tk : Nat) (its : List Value) (p it : Addr), (∀ b o, s.heap.get? b = some o → h'.get? b = some o) → its.length = n → ItemsOf (fun i v => ∃ t, v = .int (a + i * 1) t) its.toArray n →
      s.heap.get? p = none → s.heap.get? it = none → p ≠ it → h'.get? p = some (tupO its) → IsPrm h' it p 0 n .none (prm0 n ++ prmC n) → Q (.ref it) { s with heap := h', toks := tk }) :
    wpAny (model prog w) A (call (.type "itertools.permutations") [.ref r]) Q E s := by
  refine callType_newIn prm_called (by decide +kernel) (prm_typeCall _) (prm_newCall _) (fun obj => F.args_object_init_2 obj _) prm_entry_new (prm_made hr hsmall hn hlen) ?_
  refine ⟨rfl, hh, fun h' tk its p it k1 k2 k3 k4 k5 k6 k7 k8 => ?_⟩
  show _ ∧ _
  exact ⟨⟨_, k8, rfl⟩, q h' tk its p it k1 k2 k3 k4 k5 k6 k7 k8⟩
end
end Zp
set_option Elab.async false
set_option linter.all false
set_option maxRecDepth 100000
set_option maxHeartbeats 2000000
namespace Z
open PySem PySem.Spec PyProof.Rows L2 Zp
abbrev TupE := Addr × List Value × List V
section
variable {X : Cx} {pins : List (Addr × Obj)} {σ : St} {s : Shared} {h' : Heap} {tk : Nat} {ex : List Addr}
theorem lay_many (hex : ∀ b ∈ ex, True) : ∀ (L : List TupE) (D : Heap) (G H : Hp), L2.Inv X pins σ H { s with heap := D, toks := tk } → (∀ b o, D.get? b = some o → h'.get? b = some o) → (∀ e ∈ L, D.get? e.1 = none ∧ H e.1 = none ∧ e.1 ∉ ex) →
    (∀ b ∈ ex, D.get? b = none) → (L.map (·.1)).Nodup → (∀ e ∈ L, h'.get? e.1 = some (tupO e.2.1) ∧ Vals e.2.2 e.2.1 ∧ e.2.2.length ≤ sizeLine) → Same G H →
    ∃ (D' : Heap) (G' H' : Hp), L2.Inv X pins σ H' { s with heap := D', toks := tk } ∧ (∀ b o, D'.get? b = some o → h'.get? b = some o) ∧ (∀ b ∈ ex, D'.get? b = none) ∧ Ext G H G' H' ∧
      (∀ e ∈ L, G' e.1 = some (.frz (tupO e.2.1) (.tup e.2.2))) ∧ ∀ b, H b = none → (∀ e ∈ L, b ≠ e.1) → H' b = none
  | [], D, G, H, I, hD, _, hx, _, _, gh => ⟨D, G, H, I, hD, hx, Ext.refl gh, (fun _ z => nomatch z), fun _ z _ => z⟩
  | e :: L, D, G, H, I, hD, hn, hx, nd, ok, gh => by
    obtain ⟨D1, g1, g2⟩ := restrict h' fun b => decide (b ∉ ex ∧ b ∉ L.map (·.1))
    rw [List.map_cons, List.nodup_cons] at nd
    obtain ⟨n1, n2, n3⟩ := hn e List.mem_cons_self
    obtain ⟨o1, o2, o3⟩ := ok e List.mem_cons_self
    have up : ∀ b o, D.get? b = some o → D1.get? b = some o := fun b o q => by
      rw [g1 b (decide_eq_true ⟨(fun z => by
        rw [hx b z] at q
        cases q), (fun z => by
        obtain ⟨f, hf, rfl⟩ := List.mem_map.mp z
        rw [(hn f (List.mem_cons_of_mem _ hf)).1] at q
        cases q)⟩)]
      exact hD b o q
    have he : D1.get? e.1 = some (tupO e.2.1) := by rw [g1 e.1 (decide_eq_true ⟨n3, nd.1⟩)]; exact o1
    have I1 := I.laidN (h' := D1) (a := e.1) (o := .frz (tupO e.2.1) (.tup e.2.2)) (t' := tk) up n1 n2 ⟨he, o3, e.2.1, o2, ⟨_, he, rfl, _, rfl⟩⟩
    have out : ∀ f ∈ L, f.1 ≠ e.1 := fun f hf z => nd.1 (List.mem_map.mpr ⟨f, hf, z⟩)
    obtain ⟨D', G', H', i1, i2, i3, i4, i5, i6⟩ := lay_many hex L D1 (upd G e.1 (.frz (tupO e.2.1) (.tup e.2.2))) _ I1 (fun b o q => by
        by_cases c : b ∉ ex ∧ b ∉ L.map (·.1)
        · rw [g1 b (decide_eq_true c)] at q; exact q
        · rw [g2 b (decide_eq_false c)] at q; cases q)
      (fun f hf => by
        obtain ⟨m1, m2, m3⟩ := hn f (List.mem_cons_of_mem _ hf)
        exact ⟨g2 _ (decide_eq_false fun z => z.2 (List.mem_map.mpr ⟨f, hf, rfl⟩)), by rw [upd_ne (out f hf)]; exact m2, m3⟩)
      (fun b hb => g2 b (decide_eq_false fun z => z.1 hb)) nd.2 (fun f hf => ok f (List.mem_cons_of_mem _ hf)) (same_upd2 gh)
    refine ⟨D', G', H', i1, i2, i3, (Ext.new gh n2).trans i4, fun f hf => ?_, fun b hb hb2 => i6 b (by rw [upd_ne (hb2 e List.mem_cons_self)]; exact hb) fun f hf => hb2 f (List.mem_cons_of_mem _ hf)⟩
    rcases List.mem_cons.mp hf with rfl | hf
    · exact i4.g f.1 _ upd_same
    · exact i5 f hf
end
end Z
set_option Elab.async false
set_option linter.all false
set_option maxRecDepth 100000
set_option maxHeartbeats 2000000
namespace Zp
open PySem PySem.Spec PyProof.Rows
open Sem (wp)
/-- the tuples made so far -/
structure Tups (its : List Value) (lo : Addr) (h : Heap) (as : List Addr) (rows : List (List Nat)) : Prop where
  len : as.length = rows.length
  rise : as.Pairwise (· < ·)
  low : ∀ a ∈ as, lo ≤ a
  at_ : ∀ (j : Nat) (a : Addr) (r : List Nat), as[j]? = some a → rows[j]? = some r → h.get? a = some (tupO (pickV its r))
theorem Tups.there {its : List Value} {lo : Addr} {h : Heap} {as : List Addr} {rows : List (List Nat)} (g : Tups its lo h as rows) {a : Addr} (ha : a ∈ as) : a < h.objs.size := by
  obtain ⟨j, hj⟩ := List.mem_iff_getElem?.mp ha
  have hl : j < rows.length := by
    rw [← g.len]
    exact (List.getElem?_eq_some_iff.mp hj).1
  exact Heap.lt_size (g.at_ j a _ hj (List.getElem?_eq_getElem hl))
theorem Tups.snoc {its : List Value} {lo : Addr} {h h' : Heap} {as : List Addr} {rows : List (List Nat)} {a : Addr} {r : List Nat} (g : Tups its lo h as rows) (hl : lo ≤ a) (ha : h.objs.size ≤ a) (k : ∀ b ∈ as, ∀ o, h.get? b = some o → h'.get? b = some o)
    (e : h'.get? a = some (tupO (pickV its r))) : Tups its lo h' (as ++ [a]) (rows ++ [r]) where
  len := by rw [List.length_append, List.length_append, g.len]; rfl
  rise := by
    refine List.pairwise_append.mpr ⟨g.rise, List.pairwise_singleton _ _, fun b hb c hc => ?_⟩
    rw [List.mem_singleton.mp hc]
    exact Nat.lt_of_lt_of_le (g.there hb) ha
  low := fun b hb => by
    rcases List.mem_append.mp hb with hb | hb
    · exact g.low b hb
    · rw [List.mem_singleton.mp hb]; exact hl
  at_ := fun j b q hj hq => by
    rcases Nat.lt_trichotomy j as.length with h1 | h1 | h1
    · rw [List.getElem?_append_left h1] at hj
      rw [List.getElem?_append_left (by rw [← g.len]; exact h1)] at hq
      exact k b (List.mem_of_getElem? hj) _ (g.at_ j b q hj hq)
    · subst h1
      have hb : a = b := by simpa using hj
      have hr : r = q := by
        rw [g.len] at hq
        simpa using hq
      rw [← hb, ← hr]
      exact e
    · have hnone : (as ++ [a])[j]? = none := List.getElem?_eq_none (by rw [List.length_append, List.length_singleton]; omega)
      rw [hnone] at hj; cases hj
section
variable {prog : Program} {w : World} {A : Around} {E : Value → Shared → Prop} {s : Shared} {R : Result → Shared → Prop}
theorem pyNext_some {I : Addr} {Q : Option Value → Shared → Prop} (h : wpAny (model prog w) A (callSpecial? (.ref I) "__next__") (fun o s' => ∃ v, o = some v ∧ Q (some v) s') (fun e s' => (∃ o, s'.heap.get? (match e with | .ref a => a | _ => 0) = some o ∧ o.cls = .type "StopIteration" ∧ ∃ a, e = .ref a) ∧ Q none s') s) :
    wpAny (model prog w) A (pyNext (.ref I)) Q E s := by
  unfold pyNext
  refine wpAny_bind (wpAny_attempt (wpAny_mono h (fun o s' x => ?_) fun e s' x => ?_))
  · obtain ⟨v, rfl, q⟩ := x
    exact wpAny_pure q
  · obtain ⟨⟨o, h1, h2, a, rfl⟩, q⟩ := x
    refine wpAny_bind (wpAny_isInstance (T := "StopIteration") (b := true) ⟨o, h1, h2⟩ isSubtype_stop ?_)
    exact wpAny_pure q
abbrev lstO (acc : Array Value) (c : Nat) : Obj := { cls := .type "list", dict := none, data := .seq acc c, slots := #[] }
theorem prm_loop {f : NextF} (hf : NextOk f) {S I p : Addr} (hSI : S ≠ I) (hpI : p ≠ I) (hpS : p ≠ S) {its : List Value} {n : Nat} (hn : its.length = n) (hn2 : n ≤ 1000) (res : Value) {lo : Addr} (hloS : lo ≤ S) {h₁ : Heap} {all : List (List Nat)} (hall : all.length ≤ 100000) (hh : A.handled = none)
    (hR : ∀ h' tk acc c as, (∀ b o, b ≠ S → b ≠ I → h₁.get? b = some o → h'.get? b = some o) → h'.get? S = some (lstO acc c) → Tups its lo h' as all → S ∉ as → I ∉ as → acc.toList = as.map Value.ref → R (.ok (.ret res)) { s with heap := h', toks := tk }) :
    ∀ (k : Nat) (ind cyc : List Nat) (rest : List (List Nat)) (h : Heap) (tk c : Nat) (bf : Value) (acc : Array Value) (as : List Addr) (rows : List (List Nat)), runN f n k ind cyc = some rest → ind.length = n → IsPrm h I p 1 n bf (ind ++ cyc) → h.get? p = some (tupO its) →
      (∀ b o, b ≠ S → b ≠ I → h₁.get? b = some o → h.get? b = some o) → h.get? S = some (lstO acc c) → Tups its lo h as rows → S ∉ as → I ∉ as → acc.toList = as.map Value.ref → rows ++ rest.tail = all → lo ≤ h.objs.size →
      codeAny (model prog w) A (.builtin "list.extend.loop" ⟨[.ref S, .ref I, res], []⟩) R { s with heap := h, toks := tk } := by
  intro k
  induction k with
  | zero => intro ind cyc rest h tk c bf acc as rows hr; cases hr
  | succ k ih =>
    intro ind cyc rest h tk c bf acc as rows hr hi hst hp hkeep hS hG nS nI hacc hrow hlo
    refine codeAny_builtin F.entry_extend_loop ?_
    rw [Around.under_plainId F.plain_extend_loop _]
    show wpAny _ A.in1 (pyNext (.ref I) >>= _) _ _ _
    unfold runN at hr
    cases e : f n n ind cyc with
    | none =>
      rw [e] at hr
      obtain rfl : [ind] = rest := by injection hr
      refine wpAny_bind (pyNext_some (hf (A := A.in1) (s := { s with heap := h, toks := tk }) hh hst hp hpI hn hn2 hi (fun i' c' z => by rw [e] at z; cases z) (fun i' c' h' z => by rw [e] at z; cases z) fun e' h' _ st hk => ?_))
      obtain ⟨a, o, vs, rfl, k1, k2, _⟩ := st
      refine ⟨⟨o, k1, k2, a, rfl⟩, ?_⟩
      refine wpAny_pure ?_
      have ha : rows = all := by simpa using hrow
      rw [← ha] at hR
      refine hR h' tk acc c as (fun b o h1 h2 eb => hk b o h2 (hkeep b o h1 h2 eb)) (hk S _ hSI hS) ⟨hG.len, hG.rise, hG.low, fun j b r hj hq => hk b _ (fun z => nI (by rw [← z]; exact List.mem_of_getElem? hj)) (hG.at_ j b r hj hq)⟩ nS nI hacc
    | some ic =>
      obtain ⟨i', c'⟩ := ic
      rw [e] at hr
      dsimp only at hr
      split at hr
      · rename_i hl
        obtain ⟨rest', er, rfl⟩ := Option.map_eq_some_iff.mp hr
        have nz : rest' ≠ [] := by
          cases k with
          | zero => cases er
          | succ k =>
            unfold runN at er
            split at er
            · injection er with er; rw [← er]; exact List.cons_ne_nil _ _
            · split at er
              · obtain ⟨t, _, rfl⟩ := Option.map_eq_some_iff.mp er; exact List.cons_ne_nil _ _
              · cases er
        have hd : ∃ t, rest' = i' :: t := by
          cases k with
          | zero => cases er
          | succ k =>
            unfold runN at er
            split at er
            · injection er with er; exact ⟨_, er.symm⟩
            · split at er
              · obtain ⟨t, _, rfl⟩ := Option.map_eq_some_iff.mp er; exact ⟨_, rfl⟩
              · cases er
        obtain ⟨t, rfl⟩ := hd
        have hsz : acc.size ≤ 100000 := by
          rw [← Array.length_toList, hacc, List.length_map, hG.len]
          have := congrArg List.length hrow
          rw [List.length_append] at this
          omega
        refine wpAny_bind (pyNext_some (hf (A := A.in1) (s := { s with heap := h, toks := tk }) hh hst hp hpI hn hn2 hi (fun i1 c1 z => by rw [e] at z; cases z; exact hl) (fun i1 c1 h' z hit' ht hk => ?_) (fun e' h' z => by rw [e] at z; cases z)))
        rw [e] at z
        cases z
        dsimp only at hit' ht hk ⊢
        refine ⟨_, rfl, ?_⟩
        have hS' := hk S _ hSI hS
        have hIs : I < h.objs.size := Heap.lt_size hst
        have hSl : S < h.objs.size := Heap.lt_size hS
        have up : ∀ b o, b ≠ S → h'.get? b = some o → (h'.update S (Obj.mapSeq (·.push (Value.ref h.objs.size)))).get? b = some o := fun b o hb e => (Heap.get?_update_other _ _ (Ne.symm hb)).trans e
        have hlt : h.objs.size < h'.objs.size := Heap.lt_size ht
        show wpAny _ A.in1 (updateSeq S (·.push (Value.ref h.objs.size)) >>= _) _ _ _
        refine wpAny_bind ?_
        refine wpAny_updateSeq hS' rfl (wpAny_pure ⟨plainId_quiet F.plain_extend_loop _, ih i' c' _ _ tk _ (.ref h.objs.size) (acc.push (Value.ref h.objs.size)) (as ++ [h.objs.size]) (rows ++ [i']) er hl.1 (up I _ (Ne.symm hSI) hit') (up p _ hpS (hk p _ hpI hp))
          (fun b o h1 h2 eb => up b o h1 (hk b o h2 (hkeep b o h1 h2 eb))) (Heap.get?_update_self _ hS' rfl) (hG.snoc hlo (Nat.le_refl _) (fun b hb o eb => up b o (fun z => nS (z ▸ hb)) (hk b o (fun z => nI (z ▸ hb)) eb)) (up _ _ (Nat.ne_of_gt hSl) ht))
          (fun z => ?_) (fun z => ?_) (by rw [Array.toList_push, hacc, List.map_append]; rfl) (by rw [← hrow]; simp) (by rw [Heap.size_update]; exact Nat.le_trans hlo (Nat.le_of_lt hlt))⟩) (by rw [sizeLine_eq]; omega) (by show (acc.push _).size ≤ sizeLine + 1; rw [Array.size_push, sizeLine_eq]; omega)
        · rcases List.mem_append.mp z with z | z
          · exact nS z
          · exact absurd (List.mem_singleton.mp z) (Nat.ne_of_lt hSl)
        · rcases List.mem_append.mp z with z | z
          · exact nI z
          · exact absurd (List.mem_singleton.mp z) (Nat.ne_of_lt hIs)
      · cases hr
end
end Zp
set_option Elab.async false
set_option linter.all false
set_option maxRecDepth 100000
set_option maxHeartbeats 2000000
namespace Zp
open PySem PySem.Spec PyProof.Rows
open Sem (wp)
abbrev prmAll (n : Nat) : List (List Nat) := pmL n (List.range n)
section
variable {prog : Program} {w : World} {A : Around} {E : Value → Shared → Prop} {s : Shared} {R : Result → Shared → Prop} {I p : Addr} {its : List Value} {n : Nat}
end
end Zp
set_option Elab.async false
set_option linter.all false
set_option maxRecDepth 100000
set_option autoImplicit false
set_option maxHeartbeats 1000000
namespace Z
open PySem PySem.Spec PyProof.Rows L2 Zp
def prmR (a : Int) (row : List Nat) : List Int := row.map fun (k : Nat) => a + (k : Int)
def prmD (a : Int) (n : Nat) : List D := (prmAll n).map fun row => .tuple ((prmR a row).map PyData.int)
theorem prm_vals {a : Int} {its : List Value} {n : Nat} (h : ItemsOf (fun i v => ∃ t, v = .int (a + i * 1) t) its.toArray n) (hl : its.length = n) : ∀ row : List Nat, (∀ k ∈ row, k < n) → Vals ((prmR a row).map V.int) (pickV its row)
  | [], _ => .nil
  | k :: row, hk => by
    have hlt := hk k List.mem_cons_self
    have e : its[k]? = some its[k] := List.getElem?_eq_getElem (by omega)
    obtain ⟨t, et⟩ := h.2 k its[k] (by rw [List.getElem?_toArray]; exact e)
    refine .cons ?_ (prm_vals h hl row fun j hj => hk j (List.mem_cons_of_mem _ hj))
    refine ⟨t, ?_⟩
    show its.getD k Value.none = Value.int (a + (k : Int)) t
    rw [List.getD_eq_getElem?_getD, e, Option.getD_some, et, Int.mul_one]
theorem vals_refs : ∀ as : List Addr, Vals (as.map V.ref) (as.map Value.ref)
  | [] => .nil
  | a :: as => .cons rfl (vals_refs as)
section
variable {X : Cx} {e : Expr} {p pos p2 pos2 : Pos}
end
end Z

set_option Elab.async false
set_option linter.all false
set_option maxRecDepth 100000
set_option autoImplicit false
set_option maxHeartbeats 1000000
namespace Z
open PySem PySem.Spec PyProof.Rows L2
section
variable {X : Cx}
end
end Z

set_option Elab.async false
set_option linter.all false
set_option maxRecDepth 100000
set_option autoImplicit false
set_option maxHeartbeats 1000000
namespace Z
open PySem PySem.Spec PyProof.Rows L2
end Z

set_option Elab.async false
set_option linter.all false
set_option maxRecDepth 100000
set_option autoImplicit false
set_option maxHeartbeats 1000000
namespace Z
open PySem PySem.Spec PyProof.Rows L2
end Z

set_option Elab.async false
set_option linter.all false
set_option maxRecDepth 100000
set_option autoImplicit false
set_option maxHeartbeats 1000000
namespace Z
open PySem PySem.Spec PyProof.Rows L2
section
variable {prog : Program} {w : World} {A : Around} {E : Value → Shared → Prop} {s : Shared}
end
section
variable {X : Cx} {e st : Expr} {p2 pos : Pos} {te ts : TE}
end
end Z

set_option Elab.async false
set_option linter.all false
set_option maxRecDepth 100000
set_option autoImplicit false
set_option maxHeartbeats 1000000
namespace Z
open PySem PySem.Spec PyProof.Rows L2
structure ExC (K : PySem.W.Frag) (mg : Str → Option Value) (c : Str) (C fI : Addr) : Prop where
  gC : mg c = some (.ref C)
  T : OexC K C
  iC : PySem.W.findIn K (.ref C) "__init__" = some (some (.ref fI))
  noN : PySem.W.findIn K (.ref C) "value" = some none
def spInit (K : PySem.W.Frag) : Sp := fun vs H Q E => ∃ (a C : Addr) (v : V), vs = [.ref a, v] ∧ OexC K C ∧ PySem.W.findIn K (.ref C) "value" = some none ∧ H a = some (exo a C none) ∧
  ∀ dx, H dx = none → dx ≠ a → Q .non (upd (upd H dx (exd dx [(("value" : Str), v)])) a (exo a C (some dx)))
/-- what is said of __init__ -/
structure InitP (P : Program) (w : World) (K : PySem.W.Frag) (mg : Str → Option Value) (base : Heap) (fI : Addr) (k : Nat) : Prop where
  ex : ∃ fd, PySem.W.typeIn K (.ref fI) = some (.type "function") ∧ FnOk P w K mg base (L2.CX P w) k fI fd ["self", "value"] (spInit K) ∧ Binds K fd ["self", "value"] []
section
variable {X : Cx} {c : Str} {C fI : Addr} {k : Nat} {arg : Expr} {m : M D} {p pos pos2 : Pos}
end
end Z

set_option Elab.async false
set_option linter.all false
set_option maxRecDepth 100000
set_option autoImplicit false
set_option maxHeartbeats 2000000
namespace Z
open PySem PySem.Spec PyProof.Rows L2
abbrev Suite : Type := Addr → Value → Option Addr → TS
/-- behind a suite the name is gone -/
def gone (i : Nat) (D : Ends) : Ends :=
  { nx := fun σ H => D.nx (σ.set i none) H, rt := D.rt, bk := fun σ H => D.bk (σ.set i none) H, ct := fun σ H => D.ct (σ.set i none) H }
inductive HdA (X : Cx) (n : Str) : List ExceptHandler → List (Value × Suite) → Prop
  | nil : HdA X n [] []
  | cons {x : Str} {c : Value} {ts : Suite} {b0 : Stmt} {bs : List Stmt} {p1 p2 : Pos} {hs : List ExceptHandler} {l : List (Value × Suite)} (nm : Names X x c)
      (su : ∀ (a : Addr) (oe : Obj) (cls : Value) (d : Option Addr) (pn : List (Addr × Obj)), Zc cls d oe → (∃ vs, oe.data = .fields vs) → PSs (X.suite a ((a, oe) :: pn)) (b0 :: bs) (ts a cls d)) (more : HdA X n hs l) :
      HdA X n (.ExceptHandler (some (.Name x p1)) (some n) (b0 :: bs) p2 :: hs) ((c, ts) :: l)
section
variable {X : Cx} {n : Str} {i : Nat} {body : List Stmt} {h0 : ExceptHandler} {hs : List ExceptHandler} {l : List (Value × Suite)} {pos : Pos} {tb : WX → TS} {Wo : WX}
end
end Z

set_option Elab.async false
set_option linter.all false
set_option maxRecDepth 100000
set_option autoImplicit false
set_option maxHeartbeats 2000000
namespace Z
open PySem PySem.Spec PyProof.Rows L2
abbrev wNo : WX := fun _ _ _ _ => False
/-- the caught exception's value is x -/
def Kn (K : PySem.W.Frag) (i : Nat) (a : Addr) (cls : Value) (d : Option Addr) (x : D) (G : Hp) (σ : St) (H : Hp) : Prop :=
  ∃ (C dd : Addr) (v : V), cls = .ref C ∧ XfC K C ∧ PySem.W.findIn K (.ref C) "value" = some none ∧ d = some dd ∧ H dd = some (.xd [(("value" : Str), v)]) ∧ Dq K G v x ∧ σ[i]? = some (some (.ref a))
def rdx {α β : Type} (X : Cx) (i : Nat) (a : Addr) (cls : Value) (d : Option Addr) (ρ : Rho α β) (m : D → M α) : St → Hp → (β → Hp → Prop) → Prop := fun σ H Q =>
  ∃ x F G Mu Γ, Rel X.K F G Mu Γ σ H ∧ Kn X.K i a cls d x G σ H ∧ zpost X wNo σ ρ F G Mu Q (m x Γ)
def stx (X : Cx) (i : Nat) (h : D → M Fl) : Suite := fun a cls d D σ H =>
  ∃ x F G Mu Γ, Rel X.K F G Mu Γ σ H ∧ Kn X.K i a cls d x G σ H ∧ spost X wNo F G Mu D (h x Γ)
def SX (X : Cx) (i : Nat) (s : Stmt) (h : D → M Fl) : Prop := ∀ (a : Addr) (oe : Obj) (cls : Value) (d : Option Addr) (pn : List (Addr × Obj)), Zc cls d oe → (∃ vs, oe.data = .fields vs) → PS (X.suite a ((a, oe) :: pn)) s (stx X i h a cls d)
def SXs (X : Cx) (i : Nat) (ss : List Stmt) (h : D → M Fl) : Prop := ∀ (a : Addr) (oe : Obj) (cls : Value) (d : Option Addr) (pn : List (Addr × Obj)), Zc cls d oe → (∃ vs, oe.data = .fields vs) → PSs (X.suite a ((a, oe) :: pn)) ss (stx X i h a cls d)
section
variable {X : Cx} {i : Nat} {e : Expr} {es : List Expr} {pos p : Pos} {n : Str}
theorem rdx.imp {α β : Type} {ρ : Rho α β} {a : Addr} {cls : Value} {d : Option Addr} {σ : St} {H : Hp} {Q Q' : β → Hp → Prop} {m : D → M α} (p : rdx X i a cls d ρ m σ H Q) (h : ∀ v H1, Q v H1 → Q' v H1) : rdx X i a cls d ρ m σ H Q' := by
  obtain ⟨x, F, G, Mu, Γ, R, kn, q⟩ := p
  refine ⟨x, F, G, Mu, Γ, R, kn, ?_⟩
  cases e : m x Γ with
  | bad => rw [e] at q; exact q
  | ok r Γ1 => rw [e] at q; exact fun v H1 G1 h1 R1 h2 => h _ _ (q v H1 G1 h1 R1 h2)
  | ex c y Γ1 => rw [e] at q; exact q
variable {s : Stmt} {ss : List Stmt}
/-- what is said of a clause's class: of each class that is told -/
def ExT (X : Cx) (t : Str → Option Bool) (v : Value) : Prop := ∀ (c : Str) (C : Addr) (b : Bool), X.mg c = some (.ref C) → t c = some b → PySem.W.exmOne X.K (.ref C) v = some b ∧ (b = true → XfC X.K C ∧ PySem.W.findIn X.K (.ref C) "value" = some none)
inductive HdM (X : Cx) (n : Str) (i : Nat) : List ExceptHandler → List ((Str → Option Bool) × (D → M Fl)) → List (Value × Suite) → Prop
  | nil : HdM X n i [] [] []
  | cons {x : Str} {v : Value} {t : Str → Option Bool} {h : D → M Fl} {b0 : Stmt} {bs : List Stmt} {p1 p2 : Pos} {hs : List ExceptHandler} {l : List ((Str → Option Bool) × (D → M Fl))} {k : List (Value × Suite)} (nm : Names X x v) (et : ExT X t v)
      (su : SXs X i (b0 :: bs) h) (more : HdM X n i hs l k) : HdM X n i (.ExceptHandler (some (.Name x p1)) (some n) (b0 :: bs) p2 :: hs) ((t, h) :: l) ((v, stx X i h) :: k)
end
end Z

set_option Elab.async false
set_option linter.all false
set_option maxRecDepth 100000
set_option autoImplicit false
set_option maxHeartbeats 2000000
namespace Z
open PySem PySem.Spec PyProof.Rows L2
/-- what is said of an error's class -/
structure ExX (K : PySem.W.Frag) (mg : Str → Option Value) (c : Str) (st : Stmt) : Prop where
  ex : ∃ C fI fd qual, ExC K mg c C fI ∧ XfC K C ∧ PySem.W.exmOne K (.ref C) (.ref C) = some true ∧ PySem.W.typeIn K (.ref fI) = some (.type "function") ∧ Fun K "__init__" qual st fI fd
  vV : PySem.W.findCls K (.type "ValueError") (.type "type") "__init__" = some (.val (.builtin "ValueError.__init__"))
end Z

set_option Elab.async false
set_option linter.all false
set_option maxRecDepth 100000
set_option autoImplicit false
set_option maxHeartbeats 1000000
namespace Z
open PySem PySem.Spec PyProof.Rows L2
theorem irange_getD {m j : Nat} (h : j < m) : (irange 1 m).getD j 0 = 1 + (j : Int) := by
  rw [List.getD_eq_getElem?_getD, irange_get _ _ _ h]
  rfl
mutual
def sz : D → Nat
  | .tuple xs => 1 + szs xs
  | .list xs => 1 + szs xs
  | .none => 1
  | .bool _ => 1
  | .int _ => 1
  | .str _ => 1
  | .dict _ => 1
def szs : List D → Nat
  | [] => 0
  | x :: xs => sz x + szs xs
end
end Z

set_option Elab.async false
set_option linter.all false
set_option maxRecDepth 100000
set_option autoImplicit false
set_option maxHeartbeats 2000000
namespace Z
open PySem PySem.Spec PyProof.Rows L2
end Z

set_option Elab.async false
set_option linter.all false
set_option maxRecDepth 100000
set_option autoImplicit false
set_option maxHeartbeats 2000000
namespace Z
open PySem PySem.Spec PyProof.Rows L2
section
variable {X : Cx} {i j : Nat} {x name : Str} {id : String} {f : List D → List D → Option (List D × D)} {e : Expr} {es : List Expr} {p apos cpos pos : Pos}
end
end Z

set_option Elab.async false
set_option linter.all false
set_option maxRecDepth 100000
set_option autoImplicit false
set_option maxHeartbeats 2000000
namespace Z
open PySem PySem.Spec PyProof.Rows L2
theorem alike_ints (ns : List Int) : PySem.W.AlikeAll (ns.map PyData.int) := by
  refine ⟨fun x hx y hy => ?_, fun x hx => ?_⟩
  · obtain ⟨i, _, rfl⟩ := List.mem_map.mp hx
    obtain ⟨j, _, rfl⟩ := List.mem_map.mp hy
    rfl
  · obtain ⟨i, _, rfl⟩ := List.mem_map.mp hx
    intro h
    cases h
section
variable {X : Cx} {x : Str} {p pos kpos cpos : Pos} {e : Expr} {es : List Expr}
end
end Z

set_option Elab.async false
set_option linter.all false
set_option maxRecDepth 100000
set_option autoImplicit false
set_option maxHeartbeats 1000000
namespace Z
open PySem PySem.Spec PyProof.Rows L2
structure FnG (P : Program) (w : World) (K : PySem.W.Frag) (mg : Str → Option Value) (base : Heap) (k : Nat) (f : Addr) (fd : FuncData) (ps : List Str) (sp : Sp) : Prop where
  len : ∀ vs H Q E, sp vs H Q E → vs.length = ps.length
  run : ∀ (A : Around) (outer : List Env) (s : Shared) (H : Hp) (args : Args) (us : List Value) (vs : List V) (Q : VK) (E : XK), A.guards = some [] → Room k A → Env0 P w K mg base A outer s H → BindsTo s fd args (ps.zip us) → Vals vs us → sp vs H Q E →
    codeAny (model P w) A (.call (.ref f) args) (CR (L2.CX P w) outer P w H s Q E) s
theorem FnG.mono {P : Program} {w : World} {K : PySem.W.Frag} {mg : Str → Option Value} {base : Heap} {j k : Nat} {f : Addr} {fd : FuncData} {ps : List Str} {sp : Sp} (F : FnG P w K mg base j f fd ps sp) (h : j ≤ k) : FnG P w K mg base k f fd ps sp :=
  ⟨F.len, fun A outer s H args us vs Q E hg hr => F.run A outer s H args us vs Q E hg (hr.mono h)⟩
section
variable {P : Program} {w : World} {K : PySem.W.Frag} {mg : Str → Option Value} {base : Heap}
structure FnPG (P : Program) (w : World) (K : PySem.W.Frag) (mg : Str → Option Value) (base : Heap) (x : Str) (st : Stmt) (k : Nat) (ps : List Str) (ks : List Pk) (φ : List D → Out) : Prop where
  ex : ∃ f fd qual, Fun K x qual st f fd ∧ mg x = some (.ref f) ∧ FnG P w K mg base k f fd ps (spF K mg ks φ) ∧ Binds K fd ps []
theorem FnPG.mono {x : Str} {st : Stmt} {j k : Nat} {ps : List Str} {ks : List Pk} {φ : List D → Out} (F : FnPG P w K mg base x st j ps ks φ) (h : j ≤ k) : FnPG P w K mg base x st k ps ks φ := by
  obtain ⟨f, fd, qual, a, b, c, d⟩ := F.ex
  exact ⟨f, fd, qual, a, b, c.mono h, d⟩
end
section
variable {X : Cx} {e : Expr} {es : List Expr} {p pos : Pos} {x : Str} {st : Stmt} {k : Nat} {ps : List Str} {ks : List Pk} {φ : List D → Out} {f : Addr} {fd : FuncData} {sp : Sp} {E : St → XK} {t : TA}
end
end Z

set_option Elab.async false
set_option linter.all false
set_option maxRecDepth 100000
set_option autoImplicit false
set_option maxHeartbeats 1000000
namespace Z
open PySem PySem.Spec PyProof.Rows L2
section
variable {P : Program} {w : World} {K : PySem.W.Frag} {mg mb : Str → Option Value} {k : Nat} {fa a : Addr} {fd : FuncData} {x : Str} {s : Shared} {vs : List Value} {ns : List Int}
end
end Z

set_option Elab.async false
set_option linter.all false
set_option maxRecDepth 100000
set_option autoImplicit false
set_option maxHeartbeats 1000000
namespace Z
open PySem PySem.Spec PyProof.Rows L2
section
variable {X : Cx}
end
end Z

set_option Elab.async false
set_option linter.all false
set_option maxRecDepth 100000
set_option autoImplicit false
set_option maxHeartbeats 1000000
namespace Z
open PySem PySem.Spec PyProof.Rows L2
section
variable {X : Cx} {e : Expr} {p pos cp : Pos} {x : Str} {st : Stmt} {k : Nat} {ps : List Str} {φ : List D → Out} {c : Int}
end
end Z

set_option Elab.async false
set_option linter.all false
set_option maxRecDepth 100000
set_option autoImplicit false
set_option maxHeartbeats 2000000
namespace Z
open PySem PySem.Spec PyProof.Rows L2
section
variable {X : Cx} {n : Str} {i : Nat} {pins : List (Addr × Obj)} {σ : St} {H : Hp} {s : Shared}
end
end Z

set_option Elab.async false
set_option linter.all false
set_option maxRecDepth 100000
set_option autoImplicit false
set_option maxHeartbeats 2000000
namespace Z
open PySem PySem.Spec PyProof.Rows L2
section
variable {X : Cx} {n m x : Str} {i j : Nat}
end
end Z

set_option Elab.async false
set_option linter.all false
set_option maxRecDepth 100000
set_option autoImplicit false
set_option maxHeartbeats 2000000
namespace Z
open PySem PySem.Spec PyProof.Rows L2
section
variable {X : Cx} {e : Expr} {pos : Pos} {pins : List (Addr × Obj)} {σ : St} {H G : Hp} {s : Shared}
end
end Z

set_option Elab.async false
set_option linter.all false
set_option maxRecDepth 100000
set_option autoImplicit false
set_option maxHeartbeats 4000000
namespace Z
open PySem PySem.Spec PySem.Calls PyProof.Rows L2
section
variable {K : PySem.W.Frag} {x D0 : Addr} {ox od : Obj}
end
end Z

set_option Elab.async false
set_option linter.all false
set_option maxRecDepth 100000
set_option autoImplicit false
set_option maxHeartbeats 2000000
namespace Z
open PySem PySem.Spec PyProof.Rows L2
section
variable {X : Cx}
variable {pos p p2 : Pos} {a : Expr}
end
end Z

set_option Elab.async false
set_option linter.all false
set_option maxRecDepth 100000
set_option autoImplicit false
set_option maxHeartbeats 4000000
namespace Zk
open PySem PySem.HandSPX PySem.Calls PyProof.Rows
open Builtin Builtin.ObjectAttr
section
variable {prog : Program} {w : World} {A : Around} {E : Value → Shared → Prop} {R : Result → Shared → Prop} {h : Heap} {g : Array GenState} {d : Drawn} {t : Nat} {os : OsState}
variable {nm q : Str} {C N : Addr} {bs bm bmB : List Value} {hdct : Bool} {sn : List Str} {sub : List Value} {ab : Bool} {col : Option Bool} {dd : Option Addr} {k0 k1 k2 k3 k5 : Option Value} {B newId initId : String} {kw : List (Str × Value)}
end
end Zk

set_option Elab.async false
set_option linter.all false
set_option maxRecDepth 100000
set_option autoImplicit false
set_option maxHeartbeats 2000000
namespace Z
open PySem PySem.Spec PyProof.Rows L2
section
variable {K : PySem.W.Frag} {mg : Str → Option Value} {cv : Value} {c0 : Str} {C0 C : Addr} {b0 : Bool} {l : List (Str × Bool)} {ls : List Str}
theorem kit_ty {T : String} {b : Bool} (s : PySem.W.subIn K (.ref C0) (.type T) = some b) (hT : PySem.W.kitMeta T = true := by decide +kernel) : PySem.W.kitOne K (.ref C0) (.type T) = some b := by
  unfold PySem.W.kitOne
  split
  · rename_i h
    cases beq_iff_eq.mp h
  · show (if PySem.W.kitMeta T = true then PySem.W.subIn K (.ref C0) (.type T) else none) = some b
    rw [if_pos hT]
    exact s
end
section
variable {X : Cx} {e : Expr} {pos : Pos}
end
end Z

set_option Elab.async false
set_option linter.all false
set_option maxRecDepth 100000
set_option autoImplicit false
set_option maxHeartbeats 2000000
namespace Z
open PySem PySem.Spec PyProof.Rows L2
section
variable {X : Cx} {e : Expr} {es : List Expr} {kws : List Keyword} {p pos : Pos} {tk : TA}
/-- what is said of __init__, by place and by name -/
structure InitK (P : Program) (w : World) (K : PySem.W.Frag) (mg : Str → Option Value) (base : Heap) (fI : Addr) (k : Nat) : Prop where
  ex : ∃ fd, PySem.W.typeIn K (.ref fI) = some (.type "function") ∧ FnOk P w K mg base (L2.CX P w) k fI fd ["self", "value"] (spInit K) ∧ ∀ (s : Shared) (a w : Value), BindsTo s fd ⟨[a], [("value", w)]⟩ [("self", a), ("value", w)]
variable {c : Str} {C fI : Addr} {k : Nat} {arg : Expr} {m : M D} {pos2 : Pos} {kp : Pos}
end
end Z

set_option Elab.async false
set_option linter.all false
set_option maxRecDepth 100000
set_option autoImplicit false
set_option maxHeartbeats 2000000
namespace Z
open PySem PySem.Spec PyProof.Rows L2
section
variable {X : Cx} {W : WX} {σ : St} {H : Hp} {Q : VK} {m n : M Rs}
end
section
variable {X : Cx} {pins : List (Addr × Obj)} {σ : St} {H : Hp} {s : Shared} {Q : VK}
end
section
variable {X : Cx} {o e : Expr} {apos pos : Pos} {m n : M Rs}
end
section
variable {X : Cx}
end
section
variable {X : Cx} {e : Expr} {pos p2 : Pos} {lo hi : Option Expr}
end
end Z

set_option Elab.async false
set_option linter.all false
set_option maxRecDepth 100000
set_option autoImplicit false
set_option maxHeartbeats 2000000
namespace Z
open PySem PySem.Spec PyProof.Rows L2
structure FnV (P : Program) (w : World) (K : PySem.W.Frag) (mg : Str → Option Value) (base : Heap) (c : Str) (k : Nat) (ks : List Pk) (φ : List D → Out) : Prop where
  ex : ∃ (f : Addr) (fd : FuncData) (x qual : Str) (st : Stmt) (ps : List Str), Fun K x qual st f fd ∧ PySem.W.nsIn K mainGlobals c = some (some (.ref f)) ∧ FnOk P w K mg base (L2.CX P w) k f fd ps (spF K mg ks φ) ∧ Binds K fd ps []
section
variable {P : Program} {w : World} {K : PySem.W.Frag} {mg : Str → Option Value} {base : Heap} {k : Nat} {ks : List Pk} {φ : List D → Out} {c : Str} {tab : List (Str × (List D → Out))}
end
section
variable {X : Cx} {e : Expr} {es : List Expr} {p pos : Pos} {x : Str} {i k : Nat} {ks : List Pk} {tab : List (Str × (List D → Out))}
end
end Z

set_option Elab.async false
set_option linter.all false
set_option maxRecDepth 100000
set_option autoImplicit false
set_option maxHeartbeats 2000000
namespace Z
open PySem PySem.Spec PyProof.Rows L2
inductive PsAll (K : PySem.W.Frag) (G : Hp) : List (V × V) → List (Str × D) → Prop
  | nil : PsAll K G [] []
  | cons {k : Str} {v : V} {x : D} {vs : List (V × V)} {ys : List (Str × D)} : Dq K G v x → PsAll K G vs ys → PsAll K G ((.str k, v) :: vs) ((k, x) :: ys)
inductive DPPs (X : Cx) : List (Option Expr) → List Expr → List (Str × M D) → Prop
  | nil : DPPs X [] [] []
  | cons {k : Str} {j : Nat} {p : Pos} {v : Expr} {m : M D} {ks : List (Option Expr)} {vs : List Expr} {r : List (Str × M D)} : DP X v m → DPPs X ks vs r → DPPs X (some (.Constant (.str k) j p) :: ks) (v :: vs) ((k, m) :: r)
section
variable {X : Cx} {pos : Pos} {ks : List (Option Expr)} {vs : List Expr} {ps : List (Str × M D)}
theorem DPPs.some (h : DPPs X ks vs ps) : ks.all (·.isSome) = true ∧ ks.length = vs.length ∧ ks.length = ps.length := by
  induction h with
  | nil => exact ⟨rfl, rfl, rfl⟩
  | cons a b ih => exact ⟨by rw [List.all_cons, ih.1]; rfl, by rw [List.length_cons, List.length_cons, ih.2.1], by rw [List.length_cons, List.length_cons, ih.2.2]⟩
end
end Z

set_option Elab.async false
set_option linter.all false
set_option maxRecDepth 100000
set_option autoImplicit false
set_option maxHeartbeats 2000000
namespace Z
open PySem PySem.Spec PyProof.Rows L2
section
variable {X : Cx} {kws : List Keyword} {e : Expr} {es : List Expr} {p pos : Pos} {y : Str} {st : Stmt} {k : Nat} {ps : List Str} {ks : List Pk} {φ : List D → Out}
end
end Z

set_option Elab.async false
set_option linter.all false
set_option maxRecDepth 100000
set_option autoImplicit false
set_option maxHeartbeats 2000000
namespace Z
open PySem PySem.Spec PyProof.Rows L2 SX
theorem okS {a : List Nat} (h : ∀ c ∈ a, c < 1114112) : PyData.strOk (S a) = true := by
  unfold PyData.strOk
  show (a.toArray).all _ = true
  rw [List.all_toArray]
  exact List.all_eq_true.mpr fun c hc => decide_eq_true (h c hc)
end Z

set_option Elab.async false
set_option linter.all false
set_option maxRecDepth 100000
set_option autoImplicit false
set_option maxHeartbeats 2000000
namespace Z
open PySem PySem.Spec PyProof.Rows L2 SX
end Z

set_option Elab.async false
set_option linter.all false
set_option maxRecDepth 100000
set_option autoImplicit false
set_option maxHeartbeats 1000000
namespace Z
open PySem PySem.Spec PyProof.Rows L2
section
variable {X : Cx} {o e : Expr} {apos cpos : Pos}
end
end Z

set_option Elab.async false
set_option linter.all false
set_option maxRecDepth 100000
set_option autoImplicit false
set_option maxHeartbeats 1000000
namespace Z
open PySem PySem.Spec PyProof.Rows L2
section
variable {K : PySem.W.Frag} {F : Fr} {G H H' G' : Hp} {Mu : Option Addr} {Γ : En} {σ : St}
end
section
variable {X : Cx} {e : Expr} {i : Nat} {α β : Type} {ρ : Rho α β}
end
end Z

set_option Elab.async false
set_option linter.all false
set_option maxRecDepth 100000
set_option autoImplicit false
set_option maxHeartbeats 4000000
namespace Z
open PySem PySem.Spec PyProof.Rows L2
section
variable {X : Cx}
theorem dk_set {pins : List (Addr × Obj)} {σ : L2.St} {H G : Hp} {s : Shared} {E : Value → Shared → Prop} {D a : Addr} {es : List (List Int × Addr × V)} {ds : List (List Int × PyData)} {k : List Int} {v : V} {u r : Value} {Q : Unit → Shared → Prop}
    (hu : X.A.units + 64 < cLine) (I : L2.Inv X pins σ H s) (hl : H D = some (DkO D es)) (hd : DkAll X.K G es ds) (gh : Same G H) (ht : TupN X.K G a (k.map V.int)) (hz : es.length < sizeLine) (ri : RelV (.ref a) u) (rv : RelV v r)
    (q : ∀ now, L2.Inv X pins σ (upd H D (DkO D (dkPutE es k a v))) now → Q () now) : wpAny (model X.prog X.w) X.A (dictSet D u r) Q E s := by
  cases (show u = Value.ref a from ri)
  obtain ⟨_, y, xs, p, dd⟩ := dk_full I hl gh hd
  have hx : xs.length ≤ sizeLine := by rw [← Paired.length p]; exact Nat.le_of_lt hz
  refine wpAny_dictSet_heap (hsz := hx) (knd := tupleKind (intKind X.prog X.w)) (show X.A.units < cLine by omega) (I.isT (ht.mono gh).sq) dd fun h' dd' hs => q _ ?_
  obtain ⟨o', es', ep, hq, h2, h3, h4, _, h5⟩ := dd'
  refine d_write I (by rw [hl]; exact True.intro) hs ⟨o', hq⟩ (dk_obj ⟨?_, y, _, dkp_put rv p, o', es', ep, hq, h2, h3, h4, h5⟩)
  exact Nat.le_trans (dkPutE_len es k a v) hz
/-- {key: value for tg in iter if ..}: D the new dict, its keys tuples of ints -/
def tKn (wi : TI) (g : TG) (tt : TT) (add : Addr → St → Hp → (Hp → Prop) → Prop) (vs : List Nat) : TE := fun σ H Q => wi σ H fun J H1 => ∀ D, H1 D = none → ∃ W : Nat → Nat → Hp → Prop, (∃ m, W 0 m (upd H1 D (DkO D []))) ∧ ∀ i m H, W i m H →
  (J.stop i H ∧ Q (.ref D) H) ∨ (J.go i H ∧ ∃ Nx : Hp → Prop, (∀ H', Nx H' → ∃ m', m' < m ∧ W (i + 1) m' H') ∧
    ∀ x H', J.yld i H x H' → g x (wipe σ vs) H' fun σ2 H2 => wipe σ2 vs = wipe σ vs ∧ tt σ2 H2 fun b H3 => if b = true then add D σ2 H3 Nx else Nx H3)
/-- key and value are put in -/
def putKV (K : PySem.W.Frag) (tk tv : TE) (D : Addr) (σ : St) (H : Hp) (Nx : Hp → Prop) : Prop := tk σ H fun y H' => tv σ H' fun z H2 => ∃ (es : List (List Int × Addr × V)) (ds : List (List Int × PyData)) (k : List Int) (a : Addr) (G : Hp),
  y = .ref a ∧ H2 D = some (DkO D es) ∧ DkAll K G es ds ∧ Same G H2 ∧ TupN K G a (k.map V.int) ∧ es.length < sizeLine ∧ Nx (upd H2 D (DkO D (dkPutE es k a z)))
theorem kn_turns {Y : Cx} {it D : Addr} {fp : List Addr} {tn : Nat → Heap → Prop} {J : It} {vs : List Nat} {σ : St} {W : Nat → Nat → Hp → Prop} {R : Result → Shared → Prop} {ke ve tg iter : Expr} {ifs : List Expr} {scope : Scope} {pos : Pos} {g : TG} {tt : TT} {tk tv : TE} {Stop : Hp → Prop}
    (calm : Y.calm = true) (quiet : Y.xe = fun _ _ => False) (hu : Y.A.units + 64 < cLine) (T : Turn Y.prog Y.w Y.K tg J fp it tn) (apart : ∀ {σ' : St} {H' : Hp} {s' : Shared}, L2.Inv Y [] σ' H' s' → (∀ b ∈ fp, H' b = none) → ∀ b ∈ fp, FpOk Y [] H' b)
    (pg : PG Y tg g) (pt : PTs Y ifs tt) (pk : PE Y ke tk) (pv : PE Y ve tv)
    (turn : ∀ i m H, W i m H → (J.stop i H ∧ Stop H) ∨ (J.go i H ∧ ∃ Nx : Hp → Prop, (∀ H', Nx H' → ∃ m', m' < m ∧ W (i + 1) m' H') ∧
      ∀ x H', J.yld i H x H' → g x (wipe σ vs) H' fun σ2 H2 => wipe σ2 vs = wipe σ vs ∧ tt σ2 H2 fun b H3 => if b = true then putKV Y.K tk tv D σ2 H3 Nx else Nx H3))
    (stop : ∀ H s, L2.Inv Y [] (wipe σ vs) H s → Stop H → R (.ok .next) s) {m : Nat} {s : Shared} {H : Hp} (I : L2.Inv Y [] (wipe σ vs) H s) (st : tn 0 s.heap) (fr : ∀ b ∈ fp, H b = none) (w : W 0 m H) :
    codeAny (model Y.prog Y.w) Y.A (.compLoop (.DictComp ke ve [⟨tg, iter, ifs, 0⟩] scope pos) 0 (.ref it) (.ref D) Y.env) R s := by
  have pgr := pg.run
  have ptr := pt.run
  have pkr := pk.run
  have pvr := pv.run
  rw [quiet] at pgr ptr pkr pvr
  refine compLoop_anyD (fun n now => ∃ i H', (L2.Inv Y [] (wipe σ vs) H' now ∧ tn i now.heap) ∧ (∀ b ∈ fp, H' b = none) ∧ W i n H') ?_ m ⟨0, H, ⟨I, st⟩, fr, w⟩
  rintro n now ⟨i, H5, ⟨I5, t5⟩, f5, w5⟩
  rcases turn i n H5 w5 with ⟨js, sH⟩ | ⟨jg, Nx, down, body⟩
  · refine thnF (T.done Y rfl rfl rfl calm i [] now _ H5 (fun _ _ => False) I5 (apart I5 f5) t5 js) fun r s6 ⟨e, I6⟩ => ?_
    rw [e]
    exact stop H5 s6 I6 sH
  · refine thnF (T.item Y rfl rfl rfl calm i [] now _ H5 (fun _ _ => False) I5 (apart I5 f5) t5 jg) fun r s6 ⟨u, e, more⟩ => ?_
    rw [e]
    refine thnF more fun _ s7 ⟨x, H7, I7, rx, yx, t7, f7⟩ => ?_
    have I7p := I7.pinned (apart I7 f7) (T.obj _ _ t7)
    refine thnF (pgr _ s7 _ H7 x u _ I7p rx (body x H7 yx)) fun _ s8 ⟨σ8, H8, I8, ew, q8⟩ => ?_
    have again_ : ∀ {s' : Shared} {H' : Hp}, L2.Inv Y ([] ++ pinsAt fp s7.heap) σ8 H' s' → Nx H' → ∃ m', m' < n ∧ ∃ i H', (L2.Inv Y [] (wipe σ vs) H' s' ∧ tn i s'.heap) ∧ (∀ b ∈ fp, H' b = none) ∧ W i m' H' := by
      intro s' H' I' nx
      obtain ⟨m', lt, w'⟩ := down H' nx
      have held : ∀ b ∈ fp, ∀ o, s7.heap.get? b = some o → s'.heap.get? b = some o ∧ H' b = none := by
        intro b hb o ho
        have k := I'.pin (b, o) (List.mem_append_right _ (List.mem_append_right _ (mem_pinsAt hb ho)))
        exact ⟨k.1, k.2.1⟩
      refine ⟨m', lt, i + 1, H', ⟨(I'.unpinned (pins := [])).weak (by rw [← ew, wipe_length]) fun j v ej => ?_, T.keep _ _ _ t7 fun b hb o ho => (held b hb o ho).1⟩, fun b hb => ?_, w'⟩
      · rw [← ew] at ej
        exact (wipe_some ej).1
      · obtain ⟨o, ho, _⟩ := T.obj _ _ t7 b hb
        exact (held b hb o ho).2
    refine thnF (ptr _ s8 σ8 H8 _ I8 q8) fun b s9 ⟨H9, I9, q9⟩ => ?_
    by_cases hb : b = true
    · replace q9 : putKV Y.K tk tv D σ8 H9 Nx := by
        have := q9
        dsimp only at this
        rwa [if_pos hb] at this
      rw [if_pos hb]
      refine thnF (pkr _ s9 σ8 H9 _ I9 q9) fun kv s10 ⟨y, H10, I10, ry, q10⟩ => ?_
      refine thnF (pvr _ s10 σ8 H10 _ I10 q10) fun vv s11 ⟨z, H11, I11, rz, es, ds, k, a, G, ey, hD, hd, gh, ht, hz, nx⟩ => ?_
      subst ey
      exact dk_set hu I11 hD hd gh ht hz ry rz fun now J' => again_ J' nx
    · replace q9 : Nx H9 := by
        have := q9
        dsimp only at this
        rwa [if_neg hb] at this
      rw [if_neg hb]
      exact again_ I9 q9
theorem pe_kn {ke ve tg iter : Expr} {ifs : List Expr} {scope : Scope} {own : List (Str × Nat)} {pos : Pos} {wi : TI} {g : TG} {tt : TT} {tk tv : TE} (calm : X.calm = true) (hu : X.A.units + 64 < cLine) (nd : X.N.Nodup) (hi : PI X tg iter wi) (ok : BlkOk X.N X.env.scope scope own)
    (hg : ∀ (s : Shared) (H : Hp) (C : Addr) (cl : List (Str × Addr)) (fp : List Addr), PG (X.blk s H scope (compEnvC scope cl C X.env) fp) tg g)
    (ht : ∀ (s : Shared) (H : Hp) (C : Addr) (cl : List (Str × Addr)) (fp : List Addr), PTs (X.blk s H scope (compEnvC scope cl C X.env) fp) ifs tt)
    (hk : ∀ (s : Shared) (H : Hp) (C : Addr) (cl : List (Str × Addr)) (fp : List Addr), PE (X.blk s H scope (compEnvC scope cl C X.env) fp) ke tk)
    (hv : ∀ (s : Shared) (H : Hp) (C : Addr) (cl : List (Str × Addr)) (fp : List Addr), PE (X.blk s H scope (compEnvC scope cl C X.env) fp) ve tv)
    (plain : ∀ x, foldedSetIterable iter X.env x = pure x := by intro _; rfl) : PE X (.DictComp ke ve [⟨tg, iter, ifs, 0⟩] scope pos) (tKn wi g tt (putKV X.K tk tv) (own.map (·.2))) := by
  refine ⟨fun pins s σ H Q I h => ?_⟩
  rw [arm_eval_DictComp]
  have reach : ∀ y ∈ scope.names, y.2 = .free → ∃ c, X.env.cells.lookup y.1 = some c := fun y hy e => (ok.free y hy e).elim (fun k => I.ok.has _ (.inl k)) fun k => I.ok.has _ (.inr k)
  refine wpAny_comprehension_free (use := none) rfl plain (closure_ok reach) ok.kind (fun y hy e => by rw [ok.uniq y hy, e]) (thn (hi.run pins s σ H _ I h) fun xv s1 hx => thn hx fun itv s2 at2 => ?_)
  obtain ⟨it, fp, tn, J, H2, rfl, I2, T, t2, f2, q⟩ := at2
  refine wpAny_newObj_type (newEnv_comp ?_)
  generalize hD : s2.heap.objs.size = D
  have fresh : H2 D = none := I2.hok.fresh (Nat.le_of_eq hD)
  obtain ⟨W, ⟨m, w0⟩, turn⟩ := q D fresh
  generalize h3 : ({ s2 with heap := s2.heap.push { cls := .type "dict", data := .dict #[] } } : Shared) = s3
  have he3 : s3.heap = s2.heap.push { cls := .type "dict", data := .dict #[] } := by rw [← h3]
  have old : ∀ b o, s2.heap.get? b = some o → s3.heap.get? b = some o := fun b o e => by rw [he3]; exact Heap.get?_push_of_some _ e
  have I3 : L2.Inv X pins σ (upd H2 D (DkO D [])) s3 := by
    have at_ : (s2.heap.push { cls := .type "dict", data := .dict #[] }).get? D = some { cls := .type "dict", data := .dict #[] } := by rw [← hD]; exact Heap.get?_push_size _ rfl
    rw [← h3]
    exact I2.laid (t' := s2.toks) (fun b o e => Heap.get?_push_of_some _ e) (Nat.le_of_eq hD) (dk_obj ⟨Nat.zero_le _, beq_eq_false_iff_ne.mpr (by rw [← hD]; exact Ne.symm (Nat.ne_of_lt I2.big)), [], .nil, _, #[], 0, at_, ⟨rfl, rfl, rfl⟩, rfl, rfl, List.nodup_nil⟩)
  have low : ∀ b ∈ fp, b < D := fun b hb => by
    obtain ⟨o, e, _⟩ := T.obj _ _ t2 b hb
    rw [← hD]
    exact Heap.lt_size e
  have f3 : ∀ b ∈ fp, FpOk X pins (upd H2 D (DkO D [])) b ∧ b < s3.heap.objs.size := fun b hb => by
    have lt := low b hb
    obtain ⟨k1, k2⟩ := f2 b hb
    exact ⟨⟨by rw [upd_ne (Nat.ne_of_lt lt)]; exact k1, k2⟩, by rw [he3, Heap.size_push, hD]; exact Nat.lt_succ_of_lt lt⟩
  have t3 : tn 0 s3.heap := T.keep _ _ _ t2 fun b _ o e => old b o e
  have I4 := block_start I3 ok nd f3
  generalize hH : upd H2 D (DkO D []) = H3 at I3 I4 f3 w0
  generalize hc : cellsFrom (s3.heap.objs.size + 1) scope.names (cloFrom X.env.cells scope.names []) = cl at I4
  have apart : ∀ {σ' : St} {H' : Hp} {s' : Shared}, L2.Inv (X.blk s3 H3 scope (compEnvC scope cl s3.heap.objs.size X.env) fp) [] σ' H' s' → (∀ b ∈ fp, H' b = none) → ∀ b ∈ fp, FpOk (X.blk s3 H3 scope (compEnvC scope cl s3.heap.objs.size X.env) fp) [] H' b := fun {σ' H' s'} I' no b hb =>
    ⟨no b hb, (I'.ok.exf b hb).1, I'.ok.exfs b hb, .inl hb, fun x c e => (I'.ok.exf b hb).2 x c e, fun p hp => absurd (show p ∈ ([] : List (Addr × Obj)) ++ [] from hp) (by simp)⟩
  have keepCells : ∀ b ∈ fp, ∀ o, s3.heap.get? b = some o → (pushCells (s3.heap.push { cls := .type "dict", data := .dict #[] }) scope.names).get? b = some o := fun b _ o e => pushCells_keeps _ _ _ _ (Heap.get?_push_of_some _ e)
  have stop_ : ∀ (H6 : Hp) (s6 : Shared), L2.Inv (X.blk s3 H3 scope (compEnvC scope cl s3.heap.objs.size X.env) fp) [] (wipe σ (own.map (·.2))) H6 s6 → Q (.ref D) H6 → compPost (model X.prog X.w) X.A X.xe none (EP X pins σ Q) (.ref D) s3.heap.objs.size (.ok .next) s6 := fun H6 s6 I6 q6 => by
    have back : L2.Inv X pins σ H6 s6 := I3.call' (ch := fp) I6.os I6.base I6.hok I6.bare fun b hb => ⟨(f3 b hb).1.2.2.2.1, (f3 b hb).1.2.1, (f3 b hb).1.2.2.2.2.1, (f3 b hb).1.2.2.2.2.2⟩
    have noC : H6 s3.heap.objs.size = none := I6.free
    obtain ⟨mm, hm, _⟩ := I6.loc
    obtain ⟨g0, g1, _, g3, g4, g5⟩ := I3.fpOk (Nat.le_refl s3.heap.objs.size) noC
    exact ⟨mm, hm, fun h'' sb => ⟨.ref D, H6, back.turned (t' := s6.toks) (fun b o hb e => (sb.2 b hb).trans e) g0 g1 g3 g4 g5, rfl, q6⟩⟩
  have go := kn_turns (Y := X.blk s3 H3 scope (compEnvC scope cl s3.heap.objs.size X.env) fp) (vs := own.map (·.2)) (σ := σ) (W := W) (R := compPost (model X.prog X.w) X.A X.xe none (EP X pins σ Q) (.ref D) s3.heap.objs.size) (Stop := fun H' => Q (.ref D) H') (pos := pos) (iter := iter) (scope := scope) (m := m)
    (s := { s3 with heap := pushCells (s3.heap.push { cls := .type "dict", data := .dict #[] }) scope.names }) calm rfl hu T apart (hg _ _ _ _ _) (ht _ _ _ _ _) (hk _ _ _ _ _) (hv _ _ _ _ _) turn stop_ I4 (T.keep _ _ _ t3 keepCells) (fun b hb => (f3 b hb).1.1) w0
  subst hc
  show codeAny _ _ (.compStart (.DictComp ke ve [⟨tg, iter, ifs, 0⟩] scope pos) 0 (.ref it) (.ref D) (compEnvC scope (cellsFrom (s3.heap.objs.size + 1) scope.names (cloFrom X.env.cells scope.names [])) s3.heap.objs.size X.env)) (compPost (model X.prog X.w) X.A X.xe none (EP X pins σ Q) (.ref D) s3.heap.objs.size) { s3 with heap := pushCells (s3.heap.push { cls := .type "dict", data := .dict #[] }) scope.names }
  exact codeAny_compStart_dict go (T.self X.A 0 _ _ _ (T.keep _ _ _ t3 keepCells) go)
end
end Z

set_option Elab.async false
set_option linter.all false
set_option maxRecDepth 100000
set_option autoImplicit false
set_option maxHeartbeats 4000000
namespace Z
open PySem PySem.Spec PyProof.Rows L2
section
variable {prog : Program} {w : World} {A : Around} {E : Value → Shared → Prop} {s : Shared}
theorem keys_acc {es : Array DictEntry} {ks : List Value} (ents : es.toList.map (·.key) = ks) {acc : Array Value} (it : ItemsOf (fun i v => ∃ hi : i < es.size, v = es[i].key) acc es.size) : acc.toList = ks := by
  have esz : es.size = ks.length := by rw [← ents, List.length_map, Array.length_toList]
  refine List.ext_getElem? fun j => ?_
  rw [Array.getElem?_toList]
  cases e : acc[j]? with
  | none =>
    have : acc.size ≤ j := by
      rcases Nat.lt_or_ge j acc.size with z | z
      · rw [Array.getElem?_eq_getElem z] at e; cases e
      · exact z
    rw [List.getElem?_eq_none]
    rw [it.1] at this
    omega
  | some v =>
    obtain ⟨hi, rfl⟩ := it.2 j v e
    rw [← ents, List.getElem?_map, Array.getElem?_toList, Array.getElem?_eq_getElem hi]
    rfl
open PySem.W PySem.Calls in
/-- sorted(d): its keys in the order of their data -/
theorem sorted_keys {a : Addr} {es : Array DictEntry} {ep : Nat} {ks : List Value} {xs : List D} {R : Value → D → Prop} {Q : Value → Shared → Prop} (raw : s.heap.DictRaw a es ep) (lo : (a == sysModules) = false) (ents : es.toList.map (·.key) = ks) (hh : A.handled = none) (hu : A.units + 2 + 30 < cLine)
    (er : EachIs R ks xs) (rd : EachIs (fun v d => ∃ as, Reads s.heap v d as) ks xs) (ok : okSort xs = true)
    (h : ∀ (h1 h' : Heap) (tk : Nat) (out : List Value) (c : Nat), (∀ b o, s.heap.get? b = some o → h1.get? b = some o) → (∀ b o, h1.get? b = some o → h'.get? b = some o) → h'.get? h1.objs.size = some (seqObj "list" out.toArray c) → EachIs R out (sortD xs) →
      Q (.ref h1.objs.size) { s with heap := h', toks := tk }) :
    wpAny (model prog w) A (call (.builtin "sorted") [.ref a]) Q E s := by
  have few : xs.length ≤ sizeLine := (okSort_ok ok).2.2.1
  have ekx : ks.length = xs.length := er.length
  have esz : es.size = ks.length := by rw [← ents, List.length_map, Array.length_toList]
  refine call_function_entry_kw kind_sorted plain_sorted entry_sorted (args_sorted1 _) ?_
  unfold Builtin.«sorted»
  refine wpAny_bind (m := checkCount "sorted" 1 1 _) (wpAny_pure ?_)
  refine wpAny_bind (kdu_collect (A := A.in1) (KdlSrc.rawDict (prog := prog) (w := w) lo) hh raw (by omega) fun h1 tk acc k1 it => ?_)
  have ev : acc.toList = ks := by
    refine List.ext_getElem? fun j => ?_
    rw [Array.getElem?_toList]
    cases e : acc[j]? with
    | none =>
      have : acc.size ≤ j := by
        rcases Nat.lt_or_ge j acc.size with z | z
        · rw [Array.getElem?_eq_getElem z] at e; cases e
        · exact z
      rw [List.getElem?_eq_none]
      rw [it.1] at this
      omega
    | some v =>
      obtain ⟨hi, rfl⟩ := it.2 j v e
      rw [← ents, List.getElem?_map, Array.getElem?_toList, Array.getElem?_eq_getElem hi]
      rfl
  rw [ev]
  have len : ks.length ≤ sizeLine := by omega
  refine wpAny_bind (wpAny_newList ?_ len)
  show wpAny (model prog w) _ _ _ _ { s with heap := h1.push (seqObj "list" ks.toArray 0), toks := tk }
  have atL : (h1.push (seqObj "list" ks.toArray 0)).get? h1.objs.size = some (seqObj "list" ks.toArray 0) := Heap.get?_push_size _ rfl
  have k2 : ∀ b ob, s.heap.get? b = some ob → (sortingHeap (h1.push (seqObj "list" ks.toArray 0)) h1.objs.size ks).get? b = some ob := fun b ob q => sortingHeap_old (Nat.ne_of_lt (Heap.lt_size (k1 b ob q))) (Heap.get?_push_of_some _ (k1 b ob q))
  obtain ⟨al, so, _, dep⟩ := okSort_ok ok
  have rd' : EachIs (fun v d => ∃ as, Reads (sortingHeap (h1.push (seqObj "list" ks.toArray 0)) h1.objs.size ks) v d as) ks xs := rd.mono fun _ _ ⟨as, r⟩ => ⟨as, PyProof.Rows.Reads.keeps k2 r⟩
  refine wpAny_bind (wpAny_holding (wpAny_call_entry_kw slot_list_sort ⟨_, atL, rfl⟩ entry_list_sort ?_ (args_list_sort _)))
  have srt := SortsAt.data (prog := prog) (w := w) (A := A.in1.in1) (s := { s with heap := sortingHeap (h1.push (seqObj "list" ks.toArray 0)) h1.objs.size ks, toks := tk }) rd' al so fun d hd => by
    have := dep d hd
    show A.units + 2 + d.depth < cLine
    omega
  refine list_sort_vals (s := { s with heap := h1.push (seqObj "list" ks.toArray 0), toks := tk }) atL srt len ⟨_, rfl, wpAny_pure ?_⟩
  obtain ⟨c, atS⟩ := sortedHeap_at (h := h1.push (seqObj "list" ks.toArray 0)) (a := h1.objs.size) (vs := ks) (n := 0) (out := (sortVals (dataKind (sortingHeap (h1.push (seqObj "list" ks.toArray 0)) h1.objs.size ks) xs) false ks ks).toArray) atL
  have out := sortVals_data (R := R) (enc := id) (bs := xs) (vs := ks) false er rd' (by rw [List.map_id]; exact al)
  rw [List.map_id] at out
  refine ⟨_, rfl, h h1 _ tk _ c k1 (fun b ob q => ?_) atS out⟩
  rw [sortedHeap_old (Nat.ne_of_lt (Heap.lt_size q)) (Heap.lt_size (Heap.get?_push_of_some _ q))]
  exact Heap.get?_push_of_some _ q
open PySem.W PySem.Calls in
/-- .. of a dict of one key, which is () -/
theorem sorted_key1 {a e : Addr} {es : Array DictEntry} {ep : Nat} {Q : Value → Shared → Prop} (raw : s.heap.DictRaw a es ep) (lo : (a == sysModules) = false) (ents : es.toList.map (·.key) = [Value.ref e]) (hh : A.handled = none) (hu : A.units + 2 + 30 < cLine) (he : IsTup s.heap e #[])
    (h : ∀ (h1 h' : Heap) (tk c : Nat), (∀ b o, s.heap.get? b = some o → h1.get? b = some o) → (∀ b o, h1.get? b = some o → h'.get? b = some o) → h'.get? h1.objs.size = some (seqObj "list" [Value.ref e].toArray c) → Q (.ref h1.objs.size) { s with heap := h', toks := tk }) :
    wpAny (model prog w) A (call (.builtin "sorted") [.ref a]) Q E s := by
  have hlen : [Value.ref e].length ≤ sizeLine := show 1 ≤ sizeLine by decide
  have esz : es.size = 1 := by
    have := congrArg List.length ents
    rw [List.length_map, Array.length_toList] at this
    exact this
  refine call_function_entry_kw kind_sorted plain_sorted entry_sorted (args_sorted1 _) ?_
  unfold Builtin.«sorted»
  refine wpAny_bind (m := checkCount "sorted" 1 1 _) (wpAny_pure ?_)
  refine wpAny_bind (kdu_collect (A := A.in1) (KdlSrc.rawDict (prog := prog) (w := w) lo) hh raw (by rw [esz]; exact hlen) fun h1 tk acc k1 it => ?_)
  have ev : acc.toList = [Value.ref e] := keys_acc ents it
  rw [ev]
  refine wpAny_bind (wpAny_newList ?_ hlen)
  show wpAny (model prog w) _ _ _ _ { s with heap := h1.push (seqObj "list" [Value.ref e].toArray 0), toks := tk }
  have atL : (h1.push (seqObj "list" [Value.ref e].toArray 0)).get? h1.objs.size = some (seqObj "list" [Value.ref e].toArray 0) := Heap.get?_push_size _ rfl
  have k2 : ∀ b ob, s.heap.get? b = some ob → (sortingHeap (h1.push (seqObj "list" [Value.ref e].toArray 0)) h1.objs.size [Value.ref e]).get? b = some ob := fun b ob q => sortingHeap_old (Nat.ne_of_lt (Heap.lt_size (k1 b ob q))) (Heap.get?_push_of_some _ (k1 b ob q))
  refine wpAny_bind (wpAny_holding (wpAny_call_entry_kw slot_list_sort ⟨_, atL, rfl⟩ entry_list_sort ?_ (args_list_sort _)))
  have he' : IsTup (sortingHeap (h1.push (seqObj "list" [Value.ref e].toArray 0)) h1.objs.size [Value.ref e]) e #[] := by
    obtain ⟨oe, g1, g2⟩ := he
    exact ⟨oe, k2 e oe g1, g2⟩
  have S : SortsAt prog w A.in1.in1 { s with heap := sortingHeap (h1.push (seqObj "list" [Value.ref e].toArray 0)) h1.objs.size [Value.ref e], toks := tk } (kOne (.ref e)) [Value.ref e] :=
    ⟨fun v hv => ⟨(), by rw [List.mem_singleton.mp hv]; exact if_pos rfl⟩, kGen, one_lt he' (by show A.units + 1 + 1 < cLine; omega), fun z => absurd z (show ¬ 2 ≤ 1 by decide)⟩
  refine list_sort_vals (s := { s with heap := h1.push (seqObj "list" [Value.ref e].toArray 0), toks := tk }) atL S hlen ?_
  refine ⟨_, rfl, wpAny_pure ?_⟩
  have ev : sortVals (kOne (.ref e)) false [Value.ref e] [Value.ref e] = [Value.ref e] := by
    unfold sortVals
    simp
  rw [ev]
  obtain ⟨c, hc'⟩ := sortedHeap_at (h := h1.push (seqObj "list" [Value.ref e].toArray 0)) (a := h1.objs.size) (vs := [Value.ref e]) (n := 0) (out := [Value.ref e].toArray) atL
  refine ⟨_, rfl, h h1 _ tk c k1 (fun b ob q => ?_) hc'⟩
  rw [sortedHeap_old (Nat.ne_of_lt (Heap.lt_size q)) (Heap.lt_size (Heap.get?_push_of_some _ q))]
  exact Heap.get?_push_of_some _ q
end
section
variable {X : Cx}
def keyT (p : List Int × PyData) : PyData := .tuple (p.1.map .int)
def okDk (ds : List (List Int × PyData)) : Bool := okSort (ds.map keyT) || decide (ds.map (·.1) = [[]])
def rSortK (K : PySem.W.Frag) : V → Hp → VK → Prop := fun v H Q => ∃ (a : Addr) (es : List (List Int × Addr × V)) (ds : List (List Int × PyData)) (G : Hp), v = .ref a ∧ H a = some (DkO a es) ∧ DkAll K G es ds ∧ Same G H ∧ okDk ds = true ∧
  ∀ p vs, H p = none → DqAll K G vs (sortD (ds.map keyT)) → Q (.ref p) (upd H p (.lst vs))
theorem keys_each {pins : List (Addr × Obj)} {σ : L2.St} {H G : Hp} {s : Shared} (I : L2.Inv X pins σ H s) (g : Same G H) : ∀ {es : List (List Int × Addr × V)} {ds : List (List Int × PyData)} {xs : List (List Int × Addr × Value)}, DkAll X.K G es ds → (∀ d ∈ ds.map keyT, d.plain = true) → DkP es xs →
    PySem.W.EachIs (fun u d => ∃ v, RelV v u ∧ Dq X.K G v d) (xs.map fun x => Value.ref x.2.1) (ds.map keyT) ∧ PySem.W.EachIs (fun v d => ∃ as, Reads s.heap v d as) (xs.map fun x => Value.ref x.2.1) (ds.map keyT) := by
  intro es ds xs h
  induction h generalizing xs with
  | nil =>
    intro _ p
    cases p
    exact ⟨.nil, .nil⟩
  | @cons k a v d es ds t q r ih =>
    intro hp p
    cases p with
    | @cons _ b _ bs p ps =>
      obtain ⟨a1, a2⟩ := ih (fun d hd => hp d (List.mem_cons_of_mem _ hd)) ps
      have ea : a = b.2.1 := p.2.1
      have dq : Dq X.K G (.ref a) (.tuple (k.map .int)) := .tup t (dpa_ints _)
      have pl : (PyData.tuple (k.map .int)).plain = true := hp _ List.mem_cons_self
      refine ⟨.cons ⟨.ref a, by rw [ea]; rfl, dq⟩ a1, .cons ?_ a2⟩
      show ∃ as, Reads s.heap (Value.ref b.2.1) _ as
      rw [← ea]
      exact Dp.reads I _ (.ref a) _ ((dp_mono g _ _ dq).dp _ _ pl) rfl
theorem cr_sortK (calm : X.calm = true) (hu : X.A.units + 64 < cLine) : CallR X (.builtin "sorted") (fun vs H Q => ∃ v, vs = [v] ∧ rSortK X.K v H Q) := by
  intro pins s σ H vs us Q I r h
  obtain ⟨v, rfl, a, es, ds, G, rfl, hS, hd, g, ok, q⟩ := h
  obtain ⟨u, rfl, ru⟩ := vals1 r
  cases ru
  obtain ⟨_, y, xs, p, o, ea, ep, h1, h2, h3, h4, h5, h6⟩ := dk_full I hS g hd
  rcases (show okSort (ds.map keyT) = true ∨ ds.map (·.1) = [[]] by
    unfold okDk at ok
    rw [Bool.or_eq_true, decide_eq_true_eq] at ok
    exact ok) with ok | ok
  · obtain ⟨er, rd⟩ := keys_each I g hd (alike_plains (okSort_ok ok).1) p
    refine sorted_keys (s := s) (a := a) (es := ea) (ep := ep) ⟨o, h1, h2, h3⟩ y (by rw [h4, List.map_map]; rfl) (I.ok.hd calm) (by omega) er rd ok fun e1 h' tk out c k1 k2 at_ each => ?_
    obtain ⟨ws, rv, dv⟩ := dq_each each
    have few : ws.length ≤ sizeLine := by
      rw [dpa_length dv]
      unfold sortD
      rw [List.length_mergeSort]
      exact (okSort_ok ok).2.2.1
    have n0 : s.heap.get? e1.objs.size = none := by
      cases e : s.heap.get? e1.objs.size with
      | none => rfl
      | some o => exact absurd (Heap.lt_size (k1 _ _ e)) (Nat.lt_irrefl _)
    have n : H e1.objs.size = none := I.hok.gone n0
    exact ⟨.ref e1.objs.size, _, I.laidN (h' := h') (a := e1.objs.size) (o := .lst ws) (t' := tk) (fun b o e => k2 b o (k1 b o e)) n0 n ⟨few, out, c, rv, at_⟩, rfl, q _ ws n dv⟩
  · match ds, hd, p, ok with
    | [(k, d)], hd, pp, ok =>
      have ek : k = [] := by injection ok
      subst ek
      cases hd with
      | @cons _ ka v _ _ _ t q2 r =>
        cases r
        cases pp with
        | @cons _ b _ bs pq ps =>
          cases ps
          have e1 : ka = b.2.1 := pq.2.1
          obtain ⟨its, vs2, tp, _⟩ := I.tuple ((t.mono g).sq)
          cases vs2
          refine sorted_key1 (s := s) (a := a) (e := ka) (es := ea) (ep := ep) ⟨o, h1, h2, h3⟩ y (by rw [h4, e1]; rfl) (I.ok.hd calm) (by omega) tp fun f1 h' tk c k1 k2 at_ => ?_
          have n0 : s.heap.get? f1.objs.size = none := by
            cases e : s.heap.get? f1.objs.size with
            | none => rfl
            | some o => exact absurd (Heap.lt_size (k1 _ _ e)) (Nat.lt_irrefl _)
          have n : H f1.objs.size = none := I.hok.gone n0
          refine ⟨.ref f1.objs.size, _, I.laidN (h' := h') (a := f1.objs.size) (o := .lst [.ref ka]) (t' := tk) (fun b o e => k2 b o (k1 b o e)) n0 n ⟨(show 1 ≤ sizeLine by decide), _, c, .cons rfl .nil, at_⟩, rfl, q _ [.ref ka] n ?_⟩
          have es : sortD (([([], d)] : List (List Int × PyData)).map keyT) = [.tuple []] := by unfold sortD; simp [keyT]
          rw [es]
          exact .cons (.tup t .nil) .nil
end
end Z

set_option Elab.async false
set_option linter.all false
set_option maxRecDepth 100000
set_option maxHeartbeats 2000000
namespace Zc
open PySem PySem.Spec
open Sem (wp)
theorem cmb_mro : mroOf (.type "itertools.combinations") = pure [.type "itertools.combinations", .type "object"] := by rw [mroOf_type]; kernel_rfl
theorem cmb_new : typeLookup (.type "itertools.combinations") "__new__" = pure (some (.builtin "itertools.combinations.__new__")) := by rw [typeLookup_type, builtinLookup_eq_fast]; kernel_rfl
theorem cmb_init : Slot "itertools.combinations" "__init__" "object.__init__" :=
  .of (owner := "object") (n := "__init__") (by rw [typeLookup_type, builtinLookup_eq_fast]; kernel_rfl) (by decide +kernel) (by decide +kernel) (by decide +kernel)
    (by first | exact .inl (by decide +kernel) | exact .inr (by decide +kernel)) (by rw [isSubtype_type]; kernel_rfl)
theorem cmb_sub : isSubtype (.type "itertools.combinations") (.type "itertools.combinations") = pure true := by rw [isSubtype_type]; kernel_rfl
theorem cmb_called : TypeCalled "itertools.combinations" "itertools.combinations.__new__" "object.__init__" :=
  ⟨by decide +kernel, by decide +kernel, ⟨_, _, cmb_mro⟩, madeBy_type cmb_mro cmb_new (by decide +kernel), by decide +kernel, cmb_sub, cmb_init⟩
theorem cmb_typeCall (a b : Value) : checkTypeCall "itertools.combinations" ⟨[a, b], []⟩ = pure () := by kernel_rfl
theorem cmb_newCall (a b : Value) : checkBuiltinCall "itertools.combinations.__new__" ⟨[.type "itertools.combinations", a, b], []⟩ = pure () := by kernel_rfl
theorem cmb_entry_new : entryFor table "itertools.combinations.__new__" = some Builtin.«itertools.combinations.__new__» := entryFor_of_tree (by kernel_rfl)
theorem cmb_slot_iter : Slot "itertools.combinations" "__iter__" "itertools.combinations.__iter__" :=
  .of (owner := "itertools.combinations") (n := "__iter__") (by rw [typeLookup_type, builtinLookup_eq_fast]; kernel_rfl) (by decide +kernel) (by decide +kernel) (by decide +kernel)
    (by first | exact .inl (by decide +kernel) | exact .inr (by decide +kernel)) cmb_sub
theorem cmb_slot_next : Slot "itertools.combinations" "__next__" "itertools.combinations.__next__" :=
  .of (owner := "itertools.combinations") (n := "__next__") (by rw [typeLookup_type, builtinLookup_eq_fast]; kernel_rfl) (by decide +kernel) (by decide +kernel) (by decide +kernel)
    (by first | exact .inl (by decide +kernel) | exact .inr (by decide +kernel)) cmb_sub
theorem cmb_entry_iter : entryFor table "itertools.combinations.__iter__" = some Builtin.«dict_keyiterator.__iter__» :=
  entryFor_alias (id' := "dict_keyiterator.__iter__") (by kernel_rfl) (by first | rfl | decide +kernel | (unfold String.splitOn; simp +decide [String.splitOnAux])) (by decide +kernel) (by kernel_rfl)
theorem cmb_entry_next : entryFor table "itertools.combinations.__next__" = some Builtin.«itertools.combinations.__next__» := entryFor_of_tree (by kernel_rfl)
theorem cmb_owner : Manifest.owners.lookup (String.ofList ['s', 'n', 'o', 'i', 't', 'a', 'n', 'i', 'b', 'm', 'o', 'c', '.', 's', 'l', 'o', 'o', 't', 'r', 'e', 't', 'i'].reverse) = some Manifest.sig_itertools_combinations := by kernel_rfl
theorem cmb_args_iter (a : Value) : argsOk "itertools.combinations.__iter__" ⟨[a], []⟩ := by
  unfold argsOk; rw [signature?_of (id := "itertools.combinations.__iter__") (n := ['_', '_', 'r', 'e', 't', 'i', '_', '_']) (o := ['s', 'n', 'o', 'i', 't', 'a', 'n', 'i', 'b', 'm', 'o', 'c', '.', 's', 'l', 'o', 'o', 't', 'r', 'e', 't', 'i']) (by kernel_rfl) cmb_owner]; kernel_rfl
theorem cmb_args_next (a : Value) : argsOk "itertools.combinations.__next__" ⟨[a], []⟩ := by
  unfold argsOk; rw [signature?_of (id := "itertools.combinations.__next__") (n := ['_', '_', 't', 'x', 'e', 'n', '_', '_']) (o := ['s', 'n', 'o', 'i', 't', 'a', 'n', 'i', 'b', 'm', 'o', 'c', '.', 's', 'l', 'o', 'o', 't', 'r', 'e', 't', 'i']) (by kernel_rfl) cmb_owner]; kernel_rfl
theorem cmb_noDict : typeHasDict (.type "itertools.combinations") = false := by decide +kernel
theorem cmb_bind (v r : Value) : Builtin.Itertools.itBindNamed "combinations" ["iterable", "r"] 2 2 [v, r] [] = pure [some v, some r] := by first | rfl | kernel_rfl
end Zc

set_option Elab.async false
set_option linter.all false
set_option maxRecDepth 100000
set_option maxHeartbeats 2000000
namespace Zc
open PySem PySem.Spec Zp
open Sem (wp)
def cmbF (p : Addr) (ph : Int) (bf : Value) (nums : List Nat) : List Value := Value.ref p :: Value.int ph 0 :: bf :: prmN nums
abbrev IsCmb (h : Heap) (it p : Addr) (ph : Int) (bf : Value) (nums : List Nat) : Prop :=
  h.get? it = some { cls := .type "itertools.combinations", dict := none, data := .fields (cmbF p ph bf nums).toArray, slots := #[] }
section
variable {prog : Program} {w : World} {A : Around} {E : Value → Shared → Prop} {s : Shared}
theorem cmb_out {it p : Addr} {ph : Int} {bf : Value} {nums ind : List Nat} {its : List Value} {Q : Option Value → Shared → Prop} {h : Heap} (hit : IsCmb h it p ph bf nums) (hp : h.get? p = some (tupO its)) (hz : ind.length ≤ sizeLine)
    (q : ∀ h', IsCmb h' it p ph (.ref h.objs.size) nums → h'.get? h.objs.size = some (tupO (pickV its ind)) → (∀ b o, b ≠ it → h.get? b = some o → h'.get? b = some o) → Q (some (.ref h.objs.size)) { s with heap := h' }) :
    wpAny (model prog w) A (do
      let t ← (do
        let items ← Builtin.Itertools.itPoolItems (.ref p)
        newTuple (ind.map fun i => items.getD i .none))
      let b ← field (.ref it) 2
      setField (.ref it) 2 t
      letGo [b] [t]
      ret t) (fun fin s' => ∃ v, fin = Fin.done (Flow.ret v) ∧ Q (some v) s') E { s with heap := h } := by
  refine wpAny_bind (wpAny_bind ?_)
  unfold Builtin.Itertools.itPoolItems
  refine wpAny_bind (wpAny_seqItems hp rfl ?_)
  refine wpAny_pure ?_
  rw [pick_arr]
  refine (wpAny_newTuple ?_ (by rw [List.length_map]; exact hz))
  have hlt := Heap.lt_size hit
  have hit2 : IsCmb (h.push (tupO (pickV its ind))) it p ph bf nums := Heap.get?_push_of_some _ hit
  refine wpAny_bind (wpAny_field hit2 rfl (x := bf) rfl ?_)
  refine wpAny_bind (wpAny_setField hit2 rfl (by simp [cmbF]) ?_)
  refine wpAny_bind (wpAny_letGo ?_)
  refine wpAny_pure ⟨_, rfl, ?_⟩
  refine q _ (Heap.get?_update_self _ hit2 rfl) ?_ fun b o hb e => ?_
  · exact (Heap.get?_update_other _ _ (Nat.ne_of_lt hlt)).trans (Heap.get?_push_size _ rfl)
  · exact (Heap.get?_update_other _ _ (Ne.symm hb)).trans (Heap.get?_push_of_some _ e)
abbrev NextC := Nat → List Nat → Option (List Nat)
def runC (f : NextC) (n : Nat) : Nat → List Nat → Option (List (List Nat))
  | 0, _ => none
  | k + 1, i => match f n i with
    | none => some [i]
    | some i' => if i'.length = i.length then (runC f n k i').map (i :: ·) else none
/-- all rows of r things of a list -/
def cmbs {α : Type} : Nat → List α → List (List α)
  | 0, _ => [[]]
  | _ + 1, [] => []
  | r + 1, x :: l => (cmbs r l).map (x :: ·) ++ cmbs (r + 1) l
def NextOkC (f : NextC) : Prop := ∀ {prog : Program} {w : World} {A : Around} {E : Value → Shared → Prop} {s : Shared} {it p : Addr} {its : List Value} {bf : Value} {ind : List Nat} {Q : Option Value → Shared → Prop},
    A.handled = none → IsCmb s.heap it p 1 bf ind → s.heap.get? p = some (tupO its) → p ≠ it → ind.length ≤ 1000 → (∀ i', f its.length ind = some i' → i'.length = ind.length) →
    (∀ i' h', f its.length ind = some i' → IsCmb h' it p 1 (.ref s.heap.objs.size) i' → h'.get? s.heap.objs.size = some (tupO (pickV its i')) → (∀ b o, b ≠ it → s.heap.get? b = some o → h'.get? b = some o) → Q (some (.ref s.heap.objs.size)) { s with heap := h' }) →
    (∀ e h', f its.length ind = none → StopE e h' → (∀ b o, b ≠ it → s.heap.get? b = some o → h'.get? b = some o) → E e { s with heap := h' }) →
    wpAny (model prog w) A (callSpecial? (.ref it) "__next__") Q E s
theorem cmb_ex0 : ∃ f : NextC, NextOkC f ∧ ((List.range 13).all fun n => (List.range 7).all fun r => decide (n < r) || decide (runC f n 925 (List.range r) = some (cmbs r (List.range n)))) = true := by
  apply Exists.intro
  refine ⟨?a, ?b⟩
  intro prog w A E s it p its bf ind Q hh hit hp hpi hi hl q1 q2
  have hT : s.TypeIs (.ref it) "itertools.combinations" := ⟨_, hit, rfl⟩
  refine wpAny_callSpecial?_slot (name := Str.ofString "__next__") hT cmb_slot_next (wpAny_call_entry cmb_slot_next hT cmb_entry_next ?_ (cmb_args_next _))
  show wpAny _ _ (field (.ref it) 0 >>= _) _ _ s
  refine wpAny_bind (wpAny_field hit rfl (x := .ref p) rfl ?_)
  show wpAny _ _ (Builtin.Itertools.itNumbersFrom (.ref it) 3 >>= _) _ _ s
  refine wpAny_bind ?_
  show wpAny _ _ (load it >>= _) _ _ s
  refine wpAny_bind (wpAny_load hit ?_)
  refine wpAny_pure ?_
  show wpAny _ _ (Builtin.Itertools.itIntField (.ref it) 1 >>= _) _ _ s
  refine wpAny_bind (wpAny_bind (wpAny_field hit rfl (x := .int 1 0) rfl (wpAny_pure ?_)))
  have el : List.map (fun x => match x with | Value.int n tok => n.toNat | x => 0) (List.drop 3 (cmbF p 1 bf ind).toArray.toList) = ind := nums_of ind
  simp only [cmbF, prmN, List.drop_succ_cons, List.drop_zero, List.map_map, Function.comp_def, Int.toNat_natCast, List.map_id']
  refine wpAny_bind ?_
  unfold Builtin.Itertools.itPoolItems
  refine wpAny_bind (wpAny_seqItems hp rfl ?_)
  refine wpAny_pure ?_
  have e2 : its.toArray.size = its.length := List.size_toArray
  rw [e2]
  split
  · rename_i i' heq
    have l1 := hl _ heq
    refine wpAny_bind ?_
    show wpAny _ _ (updateFields it _) _ _ s
    refine wpAny_updateFields hit rfl ?_ (by
      rw [show (Array.extract (cmbF p 1 bf ind).toArray 0 3 ++ (List.map (fun (n : Nat) => rawInt n) i').toArray).size = 3 + i'.length by simp [Array.size_extract, cmbF]; omega]
      rw [l1, sizeLine_eq]; omega)
    have hit2 : IsCmb (s.heap.update it (Obj.mapFields fun fs => fs.extract 0 3 ++ (List.map (fun (n : Nat) => rawInt n) i').toArray)) it p 1 bf i' := by
      refine (Heap.get?_update_self _ hit rfl).trans ?_
      simp [Obj.mapFields, prmN, cmbF]
      exact fun _ _ => rfl
    have hp2 : (s.heap.update it (Obj.mapFields fun fs => fs.extract 0 3 ++ (List.map (fun (n : Nat) => rawInt n) i').toArray)).get? p = some (tupO its) := (Heap.get?_update_other _ _ (Ne.symm hpi)).trans hp
    refine cmb_out hit2 hp2 (by rw [l1, sizeLine_eq]; omega) fun h' k1 k2 k3 => ?_
    have ez : (s.heap.update it (Obj.mapFields fun fs => fs.extract 0 3 ++ (List.map (fun (n : Nat) => rawInt n) i').toArray)).objs.size = s.heap.objs.size := Heap.size_update ..
    rw [ez] at k1 k2 ⊢
    exact q1 i' h' heq k1 k2 fun b o hb e => k3 b o hb ((Heap.get?_update_other _ _ (Ne.symm hb)).trans e)
  · rename_i heq
    refine wpAny_bind (wpAny_setField hit rfl (by simp [cmbF]) ?_)
    refine prm_stop hh fun e h' st hk => ?_
    exact q2 e h' heq st fun b o hb eb => hk b o ((Heap.get?_update_other _ _ (Ne.symm hb)).trans eb)
  case b => decide +kernel
theorem cmb_ex : ∃ f : NextC, NextOkC f ∧ ∀ n, n ≤ 12 → ∀ r, r ≤ 6 → r ≤ n → runC f n 925 (List.range r) = some (cmbs r (List.range n)) := by
  obtain ⟨f, h1, h2⟩ := cmb_ex0
  refine ⟨f, h1, fun n hn r hr hrn => ?_⟩
  have h3 := List.all_eq_true.mp (List.all_eq_true.mp h2 n (List.mem_range.mpr (by omega))) r (List.mem_range.mpr (by omega))
  rw [Bool.or_eq_true, decide_eq_true_eq, decide_eq_true_eq] at h3
  rcases h3 with h3 | h3
  · omega
  · exact h3
end
end Zc

set_option Elab.async false
set_option linter.all false
set_option maxRecDepth 100000
set_option maxHeartbeats 2000000
namespace Zc
open PySem PySem.Spec PyProof.Rows Zp
open Sem (wp)
section
variable {prog : Program} {w : World} {A : Around} {E : Value → Shared → Prop} {s : Shared}
theorem cmb_first {it p : Addr} {its : List Value} {ind : List Nat} {Q : Option Value → Shared → Prop} (hit : IsCmb s.heap it p 0 .none ind) (hp : s.heap.get? p = some (tupO its)) (hpi : p ≠ it) (hi : ind.length ≤ 1000)
    (q1 : ∀ h', IsCmb h' it p 1 (.ref s.heap.objs.size) ind → h'.get? s.heap.objs.size = some (tupO (pickV its ind)) → (∀ b o, b ≠ it → s.heap.get? b = some o → h'.get? b = some o) → Q (some (.ref s.heap.objs.size)) { s with heap := h' }) :
    wpAny (model prog w) A (callSpecial? (.ref it) "__next__") Q E s := by
  have hT : s.TypeIs (.ref it) "itertools.combinations" := ⟨_, hit, rfl⟩
  refine wpAny_callSpecial?_slot (name := Str.ofString "__next__") hT cmb_slot_next (wpAny_call_entry cmb_slot_next hT cmb_entry_next ?_ (cmb_args_next _))
  show wpAny _ _ (field (.ref it) 0 >>= _) _ _ s
  refine wpAny_bind (wpAny_field hit rfl (x := .ref p) rfl ?_)
  show wpAny _ _ (Builtin.Itertools.itNumbersFrom (.ref it) 3 >>= _) _ _ s
  refine wpAny_bind ?_
  show wpAny _ _ (load it >>= _) _ _ s
  refine wpAny_bind (wpAny_load hit ?_)
  refine wpAny_pure ?_
  show wpAny _ _ (Builtin.Itertools.itIntField (.ref it) 1 >>= _) _ _ s
  refine wpAny_bind (wpAny_bind (wpAny_field hit rfl (x := .int 0 0) rfl (wpAny_pure ?_)))
  simp only [cmbF, prmN, List.drop_succ_cons, List.drop_zero, List.map_map, Function.comp_def, Int.toNat_natCast, List.map_id']
  refine wpAny_bind (wpAny_setField hit rfl (by simp [cmbF]) ?_)
  have hit2 : IsCmb (s.heap.update it (Obj.mapFields fun fs => fs.setIfInBounds 1 (rawInt 1))) it p 1 .none ind := Heap.get?_update_self _ hit rfl
  have hp2 : (s.heap.update it (Obj.mapFields fun fs => fs.setIfInBounds 1 (rawInt 1))).get? p = some (tupO its) := (Heap.get?_update_other _ _ (Ne.symm hpi)).trans hp
  refine cmb_out hit2 hp2 (by rw [sizeLine_eq]; omega) fun h' k1 k2 k3 => ?_
  have ez : (s.heap.update it (Obj.mapFields fun fs => fs.setIfInBounds 1 (rawInt 1))).objs.size = s.heap.objs.size := Heap.size_update ..
  rw [ez] at k1 k2 ⊢
  exact q1 h' k1 k2 fun b o hb e => k3 b o hb ((Heap.get?_update_other _ _ (Ne.symm hb)).trans e)
theorem cmb_ended {it p : Addr} {ind : List Nat} {bf : Value} {Q : Option Value → Shared → Prop} (hh : A.handled = none) (hit : IsCmb s.heap it p 2 bf ind)
    (q : ∀ e h', StopE e h' → (∀ b o, s.heap.get? b = some o → h'.get? b = some o) → E e { s with heap := h' }) :
    wpAny (model prog w) A (callSpecial? (.ref it) "__next__") Q E s := by
  have hT : s.TypeIs (.ref it) "itertools.combinations" := ⟨_, hit, rfl⟩
  refine wpAny_callSpecial?_slot (name := Str.ofString "__next__") hT cmb_slot_next (wpAny_call_entry cmb_slot_next hT cmb_entry_next ?_ (cmb_args_next _))
  show wpAny _ _ (field (.ref it) 0 >>= _) _ _ s
  refine wpAny_bind (wpAny_field hit rfl (x := .ref p) rfl ?_)
  show wpAny _ _ (Builtin.Itertools.itNumbersFrom (.ref it) 3 >>= _) _ _ s
  refine wpAny_bind ?_
  show wpAny _ _ (load it >>= _) _ _ s
  refine wpAny_bind (wpAny_load hit ?_)
  refine wpAny_pure ?_
  show wpAny _ _ (Builtin.Itertools.itIntField (.ref it) 1 >>= _) _ _ s
  refine wpAny_bind (wpAny_bind (wpAny_field hit rfl (x := .int 2 0) rfl (wpAny_pure ?_)))
  show wpAny _ _ (rule "itertools.combinations.ended" >>= fun _ => Builtin.Itertools.itStop) _ _ s
  refine wpAny_bind (wpAny_rule ?_)
  exact prm_stop hh q
theorem cmb_iter {it p : Addr} {ph : Int} {bf : Value} {nums : List Nat} {Q : Value → Shared → Prop} (hit : IsCmb s.heap it p ph bf nums) (h : Q (.ref it) s) : wpAny (model prog w) A (pyIter (.ref it)) Q E s := by
  have hT : s.TypeIs (.ref it) "itertools.combinations" := ⟨_, hit, rfl⟩
  refine wpAny_pyIter_slot hT cmb_slot_iter (wpAny_call_entry cmb_slot_iter hT cmb_entry_iter ?_ (cmb_args_iter _))
  show wpAny _ _ (ret (.ref it)) _ _ s
  exact wpAny_pure ⟨_, rfl, "itertools.combinations", _, hT, cmb_slot_next.lookup, h⟩
theorem runC_at {f : NextC} {n : Nat} : ∀ (k : Nat) (i : List Nat) (rows : List (List Nat)), runC f n k i = some rows → rows[0]? = some i ∧ ∀ (j : Nat) (r : List Nat), rows[j]? = some r → f n r = rows[j + 1]? ∧ r.length = i.length
  | 0, _, _, h => by cases h
  | k + 1, i, rows, h => by
    unfold runC at h
    cases e : f n i with
    | none =>
      rw [e] at h
      cases h
      refine ⟨rfl, fun j r hj => ?_⟩
      cases j with
      | zero =>
        cases hj
        exact ⟨by rw [e]; rfl, rfl⟩
      | succ j => cases hj
    | some i' =>
      rw [e] at h
      dsimp only at h
      split at h
      · rename_i hl
        obtain ⟨t, et, rfl⟩ := Option.map_eq_some_iff.mp h
        obtain ⟨h0, h1⟩ := runC_at k i' t et
        refine ⟨rfl, fun j r hj => ?_⟩
        cases j with
        | zero =>
          cases hj
          exact ⟨by rw [e]; exact h0.symm, rfl⟩
        | succ j =>
          obtain ⟨a, b⟩ := h1 j r hj
          exact ⟨a, b.trans hl⟩
      · cases h
theorem cmb_made {t : Addr} {o : Obj} {items : Array Value} {n : Nat} {tk : Tok} {r : Nat} (ho : s.heap.get? t = some o) (hc : o.cls = .type "tuple") (hd : o.data = .seq items n) (hz : items.size ≤ 1000) (hr : r ≤ 1000) :
    MeetsIn prog w (Builtin.«itertools.combinations.__new__» ⟨[.type "itertools.combinations", .ref t, .int (r : Int) tk], []⟩)
    (fun A R s0 => s0 = s ∧ A.handled = none ∧ ∀ (h1 h' : Heap), (∀ b o, s.heap.get? b = some o → h1.get? b = some o) → (∀ b o, h1.get? b = some o → h'.get? b = some o) → h'.get? h1.objs.size = some (tupO items.toList) → IsCmb h' (h1.objs.size + 1) h1.objs.size (if r > items.size then 2 else 0) .none (List.range r) →
      R (.ok (.ret (.ref (h1.objs.size + 1)))) { s with heap := h' }) :=
  .of_wp fun A R s0 h => by
    obtain ⟨rfl, hh, q⟩ := h
    show wpAny _ _ (_ >>= _) _ _ s0
    refine wpAny_bind ?_
    show wpAny _ _ (Builtin.Itertools.itClassAndRest "combinations" ⟨[.type "itertools.combinations", .ref t, .int (r : Int) tk], []⟩ >>= _) _ _ s0
    have e1 : Builtin.Itertools.itClassAndRest "combinations" ⟨[.type "itertools.combinations", .ref t, .int (r : Int) tk], []⟩ = pure (.type "itertools.combinations", [.ref t, .int (r : Int) tk]) := by
      unfold Builtin.Itertools.itClassAndRest
      simp only [isType, pure_bind, Bool.not_true, Bool.false_eq_true, if_false]
      rw [show (("itertools." : String) ++ "combinations") = "itertools.combinations" by decide]
      rw [cmb_sub]
      rfl
    refine wpAny_bind (wpAny_of_eq e1 ?_)
    dsimp only
    refine wpAny_bind (wpAny_of_eq (cmb_bind _ _) ?_)
    dsimp only
    have e3 : Builtin.Itertools.itSsizeArg (.int (r : Int) tk) = pure (r : Int) := by
      unfold Builtin.Itertools.itSsizeArg asIndex
      have e4 : asInt? (Value.int (r : Int) tk) = pure (some (r : Int)) := rfl
      rw [e4]
      simp only [pure_bind]
      rw [if_neg]
      rw [Bool.or_eq_true, decide_eq_true_eq, decide_eq_true_eq]
      have : (2 : Int) ^ 63 = 9223372036854775808 := by decide
      omega
    refine wpAny_bind (wpAny_of_eq e3 ?_)
    refine wpAny_bind (wpAny_collect_seq t (.inr rfl) ho hc hd (fun h' hk => ?_) (by rw [sizeLine_eq]; omega))
    refine wpAny_ite_false (decide_eq_false (by omega)) ?_
    have e2 : Builtin.Itertools.itTooMany (r : Int) = false := by
      unfold Builtin.Itertools.itTooMany
      exact decide_eq_false (by rw [show (2 : Int) ^ 20 = 1048576 from by decide]; omega)
    rw [e2]
    refine wpAny_ite_false rfl ?_
    rw [Int.toNat_natCast]
    refine wpAny_bind (wpAny_newTuple ?_ (by rw [Array.length_toList, sizeLine_eq]; omega))
    refine wpAny_pure ?_
    dsimp only
    refine wpAny_bind ?_
    unfold Builtin.Itertools.itNewRecord
    rw [cmb_noDict]
    refine wpAny_ite_true rfl ?_
    refine wpAny_newObj_type ?_ (by
      show (List.toArray _).size ≤ sizeLine + 2
      rw [List.size_toArray, sizeLine_eq]
      simp
      omega)
    refine wpAny_pure ?_
    have z1 : (h'.push (tupO items.toList)).objs.size = h'.objs.size + 1 := Heap.size_push ..
    have at_ : (((h'.push (tupO items.toList)).push { cls := .type "itertools.combinations", data := .fields ([Value.ref h'.objs.size, rawInt (if r > items.toList.length then 2 else 0), Value.none] ++ (List.range r).map fun (i : Nat) => rawInt i).toArray }).get? (h'.objs.size + 1)) = some { cls := .type "itertools.combinations", data := .fields ([Value.ref h'.objs.size, rawInt (if r > items.toList.length then 2 else 0), Value.none] ++ (List.range r).map fun (i : Nat) => rawInt i).toArray } := by
      rw [← z1]
      exact Heap.get?_push_size _ rfl
    rw [show Value.ref (h'.push (tupO items.toList)).objs.size = Value.ref (h'.objs.size + 1) by rw [z1]]
    refine ⟨_, rfl, q h' _ hk (fun b o e => Heap.get?_push_of_some _ (Heap.get?_push_of_some _ e)) (Heap.get?_push_of_some _ (Heap.get?_push_size _ rfl)) ?_⟩
    refine at_.trans ?_
    rw [Array.length_toList]
    rfl
theorem cmb_call {t : Addr} {o : Obj} {items : Array Value} {n : Nat} {tk : Tok} {r : Nat} {Q : Value → Shared → Prop} (hh : A.handled = none) (ho : s.heap.get? t = some o) (hc : o.cls = .type "tuple") (hd : o.data = .seq items n) (hz : items.size ≤ 1000) (hr : r ≤ 1000)
    (q : ∀ (h1 h' : Heap), (∀ b o, s.heap.get? b = some o → h1.get? b = some o) → (∀ b o, h1.get? b = some o → h'.get? b = some o) → h'.get? h1.objs.size = some (tupO items.toList) → IsCmb h' (h1.objs.size + 1) h1.objs.size (if r > items.size then 2 else 0) .none (List.range r) → Q (.ref (h1.objs.size + 1)) { s with heap := h' }) :
    wpAny (model prog w) A (call (.type "itertools.combinations") [.ref t, .int (r : Int) tk]) Q E s := by
  refine callType_newIn cmb_called (by decide +kernel) (cmb_typeCall _ _) (cmb_newCall _ _) (fun obj => F.args_object_init_3 obj _ _) cmb_entry_new (cmb_made ho hc hd hz hr) ?_
  refine ⟨rfl, hh, fun h1 h' k1 k2 k3 k4 => ?_⟩
  show _ ∧ _
  exact ⟨⟨_, k4, rfl⟩, q h1 h' k1 k2 k3 k4⟩
end
end Zc

set_option Elab.async false
set_option linter.all false
set_option maxRecDepth 100000
set_option maxHeartbeats 2000000
namespace Zc
theorem cmbs_nil {α : Type} : ∀ (r : Nat) (l : List α), l.length < r → cmbs r l = []
  | 0, _, h => absurd h (Nat.not_lt_zero _)
  | r + 1, [], _ => rfl
  | r + 1, x :: l, h => by
    rw [List.length_cons] at h
    unfold cmbs
    rw [cmbs_nil r l (by omega), cmbs_nil (r + 1) l (by omega)]
    rfl
theorem cmbs_mem {α : Type} : ∀ (r : Nat) (l : List α) (x : List α), x ∈ cmbs r l → x.length = r ∧ ∀ k ∈ x, k ∈ l
  | 0, l, x, h => by
    unfold cmbs at h
    rw [List.mem_singleton] at h
    subst h
    exact ⟨rfl, fun _ z => nomatch z⟩
  | r + 1, [], x, h => nomatch h
  | r + 1, y :: l, x, h => by
    unfold cmbs at h
    rcases List.mem_append.mp h with h | h
    · obtain ⟨z, hz, rfl⟩ := List.mem_map.mp h
      obtain ⟨a, b⟩ := cmbs_mem r l z hz
      refine ⟨by rw [List.length_cons, a], fun k hk => ?_⟩
      rcases List.mem_cons.mp hk with rfl | hk
      · exact List.mem_cons_self
      · exact List.mem_cons_of_mem _ (b k hk)
    · obtain ⟨a, b⟩ := cmbs_mem (r + 1) l x h
      exact ⟨a, fun k hk => List.mem_cons_of_mem _ (b k hk)⟩
theorem cmbs_map {α β : Type} (f : α → β) : ∀ (r : Nat) (l : List α), cmbs r (l.map f) = (cmbs r l).map (List.map f)
  | 0, l => by unfold cmbs; rfl
  | r + 1, [] => rfl
  | r + 1, x :: l => by
    rw [List.map_cons]
    unfold cmbs
    rw [cmbs_map f r l, cmbs_map f (r + 1) l, List.map_append, List.map_map, List.map_map]
    rfl
end Zc
namespace Z
open PySem PySem.Spec PyProof.Rows L2 Zp Zc
def pickVV (vs : List V) (ind : List Nat) : List V := ind.map fun i => vs.getD i .non
def Itk (rows : List (List Nat)) (vs : List V) : It where
  go i _ := i < rows.length
  yld i H v H' := ∃ (ind : List Nat) (T : Addr) (o : Obj), rows[i]? = some ind ∧ v = .ref T ∧ H T = none ∧ o.dict = none ∧ H' = upd H T (.frz o (.tup (pickVV vs ind)))
  stop i _ := rows.length ≤ i
def cmbTn (its : List Value) (p it : Addr) (r : Nat) (i : Nat) (h : Heap) : Prop := p ≠ it ∧ h.get? p = some (tupO its) ∧ ((i = 0 ∧ IsCmb h it p (if r > its.length then 2 else 0) .none (List.range r)) ∨
  ∃ (bf : Value) (ind : List Nat) (j : Nat), i = j + 1 ∧ (cmbs r (List.range its.length))[j]? = some ind ∧ IsCmb h it p 1 bf ind)
theorem vals_pkv {vs : List V} {its : List Value} (hv : Vals vs its) {ind : List Nat} (h : ∀ k ∈ ind, k < its.length) : Vals (pickVV vs ind) (pickV its ind) := by
  induction ind with
  | nil => exact .nil
  | cons k ind ih =>
    refine .cons ?_ (ih fun j hj => h j (List.mem_cons_of_mem _ hj))
    have hk := h k List.mem_cons_self
    have hl := hv.length
    obtain ⟨u, e1, e2⟩ := hv.get (i := k) (show vs[k]? = some vs[k] from List.getElem?_eq_getElem (by omega))
    show RelV (vs.getD k .non) (its.getD k Value.none)
    rw [List.getD_eq_getElem?_getD, List.getD_eq_getElem?_getD, e1, List.getElem?_eq_getElem (by omega)]
    exact e2
theorem turn_cmb {P : Program} {w : World} {K : PySem.W.Frag} {tg : Expr} {its : List Value} {vs : List V} {p it : Addr} {r : Nat} (hv : Vals vs its) (hn : its.length ≤ 12) (hr : r ≤ 6) :
    Turn P w K tg (Itk (cmbs r (List.range its.length)) vs) [it, p] it (cmbTn its p it r) := by
  obtain ⟨f, hf, hrun⟩ := cmb_ex
  have chain : r ≤ its.length → (cmbs r (List.range its.length))[0]? = some (List.range r) ∧ ∀ (j : Nat) (q : List Nat), (cmbs r (List.range its.length))[j]? = some q → f its.length q = (cmbs r (List.range its.length))[j + 1]? ∧ q.length = (List.range r).length := fun h => runC_at _ _ _ (hrun its.length hn r hr h)
  have none_ : ¬ r ≤ its.length → cmbs r (List.range its.length) = [] := fun h => cmbs_nil _ _ (by rw [List.length_range]; omega)
  have mem : ∀ (j : Nat) (q : List Nat), (cmbs r (List.range its.length))[j]? = some q → q.length = r ∧ ∀ k ∈ q, k < its.length := fun j q h => by
    obtain ⟨a, b⟩ := cmbs_mem _ _ q (List.mem_of_getElem? h)
    exact ⟨a, fun k hk => List.mem_range.mp (b k hk)⟩
  have there : ∀ i h, cmbTn its p it r i h → (∃ ph bf q, IsCmb h it p ph bf q) := fun i h st => by
    rcases st.2.2 with ⟨_, z⟩ | ⟨bf, q, j, _, _, z⟩
    · exact ⟨_, _, _, z⟩
    · exact ⟨_, _, _, z⟩
  refine { mem := by simp, obj := fun i h st b hb => ?_, keep := fun i h h' st k => ?_, item := ?_, done := ?_, self := fun A i s Q E st h => ?_ }
  · obtain ⟨ph, bf, q, z⟩ := there i h st
    rcases List.mem_cons.mp hb with rfl | hb
    · exact ⟨_, z, fun v z' => by
        have z' : Data.fields _ = Data.cell v := z'
        cases z'⟩
    · rw [List.mem_singleton.mp hb]
      exact ⟨_, st.2.1, fun v z' => by
        have z' : Data.seq _ _ = Data.cell v := z'
        cases z'⟩
  · refine ⟨st.1, k p (by simp) _ st.2.1, ?_⟩
    rcases st.2.2 with ⟨a, z⟩ | ⟨bf, q, j, a, b, z⟩
    · exact .inl ⟨a, k it (by simp) _ z⟩
    · exact .inr ⟨bf, q, j, a, b, k it (by simp) _ z⟩
  · intro X hP hw hK hc i pins s σ H E I hfp st hg
    subst hP hw hK
    have hh := I.ok.hd hc
    obtain ⟨phx, bfx, qx, zx⟩ := there i _ st
    have hitlt : it < s.heap.objs.size := Heap.lt_size zx
    have hplt : p < s.heap.objs.size := Heap.lt_size st.2.1
    have fin : ∀ (q : List Nat) (h' : Heap), (cmbs r (List.range its.length))[i]? = some q → IsCmb h' it p 1 (.ref s.heap.objs.size) q → h'.get? s.heap.objs.size = some (tupO (pickV its q)) → (∀ b o, b ≠ it → s.heap.get? b = some o → h'.get? b = some o) →
        ∃ u, some (Value.ref s.heap.objs.size) = some u ∧ wpAny (model X.prog X.w) X.A (letOwnedTupleGo tg (.ref it) u) (fun _ s2 => ∃ x H', L2.Inv X pins σ H' s2 ∧ RelV x u ∧ (Itk (cmbs r (List.range its.length)) vs).yld i H x H' ∧ cmbTn its p it r (i + 1) s2.heap ∧ ∀ b ∈ [it, p], H' b = none) E { s with heap := h' } := by
      intro q h' hq k1 k2 k3
      refine ⟨_, rfl, go_of (s := { s with heap := h' }) (n := "itertools.combinations") k1 rfl rfl (by decide) ?_⟩
      obtain ⟨ml, mk⟩ := mem i q hq
      have vp := vals_pkv hv mk
      have hn0 : H s.heap.objs.size = none := I.hok.fresh (Nat.le_refl _)
      have J := I.turnedNew (h' := h') (t' := s.toks) (ch := [it, p]) (T := s.heap.objs.size) (ob := .frz (tupO (pickV its q)) (.tup (pickVV vs q))) (fun b o hb e => k3 b o (fun z => hb (by rw [z]; simp)) e) hfp (Nat.le_refl _)
        ⟨k2, by rw [vp.length, List.length_map, ml, sizeLine_eq]; omega, _, vp, ⟨_, k2, rfl, _, rfl⟩⟩
      refine ⟨.ref s.heap.objs.size, _, J, rfl, ⟨q, _, _, hq, rfl, hn0, rfl, rfl⟩, ⟨st.1, k3 p _ st.1 st.2.1, .inr ⟨_, q, i, rfl, hq, k1⟩⟩, fun b hb => ?_⟩
      have hbl : b < s.heap.objs.size := by
        rcases List.mem_cons.mp hb with rfl | hb
        · exact hitlt
        · rw [List.mem_singleton.mp hb]; exact hplt
      rw [upd_ne (Nat.ne_of_lt hbl)]
      exact (hfp b hb).1
    have hg : i < (cmbs r (List.range its.length)).length := hg
    by_cases hrn : r ≤ its.length
    · obtain ⟨c0, c1⟩ := chain hrn
      rcases st.2.2 with ⟨rfl, z⟩ | ⟨bf, q, j, rfl, hq, z⟩
      · rw [if_neg (by omega)] at z
        refine pyNext_some (cmb_first z st.2.1 st.1 (by rw [List.length_range]; omega) fun h' k1 k2 k3 => ⟨_, rfl, fin _ h' c0 k1 k2 k3⟩)
      · obtain ⟨e1, e2⟩ := c1 j q hq
        refine pyNext_some (hf hh z st.2.1 st.1 (by rw [e2, List.length_range]; omega) (fun q' hq' => ?_) (fun q' h' hq' k1 k2 k3 => ⟨_, rfl, fin q' h' (e1 ▸ hq') k1 k2 k3⟩) fun e h' he _ _ => ?_)
        · rw [e1] at hq'
          rw [e2]
          exact (c1 _ _ hq').2
        · rw [e1, List.getElem?_eq_getElem hg] at he
          cases he
    · rw [none_ hrn] at hg
      exact absurd hg (Nat.not_lt_zero _)
  · intro X hP hw hK hc i pins s σ H E I hfp st hg
    subst hP hw hK
    have hh := I.ok.hd hc
    obtain ⟨f0, f1, f2, f3, f4, f5⟩ := hfp it (by simp)
    have hg : (cmbs r (List.range its.length)).length ≤ i := hg
    have back : ∀ h', (∀ b o, b ≠ it → s.heap.get? b = some o → h'.get? b = some o) → L2.Inv X pins σ H { s with heap := h' } := fun h' k => I.turned (t' := s.toks) k f0 f1 f3 f4 f5
    rcases st.2.2 with ⟨rfl, z⟩ | ⟨bf, q, j, rfl, hq, z⟩
    · have hrn : ¬ r ≤ its.length := fun h => by
        have c0 := (chain h).1
        rw [List.getElem?_eq_none hg] at c0
        cases c0
      rw [if_pos (by omega)] at z
      refine pyNext_some (cmb_ended hh z fun e h' st' k => ?_)
      obtain ⟨a, o, vs', rfl, g1, g2, _⟩ := st'
      exact ⟨⟨o, g1, g2, a, rfl⟩, rfl, back h' fun b o _ e => k b o e⟩
    · by_cases hrn : r ≤ its.length
      · obtain ⟨c0, c1⟩ := chain hrn
        obtain ⟨e1, e2⟩ := c1 j q hq
        rw [List.getElem?_eq_none hg] at e1
        refine pyNext_some (hf hh z st.2.1 st.1 (by rw [e2, List.length_range]; omega) (fun q' hq' => by rw [e1] at hq'; cases hq') (fun q' h' hq' => by rw [e1] at hq'; cases hq') fun e h' _ st' k => ?_)
        obtain ⟨a, o, vs', rfl, g1, g2, _⟩ := st'
        exact ⟨⟨o, g1, g2, a, rfl⟩, rfl, back h' k⟩
      · rw [none_ hrn] at hq
        cases hq
  · obtain ⟨ph, bf, q, z⟩ := there i _ st
    exact cmb_iter z h
/-- combinations(tuple, n) -/
def iCmb (K : PySem.W.Frag) (ta : TA) : TI := fun σ H R => ta σ H fun us H1 => ∃ (a : Addr) (xs : List V) (r : Nat), us = [.ref a, .int (r : Int)] ∧ SqT K H1 a xs ∧ xs.length ≤ 12 ∧ r ≤ 6 ∧ R (Itk (cmbs r (List.range xs.length)) xs) H1
theorem pi_cmb {X : Cx} {tg e1 e2 : Expr} {ta : TA} {p pos : Pos} (hc : X.calm = true) (hg : Gl X "combinations") (hm : X.mg "combinations" = some (.type "itertools.combinations")) (ha : PA X [e1, e2] ta) (hs : starEach [e1, e2] X.env = (false, eval e1 X.env) :: starEach [e2] X.env := by rfl)
    (hpl : (backTo pos (starEach [e2] X.env)).any (·.1) = false := by rfl) : PI X tg (.Call (.Name "combinations" p) [e1, e2] [] pos) (iCmb X.K ta) := by
  refine ⟨fun pins s σ H R I h => ?_⟩
  refine wpAny_Call_Name_kw (ld_glob I hg hm (PyProof.Rows.callWith_type1 (thn (ha.run pos pins s σ H _ I h) fun us s1 ⟨vs, H1, I1, r1, q1⟩ => ?_) hs hpl))
  obtain ⟨a, xs, r, ex, hq, hl, hr, q⟩ := q1
  subst ex
  cases r1 with
  | cons ra rr =>
    cases rr with
    | cons rb rc =>
      cases rc
      cases ra
      obtain ⟨tk, rfl⟩ := rb
      obtain ⟨its, rv, ⟨o, ho, hcl, n, hd⟩, hz⟩ := I1.tuple hq
      have hln := rv.length
      refine cmb_call (I1.ok.hd hc) ho hcl hd (by rw [List.size_toArray]; omega) (by omega) fun h1 h' k1 k2 k3 k4 => ?_
      refine cmb_iter k4 ?_
      have I2 : L2.Inv X pins σ H1 { s1 with heap := h1 } := I1.kept (t' := s1.toks) k1
      have I3 : L2.Inv X pins σ H1 { s1 with heap := h' } := I2.kept (t' := s1.toks) k2
      rw [List.size_toArray] at k4
      refine ⟨h1.objs.size + 1, [h1.objs.size + 1, h1.objs.size], _, _, H1, rfl, I3, turn_cmb (its := its) (p := h1.objs.size) (r := r) rv (by omega) hr, ⟨Nat.ne_of_lt (Nat.lt_succ_self _), k3, .inl ⟨rfl, k4⟩⟩, fun b hb => ?_, by rw [hln] at q; exact q⟩
      have hb' : h1.objs.size ≤ b := by
        rcases List.mem_cons.mp hb with rfl | hb
        · exact Nat.le_succ _
        · rw [List.mem_singleton.mp hb]; exact Nat.le_refl _
      exact I2.fpOk hb' (I2.hok.fresh hb')
end Z

set_option Elab.async false
set_option linter.all false
set_option maxRecDepth 100000
set_option autoImplicit false
set_option maxHeartbeats 4000000
namespace Z
open PySem PySem.Spec PyProof.Rows L2 Zp Zc
def cmbD (r : Nat) (xs : List D) : List D := (cmbs r (List.range xs.length)).map fun ind => .tuple (ind.map fun i => xs.getD i .none)
def kcG (vs : List Nat) (t : Tg) (me mv : M D) : List D → List (List Int × PyData) → M (List (List Int × PyData))
  | [], ds, g => .ok ds g
  | x :: xs, ds, g => match setT t x g with
    | none => .bad
    | some g1 => match me g1 with
      | .ok (.tuple ks) g2 => match intsD ks with
        | some k => match mv g2 with
          | .ok y g3 => kcG vs t me mv xs (dkPut ds k y) (wipG g3 vs)
          | _ => .bad
        | none => .bad
      | _ => .bad
def kcB (vs : List Nat) (t : Tg) (me mv : M D) (xs : List D) : M (List D) := fun g => if xs.length ≤ 100000 ∧ noOwn g vs = true then match kcG vs t me mv xs [] (wipG g vs) with
    | .ok ds g' => if okDk ds = true then .ok (sortD (ds.map keyT)) (rstG g g' vs) else .bad
    | _ => .bad
  else .bad
def cmQ (vs : List Nat) (t : Tg) (me mv : M D) (rs : List Rs) : M (List D) := fun g => match rs with
  | [a, b] => match vl g a, vl g b with
    | some (.tuple xs), some (.int n) => if 0 ≤ n ∧ n ≤ 6 ∧ xs.length ≤ 12 then kcB vs t me mv (cmbD n.toNat xs) g else .bad
    | _, _ => .bad
  | _ => .bad
def sSortC (vs : List Nat) (t : Tg) (m : M (List Rs)) (me mv : M D) : M (List D) := bnd m (cmQ vs t me mv)
theorem dqa_pick {K : PySem.W.Frag} {G : Hp} {ws : List V} {xs : List D} (h : DqAll K G ws xs) : ∀ ind : List Nat, (∀ k ∈ ind, k < xs.length) → DqAll K G (pickVV ws ind) (ind.map fun i => xs.getD i .none)
  | [], _ => .nil
  | k :: ind, hk => by
    refine .cons ?_ (dqa_pick h ind fun j hj => hk j (List.mem_cons_of_mem _ hj))
    have lt := hk k List.mem_cons_self
    have el := dpa_length h
    obtain ⟨d, e1, e2⟩ := dpa_get' h (i := k) (show ws[k]? = some ws[k] from List.getElem?_eq_getElem (by omega))
    show Dq K G (ws.getD k .non) (xs.getD k .none)
    rw [List.getD_eq_getElem?_getD, List.getD_eq_getElem?_getD, List.getElem?_eq_getElem (by omega), e1]
    exact e2
theorem kn_run {X : Cx} {W : WX} {σ : St} {H : Hp} {Q : VK} {vs : List Nat} {t : Tg} {m : M (List Rs)} {me mv : M D} (hv : ∀ i ∈ tgS t, i ∈ vs) (p : zt X W rhoO (sSortC vs t m me mv) σ H Q) :
    tKn (iCmb X.K (zt X W rhoRs m)) (zG X t) (zt X W0 rhoB (rt true)) (putKV X.K (zt X W0 rhoD me) (zt X W0 rhoD mv)) vs σ H fun v H' => ∃ u, [v] = [u] ∧ rSortK X.K u H' Q :=
  (zt_bnd (ρ := rhoRs) p).imp fun us H1 ⟨rs, F, G, Mu, Γ, R, h1, q⟩ => by
    unfold cmQ at q
    split at q
    case h_2 => exact q.elim
    rename_i ra rb
    obtain ⟨va, ut, eu, ha, vb, un, eun, hb, en⟩ := h1
    subst eu eun
    have en : un = [] := en
    subst en
    have ha : rhoR X.K F G Mu Γ σ H1 ra va := ha
    have hb : rhoR X.K F G Mu Γ σ H1 rb vb := hb
    split at q
    case h_2 => exact q.elim
    rename_i xs n ea eb
    obtain ⟨la, ws, rfl, tn, dw⟩ := (R.read ha ea).tup R.gh
    have ei := (R.read hb eb).int
    subst ei
    split at q
    case isFalse => exact q.elim
    rename_i hb3
    obtain ⟨n0, n6, x12⟩ := hb3
    have lw := dpa_length dw
    refine ⟨la, ws, n.toNat, by rw [Int.toNat_of_nonneg n0], tn.sq, by omega, by omega, fun l nl => ?_⟩
    generalize hrw : cmbs n.toNat (List.range ws.length) = rows
    have exs : cmbD n.toNat xs = rows.map fun ind => .tuple (ind.map fun i => xs.getD i .none) := by
      unfold cmbD
      rw [← hrw, lw]
    have small : ∀ ind ∈ rows, ∀ k ∈ ind, k < xs.length := fun ind hi k hk => by
      rw [← hrw] at hi
      have := List.mem_range.mp ((cmbs_mem _ _ ind hi).2 k hk)
      omega
    rw [exs] at q
    generalize hds : (rows.map fun ind => PyData.tuple (ind.map fun i => xs.getD i .none)) = D0 at q
    have D0l : D0.length = rows.length := by rw [← hds, List.length_map]
    unfold kcB at q
    split at q
    case isFalse => exact q.elim
    rename_i hz
    obtain ⟨hz, no⟩ := hz
    have nF : F l = none := R.fh.free nl
    have nG : G l = none := R.gh.free nl
    have nM : Mu ≠ some l := fun z => (R.mu l z).2.2 nl
    have nO : ∀ i, ¬ Owns (wipG Γ vs) (wipe σ vs) i l := fun i h => by
      obtain ⟨_, _, us, z⟩ := (R.wipe vs).there h
      rw [nl] at z
      cases z
    cases e1 : kcG vs t me mv D0 [] (wipG Γ vs) with
    | bad => rw [e1] at q; exact q.elim
    | ex c y Γ1 => rw [e1] at q; exact q.elim
    | ok zs Γz =>
      rw [e1] at q
      dsimp only at q
      split at q
      case isFalse => exact q.elim
      case isTrue okS =>
      let Pv : Nat → Hp → Prop := fun i H' => ∃ G' Γ' es ds, Same G G' ∧ Rel X.K (F.lock l (DkO l es) nF) G' Mu Γ' (wipe σ vs) H' ∧ DkAll X.K G' es ds ∧ es.length ≤ i ∧ kcG vs t me mv (D0.drop i) ds Γ' = .ok zs Γz
      refine ⟨fun i m H' => m + i = rows.length ∧ Pv i H', ⟨rows.length, Nat.add_zero _, G, wipG Γ vs, [], [], Same.refl _, ((R.wipe vs).newX nl).lock nF upd_same nG nM nO, .nil, Nat.le_refl _, e1⟩, ?_⟩
      rintro i m H' ⟨hm, G', Γ', es, ds, g, R', dk, few, run⟩
      have hi : i ≤ rows.length := by omega
      rcases Nat.lt_or_eq_of_le hi with lt | eq
      · refine .inr ⟨lt, Pv (i + 1), fun H2 w2 => ⟨m - 1, by omega, by omega, w2⟩, fun v H2 y => ?_⟩
        obtain ⟨ind, T, o, hind, rfl, nT, od, rfl⟩ := y
        have hx : D0[i]? = some (.tuple (ind.map fun i => xs.getD i .none)) := by rw [← hds, List.getElem?_map, hind]; rfl
        have hdr : D0.drop i = .tuple (ind.map fun i => xs.getD i .none) :: D0.drop (i + 1) := by
          obtain ⟨hl, e⟩ := List.getElem?_eq_some_iff.mp hx
          rw [← e]
          exact List.drop_eq_getElem_cons hl
        rw [hdr, kcG] at run
        split at run
        · cases run
        · rename_i g1 e2
          obtain ⟨Rn, gn⟩ := R'.new (o := .frz o (.tup (pickVV ws ind))) nT
          have dq : Dq X.K (upd G' T (.frz o (.tup (pickVV ws ind)))) (.ref T) (.tuple (ind.map fun i => xs.getD i .none)) :=
            .tup (.new od) (dpAll_mono (g.trans gn) _ _ (dqa_pick dw ind (small ind (List.mem_of_getElem? hind))))
          refine ⟨_, _, Mu, Γ', g1, _, Rn, dq, e2, fun σ2 R2 off => ⟨wipe_off off hv, ?_⟩⟩
          have ew := wipe_off off hv
          split at run
          · rename_i ks g2 e4
            split at run
            · rename_i k ek
              split at run
              · rename_i yv g3 e5
                refine ⟨_, _, Mu, g1, R2, ?_⟩
                intro bb H3 G3 k3 R3 hbb
                cases (show true = bb from hbb)
                rw [if_pos rfl]
                refine ⟨_, G3, Mu, g1, R3, ?_⟩
                rw [e4]
                intro u H4 G4 k4 R4 hd
                refine ⟨_, G4, Mu, g2, R4, ?_⟩
                rw [e5]
                intro z H5 G5 k5 R5 hzv
                obtain ⟨R6, j1, j2, j3, j4⟩ := R5.unlock
                have hd' : Dq X.K G4 u (.tuple ks) := hd
                obtain ⟨a, tnk⟩ : ∃ a, u = .ref a ∧ TupN X.K G5 a (k.map V.int) := by
                  cases hd' with
                  | tup t1 t2 =>
                    have ek' := intsD_is ek
                    subst ek'
                    have ev := dpa_ints' t2
                    subst ev
                    exact ⟨_, rfl, t1.mono k5⟩
                have up : Same G' G5 := ((gn.trans k3).trans k4).trans k5
                have dk5 := dkAll_up up dk
                have o7 : ∀ i, ¬ Owns (wipG g3 vs) (wipe σ vs) i l := fun i h => by
                  have R8 := R5.wipe vs
                  rw [ew] at R8
                  have := (R8.there h).1
                  rw [show (F.lock l (DkO l es) nF) l = some (DkO l es) from upd_same] at this
                  cases this
                have R7 := R6.wipe vs
                rw [ew] at R7
                refine ⟨es, ds, k, a, G5, tnk.1, j1, dk5, R5.gh, tnk.2, by rw [sizeLine_eq]; omega, G5, wipG g3 vs, dkPutE es k a z, dkPut ds k yv, g.trans up, (R7.poke (o := DkO l (dkPutE es k a z)) nF j2 j3 o7).lock nF upd_same j2 j3 o7, dkAll_put tnk.2 hzv dk5, Nat.le_trans (dkPutE_len es k a z) (by omega), run⟩
              · cases run
            · cases run
          · cases run
      · subst eq
        refine .inl ⟨Nat.le_refl _, ?_⟩
        rw [← D0l, List.drop_length, kcG] at run
        cases run
        obtain ⟨R5, j1, j2, j3, j4⟩ := R'.unlock
        have R6 := R.back R5 g no
        refine ⟨_, rfl, l, es, zs, G', rfl, j1, dk, R'.gh, okS, fun p us np dv => ?_⟩
        obtain ⟨R7, ro⟩ := R6.newO np dv
        exact q _ _ G' g R7 ro
section
variable {X : Cx} {e1 e2 ke ve tg : Expr} {scope : Scope} {pos cpos p p2 pos2 : Pos} {t : Tg} {m : M (List Rs)} {me mv : M D}
theorem do_sortCmb (own : List (Str × Nat)) (hc : X.calm = true) (hu : X.A.units + 64 < cLine) (hsg : Gl X "sorted") (hsm : X.mg "sorted" = none) (hg2 : Gl X "combinations") (hm2 : X.mg "combinations" = some (.type "itertools.combinations")) (hN : X.N.Nodup) (ha : DVs X [e1, e2] m) (ok : BlkOk X.N X.env.scope scope own)
    (hg : ∀ (s : Shared) (H : Hp) (C : Addr) (cl : List (Str × Addr)) (fp : List Addr), DG (X.blk s H scope (compEnvC scope cl C X.env) fp) tg t)
    (hk : ∀ (s : Shared) (H : Hp) (C : Addr) (cl : List (Str × Addr)) (fp : List Addr), DP (X.blk s H scope (compEnvC scope cl C X.env) fp) ke me)
    (hv : ∀ (s : Shared) (H : Hp) (C : Addr) (cl : List (Str × Addr)) (fp : List Addr), DP (X.blk s H scope (compEnvC scope cl C X.env) fp) ve mv) (hi : ∀ i ∈ tgS t, i ∈ own.map (·.2)) 
    (hs : ∀ x, foldedSetIterable (.Call (.Name "combinations" p2) [e1, e2] [] pos2) X.env x = pure x := by intro _; rfl)
    (hsa : starEach [e1, e2] X.env = (false, eval e1 X.env) :: starEach [e2] X.env := by rfl) (hpl2 : (backTo pos2 (starEach [e2] X.env)).any (·.1) = false := by rfl)
    (hst : starEach [Expr.DictComp ke ve [⟨tg, .Call (.Name "combinations" p2) [e1, e2] [] pos2, [], 0⟩] scope pos] X.env = (false, eval (.DictComp ke ve [⟨tg, .Call (.Name "combinations" p2) [e1, e2] [] pos2, [], 0⟩] scope pos) X.env) :: starEach [] X.env := by rfl) (hpl : (backTo cpos (starEach [] X.env)).any (·.1) = false := by rfl) :
    DO X (.Call (.Name "sorted" p) [.DictComp ke ve [⟨tg, .Call (.Name "combinations" p2) [e1, e2] [] pos2, [], 0⟩] scope pos] [] cpos) (sSortC (own.map (·.2)) t m me mv) := fun W tk =>
  pe_imp (pe_callB (cr_sortK hc hu) hsg hsm boot_sorted (pa_cons (pe_kn (g := zG X t) (tt := zt X W0 rhoB (rt true)) (tk := zt X W0 rhoD me) (tv := zt X W0 rhoD mv) hc hu hN (pi_cmb hc hg2 hm2 (ha W tk) hsa hpl2) ok (fun s H C cl fp => hg s H C cl fp) (fun s H C cl fp => dts_nil W0 takes0) (fun s H C cl fp => hk s H C cl fp W0 takes0) (fun s H C cl fp => hv s H C cl fp W0 takes0) hs) pa_nil hst) (by decide) (by decide) hst hpl) fun σ H Q p => kn_run hi p
end
end Z

set_option Elab.async false
set_option linter.all false
set_option maxRecDepth 100000
set_option autoImplicit false
set_option maxHeartbeats 1000000
namespace Z
open PySem PySem.Spec PyProof.Rows L2
def sNewDk (i : Nat) : M Fl := fun g => .ok .nx (g.set i (.dk []))
def sSortDk (i : Nat) : M (List D) := fun g => match g[i]? with
  | some (.dk ds) => if okDk ds = true then .ok (sortD (ds.map keyT)) g else .bad
  | _ => .bad
section
variable {X : Cx} {i : Nat} {x : Str} {pos pos' pd p p2 : Pos}
theorem ds_newDk (hN : X.N.Nodup) (hi : X.N[i]? = some x) (hx : Loc X.env.scope x) (hs : swapsWith (.Dict [] [] pd) (some (.Name x pos')) pos.line X.env = pure false := by rfl)
    (hf : X.fn x = true ∨ X.env.scope.names.lookup x = some .local := by first | exact .inl rfl | exact .inr rfl | assumption) : DS X (.Assign [.Name x pos'] (.Dict [] [] pd) pos) (sNewDk i) := fun W tk =>
  ps_imp (ps_set hN hi hx pe_dnewX hs hf) fun D σ H ⟨F, G, Mu, Γ, R, q⟩ p0 hp0 => by
    refine q _ (upd H p0 (DkO p0 [])) G (Same.refl _) ?_
    have R1 : Rel X.K F G Mu Γ σ (upd H p0 (DkO p0 [])) := R.newX hp0
    refine R1.store (i := i) (sv := .dk []) (v := .ref p0) ⟨p0, [], rfl, upd_same, .nil, R.fh.free hp0, R.gh.free hp0, fun z => (R.mu p0 z).2.2 hp0⟩ fun _ k l' e1 ho => ?_
    cases e1
    obtain ⟨_, _, o, w⟩ := R.there ho
    rw [hp0] at w
    cases w
theorem do_sortDk (hc : X.calm = true) (hu : X.A.units + 64 < cLine) (hg : Gl X "sorted") (hm : X.mg "sorted" = none) (hi : X.N[i]? = some x) (hv : Vis X.env.scope x) (hd : (x == ("__debug__" : Str)) = false := by decide) (hcd : (x == ("__classdict__" : Str)) = false := by decide)
    (hs : starEach [.Name x p2] X.env = (false, eval (.Name x p2) X.env) :: starEach [] X.env := by rfl) (hpl : (backTo pos (starEach [] X.env)).any (·.1) = false := by rfl) :
    DO X (.Call (.Name "sorted" p) [.Name x p2] [] pos) (sSortDk i) := fun W tk =>
  pe_imp (pe_callB (cr_sortK hc hu) hg hm boot_sorted (pa_cons (pe_var hi hv hd hcd) pa_nil hs) (by decide) (by decide) hs hpl) fun σ H Q ⟨F, G, Mu, Γ, R, q⟩ => by
    unfold sSortDk at q
    split at q
    · rename_i ds hg'
      split at q
      · rename_i ok
        obtain ⟨l, es, j1, j2, j3, j4, j5, j6, jo⟩ := R.dkd hg'
        refine ⟨_, j1, _, rfl, l, es, ds, G, rfl, j2, j3, R.gh, ok, fun p us np dv => ?_⟩
        obtain ⟨R7, ro⟩ := R.newO np dv
        exact q _ _ G (Same.refl _) R7 ro
      · exact q.elim
    · exact q.elim
end
theorem sNewDk_at (i : Nat) (g : En) : sNewDk i g = .ok .nx (g.set i (.dk [])) := Eq.trans rfl rfl
def srtR (o : Option SV) (g : En) : Ro (List D) := match o with
  | some (.dk ds) => if okDk ds = true then .ok (sortD (ds.map keyT)) g else .bad
  | _ => .bad
theorem sSortDk_at (i : Nat) (g : En) : sSortDk i g = srtR g[i]? g := Eq.trans rfl rfl
theorem sSortC_at (vs : List Nat) (t : Tg) (m : M (List Rs)) (me mv : M D) (g : En) : sSortC vs t m me mv g = (m g).thn (c := ⟨fun rs g1 => cmQ vs t me mv rs g1⟩) := Eq.trans rfl rfl
end Z

set_option Elab.async false
set_option linter.all false
set_option maxRecDepth 100000
set_option maxHeartbeats 2000000
namespace Zp
open PySem PySem.Spec PyProof.Rows
open Sem (wp)
section
variable {prog : Program} {w : World} {A : Around} {E : Value → Shared → Prop} {s : Shared}
def runM (f : NextF) (n : Nat) : Nat → List Nat → List Nat → Option (List (List Nat) × List Nat × List Nat)
  | 0, i, c => some ([], i, c)
  | k + 1, i, c => match f n n i c with
    | none => none
    | some (i', c') => if i'.length = n ∧ c'.length = n then (runM f n k i' c').map (fun r => (i :: r.1, r.2)) else none
theorem run_cat {f : NextF} {n b : Nat} : ∀ (a : Nat) {i c : List Nat} {r r' : List (List Nat)} {i' c' : List Nat}, runM f n a i c = some (r, i', c') → runN f n b i' c' = some r' → runN f n (b + a) i c = some (r ++ r')
  | 0, i, c, r, r', i', c', h, k => by
    cases h
    exact k
  | a + 1, i, c, r, r', i', c', h, k => by
    unfold runM at h
    rw [show b + (a + 1) = (b + a) + 1 by omega]
    unfold runN
    cases e : f n n i c with
    | none => rw [e] at h; cases h
    | some ic =>
      obtain ⟨i2, c2⟩ := ic
      rw [e] at h
      dsimp only at h ⊢
      split at h
      · rename_i hl
        rw [if_pos hl]
        obtain ⟨⟨r0, i0, c0⟩, e2, e3⟩ := Option.map_eq_some_iff.mp h
        cases e3
        rw [run_cat a e2 k]
        rfl
      · cases h
abbrev st7 (j : Nat) : List Nat × List Nat := (j :: (List.range 7).erase j, (7 - j) :: [6, 5, 4, 3, 2, 1])
abbrev ro7 (j : Nat) : List (List Nat) := (pmL 6 ((List.range 7).erase j)).map (j :: ·)
abbrev ch7 (f : NextF) (j : Nat) : Prop := runM f 7 720 (st7 j).1 (st7 j).2 = some (ro7 j, (st7 (j + 1)).1, (st7 (j + 1)).2)
theorem prm_ex7a : ∃ f : NextF, NextOk f ∧ (∀ n, n ≤ 6 → runN f n 5041 (List.range n) ((List.range n).map fun i => n - i) = some (pmL n (List.range n))) ∧ ch7 f 0 ∧ ch7 f 1 ∧ ch7 f 2 ∧ ch7 f 3 ∧ ch7 f 4 ∧ ch7 f 5 ∧ runN f 7 721 (st7 6).1 (st7 6).2 = some (ro7 6) := by
  apply Exists.intro
  refine ⟨?a, ?b⟩
  intro prog w A E s it p n its bf ind cyc Q hh hit hp hpi hn hn2 hi hl q1 q2
  have hT : s.TypeIs (.ref it) "itertools.permutations" := ⟨_, hit, rfl⟩
  refine wpAny_callSpecial?_slot (name := Str.ofString "__next__") hT prm_slot_next (wpAny_call_entry prm_slot_next hT prm_entry_next ?_ (prm_args_next _))
  show wpAny _ _ (field (.ref it) 0 >>= _) _ _ s
  refine wpAny_bind (wpAny_field hit rfl (x := .ref p) rfl ?_)
  show wpAny _ _ (Builtin.Itertools.itPoolItems (.ref p) >>= _) _ _ s
  refine wpAny_bind ?_
  unfold Builtin.Itertools.itPoolItems
  refine wpAny_bind (wpAny_seqItems hp rfl ?_)
  refine wpAny_pure ?_
  show wpAny _ _ (Builtin.Itertools.itIntField (.ref it) 2 >>= _) _ _ s
  refine wpAny_bind ?_
  unfold Builtin.Itertools.itIntField
  refine wpAny_bind (wpAny_field hit rfl (x := .int (n : Int) 0) rfl ?_)
  refine wpAny_pure ?_
  show wpAny _ _ (Builtin.Itertools.itNumbersFrom (.ref it) 4 >>= _) _ _ s
  refine wpAny_bind ?_
  show wpAny _ _ (load it >>= _) _ _ s
  refine wpAny_bind (wpAny_load hit ?_)
  refine wpAny_pure ?_
  have e1 : ((prmF p 1 n bf (ind ++ cyc)).toArray.toList.drop 4).map (fun x => match x with | .int n _ => n.toNat | _ => 0) = ind ++ cyc := nums_of _
  have e2 : its.toArray.size = n := hn
  dsimp only
  rw [e2, Int.toNat_natCast]
  have e3 : (ind ++ cyc).take n = ind := by rw [← hi]; exact List.take_left' rfl
  have e4 : (ind ++ cyc).drop n = cyc := by rw [← hi]; exact List.drop_left' rfl
  refine wpAny_bind (wpAny_bind (wpAny_field hit rfl (x := .int 1 0) rfl (wpAny_pure ?_)))
  have el : List.map (fun x => match x with | Value.int n tok => n.toNat | x => 0) (List.drop 4 (prmF p 1 n bf (ind ++ cyc)).toArray.toList) = ind ++ cyc := e1
  simp only [prmN, List.drop_succ_cons, List.drop_zero, List.map_map, Function.comp_def, Int.toNat_natCast, List.map_id', e3, e4]
  split
  · rename_i i' c' heq
    obtain ⟨l1, l2⟩ := hl _ _ heq
    rw [pick_arr, List.take_of_length_le (Nat.le_of_eq l1)]
    refine wpAny_bind ?_
    show wpAny _ _ (updateFields it _) _ _ s
    refine wpAny_updateFields hit rfl ?_ (by
      rw [show (Array.extract (prmF p 1 n bf (ind ++ cyc)).toArray 0 4 ++ (List.map (fun (n : Nat) => rawInt n) (i' ++ c')).toArray).size = 4 + (i' ++ c').length by simp [Array.size_extract]; omega]
      rw [List.length_append, l1, l2, sizeLine_eq]; omega)
    have hit2 : IsPrm (s.heap.update it (Obj.mapFields fun fs => fs.extract 0 4 ++ (List.map (fun (n : Nat) => rawInt n) (i' ++ c')).toArray)) it p 1 n bf (i' ++ c') := by
      refine (Heap.get?_update_self _ hit rfl).trans ?_
      simp [Obj.mapFields, prmN]
      rfl
    refine prm_out hit2 ?_ fun h' k1 k2 k3 => ?_
    · rw [List.length_map, l1, sizeLine_eq]; omega
    · have ez : (s.heap.update it (Obj.mapFields fun fs => fs.extract 0 4 ++ (List.map (fun (n : Nat) => rawInt n) (i' ++ c')).toArray)).objs.size = s.heap.objs.size := Heap.size_update ..
      rw [ez] at k1 k2 ⊢
      exact q1 i' c' h' heq k1 k2 fun b o hb e => k3 b o hb ((Heap.get?_update_other _ _ (Ne.symm hb)).trans e)
  · rename_i heq
    refine wpAny_bind (wpAny_setField hit rfl (by simp) ?_)
    refine prm_stop hh fun e h' st hk => ?_
    exact q2 e h' heq st fun b o hb eb => hk b o ((Heap.get?_update_other _ _ (Ne.symm hb)).trans eb)
  case b =>
    refine ⟨?_, ?_, ?_, ?_, ?_, ?_, ?_, ?_⟩
    · decide +kernel
    · decide +kernel
    · decide +kernel
    · decide +kernel
    · decide +kernel
    · decide +kernel
    · decide +kernel
    · decide +kernel
theorem prm_ex7 : ∃ f : NextF, NextOk f ∧ ∀ n, n ≤ 7 → runN f n 5041 (List.range n) ((List.range n).map fun i => n - i) = some (pmL n (List.range n)) := by
  obtain ⟨f, h1, h2, a0, a1, a2, a3, a4, a5, a6⟩ := prm_ex7a
  refine ⟨f, h1, fun n hn => ?_⟩
  rcases Nat.lt_or_eq_of_le hn with h | h
  · exact h2 n (by omega)
  · subst h
    have r := run_cat 720 a0 (run_cat 720 a1 (run_cat 720 a2 (run_cat 720 a3 (run_cat 720 a4 (run_cat 720 a5 a6)))))
    exact r
end
theorem prmAll_few7 : ∀ n, n ≤ 7 → (prmAll n).length ≤ 5040 := by decide +kernel
theorem prmAll_hd7 : ∀ n, n ≤ 7 → (prmAll n) = List.range n :: (prmAll n).tail := by decide +kernel
section
variable {prog : Program} {w : World} {A : Around} {E : Value → Shared → Prop} {s : Shared} {R : Result → Shared → Prop} {I p : Addr} {its : List Value} {n : Nat}
theorem prm_start7 {S : Addr} (res : Value) (hh : A.handled = none) (hst : IsPrm s.heap I p 0 n .none (prm0 n ++ prmC n)) (hp : s.heap.get? p = some (tupO its)) (hn : its.length = n) (hn7 : n ≤ 7) (hpI : p ≠ I) (hpS : p ≠ S) (hSI : S ≠ I) {c : Nat} (hS : s.heap.get? S = some (lstO #[] c))
    (hR : ∀ h' tk acc c as, (∀ b o, b ≠ S → b ≠ I → s.heap.get? b = some o → h'.get? b = some o) → h'.get? S = some (lstO acc c) → Tups its S h' as (prmAll n) → S ∉ as → I ∉ as → acc.toList = as.map Value.ref → R (.ok (.ret res)) { s with heap := h', toks := tk }) :
    codeAny (model prog w) A (.builtin "list.extend.loop" ⟨[.ref S, .ref I, res], []⟩) R s := by
  obtain ⟨f, hf, hrun⟩ := prm_ex7
  refine codeAny_builtin F.entry_extend_loop ?_
  rw [Around.under_plainId F.plain_extend_loop _]
  show wpAny _ A.in1 (pyNext (.ref I) >>= _) _ _ _
  have hi : (prm0 n).length = n := List.length_range
  refine wpAny_bind (pyNext_some (prm_first (A := A.in1) hst hp hn (by omega) hi fun h' hit' ht hk => ?_))
  refine ⟨_, rfl, ?_⟩
  have hS' := hk S _ hSI hS
  have hIs : I < s.heap.objs.size := Heap.lt_size hst
  have hSl : S < s.heap.objs.size := Heap.lt_size hS
  have up : ∀ b o, b ≠ S → h'.get? b = some o → (h'.update S (Obj.mapSeq (·.push (Value.ref s.heap.objs.size)))).get? b = some o := fun b o hb e => (Heap.get?_update_other _ _ (Ne.symm hb)).trans e
  have hlt : s.heap.objs.size < h'.objs.size := Heap.lt_size ht
  have g0 : Tups its S s.heap [] [] := ⟨rfl, .nil, (fun _ z => nomatch z), fun j a r hj => by simp at hj⟩
  show wpAny _ A.in1 (updateSeq S (·.push (Value.ref s.heap.objs.size)) >>= _) _ _ _
  refine wpAny_bind ?_
  have few := prmAll_few7 n hn7
  refine wpAny_updateSeq hS' rfl (wpAny_pure ⟨plainId_quiet F.plain_extend_loop _, prm_loop hf hSI hpI hpS hn (by omega) res (lo := S) (Nat.le_refl _) (h₁ := s.heap) (all := prmAll n) (by omega) hh (fun h' tk acc c as a1 a2 a3 a4 a5 a6 => hR h' tk acc c as a1 a2 a3 a4 a5 a6)
    5041 (prm0 n) (prmC n) (prmAll n) _ s.toks _ (.ref s.heap.objs.size) (#[].push (Value.ref s.heap.objs.size)) [s.heap.objs.size] [prm0 n] (hrun n hn7) hi (up I _ (Ne.symm hSI) hit') (up p _ hpS (hk p _ hpI hp))
    (fun b o h1 h2 eb => up b o h1 (hk b o h2 eb)) (Heap.get?_update_self _ hS' rfl) (g0.snoc (Nat.le_of_lt hSl) (Nat.le_refl _) (fun b hb => nomatch hb) (up _ _ (Nat.ne_of_gt hSl) ht))
    (fun z => absurd (List.mem_singleton.mp z) (Nat.ne_of_lt hSl)) (fun z => absurd (List.mem_singleton.mp z) (Nat.ne_of_lt hIs)) rfl (by rw [prmAll_hd7 n hn7]; rfl) (by rw [Heap.size_update]; exact Nat.le_of_lt (Nat.lt_trans hSl hlt))⟩) (by rw [sizeLine_eq]; decide) (by show 1 ≤ sizeLine + 1; omega)
theorem prm_extend7 {S : Addr} (res : Value) (hh : A.handled = none) (hst : IsPrm s.heap I p 0 n .none (prm0 n ++ prmC n)) (hp : s.heap.get? p = some (tupO its)) (hn : its.length = n) (hn7 : n ≤ 7) (hpI : p ≠ I) (hpS : p ≠ S) (hSI : S ≠ I) {c : Nat} (hS : s.heap.get? S = some (lstO #[] c))
    (hR : ∀ h' tk acc c as, (∀ b o, b ≠ S → b ≠ I → s.heap.get? b = some o → h'.get? b = some o) → h'.get? S = some (lstO acc c) → Tups its S h' as (prmAll n) → S ∉ as → I ∉ as → acc.toList = as.map Value.ref → R (.ok (.ret res)) { s with heap := h', toks := tk }) :
    wpAny (model prog w) A.in1 (Builtin.List.listExtendWith (.ref S) (.ref I) res)
      (fun fin s' => match fin with | .done f => R (.ok f) s' | .again c' => c'.quiet = true ∧ codeAny (model prog w) A c' R s') (fun e s' => R (.error e) s') s := by
  have hT : s.TypeIs (.ref I) "itertools.permutations" := ⟨_, hst, rfl⟩
  unfold Builtin.List.listExtendWith
  refine wpAny_bind (wpAny_typeOf hT ?_)
  have h1 : Builtin.List.listSameRef (.ref S) (.ref I) = false := by simp [Builtin.List.listSameRef, hSI]
  have h2 : (Value.type "itertools.permutations" == Value.type "list") = false := by decide
  have h3 : (Value.type "itertools.permutations" == Value.type "tuple") = false := by decide
  simp only [h1, h2, h3, Bool.or_false, Bool.false_eq_true, if_false]
  refine wpAny_bind (prm_iter hst ?_)
  refine wpAny_bind (wpAny_holding ?_)
  unfold Builtin.List.listLengthHint
  refine wpAny_bind (wpAny_specialOf hT prm_noLen ?_)
  show wpAny _ A.in1 (specialOf (Value.ref I) (Str.ofString "__length_hint__") >>= _) _ _ _
  refine wpAny_bind (wpAny_specialOf hT prm_noHint ?_)
  refine wpAny_pure ?_
  show wpAny _ A.in1 (rule "list.extend.makes-room" >>= fun _ => Builtin.List.listTouch (.ref S) >>= fun _ =>
    again (.builtin "list.extend.loop" ⟨[.ref S, .ref I, res], []⟩)) _ _ _
  refine wpAny_bind (wpAny_rule ?_)
  refine wpAny_bind ?_
  show wpAny _ A.in1 (updateSeq S (·.push .none) >>= fun _ => updateSeq S (·.pop)) _ _ _
  refine wpAny_bind (wpAny_updateSeq hS rfl ?_)
  have hS₂ := Heap.get?_update_self (Obj.mapSeq (·.push Value.none)) hS rfl
  refine wpAny_updateSeq (hz := by seq_fits) hS₂ rfl ?_
  have hS₃ := Heap.get?_update_self (Obj.mapSeq (·.pop)) hS₂ rfl
  have oth : ∀ b o, b ≠ S → s.heap.get? b = some o → ((s.heap.update S (Obj.mapSeq (·.push Value.none))).update S (Obj.mapSeq (·.pop))).get? b = some o :=
    fun b o hb e => (Heap.get?_update_other _ _ (Ne.symm hb)).trans ((Heap.get?_update_other _ _ (Ne.symm hb)).trans e)
  refine wpAny_pure ⟨plainId_quiet F.plain_extend_loop _, prm_start7 res hh (oth I _ (Ne.symm hSI) hst) (oth p _ hpS hp) hn hn7 hpI hpS hSI hS₃ fun h' tk acc c as a1 a2 a3 a4 a5 a6 => ?_⟩
  exact hR h' tk acc c as (fun b o e1 e2 e3 => a1 b o e1 e2 (oth b o e1 e3)) a2 a3 a4 a5 a6
theorem prm_list7 {Q : Value → Shared → Prop} (hh : A.handled = none) (hst : IsPrm s.heap I p 0 n .none (prm0 n ++ prmC n)) (hp : s.heap.get? p = some (tupO its)) (hn : its.length = n) (hn7 : n ≤ 7) (hpI : p ≠ I)
    (hR : ∀ h' tk acc c as, (∀ b o, b ≠ I → s.heap.get? b = some o → h'.get? b = some o) → h'.get? s.heap.objs.size = some (lstO acc c) → Tups its s.heap.objs.size h' as (prmAll n) → s.heap.objs.size ∉ as → I ∉ as → acc.toList = as.map Value.ref → Q (.ref s.heap.objs.size) { s with heap := h', toks := tk }) :
    wpAny (model prog w) A (call (.type "list") [.ref I]) Q E s := by
  have hIs : I < s.heap.objs.size := Heap.lt_size hst
  have hps : p < s.heap.objs.size := Heap.lt_size hp
  refine callType_codes (Q₁ := fun obj s₁ => obj = .ref s.heap.objs.size ∧ s₁ = { s with heap := s.heap.push { cls := .type "list", data := .seq #[] } }) F.called_list (F.typeCall_list_1 _) F.entry_list_init
    (code_list_new _ ⟨rfl, rfl⟩) fun obj s₁ h₁ => ?_
  obtain ⟨rfl, rfl⟩ := h₁
  have hS : (s.heap.push { cls := .type "list", data := .seq #[] }).get? s.heap.objs.size = some (lstO #[] 0) := Heap.get?_push_size _ rfl
  refine ⟨⟨_, hS, rfl⟩, F.args_list_init_2 _ _, ?_⟩
  show wpAny _ A.in1.in1 (do let old ← Builtin.List.listItems (.ref s.heap.objs.size); Builtin.List.listUpdate (.ref s.heap.objs.size) (fun _ => #[]); letGo old.toList.reverse; Builtin.List.listExtendWith (.ref s.heap.objs.size) (.ref I) .none) _ _ _
  refine wpAny_bind ?_
  unfold Builtin.List.listItems
  refine wpAny_bind (wpAny_seqItems hS rfl (wpAny_pure ?_))
  show wpAny _ _ (updateSeq s.heap.objs.size (fun _ => #[]) >>= fun _ => letGo (#[] : Array Value).toList.reverse >>= fun _ => Builtin.List.listExtendWith (.ref s.heap.objs.size) (.ref I) .none) _ _ _
  refine wpAny_bind (wpAny_updateSeq hS rfl ?_)
  have hS₂ := Heap.get?_update_self (Obj.mapSeq (fun _ => (#[] : Array Value))) hS rfl
  have oth : ∀ b o, b ≠ s.heap.objs.size → s.heap.get? b = some o → ((s.heap.push { cls := .type "list", data := .seq #[] }).update s.heap.objs.size (Obj.mapSeq (fun _ => (#[] : Array Value)))).get? b = some o :=
    fun b o hb e => (Heap.get?_update_other _ _ (Ne.symm hb)).trans (Heap.get?_push_of_some _ e)
  refine wpAny_bind (wpAny_letGo ?_)
  refine prm_extend7 (A := A.in1) .none hh (oth I _ (Nat.ne_of_lt hIs) hst) (oth p _ (Nat.ne_of_lt hps) hp) hn hn7 hpI (Nat.ne_of_lt hps) (Nat.ne_of_gt hIs) hS₂ fun h' tk acc c as a1 a2 a3 a4 a5 a6 => ?_
  exact ⟨rfl, hR h' tk acc c as (fun b o e1 e2 => a1 b o (Nat.ne_of_lt (Heap.lt_size e2)) e1 (oth b o (Nat.ne_of_lt (Heap.lt_size e2)) e2)) a2 a3 a4 a5 a6⟩
end
end Zp
set_option autoImplicit false
set_option maxHeartbeats 1000000
namespace Z
open PySem PySem.Spec PyProof.Rows L2 Zp
def dLstPrm7 (m : M (Int × Int)) : M (List D) := bnd m fun ij => if okRg ij.1 ij.2 = true ∧ (ij.2 - ij.1).toNat ≤ 7 then rt (prmD ij.1 (ij.2 - ij.1).toNat) else fun _ => .bad
theorem prm_rows7 : ∀ n, n ≤ 7 → ∀ row ∈ prmAll n, row.length = n ∧ ∀ k ∈ row, k < n := by decide +kernel
section
variable {X : Cx} {e : Expr} {p pos p2 pos2 : Pos}
theorem do_lstPrm7 {m : M (Int × Int)} (hc : X.calm = true) (hg : Gl X "list") (hm : X.mg "list" = none) (hg2 : Gl X "permutations") (hm2 : X.mg "permutations" = some (.type "itertools.permutations")) (he : DRg X e m)
    (na : starEach [e] X.env = (false, eval e X.env) :: starEach [] X.env := by rfl)
    (na2 : starEach [.Call (.Name "permutations" p2) [e] [] pos2] X.env = (false, eval (.Call (.Name "permutations" p2) [e] [] pos2) X.env) :: starEach [] X.env := by rfl) :
    DO X (.Call (.Name "list" p) [.Call (.Name "permutations" p2) [e] [] pos2] [] pos) (dLstPrm7 m) := fun W tk => by
  refine ⟨fun pins s σ H Q I h => ?_⟩
  have hz : zt X W rhoI m σ H fun ij H1 => ∃ F G Mu Γ, Rel X.K F G Mu Γ σ H1 ∧ zpost X W σ rhoO F G Mu Q ((if okRg ij.1 ij.2 = true ∧ (ij.2 - ij.1).toNat ≤ 7 then rt (prmD ij.1 (ij.2 - ij.1).toNat) else fun _ => .bad) Γ) :=
    (zt_bnd (ρ := rhoI) h).imp fun v H1 ⟨r, F, G, Mu, Γ, R, h1, q2⟩ => by
      have e0 : r = v := h1
      subst e0
      exact ⟨F, G, Mu, Γ, R, q2⟩
  refine Call_ (ld_blt I hg hm boot_list (PyProof.Rows.callWith_type1 (args_cons (Call_ (ld_glob I hg2 hm2 (PyProof.Rows.callWith_type1 (args_cons (thn ((he W tk) pins s σ H (fun a b H1 => ∃ F G Mu Γ, Rel X.K F G Mu Γ σ H1 ∧ zpost X W σ rhoO F G Mu Q ((if okRg a b = true ∧ (b - a).toNat ≤ 7 then rt (prmD a (b - a).toNat) else fun _ => .bad) Γ)) I hz) fun x s1 ⟨r, a, b, t, u, v, H1, ex, hr, I1, F, G, Mu, Γ, R, q2⟩ => args_nil ?_) na) na))) na2) na2))
  subst ex
  split at q2
  · rename_i hk
    obtain ⟨hk, h6⟩ := hk
    obtain ⟨b1, b2, b3, b4, b5⟩ := okRg_ok hk
    generalize hn : (b - a).toNat = n at h6 q2
    refine prm_call (n := n) (I1.ok.hd hc) hr (small_one b1 b2 b3 b4) (by rw [rangeSize_nat a b, hn]) (by omega) fun h1 tk1 its pl it k1 k2 k3 k4 k5 k6 k7 k8 => ?_
    refine args_nil ?_
    have I2 : L2.Inv X pins σ H1 { s1 with heap := h1, toks := tk1 } := I1.kept k1
    refine prm_list7 (s := { s1 with heap := h1, toks := tk1 }) (I2.ok.hd hc) k8 k7 k2 h6 k6 fun h2 tk2 acc c as a1 a2 a3 a4 a5 a6 => ?_
    have szs : h1.objs.size = h1.objs.size := rfl
    -- what is tracked
    have hlen : as.length = (prmAll n).length := a3.len
    have hge : ∀ c, h1.objs.size ≤ c → H1 c = none := fun c hc => I2.hok.fresh hc
    let L : List TupE := (as.zip (prmAll n)).map fun x => (x.1, pickV its x.2, (prmR a x.2).map V.int)
    have hL1 : L.map (·.1) = as := by
      show ((as.zip (prmAll n)).map _).map _ = as
      rw [List.map_map]
      exact List.map_fst_zip (Nat.le_of_eq hlen)
    have sub : ∀ b o, s1.heap.get? b = some o → h2.get? b = some o := fun b o q => a1 b o (fun z => by rw [z, k5] at q; cases q) (k1 b o q)
    have lows : ∀ c ∈ as, h1.objs.size ≤ c ∧ h1.get? c = none := fun c hc => by
      have := a3.low c hc
      exact ⟨this, Heap.get?_none_of_le this⟩
    have hmem : ∀ e ∈ L, ∃ (j : Nat) (row : List Nat), as[j]? = some e.1 ∧ (prmAll n)[j]? = some row ∧ row ∈ prmAll n ∧ e.2.1 = pickV its row ∧ e.2.2 = (prmR a row).map V.int := fun e he => by
      obtain ⟨x, hx, rfl⟩ := List.mem_map.mp he
      obtain ⟨j, hj⟩ := List.mem_iff_getElem?.mp hx
      rw [List.getElem?_zip_eq_some] at hj
      exact ⟨j, x.2, hj.1, hj.2, List.mem_of_getElem? hj.2, rfl, rfl⟩
    obtain ⟨D', G', H', i1, i2, i3, i4, i5, i6⟩ := lay_many (s := s1) (h' := h2) (tk := tk2) (ex := [h1.objs.size, it]) (fun _ _ => trivial) L s1.heap G H1 (I1.kept fun _ _ q => q) sub (fun e he => by
        obtain ⟨j, row, j1, j2, j3, _, _⟩ := hmem e he
        have mm := List.mem_of_getElem? j1
        refine ⟨?_, hge _ (lows _ mm).1, fun z => ?_⟩
        · cases e3 : s1.heap.get? e.1 with
          | none => rfl
          | some o => have := k1 _ _ e3; rw [(lows _ mm).2] at this; cases this
        · rcases List.mem_cons.mp z with z | z
          · exact a4 (z ▸ mm)
          · exact a5 (List.mem_singleton.mp z ▸ mm))
      (fun b hb => by
        rcases List.mem_cons.mp hb with rfl | hb
        · cases e3 : s1.heap.get? h1.objs.size with
          | none => rfl
          | some o => have := k1 _ _ e3; rw [Heap.get?_none_of_le (Nat.le_refl _)] at this; cases this
        · rw [List.mem_singleton.mp hb]; exact k5)
      (by rw [hL1]; exact a3.rise.imp fun h => Nat.ne_of_lt h)
      (fun e he => by
        obtain ⟨j, row, j1, j2, j3, e1, e2⟩ := hmem e he
        rw [e1, e2]
        obtain ⟨r1, r2⟩ := prm_rows7 n h6 row j3
        refine ⟨a3.at_ j _ row j1 j2, ?_, ?_⟩
        · exact prm_vals k3 k2 row r2
        · rw [List.length_map]; unfold prmR; rw [List.length_map, r1, sizeLine_eq]; omega)
      R.gh
    have hS : H' h1.objs.size = none := i6 _ (hge _ (Nat.le_refl _)) fun e he z => by
      obtain ⟨j, row, j1, _⟩ := hmem e he
      exact a4 (z ▸ List.mem_of_getElem? j1)
    have few := prmAll_few7 n h6
    have hv : Vals (as.map V.ref) acc.toList := by rw [a6]; exact vals_refs as
    have J := i1.laidN (h' := h2) (a := h1.objs.size) (o := .lst (as.map V.ref)) (t' := tk2) i2 (i3 _ List.mem_cons_self) hS ⟨by rw [List.length_map, hlen, sizeLine_eq]; omega, acc.toList, c, hv, by rw [Array.toArray_toList]; exact a2⟩
    have R1 := R.ext i4
    obtain ⟨R2, o2⟩ := R1.newO (l := h1.objs.size) (vs := as.map V.ref) (zs := prmD a n) hS (dpa_of_get (by unfold prmD; rw [List.length_map, List.length_map, hlen]) fun j v d hj hd => by
      rw [List.getElem?_map] at hj
      obtain ⟨c, hc, rfl⟩ := Option.map_eq_some_iff.mp hj
      unfold prmD at hd
      rw [List.getElem?_map] at hd
      obtain ⟨row, hr2, rfl⟩ := Option.map_eq_some_iff.mp hd
      have he : (c, pickV its row, (prmR a row).map V.int) ∈ L := List.mem_map.mpr ⟨(c, row), List.mem_of_getElem? (i := j) (List.getElem?_zip_eq_some.mpr ⟨hc, hr2⟩), rfl⟩
      exact .tup (.inl ⟨_, i5 _ he, rfl⟩) (dpa_ints _))
    exact ⟨.ref h1.objs.size, _, J, rfl, q2 _ _ G' i4.g R2 o2⟩
  · exact q2.elim
end
end Z

set_option Elab.async false
set_option linter.all false
set_option maxRecDepth 100000
set_option autoImplicit false
set_option maxHeartbeats 1000000
namespace Z
open PySem PySem.Spec PyProof.Rows L2 Zp
theorem pmL_mem : ∀ (k : Nat) (l : List Nat), l.length = k → ∀ t, t ∈ pmL k l ↔ t.Perm l
  | 0, l, h, t => by
    rw [List.length_eq_zero_iff.mp h]
    unfold pmL
    rw [List.mem_singleton, List.perm_nil]
  | k + 1, l, h, t => by
    unfold pmL
    rw [List.mem_flatMap]
    constructor
    · rintro ⟨x, hx, ht⟩
      obtain ⟨t', h1, rfl⟩ := List.mem_map.mp ht
      rw [pmL_mem k (l.erase x) (by rw [List.length_erase_of_mem hx]; omega)] at h1
      exact (List.Perm.cons x h1).trans (List.perm_cons_erase hx).symm
    · intro ht
      cases t with
      | nil => rw [ht.symm.eq_nil] at h; cases h
      | cons x t' =>
        obtain ⟨hx, h1⟩ := List.cons_perm_iff_perm_erase.mp ht
        exact ⟨x, hx, List.mem_map.mpr ⟨t', (pmL_mem k (l.erase x) (by rw [List.length_erase_of_mem hx]; omega) t').mpr h1, rfl⟩⟩
theorem pmL_asc : ∀ (k : Nat) (l : List Nat), l.Pairwise (· < ·) → (pmL k l).Pairwise (· < ·)
  | 0, _, _ => List.pairwise_singleton _ _
  | k + 1, l, h => by
    unfold pmL
    rw [List.pairwise_flatMap]
    refine ⟨fun x hx => ?_, h.imp fun {x y} hxy a ha b hb => ?_⟩
    · rw [List.pairwise_map]
      exact (pmL_asc k (l.erase x) (h.sublist List.erase_sublist)).imp fun {s t} z => List.cons_lt_cons_iff.mpr (.inr ⟨rfl, z⟩)
    · obtain ⟨s, _, rfl⟩ := List.mem_map.mp ha
      obtain ⟨t, _, rfl⟩ := List.mem_map.mp hb
      exact List.cons_lt_cons_iff.mpr (.inl hxy)
theorem prmR_lt : ∀ {s t : List Nat}, s < t → prmR 1 s < prmR 1 t
  | [], [], h => absurd h (List.lt_irrefl _)
  | [], y :: t, _ => List.nil_lt_cons _ _
  | x :: s, [], h => by cases h
  | x :: s, y :: t, h => by
    show ((1 : Int) + x) :: prmR 1 s < ((1 : Int) + y) :: prmR 1 t
    rcases List.cons_lt_cons_iff.mp h with k | ⟨rfl, k⟩
    · exact List.cons_lt_cons_iff.mpr (.inl (by omega))
    · exact List.cons_lt_cons_iff.mpr (.inr ⟨rfl, prmR_lt k⟩)
theorem prm_irange (n : Nat) : prmR 1 (List.range n) = irange 1 n := rfl
theorem prm_allO (n : Nat) : (prmAll n).map (prmR 1) = allO n := by
  obtain ⟨⟨a, m⟩, _, _⟩ := allO_ok n
  refine asc_eq ?_ a fun t => ?_
  · rw [List.pairwise_map]
    exact (pmL_asc n _ List.pairwise_lt_range).imp prmR_lt
  · rw [m t, List.mem_map]
    constructor
    · rintro ⟨row, hr, rfl⟩
      have hp := (pmL_mem n _ List.length_range row).mp hr
      have hl : (prmR 1 row).length = n := by unfold prmR; rw [List.length_map, hp.length_eq, List.length_range]
      refine ⟨IsOrd.of_perm ?_, hl⟩
      rw [hl, ← prm_irange]
      exact hp.map _
    · rintro ⟨io, hl⟩
      have hp := io.perm
      rw [hl] at hp
      refine ⟨t.map fun x => (x - 1).toNat, (pmL_mem n _ List.length_range _).mpr ?_, ?_⟩
      · have := hp.map fun x => (x - 1).toNat
        rw [show (irange 1 n).map (fun x => (x - 1).toNat) = List.range n by
          unfold irange
          rw [List.map_map]
          refine (List.map_congr_left fun i _ => ?_).trans (List.map_id _)
          show ((1 : Int) + (i : Int) - 1).toNat = i
          omega] at this
        exact this
      · unfold prmR
        rw [List.map_map]
        refine (List.map_congr_left fun x hx => ?_).trans (List.map_id _)
        have := io.lo x hx
        show (1 : Int) + ((x - 1).toNat : Int) = x
        omega
theorem prmD_allO (n : Nat) : prmD 1 n = (allO n).map ti := by
  rw [← prm_allO n, List.map_map]
  rfl
end Z

set_option Elab.async false
set_option linter.all false
set_option maxRecDepth 100000
set_option autoImplicit false
set_option maxHeartbeats 4000000
namespace Ck03
open PySem PySem.Spec PyProof.Rows L2 Z
def topS (i : Nat) : Stmt := PySem.Challenge.pw_wholeorders_k03_whole_parts_shown.main.body.getD i (.Pass ⟨0, 0, 0, 0⟩)
abbrev s_is_integer : Stmt := topS 7
abbrev s_are_integers : Stmt := topS 8
abbrev s_is_order_of : Stmt := topS 9
abbrev s_compared : Stmt := topS 10
abbrev s_neighbours : Stmt := topS 11
abbrev s_placed : Stmt := topS 12
abbrev s_is_shown : Stmt := topS 13
abbrev s_check_order : Stmt := topS 15
abbrev s_is_pattern : Stmt := topS 18
abbrev s_check_pattern : Stmt := topS 16
abbrev s_check_number : Stmt := topS 17
abbrev s_shows : Stmt := topS 19
abbrev s_shown_of : Stmt := topS 20
abbrev s_parts_of : Stmt := topS 21
abbrev s_orders_of : Stmt := topS 22
abbrev s_orders : Stmt := topS 23
abbrev s__law_deck : Stmt := topS 25
abbrev s__law_take : Stmt := topS 26
abbrev s__law_same : Stmt := topS 27
abbrev s__law_drawn : Stmt := topS 28
abbrev s__law_like : Stmt := topS 29
abbrev s__law_filled : Stmt := topS 30
abbrev s__law_row : Stmt := topS 31
abbrev s__law_picks : Stmt := topS 32
abbrev s__law_parts : Stmt := topS 34
abbrev s__law_all : Stmt := topS 35
abbrev s__law_parts_right : Stmt := topS 36
abbrev s_law : Stmt := topS 37
/-! ### mirrors -/
def m_is_integer : M Fl :=
  (sRet (dAndV (op1 (fIs [.int]) (dName 0)) (dNotV (op1 (fIs [.bool]) (dName 0)))))
def φ_is_integer : List PyData → Out := runF 1 [.v] m_is_integer
def m_are_integers : M Fl :=
  (sRet (dAndV (op1 (fIs [.tuple]) (dName 0)) (opN fAll (vCons (dv (dFz (compL [1] (.nm 1) (iV (dName 0)) (rt true) (rD (callP [.v] φ_is_integer (vCons (dName 1) vNil)))))) vNil))))
def φ_are_integers : List PyData → Out := runF 2 [.v] m_are_integers
def m_is_order_of : M Fl :=
  (sRet (dAndV (rD (callP [.v] φ_are_integers (vCons (dName 0) vNil))) (op2 fEq (dv (dFz (opNo fSorted (vCons (dName 0) vNil)))) (dv (dFz (dLstRg (rg2 (dv (dC (.int 1))) (dv (rD (op2r fAdd fCat (dv (opN fLen (vCons (dName 0) vNil))) (dv (dC (.int 1)))))))))))))
def φ_is_order_of : List PyData → Out := runF 1 [.v] m_is_order_of
def m_compared : M Fl :=
  (dSeq (sSet 1 (dcL [2, 3] (.tup [(.nm 2), (.nm 3)]) (iEnO (opNo fSorted (vCons (dName 0) vNil))) (rt true) (dEsc (dName 3)) (rD (op2r fAdd fCat (dName 2) (dv (dC (.int 1)))))))
    (sRet (opN fTuple (vCons (dv (dFz (compL [3] (.nm 3) (iV (dName 0)) (rt true) (op2 fIx (dName 1) (dName 3))))) vNil))))
def φ_compared : List PyData → Out := runF 4 [.v] m_compared
def m_neighbours : M Fl :=
  (dSeq (sSetO 1 (dLst dNil))
    (dSeq (sFor (.tup [(.nm 2), (.nm 3)]) [2, 3, 4, 6, 7, 8] (iEnV (dName 0)) (dSeq (sSetO 4 (compL [5] (.nm 5) (iV (dv (rD (cutR (dName 0) oNone (oSome (dEsc (dName 2))))))) (dB (op2 fLt (dName 5) (dName 3))) (dEsc (dName 5))))
    (dSeq (sSetO 6 (compL [5] (.nm 5) (iV (dv (rD (cutR (dName 0) oNone (oSome (dEsc (dName 2))))))) (dB (op2 fGt (dName 5) (dName 3))) (dEsc (dName 5))))
    (dSeq (sSet 7 (dIfE (dB (op2 fNe (dName 4) (dv (dFz (dLst dNil))))) (dIndexT (dName 0) (dv (opN fMax (vCons (dName 4) vNil)))) (dC .none)))
    (dSeq (sSet 8 (dIfE (dB (op2 fNe (dName 6) (dv (dFz (dLst dNil))))) (dIndexT (dName 0) (dv (opN fMin (vCons (dName 6) vNil)))) (dC .none)))
    (sExpr (dMut 1 mAppend (dCons (dTup (dCons (dEsc (dName 7)) (dCons (dEsc (dName 8)) dNil))) dNil))))))))
    (sRetV 1)))
def φ_neighbours : List PyData → Out := runF 9 [.v] m_neighbours
def m_placed : M Fl :=
  (dSeq (sSetO 2 (dLst (dCons (dTup dNil) dNil)))
    (dSeq (sFor (.tup [(.nm 3), (.tup [(.nm 4), (.nm 5)])]) [3, 4, 5, 6, 7, 8, 9, 10, 11] (iEnV (dv (rD (callP [.v] φ_neighbours (vCons (dName 1) vNil))))) (dSeq (sSetO 6 (dLst dNil))
    (dSeq (sFor (.nm 7) [7, 8, 9, 10, 11] (iV (dName 2)) (dSeq (sSet 8 (dIfE (dB (op2 fNotN (dName 4) (dv (dC .none)))) (op2 fIx (dName 0) (dv (op2 fIx (dName 7) (dName 4)))) (dC (.int 0))))
    (dSeq (sSet 9 (dIfE (dB (op2 fNotN (dName 5) (dv (dC .none)))) (op2 fIx (dName 0) (dv (op2 fIx (dName 7) (dName 5)))) (rD (op2r fAdd fCat (dv (opN fLen (vCons (dName 0) vNil))) (dv (dC (.int 1)))))))
    (dSeq (sSet 10 (dIfE (dB (op2 fNe (dName 7) (dv (dTup dNil)))) (rD (op2r fAdd fCat (dv (op2 fIx (dName 7) (dv (op1 fNeg (dv (dC (.int 1))))))) (dv (dC (.int 1))))) (dC (.int 0))))
    (dSeq (sSet 11 (op2 fSub (dv (opN fLen (vCons (dName 0) vNil))) (dv (op2 fSub (dv (op2 fSub (dv (opN fLen (vCons (dName 1) vNil))) (dName 3))) (dv (dC (.int 1)))))))
    (sExpr (dMut 6 mExtend (compL [12] (.nm 12) (iR2 (vCons (dName 10) (vCons (dName 11) vNil))) (dB (dChain fLt fLt (dName 8) (dv (op2 fIx (dName 0) (dName 12))) (dName 9))) (rD (op2r fAdd fCat (dName 7) (dv (dTup (dCons (dEsc (dName 12)) dNil)))))))))))))
    (sMove 2 6))))
    (sRetV 2)))
def φ_placed : List PyData → Out := runF 13 [.v, .v] m_placed
def m_is_shown : M Fl :=
  (sRet (dAndV (op2 fLe (dv (opN fLen (vCons (dName 1) vNil))) (dv (opN fLen (vCons (dName 0) vNil)))) (op2 fNe (dv (rD (callP [.v, .v] φ_placed (vCons (dName 0) (vCons (dName 1) vNil))))) (dv (dFz (dLst dNil))))))
def φ_is_shown : List PyData → Out := runF 2 [.v, .v] m_is_shown
def m_check_order : M Fl :=
  (sIf (dNot (dB (rD (callP [.v] φ_is_order_of (vCons (dName 0) vNil))))) sBad sNx)
def φ_check_order : List PyData → Out := runF 1 [.v] m_check_order
def m_is_pattern : M Fl :=
  (sRet (dAndV (rD (callP [.v] φ_is_order_of (vCons (dName 0) vNil))) (op2 fNe (dName 0) (dv (dTup dNil)))))
def φ_is_pattern : List PyData → Out := runF 1 [.v] m_is_pattern
def m_check_pattern : M Fl :=
  (sIf (dNot (dB (rD (callP [.v] φ_is_pattern (vCons (dName 0) vNil))))) sBad sNx)
def φ_check_pattern : List PyData → Out := runF 1 [.v] m_check_pattern
def m_check_number : M Fl :=
  (sIf (dOr (dNot (dB (rD (callP [.v] φ_is_integer (vCons (dName 0) vNil))))) (dB (op2 fLt (dName 0) (dv (dC (.int 0)))))) sBad sNx)
def φ_check_number : List PyData → Out := runF 1 [.v] m_check_number
def m_shows : M Fl :=
  (dSeq (sExprR (callP [.v] φ_check_order (vCons (dName 0) vNil)))
    (dSeq (sExprR (callP [.v] φ_check_pattern (vCons (dName 1) vNil)))
    (sRetR (callP [.v, .v] φ_is_shown (vCons (dName 0) (vCons (dName 1) vNil))))))
def φ_shows : List PyData → Out := runF 2 [.v, .v] m_shows
def m_shown_of : M Fl :=
  (sRetO (sSortC [2] (.nm 2) (vCons (dName 0) (vCons (dName 1) vNil)) (rD (callP [.v] φ_compared (vCons (dName 2) vNil))) (dC (.bool true))))
def φ_shown_of : List PyData → Out := runF 3 [.v, .v] m_shown_of
def m_parts_of : M Fl :=
  (dSeq (sExprR (callP [.v] φ_check_order (vCons (dName 0) vNil)))
    (dSeq (sExprR (callP [.v] φ_check_number (vCons (dName 1) vNil)))
    (sRetR (callP [.v, .v] φ_shown_of (vCons (dName 0) (vCons (dName 1) vNil))))))
def φ_parts_of : List PyData → Out := runF 2 [.v, .v] m_parts_of
def m_orders_of : M Fl :=
  (sRetO (dLstPrm7 (rg2 (dv (dC (.int 1))) (dv (rD (op2r fAdd fCat (dName 0) (dv (dC (.int 1)))))))))
def φ_orders_of : List PyData → Out := runF 1 [.v] m_orders_of
def m_orders : M Fl :=
  (dSeq (sExprR (callP [.v] φ_check_number (vCons (dName 0) vNil)))
    (sRetR (callP [.v] φ_orders_of (vCons (dName 0) vNil))))
def φ_orders : List PyData → Out := runF 1 [.v] m_orders
def m__law_deck : M Fl :=
  (dSeq (sSet 2 (dC (.int 0)))
    (dSeq (sIf (dB (op2 fLt (dName 1) (dv (opN fLen (vCons (dName 0) vNil))))) (sSet 2 (op2 fIx (dName 0) (dName 1))) sNx)
    (dSeq (sSet 3 (op2 fMod (dv (opN fInt (vCons (dv (rD (op2r fAdd fCat (dv (rD (op2r fAdd fCat (dName 2) (dv (op2 fMul (dv (dC (.int 7919))) (dName 1)))))) (dv (dC (.int 104729)))))) vNil))) (dv (dC (.int 2305843009213693951)))))
    (dSeq (sSet 3 (op2 fMod (dv (opN fInt (vCons (dv (rD (op2r fAdd fCat (dv (rD (op2r fAdd fCat (dv (op2 fMul (dv (op2 fMul (dName 3) (dName 3))) (dName 3))) (dv (op2 fMul (dv (dC (.int 31))) (dName 1)))))) (dv (dC (.int 7)))))) vNil))) (dv (dC (.int 2305843009213693951)))))
    (dSeq (sIf (dB (op2 fLt (dName 2) (dv (op2 fPow (dv (dC (.int 10))) (dv (dC (.int 18))))))) (sRetO (dLst (dCons (dC (.int 0)) (dCons (dEsc (dName 3)) dNil)))) sNx)
    (sRetO (dLst (dCons (op2 fSub (dName 2) (dv (op2 fPow (dv (dC (.int 10))) (dv (dC (.int 18)))))) (dCons (dEsc (dName 3)) dNil)))))))))
def φ__law_deck : List PyData → Out := runF 4 [.v, .v] m__law_deck
def m__law_take : M Fl :=
  (dSeq (sIf (dB (op2 fGt (dv (op2 fIx (dName 0) (dv (dC (.int 0))))) (dv (dC (.int 0))))) (dSeq (sSet 2 (op2 fMod (dv (opN fInt (vCons (dv (op2 fIx (dName 0) (dv (dC (.int 0))))) vNil))) (dName 1)))
    (dSeq (sSub 0 (op2 fDiv (dv (op2 fIx (dName 0) (dv (dC (.int 0))))) (dName 1)) (dv (dC (.int 0))))
    (sRetV 2))) sNx)
    (dSeq (sSub 0 (op2 fMod (dv (opN fInt (vCons (dv (rD (op2r fAdd fCat (dv (op2 fMul (dv (op2 fIx (dName 0) (dv (dC (.int 1))))) (dv (dC (.int 6364136223846793005))))) (dv (dC (.int 1442695040888963407)))))) vNil))) (dv (op2 fPow (dv (dC (.int 2))) (dv (dC (.int 64)))))) (dv (dC (.int 1))))
    (sRet (op2 fMod (dv (op2 fDiv (dv (op2 fIx (dName 0) (dv (dC (.int 1))))) (dv (op2 fPow (dv (dC (.int 2))) (dv (dC (.int 33))))))) (dName 1)))))
def φ__law_take : List PyData → Out := runF 3 [.m, .v] m__law_take
def m__law_same (rec : List PyData → Out) : M Fl :=
  (dSeq (sIf (dB (op1 (fIs [.tuple, .list]) (dName 1))) (dSeq (sIf (dOr (dB (op2 fNe (dv (op1 (fIs [.tuple]) (dName 0))) (dv (op1 (fIs [.tuple]) (dName 1))))) (dB (op2 fNe (dv (op1 (fIs [.list]) (dName 0))) (dv (op1 (fIs [.list]) (dName 1)))))) (sRet (dC (.bool false))) sNx)
    (dSeq (sIf (dB (op2 fNe (dv (opN fLen (vCons (dName 0) vNil))) (dv (opN fLen (vCons (dName 1) vNil))))) (sRet (dC (.bool false))) sNx)
    (sRet (op2 fEq (dv (dFz (compL [2] (.nm 2) (iR1 (vCons (dv (opN fLen (vCons (dName 1) vNil))) vNil)) (dNot (dB (rD (callP [.v, .v] rec (vCons (dv (op2 fIx (dName 0) (dName 2))) (vCons (dv (op2 fIx (dName 1) (dName 2))) vNil)))))) (dEsc (dName 2))))) (dv (dFz (dLst dNil))))))) sNx)
    (dSeq (sIf (dB (op2 fIsN (dName 1) (dv (dC .none)))) (sRet (op2 fIsN (dName 0) (dv (dC .none)))) sNx)
    (dSeq (sIf (dB (op1 (fIs [.str]) (dName 1))) (sRet (dAndV (op1 (fIs [.str]) (dName 0)) (op2 fEq (dName 0) (dName 1)))) sNx)
    (dSeq (sIf (dOr (dB (op1 (fIs [.bool]) (dName 1))) (dB (op1 (fIs [.bool]) (dName 0)))) (sRet (dAndV (op1 (fIs [.bool]) (dName 1)) (dAndV (op1 (fIs [.bool]) (dName 0)) (op2 fEq (dName 0) (dName 1))))) sNx)
    (sRet (dAndV (op1 (fIs [.int]) (dName 0)) (op2 fEq (dName 0) (dName 1))))))))
def φ__law_same : Nat → List PyData → Out
  | 0 => fun _ => .bad
  | n + 1 => runF 3 [.v, .v] (m__law_same (φ__law_same n))
def m__law_drawn : M Fl :=
  (dSeq (sSetO 2 (dLst dNil))
    (dSeq (sFor (.nm 3) [3] (iR2 (vCons (dv (dC (.int 1))) (vCons (dv (rD (op2r fAdd fCat (dName 1) (dv (dC (.int 1)))))) vNil))) (sExpr (dMut 2 mInsert (dCons (rD (callP [.m, .v] φ__law_take (vCons (dName 0) (vCons (dName 3) vNil)))) (dCons (dEsc (dName 3)) dNil)))))
    (sRet (opN fTuple (vCons (dName 2) vNil)))))
def φ__law_drawn : List PyData → Out := runF 4 [.m, .v] m__law_drawn
def m__law_like : M Fl :=
  (sRet (opN fTuple (vCons (dv (dFz (compL [2] (.nm 2) (iV (dName 0)) (rt true) (rD (op2r fAdd fCat (dv (dC (.int 1))) (dv (opN fLen (vCons (dv (dFz (compL [1] (.nm 1) (iV (dName 0)) (dB (op2 fLt (dName 1) (dName 2))) (dEsc (dName 1))))) vNil)))))))) vNil)))
def φ__law_like : List PyData → Out := runF 3 [.v] m__law_like
def m__law_filled : M Fl :=
  (dSeq (sSetO 2 (dLst dNil))
    (dSeq (sFor (.nm 3) [3, 4] (iR1 (vCons (dv (opN fLen (vCons (dName 0) vNil))) vNil)) (dSeq (sSet 4 (opN fSum (vCons (dv (dFz (compL [5] (.nm 5) (iR1 (vCons (dv (opN fLen (vCons (dName 0) vNil))) vNil)) (dB (op2 fLt (dv (op2 fIx (dName 0) (dName 5))) (dv (op2 fIx (dName 0) (dName 3))))) (opN fLen (vCons (dv (op2 fIx (dName 1) (dName 5))) vNil))))) vNil)))
    (sSetR 2 (op2r fAdd fCat (dName 2) (dv (dFz (compL [6] (.nm 6) (iV (dv (op2 fIx (dName 1) (dName 3)))) (rt true) (rD (op2r fAdd fCat (dName 4) (dName 6))))))))))
    (sRet (opN fTuple (vCons (dName 2) vNil)))))
def φ__law_filled : List PyData → Out := runF 7 [.v, .v] m__law_filled
def m__law_row : M Fl :=
  (dSeq (sPar [2, 3] (msR (callP [.m, .v] φ__law_take (vCons (dName 0) (vCons (dv (dC (.int 6))) vNil))) (msR (callP [.m, .v] φ__law_take (vCons (dName 0) (vCons (dv (rD (op2r fAdd fCat (dName 1) (dv (dC (.int 1)))))) vNil))) msNil)))
    (dSeq (sIf (dOr (dB (op2 fLt (dName 2) (dv (dC (.int 2))))) (dB (op2 fLt (dName 3) (dv (dC (.int 2)))))) (sRetR (callP [.m, .v] φ__law_drawn (vCons (dName 0) (vCons (dName 3) vNil)))) sNx)
    (dSeq (sIf (dB (op2 fEq (dName 2) (dv (dC (.int 2))))) (dSeq (sSet 4 (dTupRg (rg2 (dv (dC (.int 1))) (dv (rD (op2r fAdd fCat (dName 3) (dv (dC (.int 1)))))))))
    (sRet (op2 fIx (dv (dFz (dLst (dCons (dEsc (dName 4)) (dCons (rD (mixR (op1 fBack (dName 4)) (op1o fBackL (dName 4)))) dNil))))) (dv (rD (callP [.m, .v] φ__law_take (vCons (dName 0) (vCons (dv (dC (.int 2))) vNil)))))))) sNx)
    (dSeq (sSetR 5 (callP [.m, .v] φ__law_drawn (vCons (dName 0) (vCons (dv (rD (op2r fAdd fCat (dv (dC (.int 2))) (dv (rD (callP [.m, .v] φ__law_take (vCons (dName 0) (vCons (dv (op2 fSub (dName 3) (dv (dC (.int 1))))) vNil)))))))) vNil))))
    (dSeq (sIf (dB (op2 fEq (dName 2) (dv (dC (.int 3))))) (sSet 5 (op2 fIx (dv (dFz (dLst (dCons (dTupRg (rg2 (dv (dC (.int 1))) (dv (rD (op2r fAdd fCat (dv (opN fLen (vCons (dName 5) vNil))) (dv (dC (.int 1)))))))) (dCons (dTupRg3 (vCons (dv (opN fLen (vCons (dName 5) vNil))) (vCons (dv (dC (.int 0))) (vCons (dv (op1 fNeg (dv (dC (.int 1))))) vNil)))) dNil))))) (dv (rD (callP [.m, .v] φ__law_take (vCons (dName 0) (vCons (dv (dC (.int 2))) vNil))))))) sNx)
    (dSeq (sPar [6, 7] (msD (op2 fSub (dName 3) (dv (opN fLen (vCons (dName 5) vNil)))) (msO (dLst dNil) msNil)))
    (dSeq (sFor (.nm 8) [8, 9] (iR1 (vCons (dv (opN fLen (vCons (dName 5) vNil))) vNil)) (dSeq (sSetR 9 (callP [.m, .v] φ__law_take (vCons (dName 0) (vCons (dv (rD (op2r fAdd fCat (dName 6) (dv (dC (.int 1)))))) vNil))))
    (dSeq (sSet 6 (op2 fSub (dName 6) (dName 9)))
    (sExpr (dMut 7 mAppend (dCons (rD (callP [.m, .v] φ__law_drawn (vCons (dName 0) (vCons (dv (rD (op2r fAdd fCat (dv (dC (.int 1))) (dName 9)))) vNil)))) dNil))))))
    (sRetR (callP [.v, .v] φ__law_filled (vCons (dName 5) (vCons (dName 7) vNil)))))))))))
def φ__law_row : List PyData → Out := runF 10 [.m, .v] m__law_row
def m__law_picks : M Fl :=
  (dSeq (sSetO 2 (dLst (dCons (dTup dNil) dNil)))
    (dSeq (sFor (.nm 3) [3, 4, 5, 6] (iR1 (vCons (dName 1) vNil)) (dSeq (sSetO 4 (dLst dNil))
    (dSeq (sFor (.nm 5) [5, 6] (iV (dName 2)) (dSeq (sSet 6 (dIfE (dB (op2 fNe (dName 5) (dv (dTup dNil)))) (rD (op2r fAdd fCat (dv (op2 fIx (dName 5) (dv (op1 fNeg (dv (dC (.int 1))))))) (dv (dC (.int 1))))) (dC (.int 0))))
    (sExpr (dMut 4 mExtend (compL [7] (.nm 7) (iR2 (vCons (dName 6) (vCons (dv (rD (op2r fAdd fCat (dv (rD (op2r fAdd fCat (dv (op2 fSub (dName 0) (dName 1))) (dName 3)))) (dv (dC (.int 1)))))) vNil))) (rt true) (rD (op2r fAdd fCat (dName 5) (dv (dTup (dCons (dEsc (dName 7)) dNil))))))))))
    (sMove 2 4))))
    (sRetV 2)))
def φ__law_picks : List PyData → Out := runF 8 [.v, .v] m__law_picks
def m__law_parts : M Fl :=
  (dSeq (sNewDk 2)
    (dSeq (sFor (.nm 3) [3] (iV (dv (rD (callP [.v, .v] φ__law_picks (vCons (dv (opN fLen (vCons (dName 0) vNil))) (vCons (dName 1) vNil)))))) (sPutK 2 (dC (.bool true)) (dv (rD (callP [.v] φ__law_like (vCons (dv (dFz (compL [4] (.nm 4) (iV (dName 3)) (rt true) (op2 fIx (dName 0) (dName 4))))) vNil))))))
    (sRetO (sSortDk 2))))
def φ__law_parts : List PyData → Out := runF 5 [.v, .v] m__law_parts
def m__law_all : M Fl :=
  (dSeq (sSetO 1 (dLst (dCons (dTup dNil) dNil)))
    (dSeq (sFor (.nm 2) [2, 3, 4] (iR2 (vCons (dv (dC (.int 1))) (vCons (dv (rD (op2r fAdd fCat (dName 0) (dv (dC (.int 1)))))) vNil))) (dSeq (sSetO 3 (dLst dNil))
    (dSeq (sFor (.nm 4) [4] (iV (dName 1)) (sExpr (dMut 3 mExtend (compL [5] (.nm 5) (iR1 (vCons (dName 2) vNil)) (rt true) (rD (op2r fAdd fCat (dv (rD (op2r fAdd fCat (dv (rD (cutR (dName 4) oNone (oSome (dEsc (dName 5)))))) (dv (dTup (dCons (dEsc (dName 2)) dNil)))))) (dv (rD (cutR (dName 4) (oSome (dEsc (dName 5))) oNone)))))))))
    (sMove 1 3))))
    (sRetO (opNo fSorted1 (vCons (dName 1) vNil)))))
def φ__law_all : List PyData → Out := runF 6 [.v] m__law_all
def m__law_parts_right : M Fl :=
  (dSeq (sPar [1, 2] (msR (callP [.m, .v] φ__law_row (vCons (dName 0) (vCons (dv (op2 fIx (dv (dFz (dLst (dCons (dC (.int 7)) (dCons (dC (.int 12)) dNil))))) (dv (rD (callP [.m, .v] φ__law_take (vCons (dName 0) (vCons (dv (dC (.int 2))) vNil))))))) vNil))) (msR (callP [.m, .v] φ__law_take (vCons (dName 0) (vCons (dv (dC (.int 6))) vNil))) msNil)))
    (dSeq (sSetR 3 (callP [.v, .v] φ__law_parts (vCons (dName 1) (vCons (dName 2) vNil))))
    (dSeq (sSetR 4 (callP [.v, .v] φ_parts_of (vCons (dName 1) (vCons (dName 2) vNil))))
    (dSeq (sIf (dNot (dB (rD (callP [.v, .v] (φ__law_same 8) (vCons (dName 4) (vCons (dName 3) vNil)))))) (sRet (dC (.bool false))) sNx)
    (dSeq (sExpr (dMut 4 mAppend (dCons (dC (.int 0)) dNil)))
    (dSeq (sIf (dNot (dB (rD (callP [.v, .v] (φ__law_same 8) (vCons (dv (rD (callK [.v, .v] φ_parts_of [1, 0] vNil (vCons (dName 2) (vCons (dName 1) vNil))))) (vCons (dName 3) vNil)))))) (sRet (dC (.bool false))) sNx)
    (dSeq (sFor (.nm 5) [5, 6, 7, 8] (iR1 (vCons (dv (dC (.int 3))) vNil)) (sIf (dAnd (dB (op2 fNe (dName 3) (dv (dFz (dLst dNil))))) (dB (op2 fGt (dName 2) (dv (dC (.int 0)))))) (dSeq (sSet 6 (op2 fIx (dName 3) (dv (rD (callP [.m, .v] φ__law_take (vCons (dName 0) (vCons (dv (opN fLen (vCons (dName 3) vNil))) vNil)))))))
    (dSeq (sSetR 7 (callP [.v, .v] φ_parts_of (vCons (dName 6) (vCons (dv (rD (callP [.m, .v] φ__law_take (vCons (dName 0) (vCons (dName 2) vNil))))) vNil))))
    (dSeq (sSet 8 (op2 fIx (dName 7) (dv (rD (callP [.m, .v] φ__law_take (vCons (dName 0) (vCons (dv (opN fLen (vCons (dName 7) vNil))) vNil)))))))
    (sIf (dOr (dNot (dB (rD (callP [.v, .v] (φ__law_same 8) (vCons (dv (rD (callP [.v, .v] φ_shows (vCons (dName 1) (vCons (dName 6) vNil))))) (vCons (dv (dC (.bool true))) vNil)))))) (dAnd (dB (op2 fNe (dName 8) (dv (dTup dNil)))) (dNot (dB (rD (callP [.v, .v] (φ__law_same 8) (vCons (dv (rD (callP [.v, .v] φ_shows (vCons (dName 1) (vCons (dName 8) vNil))))) (vCons (dv (dC (.bool true))) vNil)))))))) (sRet (dC (.bool false))) sNx)))) sNx))
    (sRet (dC (.bool true))))))))))
def φ__law_parts_right : List PyData → Out := runF 9 [.m] m__law_parts_right
def m_law : M Fl :=
  (dSeq (sFor (.nm 1) [1, 2, 3, 4, 5] (iR1 (vCons (dv (opN fMax (vCons (dv (dC (.int 2))) (vCons (dv (opN fMin (vCons (dv (opN fLen (vCons (dName 0) vNil))) (vCons (dv (dC (.int 8))) vNil)))) vNil)))) vNil)) (dSeq (sSetR 2 (callP [.v, .v] φ__law_deck (vCons (dName 0) (vCons (dName 1) vNil))))
    (dSeq (sIf (dNot (dB (rD (callP [.m] φ__law_parts_right (vCons (dName 2) vNil))))) (sRet (dC (.bool false))) sNx)
    (dSeq (sSet 3 (dIfE (dB (op2 fGt (dName 1) (dv (dC (.int 0))))) (rD (callP [.m, .v] φ__law_take (vCons (dName 2) (vCons (dv (dC (.int 6))) vNil)))) (rD (op2r fAdd fCat (dv (dC (.int 4))) (dv (rD (callP [.m, .v] φ__law_take (vCons (dName 2) (vCons (dv (dC (.int 4))) vNil)))))))))
    (dSeq (sSetR 4 (callP [.v] φ__law_all (vCons (dName 3) vNil)))
    (dSeq (sSetR 5 (callP [.v] φ_orders (vCons (dName 3) vNil)))
    (dSeq (sIf (dNot (dB (rD (callP [.v, .v] (φ__law_same 8) (vCons (dName 5) (vCons (dName 4) vNil)))))) (sRet (dC (.bool false))) sNx)
    (dSeq (sExpr (dMut 5 mReverse (rt [])))
    (sIf (dNot (dB (rD (callP [.v, .v] (φ__law_same 8) (vCons (dv (rD (callK [.v] φ_orders [0] vNil (vCons (dName 3) vNil)))) (vCons (dName 4) vNil)))))) (sRet (dC (.bool false))) sNx)))))))))
    (sRet (dC (.bool true))))
def φ_law : List PyData → Out := runF 6 [.v] m_law
/-! ### what the top holds -/
structure EnvOk (mg : Str → Option Value) (K : PySem.W.Frag) : Prop where
  f_is_integer : ∃ f fd, Fun K "is_integer" "is_integer" s_is_integer f fd ∧ mg "is_integer" = some (.ref f)
  f_are_integers : ∃ f fd, Fun K "are_integers" "are_integers" s_are_integers f fd ∧ mg "are_integers" = some (.ref f)
  f_is_order_of : ∃ f fd, Fun K "is_order_of" "is_order_of" s_is_order_of f fd ∧ mg "is_order_of" = some (.ref f)
  f_compared : ∃ f fd, Fun K "compared" "compared" s_compared f fd ∧ mg "compared" = some (.ref f)
  f_neighbours : ∃ f fd, Fun K "neighbours" "neighbours" s_neighbours f fd ∧ mg "neighbours" = some (.ref f)
  f_placed : ∃ f fd, Fun K "placed" "placed" s_placed f fd ∧ mg "placed" = some (.ref f)
  f_is_shown : ∃ f fd, Fun K "is_shown" "is_shown" s_is_shown f fd ∧ mg "is_shown" = some (.ref f)
  f_check_order : ∃ f fd, Fun K "check_order" "check_order" s_check_order f fd ∧ mg "check_order" = some (.ref f)
  f_is_pattern : ∃ f fd, Fun K "is_pattern" "is_pattern" s_is_pattern f fd ∧ mg "is_pattern" = some (.ref f)
  f_check_pattern : ∃ f fd, Fun K "check_pattern" "check_pattern" s_check_pattern f fd ∧ mg "check_pattern" = some (.ref f)
  f_check_number : ∃ f fd, Fun K "check_number" "check_number" s_check_number f fd ∧ mg "check_number" = some (.ref f)
  f_shows : ∃ f fd, Fun K "shows" "shows" s_shows f fd ∧ mg "shows" = some (.ref f)
  f_shown_of : ∃ f fd, Fun K "shown_of" "shown_of" s_shown_of f fd ∧ mg "shown_of" = some (.ref f)
  f_parts_of : ∃ f fd, Fun K "parts_of" "parts_of" s_parts_of f fd ∧ mg "parts_of" = some (.ref f)
  f_orders_of : ∃ f fd, Fun K "orders_of" "orders_of" s_orders_of f fd ∧ mg "orders_of" = some (.ref f)
  f_orders : ∃ f fd, Fun K "orders" "orders" s_orders f fd ∧ mg "orders" = some (.ref f)
  f__law_deck : ∃ f fd, Fun K "_law_deck" "_law_deck" s__law_deck f fd ∧ mg "_law_deck" = some (.ref f)
  f__law_take : ∃ f fd, Fun K "_law_take" "_law_take" s__law_take f fd ∧ mg "_law_take" = some (.ref f)
  f__law_same : ∃ f fd, Fun K "_law_same" "_law_same" s__law_same f fd ∧ mg "_law_same" = some (.ref f)
  f__law_drawn : ∃ f fd, Fun K "_law_drawn" "_law_drawn" s__law_drawn f fd ∧ mg "_law_drawn" = some (.ref f)
  f__law_like : ∃ f fd, Fun K "_law_like" "_law_like" s__law_like f fd ∧ mg "_law_like" = some (.ref f)
  f__law_filled : ∃ f fd, Fun K "_law_filled" "_law_filled" s__law_filled f fd ∧ mg "_law_filled" = some (.ref f)
  f__law_row : ∃ f fd, Fun K "_law_row" "_law_row" s__law_row f fd ∧ mg "_law_row" = some (.ref f)
  f__law_picks : ∃ f fd, Fun K "_law_picks" "_law_picks" s__law_picks f fd ∧ mg "_law_picks" = some (.ref f)
  f__law_parts : ∃ f fd, Fun K "_law_parts" "_law_parts" s__law_parts f fd ∧ mg "_law_parts" = some (.ref f)
  f__law_all : ∃ f fd, Fun K "_law_all" "_law_all" s__law_all f fd ∧ mg "_law_all" = some (.ref f)
  f__law_parts_right : ∃ f fd, Fun K "_law_parts_right" "_law_parts_right" s__law_parts_right f fd ∧ mg "_law_parts_right" = some (.ref f)
  f_law : ∃ f fd, Fun K "law" "law" s_law f fd ∧ mg "law" = some (.ref f)
  b_all : mg "all" = none
  b_bool : mg "bool" = none
  b_enumerate : mg "enumerate" = none
  b_int : mg "int" = none
  b_isinstance : mg "isinstance" = none
  b_len : mg "len" = none
  b_list : mg "list" = none
  b_max : mg "max" = none
  b_min : mg "min" = none
  b_range : mg "range" = none
  b_sorted : mg "sorted" = none
  b_str : mg "str" = none
  b_sum : mg "sum" = none
  b_tuple : mg "tuple" = none
  b_combinations : mg "combinations" = some (.type "itertools.combinations")
  b_permutations : mg "permutations" = some (.type "itertools.permutations")
/-! ### derivations -/
section
variable {P : Program} {w : World} {K : PySem.W.Frag} {mg : Str → Option Value} {base : Heap}
theorem sc_is_integer : FnScope ["value"] ["value"] (defScope s_is_integer) := ⟨rfl, rfl, rfl, by decide +kernel, rfl, by decide +kernel, by decide +kernel⟩
theorem fn_is_integer (e : EnvOk mg K) : FnP P w K mg base "is_integer" s_is_integer 1 ["value"] [.v] φ_is_integer := by
  obtain ⟨f, fd, F, hm⟩ := e.f_is_integer
  refine fnP_mk (k := 0) (N := ["value"]) F hm (F.binds (ps := ["value"]) fun _ _ _ _ _ _ us hl => match us, hl with | [_], _ => rfl) sc_is_integer rfl rfl fun cdv A outer s H E hr => ?_
  exact (dss_one (ds_ret (dp_and (dp_isi (t := .int) (by rfl) e.b_isinstance (zv 0) (by rfl) e.b_int boot_int) (dp_one (dp_not (dp_isi (t := .bool) (by rfl) e.b_isinstance (zv 0) (by rfl) e.b_bool boot_bool))))))
theorem sc_are_integers : FnScope ["value", "a"] ["value"] (defScope s_are_integers) := ⟨rfl, rfl, rfl, by decide +kernel, rfl, by decide +kernel, by decide +kernel⟩
theorem fn_are_integers (e : EnvOk mg K) : FnP P w K mg base "are_integers" s_are_integers 2 ["value"] [.v] φ_are_integers := by
  obtain ⟨f, fd, F, hm⟩ := e.f_are_integers
  refine fnP_mk (k := 1) (N := ["value", "a"]) F hm (F.binds (ps := ["value"]) fun _ _ _ _ _ _ us hl => match us, hl with | [_], _ => rfl) sc_are_integers rfl rfl fun cdv A outer s H E hr => ?_
  exact (dss_one (ds_ret (dp_and (dp_isi (t := .tuple) (by rfl) e.b_isinstance (zv 0) (by rfl) e.b_tuple boot_tuple) (dp_one (dp_callB (cd_all rfl) (by rfl) e.b_all boot_all (dvs_cons (dv_of (dp_fz (do_comp [("a", 1)] rfl sc_are_integers.nd (di_val (zv 0)) (blkOk_by (by rfl)) (fun _ _ _ _ _ => (dgb_any (dg_name (i := 1) sc_are_integers.nd rfl (by first | exact Or.inl rfl | exact Or.inr rfl)))) (fun _ _ _ _ _ => dts_nil) (fun _ _ _ _ _ => (dp_ofR (dr_fn ((fn_is_integer e).mono (by omega)) hr (by rfl) (dvs_cons (zv 1) dvs_nil)))) (by simp [tgS, tgsS])))) dvs_nil))))))
theorem sc_is_order_of : FnScope ["told"] ["told"] (defScope s_is_order_of) := ⟨rfl, rfl, rfl, by decide +kernel, rfl, by decide +kernel, by decide +kernel⟩
theorem fn_is_order_of (e : EnvOk mg K) : FnP P w K mg base "is_order_of" s_is_order_of 3 ["told"] [.v] φ_is_order_of := by
  obtain ⟨f, fd, F, hm⟩ := e.f_is_order_of
  refine fnP_mk (k := 2) (N := ["told"]) F hm (F.binds (ps := ["told"]) fun _ _ _ _ _ _ us hl => match us, hl with | [_], _ => rfl) sc_is_order_of rfl rfl fun cdv A outer s H E hr => ?_
  exact (dss_one (ds_ret (dp_and (dp_ofR (dr_fn ((fn_are_integers e).mono (by omega)) hr (by rfl) (dvs_cons (zv 0) dvs_nil))) (dp_one (dp_cmp (or_eq hr.units) (dv_of (dp_fz (do_callB (cd_sorted hr.units) (by rfl) e.b_sorted boot_sorted (dvs_cons (zv 0) dvs_nil)))) (dv_of (dp_fz (do_lstRg rfl (by rfl) e.b_list (drg2 (by rfl) e.b_range (dv_of dp_int) (dv_of (dp_ofR (dr_bin or_add or_cat (dv_of (dp_callB cd_len (by rfl) e.b_len boot_len (dvs_cons (zv 0) dvs_nil))) (dv_of dp_int)))))))) (by rfl))))))
theorem sc_compared : FnScope ["numbers", "rank", "at", "number"] ["numbers"] (defScope s_compared) := ⟨rfl, rfl, rfl, by decide +kernel, rfl, by decide +kernel, by decide +kernel⟩
theorem fn_compared (e : EnvOk mg K) : FnP P w K mg base "compared" s_compared 1 ["numbers"] [.v] φ_compared := by
  obtain ⟨f, fd, F, hm⟩ := e.f_compared
  refine fnP_mk (k := 0) (N := ["numbers", "rank", "at", "number"]) F hm (F.binds (ps := ["numbers"]) fun _ _ _ _ _ _ us hl => match us, hl with | [_], _ => rfl) sc_compared rfl rfl fun cdv A outer s H E hr => ?_
  exact (dss_cons (ds_set (i := 1) sc_compared.nd rfl (by first | exact Or.inl rfl | exact Or.inr rfl) (dp_dcomp [("at", 2), ("number", 3)] rfl sc_compared.nd (di_enumO (by rfl) e.b_enumerate (do_callB (cd_sorted hr.units) (by rfl) e.b_sorted boot_sorted (dvs_cons (zv 0) dvs_nil))) (blkOk_by (by rfl)) (fun _ _ _ _ _ => (dgb_tup rfl (dgs_cons (dg_name (i := 2) sc_compared.nd rfl (by first | exact Or.inl rfl | exact Or.inr rfl)) (dgs_cons (dg_name (i := 3) sc_compared.nd rfl (by first | exact Or.inl rfl | exact Or.inr rfl)) dgs_nil)))) (fun _ _ _ _ _ => dts_nil) (fun _ _ _ _ _ => (dp_esc (zv 3))) (fun _ _ _ _ _ => (dp_ofR (dr_bin or_add or_cat (zv 2) (dv_of dp_int)))) (by simp [tgS, tgsS])))
      (dss_one (ds_ret (dp_callTy cd_tuple (by rfl) e.b_tuple boot_tuple (dvs_cons (dv_of (dp_fz (do_comp [("number", 3)] rfl sc_compared.nd (di_val (zv 0)) (blkOk_by (by rfl)) (fun _ _ _ _ _ => (dgb_any (dg_name (i := 3) sc_compared.nd rfl (by first | exact Or.inl rfl | exact Or.inr rfl)))) (fun _ _ _ _ _ => dts_nil) (fun _ _ _ _ _ => (dp_ix (ixr hr.units) (zv 1) (zv 3) (fun _ _ => rfl))) (by simp [tgS, tgsS])))) dvs_nil)))))
theorem sc_neighbours : FnScope ["pattern", "found", "at", "number", "lesser", "other", "greater", "below", "above"] ["pattern"] (defScope s_neighbours) := ⟨rfl, rfl, rfl, by decide +kernel, rfl, by decide +kernel, by decide +kernel⟩
theorem fn_neighbours (e : EnvOk mg K) : FnP P w K mg base "neighbours" s_neighbours 1 ["pattern"] [.v] φ_neighbours := by
  obtain ⟨f, fd, F, hm⟩ := e.f_neighbours
  refine fnP_mk (k := 0) (N := ["pattern", "found", "at", "number", "lesser", "other", "greater", "below", "above"]) F hm (F.binds (ps := ["pattern"]) fun _ _ _ _ _ _ us hl => match us, hl with | [_], _ => rfl) sc_neighbours rfl rfl fun cdv A outer s H E hr => ?_
  exact (dss_cons (ds_setO (i := 1) sc_neighbours.nd rfl (by first | exact Or.inl rfl | exact Or.inr rfl) (do_lst dps_nil))
      (dss_cons (ds_for [2, 3, 4, 6, 7, 8] passX rfl (di_enum (by rfl) e.b_enumerate (zv 0)) (dgb_tup rfl (dgs_cons (dg_name (i := 2) sc_neighbours.nd rfl (by first | exact Or.inl rfl | exact Or.inr rfl)) (dgs_cons (dg_name (i := 3) sc_neighbours.nd rfl (by first | exact Or.inl rfl | exact Or.inr rfl)) dgs_nil))) (dss_cons (ds_setComp [("other", 5)] (i := 4) rfl sc_neighbours.nd rfl rfl (sw_true rfl rfl (by rfl) (by rfl)) (di_val (dv_of (dp_ofR (dr_cut (zv 0) dpo_none (dpo_some (dp_esc (zv 2))))))) (blkOk_by (by rfl)) (fun _ _ _ _ _ => (dgb_any (dg_name (i := 5) sc_neighbours.nd rfl (by first | exact Or.inl rfl | exact Or.inr rfl)))) (fun _ _ _ _ _ => (dts_one (dt_cmp or_lt (zv 5) (zv 3) (by rfl)))) (fun _ _ _ _ _ => (dp_esc (zv 5))) (by simp [tgS, tgsS]))
      (dss_cons (ds_setComp [("other", 5)] (i := 6) rfl sc_neighbours.nd rfl rfl (sw_true rfl rfl (by rfl) (by rfl)) (di_val (dv_of (dp_ofR (dr_cut (zv 0) dpo_none (dpo_some (dp_esc (zv 2))))))) (blkOk_by (by rfl)) (fun _ _ _ _ _ => (dgb_any (dg_name (i := 5) sc_neighbours.nd rfl (by first | exact Or.inl rfl | exact Or.inr rfl)))) (fun _ _ _ _ _ => (dts_one (dt_cmp or_gt (zv 5) (zv 3) (by rfl)))) (fun _ _ _ _ _ => (dp_esc (zv 5))) (by simp [tgS, tgsS]))
      (dss_cons (ds_set (i := 7) sc_neighbours.nd rfl (by first | exact Or.inl rfl | exact Or.inr rfl) (dp_ifE (dt_cmp (or_ne hr.units) (zv 4) (dv_of (dp_fz (do_lst dps_nil))) (by rfl)) (dp_indexT (zv 0) (dv_of (dp_callB (cd_max rfl) (by rfl) e.b_max boot_max (dvs_cons (zv 4) dvs_nil)))) dp_none))
      (dss_cons (ds_set (i := 8) sc_neighbours.nd rfl (by first | exact Or.inl rfl | exact Or.inr rfl) (dp_ifE (dt_cmp (or_ne hr.units) (zv 6) (dv_of (dp_fz (do_lst dps_nil))) (by rfl)) (dp_indexT (zv 0) (dv_of (dp_callB (cd_min rfl) (by rfl) e.b_min boot_min (dvs_cons (zv 6) dvs_nil)))) dp_none))
      (dss_one (ds_expr (dp_mut (i := 1) rfl (by first | exact Or.inl rfl | exact Or.inr (Or.inl rfl) | exact Or.inr (Or.inr rfl)) PySem.F.slot_list_append PySem.F.type_list_append mr_append (dps_cons (dp_tup (dps_cons (dp_esc (zv 7)) (dps_cons (dp_esc (zv 8)) dps_nil))) dps_nil)))))))))
      (dss_one (ds_retV (i := 1) rfl (by first | exact Or.inl rfl | exact Or.inr (Or.inl rfl) | exact Or.inr (Or.inr rfl))))))
theorem sc_placed : FnScope ["order", "pattern", "found", "at", "below", "above", "longer", "places", "least", "most", "start", "stop", "place"] ["order", "pattern"] (defScope s_placed) := ⟨rfl, rfl, rfl, by decide +kernel, rfl, by decide +kernel, by decide +kernel⟩
theorem fn_placed (e : EnvOk mg K) : FnP P w K mg base "placed" s_placed 2 ["order", "pattern"] [.v, .v] φ_placed := by
  obtain ⟨f, fd, F, hm⟩ := e.f_placed
  refine fnP_mk (k := 1) (N := ["order", "pattern", "found", "at", "below", "above", "longer", "places", "least", "most", "start", "stop", "place"]) F hm (F.binds (ps := ["order", "pattern"]) fun _ _ _ _ _ _ us hl => match us, hl with | [_, _], _ => rfl) sc_placed rfl rfl fun cdv A outer s H E hr => ?_
  exact (dss_cons (ds_setO (i := 2) sc_placed.nd rfl (by first | exact Or.inl rfl | exact Or.inr rfl) (do_lst (dps_cons (dp_tup dps_nil) dps_nil)))
      (dss_cons (ds_for [3, 4, 5, 6, 7, 8, 9, 10, 11] passX rfl (di_enum (by rfl) e.b_enumerate (dv_of (dp_ofR (dr_fn ((fn_neighbours e).mono (by omega)) hr (by rfl) (dvs_cons (zv 1) dvs_nil))))) (dgb_tup rfl (dgs_cons (dg_name (i := 3) sc_placed.nd rfl (by first | exact Or.inl rfl | exact Or.inr rfl)) (dgs_cons (dg_tup rfl (dgs_cons (dg_name (i := 4) sc_placed.nd rfl (by first | exact Or.inl rfl | exact Or.inr rfl)) (dgs_cons (dg_name (i := 5) sc_placed.nd rfl (by first | exact Or.inl rfl | exact Or.inr rfl)) dgs_nil))) dgs_nil))) (dss_cons (ds_setO (i := 6) sc_placed.nd rfl (by first | exact Or.inl rfl | exact Or.inr rfl) (do_lst dps_nil))
      (dss_cons (ds_for [7, 8, 9, 10, 11] passX rfl (di_val (zv 2)) (dgb_any (dg_name (i := 7) sc_placed.nd rfl (by first | exact Or.inl rfl | exact Or.inr rfl))) (dss_cons (ds_set (i := 8) sc_placed.nd rfl (by first | exact Or.inl rfl | exact Or.inr rfl) (dp_ifE (dt_cmp or_notN (zv 4) (dv_of dp_none) (by rfl)) (dp_ix (ixr hr.units) (zv 0) (dv_of (dp_ix (ixr hr.units) (zv 7) (zv 4) (fun _ _ => rfl))) (fun _ _ => rfl)) dp_int))
      (dss_cons (ds_set (i := 9) sc_placed.nd rfl (by first | exact Or.inl rfl | exact Or.inr rfl) (dp_ifE (dt_cmp or_notN (zv 5) (dv_of dp_none) (by rfl)) (dp_ix (ixr hr.units) (zv 0) (dv_of (dp_ix (ixr hr.units) (zv 7) (zv 5) (fun _ _ => rfl))) (fun _ _ => rfl)) (dp_ofR (dr_bin or_add or_cat (dv_of (dp_callB cd_len (by rfl) e.b_len boot_len (dvs_cons (zv 0) dvs_nil))) (dv_of dp_int)))))
      (dss_cons (ds_set (i := 10) sc_placed.nd rfl (by first | exact Or.inl rfl | exact Or.inr rfl) (dp_ifE (dt_cmp (or_ne hr.units) (zv 7) (dv_of (dp_tup dps_nil)) (by rfl)) (dp_ofR (dr_bin or_add or_cat (dv_of (dp_ix (ixr hr.units) (zv 7) (dv_of (dp_un un_negD (dv_of dp_int))) (fun _ _ => rfl))) (dv_of dp_int))) dp_int))
      (dss_cons (ds_set (i := 11) sc_placed.nd rfl (by first | exact Or.inl rfl | exact Or.inr rfl) (dp_bin or_sub (dv_of (dp_callB cd_len (by rfl) e.b_len boot_len (dvs_cons (zv 0) dvs_nil))) (dv_of (dp_bin or_sub (dv_of (dp_bin or_sub (dv_of (dp_callB cd_len (by rfl) e.b_len boot_len (dvs_cons (zv 1) dvs_nil))) (zv 3))) (dv_of dp_int)))))
      (dss_one (ds_expr (dp_extend (i := 6) rfl (by first | exact Or.inl rfl | exact Or.inr (Or.inl rfl) | exact Or.inr (Or.inr rfl)) (df_of (do_comp [("place", 12)] rfl sc_placed.nd (di_range2 (by rfl) e.b_range (dvs_cons (zv 10) (dvs_cons (zv 11) dvs_nil))) (blkOk_by (by rfl)) (fun _ _ _ _ _ => (dgb_any (dg_name (i := 12) sc_placed.nd rfl (by first | exact Or.inl rfl | exact Or.inr rfl)))) (fun _ _ _ _ _ => (dts_one (dt_chain or_lt or_lt (zv 8) (dv_of (dp_ix (ixr hr.units) (zv 0) (zv 12) (fun _ _ => rfl))) (zv 9)))) (fun _ _ _ _ _ => (dp_ofR (dr_bin or_add or_cat (zv 7) (dv_of (dp_tup (dps_cons (dp_esc (zv 12)) dps_nil)))))) (by simp [tgS, tgsS])))))))))))
      (dss_one (ds_move (i := 2) (j := 6) sc_placed.nd rfl (by first | exact Or.inl rfl | exact Or.inr rfl) rfl (by first | exact Or.inl rfl | exact Or.inr (Or.inl rfl) | exact Or.inr (Or.inr rfl)))))))
      (dss_one (ds_retV (i := 2) rfl (by first | exact Or.inl rfl | exact Or.inr (Or.inl rfl) | exact Or.inr (Or.inr rfl))))))
theorem sc_is_shown : FnScope ["order", "pattern"] ["order", "pattern"] (defScope s_is_shown) := ⟨rfl, rfl, rfl, by decide +kernel, rfl, by decide +kernel, by decide +kernel⟩
theorem fn_is_shown (e : EnvOk mg K) : FnP P w K mg base "is_shown" s_is_shown 3 ["order", "pattern"] [.v, .v] φ_is_shown := by
  obtain ⟨f, fd, F, hm⟩ := e.f_is_shown
  refine fnP_mk (k := 2) (N := ["order", "pattern"]) F hm (F.binds (ps := ["order", "pattern"]) fun _ _ _ _ _ _ us hl => match us, hl with | [_, _], _ => rfl) sc_is_shown rfl rfl fun cdv A outer s H E hr => ?_
  exact (dss_one (ds_ret (dp_and (dp_cmp or_le (dv_of (dp_callB cd_len (by rfl) e.b_len boot_len (dvs_cons (zv 1) dvs_nil))) (dv_of (dp_callB cd_len (by rfl) e.b_len boot_len (dvs_cons (zv 0) dvs_nil))) (by rfl)) (dp_one (dp_cmp (or_ne hr.units) (dv_of (dp_ofR (dr_fn ((fn_placed e).mono (by omega)) hr (by rfl) (dvs_cons (zv 0) (dvs_cons (zv 1) dvs_nil))))) (dv_of (dp_fz (do_lst dps_nil))) (by rfl))))))
theorem sc_check_order : FnScope ["order"] ["order"] (defScope s_check_order) := ⟨rfl, rfl, rfl, by decide +kernel, rfl, by decide +kernel, by decide +kernel⟩
theorem fn_check_order (e : EnvOk mg K) : FnP P w K mg base "check_order" s_check_order 4 ["order"] [.v] φ_check_order := by
  obtain ⟨f, fd, F, hm⟩ := e.f_check_order
  refine fnP_mk (k := 3) (N := ["order"]) F hm (F.binds (ps := ["order"]) fun _ _ _ _ _ _ us hl => match us, hl with | [_], _ => rfl) sc_check_order rfl rfl fun cdv A outer s H E hr => ?_
  exact (dss_one (ds_if (dt_not (dt_val (dp_ofR (dr_fn ((fn_is_order_of e).mono (by omega)) hr (by rfl) (dvs_cons (zv 0) dvs_nil))))) (dss_one ds_bad) dss_nil))
theorem sc_is_pattern : FnScope ["told"] ["told"] (defScope s_is_pattern) := ⟨rfl, rfl, rfl, by decide +kernel, rfl, by decide +kernel, by decide +kernel⟩
theorem fn_is_pattern (e : EnvOk mg K) : FnP P w K mg base "is_pattern" s_is_pattern 4 ["told"] [.v] φ_is_pattern := by
  obtain ⟨f, fd, F, hm⟩ := e.f_is_pattern
  refine fnP_mk (k := 3) (N := ["told"]) F hm (F.binds (ps := ["told"]) fun _ _ _ _ _ _ us hl => match us, hl with | [_], _ => rfl) sc_is_pattern rfl rfl fun cdv A outer s H E hr => ?_
  exact (dss_one (ds_ret (dp_and (dp_ofR (dr_fn ((fn_is_order_of e).mono (by omega)) hr (by rfl) (dvs_cons (zv 0) dvs_nil))) (dp_one (dp_cmp (or_ne hr.units) (zv 0) (dv_of (dp_tup dps_nil)) (by rfl))))))
theorem sc_check_pattern : FnScope ["pattern"] ["pattern"] (defScope s_check_pattern) := ⟨rfl, rfl, rfl, by decide +kernel, rfl, by decide +kernel, by decide +kernel⟩
theorem fn_check_pattern (e : EnvOk mg K) : FnP P w K mg base "check_pattern" s_check_pattern 5 ["pattern"] [.v] φ_check_pattern := by
  obtain ⟨f, fd, F, hm⟩ := e.f_check_pattern
  refine fnP_mk (k := 4) (N := ["pattern"]) F hm (F.binds (ps := ["pattern"]) fun _ _ _ _ _ _ us hl => match us, hl with | [_], _ => rfl) sc_check_pattern rfl rfl fun cdv A outer s H E hr => ?_
  exact (dss_one (ds_if (dt_not (dt_val (dp_ofR (dr_fn ((fn_is_pattern e).mono (by omega)) hr (by rfl) (dvs_cons (zv 0) dvs_nil))))) (dss_one ds_bad) dss_nil))
theorem sc_check_number : FnScope ["n"] ["n"] (defScope s_check_number) := ⟨rfl, rfl, rfl, by decide +kernel, rfl, by decide +kernel, by decide +kernel⟩
theorem fn_check_number (e : EnvOk mg K) : FnP P w K mg base "check_number" s_check_number 2 ["n"] [.v] φ_check_number := by
  obtain ⟨f, fd, F, hm⟩ := e.f_check_number
  refine fnP_mk (k := 1) (N := ["n"]) F hm (F.binds (ps := ["n"]) fun _ _ _ _ _ _ us hl => match us, hl with | [_], _ => rfl) sc_check_number rfl rfl fun cdv A outer s H E hr => ?_
  exact (dss_one (ds_if (dt_w (dw_or (dt_not (dt_val (dp_ofR (dr_fn ((fn_is_integer e).mono (by omega)) hr (by rfl) (dvs_cons (zv 0) dvs_nil))))) (dw_or1 (dt_cmp or_lt (zv 0) (dv_of dp_int) (by rfl))))) (dss_one ds_bad) dss_nil))
theorem sc_shows : FnScope ["order", "pattern"] ["order", "pattern"] (defScope s_shows) := ⟨rfl, rfl, rfl, by decide +kernel, rfl, by decide +kernel, by decide +kernel⟩
theorem fn_shows (e : EnvOk mg K) : FnP P w K mg base "shows" s_shows 6 ["order", "pattern"] [.v, .v] φ_shows := by
  obtain ⟨f, fd, F, hm⟩ := e.f_shows
  refine fnP_mk (k := 5) (N := ["order", "pattern"]) F hm (F.binds (ps := ["order", "pattern"]) fun _ _ _ _ _ _ us hl => match us, hl with | [_, _], _ => rfl) sc_shows rfl rfl fun cdv A outer s H E hr => ?_
  exact (dss_cons (ds_exprR (dr_fn ((fn_check_order e).mono (by omega)) hr (by rfl) (dvs_cons (zv 0) dvs_nil)))
      (dss_cons (ds_exprR (dr_fn ((fn_check_pattern e).mono (by omega)) hr (by rfl) (dvs_cons (zv 1) dvs_nil)))
      (dss_one (ds_retR (dr_fn ((fn_is_shown e).mono (by omega)) hr (by rfl) (dvs_cons (zv 0) (dvs_cons (zv 1) dvs_nil)))))))
theorem sc_shown_of : FnScope ["order", "n", "numbers"] ["order", "n"] (defScope s_shown_of) := ⟨rfl, rfl, rfl, by decide +kernel, rfl, by decide +kernel, by decide +kernel⟩
theorem fn_shown_of (e : EnvOk mg K) : FnP P w K mg base "shown_of" s_shown_of 2 ["order", "n"] [.v, .v] φ_shown_of := by
  obtain ⟨f, fd, F, hm⟩ := e.f_shown_of
  refine fnP_mk (k := 1) (N := ["order", "n", "numbers"]) F hm (F.binds (ps := ["order", "n"]) fun _ _ _ _ _ _ us hl => match us, hl with | [_, _], _ => rfl) sc_shown_of rfl rfl fun cdv A outer s H E hr => ?_
  exact (dss_one (ds_retO (do_sortCmb [("numbers", 2)] rfl hr.units (by rfl) e.b_sorted (by rfl) e.b_combinations sc_shown_of.nd (dvs_cons (zv 0) (dvs_cons (zv 1) dvs_nil)) (blkOk_by (by rfl)) (fun _ _ _ _ _ => (dg_name (i := 2) sc_shown_of.nd rfl (by first | exact Or.inl rfl | exact Or.inr rfl))) (fun _ _ _ _ _ => (dp_ofR (dr_fn ((fn_compared e).mono (by omega)) hr (by rfl) (dvs_cons (zv 2) dvs_nil)))) (fun _ _ _ _ _ => dp_bool) (by simp [tgS, tgsS]))))
theorem sc_parts_of : FnScope ["order", "n"] ["order", "n"] (defScope s_parts_of) := ⟨rfl, rfl, rfl, by decide +kernel, rfl, by decide +kernel, by decide +kernel⟩
theorem fn_parts_of (e : EnvOk mg K) : FnP P w K mg base "parts_of" s_parts_of 5 ["order", "n"] [.v, .v] φ_parts_of := by
  obtain ⟨f, fd, F, hm⟩ := e.f_parts_of
  refine fnP_mk (k := 4) (N := ["order", "n"]) F hm (F.binds (ps := ["order", "n"]) fun _ _ _ _ _ _ us hl => match us, hl with | [_, _], _ => rfl) sc_parts_of rfl rfl fun cdv A outer s H E hr => ?_
  exact (dss_cons (ds_exprR (dr_fn ((fn_check_order e).mono (by omega)) hr (by rfl) (dvs_cons (zv 0) dvs_nil)))
      (dss_cons (ds_exprR (dr_fn ((fn_check_number e).mono (by omega)) hr (by rfl) (dvs_cons (zv 1) dvs_nil)))
      (dss_one (ds_retR (dr_fn ((fn_shown_of e).mono (by omega)) hr (by rfl) (dvs_cons (zv 0) (dvs_cons (zv 1) dvs_nil)))))))
theorem sc_orders_of : FnScope ["n"] ["n"] (defScope s_orders_of) := ⟨rfl, rfl, rfl, by decide +kernel, rfl, by decide +kernel, by decide +kernel⟩
theorem fn_orders_of (e : EnvOk mg K) : FnP P w K mg base "orders_of" s_orders_of 1 ["n"] [.v] φ_orders_of := by
  obtain ⟨f, fd, F, hm⟩ := e.f_orders_of
  refine fnP_mk (k := 0) (N := ["n"]) F hm (F.binds (ps := ["n"]) fun _ _ _ _ _ _ us hl => match us, hl with | [_], _ => rfl) sc_orders_of rfl rfl fun cdv A outer s H E hr => ?_
  exact (dss_one (ds_retO (do_lstPrm7 rfl (by rfl) e.b_list (by rfl) e.b_permutations (drg2 (by rfl) e.b_range (dv_of dp_int) (dv_of (dp_ofR (dr_bin or_add or_cat (zv 0) (dv_of dp_int))))))))
theorem sc_orders : FnScope ["n"] ["n"] (defScope s_orders) := ⟨rfl, rfl, rfl, by decide +kernel, rfl, by decide +kernel, by decide +kernel⟩
theorem fn_orders (e : EnvOk mg K) : FnP P w K mg base "orders" s_orders 3 ["n"] [.v] φ_orders := by
  obtain ⟨f, fd, F, hm⟩ := e.f_orders
  refine fnP_mk (k := 2) (N := ["n"]) F hm (F.binds (ps := ["n"]) fun _ _ _ _ _ _ us hl => match us, hl with | [_], _ => rfl) sc_orders rfl rfl fun cdv A outer s H E hr => ?_
  exact (dss_cons (ds_exprR (dr_fn ((fn_check_number e).mono (by omega)) hr (by rfl) (dvs_cons (zv 0) dvs_nil)))
      (dss_one (ds_retR (dr_fn ((fn_orders_of e).mono (by omega)) hr (by rfl) (dvs_cons (zv 0) dvs_nil)))))
theorem sc__law_deck : FnScope ["script", "at", "cell", "stir"] ["script", "at"] (defScope s__law_deck) := ⟨rfl, rfl, rfl, by decide +kernel, rfl, by decide +kernel, by decide +kernel⟩
theorem fn__law_deck (e : EnvOk mg K) : FnP P w K mg base "_law_deck" s__law_deck 1 ["script", "at"] [.v, .v] φ__law_deck := by
  obtain ⟨f, fd, F, hm⟩ := e.f__law_deck
  refine fnP_mk (k := 0) (N := ["script", "at", "cell", "stir"]) F hm (F.binds (ps := ["script", "at"]) fun _ _ _ _ _ _ us hl => match us, hl with | [_, _], _ => rfl) sc__law_deck rfl rfl fun cdv A outer s H E hr => ?_
  exact (dss_cons (ds_set (i := 2) sc__law_deck.nd rfl (by first | exact Or.inl rfl | exact Or.inr rfl) dp_int)
      (dss_cons (ds_if (dt_cmp or_lt (zv 1) (dv_of (dp_callB cd_len (by rfl) e.b_len boot_len (dvs_cons (zv 0) dvs_nil))) (by rfl)) (dss_one (ds_set (i := 2) sc__law_deck.nd rfl (by first | exact Or.inl rfl | exact Or.inr rfl) (dp_ix (ixr hr.units) (zv 0) (zv 1) (fun _ _ => rfl)))) dss_nil)
      (dss_cons (ds_set (i := 3) sc__law_deck.nd rfl (by first | exact Or.inl rfl | exact Or.inr rfl) (dp_bin or_mod (dv_of (dp_callTy cd_int (by rfl) e.b_int boot_int (dvs_cons (dv_of (dp_ofR (dr_bin or_add or_cat (dv_of (dp_ofR (dr_bin or_add or_cat (zv 2) (dv_of (dp_bin or_mul (dv_of dp_int) (zv 1)))))) (dv_of dp_int)))) dvs_nil))) (dv_of dp_int)))
      (dss_cons (ds_set (i := 3) sc__law_deck.nd rfl (by first | exact Or.inl rfl | exact Or.inr rfl) (dp_bin or_mod (dv_of (dp_callTy cd_int (by rfl) e.b_int boot_int (dvs_cons (dv_of (dp_ofR (dr_bin or_add or_cat (dv_of (dp_ofR (dr_bin or_add or_cat (dv_of (dp_bin or_mul (dv_of (dp_bin or_mul (zv 3) (zv 3))) (zv 3))) (dv_of (dp_bin or_mul (dv_of dp_int) (zv 1)))))) (dv_of dp_int)))) dvs_nil))) (dv_of dp_int)))
      (dss_cons (ds_if (dt_cmp or_lt (zv 2) (dv_of (dp_bin or_pow (dv_of dp_int) (dv_of dp_int))) (by rfl)) (dss_one (ds_retO (do_lst (dps_cons dp_int (dps_cons (dp_esc (zv 3)) dps_nil))))) dss_nil)
      (dss_one (ds_retO (do_lst (dps_cons (dp_bin or_sub (zv 2) (dv_of (dp_bin or_pow (dv_of dp_int) (dv_of dp_int)))) (dps_cons (dp_esc (zv 3)) dps_nil))))))))))
theorem sc__law_take : FnScope ["deck", "many", "taken"] ["deck", "many"] (defScope s__law_take) := ⟨rfl, rfl, rfl, by decide +kernel, rfl, by decide +kernel, by decide +kernel⟩
theorem fn__law_take (e : EnvOk mg K) : FnP P w K mg base "_law_take" s__law_take 1 ["deck", "many"] [.m, .v] φ__law_take := by
  obtain ⟨f, fd, F, hm⟩ := e.f__law_take
  refine fnP_mk (k := 0) (N := ["deck", "many", "taken"]) F hm (F.binds (ps := ["deck", "many"]) fun _ _ _ _ _ _ us hl => match us, hl with | [_, _], _ => rfl) sc__law_take rfl rfl fun cdv A outer s H E hr => ?_
  exact (dss_cons (ds_if (dt_cmp or_gt (dv_of (dp_ix (ixr hr.units) (zv 0) (dv_of dp_int) (fun _ _ => rfl))) (dv_of dp_int) (by rfl)) (dss_cons (ds_set (i := 2) sc__law_take.nd rfl (by first | exact Or.inl rfl | exact Or.inr rfl) (dp_bin or_mod (dv_of (dp_callTy cd_int (by rfl) e.b_int boot_int (dvs_cons (dv_of (dp_ix (ixr hr.units) (zv 0) (dv_of dp_int) (fun _ _ => rfl))) dvs_nil))) (zv 1)))
      (dss_cons (ds_sub (i := 0) rfl (by first | exact Or.inl rfl | exact Or.inr (Or.inl rfl) | exact Or.inr (Or.inr rfl)) (dp_bin or_div (dv_of (dp_ix (ixr hr.units) (zv 0) (dv_of dp_int) (fun _ _ => rfl))) (zv 1)) (dv_of dp_int))
      (dss_one (ds_retV (i := 2) rfl (by first | exact Or.inl rfl | exact Or.inr (Or.inl rfl) | exact Or.inr (Or.inr rfl)))))) dss_nil)
      (dss_cons (ds_sub (i := 0) rfl (by first | exact Or.inl rfl | exact Or.inr (Or.inl rfl) | exact Or.inr (Or.inr rfl)) (dp_bin or_mod (dv_of (dp_callTy cd_int (by rfl) e.b_int boot_int (dvs_cons (dv_of (dp_ofR (dr_bin or_add or_cat (dv_of (dp_bin or_mul (dv_of (dp_ix (ixr hr.units) (zv 0) (dv_of dp_int) (fun _ _ => rfl))) (dv_of dp_int))) (dv_of dp_int)))) dvs_nil))) (dv_of (dp_bin or_pow (dv_of dp_int) (dv_of dp_int)))) (dv_of dp_int))
      (dss_one (ds_ret (dp_bin or_mod (dv_of (dp_bin or_div (dv_of (dp_ix (ixr hr.units) (zv 0) (dv_of dp_int) (fun _ _ => rfl))) (dv_of (dp_bin or_pow (dv_of dp_int) (dv_of dp_int))))) (zv 1))))))
theorem sc__law_same : FnScope ["found", "due", "at"] ["found", "due"] (defScope s__law_same) := ⟨rfl, rfl, rfl, by decide +kernel, rfl, by decide +kernel, by decide +kernel⟩
theorem fn__law_same (e : EnvOk mg K) : ∀ n : Nat, FnP P w K mg base "_law_same" s__law_same (n + 1) ["found", "due"] [.v, .v] (φ__law_same n)
  | 0 => by
    obtain ⟨f, fd, F, hm⟩ := e.f__law_same
    exact fnP_bad F hm (F.binds (ps := ["found", "due"]) fun _ _ _ _ _ _ us hl => match us, hl with | [_, _], _ => rfl)
  | n + 1 => by
    have ih := fn__law_same e n
    obtain ⟨f, fd, F, hm⟩ := e.f__law_same
    refine (show n + 1 + 1 = (n + 1) + 1 by omega) ▸ fnP_mk (N := ["found", "due", "at"]) F hm (F.binds (ps := ["found", "due"]) fun _ _ _ _ _ _ us hl => match us, hl with | [_, _], _ => rfl) sc__law_same rfl rfl fun cdv A outer s H E hr => ?_
    exact (dss_cons (ds_if (dt_val (dp_isiT (by rfl) e.b_isinstance (zv 1) (ty_cons (t := .tuple) (by rfl) e.b_tuple boot_tuple (ty_cons (t := .list) (by rfl) e.b_list boot_list ty_nil)) (by decide))) (dss_cons (ds_if (dt_w (dw_or (dt_cmp (or_ne hr.units) (dv_of (dp_isi (t := .tuple) (by rfl) e.b_isinstance (zv 0) (by rfl) e.b_tuple boot_tuple)) (dv_of (dp_isi (t := .tuple) (by rfl) e.b_isinstance (zv 1) (by rfl) e.b_tuple boot_tuple)) (by rfl)) (dw_or1 (dt_cmp (or_ne hr.units) (dv_of (dp_isi (t := .list) (by rfl) e.b_isinstance (zv 0) (by rfl) e.b_list boot_list)) (dv_of (dp_isi (t := .list) (by rfl) e.b_isinstance (zv 1) (by rfl) e.b_list boot_list)) (by rfl))))) (dss_one (ds_ret dp_bool)) dss_nil)
      (dss_cons (ds_if (dt_cmp (or_ne hr.units) (dv_of (dp_callB cd_len (by rfl) e.b_len boot_len (dvs_cons (zv 0) dvs_nil))) (dv_of (dp_callB cd_len (by rfl) e.b_len boot_len (dvs_cons (zv 1) dvs_nil))) (by rfl)) (dss_one (ds_ret dp_bool)) dss_nil)
      (dss_one (ds_ret (dp_cmp (or_eq hr.units) (dv_of (dp_fz (do_comp [("at", 2)] rfl sc__law_same.nd (di_range1 (by rfl) e.b_range (dvs_cons (dv_of (dp_callB cd_len (by rfl) e.b_len boot_len (dvs_cons (zv 1) dvs_nil))) dvs_nil)) (blkOk_by (by rfl)) (fun _ _ _ _ _ => (dgb_any (dg_name (i := 2) sc__law_same.nd rfl (by first | exact Or.inl rfl | exact Or.inr rfl)))) (fun _ _ _ _ _ => (dts_one (dt_not (dt_val (dp_ofR (dr_fn ih hr (by rfl) (dvs_cons (dv_of (dp_ix (ixr hr.units) (zv 0) (zv 2) (fun _ _ => rfl))) (dvs_cons (dv_of (dp_ix (ixr hr.units) (zv 1) (zv 2) (fun _ _ => rfl))) dvs_nil)))))))) (fun _ _ _ _ _ => (dp_esc (zv 2))) (by simp [tgS, tgsS])))) (dv_of (dp_fz (do_lst dps_nil))) (by rfl)))))) dss_nil)
      (dss_cons (ds_if (dt_cmp or_isN (zv 1) (dv_of dp_none) (by rfl)) (dss_one (ds_ret (dp_cmp or_isN (zv 0) (dv_of dp_none) (by rfl)))) dss_nil)
      (dss_cons (ds_if (dt_val (dp_isi (t := .str) (by rfl) e.b_isinstance (zv 1) (by rfl) e.b_str boot_str)) (dss_one (ds_ret (dp_and (dp_isi (t := .str) (by rfl) e.b_isinstance (zv 0) (by rfl) e.b_str boot_str) (dp_one (dp_cmp (or_eq hr.units) (zv 0) (zv 1) (by rfl)))))) dss_nil)
      (dss_cons (ds_if (dt_w (dw_or (dt_val (dp_isi (t := .bool) (by rfl) e.b_isinstance (zv 1) (by rfl) e.b_bool boot_bool)) (dw_or1 (dt_val (dp_isi (t := .bool) (by rfl) e.b_isinstance (zv 0) (by rfl) e.b_bool boot_bool))))) (dss_one (ds_ret (dp_and (dp_isi (t := .bool) (by rfl) e.b_isinstance (zv 1) (by rfl) e.b_bool boot_bool) (dp_and (dp_isi (t := .bool) (by rfl) e.b_isinstance (zv 0) (by rfl) e.b_bool boot_bool) (dp_one (dp_cmp (or_eq hr.units) (zv 0) (zv 1) (by rfl))))))) dss_nil)
      (dss_one (ds_ret (dp_and (dp_isi (t := .int) (by rfl) e.b_isinstance (zv 0) (by rfl) e.b_int boot_int) (dp_one (dp_cmp (or_eq hr.units) (zv 0) (zv 1) (by rfl))))))))))
theorem sc__law_drawn : FnScope ["deck", "many", "found", "j"] ["deck", "many"] (defScope s__law_drawn) := ⟨rfl, rfl, rfl, by decide +kernel, rfl, by decide +kernel, by decide +kernel⟩
theorem fn__law_drawn (e : EnvOk mg K) : FnP P w K mg base "_law_drawn" s__law_drawn 2 ["deck", "many"] [.m, .v] φ__law_drawn := by
  obtain ⟨f, fd, F, hm⟩ := e.f__law_drawn
  refine fnP_mk (k := 1) (N := ["deck", "many", "found", "j"]) F hm (F.binds (ps := ["deck", "many"]) fun _ _ _ _ _ _ us hl => match us, hl with | [_, _], _ => rfl) sc__law_drawn rfl rfl fun cdv A outer s H E hr => ?_
  exact (dss_cons (ds_setO (i := 2) sc__law_drawn.nd rfl (by first | exact Or.inl rfl | exact Or.inr rfl) (do_lst dps_nil))
      (dss_cons (ds_for [3] passX rfl (di_range2 (by rfl) e.b_range (dvs_cons (dv_of dp_int) (dvs_cons (dv_of (dp_ofR (dr_bin or_add or_cat (zv 1) (dv_of dp_int)))) dvs_nil))) (dgb_any (dg_name (i := 3) sc__law_drawn.nd rfl (by first | exact Or.inl rfl | exact Or.inr rfl))) (dss_one (ds_expr (dp_mut (i := 2) rfl (by first | exact Or.inl rfl | exact Or.inr (Or.inl rfl) | exact Or.inr (Or.inr rfl)) PySem.F.slot_list_insert PySem.F.type_list_insert mr_insert (dps_cons (dp_ofR (dr_fn ((fn__law_take e).mono (by omega)) hr (by rfl) (dvs_cons (zv 0) (dvs_cons (zv 3) dvs_nil)))) (dps_cons (dp_esc (zv 3)) dps_nil))))))
      (dss_one (ds_ret (dp_callTy cd_tuple (by rfl) e.b_tuple boot_tuple (dvs_cons (zv 2) dvs_nil))))))
theorem sc__law_like : FnScope ["cells", "x", "y"] ["cells"] (defScope s__law_like) := ⟨rfl, rfl, rfl, by decide +kernel, rfl, by decide +kernel, by decide +kernel⟩
theorem fn__law_like (e : EnvOk mg K) : FnP P w K mg base "_law_like" s__law_like 1 ["cells"] [.v] φ__law_like := by
  obtain ⟨f, fd, F, hm⟩ := e.f__law_like
  refine fnP_mk (k := 0) (N := ["cells", "x", "y"]) F hm (F.binds (ps := ["cells"]) fun _ _ _ _ _ _ us hl => match us, hl with | [_], _ => rfl) sc__law_like rfl rfl fun cdv A outer s H E hr => ?_
  exact (dss_one (ds_ret (dp_callTy cd_tuple (by rfl) e.b_tuple boot_tuple (dvs_cons (dv_of (dp_fz (do_comp [("y", 2)] rfl sc__law_like.nd (di_val (zv 0)) (blkOk_by (by rfl)) (fun _ _ _ _ _ => (dgb_any (dg_name (i := 2) sc__law_like.nd rfl (by first | exact Or.inl rfl | exact Or.inr rfl)))) (fun _ _ _ _ _ => dts_nil) (fun _ _ _ _ _ => (dp_ofR (dr_bin or_add or_cat (dv_of dp_int) (dv_of (dp_callB cd_len (by rfl) e.b_len boot_len (dvs_cons (dv_of (dp_fz (do_comp [("x", 1)] rfl sc__law_like.nd (di_val (zv 0)) (blkOk_by (by rfl)) (fun _ _ _ _ _ => (dgb_any (dg_name (i := 1) sc__law_like.nd rfl (by first | exact Or.inl rfl | exact Or.inr rfl)))) (fun _ _ _ _ _ => (dts_one (dt_cmp or_lt (zv 1) (zv 2) (by rfl)))) (fun _ _ _ _ _ => (dp_esc (zv 1))) (by simp [tgS, tgsS])))) dvs_nil)))))) (by simp [tgS, tgsS])))) dvs_nil))))
theorem sc__law_filled : FnScope ["row", "rows", "found", "at", "less", "j", "x"] ["row", "rows"] (defScope s__law_filled) := ⟨rfl, rfl, rfl, by decide +kernel, rfl, by decide +kernel, by decide +kernel⟩
theorem fn__law_filled (e : EnvOk mg K) : FnP P w K mg base "_law_filled" s__law_filled 1 ["row", "rows"] [.v, .v] φ__law_filled := by
  obtain ⟨f, fd, F, hm⟩ := e.f__law_filled
  refine fnP_mk (k := 0) (N := ["row", "rows", "found", "at", "less", "j", "x"]) F hm (F.binds (ps := ["row", "rows"]) fun _ _ _ _ _ _ us hl => match us, hl with | [_, _], _ => rfl) sc__law_filled rfl rfl fun cdv A outer s H E hr => ?_
  exact (dss_cons (ds_setO (i := 2) sc__law_filled.nd rfl (by first | exact Or.inl rfl | exact Or.inr rfl) (do_lst dps_nil))
      (dss_cons (ds_for [3, 4] passX rfl (di_range1 (by rfl) e.b_range (dvs_cons (dv_of (dp_callB cd_len (by rfl) e.b_len boot_len (dvs_cons (zv 0) dvs_nil))) dvs_nil)) (dgb_any (dg_name (i := 3) sc__law_filled.nd rfl (by first | exact Or.inl rfl | exact Or.inr rfl))) (dss_cons (ds_set (i := 4) sc__law_filled.nd rfl (by first | exact Or.inl rfl | exact Or.inr rfl) (dp_callB (cd_sum rfl) (by rfl) e.b_sum boot_sum (dvs_cons (dv_of (dp_fz (do_comp [("j", 5)] rfl sc__law_filled.nd (di_range1 (by rfl) e.b_range (dvs_cons (dv_of (dp_callB cd_len (by rfl) e.b_len boot_len (dvs_cons (zv 0) dvs_nil))) dvs_nil)) (blkOk_by (by rfl)) (fun _ _ _ _ _ => (dgb_any (dg_name (i := 5) sc__law_filled.nd rfl (by first | exact Or.inl rfl | exact Or.inr rfl)))) (fun _ _ _ _ _ => (dts_one (dt_cmp or_lt (dv_of (dp_ix (ixr hr.units) (zv 0) (zv 5) (fun _ _ => rfl))) (dv_of (dp_ix (ixr hr.units) (zv 0) (zv 3) (fun _ _ => rfl))) (by rfl)))) (fun _ _ _ _ _ => (dp_callB cd_len (by rfl) e.b_len boot_len (dvs_cons (dv_of (dp_ix (ixr hr.units) (zv 1) (zv 5) (fun _ _ => rfl))) dvs_nil))) (by simp [tgS, tgsS])))) dvs_nil)))
      (dss_one (ds_setR (i := 2) sc__law_filled.nd rfl (by first | exact Or.inl rfl | exact Or.inr rfl) (dr_bin or_add or_cat (zv 2) (dv_of (dp_fz (do_comp [("x", 6)] rfl sc__law_filled.nd (di_val (dv_of (dp_ix (ixr hr.units) (zv 1) (zv 3) (fun _ _ => rfl)))) (blkOk_by (by rfl)) (fun _ _ _ _ _ => (dgb_any (dg_name (i := 6) sc__law_filled.nd rfl (by first | exact Or.inl rfl | exact Or.inr rfl)))) (fun _ _ _ _ _ => dts_nil) (fun _ _ _ _ _ => (dp_ofR (dr_bin or_add or_cat (zv 4) (zv 6)))) (by simp [tgS, tgsS])))))))))
      (dss_one (ds_ret (dp_callTy cd_tuple (by rfl) e.b_tuple boot_tuple (dvs_cons (zv 2) dvs_nil))))))
theorem sc__law_row : FnScope ["deck", "most", "way", "many", "straight", "base", "rest", "rows", "at", "more"] ["deck", "most"] (defScope s__law_row) := ⟨rfl, rfl, rfl, by decide +kernel, rfl, by decide +kernel, by decide +kernel⟩
theorem fn__law_row (e : EnvOk mg K) : FnP P w K mg base "_law_row" s__law_row 3 ["deck", "most"] [.m, .v] φ__law_row := by
  obtain ⟨f, fd, F, hm⟩ := e.f__law_row
  refine fnP_mk (k := 2) (N := ["deck", "most", "way", "many", "straight", "base", "rest", "rows", "at", "more"]) F hm (F.binds (ps := ["deck", "most"]) fun _ _ _ _ _ _ us hl => match us, hl with | [_, _], _ => rfl) sc__law_row rfl rfl fun cdv A outer s H E hr => ?_
  exact (dss_cons (ds_par (i := 2) (j := 3) rfl sc__law_row.nd rfl rfl (by decide) rfl rfl (dms_r (dr_fn ((fn__law_take e).mono (by omega)) hr (by rfl) (dvs_cons (zv 0) (dvs_cons (dv_of dp_int) dvs_nil))) (dms_r (dr_fn ((fn__law_take e).mono (by omega)) hr (by rfl) (dvs_cons (zv 0) (dvs_cons (dv_of (dp_ofR (dr_bin or_add or_cat (zv 1) (dv_of dp_int)))) dvs_nil))) dms_nil)))
      (dss_cons (ds_if (dt_w (dw_or (dt_cmp or_lt (zv 2) (dv_of dp_int) (by rfl)) (dw_or1 (dt_cmp or_lt (zv 3) (dv_of dp_int) (by rfl))))) (dss_one (ds_retR (dr_fn ((fn__law_drawn e).mono (by omega)) hr (by rfl) (dvs_cons (zv 0) (dvs_cons (zv 3) dvs_nil))))) dss_nil)
      (dss_cons (ds_if (dt_cmp (or_eq hr.units) (zv 2) (dv_of dp_int) (by rfl)) (dss_cons (ds_set (i := 4) sc__law_row.nd rfl (by first | exact Or.inl rfl | exact Or.inr rfl) (dp_tupRg rfl (by rfl) e.b_tuple (drg2 (by rfl) e.b_range (dv_of dp_int) (dv_of (dp_ofR (dr_bin or_add or_cat (zv 3) (dv_of dp_int)))))))
      (dss_one (ds_ret (dp_ix (ixr hr.units) (dv_of (dp_fz (do_lst (dps_cons (dp_esc (zv 4)) (dps_cons (dp_ofR (dr_or (dp_back (zv 4)) (do_backL (zv 4)))) dps_nil))))) (dv_of (dp_ofR (dr_fn ((fn__law_take e).mono (by omega)) hr (by rfl) (dvs_cons (zv 0) (dvs_cons (dv_of dp_int) dvs_nil))))) (fun _ _ => rfl))))) dss_nil)
      (dss_cons (ds_setR (i := 5) sc__law_row.nd rfl (by first | exact Or.inl rfl | exact Or.inr rfl) (dr_fn ((fn__law_drawn e).mono (by omega)) hr (by rfl) (dvs_cons (zv 0) (dvs_cons (dv_of (dp_ofR (dr_bin or_add or_cat (dv_of dp_int) (dv_of (dp_ofR (dr_fn ((fn__law_take e).mono (by omega)) hr (by rfl) (dvs_cons (zv 0) (dvs_cons (dv_of (dp_bin or_sub (zv 3) (dv_of dp_int))) dvs_nil)))))))) dvs_nil))))
      (dss_cons (ds_if (dt_cmp (or_eq hr.units) (zv 2) (dv_of dp_int) (by rfl)) (dss_one (ds_set (i := 5) sc__law_row.nd rfl (by first | exact Or.inl rfl | exact Or.inr rfl) (dp_ix (ixr hr.units) (dv_of (dp_fz (do_lst (dps_cons (dp_tupRg rfl (by rfl) e.b_tuple (drg2 (by rfl) e.b_range (dv_of dp_int) (dv_of (dp_ofR (dr_bin or_add or_cat (dv_of (dp_callB cd_len (by rfl) e.b_len boot_len (dvs_cons (zv 5) dvs_nil))) (dv_of dp_int)))))) (dps_cons (dp_tupRg3 rfl (by rfl) e.b_tuple (by rfl) e.b_range (dvs_cons (dv_of (dp_callB cd_len (by rfl) e.b_len boot_len (dvs_cons (zv 5) dvs_nil))) (dvs_cons (dv_of dp_int) (dvs_cons (dv_of (dp_un un_negD (dv_of dp_int))) dvs_nil)))) dps_nil))))) (dv_of (dp_ofR (dr_fn ((fn__law_take e).mono (by omega)) hr (by rfl) (dvs_cons (zv 0) (dvs_cons (dv_of dp_int) dvs_nil))))) (fun _ _ => rfl)))) dss_nil)
      (dss_cons (ds_par (i := 6) (j := 7) rfl sc__law_row.nd rfl rfl (by decide) rfl rfl (dms_d (dp_bin or_sub (zv 3) (dv_of (dp_callB cd_len (by rfl) e.b_len boot_len (dvs_cons (zv 5) dvs_nil)))) (dms_o (do_lst dps_nil) dms_nil)))
      (dss_cons (ds_for [8, 9] passX rfl (di_range1 (by rfl) e.b_range (dvs_cons (dv_of (dp_callB cd_len (by rfl) e.b_len boot_len (dvs_cons (zv 5) dvs_nil))) dvs_nil)) (dgb_any (dg_name (i := 8) sc__law_row.nd rfl (by first | exact Or.inl rfl | exact Or.inr rfl))) (dss_cons (ds_setR (i := 9) sc__law_row.nd rfl (by first | exact Or.inl rfl | exact Or.inr rfl) (dr_fn ((fn__law_take e).mono (by omega)) hr (by rfl) (dvs_cons (zv 0) (dvs_cons (dv_of (dp_ofR (dr_bin or_add or_cat (zv 6) (dv_of dp_int)))) dvs_nil))))
      (dss_cons (ds_set (i := 6) sc__law_row.nd rfl (by first | exact Or.inl rfl | exact Or.inr rfl) (dp_bin or_sub (zv 6) (zv 9)))
      (dss_one (ds_expr (dp_mut (i := 7) rfl (by first | exact Or.inl rfl | exact Or.inr (Or.inl rfl) | exact Or.inr (Or.inr rfl)) PySem.F.slot_list_append PySem.F.type_list_append mr_append (dps_cons (dp_ofR (dr_fn ((fn__law_drawn e).mono (by omega)) hr (by rfl) (dvs_cons (zv 0) (dvs_cons (dv_of (dp_ofR (dr_bin or_add or_cat (dv_of dp_int) (zv 9)))) dvs_nil)))) dps_nil)))))))
      (dss_one (ds_retR (dr_fn ((fn__law_filled e).mono (by omega)) hr (by rfl) (dvs_cons (zv 5) (dvs_cons (zv 7) dvs_nil))))))))))))
theorem sc__law_picks : FnScope ["many", "size", "found", "turn", "longer", "pick", "start", "at"] ["many", "size"] (defScope s__law_picks) := ⟨rfl, rfl, rfl, by decide +kernel, rfl, by decide +kernel, by decide +kernel⟩
theorem fn__law_picks (e : EnvOk mg K) : FnP P w K mg base "_law_picks" s__law_picks 1 ["many", "size"] [.v, .v] φ__law_picks := by
  obtain ⟨f, fd, F, hm⟩ := e.f__law_picks
  refine fnP_mk (k := 0) (N := ["many", "size", "found", "turn", "longer", "pick", "start", "at"]) F hm (F.binds (ps := ["many", "size"]) fun _ _ _ _ _ _ us hl => match us, hl with | [_, _], _ => rfl) sc__law_picks rfl rfl fun cdv A outer s H E hr => ?_
  exact (dss_cons (ds_setO (i := 2) sc__law_picks.nd rfl (by first | exact Or.inl rfl | exact Or.inr rfl) (do_lst (dps_cons (dp_tup dps_nil) dps_nil)))
      (dss_cons (ds_for [3, 4, 5, 6] passX rfl (di_range1 (by rfl) e.b_range (dvs_cons (zv 1) dvs_nil)) (dgb_any (dg_name (i := 3) sc__law_picks.nd rfl (by first | exact Or.inl rfl | exact Or.inr rfl))) (dss_cons (ds_setO (i := 4) sc__law_picks.nd rfl (by first | exact Or.inl rfl | exact Or.inr rfl) (do_lst dps_nil))
      (dss_cons (ds_for [5, 6] passX rfl (di_val (zv 2)) (dgb_any (dg_name (i := 5) sc__law_picks.nd rfl (by first | exact Or.inl rfl | exact Or.inr rfl))) (dss_cons (ds_set (i := 6) sc__law_picks.nd rfl (by first | exact Or.inl rfl | exact Or.inr rfl) (dp_ifE (dt_cmp (or_ne hr.units) (zv 5) (dv_of (dp_tup dps_nil)) (by rfl)) (dp_ofR (dr_bin or_add or_cat (dv_of (dp_ix (ixr hr.units) (zv 5) (dv_of (dp_un un_negD (dv_of dp_int))) (fun _ _ => rfl))) (dv_of dp_int))) dp_int))
      (dss_one (ds_expr (dp_extend (i := 4) rfl (by first | exact Or.inl rfl | exact Or.inr (Or.inl rfl) | exact Or.inr (Or.inr rfl)) (df_of (do_comp [("at", 7)] rfl sc__law_picks.nd (di_range2 (by rfl) e.b_range (dvs_cons (zv 6) (dvs_cons (dv_of (dp_ofR (dr_bin or_add or_cat (dv_of (dp_ofR (dr_bin or_add or_cat (dv_of (dp_bin or_sub (zv 0) (zv 1))) (zv 3)))) (dv_of dp_int)))) dvs_nil))) (blkOk_by (by rfl)) (fun _ _ _ _ _ => (dgb_any (dg_name (i := 7) sc__law_picks.nd rfl (by first | exact Or.inl rfl | exact Or.inr rfl)))) (fun _ _ _ _ _ => dts_nil) (fun _ _ _ _ _ => (dp_ofR (dr_bin or_add or_cat (zv 5) (dv_of (dp_tup (dps_cons (dp_esc (zv 7)) dps_nil)))))) (by simp [tgS, tgsS]))))))))
      (dss_one (ds_move (i := 2) (j := 4) sc__law_picks.nd rfl (by first | exact Or.inl rfl | exact Or.inr rfl) rfl (by first | exact Or.inl rfl | exact Or.inr (Or.inl rfl) | exact Or.inr (Or.inr rfl)))))))
      (dss_one (ds_retV (i := 2) rfl (by first | exact Or.inl rfl | exact Or.inr (Or.inl rfl) | exact Or.inr (Or.inr rfl))))))
theorem sc__law_parts : FnScope ["row", "size", "found", "pick", "at"] ["row", "size"] (defScope s__law_parts) := ⟨rfl, rfl, rfl, by decide +kernel, rfl, by decide +kernel, by decide +kernel⟩
theorem fn__law_parts (e : EnvOk mg K) : FnP P w K mg base "_law_parts" s__law_parts 2 ["row", "size"] [.v, .v] φ__law_parts := by
  obtain ⟨f, fd, F, hm⟩ := e.f__law_parts
  refine fnP_mk (k := 1) (N := ["row", "size", "found", "pick", "at"]) F hm (F.binds (ps := ["row", "size"]) fun _ _ _ _ _ _ us hl => match us, hl with | [_, _], _ => rfl) sc__law_parts rfl rfl fun cdv A outer s H E hr => ?_
  exact (dss_cons (ds_newDk (i := 2) sc__law_parts.nd rfl (by first | exact Or.inl rfl | exact Or.inr rfl))
      (dss_cons (ds_for [3] passX rfl (di_val (dv_of (dp_ofR (dr_fn ((fn__law_picks e).mono (by omega)) hr (by rfl) (dvs_cons (dv_of (dp_callB cd_len (by rfl) e.b_len boot_len (dvs_cons (zv 0) dvs_nil))) (dvs_cons (zv 1) dvs_nil)))))) (dgb_any (dg_name (i := 3) sc__law_parts.nd rfl (by first | exact Or.inl rfl | exact Or.inr rfl))) (dss_one (ds_putK (i := 2) hr.units rfl (by first | exact Or.inl rfl | exact Or.inr (Or.inl rfl) | exact Or.inr (Or.inr rfl)) dp_bool (dv_of (dp_ofR (dr_fn ((fn__law_like e).mono (by omega)) hr (by rfl) (dvs_cons (dv_of (dp_fz (do_comp [("at", 4)] rfl sc__law_parts.nd (di_val (zv 3)) (blkOk_by (by rfl)) (fun _ _ _ _ _ => (dgb_any (dg_name (i := 4) sc__law_parts.nd rfl (by first | exact Or.inl rfl | exact Or.inr rfl)))) (fun _ _ _ _ _ => dts_nil) (fun _ _ _ _ _ => (dp_ix (ixr hr.units) (zv 0) (zv 4) (fun _ _ => rfl))) (by simp [tgS, tgsS])))) dvs_nil)))))))
      (dss_one (ds_retO (do_sortDk (i := 2) rfl hr.units (by rfl) e.b_sorted rfl (by first | exact Or.inl rfl | exact Or.inr (Or.inl rfl) | exact Or.inr (Or.inr rfl)))))))
theorem sc__law_all : FnScope ["many", "found", "j", "longer", "row", "at"] ["many"] (defScope s__law_all) := ⟨rfl, rfl, rfl, by decide +kernel, rfl, by decide +kernel, by decide +kernel⟩
theorem fn__law_all (e : EnvOk mg K) : FnP P w K mg base "_law_all" s__law_all 1 ["many"] [.v] φ__law_all := by
  obtain ⟨f, fd, F, hm⟩ := e.f__law_all
  refine fnP_mk (k := 0) (N := ["many", "found", "j", "longer", "row", "at"]) F hm (F.binds (ps := ["many"]) fun _ _ _ _ _ _ us hl => match us, hl with | [_], _ => rfl) sc__law_all rfl rfl fun cdv A outer s H E hr => ?_
  exact (dss_cons (ds_setO (i := 1) sc__law_all.nd rfl (by first | exact Or.inl rfl | exact Or.inr rfl) (do_lst (dps_cons (dp_tup dps_nil) dps_nil)))
      (dss_cons (ds_for [2, 3, 4] passX rfl (di_range2 (by rfl) e.b_range (dvs_cons (dv_of dp_int) (dvs_cons (dv_of (dp_ofR (dr_bin or_add or_cat (zv 0) (dv_of dp_int)))) dvs_nil))) (dgb_any (dg_name (i := 2) sc__law_all.nd rfl (by first | exact Or.inl rfl | exact Or.inr rfl))) (dss_cons (ds_setO (i := 3) sc__law_all.nd rfl (by first | exact Or.inl rfl | exact Or.inr rfl) (do_lst dps_nil))
      (dss_cons (ds_for [4] passX rfl (di_val (zv 1)) (dgb_any (dg_name (i := 4) sc__law_all.nd rfl (by first | exact Or.inl rfl | exact Or.inr rfl))) (dss_one (ds_expr (dp_extend (i := 3) rfl (by first | exact Or.inl rfl | exact Or.inr (Or.inl rfl) | exact Or.inr (Or.inr rfl)) (df_of (do_comp [("at", 5)] rfl sc__law_all.nd (di_range1 (by rfl) e.b_range (dvs_cons (zv 2) dvs_nil)) (blkOk_by (by rfl)) (fun _ _ _ _ _ => (dgb_any (dg_name (i := 5) sc__law_all.nd rfl (by first | exact Or.inl rfl | exact Or.inr rfl)))) (fun _ _ _ _ _ => dts_nil) (fun _ _ _ _ _ => (dp_ofR (dr_bin or_add or_cat (dv_of (dp_ofR (dr_bin or_add or_cat (dv_of (dp_ofR (dr_cut (zv 4) dpo_none (dpo_some (dp_esc (zv 5)))))) (dv_of (dp_tup (dps_cons (dp_esc (zv 2)) dps_nil)))))) (dv_of (dp_ofR (dr_cut (zv 4) (dpo_some (dp_esc (zv 5))) dpo_none)))))) (by simp [tgS, tgsS])))))))
      (dss_one (ds_move (i := 1) (j := 3) sc__law_all.nd rfl (by first | exact Or.inl rfl | exact Or.inr rfl) rfl (by first | exact Or.inl rfl | exact Or.inr (Or.inl rfl) | exact Or.inr (Or.inr rfl)))))))
      (dss_one (ds_retO (do_callB (cd_sorted1 hr.units) (by rfl) e.b_sorted boot_sorted (dvs_cons (zv 1) dvs_nil))))))
theorem sc__law_parts_right : FnScope ["deck", "row", "size", "due", "found", "turn", "little", "less", "least"] ["deck"] (defScope s__law_parts_right) := ⟨rfl, rfl, rfl, by decide +kernel, rfl, by decide +kernel, by decide +kernel⟩
theorem fn__law_parts_right (e : EnvOk mg K) : FnP P w K mg base "_law_parts_right" s__law_parts_right 10 ["deck"] [.m] φ__law_parts_right := by
  obtain ⟨f, fd, F, hm⟩ := e.f__law_parts_right
  refine fnP_mk (k := 9) (N := ["deck", "row", "size", "due", "found", "turn", "little", "less", "least"]) F hm (F.binds (ps := ["deck"]) fun _ _ _ _ _ _ us hl => match us, hl with | [_], _ => rfl) sc__law_parts_right rfl rfl fun cdv A outer s H E hr => ?_
  exact (dss_cons (ds_par (i := 1) (j := 2) rfl sc__law_parts_right.nd rfl rfl (by decide) rfl rfl (dms_r (dr_fn ((fn__law_row e).mono (by omega)) hr (by rfl) (dvs_cons (zv 0) (dvs_cons (dv_of (dp_ix (ixr hr.units) (dv_of (dp_fz (do_lst (dps_cons dp_int (dps_cons dp_int dps_nil))))) (dv_of (dp_ofR (dr_fn ((fn__law_take e).mono (by omega)) hr (by rfl) (dvs_cons (zv 0) (dvs_cons (dv_of dp_int) dvs_nil))))) (fun _ _ => rfl))) dvs_nil))) (dms_r (dr_fn ((fn__law_take e).mono (by omega)) hr (by rfl) (dvs_cons (zv 0) (dvs_cons (dv_of dp_int) dvs_nil))) dms_nil)))
      (dss_cons (ds_setR (i := 3) sc__law_parts_right.nd rfl (by first | exact Or.inl rfl | exact Or.inr rfl) (dr_fn ((fn__law_parts e).mono (by omega)) hr (by rfl) (dvs_cons (zv 1) (dvs_cons (zv 2) dvs_nil))))
      (dss_cons (ds_setR (i := 4) sc__law_parts_right.nd rfl (by first | exact Or.inl rfl | exact Or.inr rfl) (dr_fn ((fn_parts_of e).mono (by omega)) hr (by rfl) (dvs_cons (zv 1) (dvs_cons (zv 2) dvs_nil))))
      (dss_cons (ds_if (dt_not (dt_val (dp_ofR (dr_fn ((fn__law_same e 8).mono (by omega)) hr (by rfl) (dvs_cons (zv 4) (dvs_cons (zv 3) dvs_nil)))))) (dss_one (ds_ret dp_bool)) dss_nil)
      (dss_cons (ds_expr (dp_mut (i := 4) rfl (by first | exact Or.inl rfl | exact Or.inr (Or.inl rfl) | exact Or.inr (Or.inr rfl)) PySem.F.slot_list_append PySem.F.type_list_append mr_append (dps_cons dp_int dps_nil)))
      (dss_cons (ds_if (dt_not (dt_val (dp_ofR (dr_fn ((fn__law_same e 8).mono (by omega)) hr (by rfl) (dvs_cons (dv_of (dp_ofR (dr_fnK0 ((fn_parts_of e).mono (by omega)) hr (by rfl) ["n", "order"] [1, 0] (dks_cons (zv 2) (dks_cons (zv 1) dks_nil)) (fun _ _ _ _ _ _ _ ws hl => match ws, hl with | [_, _], _ => rfl) (hln := fun W σ H Q _ q => len_zt (len_cons (len_cons len_nil)) q)))) (dvs_cons (zv 3) dvs_nil)))))) (dss_one (ds_ret dp_bool)) dss_nil)
      (dss_cons (ds_for [5, 6, 7, 8] passX rfl (di_range1 (by rfl) e.b_range (dvs_cons (dv_of dp_int) dvs_nil)) (dgb_any (dg_name (i := 5) sc__law_parts_right.nd rfl (by first | exact Or.inl rfl | exact Or.inr rfl))) (dss_one (ds_if (dt_w (dw_and (dt_cmp (or_ne hr.units) (zv 3) (dv_of (dp_fz (do_lst dps_nil))) (by rfl)) (dw_and1 (dt_cmp or_gt (zv 2) (dv_of dp_int) (by rfl))))) (dss_cons (ds_set (i := 6) sc__law_parts_right.nd rfl (by first | exact Or.inl rfl | exact Or.inr rfl) (dp_ix (ixr hr.units) (zv 3) (dv_of (dp_ofR (dr_fn ((fn__law_take e).mono (by omega)) hr (by rfl) (dvs_cons (zv 0) (dvs_cons (dv_of (dp_callB cd_len (by rfl) e.b_len boot_len (dvs_cons (zv 3) dvs_nil))) dvs_nil))))) (fun _ _ => rfl)))
      (dss_cons (ds_setR (i := 7) sc__law_parts_right.nd rfl (by first | exact Or.inl rfl | exact Or.inr rfl) (dr_fn ((fn_parts_of e).mono (by omega)) hr (by rfl) (dvs_cons (zv 6) (dvs_cons (dv_of (dp_ofR (dr_fn ((fn__law_take e).mono (by omega)) hr (by rfl) (dvs_cons (zv 0) (dvs_cons (zv 2) dvs_nil))))) dvs_nil))))
      (dss_cons (ds_set (i := 8) sc__law_parts_right.nd rfl (by first | exact Or.inl rfl | exact Or.inr rfl) (dp_ix (ixr hr.units) (zv 7) (dv_of (dp_ofR (dr_fn ((fn__law_take e).mono (by omega)) hr (by rfl) (dvs_cons (zv 0) (dvs_cons (dv_of (dp_callB cd_len (by rfl) e.b_len boot_len (dvs_cons (zv 7) dvs_nil))) dvs_nil))))) (fun _ _ => rfl)))
      (dss_one (ds_if (dt_w (dw_or (dt_not (dt_val (dp_ofR (dr_fn ((fn__law_same e 8).mono (by omega)) hr (by rfl) (dvs_cons (dv_of (dp_ofR (dr_fn ((fn_shows e).mono (by omega)) hr (by rfl) (dvs_cons (zv 1) (dvs_cons (zv 6) dvs_nil))))) (dvs_cons (dv_of dp_bool) dvs_nil)))))) (dw_or1 (dt_w (dw_and (dt_cmp (or_ne hr.units) (zv 8) (dv_of (dp_tup dps_nil)) (by rfl)) (dw_and1 (dt_not (dt_val (dp_ofR (dr_fn ((fn__law_same e 8).mono (by omega)) hr (by rfl) (dvs_cons (dv_of (dp_ofR (dr_fn ((fn_shows e).mono (by omega)) hr (by rfl) (dvs_cons (zv 1) (dvs_cons (zv 8) dvs_nil))))) (dvs_cons (dv_of dp_bool) dvs_nil)))))))))))) (dss_one (ds_ret dp_bool)) dss_nil))))) dss_nil)))
      (dss_one (ds_ret dp_bool)))))))))
theorem sc_law : FnScope ["script", "at", "deck", "many", "due", "found"] ["script"] (defScope s_law) := ⟨rfl, rfl, rfl, by decide +kernel, rfl, by decide +kernel, by decide +kernel⟩
theorem fn_law (e : EnvOk mg K) : FnP P w K mg base "law" s_law 11 ["script"] [.v] φ_law := by
  obtain ⟨f, fd, F, hm⟩ := e.f_law
  refine fnP_mk (k := 10) (N := ["script", "at", "deck", "many", "due", "found"]) F hm (F.binds (ps := ["script"]) fun _ _ _ _ _ _ us hl => match us, hl with | [_], _ => rfl) sc_law rfl rfl fun cdv A outer s H E hr => ?_
  exact (dss_cons (ds_for [1, 2, 3, 4, 5] passX rfl (di_range1 (by rfl) e.b_range (dvs_cons (dv_of (dp_callB (cd_max rfl) (by rfl) e.b_max boot_max (dvs_cons (dv_of dp_int) (dvs_cons (dv_of (dp_callB (cd_min rfl) (by rfl) e.b_min boot_min (dvs_cons (dv_of (dp_callB cd_len (by rfl) e.b_len boot_len (dvs_cons (zv 0) dvs_nil))) (dvs_cons (dv_of dp_int) dvs_nil)))) dvs_nil)))) dvs_nil)) (dgb_any (dg_name (i := 1) sc_law.nd rfl (by first | exact Or.inl rfl | exact Or.inr rfl))) (dss_cons (ds_setR (i := 2) sc_law.nd rfl (by first | exact Or.inl rfl | exact Or.inr rfl) (dr_fn ((fn__law_deck e).mono (by omega)) hr (by rfl) (dvs_cons (zv 0) (dvs_cons (zv 1) dvs_nil))))
      (dss_cons (ds_if (dt_not (dt_val (dp_ofR (dr_fn ((fn__law_parts_right e).mono (by omega)) hr (by rfl) (dvs_cons (zv 2) dvs_nil))))) (dss_one (ds_ret dp_bool)) dss_nil)
      (dss_cons (ds_set (i := 3) sc_law.nd rfl (by first | exact Or.inl rfl | exact Or.inr rfl) (dp_ifE (dt_cmp or_gt (zv 1) (dv_of dp_int) (by rfl)) (dp_ofR (dr_fn ((fn__law_take e).mono (by omega)) hr (by rfl) (dvs_cons (zv 2) (dvs_cons (dv_of dp_int) dvs_nil)))) (dp_ofR (dr_bin or_add or_cat (dv_of dp_int) (dv_of (dp_ofR (dr_fn ((fn__law_take e).mono (by omega)) hr (by rfl) (dvs_cons (zv 2) (dvs_cons (dv_of dp_int) dvs_nil)))))))))
      (dss_cons (ds_setR (i := 4) sc_law.nd rfl (by first | exact Or.inl rfl | exact Or.inr rfl) (dr_fn ((fn__law_all e).mono (by omega)) hr (by rfl) (dvs_cons (zv 3) dvs_nil)))
      (dss_cons (ds_setR (i := 5) sc_law.nd rfl (by first | exact Or.inl rfl | exact Or.inr rfl) (dr_fn ((fn_orders e).mono (by omega)) hr (by rfl) (dvs_cons (zv 3) dvs_nil)))
      (dss_cons (ds_if (dt_not (dt_val (dp_ofR (dr_fn ((fn__law_same e 8).mono (by omega)) hr (by rfl) (dvs_cons (zv 5) (dvs_cons (zv 4) dvs_nil)))))) (dss_one (ds_ret dp_bool)) dss_nil)
      (dss_cons (ds_expr (dp_mut0 (i := 5) rfl (by first | exact Or.inl rfl | exact Or.inr (Or.inl rfl) | exact Or.inr (Or.inr rfl)) PySem.F.slot_list_reverse PySem.F.type_list_reverse mr_reverse))
      (dss_one (ds_if (dt_not (dt_val (dp_ofR (dr_fn ((fn__law_same e 8).mono (by omega)) hr (by rfl) (dvs_cons (dv_of (dp_ofR (dr_fnK0 ((fn_orders e).mono (by omega)) hr (by rfl) ["n"] [0] (dks_cons (zv 3) dks_nil) (fun _ _ _ _ _ _ _ ws hl => match ws, hl with | [_], _ => rfl) (hln := fun W σ H Q _ q => len_zt (len_cons len_nil) q)))) (dvs_cons (zv 4) dvs_nil)))))) (dss_one (ds_ret dp_bool)) dss_nil))))))))))
      (dss_one (ds_ret dp_bool)))
end
theorem all_mk {w : World} {K : PySem.W.Frag} {h : Heap} {mg : Str → Option Value} {fa : Addr} (X : K.In h) (G : h.Ns mainGlobals mg) (hfa : mg "law" = some (.ref fa)) (main : ∀ ns : List Int, ns.length ≤ 63 → φ_law [.list (ns.map PyData.int)] = .ret (.d (.bool true)) [])
    {od0 an0 : Option Addr} {f0 : Addr} {sl0 : Array (Option Value)} {oc0 kV0 dc0 pm0 cd0 ct0 : Value} (a0 : PySem.W.nsIn K mainGlobals "is_integer" = some (some (.ref f0))) (l0 : K.lookup f0 = some ⟨oc0, od0, .func (PySem.W.fnOf "is_integer" "is_integer" (defArgs s_is_integer) (defBody s_is_integer) (defScope s_is_integer) .none kV0 dc0 pm0 an0 cd0 ct0), sl0⟩) (c0 : PySem.W.codeIn K cd0 "is_integer" = true) (k0 : PySem.W.keepIn K (.ref f0) = true)
    {od1 an1 : Option Addr} {f1 : Addr} {sl1 : Array (Option Value)} {oc1 kV1 dc1 pm1 cd1 ct1 : Value} (a1 : PySem.W.nsIn K mainGlobals "are_integers" = some (some (.ref f1))) (l1 : K.lookup f1 = some ⟨oc1, od1, .func (PySem.W.fnOf "are_integers" "are_integers" (defArgs s_are_integers) (defBody s_are_integers) (defScope s_are_integers) .none kV1 dc1 pm1 an1 cd1 ct1), sl1⟩) (c1 : PySem.W.codeIn K cd1 "are_integers" = true) (k1 : PySem.W.keepIn K (.ref f1) = true)
    {od2 an2 : Option Addr} {f2 : Addr} {sl2 : Array (Option Value)} {oc2 kV2 dc2 pm2 cd2 ct2 : Value} (a2 : PySem.W.nsIn K mainGlobals "is_order_of" = some (some (.ref f2))) (l2 : K.lookup f2 = some ⟨oc2, od2, .func (PySem.W.fnOf "is_order_of" "is_order_of" (defArgs s_is_order_of) (defBody s_is_order_of) (defScope s_is_order_of) .none kV2 dc2 pm2 an2 cd2 ct2), sl2⟩) (c2 : PySem.W.codeIn K cd2 "is_order_of" = true) (k2 : PySem.W.keepIn K (.ref f2) = true)
    {od3 an3 : Option Addr} {f3 : Addr} {sl3 : Array (Option Value)} {oc3 kV3 dc3 pm3 cd3 ct3 : Value} (a3 : PySem.W.nsIn K mainGlobals "compared" = some (some (.ref f3))) (l3 : K.lookup f3 = some ⟨oc3, od3, .func (PySem.W.fnOf "compared" "compared" (defArgs s_compared) (defBody s_compared) (defScope s_compared) .none kV3 dc3 pm3 an3 cd3 ct3), sl3⟩) (c3 : PySem.W.codeIn K cd3 "compared" = true) (k3 : PySem.W.keepIn K (.ref f3) = true)
    {od4 an4 : Option Addr} {f4 : Addr} {sl4 : Array (Option Value)} {oc4 kV4 dc4 pm4 cd4 ct4 : Value} (a4 : PySem.W.nsIn K mainGlobals "neighbours" = some (some (.ref f4))) (l4 : K.lookup f4 = some ⟨oc4, od4, .func (PySem.W.fnOf "neighbours" "neighbours" (defArgs s_neighbours) (defBody s_neighbours) (defScope s_neighbours) .none kV4 dc4 pm4 an4 cd4 ct4), sl4⟩) (c4 : PySem.W.codeIn K cd4 "neighbours" = true) (k4 : PySem.W.keepIn K (.ref f4) = true)
    {od5 an5 : Option Addr} {f5 : Addr} {sl5 : Array (Option Value)} {oc5 kV5 dc5 pm5 cd5 ct5 : Value} (a5 : PySem.W.nsIn K mainGlobals "placed" = some (some (.ref f5))) (l5 : K.lookup f5 = some ⟨oc5, od5, .func (PySem.W.fnOf "placed" "placed" (defArgs s_placed) (defBody s_placed) (defScope s_placed) .none kV5 dc5 pm5 an5 cd5 ct5), sl5⟩) (c5 : PySem.W.codeIn K cd5 "placed" = true) (k5 : PySem.W.keepIn K (.ref f5) = true)
    {od6 an6 : Option Addr} {f6 : Addr} {sl6 : Array (Option Value)} {oc6 kV6 dc6 pm6 cd6 ct6 : Value} (a6 : PySem.W.nsIn K mainGlobals "is_shown" = some (some (.ref f6))) (l6 : K.lookup f6 = some ⟨oc6, od6, .func (PySem.W.fnOf "is_shown" "is_shown" (defArgs s_is_shown) (defBody s_is_shown) (defScope s_is_shown) .none kV6 dc6 pm6 an6 cd6 ct6), sl6⟩) (c6 : PySem.W.codeIn K cd6 "is_shown" = true) (k6 : PySem.W.keepIn K (.ref f6) = true)
    {od7 an7 : Option Addr} {f7 : Addr} {sl7 : Array (Option Value)} {oc7 kV7 dc7 pm7 cd7 ct7 : Value} (a7 : PySem.W.nsIn K mainGlobals "check_order" = some (some (.ref f7))) (l7 : K.lookup f7 = some ⟨oc7, od7, .func (PySem.W.fnOf "check_order" "check_order" (defArgs s_check_order) (defBody s_check_order) (defScope s_check_order) .none kV7 dc7 pm7 an7 cd7 ct7), sl7⟩) (c7 : PySem.W.codeIn K cd7 "check_order" = true) (k7 : PySem.W.keepIn K (.ref f7) = true)
    {od8 an8 : Option Addr} {f8 : Addr} {sl8 : Array (Option Value)} {oc8 kV8 dc8 pm8 cd8 ct8 : Value} (a8 : PySem.W.nsIn K mainGlobals "is_pattern" = some (some (.ref f8))) (l8 : K.lookup f8 = some ⟨oc8, od8, .func (PySem.W.fnOf "is_pattern" "is_pattern" (defArgs s_is_pattern) (defBody s_is_pattern) (defScope s_is_pattern) .none kV8 dc8 pm8 an8 cd8 ct8), sl8⟩) (c8 : PySem.W.codeIn K cd8 "is_pattern" = true) (k8 : PySem.W.keepIn K (.ref f8) = true)
    {od9 an9 : Option Addr} {f9 : Addr} {sl9 : Array (Option Value)} {oc9 kV9 dc9 pm9 cd9 ct9 : Value} (a9 : PySem.W.nsIn K mainGlobals "check_pattern" = some (some (.ref f9))) (l9 : K.lookup f9 = some ⟨oc9, od9, .func (PySem.W.fnOf "check_pattern" "check_pattern" (defArgs s_check_pattern) (defBody s_check_pattern) (defScope s_check_pattern) .none kV9 dc9 pm9 an9 cd9 ct9), sl9⟩) (c9 : PySem.W.codeIn K cd9 "check_pattern" = true) (k9 : PySem.W.keepIn K (.ref f9) = true)
    {od10 an10 : Option Addr} {f10 : Addr} {sl10 : Array (Option Value)} {oc10 kV10 dc10 pm10 cd10 ct10 : Value} (a10 : PySem.W.nsIn K mainGlobals "check_number" = some (some (.ref f10))) (l10 : K.lookup f10 = some ⟨oc10, od10, .func (PySem.W.fnOf "check_number" "check_number" (defArgs s_check_number) (defBody s_check_number) (defScope s_check_number) .none kV10 dc10 pm10 an10 cd10 ct10), sl10⟩) (c10 : PySem.W.codeIn K cd10 "check_number" = true) (k10 : PySem.W.keepIn K (.ref f10) = true)
    {od11 an11 : Option Addr} {f11 : Addr} {sl11 : Array (Option Value)} {oc11 kV11 dc11 pm11 cd11 ct11 : Value} (a11 : PySem.W.nsIn K mainGlobals "shows" = some (some (.ref f11))) (l11 : K.lookup f11 = some ⟨oc11, od11, .func (PySem.W.fnOf "shows" "shows" (defArgs s_shows) (defBody s_shows) (defScope s_shows) .none kV11 dc11 pm11 an11 cd11 ct11), sl11⟩) (c11 : PySem.W.codeIn K cd11 "shows" = true) (k11 : PySem.W.keepIn K (.ref f11) = true)
    {od12 an12 : Option Addr} {f12 : Addr} {sl12 : Array (Option Value)} {oc12 kV12 dc12 pm12 cd12 ct12 : Value} (a12 : PySem.W.nsIn K mainGlobals "shown_of" = some (some (.ref f12))) (l12 : K.lookup f12 = some ⟨oc12, od12, .func (PySem.W.fnOf "shown_of" "shown_of" (defArgs s_shown_of) (defBody s_shown_of) (defScope s_shown_of) .none kV12 dc12 pm12 an12 cd12 ct12), sl12⟩) (c12 : PySem.W.codeIn K cd12 "shown_of" = true) (k12 : PySem.W.keepIn K (.ref f12) = true)
    {od13 an13 : Option Addr} {f13 : Addr} {sl13 : Array (Option Value)} {oc13 kV13 dc13 pm13 cd13 ct13 : Value} (a13 : PySem.W.nsIn K mainGlobals "parts_of" = some (some (.ref f13))) (l13 : K.lookup f13 = some ⟨oc13, od13, .func (PySem.W.fnOf "parts_of" "parts_of" (defArgs s_parts_of) (defBody s_parts_of) (defScope s_parts_of) .none kV13 dc13 pm13 an13 cd13 ct13), sl13⟩) (c13 : PySem.W.codeIn K cd13 "parts_of" = true) (k13 : PySem.W.keepIn K (.ref f13) = true)
    {od14 an14 : Option Addr} {f14 : Addr} {sl14 : Array (Option Value)} {oc14 kV14 dc14 pm14 cd14 ct14 : Value} (a14 : PySem.W.nsIn K mainGlobals "orders_of" = some (some (.ref f14))) (l14 : K.lookup f14 = some ⟨oc14, od14, .func (PySem.W.fnOf "orders_of" "orders_of" (defArgs s_orders_of) (defBody s_orders_of) (defScope s_orders_of) .none kV14 dc14 pm14 an14 cd14 ct14), sl14⟩) (c14 : PySem.W.codeIn K cd14 "orders_of" = true) (k14 : PySem.W.keepIn K (.ref f14) = true)
    {od15 an15 : Option Addr} {f15 : Addr} {sl15 : Array (Option Value)} {oc15 kV15 dc15 pm15 cd15 ct15 : Value} (a15 : PySem.W.nsIn K mainGlobals "orders" = some (some (.ref f15))) (l15 : K.lookup f15 = some ⟨oc15, od15, .func (PySem.W.fnOf "orders" "orders" (defArgs s_orders) (defBody s_orders) (defScope s_orders) .none kV15 dc15 pm15 an15 cd15 ct15), sl15⟩) (c15 : PySem.W.codeIn K cd15 "orders" = true) (k15 : PySem.W.keepIn K (.ref f15) = true)
    {od16 an16 : Option Addr} {f16 : Addr} {sl16 : Array (Option Value)} {oc16 kV16 dc16 pm16 cd16 ct16 : Value} (a16 : PySem.W.nsIn K mainGlobals "_law_deck" = some (some (.ref f16))) (l16 : K.lookup f16 = some ⟨oc16, od16, .func (PySem.W.fnOf "_law_deck" "_law_deck" (defArgs s__law_deck) (defBody s__law_deck) (defScope s__law_deck) .none kV16 dc16 pm16 an16 cd16 ct16), sl16⟩) (c16 : PySem.W.codeIn K cd16 "_law_deck" = true) (k16 : PySem.W.keepIn K (.ref f16) = true)
    {od17 an17 : Option Addr} {f17 : Addr} {sl17 : Array (Option Value)} {oc17 kV17 dc17 pm17 cd17 ct17 : Value} (a17 : PySem.W.nsIn K mainGlobals "_law_take" = some (some (.ref f17))) (l17 : K.lookup f17 = some ⟨oc17, od17, .func (PySem.W.fnOf "_law_take" "_law_take" (defArgs s__law_take) (defBody s__law_take) (defScope s__law_take) .none kV17 dc17 pm17 an17 cd17 ct17), sl17⟩) (c17 : PySem.W.codeIn K cd17 "_law_take" = true) (k17 : PySem.W.keepIn K (.ref f17) = true)
    {od18 an18 : Option Addr} {f18 : Addr} {sl18 : Array (Option Value)} {oc18 kV18 dc18 pm18 cd18 ct18 : Value} (a18 : PySem.W.nsIn K mainGlobals "_law_same" = some (some (.ref f18))) (l18 : K.lookup f18 = some ⟨oc18, od18, .func (PySem.W.fnOf "_law_same" "_law_same" (defArgs s__law_same) (defBody s__law_same) (defScope s__law_same) .none kV18 dc18 pm18 an18 cd18 ct18), sl18⟩) (c18 : PySem.W.codeIn K cd18 "_law_same" = true) (k18 : PySem.W.keepIn K (.ref f18) = true)
    {od19 an19 : Option Addr} {f19 : Addr} {sl19 : Array (Option Value)} {oc19 kV19 dc19 pm19 cd19 ct19 : Value} (a19 : PySem.W.nsIn K mainGlobals "_law_drawn" = some (some (.ref f19))) (l19 : K.lookup f19 = some ⟨oc19, od19, .func (PySem.W.fnOf "_law_drawn" "_law_drawn" (defArgs s__law_drawn) (defBody s__law_drawn) (defScope s__law_drawn) .none kV19 dc19 pm19 an19 cd19 ct19), sl19⟩) (c19 : PySem.W.codeIn K cd19 "_law_drawn" = true) (k19 : PySem.W.keepIn K (.ref f19) = true)
    {od20 an20 : Option Addr} {f20 : Addr} {sl20 : Array (Option Value)} {oc20 kV20 dc20 pm20 cd20 ct20 : Value} (a20 : PySem.W.nsIn K mainGlobals "_law_like" = some (some (.ref f20))) (l20 : K.lookup f20 = some ⟨oc20, od20, .func (PySem.W.fnOf "_law_like" "_law_like" (defArgs s__law_like) (defBody s__law_like) (defScope s__law_like) .none kV20 dc20 pm20 an20 cd20 ct20), sl20⟩) (c20 : PySem.W.codeIn K cd20 "_law_like" = true) (k20 : PySem.W.keepIn K (.ref f20) = true)
    {od21 an21 : Option Addr} {f21 : Addr} {sl21 : Array (Option Value)} {oc21 kV21 dc21 pm21 cd21 ct21 : Value} (a21 : PySem.W.nsIn K mainGlobals "_law_filled" = some (some (.ref f21))) (l21 : K.lookup f21 = some ⟨oc21, od21, .func (PySem.W.fnOf "_law_filled" "_law_filled" (defArgs s__law_filled) (defBody s__law_filled) (defScope s__law_filled) .none kV21 dc21 pm21 an21 cd21 ct21), sl21⟩) (c21 : PySem.W.codeIn K cd21 "_law_filled" = true) (k21 : PySem.W.keepIn K (.ref f21) = true)
    {od22 an22 : Option Addr} {f22 : Addr} {sl22 : Array (Option Value)} {oc22 kV22 dc22 pm22 cd22 ct22 : Value} (a22 : PySem.W.nsIn K mainGlobals "_law_row" = some (some (.ref f22))) (l22 : K.lookup f22 = some ⟨oc22, od22, .func (PySem.W.fnOf "_law_row" "_law_row" (defArgs s__law_row) (defBody s__law_row) (defScope s__law_row) .none kV22 dc22 pm22 an22 cd22 ct22), sl22⟩) (c22 : PySem.W.codeIn K cd22 "_law_row" = true) (k22 : PySem.W.keepIn K (.ref f22) = true)
    {od23 an23 : Option Addr} {f23 : Addr} {sl23 : Array (Option Value)} {oc23 kV23 dc23 pm23 cd23 ct23 : Value} (a23 : PySem.W.nsIn K mainGlobals "_law_picks" = some (some (.ref f23))) (l23 : K.lookup f23 = some ⟨oc23, od23, .func (PySem.W.fnOf "_law_picks" "_law_picks" (defArgs s__law_picks) (defBody s__law_picks) (defScope s__law_picks) .none kV23 dc23 pm23 an23 cd23 ct23), sl23⟩) (c23 : PySem.W.codeIn K cd23 "_law_picks" = true) (k23 : PySem.W.keepIn K (.ref f23) = true)
    {od24 an24 : Option Addr} {f24 : Addr} {sl24 : Array (Option Value)} {oc24 kV24 dc24 pm24 cd24 ct24 : Value} (a24 : PySem.W.nsIn K mainGlobals "_law_parts" = some (some (.ref f24))) (l24 : K.lookup f24 = some ⟨oc24, od24, .func (PySem.W.fnOf "_law_parts" "_law_parts" (defArgs s__law_parts) (defBody s__law_parts) (defScope s__law_parts) .none kV24 dc24 pm24 an24 cd24 ct24), sl24⟩) (c24 : PySem.W.codeIn K cd24 "_law_parts" = true) (k24 : PySem.W.keepIn K (.ref f24) = true)
    {od25 an25 : Option Addr} {f25 : Addr} {sl25 : Array (Option Value)} {oc25 kV25 dc25 pm25 cd25 ct25 : Value} (a25 : PySem.W.nsIn K mainGlobals "_law_all" = some (some (.ref f25))) (l25 : K.lookup f25 = some ⟨oc25, od25, .func (PySem.W.fnOf "_law_all" "_law_all" (defArgs s__law_all) (defBody s__law_all) (defScope s__law_all) .none kV25 dc25 pm25 an25 cd25 ct25), sl25⟩) (c25 : PySem.W.codeIn K cd25 "_law_all" = true) (k25 : PySem.W.keepIn K (.ref f25) = true)
    {od26 an26 : Option Addr} {f26 : Addr} {sl26 : Array (Option Value)} {oc26 kV26 dc26 pm26 cd26 ct26 : Value} (a26 : PySem.W.nsIn K mainGlobals "_law_parts_right" = some (some (.ref f26))) (l26 : K.lookup f26 = some ⟨oc26, od26, .func (PySem.W.fnOf "_law_parts_right" "_law_parts_right" (defArgs s__law_parts_right) (defBody s__law_parts_right) (defScope s__law_parts_right) .none kV26 dc26 pm26 an26 cd26 ct26), sl26⟩) (c26 : PySem.W.codeIn K cd26 "_law_parts_right" = true) (k26 : PySem.W.keepIn K (.ref f26) = true)
    {od27 an27 : Option Addr} {f27 : Addr} {sl27 : Array (Option Value)} {oc27 kV27 dc27 pm27 cd27 ct27 : Value} (a27 : PySem.W.nsIn K mainGlobals "law" = some (some (.ref f27))) (l27 : K.lookup f27 = some ⟨oc27, od27, .func (PySem.W.fnOf "law" "law" (defArgs s_law) (defBody s_law) (defScope s_law) .none kV27 dc27 pm27 an27 cd27 ct27), sl27⟩) (c27 : PySem.W.codeIn K cd27 "law" = true) (k27 : PySem.W.keepIn K (.ref f27) = true)
    (z0 : PySem.W.nsIn K mainGlobals "all" = some none)
    (z1 : PySem.W.nsIn K mainGlobals "bool" = some none)
    (z2 : PySem.W.nsIn K mainGlobals "enumerate" = some none)
    (z3 : PySem.W.nsIn K mainGlobals "int" = some none)
    (z4 : PySem.W.nsIn K mainGlobals "isinstance" = some none)
    (z5 : PySem.W.nsIn K mainGlobals "len" = some none)
    (z6 : PySem.W.nsIn K mainGlobals "list" = some none)
    (z7 : PySem.W.nsIn K mainGlobals "max" = some none)
    (z8 : PySem.W.nsIn K mainGlobals "min" = some none)
    (z9 : PySem.W.nsIn K mainGlobals "range" = some none)
    (z10 : PySem.W.nsIn K mainGlobals "sorted" = some none)
    (z11 : PySem.W.nsIn K mainGlobals "str" = some none)
    (z12 : PySem.W.nsIn K mainGlobals "sum" = some none)
    (z13 : PySem.W.nsIn K mainGlobals "tuple" = some none)
    (ii0 : PySem.W.nsIn K mainGlobals "combinations" = some (some (.type "itertools.combinations")))
    (ii1 : PySem.W.nsIn K mainGlobals "permutations" = some (some (.type "itertools.permutations"))) :
    ∃ fd : FuncData, (∀ (s : Shared) (v : Value), BindsTo s fd ⟨[v], []⟩ [("script", v)]) ∧ ∀ base : Heap, K.In base → base.Ns mainGlobals mg → FnOk PySem.Challenge.pw_wholeorders_k03_whole_parts_shown w K mg base (L2.CX PySem.Challenge.pw_wholeorders_k03_whole_parts_shown w) 11 fa fd ["script"] (Z.spLaw K) := by
  have e := hfa.symm.trans (PySem.W.mg_of X G a27)
  cases e
  have en : EnvOk mg K := ⟨⟨_, _, fun_mk (st := s_is_integer) l0 c0 k0, PySem.W.mg_of X G a0⟩,
    ⟨_, _, fun_mk (st := s_are_integers) l1 c1 k1, PySem.W.mg_of X G a1⟩,
    ⟨_, _, fun_mk (st := s_is_order_of) l2 c2 k2, PySem.W.mg_of X G a2⟩,
    ⟨_, _, fun_mk (st := s_compared) l3 c3 k3, PySem.W.mg_of X G a3⟩,
    ⟨_, _, fun_mk (st := s_neighbours) l4 c4 k4, PySem.W.mg_of X G a4⟩,
    ⟨_, _, fun_mk (st := s_placed) l5 c5 k5, PySem.W.mg_of X G a5⟩,
    ⟨_, _, fun_mk (st := s_is_shown) l6 c6 k6, PySem.W.mg_of X G a6⟩,
    ⟨_, _, fun_mk (st := s_check_order) l7 c7 k7, PySem.W.mg_of X G a7⟩,
    ⟨_, _, fun_mk (st := s_is_pattern) l8 c8 k8, PySem.W.mg_of X G a8⟩,
    ⟨_, _, fun_mk (st := s_check_pattern) l9 c9 k9, PySem.W.mg_of X G a9⟩,
    ⟨_, _, fun_mk (st := s_check_number) l10 c10 k10, PySem.W.mg_of X G a10⟩,
    ⟨_, _, fun_mk (st := s_shows) l11 c11 k11, PySem.W.mg_of X G a11⟩,
    ⟨_, _, fun_mk (st := s_shown_of) l12 c12 k12, PySem.W.mg_of X G a12⟩,
    ⟨_, _, fun_mk (st := s_parts_of) l13 c13 k13, PySem.W.mg_of X G a13⟩,
    ⟨_, _, fun_mk (st := s_orders_of) l14 c14 k14, PySem.W.mg_of X G a14⟩,
    ⟨_, _, fun_mk (st := s_orders) l15 c15 k15, PySem.W.mg_of X G a15⟩,
    ⟨_, _, fun_mk (st := s__law_deck) l16 c16 k16, PySem.W.mg_of X G a16⟩,
    ⟨_, _, fun_mk (st := s__law_take) l17 c17 k17, PySem.W.mg_of X G a17⟩,
    ⟨_, _, fun_mk (st := s__law_same) l18 c18 k18, PySem.W.mg_of X G a18⟩,
    ⟨_, _, fun_mk (st := s__law_drawn) l19 c19 k19, PySem.W.mg_of X G a19⟩,
    ⟨_, _, fun_mk (st := s__law_like) l20 c20 k20, PySem.W.mg_of X G a20⟩,
    ⟨_, _, fun_mk (st := s__law_filled) l21 c21 k21, PySem.W.mg_of X G a21⟩,
    ⟨_, _, fun_mk (st := s__law_row) l22 c22 k22, PySem.W.mg_of X G a22⟩,
    ⟨_, _, fun_mk (st := s__law_picks) l23 c23 k23, PySem.W.mg_of X G a23⟩,
    ⟨_, _, fun_mk (st := s__law_parts) l24 c24 k24, PySem.W.mg_of X G a24⟩,
    ⟨_, _, fun_mk (st := s__law_all) l25 c25 k25, PySem.W.mg_of X G a25⟩,
    ⟨_, _, fun_mk (st := s__law_parts_right) l26 c26 k26, PySem.W.mg_of X G a26⟩,
    ⟨_, _, fun_mk (st := s_law) l27 c27 k27, PySem.W.mg_of X G a27⟩,
    PySem.W.mg_none_of X G z0,
    PySem.W.mg_none_of X G z1,
    PySem.W.mg_none_of X G z2,
    PySem.W.mg_none_of X G z3,
    PySem.W.mg_none_of X G z4,
    PySem.W.mg_none_of X G z5,
    PySem.W.mg_none_of X G z6,
    PySem.W.mg_none_of X G z7,
    PySem.W.mg_none_of X G z8,
    PySem.W.mg_none_of X G z9,
    PySem.W.mg_none_of X G z10,
    PySem.W.mg_none_of X G z11,
    PySem.W.mg_none_of X G z12,
    PySem.W.mg_none_of X G z13,
    PySem.W.mg_of X G ii0,
    PySem.W.mg_of X G ii1⟩
  exact ⟨PySem.W.fnOf "law" "law" (defArgs s_law) (defBody s_law) (defScope s_law) .none kV27 dc27 pm27 an27 cd27 ct27, fun s v => .of_eq rfl, fun base _ _ => law_fn (fn_law en) hfa ⟨_, _, _, l27⟩ main⟩
end Ck03

set_option Elab.async false
set_option linter.all false
set_option maxRecDepth 100000
set_option autoImplicit false
set_option maxHeartbeats 2000000
namespace Ck03
open PySem PySem.Spec PyProof.Rows L2 Z
local macro_rules
  | `(tactic| simp! only [$xs,*]) => `(tactic| simp only [bnd_at, rt_at, thn_ok, thn_ex, oRo_some, oMap_some, brn_t, brn_f, dName_at, slR_d, slR_a, slR_o, vl_d, vl_s, slV_d, slV_a, slV_o, dv_at, dEsc_at, esc_d, esc_s, escS_d, escS_o, dFz_at, dC_at, dNil_at, dCons_at, vNil_at, vCons_at, op2_at, op2r_at, op1_at, op1o_at, opN_at, opNo_at, vls_nil, vls_cons, cutR_at, oNone_at, oSome_at, dTup_at, dLst_at, dB_at, boolD_b, dNot_at, dAnd_at, dOr_at, dIfE_at, dAndV_at, dOrV_at, dNotV_at, dSeq_at, dsq_nx, dsq_rt, dsq_bk, dsq_ct, dsq_ex, sNx_at, sBk_at, sCt_at, sExpr_at, sRet_at, sRetO_at, sRetN_at, sRetV_at, retS_d, retS_o, sSet_at, sSetO_at, sIf_at, ownV_o, msNil_at, msD_at, msO_at, msR_at, gRo_some, sPar_at, setRs_nil, setRs_d, setRs_o, callP_at, callK_at, argO_some, callM_at, outR_ret, outR_ex, argD_nil, argD_v, argD_p, argD_m, argD_vn, argD_vs, Option.some.injEq, Nat.reduceEqDiff, mIx_m, mIx_v, mIx_p, mIx_nil, putM_none, putM_some, putO_o, call1_at, rD_at, rtD_d, rtD_o, rO_at, rtO_o, sExprR_at, sRetR_at, sSetR_at, setS_d, setS_o, runF_at, outF_nx, outF_rt, mOut_some, muOf_nil, muOf_m, muOf_v, muOf_p, chk_some, sSub_at, subS0, subS1, mutS_some, mutP_some, dMut_at, mixR_at, dChain_at, dRep_at, intD_i, rg1_at, rg2_at, dLstRg_go, rgL_ok, dTupRg_go, rgT_ok, dTupRg3_go, rgT3_ok, rgO1_ok, rgO2_ok, rgO3_ok, sm0, sm1, dIndexT_at, seqS_d, seqS_a, seqS_o, seqD_l, seqD_t, itR_d, itR_s, iV_at, iO_at, iR1_go, iR2_go, iR3_go, iEnV_at, iEnO_at, iZip_at, zipR_at, dcL_at, sSwap_at, c2L_at, sUnp_at, unpR_2, sUnpL_at, unpRL_2, sMove_at, moveV_o, moveV_d, mvR_some, swapR_at, sFor_at, compL_at, fAdd_i, fSub_i, fLt_i, fLe_i, fGt_i, fGe_i, fDiv_33, fPow_64, fPow_33, fPow_18, fNeg_i, fLen_l, fLen_t, fInt_i, fTuple_l, fList_l, fMax_2, fMin_2, fIx_l0, fIx_l1, fIx_l2, fEq_i, start0, svs, svK, svA, List.length_cons, List.length_nil, List.replicate, List.append_nil, List.cons_append, List.nil_append, List.getElem?_cons_zero, List.getElem?_cons_succ, List.set_cons_zero, List.set_cons_succ, Bool.not_true, Bool.not_false, decide_true, decide_false, ne_eq, not_false_eq_true, Nat.reduceAdd, Nat.reduceSub, fMul_take, fMul_7919, fMul_31, Nat.reduceLT, Int.reduceLT, Int.reduceEq, fMod_i, fDiv_i, bdz_ok, setT_nm, fgt_nil, fgt_cons, wipG_nil, wipG_cons, sz1, sz2, sz3, sz4, sz5, Nat.zero_le, fIs_ii, fIs_ib, fIs_is, fIs_itl, fIs_tt, fIs_tl, fIs_ttl, fIs_lt, fIs_ll, fIs_ltl, fAll_b, fSum_i, fBack_t, fBackL_l, $xs,*])
def Deck (l : List D) : Prop := ∃ a b : Int, l = [.int a, .int b]
theorem take_ok {l : List D} (hl : Deck l) (many : Int) (hm : 0 < many) (hs : many < 1000) : ∃ (r : Int) (l' : List D), φ__law_take [.list l, .int many] = .ret (.d (.int r)) l' ∧ Deck l' ∧ 0 ≤ r ∧ r < many := by
  obtain ⟨a, b, rfl⟩ := hl
  have h2 : many < 1073741824 := by omega
  by_cases h : 0 < a
  · refine ⟨a % many, [.int (a / many), .int b], ?_, ⟨_, _, rfl⟩, Int.emod_nonneg _ (by omega), Int.emod_lt_of_pos _ hm⟩
    unfold φ__law_take m__law_take
    simp! only [h, hm, h2]
  · refine ⟨(b * 6364136223846793005 + 1442695040888963407) % 18446744073709551616 / 8589934592 % many, [.int a, .int ((b * 6364136223846793005 + 1442695040888963407) % 18446744073709551616)], ?_, ⟨_, _, rfl⟩, Int.emod_nonneg _ (by omega), Int.emod_lt_of_pos _ hm⟩
    unfold φ__law_take m__law_take
    simp! only [h, hm, h2]
theorem natAbs_mod61 (x : Int) : (x % 2305843009213693951).natAbs < 18446744073709551616 := by
  have h1 := Int.emod_nonneg x (show (2305843009213693951 : Int) ≠ 0 by decide)
  have h2 := Int.emod_lt_of_pos x (show (0 : Int) < 2305843009213693951 by decide)
  omega
theorem deck_ok (ns : List Int) (k : Nat) : ∃ l' : List D, φ__law_deck [li ns, .int (k : Int)] = .ret (.own l') [] ∧ Deck l' := by
  have main : ∀ (cell : Int) (hc : brn (decide ((k : Int) < ns.length)) (sSet 2 (op2 fIx (dName 0) (dName 1))) sNx [.a (ns.map .int), .d (.int k), .d (.int 0), .u] = .ok .nx [.a (ns.map .int), .d (.int k), .d (.int cell), .u]), ∃ l' : List D, φ__law_deck [li ns, .int (k : Int)] = .ret (.own l') [] ∧ Deck l' := by
    intro cell hc
    obtain ⟨st, hst⟩ : ∃ st, st = (cell + 7919 * (k : Int) + 104729) % 2305843009213693951 := ⟨_, rfl⟩
    have z1 := natAbs_mod61 (cell + 7919 * k + 104729)
    rw [← hst] at z1
    by_cases h : cell < 1000000000000000000
    · refine ⟨[.int 0, .int ((st * st * st + 31 * k + 7) % 2305843009213693951)], ?_, ⟨_, _, rfl⟩⟩
      unfold φ__law_deck m__law_deck
      simp! only [List.length_map, hc, h, ← hst, fMul_r _ _ z1]
    · refine ⟨[.int (cell - 1000000000000000000), .int ((st * st * st + 31 * k + 7) % 2305843009213693951)], ?_, ⟨_, _, rfl⟩⟩
      unfold φ__law_deck m__law_deck
      simp! only [List.length_map, hc, h, ← hst, fMul_r _ _ z1]
  by_cases h : k < ns.length
  · refine main ns[k] ?_
    rw [decide_eq_true (by omega)]
    have hx : (ns.map PyData.int)[k]? = some (.int ns[k]) := by simp [h]
    simp! only [fIx_l hx]
  · refine main 0 ?_
    rw [decide_eq_false (by omega)]
    rfl
theorem drawn_ok {l : List D} (hl : Deck l) (n : Nat) (hn : n < 900) : ∃ (p : List Int) (l' : List D), φ__law_drawn [.list l, .int (n : Int)] = .ret (.d (ti p)) l' ∧ Deck l' ∧ IsOrd p ∧ p.length = n := by
  have hr : ((n : Int) + 1 - 1).toNat = n := by omega
  obtain ⟨g', e1, rest, l', p, hp1, hp2, hp3, hp4, hp5, hg⟩ := forG_inv (t := .nm 3) (ms := [3]) (b := sExpr (dMut 2 mInsert (dCons (rD (callP [.m, .v] φ__law_take (vCons (dName 0) (vCons (dName 3) vNil)))) (dCons (dEsc (dName 3)) dNil))))
    ((irange 1 n).map .int) (fun r g => ∃ (rest : List Int) (l' : List D) (p : List Int), r = rest.map .int ∧ rest = irange (p.length + 1) (n - p.length) ∧ Deck l' ∧ IsOrd p ∧ p.length ≤ n ∧ g = [.own true l', .d (.int n), .own false (p.map .int), .u])
    [.own true l, .d (.int n), .own false [], .u] ⟨irange 1 n, l, [], rfl, by simp, hl, isOrd_nil, Nat.zero_le _, rfl⟩ (by
    rintro x r g ⟨rest, l', p, hp1, hp2, hp3, hp4, hp5, rfl⟩ _
    have hlt : p.length < n := by
      have h1 := congrArg List.length hp1
      rw [hp2, List.length_map, irange_len, List.length_cons] at h1
      omega
    have hs : n - p.length = (n - p.length - 1) + 1 := by omega
    rw [hs, irange_succ] at hp2
    rw [hp2, List.map_cons] at hp1
    injection hp1 with hx hr'
    subst hx
    obtain ⟨t, l2, ht, hd, h0, h1⟩ := take_ok hp3 ((p.length : Int) + 1) (by omega) (by omega)
    have hins := mInsert_ok (p.map .int) t (.int ((p.length : Int) + 1)) (by rw [List.length_map]; exact sz_lt (by omega)) h0 (by omega)
    refine ⟨[.own true l', .d (.int n), .own false (p.map .int), .d (.int ((p.length : Int) + 1))], [.own true l2, .d (.int n), .own false ((p.take t.toNat ++ [((p.length + 1 : Nat) : Int)] ++ p.drop t.toNat).map .int), .d (.int ((p.length : Int) + 1))], rfl, .inl ?_, ?_⟩
    · simp! only [ht, hins]
      simp
    · have hl2 : (p.take t.toNat ++ [((p.length + 1 : Nat) : Int)] ++ p.drop t.toNat).length = p.length + 1 := by
        have : (p.take t.toNat).length + (p.drop t.toNat).length = p.length := by rw [← List.length_append, List.take_append_drop]
        simp only [List.length_append, List.length_singleton]
        omega
      refine ⟨irange (p.length + 1 + 1) (n - p.length - 1), l2, _, hr', ?_, hd, isOrd_insert hp4 _, by rw [hl2]; omega, rfl⟩
      rw [hl2]
      congr 1)
  have hl : p.length = n := by
    have h0 : rest = [] := List.map_eq_nil_iff.mp hp1.symm
    have h1 := congrArg List.length hp2
    rw [h0, irange_len] at h1
    simp at h1
    omega
  refine ⟨p, l', ?_, hp3, hp4, hl⟩
  unfold φ__law_drawn m__law_drawn
  have hsm : Sm ((n : Int) + 1) := sm_of (by omega) (by omega)
  simp! only [hsm, hr, e1, hg]
theorem is_integer_ok (i : Int) : φ_is_integer [.int i] = .ret (.d (.bool true)) [] := by
  unfold φ_is_integer m_is_integer
  simp! only []
theorem are_integers_ok (p : List Int) (h : p.length ≤ 1000) : φ_are_integers [ti p] = .ret (.d (.bool true)) [] := by
  have hc := compB_one (i := 1) (enc := PyData.int) (f := fun _ => .bool true) (me := rD (callP [.v] φ_is_integer (vCons (dName 1) vNil))) (g := [.d (ti p), .u]) p (by omega) rfl fun x hx => by simp! only [is_integer_ok]
  have e : p.map (fun _ => PyData.bool true) = (List.replicate p.length true).map .bool := map_true p
  rw [e] at hc
  unfold φ_are_integers m_are_integers
  simp! only [hc, all_true]
theorem is_order_of_ok (p : List Int) (hp : IsOrd p) (h : p.length ≤ 900) : φ_is_order_of [ti p] = .ret (.d (.bool true)) [] := by
  have hs : sortD (p.map .int) = (irange 1 p.length).map .int := sortD_ints hp.perm ((irange_sorted _ _).imp fun {a b} h => Int.le_of_lt h)
  have hsm : Sm ((p.length : Int) + 1) := sm_of (by omega) (by omega)
  have hr : ((p.length : Int) + 1 - 1).toNat = p.length := by omega
  have hf := fEq_li (irange 1 p.length) (irange 1 p.length)
  rw [decide_eq_true rfl] at hf
  unfold φ_is_order_of m_is_order_of
  simp! only [are_integers_ok p (by omega), fSorted_t _ (okSort_ints p (by omega)), hs, List.length_map, hsm, hr, hf]
theorem check_order_ok (p : List Int) (hp : IsOrd p) (h : p.length ≤ 900) : φ_check_order [ti p] = .ret (.d .none) [] := by
  unfold φ_check_order m_check_order
  simp! only [is_order_of_ok p hp h]
theorem is_pattern_ok (p : List Int) (hp : IsOrd p) (h : p.length ≤ 900) (hne : p ≠ []) : φ_is_pattern [ti p] = .ret (.d (.bool true)) [] := by
  have hf : fNe (.tuple (p.map .int)) (.tuple []) = some (.bool true) := by
    have := fNe_ti p []
    rw [decide_eq_false hne] at this
    exact this
  unfold φ_is_pattern m_is_pattern
  simp! only [is_order_of_ok p hp h, hf]
theorem check_pattern_ok (p : List Int) (hp : IsOrd p) (h : p.length ≤ 900) (hne : p ≠ []) : φ_check_pattern [ti p] = .ret (.d .none) [] := by
  unfold φ_check_pattern m_check_pattern
  simp! only [is_pattern_ok p hp h hne]
/-- data whose sequences are short -/
inductive Sh : Nat → D → Prop where
  | int (n : Nat) (i : Int) : Sh n (.int i)
  | bool (n : Nat) (b : Bool) : Sh n (.bool b)
  | non (n : Nat) : Sh n .none
  | tup {n : Nat} {xs : List D} (hl : xs.length ≤ 100000) (h : ∀ x ∈ xs, Sh n x) : Sh (n + 1) (.tuple xs)
  | lst {n : Nat} {xs : List D} (hl : xs.length ≤ 100000) (h : ∀ x ∈ xs, Sh n x) : Sh (n + 1) (.list xs)
theorem same_ok : ∀ (n : Nat) (x : D), Sh n x → ∀ m, n < m → φ__law_same m [x, x] = .ret (.d (.bool true)) []
  | n, x, h, 0, hm => absurd hm (Nat.not_lt_zero _)
  | n, x, h, m + 1, hm => by
    have hf := fEq_li [] []
    rw [decide_eq_true rfl] at hf
    have hf : fEq (.list []) (.list []) = some (.bool true) := hf
    have bt : fNe (.bool true) (.bool true) = some (.bool false) := Eq.trans rfl rfl
    have bf : fNe (.bool false) (.bool false) = some (.bool false) := Eq.trans rfl rfl
    have ii : ∀ k : Int, fNe (.int k) (.int k) = some (.bool false) := fun k => by
      rw [fNe_gd (gd_int 0 k) (gd_int 0 k) (by decide) (by decide), (gd_int 0 k).eqv]
      rfl
    show runF 3 [.v, .v] (m__law_same (φ__law_same m)) [x, x] = _
    cases h with
    | int n i =>
      have e1 : fIsN (.int i) .none = some (.bool false) := Eq.trans rfl rfl
      unfold m__law_same
      simp! only [e1]
    | bool n b =>
      have e1 : fIs [.tuple, .list] (.bool b) = some (.bool false) := Eq.trans rfl rfl
      have e2 : fIsN (.bool b) .none = some (.bool false) := Eq.trans rfl rfl
      have e3 : fIs [.str] (.bool b) = some (.bool false) := Eq.trans rfl rfl
      have e4 : fIs [.bool] (.bool b) = some (.bool true) := Eq.trans rfl rfl
      have e5 : fEq (.bool b) (.bool b) = some (.bool true) := by
        rw [fEq_gd (gd_bool 0 b) (gd_bool 0 b) (by decide) (by decide), (gd_bool 0 b).eqv]
      unfold m__law_same
      simp! only [e1, e2, e3, e4, e5]
    | non n =>
      have e1 : fIs [.tuple, .list] .none = some (.bool false) := Eq.trans rfl rfl
      have e2 : fIsN .none .none = some (.bool true) := Eq.trans rfl rfl
      unfold m__law_same
      simp! only [e1, e2]
    | tup hl hx =>
      rename_i k xs
      have hc := compB_fil (i := 2) (enc := PyData.int) (f := fun i => .int i) (p := fun _ => false) (mt := dNot (dB (rD (callP [.v, .v] (φ__law_same m) (vCons (dv (op2 fIx (dName 0) (dName 2))) (vCons (dv (op2 fIx (dName 1) (dName 2))) vNil)))))) (me := dEsc (dName 2)) (g := [.d (.tuple xs), .d (.tuple xs), .u]) (irange 0 xs.length) (by rw [irange_len]; omega) rfl fun i hi => by
        have hi' := irange_mem.mp hi
        have hlt : i.toNat < xs.length := by omega
        have hix := fIx_t (List.getElem?_eq_getElem hlt)
        rw [show ((i.toNat : Nat) : Int) = i by omega] at hix
        have := same_ok k _ (hx _ (List.getElem_mem hlt)) m (by omega)
        exact ⟨by simp! only [hix, this], fun z => nomatch z⟩
      rw [show (irange 0 xs.length).filter (fun _ => false) = [] from List.filter_eq_nil_iff.mpr (fun _ _ => Bool.false_ne_true), List.map_nil] at hc
      have hsm : Sm (xs.length : Int) := ⟨by omega, by omega⟩
      unfold m__law_same
      simp! only [bt, bf, ii, hsm, Int.toNat_natCast, hc, hf]
    | lst hl hx =>
      rename_i k xs
      have hc := compB_fil (i := 2) (enc := PyData.int) (f := fun i => .int i) (p := fun _ => false) (mt := dNot (dB (rD (callP [.v, .v] (φ__law_same m) (vCons (dv (op2 fIx (dName 0) (dName 2))) (vCons (dv (op2 fIx (dName 1) (dName 2))) vNil)))))) (me := dEsc (dName 2)) (g := [.a xs, .a xs, .u]) (irange 0 xs.length) (by rw [irange_len]; omega) rfl fun i hi => by
        have hi' := irange_mem.mp hi
        have hlt : i.toNat < xs.length := by omega
        have hix := fIx_l (List.getElem?_eq_getElem hlt)
        rw [show ((i.toNat : Nat) : Int) = i by omega] at hix
        have := same_ok k _ (hx _ (List.getElem_mem hlt)) m (by omega)
        exact ⟨by simp! only [hix, this], fun z => nomatch z⟩
      rw [show (irange 0 xs.length).filter (fun _ => false) = [] from List.filter_eq_nil_iff.mpr (fun _ _ => Bool.false_ne_true), List.map_nil] at hc
      have hsm : Sm (xs.length : Int) := ⟨by omega, by omega⟩
      unfold m__law_same
      simp! only [bt, bf, ii, hsm, Int.toNat_natCast, hc, hf]
theorem fAdd_ll (xs ys : List D) : fAdd (.list xs) (.list ys) = none := Eq.trans rfl rfl
theorem fCat_ok (xs ys : List D) (h : xs.length + ys.length ≤ 100000) : fCat (.list xs) (.list ys) = some (xs ++ ys) := if_pos (sz_le h)
theorem like_ok (c : List Int) (h : c.length ≤ 900) : φ__law_like [li c] = .ret (.d (ti (like c))) [] := by
  have hc := compB_one (i := 2) (enc := PyData.int) (f := fun y => .int (1 + ((c.filter fun x => decide (x < y)).length : Int))) (me := rD (op2r fAdd fCat (dv (dC (.int 1))) (dv (opN fLen (vCons (dv (dFz (compL [1] (.nm 1) (iV (dName 0)) (dB (op2 fLt (dName 1) (dName 2))) (dEsc (dName 1))))) vNil)))))
    (g := [.a (c.map .int), .u, .u]) c (by omega) rfl fun y hy => by
      have hi := compB_fil (i := 1) (enc := PyData.int) (f := fun x => .int x) (p := fun x => decide (x < y)) (mt := dB (op2 fLt (dName 1) (dName 2))) (me := dEsc (dName 1)) (g := [.a (c.map .int), .u, .d (.int y)]) c (by omega) rfl fun x hx => ⟨by simp! only [], fun _ => by simp! only []⟩
      simp! only [hi, List.length_map]
  have e : c.map (fun y => PyData.int (1 + ((c.filter fun x => decide (x < y)).length : Int))) = (like c).map .int := by
    unfold like
    rw [List.map_map]
    rfl
  rw [e] at hc
  unfold φ__law_like m__law_like
  simp! only [hc]
theorem filled_ok (p : List Int) (R : List (List Int)) (hl : R.length = p.length) (hn : p.length ≤ 100) (ht : total R p.length ≤ 1000) : φ__law_filled [ti p, .list (R.map ti)] = .ret (.d (ti (fillL p R p.length))) [] := by
  have hsm : Sm (p.length : Int) := sm_of (by omega) (by omega)
  obtain ⟨g', e1, i, h1, h2, h3⟩ := forG_inv (t := .nm 3) (ms := [3, 4]) (b := (dSeq (sSet 4 (opN fSum (vCons (dv (dFz (compL [5] (.nm 5) (iR1 (vCons (dv (opN fLen (vCons (dName 0) vNil))) vNil)) (dB (op2 fLt (dv (op2 fIx (dName 0) (dName 5))) (dv (op2 fIx (dName 0) (dName 3))))) (opN fLen (vCons (dv (op2 fIx (dName 1) (dName 5))) vNil))))) vNil)))
    (sSetR 2 (op2r fAdd fCat (dName 2) (dv (dFz (compL [6] (.nm 6) (iV (dv (op2 fIx (dName 1) (dName 3)))) (rt true) (rD (op2r fAdd fCat (dName 4) (dName 6)))))))))) ((irange 0 p.length).map .int)
    (fun r g => ∃ (i : Nat), r = (irange i (p.length - i)).map .int ∧ i ≤ p.length ∧ g = [.d (ti p), .a (R.map ti), .own false ((fillL p R i).map .int), .u, .u, .u, .u])
    _ ⟨0, rfl, Nat.zero_le _, rfl⟩ (by
      rintro x r g ⟨i, h1, h2, rfl⟩ _
      have hlt : i < p.length := by
        have := congrArg List.length h1
        rw [List.length_map, irange_len, List.length_cons] at this
        omega
      rw [show p.length - i = (p.length - i - 1) + 1 by omega, irange_succ, List.map_cons] at h1
      injection h1 with hx hr
      subst hx
      have atP : ∀ k : Nat, k < p.length → fIx (.tuple (p.map .int)) (.int (k : Int)) = some (.int (p.getD k 0)) := fun k hk => fIx_t (by rw [List.getElem?_map, List.getD_eq_getElem?_getD, List.getElem?_eq_getElem hk]; rfl)
      have atR : ∀ k : Nat, k < p.length → fIx (.list (R.map ti)) (.int (k : Int)) = some (ti (R.getD k [])) := fun k hk => fIx_l (by rw [List.getElem?_map, List.getD_eq_getElem?_getD, List.getElem?_eq_getElem (by omega)]; rfl)
      have hc := compB_fil (i := 5) (enc := PyData.int) (f := fun j => .int ((R.getD j.toNat []).length : Nat)) (p := fun j => decide (p.getD j.toNat 0 < p.getD i 0)) (mt := dB (op2 fLt (dv (op2 fIx (dName 0) (dName 5))) (dv (op2 fIx (dName 0) (dName 3))))) (me := opN fLen (vCons (dv (op2 fIx (dName 1) (dName 5))) vNil))
        (g := [.d (ti p), .a (R.map ti), .own false ((fillL p R i).map .int), .d (.int i), .u, .u, .u]) (irange 0 p.length) (by rw [irange_len]; omega) rfl fun j hj => by
          have hj' := irange_mem.mp hj
          have a1 := atP j.toNat (by omega)
          have a2 := atR j.toNat (by omega)
          rw [show ((j.toNat : Nat) : Int) = j by omega] at a1 a2
          have a3 := atP i hlt
          exact ⟨by simp! only [a1, a3], fun _ => by simp! only [a2, List.length_map]⟩
      have hsum := wsum_eq (fun j => (R.getD j []).length) (fun j => decide (p.getD j 0 < p.getD i 0)) p.length
      have hs2 : fSum [.list (((irange 0 p.length).filter fun j => decide (p.getD j.toNat 0 < p.getD i 0)).map fun j => PyData.int ((R.getD j.toNat []).length : Nat))] = some (.int (lessOf p R i)) := by
        have := fSum_i (((irange 0 p.length).filter fun j => decide (p.getD j.toNat 0 < p.getD i 0)).map fun j => (((R.getD j.toNat []).length : Nat) : Int))
        rw [List.map_map, hsum] at this
        exact this
      have hc2 := compB_one (i := 6) (enc := PyData.int) (f := fun x => .int ((lessOf p R i : Int) + x)) (me := rD (op2r fAdd fCat (dName 4) (dName 6))) (g := [.d (ti p), .a (R.map ti), .own false ((fillL p R i).map .int), .d (.int i), .d (.int (lessOf p R i)), .u, .u]) (R.getD i []) (by
          have := less_total (R := R) hlt
          omega) rfl fun x hx => by simp! only []
      have a4 := atR i hlt
      have hcat := fCat_ok ((fillL p R i).map .int) ((R.getD i []).map fun x => .int ((lessOf p R i : Int) + x)) (by
        rw [List.length_map, List.length_map, fillL_len]
        have := less_total (R := R) hlt
        have h5 : total R i ≤ total R p.length := by
          have : ∀ m : Nat, total R i ≤ total R (i + m) := by
            intro m
            induction m with
            | zero => exact Nat.le_refl _
            | succ m ih => exact Nat.le_trans ih (Nat.le_add_right _ _)
          have := this (p.length - i)
          rwa [show i + (p.length - i) = p.length by omega] at this
        omega)
      refine ⟨[.d (ti p), .a (R.map ti), .own false ((fillL p R i).map .int), .d (.int i), .u, .u, .u], [.d (ti p), .a (R.map ti), .own false ((fillL p R (i + 1)).map .int), .d (.int i), .d (.int (lessOf p R i)), .u, .u], by simp! only [], .inl ?_, i + 1, ?_, by omega, by simp! only []⟩
      · simp! only [List.length_map, hsm, Int.toNat_natCast, hc, hs2, a4, hc2, fAdd_ll, hcat]
        rw [show fillL p R (i + 1) = fillL p R i ++ (R.getD i []).map fun x => (lessOf p R i : Int) + x from rfl, List.map_append, List.map_map]
        rfl
      · rw [hr]
        congr 2)
  have hi : i = p.length := by
    have := congrArg List.length h1
    rw [List.length_map, irange_len] at this
    simp at this
    omega
  subst hi
  unfold φ__law_filled m__law_filled
  have e2 : forG _ _ _ _ [SV.d (ti p), .a (R.map ti), .own false [], .u, .u, .u, .u] = _ := e1
  simp! only [List.length_map, hsm, Int.toNat_natCast, e2, h3]
theorem isOrd_irange (n : Nat) : IsOrd (irange 1 n) := .of_perm (by rw [irange_len])
theorem drange_rev (n : Nat) : drange n n = tu (irange 1 n) := by
  apply List.ext_getElem?
  intro k
  by_cases hk : k < n
  · rw [drange_get _ _ _ hk, tu, List.getElem?_reverse (by rw [irange_len]; exact hk), irange_len, irange_get _ _ _ (by omega)]
    congr 1
    omega
  · rw [List.getElem?_eq_none (by rw [drange_len]; omega), List.getElem?_eq_none (by rw [tu_len, irange_len]; omega)]
theorem two_of {r : Int} (h0 : 0 ≤ r) (h1 : r < 2) : r = 0 ∨ r = 1 := by omega
abbrev rowBody : M Fl := (dSeq (sSetR 9 (callP [.m, .v] φ__law_take (vCons (dName 0) (vCons (dv (rD (op2r fAdd fCat (dName 6) (dv (dC (.int 1)))))) vNil))))
    (dSeq (sSet 6 (op2 fSub (dName 6) (dName 9)))
    (sExpr (dMut 7 mAppend (dCons (rD (callP [.m, .v] φ__law_drawn (vCons (dName 0) (vCons (dv (rD (op2r fAdd fCat (dv (dC (.int 1))) (dName 9)))) vNil)))) dNil)))))
theorem row_loop (most way : Int) (many : Nat) (base : List Int) {l : List D} (hl : Deck l) (hb : base.length ≤ many) (hm : many ≤ 100) : ∃ (l' : List D) (R : List (List Int)) (rest : Int) (g' : En),
    forG (.nm 8) [8, 9] rowBody ((irange 0 base.length).map .int) [.own true l, .d (.int most), .d (.int way), .d (.int many), .u, .d (ti base), .d (.int ((many : Int) - base.length)), .own false [], .u, .u] = .ok .nx (fgt [8, 9] g') ∧
      g' = [.own true l', .d (.int most), .d (.int way), .d (.int many), .u, .d (ti base), .d (.int rest), .own false (R.map ti), .u, .u] ∧ Deck l' ∧ R.length = base.length ∧ (∀ j, j < base.length → IsOrd (R.getD j [])) ∧ total R base.length ≤ many := by
  obtain ⟨g', e1, i, l', R, rest, h1, h2, h3, h4, h5, h6, h7, h8⟩ := forG_inv (t := .nm 8) (ms := [8, 9]) (b := rowBody) ((irange 0 base.length).map .int)
    (fun r g => ∃ (i : Nat) (l' : List D) (R : List (List Int)) (rest : Int), r = (irange i (base.length - i)).map .int ∧ i ≤ base.length ∧ Deck l' ∧ R.length = i ∧ (∀ j, j < i → IsOrd (R.getD j [])) ∧ 0 ≤ rest ∧ (total R i : Int) + rest = i + ((many : Int) - base.length) ∧
      g = [.own true l', .d (.int most), .d (.int way), .d (.int many), .u, .d (ti base), .d (.int rest), .own false (R.map ti), .u, .u])
    _ ⟨0, l, [], (many : Int) - base.length, rfl, Nat.zero_le _, hl, rfl, fun j hj => absurd hj (Nat.not_lt_zero _), by omega, by simp [total, wsum], rfl⟩ (by
      rintro x r g ⟨i, l', R, rest, h1, h2, h3, h4, h5, h6, h7, rfl⟩ _
      have hlt : i < base.length := by
        have := congrArg List.length h1
        rw [List.length_map, irange_len, List.length_cons] at this
        omega
      rw [show base.length - i = (base.length - i - 1) + 1 by omega, irange_succ, List.map_cons] at h1
      injection h1 with hx hr
      subst hx
      have hrest : rest ≤ 100 := by omega
      obtain ⟨t, l2, ht, hd, t0, t1⟩ := take_ok h3 (rest + 1) (by omega) (by omega)
      obtain ⟨q, l3, hq, hd3, hq1, hq2⟩ := drawn_ok hd (1 + t.toNat) (by omega)
      rw [show ((1 + t.toNat : Nat) : Int) = 1 + t by omega] at hq
      have ha := mAppend_ok (R.map ti) (ti q) (by rw [List.length_map]; exact sz_lt (by omega))
      refine ⟨[.own true l', .d (.int most), .d (.int way), .d (.int many), .u, .d (ti base), .d (.int rest), .own false (R.map ti), .d (.int i), .u], [.own true l3, .d (.int most), .d (.int way), .d (.int many), .u, .d (ti base), .d (.int (rest - t)), .own false ((R ++ [q]).map ti), .d (.int i), .d (.int t)], by simp! only [], .inl ?_, i + 1, l3, R ++ [q], rest - t, ?_, by omega, hd3, ?_, fun j hj => ?_, by omega, ?_, by simp! only []⟩
      · simp! only [ht, hq, ha, List.map_append, List.map_cons, List.map_nil]
      · rw [hr]
        congr 2
      · rw [List.length_append, h4]
        rfl
      · by_cases e : j = i
        · subst e
          rw [List.getD_eq_getElem?_getD, List.getElem?_append_right (by omega), h4, Nat.sub_self]
          exact hq1
        · rw [List.getD_eq_getElem?_getD, List.getElem?_append_left (by omega), ← List.getD_eq_getElem?_getD]
          exact h5 j (by omega)
      · have := total_snoc (R := R) (r := q)
        rw [h4] at this
        rw [this]
        omega)
  have hi : i = base.length := by
    have := congrArg List.length h1
    rw [List.length_map, irange_len] at this
    simp at this
    omega
  subst hi
  exact ⟨l', R, rest, g', e1, h8, h3, h4, h5, by omega⟩
theorem row_ok {l : List D} (hl : Deck l) (most : Nat) (hm : most ≤ 100) : ∃ (p : List Int) (l' : List D), φ__law_row [.list l, .int (most : Int)] = .ret (.d (ti p)) l' ∧ Deck l' ∧ IsOrd p ∧ p.length ≤ most := by
  obtain ⟨way, l1, e1, d1, w0, w1⟩ := take_ok hl 6 (by omega) (by omega)
  obtain ⟨manyI, l2, e2, d2, m0, m1⟩ := take_ok d1 ((most : Int) + 1) (by omega) (by omega)
  obtain ⟨many, rfl⟩ : ∃ many : Nat, manyI = many := ⟨manyI.toNat, by omega⟩
  have hmm : many ≤ most := by omega
  by_cases c1 : way < 2
  · obtain ⟨p, l', h1, h2, h3, h4⟩ := drawn_ok d2 many (by omega)
    refine ⟨p, l', ?_, h2, h3, by omega⟩
    unfold φ__law_row m__law_row
    simp! only [e1, e2, c1, h1]
  by_cases c2 : (many : Int) < 2
  · obtain ⟨p, l', h1, h2, h3, h4⟩ := drawn_ok d2 many (by omega)
    refine ⟨p, l', ?_, h2, h3, by omega⟩
    unfold φ__law_row m__law_row
    simp! only [e1, e2, c1, c2, h1]
  by_cases c3 : way = 2
  · subst c3
    have hsm : Sm ((many : Int) + 1) := sm_of (by omega) (by omega)
    have hr : ((many : Int) + 1 - 1).toNat = many := by omega
    obtain ⟨t, l3, e3, d3, t0, t1⟩ := take_ok d2 2 (by omega) (by omega)
    rcases two_of t0 t1 with rfl | rfl
    · refine ⟨irange 1 many, l3, ?_, d3, isOrd_irange many, by rw [irange_len]; omega⟩
      unfold φ__law_row m__law_row
      simp! only [e1, e2, c1, c2, e3, hsm, hr]
    · refine ⟨tu (irange 1 many), l3, ?_, d3, isOrd_tu (isOrd_irange many), by rw [tu_len, irange_len]; omega⟩
      unfold φ__law_row m__law_row
      simp! only [e1, e2, c1, c2, e3, hsm, hr, ← List.map_reverse]
      rfl
  obtain ⟨t, l3, e3, d3, t0, t1⟩ := take_ok d2 ((many : Int) - 1) (by omega) (by omega)
  obtain ⟨base, l4, e4, d4, b1, b2⟩ := drawn_ok d3 (2 + t.toNat) (by omega)
  rw [show ((2 + t.toNat : Nat) : Int) = 2 + t by omega] at e4
  have main : ∀ (base : List Int) (l4 : List D), Deck l4 → IsOrd base → base.length = 2 + t.toNat → ∃ (p : List Int) (l' : List D) (g' : En), dsq (forG (.nm 8) [8, 9] rowBody ((irange 0 base.length).map .int) [.own true l4, .d (.int most), .d (.int way), .d (.int many), .u, .d (ti base), .d (.int ((many : Int) - base.length)), .own false [], .u, .u]) (sRetR (callP [.v, .v] φ__law_filled (vCons (dName 5) (vCons (dName 7) vNil)))) = .ok (.rt (.d (ti p))) (.own true l' :: g') ∧ Deck l' ∧ IsOrd p ∧ p.length ≤ most := by
    intro base l4 d4 b1 b2
    obtain ⟨l5, R, rest, g', f1, f2, f3, f4, f5, f6⟩ := row_loop most way many base d4 (by omega) (by omega)
    have hf := filled_ok base R f4 (by omega) (by omega)
    refine ⟨fillL base R base.length, l5, [.d (.int most), .d (.int way), .d (.int many), .u, .d (ti base), .d (.int rest), .own false (R.map ti), .u, .u], ?_, f3, isOrd_fill b1.nd f5, by rw [fillL_len]; omega⟩
    rw [f1, f2]
    simp! only [hf]
  by_cases c4 : way = 3
  · subst c4
    obtain ⟨u, l5, e5, d5, u0, u1⟩ := take_ok d4 2 (by omega) (by omega)
    have hsm : Sm ((base.length : Int) + 1) := sm_of (by omega) (by omega)
    have hsm2 : Sm (base.length : Int) := sm_of (by omega) (by omega)
    have hr : ((base.length : Int) + 1 - 1).toNat = base.length := by omega
    have hr2 : ((base.length : Int) - 0).toNat = base.length := by omega
    rcases two_of u0 u1 with rfl | rfl
    · obtain ⟨p, l', g', h1, h2, h3, h4⟩ := main (irange 1 base.length) l5 d5 (isOrd_irange _) (by rw [irange_len]; omega)
      refine ⟨p, l', ?_, h2, h3, h4⟩
      rw [irange_len] at h1
      unfold φ__law_row m__law_row
      simp! only [e1, e2, c1, c2, e3, e4, e5, hsm, hsm2, hr, hr2, List.length_map, irange_len, Int.toNat_natCast, h1]
    · obtain ⟨p, l', g', h1, h2, h3, h4⟩ := main (drange base.length base.length) l5 d5 (by rw [drange_rev]; exact isOrd_tu (isOrd_irange _)) (by rw [drange_len]; omega)
      refine ⟨p, l', ?_, h2, h3, h4⟩
      rw [drange_len] at h1
      unfold φ__law_row m__law_row
      simp! only [e1, e2, c1, c2, e3, e4, e5, hsm, hsm2, hr, hr2, List.length_map, drange_len, Int.toNat_natCast, h1]
  · obtain ⟨p, l', g', h1, h2, h3, h4⟩ := main base l4 d4 b1 b2
    have hsm2 : Sm (base.length : Int) := sm_of (by omega) (by omega)
    refine ⟨p, l', ?_, h2, h3, h4⟩
    unfold φ__law_row m__law_row
    simp! only [e1, e2, c1, c2, c3, c4, e3, e4, hsm2, List.length_map, Int.toNat_natCast, h1]
abbrev nbBody : M Fl := (dSeq (sSetO 4 (compL [5] (.nm 5) (iV (dv (rD (cutR (dName 0) oNone (oSome (dEsc (dName 2))))))) (dB (op2 fLt (dName 5) (dName 3))) (dEsc (dName 5))))
    (dSeq (sSetO 6 (compL [5] (.nm 5) (iV (dv (rD (cutR (dName 0) oNone (oSome (dEsc (dName 2))))))) (dB (op2 fGt (dName 5) (dName 3))) (dEsc (dName 5))))
    (dSeq (sSet 7 (dIfE (dB (op2 fNe (dName 4) (dv (dFz (dLst dNil))))) (dIndexT (dName 0) (dv (opN fMax (vCons (dName 4) vNil)))) (dC .none)))
    (dSeq (sSet 8 (dIfE (dB (op2 fNe (dName 6) (dv (dFz (dLst dNil))))) (dIndexT (dName 0) (dv (opN fMin (vCons (dName 6) vNil)))) (dC .none)))
    (sExpr (dMut 1 mAppend (dCons (dTup (dCons (dEsc (dName 7)) (dCons (dEsc (dName 8)) dNil))) dNil)))))))
theorem nb_step (q : List Int) (a : Nat) (ha : a < q.length) (hq : q.length ≤ 900) : nbBody [.d (ti q), .own false (nbs q a), .d (.int (a : Int)), .d (.int (qAt q a)), .u, .u, .u, .u, .u] = .ok .nx [.d (ti q), .own false (nbs q (a + 1)), .d (.int (a : Int)), .d (.int (qAt q a)), .own false ((lesser q a).map .int), .u, .own false ((greater q a).map .int), .d (belD q a), .d (abvD q a)] := by
  have hcut := fCutT_take (q.map .int) a
  rw [← List.map_take] at hcut
  have hc1 := compB_fil (i := 5) (enc := PyData.int) (f := fun x => .int x) (p := fun x => decide (x < qAt q a)) (mt := dB (op2 fLt (dName 5) (dName 3))) (me := dEsc (dName 5)) (g := [.d (ti q), .own false (nbs q a), .d (.int (a : Int)), .d (.int (qAt q a)), .u, .u, .u, .u, .u]) (q.take a) (by rw [List.length_take]; omega) rfl fun x hx => ⟨by simp! only [], fun _ => by simp! only []⟩
  have hc2 := compB_fil (i := 5) (enc := PyData.int) (f := fun x => .int x) (p := fun x => decide (qAt q a < x)) (mt := dB (op2 fGt (dName 5) (dName 3))) (me := dEsc (dName 5)) (g := [.d (ti q), .own false (nbs q a), .d (.int (a : Int)), .d (.int (qAt q a)), .own false ((lesser q a).map .int), .u, .u, .u, .u]) (q.take a) (by rw [List.length_take]; omega) rfl fun x hx => ⟨by simp! only [], fun _ => by simp! only []⟩
  have hn1 : fNe (.list ((lesser q a).map .int)) (.list []) = some (.bool (!decide (lesser q a = []))) := fNe_li (lesser q a) []
  have hn2 : fNe (.list ((greater q a).map .int)) (.list []) = some (.bool (!decide (greater q a = []))) := fNe_li (greater q a) []
  have happ := fun y => mAppend_ok (nbs q a) y (by rw [nbs_len]; exact sz_lt (by omega))
  have m1 : lesser q a ≠ [] → mx (lesser q a) ∈ q := fun h => List.mem_of_mem_take (List.mem_filter.mp (mx_mem h)).1
  have m2 : greater q a ≠ [] → mn (greater q a) ∈ q := fun h => List.mem_of_mem_take (List.mem_filter.mp (mn_mem h)).1
  change compB [5] _ _ _ _ _ = .ok ((lesser q a).map .int) _ at hc1
  change compB [5] _ _ _ _ _ = .ok ((greater q a).map .int) _ at hc2
  unfold nbBody
  by_cases h1 : lesser q a = []
  · have b1 : belD q a = .none := if_pos h1
    by_cases h2 : greater q a = []
    · have b2 : abvD q a = .none := if_pos h2
      rw [nbs_succ, nbD, b1, b2]
      rw [h1] at hc1 hc2 hn1 ⊢
      rw [h2] at hc2 hn2 ⊢
      simp! only [hcut, hc1, hc2, hn1, hn2, happ]
    · have b2 : abvD q a = .int (q.idxOf (mn (greater q a)) : Nat) := if_neg h2
      rw [nbs_succ, nbD, b1, b2]
      rw [h1] at hc1 hc2 hn1 ⊢
      simp! only [hcut, hc1, hc2, hn1, hn2, happ, h2, fMin_l h2, fIxT_ok (m2 h2)]
  · have b1 : belD q a = .int (q.idxOf (mx (lesser q a)) : Nat) := if_neg h1
    by_cases h2 : greater q a = []
    · have b2 : abvD q a = .none := if_pos h2
      rw [nbs_succ, nbD, b1, b2]
      rw [h2] at hc2 hn2 ⊢
      simp! only [hcut, hc1, hc2, hn1, hn2, happ, h1, fMax_l h1, fIxT_ok (m1 h1)]
    · have b2 : abvD q a = .int (q.idxOf (mn (greater q a)) : Nat) := if_neg h2
      rw [nbs_succ, nbD, b1, b2]
      simp! only [hcut, hc1, hc2, hn1, hn2, happ, h1, h2, fMax_l h1, fIxT_ok (m1 h1), fMin_l h2, fIxT_ok (m2 h2)]
theorem neighbours_ok (q : List Int) (hq : q.length ≤ 900) : φ_neighbours [ti q] = .ret (.own (nbs q q.length)) [] := by
  obtain ⟨g', e1, i, h1, h2, h3⟩ := forG_inv (t := .tup [.nm 2, .nm 3]) (ms := [2, 3, 4, 6, 7, 8]) (b := nbBody) (enumD 0 (q.map .int))
    (fun r g => ∃ (i : Nat), r = enumD i ((q.drop i).map .int) ∧ i ≤ q.length ∧ g = [.d (ti q), .own false (nbs q i), .u, .u, .u, .u, .u, .u, .u])
    _ ⟨0, rfl, Nat.zero_le _, rfl⟩ (by
      rintro x r g ⟨i, h1, h2, rfl⟩ _
      have hlt : i < q.length := by
        have := congrArg List.length h1
        rw [enumD_len, List.length_map, List.length_drop, List.length_cons] at this
        omega
      have hd : q.drop i = qAt q i :: q.drop (i + 1) := by
        rw [List.drop_eq_getElem_cons hlt, qAt, List.getD_eq_getElem?_getD, List.getElem?_eq_getElem hlt]
        rfl
      rw [hd, List.map_cons, enumD_cons] at h1
      injection h1 with hx hr
      subst hx
      refine ⟨[.d (ti q), .own false (nbs q i), .d (.int (i : Int)), .d (.int (qAt q i)), .u, .u, .u, .u, .u], _, ?_, .inl (nb_step q i hlt hq), i + 1, hr, by omega, by simp! only []⟩
      rw [setT_tup, setTs_cons _ _ _ _ _ _ (setT_nm _ _ _), setTs_cons _ _ _ _ _ _ (setT_nm _ _ _), setTs_nil]
      simp! only [])
  have hi : i = q.length := by
    have := congrArg List.length h1
    rw [enumD_len, List.length_map, List.length_drop] at this
    simp at this
    omega
  subst hi
  have e2 : forG _ _ _ _ [SV.d (ti q), .own false [], .u, .u, .u, .u, .u, .u, .u] = _ := e1
  unfold φ_neighbours m_neighbours
  simp! only [e2, h3]
abbrev plIn : M Fl := (dSeq (sSet 8 (dIfE (dB (op2 fNotN (dName 4) (dv (dC .none)))) (op2 fIx (dName 0) (dv (op2 fIx (dName 7) (dName 4)))) (dC (.int 0))))
    (dSeq (sSet 9 (dIfE (dB (op2 fNotN (dName 5) (dv (dC .none)))) (op2 fIx (dName 0) (dv (op2 fIx (dName 7) (dName 5)))) (rD (op2r fAdd fCat (dv (opN fLen (vCons (dName 0) vNil))) (dv (dC (.int 1)))))))
    (dSeq (sSet 10 (dIfE (dB (op2 fNe (dName 7) (dv (dTup dNil)))) (rD (op2r fAdd fCat (dv (op2 fIx (dName 7) (dv (op1 fNeg (dv (dC (.int 1))))))) (dv (dC (.int 1))))) (dC (.int 0))))
    (dSeq (sSet 11 (op2 fSub (dv (opN fLen (vCons (dName 0) vNil))) (dv (op2 fSub (dv (op2 fSub (dv (opN fLen (vCons (dName 1) vNil))) (dName 3))) (dv (dC (.int 1)))))))
    (sExpr (dMut 6 mExtend (compL [12] (.nm 12) (iR2 (vCons (dName 10) (vCons (dName 11) vNil))) (dB (dChain fLt fLt (dName 8) (dv (op2 fIx (dName 0) (dName 12))) (dName 9))) (rD (op2r fAdd fCat (dName 7) (dv (dTup (dCons (dEsc (dName 12)) dNil))))))))))))
theorem pl_in (p q : List Int) (a : Nat) (t : List Int) (ha : a < q.length) (hp : p.length ≤ 900) (hq : q.length ≤ 900) (h : Pl p a t) (f : SV) (L : List (List Int)) (hL : L.length + p.length ≤ sizeLine) :
    plIn [.d (ti p), .d (ti q), f, .d (.int (a : Int)), .d (belD q a), .d (abvD q a), .own false (L.map ti), .d (ti t), .u, .u, .u, .u, .u] =
      .ok .nx [.d (ti p), .d (ti q), f, .d (.int (a : Int)), .d (belD q a), .d (abvD q a), .own false ((L ++ extT p q a t).map ti), .d (ti t), .d (.int (leastI p q a t)), .d (.int (mostI p q a t)), .d (.int (startI t)), .d (.int (stopI p q a)), .u] := by
  have hst := startI_bd h
  have hsp : stopI p q a ≤ p.length := by unfold stopI; omega
  have s1 : Sm (startI t) := ⟨by omega, by omega⟩
  have s2 : Sm (stopI p q a) := ⟨by unfold stopI; omega, by omega⟩
  have m1 : lesser q a ≠ [] → q.idxOf (mx (lesser q a)) < t.length := fun z => by rw [h.len]; exact idx_take (List.mem_filter.mp (mx_mem z)).1
  have m2 : greater q a ≠ [] → q.idxOf (mn (greater q a)) < t.length := fun z => by rw [h.len]; exact idx_take (List.mem_filter.mp (mn_mem z)).1
  have inP : ∀ j, j < t.length → 0 ≤ t.getD j 0 ∧ t.getD j 0 < p.length := fun j hj => by
    have hm : t.getD j 0 ∈ t := by
      rw [List.getD_eq_getElem?_getD, List.getElem?_eq_getElem hj]
      exact List.getElem_mem hj
    exact ⟨h.lo _ hm, h.hi _ hm⟩
  -- least
  have e8 : ∀ g : En, g[0]? = some (.d (ti p)) → g[4]? = some (.d (belD q a)) → g[7]? = some (.d (ti t)) → dIfE (dB (op2 fNotN (dName 4) (dv (dC .none)))) (op2 fIx (dName 0) (dv (op2 fIx (dName 7) (dName 4)))) (dC (.int 0)) g = .ok (.int (leastI p q a t)) g := by
    intro g g0 g4 g7
    by_cases z : lesser q a = []
    · have b1 : belD q a = .none := if_pos z
      have b2 : leastI p q a t = 0 := if_pos z
      rw [b1] at g4
      rw [b2]
      simp! only [g4, fNotN_n]
    · have b1 : belD q a = .int (q.idxOf (mx (lesser q a)) : Nat) := if_neg z
      have b2 : leastI p q a t = pAt p (t.getD (q.idxOf (mx (lesser q a))) 0) := if_neg z
      have b3 := inP _ (m1 z)
      rw [b1] at g4
      rw [b2]
      simp! only [g0, g4, g7, fNotN_i, fIx_pn (m1 z), fIx_p b3.1 b3.2]
  have e9 : ∀ g : En, g[0]? = some (.d (ti p)) → g[5]? = some (.d (abvD q a)) → g[7]? = some (.d (ti t)) → dIfE (dB (op2 fNotN (dName 5) (dv (dC .none)))) (op2 fIx (dName 0) (dv (op2 fIx (dName 7) (dName 5)))) (rD (op2r fAdd fCat (dv (opN fLen (vCons (dName 0) vNil))) (dv (dC (.int 1))))) g = .ok (.int (mostI p q a t)) g := by
    intro g g0 g4 g7
    by_cases z : greater q a = []
    · have b1 : abvD q a = .none := if_pos z
      have b2 : mostI p q a t = (p.length : Int) + 1 := if_pos z
      rw [b1] at g4
      rw [b2]
      simp! only [g0, g4, fNotN_n, List.length_map]
    · have b1 : abvD q a = .int (q.idxOf (mn (greater q a)) : Nat) := if_neg z
      have b2 : mostI p q a t = pAt p (t.getD (q.idxOf (mn (greater q a))) 0) := if_neg z
      have b3 := inP _ (m2 z)
      rw [b1] at g4
      rw [b2]
      simp! only [g0, g4, g7, fNotN_i, fIx_pn (m2 z), fIx_p b3.1 b3.2]
  have e10 : ∀ g : En, g[7]? = some (.d (ti t)) → dIfE (dB (op2 fNe (dName 7) (dv (dTup dNil)))) (rD (op2r fAdd fCat (dv (op2 fIx (dName 7) (dv (op1 fNeg (dv (dC (.int 1))))))) (dv (dC (.int 1))))) (dC (.int 0)) g = .ok (.int (startI t)) g := by
    intro g g7
    have hne : fNe (.tuple (t.map .int)) (.tuple []) = some (.bool (!decide (t = []))) := fNe_ti t []
    rcases List.eq_nil_or_concat t with rfl | ⟨t', x, rfl⟩
    · simp! only [g7, hne]
      rfl
    · rw [List.concat_eq_append] at *
      have hz : ¬ (t' ++ [x] = []) := by simp
      have hl : fIx (.tuple ((t' ++ [x]).map .int)) (.int (-1)) = some (.int x) := by
        rw [List.map_append]
        exact fIx_last
      have hs : startI (t' ++ [x]) = x + 1 := by
        unfold startI
        rw [List.getLast?_concat]
      rw [hs]
      simp! only [g7, hne, hz, hl]
  have hc := compB_fil (i := 12) (enc := PyData.int) (f := fun x => ti (t ++ [x])) (p := okI p q a t) (mt := dB (dChain fLt fLt (dName 8) (dv (op2 fIx (dName 0) (dName 12))) (dName 9))) (me := rD (op2r fAdd fCat (dName 7) (dv (dTup (dCons (dEsc (dName 12)) dNil)))))
    (g := [.d (ti p), .d (ti q), f, .d (.int (a : Int)), .d (belD q a), .d (abvD q a), .own false (L.map ti), .d (ti t), .d (.int (leastI p q a t)), .d (.int (mostI p q a t)), .d (.int (startI t)), .d (.int (stopI p q a)), .u]) (irange (startI t) (stopI p q a - startI t).toNat) (by rw [irange_len]; omega) (by cases f <;> rfl) fun x hx => by
      have hx' := irange_mem.mp hx
      have hix := fIx_p (p := p) (x := x) (by omega) (by omega)
      have hadd := fAdd_tt (t.map .int) [.int x] (by rw [List.length_map, h.len, List.length_singleton]; omega)
      refine ⟨?_, fun _ => ?_⟩
      · unfold okI
        by_cases z : leastI p q a t < pAt p x
        · simp! only [hix, z, Bool.true_and]
        · simp! only [hix, z, Bool.false_and]
      · have ht : ti (t ++ [x]) = .tuple (t.map .int ++ [.int x]) := by rw [ti, List.map_append]; rfl
        rw [ht]
        simp! only [hadd]
  have hmap : ((irange (startI t) (stopI p q a - startI t).toNat).filter (okI p q a t)).map (fun x => ti (t ++ [x])) = (extT p q a t).map ti := by
    unfold extT
    rw [List.map_map]
    rfl
  rw [hmap] at hc
  have hext := mExtend_ok (L.map ti) ((extT p q a t).map ti) (by
    rw [List.length_map, List.length_map]
    have := extT_len h ha
    omega)
  unfold plIn
  have hsi : (p.length : Int) - ((q.length : Int) - a - 1) = stopI p q a := rfl
  simp only [bnd_at, rt_at, thn_ok, thn_ex, oRo_some, oMap_some, brn_t, brn_f, dName_at, slR_d, slR_a, slR_o, vl_d, vl_s, slV_d, slV_a, slV_o, dv_at, dEsc_at, esc_d, esc_s, escS_d, escS_o, dFz_at, dC_at, dNil_at, dCons_at, vNil_at, vCons_at, op2_at, op2r_at, op1_at, op1o_at, opN_at, opNo_at, vls_nil, vls_cons, cutR_at, oNone_at, oSome_at, dTup_at, dLst_at, dB_at, boolD_b, dNot_at, dAnd_at, dOr_at, dAndV_at, dOrV_at, dNotV_at, dSeq_at, dsq_nx, dsq_rt, dsq_bk, dsq_ct, dsq_ex, sNx_at, sBk_at, sCt_at, sExpr_at, sRet_at, sRetO_at, sRetN_at, sRetV_at, retS_d, retS_o, sSet_at, sSetO_at, sIf_at, ownV_o, msNil_at, msD_at, msO_at, msR_at, gRo_some, sPar_at, setRs_nil, setRs_d, setRs_o, callP_at, callK_at, argO_some, callM_at, outR_ret, outR_ex, argD_nil, argD_v, argD_p, argD_m, argD_vn, argD_vs, Option.some.injEq, Nat.reduceEqDiff, mIx_m, mIx_v, mIx_p, mIx_nil, putM_none, putM_some, putO_o, call1_at, rD_at, rtD_d, rtD_o, rO_at, rtO_o, sExprR_at, sRetR_at, sSetR_at, setS_d, setS_o, runF_at, outF_nx, outF_rt, mOut_some, muOf_nil, muOf_m, muOf_v, muOf_p, chk_some, sSub_at, subS0, subS1, mutS_some, mutP_some, dMut_at, mixR_at, dChain_at, dRep_at, intD_i, rg1_at, rg2_at, dLstRg_go, rgL_ok, dTupRg_go, rgT_ok, dTupRg3_go, rgT3_ok, rgO1_ok, rgO2_ok, rgO3_ok, sm0, sm1, dIndexT_at, seqS_d, seqS_a, seqS_o, seqD_l, seqD_t, itR_d, itR_s, iV_at, iO_at, iR1_go, iR2_go, iR3_go, iEnV_at, iEnO_at, iZip_at, zipR_at, dcL_at, sSwap_at, c2L_at, sUnp_at, unpR_2, sUnpL_at, unpRL_2, sMove_at, moveV_o, moveV_d, mvR_some, swapR_at, sFor_at, compL_at, fAdd_i, fSub_i, fLt_i, fLe_i, fGt_i, fGe_i, fDiv_33, fPow_64, fPow_33, fPow_18, fNeg_i, fLen_l, fLen_t, fInt_i, fTuple_l, fList_l, fMax_2, fMin_2, fIx_l0, fIx_l1, fIx_l2, fEq_i, start0, svs, svK, svA, List.length_cons, List.length_nil, List.replicate, List.append_nil, List.cons_append, List.nil_append, List.getElem?_cons_zero, List.getElem?_cons_succ, List.set_cons_zero, List.set_cons_succ, Bool.not_true, Bool.not_false, decide_true, decide_false, ne_eq, not_false_eq_true, Nat.reduceAdd, Nat.reduceSub, fMul_take, fMul_7919, fMul_31, Nat.reduceLT, Int.reduceLT, Int.reduceEq, fMod_i, fDiv_i, bdz_ok, setT_nm, fgt_nil, fgt_cons, wipG_nil, wipG_cons, sz1, sz2, sz3, sz4, sz5, Nat.zero_le, fIs_ii, fIs_ib, fIs_is, fIs_itl, fIs_tt, fIs_tl, fIs_ttl, fIs_lt, fIs_ll, fIs_ltl, fAll_b, fSum_i, fBack_t, fBackL_l, e8, e9, e10, List.length_map, hsi, s1, s2, hc, hext, List.map_append]
theorem pl_loop (p q : List Int) (a : Nat) (ha : a < q.length) (hp : p.length ≤ 900) (hq : q.length ≤ 900) (f : SV) (hB : ∀ b, b ≤ q.length → (Ls p q b).length ≤ 100000) :
    ∃ g', forG (.nm 7) [7, 8, 9, 10, 11] plIn ((Ls p q a).map ti) [.d (ti p), .d (ti q), f, .d (.int (a : Int)), .d (belD q a), .d (abvD q a), .own false [], .u, .u, .u, .u, .u, .u] = .ok .nx (fgt [7, 8, 9, 10, 11] g') ∧
      g' = [.d (ti p), .d (ti q), f, .d (.int (a : Int)), .d (belD q a), .d (abvD q a), .own false ((Ls p q (a + 1)).map ti), .u, .u, .u, .u, .u, .u] := by
  obtain ⟨g', e1, dn, rest, h1, h2, h3⟩ := forG_inv (t := .nm 7) (ms := [7, 8, 9, 10, 11]) (b := plIn) ((Ls p q a).map ti)
    (fun r g => ∃ (dn rest : List (List Int)), Ls p q a = dn ++ rest ∧ r = rest.map ti ∧ g = [.d (ti p), .d (ti q), f, .d (.int (a : Int)), .d (belD q a), .d (abvD q a), .own false ((dn.flatMap (extT p q a)).map ti), .u, .u, .u, .u, .u, .u])
    _ ⟨[], Ls p q a, rfl, rfl, rfl⟩ (by
      rintro x r g ⟨dn, rest, h1, h2, rfl⟩ _
      cases rest with
      | nil => cases h2
      | cons t rest =>
        injection h2 with hx hr
        subst hx
        have ht : t ∈ Ls p q a := by
          rw [h1]
          exact List.mem_append_right _ List.mem_cons_self
        have hpl := pl_Ls (show a ≤ q.length by omega) t ht
        have hL : (dn.flatMap (extT p q a)).length + p.length ≤ sizeLine := by
          have h5 : (dn.flatMap (extT p q a)).length ≤ (Ls p q (a + 1)).length := by
            show _ ≤ ((Ls p q a).flatMap (extT p q a)).length
            rw [h1, List.flatMap_append, List.length_append]
            exact Nat.le_add_right _ _
          have h6 := hB (a + 1) (by omega)
          rw [sizeLine_big]
          omega
        have hst := pl_in p q a t ha hp hq hpl f (dn.flatMap (extT p q a)) hL
        refine ⟨[.d (ti p), .d (ti q), f, .d (.int (a : Int)), .d (belD q a), .d (abvD q a), .own false ((dn.flatMap (extT p q a)).map ti), .d (ti t), .u, .u, .u, .u, .u], _, by simp! only [], .inl hst, dn ++ [t], rest, by rw [h1, List.append_assoc]; rfl, hr, ?_⟩
        rw [List.flatMap_append, List.flatMap_singleton]
        simp! only [])
  refine ⟨g', e1, ?_⟩
  have hr : rest = [] := List.map_eq_nil_iff.mp h2.symm
  subst hr
  rw [List.append_nil] at h1
  rw [h3, ← h1]
  rfl
/-- what found holds ahead of a turn -/
def foundS (L : List (List Int)) (_ : Nat) : SV := .own false (L.map ti)
abbrev plOut : M Fl := (dSeq (sSetO 6 (dLst dNil)) (dSeq (sFor (.nm 7) [7, 8, 9, 10, 11] (iV (dName 2)) plIn) (sMove 2 6)))
theorem placed_loop (p q : List Int) (hp : p.length ≤ 900) (hq : q.length ≤ 900) (hB : ∀ b, b ≤ q.length → (Ls p q b).length ≤ 100000) :
    ∃ g', forG (.tup [.nm 3, .tup [.nm 4, .nm 5]]) [3, 4, 5, 6, 7, 8, 9, 10, 11] plOut (enumD 0 (nbs q q.length)) [.d (ti p), .d (ti q), .own false [ti []], .u, .u, .u, .u, .u, .u, .u, .u, .u, .u] = .ok .nx (fgt [3, 4, 5, 6, 7, 8, 9, 10, 11] g') ∧
      g' = [.d (ti p), .d (ti q), foundS (Ls p q q.length) q.length, .u, .u, .u, .u, .u, .u, .u, .u, .u, .u] := by
  obtain ⟨g', e1, i, h1, h2, h3⟩ := forG_inv (t := .tup [.nm 3, .tup [.nm 4, .nm 5]]) (ms := [3, 4, 5, 6, 7, 8, 9, 10, 11]) (b := plOut) (enumD 0 (nbs q q.length))
    (fun r g => ∃ (i : Nat), r = enumD i ((nbs q q.length).drop i) ∧ i ≤ q.length ∧ g = [.d (ti p), .d (ti q), foundS (Ls p q i) i, .u, .u, .u, .u, .u, .u, .u, .u, .u, .u])
    _ ⟨0, rfl, Nat.zero_le _, rfl⟩ (by
      rintro x r g ⟨i, h1, h2, rfl⟩ _
      have hlt : i < q.length := by
        have := congrArg List.length h1
        rw [enumD_len, List.length_drop, nbs_len, List.length_cons] at this
        omega
      have hd : (nbs q q.length).drop i = nbD q i :: (nbs q q.length).drop (i + 1) := by
        rw [List.drop_eq_getElem_cons (by rw [nbs_len]; exact hlt)]
        simp [nbs]
      rw [hd, enumD_cons] at h1
      injection h1 with hx hr
      subst hx
      obtain ⟨f', hf'⟩ : ∃ f' : SV, ∀ tl : En, iV (dName 2) (SV.d (ti p) :: .d (ti q) :: foundS (Ls p q i) i :: tl) = .ok ((Ls p q i).map ti) (SV.d (ti p) :: .d (ti q) :: f' :: tl) := by
        cases i with
        | zero => exact ⟨.d (.list ((Ls p q 0).map ti)), fun tl => by simp! only [foundS]⟩
        | succ i => exact ⟨.d (.list ((Ls p q (i + 1)).map ti)), fun tl => by simp! only [foundS]⟩
      obtain ⟨g2, e2, e3⟩ := pl_loop p q i hlt hp hq f' hB
      refine ⟨[.d (ti p), .d (ti q), foundS (Ls p q i) i, .d (.int (i : Int)), .d (belD q i), .d (abvD q i), .u, .u, .u, .u, .u, .u, .u], [.d (ti p), .d (ti q), .own false ((Ls p q (i + 1)).map ti), .d (.int (i : Int)), .d (belD q i), .d (abvD q i), .u, .u, .u, .u, .u, .u, .u], ?_, .inl ?_, i + 1, hr, by omega, by simp! only [foundS]⟩
      · rw [setT_tup, setTs_cons _ _ _ _ _ _ (setT_nm _ _ _), setTs_cons (.tup [.nm 4, .nm 5]) [] (nbD q i) [] _ [.d (ti p), .d (ti q), foundS (Ls p q i) i, .d (.int (i : Int)), .d (belD q i), .d (abvD q i), .u, .u, .u, .u, .u, .u, .u] (by
          rw [nbD, setT_tup, setTs_cons _ _ _ _ _ _ (setT_nm _ _ _), setTs_cons _ _ _ _ _ _ (setT_nm _ _ _), setTs_nil]
          simp! only []), setTs_nil]
      · unfold plOut
        have hi : ∀ x, iV (dName 2) [SV.d (ti p), .d (ti q), foundS (Ls p q i) i, .d (.int (i : Int)), .d (belD q i), .d (abvD q i), .own false [], .u, .u, .u, .u, .u, x] = _ := fun x => hf' _
        rw [dSeq_at, show sSetO 6 (dLst dNil) [SV.d (ti p), .d (ti q), foundS (Ls p q i) i, .d (.int (i : Int)), .d (belD q i), .d (abvD q i), .u, .u, .u, .u, .u, .u, .u] = .ok .nx [SV.d (ti p), .d (ti q), foundS (Ls p q i) i, .d (.int (i : Int)), .d (belD q i), .d (abvD q i), .own false [], .u, .u, .u, .u, .u, .u] by simp! only [], dsq_nx, dSeq_at, sFor_at, hi, thn_ok, e2, e3]
        simp! only [])
  refine ⟨g', e1, ?_⟩
  have hi : i = q.length := by
    have := congrArg List.length h1
    rw [enumD_len, List.length_drop, nbs_len] at this
    simp at this
    omega
  subst hi
  exact h3
theorem placed_ok (p q : List Int) (hne : q ≠ []) (hp : p.length ≤ 900) (hq : q.length ≤ 900) (hB : ∀ b, b ≤ q.length → (Ls p q b).length ≤ 100000) : φ_placed [ti p, ti q] = .ret (.own ((Ls p q q.length).map ti)) [] := by
  obtain ⟨g', e1, e2⟩ := placed_loop p q hp hq hB
  have hk : foundS (Ls p q q.length) q.length = .own false ((Ls p q q.length).map ti) := rfl
  rw [hk] at e2
  have e3 : forG _ _ _ _ [SV.d (ti p), .d (ti q), .own false [.tuple []], .u, .u, .u, .u, .u, .u, .u, .u, .u, .u] = _ := e1
  unfold φ_placed m_placed
  simp! only [neighbours_ok q hq, e3, e2]

theorem like_t_ok (c : List Int) (h : c.length ≤ 900) : φ__law_like [ti c] = .ret (.d (ti (like c))) [] := by
  have hc := compB_one (i := 2) (enc := PyData.int) (f := fun y => .int (1 + ((c.filter fun x => decide (x < y)).length : Int))) (me := rD (op2r fAdd fCat (dv (dC (.int 1))) (dv (opN fLen (vCons (dv (dFz (compL [1] (.nm 1) (iV (dName 0)) (dB (op2 fLt (dName 1) (dName 2))) (dEsc (dName 1))))) vNil)))))
    (g := [.d (ti c), .u, .u]) c (by omega) rfl fun y hy => by
      have hi := compB_fil (i := 1) (enc := PyData.int) (f := fun x => .int x) (p := fun x => decide (x < y)) (mt := dB (op2 fLt (dName 1) (dName 2))) (me := dEsc (dName 1)) (g := [.d (ti c), .u, .d (.int y)]) c (by omega) rfl fun x hx => ⟨by simp! only [], fun _ => by simp! only []⟩
      simp! only [hi, List.length_map]
  have e : c.map (fun y => PyData.int (1 + ((c.filter fun x => decide (x < y)).length : Int))) = (like c).map .int := by
    unfold like
    rw [List.map_map]
    rfl
  rw [e] at hc
  unfold φ__law_like m__law_like
  simp! only [hc]

theorem fNe_i (i j : Int) : fNe (.int i) (.int j) = some (.bool (!decide (i = j))) := by
  rw [fNe_gd (gd_int 0 i) (gd_int 0 j) (by decide) (by decide)]
  show some (PyData.bool (!(i == j))) = _
  by_cases h : i = j <;> simp [h]
theorem fEq_ti (p q : List Int) : fEq (ti p) (ti q) = some (.bool (decide (p = q))) := by
  rw [fEq_gd (gd_ti 0 p) (gd_ti 0 q) (by decide) (by decide)]
  show some (PyData.bool (PyData.eqvAll _ _)) = _
  rw [eqvAll_ints]
/-! ### numbers made small -/
theorem rank_dict (c : List Int) (nd : c.Nodup) (hc : c.length ≤ 900) (f : SV) :
    dcB [2, 3] (.tup [.nm 2, .nm 3]) (rt true) (dEsc (dName 3)) (rD (op2r fAdd fCat (dName 2) (dv (dC (.int 1))))) (enumD 0 ((srt c).map .int)) [f, .u, .u, .u] = .ok (.dict ((irange 0 (srt c).length).map fun i => (.int ((srt c).getD i.toNat 0), .int (i + 1)))) [f, .u, .u, .u] := by
  have hl := srt_len c
  rw [enumD_irange]
  have h := dcB_ok (vs := [2, 3]) (t := .tup [.nm 2, .nm 3]) (mt := rt true) (mk := dEsc (dName 3)) (mv := rD (op2r fAdd fCat (dName 2) (dv (dC (.int 1))))) (enc := fun i : Int => .tuple [.int i, .int ((srt c).getD i.toNat 0)]) (fv := fun i => .int (i + 1)) (fk := fun i => .inl ((srt c).getD i.toNat 0)) (g := [f, .u, .u, .u]) (irange 0 (srt c).length) (by rw [irange_len]; exact sz_le (by omega)) rfl fun i hi => by
    refine ⟨[f, .u, .d (.int i), .d (.int ((srt c).getD i.toNat 0))], ?_, by simp! only [], by simp! only []; rfl, by simp! only [], by simp! only []⟩
    rw [setT_tup, setTs_cons _ _ _ _ _ _ (setT_nm _ _ _), setTs_cons _ _ _ _ _ _ (setT_nm _ _ _), setTs_nil]
    simp! only []
  rw [h, fold_fresh]
  · rfl
  · refine (irange_sorted 0 _).imp_of_mem fun {i j} hi hj hij e => ?_
    have hi' := irange_mem.mp hi
    have hj' := irange_mem.mp hj
    have := at0_inj (q := srt c) ((srt_perm c).nodup_iff.mpr nd) (i := i.toNat) (j := j.toNat) (by omega) (by omega) (Sum.inl.inj e)
    omega
  · exact fun _ _ p hp => absurd hp List.not_mem_nil
theorem rank_find (c : List Int) (nd : c.Nodup) {x : Int} (hx : x ∈ c) : fIx (.dict ((irange 0 (srt c).length).map fun i => (.int ((srt c).getD i.toNat 0), .int (i + 1)))) (.int x) = some (.int (1 + ((c.filter fun y => decide (y < x)).length : Int))) := by
  obtain ⟨i, hi, e⟩ := mem_at0 ((srt_perm c).mem_iff.mpr hx)
  have h := dfind_map (fk := fun i : Int => (.inl ((srt c).getD i.toNat 0) : Key)) (fv := fun i => .int (i + 1)) (irange 0 (srt c).length) (i : Int) (irange_mem.mpr ⟨by omega, by omega⟩) fun j hj ej => by
    have hj' := irange_mem.mp hj
    have := at0_inj (q := srt c) ((srt_perm c).nodup_iff.mpr nd) (i := j.toNat) (j := ((i : Int)).toNat) (by omega) (by omega) (Sum.inl.inj ej)
    omega
  have e2 : (srt c).getD ((i : Int)).toNat 0 = x := by rw [Int.toNat_natCast]; exact e
  have h' : dfind ((irange 0 (srt c).length).map fun i => (PyData.int ((srt c).getD i.toNat 0), PyData.int (i + 1))) (.inl ((srt c).getD ((i : Int)).toNat 0)) = some (.int ((i : Int) + 1)) := h
  rw [e2] at h'
  have hr := rank_like nd hi
  rw [show (srt c).getD i 0 = x from e] at hr
  rw [← hr]
  exact h'
theorem compared_ok (c : List Int) (nd : c.Nodup) (hc : c.length ≤ 900) : φ_compared [ti c] = .ret (.d (ti (like c))) [] := by
  have h1 := fSorted_t _ (okSort_ints c (by omega))
  have h2 := srt_ints c
  have h3 := rank_dict c nd hc (.d (ti c))
  have h4 := compB_one (i := 3) (enc := PyData.int) (f := fun x => .int (1 + ((c.filter fun y => decide (y < x)).length : Int))) (me := op2 fIx (dName 1) (dName 3)) (g := [.d (ti c), .d (.dict ((irange 0 (srt c).length).map fun i => (.int ((srt c).getD i.toNat 0), .int (i + 1)))), .u, .u]) c (by omega) rfl fun x hx => by
    have := rank_find c nd hx
    simp! only [this]
  have e : c.map (fun x => PyData.int (1 + ((c.filter fun y => decide (y < x)).length : Int))) = (like c).map .int := by
    unfold like
    rw [List.map_map]
    rfl
  rw [e] at h4
  unfold φ_compared m_compared
  simp! only [h1, h2, h3, h4]
/-! ### places, gone through -/
abbrev pkIn : M Fl := (dSeq (sSet 6 (dIfE (dB (op2 fNe (dName 5) (dv (dTup dNil)))) (rD (op2r fAdd fCat (dv (op2 fIx (dName 5) (dv (op1 fNeg (dv (dC (.int 1))))))) (dv (dC (.int 1))))) (dC (.int 0))))
    (sExpr (dMut 4 mExtend (compL [7] (.nm 7) (iR2 (vCons (dName 6) (vCons (dv (rD (op2r fAdd fCat (dv (rD (op2r fAdd fCat (dv (op2 fSub (dName 0) (dName 1))) (dName 3)))) (dv (dC (.int 1)))))) vNil))) (rt true) (rD (op2r fAdd fCat (dName 5) (dv (dTup (dCons (dEsc (dName 7)) dNil)))))))))
abbrev pkOut : M Fl := (dSeq (sSetO 4 (dLst dNil))
    (dSeq (sFor (.nm 5) [5, 6] (iV (dName 2)) pkIn)
    (sMove 2 4)))
theorem pk_in (n k a : Nat) (t : List Int) (ha : a < k) (hn : n ≤ 900) (hk : k ≤ 900) (ht : t ∈ Ls (irange 1 n) (irange 1 k) a) (f : SV) (L : List (List Int)) (hL : L.length + n ≤ sizeLine) :
    pkIn [.d (.int (n : Int)), .d (.int (k : Int)), f, .d (.int (a : Int)), .own false (L.map ti), .d (ti t), .u, .u] =
      .ok .nx [.d (.int (n : Int)), .d (.int (k : Int)), f, .d (.int (a : Int)), .own false ((L ++ extT (irange 1 n) (irange 1 k) a t).map ti), .d (ti t), .d (.int (startI t)), .u] := by
  have ln : (irange 1 n).length = n := irange_len _ _
  have lk : (irange 1 k).length = k := irange_len _ _
  have h : Pl (irange 1 n) a t := pl_Ls (by rw [lk]; omega) t ht
  have hst := startI_bd h
  rw [ln] at hst
  have hsp : stopI (irange 1 n) (irange 1 k) a = (n : Int) - k + a + 1 := by
    unfold stopI
    rw [ln, lk]
    omega
  have s1 : Sm (startI t) := ⟨by omega, by omega⟩
  have s2 : Sm ((n : Int) - k + a + 1) := ⟨by omega, by omega⟩
  have e10 : ∀ g : En, g[5]? = some (.d (ti t)) → dIfE (dB (op2 fNe (dName 5) (dv (dTup dNil)))) (rD (op2r fAdd fCat (dv (op2 fIx (dName 5) (dv (op1 fNeg (dv (dC (.int 1))))))) (dv (dC (.int 1))))) (dC (.int 0)) g = .ok (.int (startI t)) g := by
    intro g g7
    have hne : fNe (.tuple (t.map .int)) (.tuple []) = some (.bool (!decide (t = []))) := fNe_ti t []
    rcases List.eq_nil_or_concat t with rfl | ⟨t', x, rfl⟩
    · simp! only [g7, hne]
      rfl
    · rw [List.concat_eq_append] at *
      have hz : ¬ (t' ++ [x] = []) := by simp
      have hl : fIx (.tuple ((t' ++ [x]).map .int)) (.int (-1)) = some (.int x) := by
        rw [List.map_append]
        exact fIx_last
      have hs : startI (t' ++ [x]) = x + 1 := by
        unfold startI
        rw [List.getLast?_concat]
      rw [hs]
      simp! only [g7, hne, hz, hl]
  have hlen : ((n : Int) - k + a + 1 - startI t).toNat ≤ n := by omega
  have hc := compB_one (i := 7) (enc := PyData.int) (f := fun x => ti (t ++ [x])) (me := rD (op2r fAdd fCat (dName 5) (dv (dTup (dCons (dEsc (dName 7)) dNil)))))
    (g := [.d (.int (n : Int)), .d (.int (k : Int)), f, .d (.int (a : Int)), .own false (L.map ti), .d (ti t), .d (.int (startI t)), .u]) (irange (startI t) ((n : Int) - k + a + 1 - startI t).toNat) (by rw [irange_len]; omega) (by cases f <;> rfl) fun x hx => by
      have hadd := fAdd_tt (t.map .int) [.int x] (by rw [List.length_map, h.len, List.length_singleton]; omega)
      have ht : ti (t ++ [x]) = .tuple (t.map .int ++ [.int x]) := by rw [ti, List.map_append]; rfl
      rw [ht]
      simp! only [hadd]
  have hmap : (irange (startI t) ((n : Int) - k + a + 1 - startI t).toNat).map (fun x => ti (t ++ [x])) = (extT (irange 1 n) (irange 1 k) a t).map ti := by
    rw [extT_ir ha ht, hsp, List.map_map]
    rfl
  rw [hmap] at hc
  have hext := mExtend_ok (L.map ti) ((extT (irange 1 n) (irange 1 k) a t).map ti) (by
    rw [List.length_map, List.length_map]
    have := extT_len h (by rw [lk]; exact ha)
    rw [ln] at this
    omega)
  unfold pkIn
  simp only [bnd_at, rt_at, thn_ok, thn_ex, oRo_some, oMap_some, brn_t, brn_f, dName_at, slR_d, slR_a, slR_o, vl_d, vl_s, slV_d, slV_a, slV_o, dv_at, dEsc_at, esc_d, esc_s, escS_d, escS_o, dFz_at, dC_at, dNil_at, dCons_at, vNil_at, vCons_at, op2_at, op2r_at, op1_at, op1o_at, opN_at, opNo_at, vls_nil, vls_cons, cutR_at, oNone_at, oSome_at, dTup_at, dLst_at, dB_at, boolD_b, dNot_at, dAnd_at, dOr_at, dAndV_at, dOrV_at, dNotV_at, dSeq_at, dsq_nx, dsq_rt, dsq_bk, dsq_ct, dsq_ex, sNx_at, sBk_at, sCt_at, sExpr_at, sRet_at, sRetO_at, sRetN_at, sRetV_at, retS_d, retS_o, sSet_at, sSetO_at, sIf_at, ownV_o, msNil_at, msD_at, msO_at, msR_at, gRo_some, sPar_at, setRs_nil, setRs_d, setRs_o, callP_at, callK_at, argO_some, callM_at, outR_ret, outR_ex, argD_nil, argD_v, argD_p, argD_m, argD_vn, argD_vs, Option.some.injEq, Nat.reduceEqDiff, mIx_m, mIx_v, mIx_p, mIx_nil, putM_none, putM_some, putO_o, call1_at, rD_at, rtD_d, rtD_o, rO_at, rtO_o, sExprR_at, sRetR_at, sSetR_at, setS_d, setS_o, runF_at, outF_nx, outF_rt, mOut_some, muOf_nil, muOf_m, muOf_v, muOf_p, chk_some, sSub_at, subS0, subS1, mutS_some, mutP_some, dMut_at, mixR_at, dChain_at, dRep_at, intD_i, rg1_at, rg2_at, dLstRg_go, rgL_ok, dTupRg_go, rgT_ok, dTupRg3_go, rgT3_ok, rgO1_ok, rgO2_ok, rgO3_ok, sm0, sm1, dIndexT_at, seqS_d, seqS_a, seqS_o, seqD_l, seqD_t, itR_d, itR_s, iV_at, iO_at, iR1_go, iR2_go, iR3_go, iEnV_at, iEnO_at, iZip_at, zipR_at, dcL_at, sSwap_at, c2L_at, sUnp_at, unpR_2, sUnpL_at, unpRL_2, sMove_at, moveV_o, moveV_d, mvR_some, swapR_at, sFor_at, compL_at, fAdd_i, fSub_i, fLt_i, fLe_i, fGt_i, fGe_i, fDiv_33, fPow_64, fPow_33, fPow_18, fNeg_i, fLen_l, fLen_t, fInt_i, fTuple_l, fList_l, fMax_2, fMin_2, fIx_l0, fIx_l1, fIx_l2, fEq_i, start0, svs, svK, svA, List.length_cons, List.length_nil, List.replicate, List.append_nil, List.cons_append, List.nil_append, List.getElem?_cons_zero, List.getElem?_cons_succ, List.set_cons_zero, List.set_cons_succ, Bool.not_true, Bool.not_false, decide_true, decide_false, ne_eq, not_false_eq_true, Nat.reduceAdd, Nat.reduceSub, fMul_take, fMul_7919, fMul_31, Nat.reduceLT, Int.reduceLT, Int.reduceEq, fMod_i, fDiv_i, bdz_ok, setT_nm, fgt_nil, fgt_cons, wipG_nil, wipG_cons, sz1, sz2, sz3, sz4, sz5, Nat.zero_le, fIs_ii, fIs_ib, fIs_is, fIs_itl, fIs_tt, fIs_tl, fIs_ttl, fIs_lt, fIs_ll, fIs_ltl, fAll_b, fSum_i, fBack_t, fBackL_l, e10, s1, s2, hc, hext, List.map_append]
theorem pk_loop (n k a : Nat) (ha : a < k) (hn : n ≤ 12) (hk : k ≤ 900) (f : SV) :
    forG (.nm 5) [5, 6] pkIn ((Ls (irange 1 n) (irange 1 k) a).map ti) [.d (.int (n : Int)), .d (.int (k : Int)), f, .d (.int (a : Int)), .own false [], .u, .u, .u] = .ok .nx [.d (.int (n : Int)), .d (.int (k : Int)), f, .d (.int (a : Int)), .own false ((Ls (irange 1 n) (irange 1 k) (a + 1)).map ti), .u, .u, .u] := by
  obtain ⟨g', e1, dn, rest, h1, h2, h3⟩ := forG_inv (t := .nm 5) (ms := [5, 6]) (b := pkIn) ((Ls (irange 1 n) (irange 1 k) a).map ti)
    (fun r g => ∃ (dn rest : List (List Int)), Ls (irange 1 n) (irange 1 k) a = dn ++ rest ∧ r = rest.map ti ∧ g = [.d (.int (n : Int)), .d (.int (k : Int)), f, .d (.int (a : Int)), .own false ((dn.flatMap (extT (irange 1 n) (irange 1 k) a)).map ti), .u, .u, .u])
    [.d (.int (n : Int)), .d (.int (k : Int)), f, .d (.int (a : Int)), .own false [], .u, .u, .u] ⟨[], Ls (irange 1 n) (irange 1 k) a, rfl, rfl, rfl⟩ (by
      rintro x r g ⟨dn, rest, h1, h2, rfl⟩ _
      cases rest with
      | nil => cases h2
      | cons t rest =>
        injection h2 with hx hr
        subst hx
        have ht : t ∈ Ls (irange 1 n) (irange 1 k) a := by
          rw [h1]
          exact List.mem_append_right _ List.mem_cons_self
        have hL : (dn.flatMap (extT (irange 1 n) (irange 1 k) a)).length + n ≤ sizeLine := by
          have h5 : (dn.flatMap (extT (irange 1 n) (irange 1 k) a)).length ≤ (Ls (irange 1 n) (irange 1 k) (a + 1)).length := by
            show _ ≤ ((Ls (irange 1 n) (irange 1 k) a).flatMap (extT (irange 1 n) (irange 1 k) a)).length
            rw [h1, List.flatMap_append, List.length_append]
            exact Nat.le_add_right _ _
          have h6 := Ls_two (p := irange 1 n) (q := irange 1 k) (a := a + 1) (by rw [irange_len]; omega)
          rw [irange_len] at h6
          have h7 : 2 ^ n ≤ 2 ^ 12 := Nat.pow_le_pow_right (by omega) hn
          rw [sizeLine_big]
          omega
        have hst := pk_in n k a t ha (by omega) hk ht f (dn.flatMap (extT (irange 1 n) (irange 1 k) a)) hL
        refine ⟨_, _, setT_nm _ _ _, .inl hst, dn ++ [t], rest, by rw [h1, List.append_assoc]; rfl, hr, ?_⟩
        rw [List.flatMap_append, List.flatMap_singleton]
        simp! only [])
  have hr : rest = [] := List.map_eq_nil_iff.mp h2.symm
  subst hr
  rw [List.append_nil] at h1
  rw [e1, h3, ← h1]
  show _ = Ro.ok Fl.nx [_, _, f, _, .own false (((Ls (irange 1 n) (irange 1 k) a).flatMap (extT (irange 1 n) (irange 1 k) a)).map ti), .u, .u, .u]
  simp! only []
theorem picks_ok (n k : Nat) (hn : n ≤ 12) (hk : k ≤ 900) : φ__law_picks [.int (n : Int), .int (k : Int)] = .ret (.own ((PL (irange 1 n) (irange 1 k)).map ti)) [] := by
  obtain ⟨g', e1, i, h1, h2, h3⟩ := forG_inv (t := .nm 3) (ms := [3, 4, 5, 6]) (b := pkOut) ((irange 0 k).map .int)
    (fun r g => ∃ i : Nat, r = (irange i (k - i)).map .int ∧ i ≤ k ∧ g = [.d (.int (n : Int)), .d (.int (k : Int)), foundS (Ls (irange 1 n) (irange 1 k) i) i, .u, .u, .u, .u, .u])
    [.d (.int (n : Int)), .d (.int (k : Int)), .own false [ti []], .u, .u, .u, .u, .u] ⟨0, rfl, Nat.zero_le _, rfl⟩ (by
      rintro x r g ⟨i, h1, h2, rfl⟩ _
      have hlt : i < k := by
        have := congrArg List.length h1
        rw [List.length_map, irange_len, List.length_cons] at this
        omega
      rw [show k - i = (k - i - 1) + 1 by omega, irange_succ, List.map_cons] at h1
      injection h1 with hx hr
      subst hx
      obtain ⟨f', hf'⟩ : ∃ f' : SV, ∀ tl : En, iV (dName 2) (SV.d (.int (n : Int)) :: .d (.int (k : Int)) :: foundS (Ls (irange 1 n) (irange 1 k) i) i :: tl) = .ok ((Ls (irange 1 n) (irange 1 k) i).map ti) (SV.d (.int (n : Int)) :: .d (.int (k : Int)) :: f' :: tl) := by
        cases i with
        | zero => exact ⟨.d (.list ((Ls (irange 1 n) (irange 1 k) 0).map ti)), fun tl => by simp! only [foundS]⟩
        | succ i => exact ⟨.d (.list ((Ls (irange 1 n) (irange 1 k) (i + 1)).map ti)), fun tl => by simp! only [foundS]⟩
      have hl := pk_loop n k i hlt hn hk f'
      refine ⟨_, [.d (.int (n : Int)), .d (.int (k : Int)), .own false ((Ls (irange 1 n) (irange 1 k) (i + 1)).map ti), .d (.int (i : Int)), .u, .u, .u, .u], setT_nm _ _ _, .inl ?_, i + 1, ?_, by omega, by simp! only [foundS]⟩
      · unfold pkOut
        have hi : ∀ x, iV (dName 2) [SV.d (.int (n : Int)), .d (.int (k : Int)), foundS (Ls (irange 1 n) (irange 1 k) i) i, .d (.int (i : Int)), .own false [], .u, .u, x] = _ := fun x => hf' _
        rw [dSeq_at, show sSetO 4 (dLst dNil) (List.set [SV.d (.int (n : Int)), .d (.int (k : Int)), foundS (Ls (irange 1 n) (irange 1 k) i) i, .u, .u, .u, .u, .u] 3 (.d (.int (i : Int)))) = .ok .nx [SV.d (.int (n : Int)), .d (.int (k : Int)), foundS (Ls (irange 1 n) (irange 1 k) i) i, .d (.int (i : Int)), .own false [], .u, .u, .u] by simp! only [], dsq_nx, dSeq_at, sFor_at, hi, thn_ok, hl]
        simp! only []
      · rw [hr]
        congr 2)
  have hi : i = k := by
    have := congrArg List.length h1
    rw [List.length_map, irange_len, List.length_nil] at this
    omega
  subst hi
  have s1 : Sm (i : Int) := ⟨by omega, by omega⟩
  have hf : foundS (Ls (irange 1 n) (irange 1 i) i) i = .own false ((PL (irange 1 n) (irange 1 i)).map ti) := by
    unfold PL
    rw [irange_len]
    rfl
  rw [hf] at h3
  have e2 : forG (.nm 3) [3, 4, 5, 6] pkOut ((irange 0 i).map .int) [.d (.int (n : Int)), .d (.int (i : Int)), .own false [.tuple []], .u, .u, .u, .u, .u] = _ := e1
  unfold φ__law_picks m__law_picks
  simp! only [s1, Int.toNat_natCast, e2, h3]

theorem pick10 (r s : Rs) : pick [1, 0] [r, s] = [s, r] := Eq.trans rfl rfl
theorem pick0 (r : Rs) : pick [0] [r] = [r] := Eq.trans rfl rfl
theorem gd_tis (n : Nat) (L : List (List Int)) : Gd (n + 2) (.list (L.map ti)) := gd_list fun x hx => by
  obtain ⟨c, _, rfl⟩ := List.mem_map.mp hx
  exact gd_ti n c
theorem fNe_tis (L : List (List Int)) : fNe (.list (L.map ti)) (.list []) = some (.bool (!decide (L = []))) := by
  rw [fNe_gd (n := 2) (m := 1) (gd_tis 0 L) (gd_list (xs := []) fun x hx => absurd hx List.not_mem_nil) (by decide) (by decide)]
  cases L with
  | nil => rfl
  | cons x L => rfl
theorem hB12 (p q : List Int) (hp : p.length ≤ 12) : ∀ b, b ≤ q.length → (Ls p q b).length ≤ 100000 := fun b hb => Nat.le_trans (Ls_two hb) (Nat.le_trans (Nat.pow_le_pow_right (by omega) hp) (by decide))
theorem shows_ok (p q : List Int) (ip : IsOrd p) (iq : IsOrd q) (hne : q ≠ []) (hp : p.length ≤ 12) (hq : q.length ≤ 12) : φ_shows [ti p, ti q] = .ret (.d (.bool (!decide (PL p q = [])))) [] := by
  have h1 := placed_ok p q hne (by omega) (by omega) (hB12 p q hp)
  have h2 := fNe_tis (Ls p q q.length)
  have g1 : φ_is_shown [ti p, ti q] = .ret (.d (.bool (!decide (PL p q = [])))) [] := by
    unfold φ_is_shown m_is_shown
    by_cases hl : q.length ≤ p.length
    · have h4 : decide ((q.length : Int) ≤ (p.length : Int)) = true := decide_eq_true (by omega)
      simp! only [List.length_map, h4, h1, h2]
      rfl
    · have h4 : decide ((q.length : Int) ≤ (p.length : Int)) = false := decide_eq_false (by omega)
      rw [PL_long ip iq (by omega)]
      simp! only [List.length_map, h4]
  unfold φ_shows m_shows
  simp! only [check_order_ok p ip (by omega), check_pattern_ok q iq (by omega) hne, g1]
theorem sh_ti (n : Nat) (p : List Int) (h : p.length ≤ 100000) : Sh (n + 1) (ti p) := .tup (by rw [List.length_map]; exact h) fun x hx => by
  obtain ⟨i, _, rfl⟩ := List.mem_map.mp hx
  exact .int n i
theorem sh_tis (n : Nat) (L : List (List Int)) (h : L.length ≤ 100000) (k : ∀ t ∈ L, t.length ≤ 100000) : Sh (n + 2) (.list (L.map ti)) := .lst (by rw [List.length_map]; exact h) fun x hx => by
  obtain ⟨t, ht, rfl⟩ := List.mem_map.mp hx
  exact sh_ti n t (k t ht)
theorem sh_two {n : Nat} {a : D} (ha : Sh n a) : Sh (n + 1) (.list [a, a]) := .lst (by simp) fun x hx => by
  simp only [List.mem_cons, List.not_mem_nil, or_false, or_self] at hx
  rw [hx]
  exact ha
theorem mReverse_ok (xs : List D) : mReverse xs [] = some (xs.reverse, .none) := Eq.trans rfl rfl
/-! ### little patterns -/
theorem fSorted_srt (c : List Int) (h : c.length ≤ 900) : fSorted [ti c] = some ((srt c).map .int) := by
  rw [← srt_ints]
  exact fSorted_t _ (okSort_ints c (by omega))
theorem fIx_li {c : List Int} {x : Int} (h0 : 0 ≤ x) (h1 : x < c.length) : fIx (.list (c.map .int)) (.int x) = some (.int (c.getD x.toNat 0)) := by
  have := fIx_l (xs := c.map PyData.int) (i := x.toNat) (x := .int (c.getD x.toNat 0)) (by rw [List.getElem?_map, getD_get (by omega)]; rfl)
  rw [show ((x.toNat : Nat) : Int) = x by omega] at this
  exact this

/-! ### keys put into a dict, one after another -/
def putL (ds : List (List Int × PyData)) (L : List (List Int)) : List (List Int × PyData) := L.foldl (fun ds k => dkPut ds k (.bool true)) ds
theorem put_keys (ds : List (List Int × PyData)) (k : List Int) (d : PyData) : (dkPut ds k d).map (·.1) = if k ∈ ds.map (·.1) then ds.map (·.1) else ds.map (·.1) ++ [k] := by
  have e : (ds.any fun p => decide (p.1 = k)) = true ↔ k ∈ ds.map (·.1) := by
    rw [List.any_eq_true, List.mem_map]
    exact ⟨fun ⟨p, hp, h⟩ => ⟨p, hp, of_decide_eq_true h⟩, fun ⟨p, hp, h⟩ => ⟨p, hp, decide_eq_true h⟩⟩
  unfold dkPut
  by_cases c : k ∈ ds.map (·.1)
  · rw [if_pos (e.mpr c), if_pos c, List.map_map]
    refine List.map_congr_left fun p _ => ?_
    show (if p.1 = k then (p.1, d) else p).1 = p.1
    split <;> rfl
  · rw [if_neg fun z => c (e.mp z), if_neg c, List.map_append]
    rfl
theorem putL_keys : ∀ (L : List (List Int)) (ds : List (List Int × PyData)), (ds.map (·.1)).Nodup → ((putL ds L).map (·.1)).Nodup ∧ (∀ t, t ∈ (putL ds L).map (·.1) ↔ t ∈ ds.map (·.1) ∨ t ∈ L) ∧ (putL ds L).length ≤ ds.length + L.length
  | [], ds, h => ⟨h, fun t => by simp [putL], Nat.le_refl _⟩
  | k :: L, ds, h => by
    have e := put_keys ds k (.bool true)
    have nd : ((dkPut ds k (.bool true)).map (·.1)).Nodup := by
      rw [e]
      split
      · exact h
      · rename_i c
        rw [List.nodup_append]
        exact ⟨h, by simp, fun x hx y hy z => c (by rw [← List.mem_singleton.mp hy, ← z]; exact hx)⟩
    have ln : (dkPut ds k (.bool true)).length ≤ ds.length + 1 := by
      have := congrArg List.length e
      rw [List.length_map] at this
      rw [this]
      split
      · rw [List.length_map]; omega
      · rw [List.length_append, List.length_map]; exact Nat.le_refl _
    obtain ⟨a, b, c⟩ := putL_keys L (dkPut ds k (.bool true)) nd
    refine ⟨a, fun t => ?_, by
      show (putL (dkPut ds k (.bool true)) L).length ≤ _
      rw [List.length_cons]; omega⟩
    show t ∈ (putL (dkPut ds k (.bool true)) L).map (·.1) ↔ _
    rw [b, e, List.mem_cons]
    split
    · rename_i c
      constructor
      · rintro (h | h)
        · exact .inl h
        · exact .inr (.inr h)
      · rintro (h | rfl | h)
        · exact .inl h
        · exact .inl c
        · exact .inr h
    · rw [List.mem_append, List.mem_singleton, or_assoc]
theorem keyT_ti (ds : List (List Int × PyData)) : ds.map keyT = (ds.map (·.1)).map ti := by
  rw [List.map_map]
  rfl
/-- the keys in order -/
theorem put_sort {L : List (List Int)} {n : Nat} (h : ∀ q ∈ L, q.length = n) (hl : L.length ≤ 100000) : okDk (putL [] L) = true ∧ sortD ((putL [] L).map keyT) = (srtP L).map ti := by
  obtain ⟨nd, mem, ln⟩ := putL_keys L [] .nil
  have mem : ∀ t, t ∈ (putL [] L).map (·.1) ↔ t ∈ L := fun t => by rw [mem]; simp
  have asc : (srtP L).Pairwise (· < ·) := by
    refine List.Pairwise.imp_of_mem (R := slt) (fun {a b} ha hb s => ?_) (srtP_srt L)
    rcases s with s | s
    · rw [h a (srtP_mem.mp ha), h b (srtP_mem.mp hb)] at s
      exact absurd s (Nat.lt_irrefl _)
    · exact s.2
  refine ⟨?_, by rw [keyT_ti]; exact sortD_ti asc nd fun t => by rw [mem, srtP_mem]⟩
  unfold okDk
  rw [Bool.or_eq_true, decide_eq_true_eq]
  cases n with
  | succ n =>
    rw [keyT_ti]
    exact .inl <| okSort_ti (by rw [List.length_map]; rw [List.length_nil] at ln; omega) fun t ht => by
      have := h t ((mem t).mp ht)
      intro z
      rw [z] at this
      cases this
  | zero =>
    have all : ∀ t ∈ (putL [] L).map (·.1), t = [] := fun t ht => List.length_eq_zero_iff.mp (h t ((mem t).mp ht))
    rw [keyT_ti]
    generalize (putL [] L).map (·.1) = K at *
    match K, nd, all with
    | [], _, _ => exact .inl (okSort_ti (l := []) (by simp) fun _ h => nomatch h)
    | [a], _, q => rw [q a (by simp)]; exact .inr rfl
    | a :: b :: K, nd, q =>
      have e1 := q a (by simp)
      have e2 := q b (by simp)
      subst e1 e2
      rw [List.nodup_cons] at nd
      exact absurd List.mem_cons_self nd.1
/-! ### rows of places, and of things -/
theorem cmbs_asc : ∀ (n k : Nat) (a : Int) (t : List Int), t ∈ Zc.cmbs n (irange a k) ↔ t.length = n ∧ (∀ x ∈ t, a ≤ x ∧ x < a + k) ∧ t.Pairwise (· < ·)
  | 0, k, a, t => by
    unfold Zc.cmbs
    rw [List.mem_singleton]
    constructor
    · rintro rfl
      exact ⟨rfl, fun _ h => (nomatch h), .nil⟩
    · exact fun h => List.length_eq_zero_iff.mp h.1
  | n + 1, 0, a, t => by
    rw [show irange a 0 = [] from rfl]
    unfold Zc.cmbs
    constructor
    · exact fun h => nomatch h
    · rintro ⟨h1, h2, _⟩
      cases t with
      | nil => cases h1
      | cons x t =>
        have := h2 x List.mem_cons_self
        omega
  | n + 1, k + 1, a, t => by
    rw [irange_succ]
    unfold Zc.cmbs
    rw [List.mem_append, List.mem_map, cmbs_asc (n + 1) k (a + 1) t]
    constructor
    · rintro (⟨u, hu, rfl⟩ | ⟨h1, h2, h3⟩)
      · obtain ⟨h1, h2, h3⟩ := (cmbs_asc n k (a + 1) u).mp hu
        refine ⟨by rw [List.length_cons, h1], fun x hx => ?_, List.pairwise_cons.mpr ⟨fun x hx => by have := h2 x hx; omega, h3⟩⟩
        rcases List.mem_cons.mp hx with rfl | hx
        · omega
        · have := h2 x hx
          omega
      · exact ⟨h1, fun x hx => by have := h2 x hx; omega, h3⟩
    · rintro ⟨h1, h2, h3⟩
      cases t with
      | nil => cases h1
      | cons x u =>
        obtain ⟨p1, p2⟩ := List.pairwise_cons.mp h3
        by_cases c : x = a
        · subst c
          exact .inl ⟨u, (cmbs_asc n k (x + 1) u).mpr ⟨by rw [List.length_cons] at h1; omega, fun y hy => by have := h2 y (List.mem_cons_of_mem _ hy); have := p1 y hy; omega, p2⟩, rfl⟩
        · refine .inr ⟨h1, fun y hy => ?_, h3⟩
          have hx := h2 x List.mem_cons_self
          rcases List.mem_cons.mp hy with rfl | hy
          · omega
          · have := h2 y (List.mem_cons_of_mem _ hy)
            have := p1 y hy
            omega
theorem cmbs_len {α : Type} : ∀ (n : Nat) (l : List α), (Zc.cmbs n l).length ≤ 2 ^ l.length
  | 0, l => by unfold Zc.cmbs; exact Nat.one_le_two_pow
  | n + 1, [] => by unfold Zc.cmbs; exact Nat.zero_le _
  | n + 1, x :: l => by
    unfold Zc.cmbs
    have h1 := cmbs_len n l
    have h2 := cmbs_len (n + 1) l
    rw [List.length_append, List.length_map, List.length_cons, Nat.pow_succ]
    omega
def rowP (p : List Int) (t : List Int) : List Int := t.map (pAt p)
theorem p_irange (p : List Int) : p = (irange 0 p.length).map (pAt p) := List.ext_getElem? fun i => by
  rw [List.getElem?_map]
  by_cases h : i < p.length
  · rw [irange_get _ _ _ h, List.getElem?_eq_getElem h]
    show some p[i] = some (p.getD (0 + (i : Int)).toNat 0)
    rw [show (0 + (i : Int)).toNat = i by omega, List.getD_eq_getElem?_getD, List.getElem?_eq_getElem h]
    rfl
  · rw [List.getElem?_eq_none (by omega), List.getElem?_eq_none (by rw [irange_len]; omega)]
    rfl
theorem cmbs_rows (p : List Int) (n : Nat) : Zc.cmbs n p = (Zc.cmbs n (irange 0 p.length)).map (rowP p) := by
  rw [show (rowP p) = List.map (pAt p) from rfl, ← Zc.cmbs_map, ← p_irange]
theorem cmbD_ti (p : List Int) (n : Nat) : cmbD n (p.map PyData.int) = (Zc.cmbs n p).map ti := by
  have e : p = (List.range p.length).map fun i => p.getD i 0 := List.ext_getElem? fun i => by
    rw [List.getElem?_map]
    by_cases h : i < p.length
    · rw [List.getElem?_range h, List.getElem?_eq_getElem h, Option.map_some, List.getD_eq_getElem?_getD, List.getElem?_eq_getElem h]
      rfl
    · rw [List.getElem?_eq_none (by omega), List.getElem?_eq_none (by rw [List.length_range]; omega)]
      rfl
  have e2 : Zc.cmbs n p = (Zc.cmbs n (List.range p.length)).map (List.map fun i => p.getD i 0) := by rw [← Zc.cmbs_map, ← e]
  unfold cmbD
  rw [e2, List.length_map, List.map_map]
  refine List.map_congr_left fun ind hi => ?_
  have hm := (Zc.cmbs_mem _ _ ind hi).2
  show PyData.tuple _ = PyData.tuple _
  rw [List.map_map]
  congr 1
  refine List.map_congr_left fun k hk => ?_
  have hk := List.mem_range.mp (hm k hk)
  show (p.map PyData.int).getD k .none = .int (p.getD k 0)
  rw [List.getD_eq_getElem?_getD, List.getD_eq_getElem?_getD, List.getElem?_map, List.getElem?_eq_getElem hk]
  rfl
/-- the parts that show: compared rows of n things -/
def partsL (p : List Int) (n : Nat) : List (List Int) := srtP ((Zc.cmbs n p).map like)

theorem pw_at0 {t : List Int} : t.Pairwise (· < ·) ↔ ∀ i j, i < j → j < t.length → at0 t i < at0 t j := by
  rw [List.pairwise_iff_getElem]
  constructor
  · intro h i j hij hj
    have := h i j (by omega) hj hij
    unfold at0
    rw [List.getD_eq_getElem?_getD, List.getD_eq_getElem?_getD, List.getElem?_eq_getElem hj, List.getElem?_eq_getElem (by omega : i < t.length)]
    exact this
  · intro h i j hi hj hij
    have := h i j hij hj
    unfold at0 at this
    rw [List.getD_eq_getElem?_getD, List.getD_eq_getElem?_getD, List.getElem?_eq_getElem hj, List.getElem?_eq_getElem hi] at this
    exact this
/-- rising rows of places -/
def Asc (m n : Nat) (t : List Int) : Prop := t.length = n ∧ (∀ x ∈ t, 0 ≤ x ∧ x < m) ∧ t.Pairwise (· < ·)
theorem rise_at {m : Nat} {x : Int} (h0 : 0 ≤ x) (h1 : x < m) : pAt (irange 1 m) x = 1 + x := by
  unfold pAt
  rw [irange_getD (by omega : x.toNat < m)]
  omega
theorem at0_mem {t : List Int} {i : Nat} (h : i < t.length) : at0 t i ∈ t := by
  unfold at0
  rw [List.getD_eq_getElem?_getD, List.getElem?_eq_getElem h]
  exact List.getElem_mem h
theorem mem_rise {m n : Nat} {t : List Int} : t ∈ PL (irange 1 m) (irange 1 n) ↔ Asc m n t := by
  rw [mem_PL (isOrd_ir m) (irange_nodup _ _), irange_len]
  constructor
  · intro h
    have hl := h.pl.len
    refine ⟨hl, fun x hx => ⟨h.pl.lo x hx, by have := h.pl.hi x hx; rwa [irange_len] at this⟩, pw_at0.mpr fun i j hij hj => h.asc i j hij (by omega)⟩
  · rintro ⟨hl, hb, hp⟩
    refine ⟨⟨hl, fun x hx => (hb x hx).1, fun x hx => by rw [irange_len]; exact (hb x hx).2⟩, fun i j hij hj => pw_at0.mp hp i j hij (by omega), fun i j hi hj => ?_⟩
    have b1 := hb _ (at0_mem (t := t) (i := i) (by omega))
    have b2 := hb _ (at0_mem (t := t) (i := j) (by omega))
    rw [rise_at b1.1 b1.2, rise_at b2.1 b2.2]
    show 1 + at0 t i < 1 + at0 t j ↔ (irange 1 n).getD i 0 < (irange 1 n).getD j 0
    rw [irange_getD hi, irange_getD hj]
    rcases Nat.lt_trichotomy i j with c | c | c
    · have := pw_at0.mp hp i j c (by omega)
      omega
    · subst c
      omega
    · have := pw_at0.mp hp j i c (by omega)
      omega
theorem row_len (p t : List Int) : (rowP p t).length = t.length := List.length_map ..
theorem row_nodup {p t : List Int} (ip : IsOrd p) {n : Nat} (h : Asc p.length n t) : (rowP p t).Nodup := by
  unfold rowP
  refine List.Pairwise.map _ (fun a b h => h) ?_
  refine List.Pairwise.imp_of_mem (R := (· < ·)) (fun {a b} ha hb lt => ?_) h.2.2
  intro z
  have a0 := h.2.1 a ha
  have b0 := h.2.1 b hb
  have := at0_inj ip.nd (i := a.toNat) (j := b.toNat) (by omega) (by omega) z
  omega
theorem parts_mem {p q : List Int} {n : Nat} : q ∈ partsL p n ↔ ∃ t, Asc p.length n t ∧ like (rowP p t) = q := by
  unfold partsL
  rw [srtP_mem, List.mem_map, cmbs_rows]
  constructor
  · rintro ⟨x, hx, rfl⟩
    obtain ⟨t, ht, rfl⟩ := List.mem_map.mp hx
    obtain ⟨h1, h2, h3⟩ := (cmbs_asc _ _ _ _).mp ht
    exact ⟨t, ⟨h1, fun x hx => by have := h2 x hx; omega, h3⟩, rfl⟩
  · rintro ⟨t, ⟨h1, h2, h3⟩, rfl⟩
    exact ⟨_, List.mem_map.mpr ⟨t, (cmbs_asc _ _ _ _).mpr ⟨h1, fun x hx => by have := h2 x hx; omega, h3⟩, rfl⟩, rfl⟩
theorem parts_len (p : List Int) (n : Nat) : (partsL p n).length ≤ 2 ^ p.length := Nat.le_trans (srtP_len _) (by rw [List.length_map]; exact cmbs_len n p)
theorem parts_ord {p q : List Int} {n : Nat} (ip : IsOrd p) (h : q ∈ partsL p n) : IsOrd q ∧ q.length = n := by
  obtain ⟨t, ht, rfl⟩ := parts_mem.mp h
  exact ⟨isOrd_like (row_nodup ip ht), by rw [like_len, row_len, ht.1]⟩
theorem parts_shows {p q : List Int} {n : Nat} (ip : IsOrd p) (h : q ∈ partsL p n) : Shows p q := by
  obtain ⟨iq, lq⟩ := parts_ord ip h
  obtain ⟨t, ht, hl⟩ := parts_mem.mp h
  have len : (rowP p t).length = q.length := by rw [row_len, ht.1, lq]
  have c := (like_iff iq len).mp hl
  refine ⟨t, ⟨⟨by rw [ht.1, lq], fun x hx => (ht.2.1 x hx).1, fun x hx => (ht.2.1 x hx).2⟩, fun i j hij hj => pw_at0.mp ht.2.2 i j hij (by rw [ht.1, ← lq]; exact hj), fun i j hi hj => ?_⟩⟩
  have := c i j hi hj
  have e1 : (rowP p t).getD i 0 = pAt p (at0 t i) := at0_map (by rw [ht.1, ← lq]; exact hi)
  have e2 : (rowP p t).getD j 0 = pAt p (at0 t j) := at0_map (by rw [ht.1, ← lq]; exact hj)
  rw [e1, e2] at this
  exact this
theorem parts_ne {p : List Int} {n : Nat} (h : n ≤ p.length) : partsL p n ≠ [] := fun z => by
  have : like (rowP p (irange 0 n)) ∈ partsL p n := parts_mem.mpr ⟨irange 0 n, ⟨irange_len _ _, fun x hx => by have := irange_mem.mp hx; omega, irange_sorted 0 n⟩, rfl⟩
  rw [z] at this
  cases this
/-! ### the program's -/
theorem kc_loop {me : M D} {a b : SV} (f : List Int → List Int) : ∀ (L : List (List Int)) (ds : List (List Int × PyData)), (∀ x ∈ L, me [a, b, .d (ti x)] = .ok (ti (f x)) [a, b, .d (ti x)]) → kcG [2] (.nm 2) me (dC (.bool true)) (L.map ti) ds [a, b, .u] = .ok (putL ds (L.map f)) [a, b, .u]
  | [], ds, _ => rfl
  | x :: L, ds, h => by
    have h1 := h x List.mem_cons_self
    have e0 : setT (.nm 2) (ti x) [a, b, .u] = some [a, b, .d (ti x)] := by rw [setT_nm]; rfl
    rw [List.map_cons, kcG, e0]
    dsimp only
    rw [h1]
    show (match intsD ((f x).map .int) with | some k => _ | none => _) = _
    rw [intsD_ok]
    dsimp only
    rw [dC_at]
    dsimp only
    have ew : wipG [a, b, .d (ti x)] [2] = [a, b, .u] := rfl
    rw [ew, kc_loop f L _ fun y hy => h y (List.mem_cons_of_mem _ hy)]
    rfl
theorem two_12 {p : List Int} (hp : p.length ≤ 12) : 2 ^ p.length ≤ 4096 := Nat.le_trans (Nat.pow_le_pow_right (by omega) hp) (by decide)
theorem shown_of_ok (p : List Int) (ip : IsOrd p) (hp : p.length ≤ 12) (n : Nat) (hn : n ≤ 6) : φ_shown_of [ti p, .int (n : Int)] = .ret (.own ((partsL p n).map ti)) [] := by
  have sz : (Zc.cmbs n p).length ≤ 4096 := Nat.le_trans (cmbs_len n p) (two_12 hp)
  have hk := kc_loop (me := (rD (callP [.v] φ_compared (vCons (dName 2) vNil)))) (a := .d (ti p)) (b := .d (.int (n : Int))) like (Zc.cmbs n p) [] fun x hx => by
    rw [cmbs_rows] at hx
    obtain ⟨t, ht, rfl⟩ := List.mem_map.mp hx
    obtain ⟨h1, h2, h3⟩ := (cmbs_asc _ _ _ _).mp ht
    have h : Asc p.length n t := ⟨h1, fun x hx => by have := h2 x hx; omega, h3⟩
    have e := compared_ok (rowP p t) (row_nodup ip h) (by rw [row_len, h1]; omega)
    simp! only [e]
  have hs := put_sort (L := (Zc.cmbs n p).map like) (n := n) (fun q hq => by
    obtain ⟨x, hx, rfl⟩ := List.mem_map.mp hq
    rw [like_len]
    exact (Zc.cmbs_mem _ _ x hx).1) (by rw [List.length_map]; omega)
  have e0 : kcB [2] (.nm 2) (rD (callP [.v] φ_compared (vCons (dName 2) vNil))) (dC (.bool true)) ((Zc.cmbs n p).map ti) [.d (ti p), .d (.int (n : Int)), .u] = .ok ((partsL p n).map ti) [.d (ti p), .d (.int (n : Int)), .u] := by
    unfold kcB
    rw [if_pos ⟨by rw [List.length_map]; omega, rfl⟩]
    show (match kcG [2] (.nm 2) _ _ _ [] [.d (ti p), .d (.int (n : Int)), .u] with | .ok ds g' => _ | _ => _) = _
    rw [hk]
    dsimp only
    rw [if_pos hs.1, hs.2]
    rfl
  have e1 : sSortC [2] (.nm 2) (vCons (dName 0) (vCons (dName 1) vNil)) (rD (callP [.v] φ_compared (vCons (dName 2) vNil))) (dC (.bool true)) [.d (ti p), .d (.int (n : Int)), .u] = .ok ((partsL p n).map ti) [.d (ti p), .d (.int (n : Int)), .u] := by
    rw [sSortC_at]
    have e2 : vCons (dName 0) (vCons (dName 1) vNil) [.d (ti p), .d (.int (n : Int)), .u] = .ok [.d (ti p), .d (.int (n : Int))] [.d (ti p), .d (.int (n : Int)), .u] := by simp! only []
    rw [e2]
    show cmQ _ _ _ _ [.d (ti p), .d (.int (n : Int))] _ = _
    unfold cmQ
    dsimp only
    show (if 0 ≤ (n : Int) ∧ (n : Int) ≤ 6 ∧ (p.map PyData.int).length ≤ 12 then kcB _ _ _ _ (cmbD ((n : Int)).toNat (p.map PyData.int)) _ else _) = _
    rw [if_pos ⟨by omega, by omega, by rw [List.length_map]; exact hp⟩, Int.toNat_natCast, cmbD_ti]
    exact e0
  unfold φ_shown_of m_shown_of
  generalize sSortC [2] (.nm 2) (vCons (dName 0) (vCons (dName 1) vNil)) (rD (callP [.v] φ_compared (vCons (dName 2) vNil))) (dC (.bool true)) = sc at *
  simp! only [e1]
theorem check_number_ok (n : Nat) : φ_check_number [.int (n : Int)] = .ret (.d .none) [] := by
  have d0 : decide ((n : Int) < 0) = false := decide_eq_false (by omega)
  unfold φ_check_number m_check_number
  simp! only [is_integer_ok, d0]
theorem parts_of_ok (p : List Int) (ip : IsOrd p) (hp : p.length ≤ 12) (n : Nat) (hn : n ≤ 6) : φ_parts_of [ti p, .int (n : Int)] = .ret (.own ((partsL p n).map ti)) [] := by
  unfold φ_parts_of m_parts_of
  simp! only [check_order_ok p ip (by omega), check_number_ok n, shown_of_ok p ip hp n hn]

/-! ### the law's own parts -/
abbrev keyE : M Rs := (dv (rD (callP [.v] φ__law_like (vCons (dv (dFz (compL [4] (.nm 4) (iV (dName 3)) (rt true) (op2 fIx (dName 0) (dName 4))))) vNil))))
abbrev puB : M Fl := (sPutK 2 (dC (.bool true)) keyE)
theorem forG_one {t : Tg} {ms : List Nat} {b : M Fl} {x : D} {xs : List D} {g g1 g2 : En} (h1 : setT t x g = some g1) (h2 : b g1 = .ok .nx g2) : forG t ms b (x :: xs) g = forG t ms b xs (Z.fgt ms g2) := by
  rw [forG, h1]
  dsimp only
  rw [h2]
theorem fIx_tiz {p : List Int} {j : Int} (h0 : 0 ≤ j) (h1 : j < p.length) : fIx (ti p) (.int j) = some (.int (pAt p j)) := by
  have e : (p.map PyData.int)[j.toNat]? = some (.int (pAt p j)) := by
    unfold pAt
    rw [List.getElem?_map, List.getD_eq_getElem?_getD, List.getElem?_eq_getElem (by omega)]
    rfl
  have h := fIx_t (xs := p.map PyData.int) (i := j.toNat) e
  rwa [Int.toNat_of_nonneg h0] at h
theorem key_ok {p : List Int} (hp : p.length ≤ 12) {n : Nat} (hn : n ≤ 12) {t : List Int} (ht : Asc p.length n t) (b1 b2 : SV) : keyE [.d (ti p), b1, b2, .d (ti t), .u] = .ok (.d (ti (like (rowP p t)))) [.d (ti p), b1, b2, .d (ti t), .u] := by
  have h1 := compB_one (i := 4) (enc := PyData.int) (f := fun x => .int (pAt p x)) (me := op2 fIx (dName 0) (dName 4)) (g := [.d (ti p), b1, b2, .d (ti t), .u]) t (by rw [ht.1]; omega) rfl fun x hx => by
    have e := fIx_tiz (p := p) (j := x) (ht.2.1 x hx).1 (ht.2.1 x hx).2
    simp! only [e]
  have e1 : t.map (fun x => PyData.int (pAt p x)) = (rowP p t).map .int := by rw [rowP, List.map_map]; rfl
  rw [e1] at h1
  have h2 := like_ok (rowP p t) (by rw [row_len, ht.1]; omega)
  unfold keyE
  unfold li at h2
  simp! only [h1, h2]
theorem pu_loop {p : List Int} (hp : p.length ≤ 12) {n : Nat} (hn : n ≤ 12) (b1 : SV) : ∀ (L : List (List Int)) (ds : List (List Int × PyData)), (∀ t ∈ L, Asc p.length n t) → ds.length + L.length ≤ 50000 → forG (.nm 3) [3] puB (L.map ti) [.d (ti p), b1, .dk ds, .u, .u] = .ok .nx [.d (ti p), b1, .dk (putL ds (L.map fun t => like (rowP p t))), .u, .u]
  | [], ds, _, _ => rfl
  | t :: L, ds, h, hz => by
    rw [List.length_cons] at hz
    have hk := key_ok hp hn (h t List.mem_cons_self) b1 (.dk ds)
    have st := sPutK_ok (i := 2) (m := dC (.bool true)) (k := keyE) (g := [.d (ti p), b1, .dk ds, .d (ti t), .u]) (g1 := [.d (ti p), b1, .dk ds, .d (ti t), .u]) (y := .bool true) (s := .d (ti (like (rowP p t)))) (ks := like (rowP p t)) (ds := ds) (dC_at _ _) rfl hk rfl (by omega)
    have e := forG_one (t := .nm 3) (ms := [3]) (b := puB) (xs := L.map ti) (g := [.d (ti p), b1, .dk ds, .u, .u]) (x := ti t) (by rw [setT_nm]; rfl) st
    rw [List.map_cons, e]
    have ln : (dkPut ds (like (rowP p t)) (.bool true)).length ≤ ds.length + 1 := by
      have := congrArg List.length (put_keys ds (like (rowP p t)) (.bool true))
      rw [List.length_map] at this
      rw [this]
      split
      · rw [List.length_map]; omega
      · rw [List.length_append, List.length_map]; exact Nat.le_refl _
    exact pu_loop hp hn b1 L _ (fun u hu => h u (List.mem_cons_of_mem _ hu)) (by omega)
theorem law_parts_ok (p : List Int) (ip : IsOrd p) (hp : p.length ≤ 12) (n : Nat) (hn : n ≤ 6) : φ__law_parts [ti p, .int (n : Int)] = .ret (.own ((partsL p n).map ti)) [] := by
  have h1 := picks_ok p.length n hp (by omega)
  generalize hR : PL (irange 1 p.length) (irange 1 n) = R at h1
  have hA : ∀ t ∈ R, Asc p.length n t := fun t ht => by rw [← hR] at ht; exact mem_rise.mp ht
  have sz : R.length ≤ 4096 := by
    rw [← hR]
    have := Ls_two (p := irange 1 p.length) (q := irange 1 n) (a := (irange 1 n).length) (Nat.le_refl _)
    rw [irange_len 1 p.length] at this
    exact Nat.le_trans this (two_12 hp)
  have h2 := pu_loop hp (by omega : n ≤ 12) (.d (.int (n : Int))) R [] hA (by rw [List.length_nil]; omega)
  have hs := put_sort (L := R.map fun t => like (rowP p t)) (n := n) (fun q hq => by
    obtain ⟨t, ht, rfl⟩ := List.mem_map.mp hq
    rw [like_len, row_len, (hA t ht).1]) (by rw [List.length_map]; omega)
  have e : srtP (R.map fun t => like (rowP p t)) = partsL p n := srt_uniq (srtP_srt _) (srtP_srt _) fun q => by
    rw [srtP_mem, List.mem_map]
    rw [parts_mem (p := p) (q := q) (n := n)]
    exact ⟨fun ⟨t, ht, hl⟩ => ⟨t, hA t ht, hl⟩, fun ⟨t, ht, hl⟩ => ⟨t, by rw [← hR]; exact mem_rise.mpr ht, hl⟩⟩
  have h3 : sSortDk 2 [.d (ti p), .d (.int (n : Int)), .dk (putL [] (R.map fun t => like (rowP p t))), .u, .u] = .ok ((partsL p n).map ti) [.d (ti p), .d (.int (n : Int)), .dk (putL [] (R.map fun t => like (rowP p t))), .u, .u] := by
    rw [sSortDk_at]
    show (if okDk _ = true then Ro.ok (sortD _) _ else _) = _
    rw [if_pos hs.1, hs.2, e]
  have em : φ__law_parts = runF 5 [.v, .v] (dSeq (sNewDk 2) (dSeq (sFor (.nm 3) [3] (iV (dv (rD (callP [.v, .v] φ__law_picks (vCons (dv (opN fLen (vCons (dName 0) vNil))) (vCons (dName 1) vNil)))))) puB) (sRetO (sSortDk 2)))) := rfl
  rw [em]
  generalize hx : puB = pb at *
  generalize hy : sSortDk 2 = sd at *
  generalize putL [] (R.map fun t => like (rowP p t)) = zz at *
  simp! only [List.length_map, sNewDk_at, h1, h2, h3]

/-! ### all orders, put in one by one -/
def insN : Nat → List (List Int)
  | 0 => [[]]
  | n + 1 => (insN n).flatMap lngG
theorem insN_perm : ∀ n, (insN n).Perm (allO n)
  | 0 => .refl _
  | n + 1 => by
    show ((insN n).flatMap lngG).Perm (((allO n).flatMap lngG).mergeSort _)
    exact ((insN_perm n).flatMap_right lngG).trans (List.mergeSort_perm _ _).symm
theorem fac_7 {n : Nat} (h : n ≤ 7) : fac n ≤ 5040 := by
  rcases (show n = 0 ∨ n = 1 ∨ n = 2 ∨ n = 3 ∨ n = 4 ∨ n = 5 ∨ n = 6 ∨ n = 7 by omega) with rfl | rfl | rfl | rfl | rfl | rfl | rfl | rfl <;> decide
theorem insN_len {n : Nat} (h : n ≤ 7) : (insN n).length ≤ 5040 := by
  rw [(insN_perm n).length_eq, (allO_ok n).2.2]
  exact fac_7 h
theorem insN_mem {n : Nat} {t : List Int} : t ∈ insN n ↔ IsOrd t ∧ t.length = n := by rw [(insN_perm n).mem_iff, (allO_ok n).1.mem]
theorem ins_sorted {n : Nat} (h : n ≤ 7) : fSorted1 [.list ((insN n).map ti)] = some ((allO n).map ti) := by
  cases n with
  | zero => exact fSorted1_unit
  | succ n =>
    have ne : ∀ t ∈ insN (n + 1), t ≠ [] := fun t ht z => by
      have := (insN_mem.mp ht).2
      rw [z] at this
      cases this
    refine fSorted1_of ?_ fun z => ?_
    · have asc := (allO_ok (n + 1)).1.asc
      have nd : (insN (n + 1)).Nodup := (insN_perm (n + 1)).nodup_iff.mpr (asc.imp fun {a b} h e => by rw [e] at h; exact List.lt_irrefl _ h)
      have e := sortD_ti asc nd fun t => (insN_perm (n + 1)).mem_iff
      show (if okSort ((insN (n + 1)).map ti) then some (sortD ((insN (n + 1)).map ti)) else none) = _
      rw [if_pos (okSort_ti (by have := insN_len h; omega) ne), e]
    · injection z with z _
      injection z with z
      cases e : insN (n + 1) with
      | nil => rw [e] at z; cases z
      | cons x L =>
        rw [e, List.map_cons] at z
        injection z with z1 z2
        have hx := ne x (by rw [e]; exact List.mem_cons_self)
        cases x with
        | nil => exact hx rfl
        | cons y x =>
          injection z1 with z1
          cases z1
theorem fAdd_ti (p q : List Int) (h : p.length + q.length ≤ 100000) : fAdd (ti p) (ti q) = some (ti (p ++ q)) := by
  rw [fAdd_tt _ _ (by rw [List.length_map, List.length_map]; exact h), ← List.map_append]
theorem cut_to (p : List Int) (a : Nat) : fCutT (ti p) none (some (a : Int)) = some (ti (p.take a)) := by
  rw [fCutT_take, ← List.map_take]
theorem cut_from (p : List Int) (a : Nat) (h : a ≤ p.length) : fCutT (ti p) (some (a : Int)) none = some (ti (p.drop a)) := by
  rw [fCutT_from _ _ (by rw [List.length_map]; exact h), ← List.map_drop]
abbrev inE : M D := (rD (op2r fAdd fCat (dv (rD (op2r fAdd fCat (dv (rD (cutR (dName 4) oNone (oSome (dEsc (dName 5)))))) (dv (dTup (dCons (dEsc (dName 2)) dNil)))))) (dv (rD (cutR (dName 4) (oSome (dEsc (dName 5))) oNone)))))
abbrev inC : M (List D) := (compL [5] (.nm 5) (iR1 (vCons (dName 2) vNil)) (rt true) inE)
theorem in_comp (row : List Int) (hr : row.length ≤ 20) (b0 b1 b3 : SV) : inC [b0, b1, .d (.int ((row.length + 1 : Nat) : Int)), b3, .d (ti row), .u] = .ok ((lngG row).map ti) [b0, b1, .d (.int ((row.length + 1 : Nat) : Int)), b3, .d (ti row), .u] := by
  have hc := compB_one (i := 5) (enc := PyData.int) (f := fun x => ti (insG row x.toNat)) (me := inE) (g := [b0, b1, .d (.int ((row.length + 1 : Nat) : Int)), b3, .d (ti row), .u]) (irange 0 (row.length + 1)) (by rw [irange_len]; omega) rfl fun x hx => by
    have hx' := irange_mem.mp hx
    obtain ⟨a, rfl⟩ : ∃ a : Nat, x = (a : Int) := ⟨x.toNat, by omega⟩
    have c1 := cut_to row a
    have c2 := cut_from row a (by omega)
    have e1 := fAdd_ti (row.take a) [((row.length + 1 : Nat) : Int)] (by rw [List.length_take]; simp; omega)
    have e2 := fAdd_ti (row.take a ++ [((row.length + 1 : Nat) : Int)]) (row.drop a) (by rw [List.length_append, List.length_take, List.length_drop]; simp; omega)
    rw [show ti [((row.length + 1 : Nat) : Int)] = .tuple [.int ((row.length + 1 : Nat) : Int)] from rfl] at e1
    rw [Int.toNat_natCast]
    unfold inE insG
    simp! only [c1, c2, e1, e2]
  have em : (irange 0 (row.length + 1)).map (fun x => ti (insG row x.toNat)) = (lngG row).map ti := by rw [lngG, List.map_map]; rfl
  rw [em] at hc
  have s0 : Sm ((row.length + 1 : Nat) : Int) := sm_of (by omega) (by omega)
  unfold inC
  generalize hi : inE = ie at *
  simp! only [s0, Int.toNat_natCast, hc]
abbrev alB : M Fl := (sExpr (dMut 3 mExtend inC))
theorem al_loop (n : Nat) (hn : n < 7) (b0 b1 : SV) : forG (.nm 4) [4] alB ((insN n).map ti) [b0, b1, .d (.int ((n + 1 : Nat) : Int)), .own false [], .u, .u] = .ok .nx [b0, b1, .d (.int ((n + 1 : Nat) : Int)), .own false ((insN (n + 1)).map ti), .u, .u] := by
  have hl := insN_len (n := n + 1) (by omega)
  have em : (insN n).flatMap (fun r => (lngG r).map ti) = (insN (n + 1)).map ti := by
    show _ = ((insN n).flatMap lngG).map ti
    rw [List.map_flatMap]
  have h := forG_gather (t := .nm 4) (ms := [4]) (b := alB) ti (fun r => (lngG r).map ti) (fun a => [b0, b1, .d (.int ((n + 1 : Nat) : Int)), .own false a, .u, .u]) (fun a => by simp! only []) 6000 (insN n) [] (by rw [em, List.length_map, List.length_nil]; omega) fun t ht a ha => by
    have pt := (insN_mem.mp ht).2
    have hc := in_comp t (by omega) b0 b1 (.own false a)
    rw [pt] at hc
    have c1 := mExtend_ok a ((lngG t).map ti) (sz_le (by omega))
    refine ⟨_, [b0, b1, .d (.int ((n + 1 : Nat) : Int)), .own false (a ++ (lngG t).map ti), .d (ti t), .u], setT_nm _ _ _, ?_, by simp! only []⟩
    unfold alB
    generalize hx : inC = xc at *
    simp! only [hc, c1]
  rw [em, List.nil_append] at h
  exact h
abbrev alO : M Fl := (dSeq (sSetO 3 (dLst dNil)) (dSeq (sFor (.nm 4) [4] (iV (dName 1)) alB) (sMove 1 3)))
theorem law_all_ok (n : Nat) (hn : n ≤ 7) : φ__law_all [.int (n : Int)] = .ret (.own ((allO n).map ti)) [] := by
  obtain ⟨g', e1, i, h1, h0, h2⟩ := forG_inv (t := .nm 2) (ms := [2, 3, 4]) (b := alO) ((irange 1 n).map .int)
    (fun r g => ∃ i : Nat, r = (irange (i + 1 : Nat) (n - i)).map .int ∧ i ≤ n ∧ g = [.d (.int (n : Int)), .own false ((insN i).map ti), .u, .u, .u, .u])
    [.d (.int (n : Int)), .own false ((insN 0).map ti), .u, .u, .u, .u] ⟨0, rfl, Nat.zero_le _, rfl⟩ (by
      rintro x r g ⟨i, h1, h0, rfl⟩ _
      have hlt : i < n := by
        have := congrArg List.length h1
        rw [List.length_map, irange_len, List.length_cons] at this
        omega
      rw [show n - i = (n - i - 1) + 1 by omega, irange_succ, List.map_cons] at h1
      injection h1 with hx hr
      subst hx
      have hl := al_loop i (by omega) (.d (.int (n : Int))) (.d (.list ((insN i).map ti)))
      refine ⟨[.d (.int (n : Int)), .own false ((insN i).map ti), .d (.int ((i + 1 : Nat) : Int)), .u, .u, .u], [.d (.int (n : Int)), .own false ((insN (i + 1)).map ti), .d (.int ((i + 1 : Nat) : Int)), .u, .u, .u], by rw [setT_nm]; rfl, .inl ?_, i + 1, ?_, by omega, by simp! only []⟩
      · unfold alO
        generalize hx : alB = xb at *
        simp! only [hl]
      · rw [hr, show n - i - 1 = n - (i + 1) by omega, show ((i + 1 : Nat) : Int) + 1 = ((i + 1 + 1 : Nat) : Int) by omega])
  have hi : i = n := by
    have := congrArg List.length h1
    rw [List.length_map, irange_len, List.length_nil] at this
    omega
  subst hi
  have e3 : Z.fgt [2, 3, 4] [.d (.int (i : Int)), .own false ((insN i).map ti), .u, .u, .u, .u] = [.d (.int (i : Int)), .own false ((insN i).map ti), .u, .u, .u, .u] := by simp! only []
  rw [h2, e3, show (insN 0).map ti = [.tuple []] from rfl] at e1
  have s0 : Sm 1 := sm_of (by omega) (by omega)
  have s1 : Sm ((i : Int) + 1) := sm_of (by omega) (by omega)
  have e2 : ((i : Int) + 1 - 1).toNat = i := by omega
  have e4 := ins_sorted hn
  have em : φ__law_all = runF 6 [.v] (dSeq (sSetO 1 (dLst (dCons (dTup dNil) dNil))) (dSeq (sFor (.nm 2) [2, 3, 4] (iR2 (vCons (dv (dC (.int 1))) (vCons (dv (rD (op2r fAdd fCat (dName 0) (dv (dC (.int 1)))))) vNil))) alO) (sRetO (opNo fSorted1 (vCons (dName 1) vNil))))) := rfl
  rw [em]
  generalize hx : alO = ao at *
  simp! only [s0, s1, e2, e1, e4]
/-! ### permutations -/
def bdn (c : Prop) [Decidable c] (o : Ro (List D)) : Ro (List D) := if c then o else .bad
theorem bdn_t (c : Prop) [Decidable c] (h : c) (o : Ro (List D)) : bdn c o = o := if_pos h
theorem dLstPrm7_at (m : M (Int × Int)) (g : En) : dLstPrm7 m g = (m g).thn (c := ⟨fun ij g1 => bdn (okRg ij.1 ij.2 = true ∧ (ij.2 - ij.1).toNat ≤ 7) (.ok (prmD ij.1 (ij.2 - ij.1).toNat) g1)⟩) := by
  unfold dLstPrm7 bnd Ro.thn bdn
  cases m g with
  | bad => rfl
  | ex c x g1 => rfl
  | ok ij g1 =>
    dsimp only
    split <;> rfl
theorem orders_ok (n : Nat) (hn : n ≤ 7) : φ_orders [.int (n : Int)] = .ret (.own ((allO n).map ti)) [] := by
  have ok : okRg 1 ((n : Int) + 1) = true ∧ ((n : Int) + 1 - 1).toNat ≤ 7 := by
    refine ⟨?_, by omega⟩
    unfold okRg
    simp only [Bool.and_eq_true, decide_eq_true_eq]
    omega
  have e1 : ((n : Int) + 1 - 1).toNat = n := by omega
  rw [e1] at ok
  have pd := prmD_allO n
  unfold φ_orders m_orders φ_orders_of m_orders_of
  simp! only [check_number_ok, dLstPrm7_at, rg2_at, bdn_t _ ok, e1, pd]

theorem parts_few {p : List Int} (ip : IsOrd p) {n : Nat} (hn : n ≤ 5) : (partsL p n).length ≤ 120 := by
  have e : partsL p n = srtP ((allO n).filter fun q => decide (q ∈ partsL p n)) := srt_uniq (srtP_srt _) (srtP_srt _) fun t => by
    rw [srtP_mem, List.mem_filter]
    have : t ∈ srtP ((Zc.cmbs n p).map like) ↔ t ∈ partsL p n := Iff.rfl
    exact ⟨fun x => ⟨(allO_ok n).1.mem t |>.mpr (parts_ord ip (this.mp x)), decide_eq_true (this.mp x)⟩, fun x => this.mpr (of_decide_eq_true x.2)⟩
  have h1 : (partsL p n).length ≤ (allO n).length := by
    rw [e]
    exact Nat.le_trans (srtP_len _) (List.length_filter_le ..)
  have h2 : (allO n).length ≤ 120 := by
    rw [(allO_ok n).2.2]
    rcases (show n = 0 ∨ n = 1 ∨ n = 2 ∨ n = 3 ∨ n = 4 ∨ n = 5 by omega) with rfl | rfl | rfl | rfl | rfl | rfl <;> decide
  omega
theorem fIx_lt {L : List (List Int)} {i : Int} (h0 : 0 ≤ i) (h1 : i < L.length) : ∃ q ∈ L, fIx (.list (L.map ti)) (.int i) = some (ti q) := by
  have hl : i.toNat < L.length := by omega
  refine ⟨L[i.toNat], List.getElem_mem hl, ?_⟩
  have h := fIx_l (xs := L.map ti) (i := i.toNat) (x := ti L[i.toNat]) (by rw [List.getElem?_map, List.getElem?_eq_getElem hl]; rfl)
  rwa [Int.toNat_of_nonneg h0] at h
theorem shows_t {p q : List Int} (ip : IsOrd p) (iq : IsOrd q) (hne : q ≠ []) (hp : p.length ≤ 12) (hq : q.length ≤ 12) (h : Shows p q) : φ_shows [ti p, ti q] = .ret (.d (.bool true)) [] := by
  have e := shows_ok p q ip iq hne hp hq
  have e2 : (!decide (PL p q = [])) = true := (shB_iff ip iq).mpr h
  rwa [e2] at e
abbrev tuB : M Fl := (sIf (dAnd (dB (op2 fNe (dName 3) (dv (dFz (dLst dNil))))) (dB (op2 fGt (dName 2) (dv (dC (.int 0)))))) (dSeq (sSet 6 (op2 fIx (dName 3) (dv (rD (callP [.m, .v] φ__law_take (vCons (dName 0) (vCons (dv (opN fLen (vCons (dName 3) vNil))) vNil)))))))
    (dSeq (sSetR 7 (callP [.v, .v] φ_parts_of (vCons (dName 6) (vCons (dv (rD (callP [.m, .v] φ__law_take (vCons (dName 0) (vCons (dName 2) vNil))))) vNil))))
    (dSeq (sSet 8 (op2 fIx (dName 7) (dv (rD (callP [.m, .v] φ__law_take (vCons (dName 0) (vCons (dv (opN fLen (vCons (dName 7) vNil))) vNil)))))))
    (sIf (dOr (dNot (dB (rD (callP [.v, .v] (φ__law_same 8) (vCons (dv (rD (callP [.v, .v] φ_shows (vCons (dName 1) (vCons (dName 6) vNil))))) (vCons (dv (dC (.bool true))) vNil)))))) (dAnd (dB (op2 fNe (dName 8) (dv (dTup dNil)))) (dNot (dB (rD (callP [.v, .v] (φ__law_same 8) (vCons (dv (rD (callP [.v, .v] φ_shows (vCons (dName 1) (vCons (dName 8) vNil))))) (vCons (dv (dC (.bool true))) vNil)))))))) (sRet (dC (.bool false))) sNx)))) sNx)
theorem tu_step {l : List D} (hl : Deck l) (p : List Int) (ip : IsOrd p) (hp : p.length ≤ 12) (n : Nat) (hn : n ≤ 5) (b4 b5 : SV) : ∃ (l' : List D) (c6 c7 c8 : SV), Deck l' ∧
    tuB [.own true l, .d (ti p), .d (.int (n : Int)), .own false ((partsL p n).map ti), b4, b5, .u, .u, .u] = .ok .nx [.own true l', .d (ti p), .d (.int (n : Int)), .own false ((partsL p n).map ti), b4, b5, c6, c7, c8] := by
  have few := parts_few ip hn
  have h0 := fNe_tis (partsL p n)
  by_cases c : partsL p n = []
  · refine ⟨l, .u, .u, .u, hl, ?_⟩
    rw [decide_eq_true c] at h0
    unfold tuB
    generalize (partsL p n).map ti = z at *
    simp! only [h0]
  rw [decide_eq_false c] at h0
  by_cases cn : n = 0
  · refine ⟨l, .u, .u, .u, hl, ?_⟩
    have d0 : decide ((0 : Int) < (n : Int)) = false := decide_eq_false (by omega)
    unfold tuB
    generalize (partsL p n).map ti = z at *
    simp! only [h0, d0]
  have d0 : decide ((0 : Int) < (n : Int)) = true := decide_eq_true (by omega)
  have ln : 0 < (partsL p n).length := List.length_pos_iff.mpr c
  obtain ⟨i, l1, e1, w1, i0, i1⟩ := take_ok hl ((partsL p n).length : Int) (by omega) (by omega)
  obtain ⟨q, hq, e2⟩ := fIx_lt i0 i1
  obtain ⟨iq, lq⟩ := parts_ord ip hq
  have sq := parts_shows ip hq
  have nq : q ≠ [] := fun z => by rw [z] at lq; exact cn lq.symm
  obtain ⟨j, l2, e3, w2, j0, j1⟩ := take_ok w1 (n : Int) (by omega) (by omega)
  obtain ⟨m, rfl⟩ : ∃ m : Nat, j = (m : Int) := ⟨j.toNat, by omega⟩
  have e4 := parts_of_ok q iq (by omega) m (by omega)
  have few2 := parts_few iq (n := m) (by omega)
  have ln2 : 0 < (partsL q m).length := List.length_pos_iff.mpr (parts_ne (by omega))
  obtain ⟨k, l3, e5, w3, k0, k1⟩ := take_ok w2 ((partsL q m).length : Int) (by omega) (by omega)
  obtain ⟨r, hr, e6⟩ := fIx_lt k0 k1
  obtain ⟨ir, lr⟩ := parts_ord iq hr
  have sr := shows_trans sq (parts_shows iq hr)
  have e7 := shows_t ip iq nq hp (by omega) sq
  have bt := same_ok 0 (.bool true) (.bool 0 true) 8 (by omega)
  have e8 : fNe (ti r) (.tuple []) = some (.bool (!decide (r = []))) := fNe_ti r []
  refine ⟨l3, .d (ti q), .own false ((partsL q m).map ti), .d (ti r), w3, ?_⟩
  have L1 : ((partsL p n).map ti).length = (partsL p n).length := List.length_map ..
  have L2 : ((partsL q m).map ti).length = (partsL q m).length := List.length_map ..
  by_cases cr : r = []
  · rw [decide_eq_true cr] at e8
    unfold tuB
    generalize (partsL p n).map ti = z at *
    generalize (partsL q m).map ti = z2 at *
    simp! only [h0, d0, L1, e1, e2, e3, e4, L2, e5, e6, e7, bt, e8]
  · have e9 := shows_t ip ir cr hp (by omega) sr
    rw [decide_eq_false cr] at e8
    unfold tuB
    generalize (partsL p n).map ti = z at *
    generalize (partsL q m).map ti = z2 at *
    simp! only [h0, d0, L1, e1, e2, e3, e4, L2, e5, e6, e7, bt, e8, e9]
theorem tu_loop (p : List Int) (ip : IsOrd p) (hp : p.length ≤ 12) (n : Nat) (hn : n ≤ 5) (b4 : SV) : ∀ (r : List D) {l : List D}, Deck l → ∃ l' : List D, Deck l' ∧
    forG (.nm 5) [5, 6, 7, 8] tuB r [.own true l, .d (ti p), .d (.int (n : Int)), .own false ((partsL p n).map ti), b4, .u, .u, .u, .u] = .ok .nx [.own true l', .d (ti p), .d (.int (n : Int)), .own false ((partsL p n).map ti), b4, .u, .u, .u, .u]
  | [], l, h => ⟨l, h, rfl⟩
  | x :: r, l, h => by
    obtain ⟨l1, c6, c7, c8, w1, e1⟩ := tu_step h p ip hp n hn b4 (.d x)
    obtain ⟨l2, w2, e2⟩ := tu_loop p ip hp n hn b4 r w1
    refine ⟨l2, w2, ?_⟩
    have e := forG_one (t := .nm 5) (ms := [5, 6, 7, 8]) (b := tuB) (xs := r) (g := [.own true l, .d (ti p), .d (.int (n : Int)), .own false ((partsL p n).map ti), b4, .u, .u, .u, .u]) (x := x) (by rw [setT_nm]; rfl) e1
    rw [e]
    exact e2
theorem parts_right_ok {l : List D} (hl : Deck l) : ∃ l' : List D, φ__law_parts_right [.list l] = .ret (.d (.bool true)) l' ∧ Deck l' := by
  obtain ⟨s, l1, h1, d1, s0, s1⟩ := take_ok hl 2 (by omega) (by omega)
  obtain ⟨m, hm, mx⟩ : ∃ m : Nat, fIx (.list [.int 7, .int 12]) (.int s) = some (.int (m : Int)) ∧ m ≤ 12 := by
    rcases two_of s0 s1 with rfl | rfl
    · exact ⟨7, fIx_l0 _ _, by omega⟩
    · exact ⟨12, fIx_l1 _ _ _, by omega⟩
  obtain ⟨p, l2, h2, d2, ip, np⟩ := row_ok d1 m (by omega)
  obtain ⟨j, l3, h3, d3, j0, j1⟩ := take_ok d2 6 (by omega) (by omega)
  obtain ⟨n, rfl⟩ : ∃ n : Nat, j = (n : Int) := ⟨j.toNat, by omega⟩
  have e1 := law_parts_ok p ip (by omega) n (by omega)
  have e2 := parts_of_ok p ip (by omega) n (by omega)
  have few := parts_few ip (n := n) (by omega)
  have sm := same_ok 2 (.list ((partsL p n).map ti)) (sh_tis 0 _ (by omega) fun t ht => by have := (parts_ord ip ht).2; omega) 8 (by omega)
  have ap := mAppend_ok ((partsL p n).map ti) (.int 0) (by rw [List.length_map]; exact sz_lt (by omega))
  obtain ⟨l4, d4, e3⟩ := tu_loop p ip (by omega) n (by omega) (.own false ((partsL p n).map ti ++ [.int 0])) ((irange 0 3).map .int) d3
  have s3 : Sm 3 := ⟨by omega, by omega⟩
  have t3 : (3 : Int).toNat = 3 := rfl
  refine ⟨l4, ?_, d4⟩
  unfold φ__law_parts_right m__law_parts_right
  generalize hz : (partsL p n).map ti = z at *
  generalize z ++ [.int 0] = z2 at *
  simp! only [pick10, h1, hm, h2, h3, e1, e2, sm, ap, s3, t3, e3]

abbrev manyE : M D := (dIfE (dB (op2 fGt (dName 1) (dv (dC (.int 0))))) (rD (callP [.m, .v] φ__law_take (vCons (dName 2) (vCons (dv (dC (.int 6))) vNil)))) (rD (op2r fAdd fCat (dv (dC (.int 4))) (dv (rD (callP [.m, .v] φ__law_take (vCons (dName 2) (vCons (dv (dC (.int 4))) vNil))))))))
theorem many_ok {l : List D} (hl : Deck l) (a : SV) (k : Nat) : ∃ (n : Nat) (l' : List D), n ≤ 7 ∧ Deck l' ∧ manyE [a, .d (.int (k : Int)), .own false l, .u, .u, .u] = .ok (.int (n : Int)) [a, .d (.int (k : Int)), .own false l', .u, .u, .u] := by
  by_cases c : (0 : Int) < (k : Int)
  · obtain ⟨j, l1, h1, d1, j0, j1⟩ := take_ok hl 6 (by omega) (by omega)
    obtain ⟨n, rfl⟩ : ∃ n : Nat, j = (n : Int) := ⟨j.toNat, by omega⟩
    refine ⟨n, l1, by omega, d1, ?_⟩
    have d0 := decide_eq_true c
    unfold manyE
    simp! only [d0, h1]
  · obtain ⟨j, l1, h1, d1, j0, j1⟩ := take_ok hl 4 (by omega) (by omega)
    obtain ⟨n, hn⟩ : ∃ n : Nat, 4 + j = (n : Int) := ⟨(4 + j).toNat, by omega⟩
    refine ⟨n, l1, by omega, d1, ?_⟩
    have d0 := decide_eq_false c
    unfold manyE
    simp! only [d0, h1, hn]
abbrev lawBody : M Fl := (dSeq (sSetR 2 (callP [.v, .v] φ__law_deck (vCons (dName 0) (vCons (dName 1) vNil))))
    (dSeq (sIf (dNot (dB (rD (callP [.m] φ__law_parts_right (vCons (dName 2) vNil))))) (sRet (dC (.bool false))) sNx)
    (dSeq (sSet 3 manyE)
    (dSeq (sSetR 4 (callP [.v] φ__law_all (vCons (dName 3) vNil)))
    (dSeq (sSetR 5 (callP [.v] φ_orders (vCons (dName 3) vNil)))
    (dSeq (sIf (dNot (dB (rD (callP [.v, .v] (φ__law_same 8) (vCons (dName 5) (vCons (dName 4) vNil)))))) (sRet (dC (.bool false))) sNx)
    (dSeq (sExpr (dMut 5 mReverse (rt [])))
    (sIf (dNot (dB (rD (callP [.v, .v] (φ__law_same 8) (vCons (dv (rD (callK [.v] φ_orders [0] vNil (vCons (dName 3) vNil)))) (vCons (dName 4) vNil)))))) (sRet (dC (.bool false))) sNx))))))))
theorem mReverse_ok' (xs : List D) : mReverse xs [] = some (xs.reverse, .none) := Eq.trans rfl rfl
theorem law_step (ns : List Int) (k : Nat) : ∃ g : En, lawBody [.a (ns.map .int), .d (.int (k : Int)), .u, .u, .u, .u] = .ok .nx g ∧ fgt [1, 2, 3, 4, 5] g = [.a (ns.map .int), .u, .u, .u, .u, .u] := by
  obtain ⟨l0, h0, d0⟩ := deck_ok ns k
  obtain ⟨l1, h1, d1⟩ := parts_right_ok d0
  obtain ⟨n, l2, hn, d2, h2⟩ := many_ok d1 (.a (ns.map .int)) k
  have e1 := law_all_ok n hn
  have e2 := orders_ok n hn
  have len : (allO n).length ≤ 5040 := by rw [(allO_ok n).2.2]; exact fac_7 hn
  have sm := same_ok 2 (.list ((allO n).map ti)) (sh_tis 0 _ (by omega) fun t ht => by have := ((allO_ok n).1.mem t).mp ht; omega) 8 (by omega)
  refine ⟨[.a (ns.map .int), .d (.int (k : Int)), .own false l2, .d (.int (n : Int)), .own false ((allO n).map ti), .own false ((allO n).map ti).reverse], ?_, by simp! only []⟩
  unfold lawBody
  generalize hx : manyE = me at *
  generalize (allO n).map ti = z at *
  have rv := mReverse_ok' z
  simp! only [pick0, h0, h1, h2, e1, e2, sm, rv]
theorem law_loop (ns : List Int) (n : Nat) : forG (.nm 1) [1, 2, 3, 4, 5] lawBody ((irange 0 n).map .int) [.a (ns.map .int), .u, .u, .u, .u, .u] = .ok .nx [.a (ns.map .int), .u, .u, .u, .u, .u] := by
  refine forG_each (by simp! only []) _ fun x hx => ?_
  obtain ⟨i, hi, rfl⟩ := List.mem_map.mp hx
  have hi' := irange_mem.mp hi
  obtain ⟨g2, h2, h3⟩ := law_step ns i.toNat
  rw [Int.toNat_of_nonneg hi'.1] at h2
  exact ⟨[.a (ns.map .int), .d (.int i), .u, .u, .u, .u], g2, by simp! only [], h2, h3⟩
theorem main (ns : List Int) (h : ns.length ≤ 63) : φ_law [.list (ns.map PyData.int)] = .ret (.d (.bool true)) [] := by
  have hsm : Sm (if (if 8 < (ns.length : Int) then 8 else (ns.length : Int)) > 2 then (if 8 < (ns.length : Int) then 8 else (ns.length : Int)) else 2) := by
    refine sm_of ?_ ?_ <;> (split <;> (try split) <;> omega)
  have hl := law_loop ns
  have em : φ_law = runF 6 [.v] (dSeq (sFor (.nm 1) [1, 2, 3, 4, 5] (iR1 (vCons (dv (opN fMax (vCons (dv (dC (.int 2))) (vCons (dv (opN fMin (vCons (dv (opN fLen (vCons (dName 0) vNil))) (vCons (dv (dC (.int 8))) vNil)))) vNil)))) vNil)) lawBody) (sRet (dC (.bool true)))) := rfl
  rw [em]
  generalize hx : lawBody = lb at *
  simp! only [List.length_map, hsm, hl]
end Ck03

set_option maxRecDepth 100000
open PySem PySem.W PyProof.Rows
set_option maxHeartbeats 0 in
theorem PySem.Challenge.cw_wholeorders_k03_whole_parts_shown_holds : PySem.Challenge.rw_wholeorders_k03_whole_parts_shown.Holds := by
  w_on; o_law; k_head; (case hw => w_witness2)
  k_fill
  refine L2.walk_of (l := PySem.Challenge.rw_wholeorders_k03_whole_parts_shown) (n := 63) (k := 11) (x := "script") (CX := fun w => L2.CX PySem.Challenge.pw_wholeorders_k03_whole_parts_shown w) (sp := fun w => Z.spLaw _) rfl (by decide) rfl ⟨rfl, by decide, by decide⟩ (fun w h Y => PySem.W.kIn_of Y) ?F (fun _ _ a ns hl _ hS => ⟨a, ns, rfl, hS, hl, fun _ _ e => e⟩) (fun _ _ _ _ _ h => Z.cx_none h)
  case F =>
    intro w mg fa h KX G hmg
    refine' Ck03.all_mk KX G hmg Ck03.main ?a0 ?l0 ?c0 ?k0 ?a1 ?l1 ?c1 ?k1 ?a2 ?l2 ?c2 ?k2 ?a3 ?l3 ?c3 ?k3 ?a4 ?l4 ?c4 ?k4 ?a5 ?l5 ?c5 ?k5 ?a6 ?l6 ?c6 ?k6 ?a7 ?l7 ?c7 ?k7 ?a8 ?l8 ?c8 ?k8 ?a9 ?l9 ?c9 ?k9 ?a10 ?l10 ?c10 ?k10 ?a11 ?l11 ?c11 ?k11 ?a12 ?l12 ?c12 ?k12 ?a13 ?l13 ?c13 ?k13 ?a14 ?l14 ?c14 ?k14 ?a15 ?l15 ?c15 ?k15 ?a16 ?l16 ?c16 ?k16 ?a17 ?l17 ?c17 ?k17 ?a18 ?l18 ?c18 ?k18 ?a19 ?l19 ?c19 ?k19 ?a20 ?l20 ?c20 ?k20 ?a21 ?l21 ?c21 ?k21 ?a22 ?l22 ?c22 ?k22 ?a23 ?l23 ?c23 ?k23 ?a24 ?l24 ?c24 ?k24 ?a25 ?l25 ?c25 ?k25 ?a26 ?l26 ?c26 ?k26 ?a27 ?l27 ?c27 ?k27 ?z0 ?z1 ?z2 ?z3 ?z4 ?z5 ?z6 ?z7 ?z8 ?z9 ?z10 ?z11 ?z12 ?z13 ?ii0 ?ii1
    (case a0 => k_is)
    (case l0 => k_is)
    (case c0 => k_is)
    (case k0 => k_is)
    (case a1 => k_is)
    (case l1 => k_is)
    (case c1 => k_is)
    (case k1 => k_is)
    (case a2 => k_is)
    (case l2 => k_is)
    (case c2 => k_is)
    (case k2 => k_is)
    (case a3 => k_is)
    (case l3 => k_is)
    (case c3 => k_is)
    (case k3 => k_is)
    (case a4 => k_is)
    (case l4 => k_is)
    (case c4 => k_is)
    (case k4 => k_is)
    (case a5 => k_is)
    (case l5 => k_is)
    (case c5 => k_is)
    (case k5 => k_is)
    (case a6 => k_is)
    (case l6 => k_is)
    (case c6 => k_is)
    (case k6 => k_is)
    (case a7 => k_is)
    (case l7 => k_is)
    (case c7 => k_is)
    (case k7 => k_is)
    (case a8 => k_is)
    (case l8 => k_is)
    (case c8 => k_is)
    (case k8 => k_is)
    (case a9 => k_is)
    (case l9 => k_is)
    (case c9 => k_is)
    (case k9 => k_is)
    (case a10 => k_is)
    (case l10 => k_is)
    (case c10 => k_is)
    (case k10 => k_is)
    (case a11 => k_is)
    (case l11 => k_is)
    (case c11 => k_is)
    (case k11 => k_is)
    (case a12 => k_is)
    (case l12 => k_is)
    (case c12 => k_is)
    (case k12 => k_is)
    (case a13 => k_is)
    (case l13 => k_is)
    (case c13 => k_is)
    (case k13 => k_is)
    (case a14 => k_is)
    (case l14 => k_is)
    (case c14 => k_is)
    (case k14 => k_is)
    (case a15 => k_is)
    (case l15 => k_is)
    (case c15 => k_is)
    (case k15 => k_is)
    (case a16 => k_is)
    (case l16 => k_is)
    (case c16 => k_is)
    (case k16 => k_is)
    (case a17 => k_is)
    (case l17 => k_is)
    (case c17 => k_is)
    (case k17 => k_is)
    (case a18 => k_is)
    (case l18 => k_is)
    (case c18 => k_is)
    (case k18 => k_is)
    (case a19 => k_is)
    (case l19 => k_is)
    (case c19 => k_is)
    (case k19 => k_is)
    (case a20 => k_is)
    (case l20 => k_is)
    (case c20 => k_is)
    (case k20 => k_is)
    (case a21 => k_is)
    (case l21 => k_is)
    (case c21 => k_is)
    (case k21 => k_is)
    (case a22 => k_is)
    (case l22 => k_is)
    (case c22 => k_is)
    (case k22 => k_is)
    (case a23 => k_is)
    (case l23 => k_is)
    (case c23 => k_is)
    (case k23 => k_is)
    (case a24 => k_is)
    (case l24 => k_is)
    (case c24 => k_is)
    (case k24 => k_is)
    (case a25 => k_is)
    (case l25 => k_is)
    (case c25 => k_is)
    (case k25 => k_is)
    (case a26 => k_is)
    (case l26 => k_is)
    (case c26 => k_is)
    (case k26 => k_is)
    (case a27 => k_is)
    (case l27 => k_is)
    (case c27 => k_is)
    (case k27 => k_is)
    (case z0 => k_is)
    (case z1 => k_is)
    (case z2 => k_is)
    (case z3 => k_is)
    (case z4 => k_is)
    (case z5 => k_is)
    (case z6 => k_is)
    (case z7 => k_is)
    (case z8 => k_is)
    (case z9 => k_is)
    (case z10 => k_is)
    (case z11 => k_is)
    (case z12 => k_is)
    (case z13 => k_is)
    (case ii0 => k_is)
    (case ii1 => k_is)
