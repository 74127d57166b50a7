import PyProof.Rows.All
import Wide.All
import OpenK.AllK
import Wide.FinOn
import HandS.ForMost
import HandS.ForExc
import HandS.TupAny
import HandS.SortInts
import HandS.Conv
import HandS.Style
import HandS.Zip
import HandS.Walk
import HandS.Wide
import HandS.ExcInit
import HandS.Defaults
import HandS.IsInst
import HandS.TryMany
import HandS.DictComp
import HandS.WordsDict
import KE.DataEq
import PyProof.WalkInts
import KE.SortData
import KE.GoesMore
import KE.GoesEnum
import HandS.Strs
import HandS.More
import HandS.TryOnly
import KE.GoesZip
import KE.DataFind
import HandS.TupLen
import HandS.TupSets
import KE.KeyNested
import HandS.SetBool
import KE.KDictPairs
import HandS.RaiseMore
import PyProof.Rows.SetFrom
import PyProof.Rows.StrJoinMade
import HandS.HeadHook3
import KE.KDictDisplayH
import PyProof.ZipIter
import PyProof.CallType
import PyProof.Walk
import PyProof.WalkLemmas
import PyProof.RangeIter
import PyProof.RulesTry
import HandS.ExcValue
import PyProof.Rows.TupTab
import HandS.WordsExc
import HandS.ExcField
import HandS.TupMul
import KE.DataMinMax
import HandS.SortKw
import PyProof.ReprRoads
import PyProof.ReprText
import HandS.Ends
import HandS.ExcIs
import PySem.Challenge.RW_wholeorders_k00_errors

set_option Elab.async false
set_option linter.all false
set_option maxRecDepth 100000
set_option autoImplicit false
namespace Z
open PySem PySem.Spec PyProof.Rows L2

abbrev D := PyData
abbrev St := L2.St

/-- a tuple that has no dict of its own -/
def TupN (K : PySem.W.Frag) (H : Hp) (a : Addr) (xs : List V) : Prop := (∃ o, H a = some (.frz o (.tup xs)) ∧ o.dict = none) ∨
  ∃ (o : Obj) (its : Array Value) (n : Nat), K.lookup a = some o ∧ o.cls = .type "tuple" ∧ o.dict = none ∧ o.data = .seq its n ∧ its.size ≤ sizeLine ∧ Vals xs its.toList
/-- a dict's key as data -/
def keyD : Key → PyData
  | .inl i => .int i
  | .inr x => .str x
/-- at a: an exception of the class at C, its dict at dd -/
def ExO (a C dd : Addr) : HO := .ext fun h => ∃ (o : Obj) (vs : Array Value), h.get? a = some o ∧ o.cls = .ref C ∧ o.dict = some dd ∧ o.data = .fields vs
mutual
inductive Dq (K : PySem.W.Frag) (H : Hp) : V → PyData → Prop
  | non : Dq K H .non .none
  | bl (b : Bool) : Dq K H (.bl b) (.bool b)
  | int (i : Int) : Dq K H (.int i) (.int i)
  | str (x : Str) : Dq K H (.str x) (.str x)
  | lst {a : Addr} {xs : List V} {ds : List PyData} : SqL K H a xs → DqAll K H xs ds → Dq K H (.ref a) (.list ds)
  | tup {a : Addr} {xs : List V} {ds : List PyData} : TupN K H a xs → DqAll K H xs ds → Dq K H (.ref a) (.tuple ds)
  | dic {a : Addr} {kvs : List (Key × V)} {ds : List (PyData × PyData)} : H a = some (.dK kvs) → KvAll K H kvs ds → Dq K H (.ref a) (.dict ds)
  | exc {a C dd : Addr} {c : Str} {v : V} {x : PyData} : PySem.W.nsIn K mainGlobals c = some (some (.ref C)) → H a = some (ExO a C dd) → H dd = some (.xd [(("value" : Str), v)]) → Dq K H v x → Dq K H (.ref a) (.dict [(.list [], .str c), (.list [], x)])
inductive DqAll (K : PySem.W.Frag) (H : Hp) : List V → List PyData → Prop
  | nil : DqAll K H [] []
  | cons {v : V} {vs : List V} {d : PyData} {ds : List PyData} : Dq K H v d → DqAll K H vs ds → DqAll K H (v :: vs) (d :: ds)
inductive KvAll (K : PySem.W.Frag) (H : Hp) : List (Key × V) → List (PyData × PyData) → Prop
  | nil : KvAll K H [] []
  | cons {k : Key} {v : V} {kvs : List (Key × V)} {d : PyData} {ds : List (PyData × PyData)} : Dq K H v d → KvAll K H kvs ds → KvAll K H ((k, v) :: kvs) ((keyD k, d) :: ds)
end
section
variable {K : PySem.W.Frag} {G H : Hp}
theorem TupN.sq {a : Addr} {xs : List V} (h : TupN K G a xs) : SqT K G a xs := by
  rcases h with ⟨o, h, _⟩ | ⟨o, its, n, h1, h2, _, h3⟩
  · exact .inl (.inr ⟨o, h⟩)
  · exact .inr ⟨o, its, n, h1, h2, h3⟩
theorem TupN.mono {a : Addr} {xs : List V} (e : Same G H) (h : TupN K G a xs) : TupN K H a xs := by
  rcases h with ⟨o, h, k⟩ | h
  · exact .inl ⟨o, e _ _ h, k⟩
  · exact .inr h
theorem TupN.new {a : Addr} {xs : List V} {o : Obj} (h : o.dict = none) : TupN K (upd G a (.frz o (.tup xs))) a xs := .inl ⟨o, upd_same, h⟩
mutual
theorem Dq.dp : ∀ (d : D) (v : V), d.plain = true → Dq K G v d → Dp K G v d
  | .none, _, _, h => by cases h; exact .non
  | .bool b, _, _, h => by cases h; exact .bl b
  | .int i, _, _, h => by cases h; exact .int i
  | .str x, _, _, h => by cases h; exact .str x
  | .list ds, _, p, h => by
    cases h with
    | lst hs ha => exact .lst hs (DqAll.dp ds _ (by rw [PyData.plain] at p; exact p) ha)
  | .tuple ds, _, p, h => by
    cases h with
    | tup hs ha => exact .tup hs.sq (DqAll.dp ds _ (by rw [PyData.plain] at p; exact p) ha)
  | .dict _, _, p, _ => by
    rw [PyData.plain] at p
    cases p
theorem DqAll.dp : ∀ (ds : List D) (vs : List V), PyData.plainAll ds = true → DqAll K G vs ds → DpAll K G vs ds
  | [], _, _, h => by cases h; exact .nil
  | d :: ds, _, p, h => by
    rw [PyData.plainAll, Bool.and_eq_true] at p
    cases h with
    | cons h1 h2 => exact .cons (Dq.dp d _ p.1 h1) (DqAll.dp ds _ p.2 h2)
end
mutual
theorem dq_up (e : Same G H) : ∀ {v : V} {d : D}, Dq K G v d → Dq K H v d
  | _, _, .non => .non
  | _, _, .bl b => .bl b
  | _, _, .int i => .int i
  | _, _, .str x => .str x
  | _, _, .lst hs ha => .lst (e.seq hs) (dqAll_up e ha)
  | _, _, .tup hs ha => .tup (hs.mono e) (dqAll_up e ha)
  | _, _, .dic hk ha => .dic (e _ _ hk) (kvAll_up e ha)
  | _, _, .exc h1 h2 h3 h4 => .exc h1 (e _ _ h2) (e _ _ h3) (dq_up e h4)
theorem dqAll_up (e : Same G H) : ∀ {vs : List V} {ds : List D}, DqAll K G vs ds → DqAll K H vs ds
  | _, _, .nil => .nil
  | _, _, .cons a b => .cons (dq_up e a) (dqAll_up e b)
theorem kvAll_up (e : Same G H) : ∀ {kvs : List (Key × V)} {ds : List (D × D)}, KvAll K G kvs ds → KvAll K H kvs ds
  | _, _, .nil => .nil
  | _, _, .cons a b => .cons (dq_up e a) (kvAll_up e b)
end
theorem dp_mono (e : Same G H) : ∀ (d : D) (v : V), Dq K G v d → Dq K H v d := fun _ _ h => dq_up e h
theorem dpAll_mono (e : Same G H) : ∀ (ds : List D) (vs : List V), DqAll K G vs ds → DqAll K H vs ds := fun _ _ h => dqAll_up e h
theorem dpa_length : ∀ {vs : List V} {ds : List D}, DqAll K G vs ds → vs.length = ds.length
  | _, _, .nil => rfl
  | _, _, .cons _ h => by rw [List.length_cons, List.length_cons, dpa_length h]
theorem dpa_append : ∀ {vs : List V} {ds : List D} {us : List V} {es : List D}, DqAll K G vs ds → DqAll K G us es → DqAll K G (vs ++ us) (ds ++ es)
  | _, _, _, _, .nil, h => h
  | _, _, _, _, .cons a b, h => .cons a (dpa_append b h)
theorem dpa_get : ∀ {vs : List V} {ds : List D} {i : Nat} {d : D}, DqAll K G vs ds → ds[i]? = some d → ∃ v, vs[i]? = some v ∧ Dq K G v d
  | _, _, _, _, .nil, h => by simp at h
  | _, _, 0, _, .cons a _, h => by
    simp at h
    subst h
    exact ⟨_, rfl, a⟩
  | _, _, i + 1, d, .cons _ b, h => by
    obtain ⟨v, h1, h2⟩ := dpa_get (i := i) b (by simpa using h)
    exact ⟨v, by simpa using h1, h2⟩
theorem dpa_set {v : V} {d : D} (r : Dq K G v d) : ∀ {vs : List V} {ds : List D} (i : Nat), DqAll K G vs ds → DqAll K G (vs.set i v) (ds.set i d)
  | _, _, _, .nil => .nil
  | _, _, 0, .cons _ b => .cons r b
  | _, _, i + 1, .cons a b => .cons a (dpa_set r i b)
theorem dpa_ints : ∀ (ns : List Int), DqAll K G (ns.map V.int) (ns.map PyData.int)
  | [] => .nil
  | n :: ns => .cons (.int n) (dpa_ints ns)
theorem dpa_ints' : ∀ {ns : List Int} {vs : List V}, DqAll K G vs (ns.map PyData.int) → vs = ns.map V.int
  | [], _, h => by cases h; rfl
  | n :: ns, _, h => by
    cases h with
    | cons a b =>
      cases a
      rw [dpa_ints' b]
      rfl
end

inductive SV where
  /-- not known -/
  | u
  /-- data that stays -/
  | d (x : D)
  /-- a list that is read alone (an argument) -/
  | a (xs : List D)
  /-- a list of one's own; true: the argument that is changed -/
  | own (m : Bool) (xs : List D)
  /-- a dict of one's own: its keys, tuples of ints, and what it holds -/
  | dk (ds : List (List Int × D))
/-- whether a slot holds a thing of one's own -/
def SV.ow : SV → Bool
  | .own _ _ => true
  | .dk _ => true
  | _ => false
abbrev En := List SV
inductive Rs where
  | d (x : D)
  | sl (i : Nat)
/-- what comes of a run: nothing that is spoken of, a value, an exception -/
inductive Ro (α : Type) where
  | bad
  | ok (x : α) (g : En)
  | ex (c : Str) (x : D) (g : En)
abbrev M (α : Type) := En → Ro α
def bnd {α β : Type} (m : M α) (f : α → M β) : M β := fun g => match m g with
  | .bad => .bad
  | .ok x g' => f x g'
  | .ex c x g' => .ex c x g'
def rt {α : Type} (x : α) : M α := fun g => .ok x g
/-- an argument's slot: what is a list is read alone -/
def svA : D → SV
  | .list xs => .a xs
  | x => .d x

def hT (k : List Int) : Int := reduceHash (Builtin.Tuple.tupleHashOf (k.map hashInt))
structure DkRaw (h : Heap) (l : Addr) (es : List (List Int × Addr × V)) : Prop where
  few : es.length ≤ sizeLine
  sys : (l == sysModules) = false
  ex : ∃ xs : List (List Int × Addr × Value), Paired (fun p q => p.1 = q.1 ∧ p.2.1 = q.2.1 ∧ RelV p.2.2 q.2.2) es xs ∧
    ∃ o e ep, h.get? l = some o ∧ o.ExactDict ∧ o.data = .dict e ep ∧ e.toList = xs.map (fun x => (⟨hT x.1, .ref x.2.1, x.2.2⟩ : DictEntry)) ∧ (xs.map (·.1)).Nodup
def DkO (l : Addr) (es : List (List Int × Addr × V)) : HO := .ext fun h => DkRaw h l es
inductive DkAll (K : PySem.W.Frag) (G : Hp) : List (List Int × Addr × V) → List (List Int × D) → Prop
  | nil : DkAll K G [] []
  | cons {k : List Int} {a : Addr} {v : V} {d : D} {es : List (List Int × Addr × V)} {ds : List (List Int × D)} : TupN K G a (k.map V.int) → Dq K G v d → DkAll K G es ds → DkAll K G ((k, a, v) :: es) ((k, d) :: ds)
theorem dkAll_up {K : PySem.W.Frag} {G H : Hp} (g : Same G H) : ∀ {es : List (List Int × Addr × V)} {ds : List (List Int × D)}, DkAll K G es ds → DkAll K H es ds
  | _, _, .nil => .nil
  | _, _, .cons a b c => .cons (a.mono g) (dp_mono g _ _ b) (dkAll_up g c)
/-- what a run leaves as it is: all that the frame holds; the lists that are read alone; places that a step may not make its own -/
structure Fr where
  f : Hp
  a : Hp
  k : Addr → Prop
  af : Same a f
  kf : ∀ l, k l → f l ≠ none
instance : CoeFun Fr (fun _ => Addr → Option HO) := ⟨Fr.f⟩
instance : Coe Fr Hp := ⟨Fr.f⟩
def SlotRel (K : PySem.W.Frag) (F : Fr) (G H : Hp) (Mu : Option Addr) (sv : SV) (s : Option V) : Prop := match sv with
  | .u => True
  | .d x => ∃ v, s = some v ∧ Dq K G v x
  | .a xs => ∃ l vs, s = some (.ref l) ∧ SqL K F.a l vs ∧ DqAll K G vs xs
  | .own m xs => ∃ l vs, s = some (.ref l) ∧ H l = some (.lst vs) ∧ DqAll K G vs xs ∧ F l = none ∧ G l = none ∧ (m = true → Mu = some l) ∧ (m = false → Mu ≠ some l)
  | .dk ds => ∃ l es, s = some (.ref l) ∧ H l = some (DkO l es) ∧ DkAll K G es ds ∧ F l = none ∧ G l = none ∧ Mu ≠ some l
def Owns (Γ : En) (σ : St) (i : Nat) (l : Addr) : Prop := ∃ sv : SV, Γ[i]? = some sv ∧ sv.ow = true ∧ σ[i]? = some (some (.ref l))
structure Rel (K : PySem.W.Frag) (F : Fr) (G : Hp) (Mu : Option Addr) (Γ : En) (σ : St) (H : Hp) : Prop where
  fh : Same F.f H
  lk : ∀ l, F.k l → G l = none
  gh : Same G H
  mu : ∀ l, Mu = some l → F l = none ∧ G l = none ∧ H l ≠ none
  len : Γ.length = σ.length
  sl : ∀ (i : Nat) (sv : SV), Γ[i]? = some sv → SlotRel K F G H Mu sv (σ[i]?.join)
  sep : ∀ (i j : Nat) (l : Addr), Owns Γ σ i l → Owns Γ σ j l → i = j

section
variable {K : PySem.W.Frag} {F : Fr} {G H H' G' : Hp} {Mu : Option Addr} {Γ : En} {σ : St}
theorem join_some {α : Type} {o : Option (Option α)} {v : α} (h : o.join = some v) : o = some (some v) := by
  cases o with
  | none => cases h
  | some x =>
    cases x with
    | none => cases h
    | some y =>
      cases h
      rfl
theorem Rel.owned (R : Rel K F G Mu Γ σ H) {i : Nat} {m : Bool} {xs : List D} (h : Γ[i]? = some (.own m xs)) : ∃ l vs, σ[i]? = some (some (.ref l)) ∧ H l = some (.lst vs) ∧ DqAll K G vs xs ∧ F l = none ∧ G l = none ∧ (m = true → Mu = some l) ∧ (m = false → Mu ≠ some l) ∧ Owns Γ σ i l := by
  obtain ⟨l, vs, h1, h2, h3, h4, h5, h6, h7⟩ := R.sl i _ h
  have e := join_some h1
  exact ⟨l, vs, e, h2, h3, h4, h5, h6, h7, _, h, rfl, e⟩
theorem Rel.dkd (R : Rel K F G Mu Γ σ H) {i : Nat} {ds : List (List Int × D)} (h : Γ[i]? = some (.dk ds)) : ∃ l es, σ[i]? = some (some (.ref l)) ∧ H l = some (DkO l es) ∧ DkAll K G es ds ∧ F l = none ∧ G l = none ∧ Mu ≠ some l ∧ Owns Γ σ i l := by
  obtain ⟨l, es, h1, h2, h3, h4, h5, h6⟩ := R.sl i _ h
  have e := join_some h1
  exact ⟨l, es, e, h2, h3, h4, h5, h6, _, h, rfl, e⟩
theorem Rel.data (R : Rel K F G Mu Γ σ H) {i : Nat} {x : D} (h : Γ[i]? = some (.d x)) : ∃ v, σ[i]? = some (some v) ∧ Dq K G v x := by
  obtain ⟨v, h1, h2⟩ := R.sl i _ h
  exact ⟨v, join_some h1, h2⟩
theorem Rel.arg (R : Rel K F G Mu Γ σ H) {i : Nat} {xs : List D} (h : Γ[i]? = some (.a xs)) : ∃ l vs, σ[i]? = some (some (.ref l)) ∧ SqL K F.a l vs ∧ DqAll K G vs xs := by
  obtain ⟨l, vs, h1, h2, h3⟩ := R.sl i _ h
  exact ⟨l, vs, join_some h1, h2, h3⟩
theorem Rel.mono {Mu' : Option Addr} (R : Rel K F G Mu Γ σ H) (f : Same F.f H') (g : Same G G') (gh : Same G' H') (mu : ∀ l, Mu = some l → G' l = none ∧ H' l ≠ none)
    (own : ∀ i l, Owns Γ σ i l → G' l = none ∧ H' l = H l) (lk : ∀ l, F.k l → G' l = none) : Rel K F G' Mu Γ σ H' where
  fh := f
  lk := lk
  gh := gh
  mu := fun l e => ⟨(R.mu l e).1, (mu l e).1, (mu l e).2⟩
  len := R.len
  sl := fun i sv h => by
    have q := R.sl i sv h
    cases sv with
    | u => exact True.intro
    | d x =>
      obtain ⟨v, h1, h2⟩ := q
      exact ⟨v, h1, dp_mono g x v h2⟩
    | a xs =>
      obtain ⟨l, vs, h1, h2, h3⟩ := q
      exact ⟨l, vs, h1, h2, dpAll_mono g _ _ h3⟩
    | own m xs =>
      obtain ⟨l, vs, h1, h2, h3, h4, h5, h6, h7⟩ := q
      obtain ⟨o1, o2⟩ := own i l ⟨_, h, rfl, join_some h1⟩
      exact ⟨l, vs, h1, by rw [o2]; exact h2, dpAll_mono g _ _ h3, h4, o1, h6, h7⟩
    | dk ds =>
      obtain ⟨l, es, h1, h2, h3, h4, h5, h6⟩ := q
      obtain ⟨o1, o2⟩ := own i l ⟨_, h, rfl, join_some h1⟩
      exact ⟨l, es, h1, by rw [o2]; exact h2, dkAll_up g h3, h4, o1, h6⟩
  sep := R.sep
theorem Rel.there (R : Rel K F G Mu Γ σ H) {i : Nat} {l : Addr} (h : Owns Γ σ i l) : F l = none ∧ G l = none ∧ ∃ o, H l = some o := by
  obtain ⟨sv, h1, ho, h2⟩ := h
  cases sv with
  | own m xs =>
    obtain ⟨l', vs, e, h3, _, h4, h5, _⟩ := R.owned h1
    rw [h2] at e
    cases e
    exact ⟨h4, h5, _, h3⟩
  | dk ds =>
    obtain ⟨l', es, e, h3, _, h4, h5, _⟩ := R.dkd h1
    rw [h2] at e
    cases e
    exact ⟨h4, h5, _, h3⟩
  | u => cases ho
  | d x => cases ho
  | a xs => cases ho
theorem same_upd {p : Addr} {o : HO} (n : H p = none) : Same H (upd H p o) := fun b x e => by
  rw [upd_ne (ne_of_none e n)]
  exact e
theorem same_upd2 {p : Addr} {o : HO} (e : Same G H) : Same (upd G p o) (upd H p o) := fun b x h => by
  by_cases hb : b = p
  · subst hb
    rw [upd_same] at h ⊢
    exact h
  · rw [upd_ne hb] at h ⊢
    exact e b x h
theorem same_updR {p : Addr} {o : HO} (e : Same G H) (n : G p = none) : Same G (upd H p o) := fun b x h => by
  rw [upd_ne (ne_of_none h n)]
  exact e b x h
/-- a new object that stays -/
theorem Rel.new (R : Rel K F G Mu Γ σ H) {p : Addr} {o : HO} (n : H p = none) : Rel K F (upd G p o) Mu Γ σ (upd H p o) ∧ Same G (upd G p o) := by
  have nG : G p = none := R.gh.free n
  refine ⟨R.mono (Mu' := Mu) (fun b x h => same_upd n b x (R.fh b x h)) (same_upd nG) (same_upd2 R.gh) (fun l e => ?_) (fun i l h => ?_) (fun l e => ?_), same_upd nG⟩
  · obtain ⟨_, h2, h3⟩ := R.mu l e
    have hne : l ≠ p := fun z => by rw [z] at h3; exact h3 n
    rw [upd_ne hne, upd_ne hne]
    exact ⟨h2, h3⟩
  · obtain ⟨h1, h2, vs, h3⟩ := R.there h
    have hne : l ≠ p := ne_of_none h3 n
    rw [upd_ne hne, upd_ne hne]
    exact ⟨h2, rfl⟩
  · have hne : l ≠ p := fun z => by
      obtain ⟨o, q⟩ := Option.ne_none_iff_exists'.mp (F.kf l e)
      have := R.fh l o q
      rw [z, n] at this
      cases this
    rw [upd_ne hne]
    exact R.lk l e
/-- a new object that is not told of -/
theorem Rel.newX (R : Rel K F G Mu Γ σ H) {p : Addr} {o : HO} (n : H p = none) : Rel K F G Mu Γ σ (upd H p o) := by
  refine R.mono (Mu' := Mu) (fun b x h => same_upd n b x (R.fh b x h)) (Same.refl _) (fun b x h => same_upd n b x (R.gh b x h)) (fun l e => ?_) (fun i l h => ?_) R.lk
  · obtain ⟨_, h2, h3⟩ := R.mu l e
    have hne : l ≠ p := fun z => by rw [z] at h3; exact h3 n
    rw [upd_ne hne]
    exact ⟨h2, h3⟩
  · obtain ⟨h1, h2, vs, h3⟩ := R.there h
    have hne : l ≠ p := ne_of_none h3 n
    rw [upd_ne hne]
    exact ⟨h2, rfl⟩
theorem owns_set {i j : Nat} {sv : SV} {l : Addr} (h : Owns (Γ.set j sv) σ i l) (hn : sv.ow = false) : Owns Γ σ i l ∧ i ≠ j := by
  obtain ⟨m, h1, xs, h2⟩ := h
  by_cases e : i = j
  · subst e
    by_cases hl : i < Γ.length
    · rw [List.getElem?_set_self hl] at h1
      cases h1
      rw [hn] at xs
      cases xs
    · rw [List.getElem?_eq_none (by simpa using hl)] at h1
      cases h1
  · rw [List.getElem?_set_ne (Ne.symm e)] at h1
    exact ⟨⟨m, h1, xs, h2⟩, e⟩
/-- an own list becomes data that stays -/
theorem Rel.freeze (R : Rel K F G Mu Γ σ H) {i : Nat} {xs : List D} (h : Γ[i]? = some (.own false xs)) :
    ∃ (l : Addr) (G' : Hp), σ[i]? = some (some (.ref l)) ∧ Rel K F G' Mu (Γ.set i (.d (.list xs))) σ H ∧ Same G G' ∧ Dq K G' (.ref l) (.list xs) := by
  obtain ⟨l, vs, e, h2, h3, h4, h5, _, h7, ho⟩ := R.owned h
  have hs : Same G (upd G l (.lst vs)) := same_upd h5
  have gh : Same (upd G l (.lst vs)) H := fun b x q => by
    by_cases hb : b = l
    · subst hb
      rw [upd_same] at q
      rw [h2]
      exact q
    · rw [upd_ne hb] at q
      exact R.gh b x q
  have lk' : ∀ l', F.k l' → upd G l (.lst vs) l' = none := fun l' e' => by
    rw [upd_ne (fun z => F.kf l' e' (by rw [z]; exact h4))]
    exact R.lk l' e'
  have dp : Dq K (upd G l (.lst vs)) (.ref l) (.list xs) := .lst (.of upd_same) (dpAll_mono hs _ _ h3)
  have hi : i < Γ.length := by
    have := (List.getElem?_eq_some_iff.mp h).1
    exact this
  refine ⟨l, _, e, ⟨R.fh, lk', gh, fun l' q => ?_, by rw [List.length_set]; exact R.len, fun j sv hj => ?_, fun j k l' a b => ?_⟩, hs, dp⟩
  · obtain ⟨m1, m2, m3⟩ := R.mu l' q
    have hne : l' ≠ l := fun z => h7 rfl (by rw [q, z])
    rw [upd_ne hne]
    exact ⟨m1, m2, m3⟩
  · by_cases hji : j = i
    · subst hji
      rw [List.getElem?_set_self hi] at hj
      cases hj
      exact ⟨_, by rw [e] <;> rfl, dp⟩
    · rw [List.getElem?_set_ne (Ne.symm hji)] at hj
      have q := R.sl j sv hj
      cases sv with
      | u => exact True.intro
      | d x =>
        obtain ⟨v, q1, q2⟩ := q
        exact ⟨v, q1, dp_mono hs x v q2⟩
      | a ys =>
        obtain ⟨l', vs', q1, q2, q3⟩ := q
        exact ⟨l', vs', q1, q2, dpAll_mono hs _ _ q3⟩
      | own m ys =>
        obtain ⟨l', vs', q1, q2, q3, q4, q5, q6, q7⟩ := q
        have hne : l' ≠ l := fun z => by
          subst z
          exact hji (R.sep j i l' ⟨_, hj, rfl, join_some q1⟩ ho)
        exact ⟨l', vs', q1, q2, dpAll_mono hs _ _ q3, q4, by rw [upd_ne hne]; exact q5, q6, q7⟩
      | dk ds =>
        obtain ⟨l', es, q1, q2, q3, q4, q5, q6⟩ := q
        have hne : l' ≠ l := fun z => by
          subst z
          exact hji (R.sep j i l' ⟨_, hj, rfl, join_some q1⟩ ho)
        exact ⟨l', es, q1, q2, dkAll_up hs q3, q4, by rw [upd_ne hne]; exact q5, q6⟩
  · obtain ⟨a1, _⟩ := owns_set a rfl
    obtain ⟨b1, _⟩ := owns_set b rfl
    exact R.sep j k l' a1 b1
/-- an own list's content is another -/
theorem Rel.change (R : Rel K F G Mu Γ σ H) {i : Nat} {m : Bool} {xs ys : List D} {l : Addr} {us : List V} (h : Γ[i]? = some (.own m xs)) (e : σ[i]? = some (some (.ref l))) (d : DqAll K G us ys) :
    Rel K F G Mu (Γ.set i (.own m ys)) σ (upd H l (.lst us)) := by
  obtain ⟨l0, vs, e0, h2, h3, h4, h5, h6, h7, ho⟩ := R.owned h
  rw [e] at e0
  cases e0
  have hi : i < Γ.length := (List.getElem?_eq_some_iff.mp h).1
  have own' : ∀ j l', Owns (Γ.set i (.own m ys)) σ j l' → Owns Γ σ j l' := fun j l' z => by
    obtain ⟨m', z1, zs, z2⟩ := z
    by_cases hji : j = i
    · subst hji
      rw [e] at z2
      cases z2
      exact ho
    · rw [List.getElem?_set_ne (Ne.symm hji)] at z1
      exact ⟨m', z1, zs, z2⟩
  refine ⟨same_updR R.fh h4, R.lk, same_updR R.gh h5, fun l' q => ?_, by rw [List.length_set]; exact R.len, fun j sv hj => ?_, fun j k l' a b => R.sep j k l' (own' _ _ a) (own' _ _ b)⟩
  · obtain ⟨m1, m2, m3⟩ := R.mu l' q
    refine ⟨m1, m2, ?_⟩
    by_cases hl : l' = l
    · rw [hl, upd_same]
      exact fun z => nomatch z
    · rw [upd_ne hl]
      exact m3
  · by_cases hji : j = i
    · subst hji
      rw [List.getElem?_set_self hi] at hj
      cases hj
      exact ⟨l, us, by rw [e] <;> rfl, upd_same, d, h4, h5, h6, h7⟩
    · rw [List.getElem?_set_ne (Ne.symm hji)] at hj
      have q := R.sl j sv hj
      cases sv with
      | u => exact True.intro
      | d x => exact q
      | a ys => exact q
      | own m' zs =>
        obtain ⟨l', vs', q1, q2, q3, q4, q5, q6, q7⟩ := q
        have hne : l' ≠ l := fun z => by
          subst z
          exact hji (R.sep j i l' ⟨_, hj, rfl, join_some q1⟩ ho)
        exact ⟨l', vs', q1, by rw [upd_ne hne]; exact q2, q3, q4, q5, q6, q7⟩
      | dk ds =>
        obtain ⟨l', es, q1, q2, q3, q4, q5, q6⟩ := q
        have hne : l' ≠ l := fun z => by
          subst z
          exact hji (R.sep j i l' ⟨_, hj, rfl, join_some q1⟩ ho)
        exact ⟨l', es, q1, by rw [upd_ne hne]; exact q2, q3, q4, q5, q6⟩
/-- a slot is stored -/
theorem Rel.store (R : Rel K F G Mu Γ σ H) {i : Nat} {sv : SV} {v : V} (q : SlotRel K F G H Mu sv (some v)) (hn : sv.ow = true → ∀ j l, v = .ref l → Owns Γ σ j l → j = i) : Rel K F G Mu (Γ.set i sv) (σ.set i (some v)) H := by
  have own' : ∀ j l', Owns (Γ.set i sv) (σ.set i (some v)) j l' → (j ≠ i ∧ Owns Γ σ j l') ∨ (j = i ∧ sv.ow = true ∧ v = .ref l') := fun j l' z => by
    obtain ⟨m', z1, zs, z2⟩ := z
    by_cases hji : j = i
    · subst hji
      have hi : j < Γ.length := by
        have := (List.getElem?_eq_some_iff.mp z1).1
        simpa using this
      rw [List.getElem?_set_self hi] at z1
      rw [List.getElem?_set_self (by rw [← R.len]; exact hi)] at z2
      cases z1
      cases z2
      exact .inr ⟨rfl, zs, rfl⟩
    · rw [List.getElem?_set_ne (Ne.symm hji)] at z1 z2
      exact .inl ⟨hji, m', z1, zs, z2⟩
  refine ⟨R.fh, R.lk, R.gh, R.mu, by rw [List.length_set, List.length_set]; exact R.len, fun j sv' hj => ?_, fun j k l' a b => ?_⟩
  · by_cases hji : j = i
    · subst hji
      have hi : j < Γ.length := by
        have := (List.getElem?_eq_some_iff.mp hj).1
        simpa using this
      rw [List.getElem?_set_self hi] at hj
      cases hj
      rw [List.getElem?_set_self (by rw [← R.len]; exact hi)]
      exact q
    · rw [List.getElem?_set_ne (Ne.symm hji)] at hj
      rw [List.getElem?_set_ne (Ne.symm hji)]
      exact R.sl j sv' hj
  · rcases own' j l' a with ⟨a1, a2⟩ | ⟨a1, a2, a3⟩
    · rcases own' k l' b with ⟨b1, b2⟩ | ⟨b1, b2, b3⟩
      · exact R.sep j k l' a2 b2
      · exact absurd (hn b2 j l' b3 a2) a1
    · rcases own' k l' b with ⟨b1, b2⟩ | ⟨b1, b2, b3⟩
      · exact absurd (hn a2 k l' a3 b2) b1
      · rw [a1, b1]
/-- a slot is forgotten -/
theorem Rel.forget (R : Rel K F G Mu Γ σ H) (i : Nat) {o : Option V} : Rel K F G Mu (Γ.set i .u) (σ.set i o) H := by
  have own' : ∀ j l', Owns (Γ.set i .u) (σ.set i o) j l' → Owns Γ σ j l' := fun j l' z => by
    obtain ⟨m', z1, zs, z2⟩ := z
    by_cases hji : j = i
    · subst hji
      have hi : j < Γ.length := by
        have := (List.getElem?_eq_some_iff.mp z1).1
        simpa using this
      rw [List.getElem?_set_self hi] at z1
      cases z1
      cases zs
    · rw [List.getElem?_set_ne (Ne.symm hji)] at z1 z2
      exact ⟨m', z1, zs, z2⟩
  refine ⟨R.fh, R.lk, R.gh, R.mu, by rw [List.length_set, List.length_set]; exact R.len, fun j sv' hj => ?_, fun j k l' a b => R.sep j k l' (own' _ _ a) (own' _ _ b)⟩
  by_cases hji : j = i
  · subst hji
    have hi : j < Γ.length := by
      have := (List.getElem?_eq_some_iff.mp hj).1
      simpa using this
    rw [List.getElem?_set_self hi] at hj
    cases hj
    exact True.intro
  · rw [List.getElem?_set_ne (Ne.symm hji)] at hj
    rw [List.getElem?_set_ne (Ne.symm hji)]
    exact R.sl j sv' hj
end
end Z

set_option Elab.async false
set_option linter.all false
set_option maxRecDepth 100000
set_option autoImplicit false
set_option maxHeartbeats 1000000
namespace Z
open PySem PySem.Spec PyProof.Rows L2

structure Ext (G H G' H' : Hp) : Prop where
  g : Same G G'
  gh : Same G' H'
  h : Same H H'
  out : ∀ l, H l ≠ none → G' l = G l
section
variable {K : PySem.W.Frag} {F : Fr} {G H H' G' : Hp} {Mu : Option Addr} {Γ : En} {σ : St}
theorem Ext.refl (e : Same G H) : Ext G H G H := ⟨Same.refl _, e, Same.refl _, fun _ _ => rfl⟩
theorem Ext.new {p : Addr} {o : HO} (e : Same G H) (n : H p = none) : Ext G H (upd G p o) (upd H p o) :=
  ⟨same_upd (e.free n), same_upd2 e, same_upd n, fun l h => by rw [upd_ne (fun z => h (by rw [z]; exact n))]⟩
theorem Ext.trans {G1 H1 : Hp} (a : Ext G H G1 H1) (b : Ext G1 H1 G' H') : Ext G H G' H' :=
  ⟨a.g.trans b.g, b.gh, a.h.trans b.h, fun l h => (b.out l (fun z => h (a.h.free z))).trans (a.out l h)⟩
theorem Rel.ext (R : Rel K F G Mu Γ σ H) (e : Ext G H G' H') : Rel K F G' Mu Γ σ H' := by
  refine R.mono (Mu' := Mu) (R.fh.trans e.h) e.g e.gh (fun l q => ?_) (fun i l h => ?_) (fun l q => ?_)
  · obtain ⟨_, h2, h3⟩ := R.mu l q
    exact ⟨(e.out l h3).trans h2, fun z => h3 (e.h.free z)⟩
  · obtain ⟨h1, h2, vs, h3⟩ := R.there h
    exact ⟨(e.out l (by rw [h3]; exact fun z => nomatch z)).trans h2, by rw [h3]; exact e.h l _ h3⟩
  · obtain ⟨o, w⟩ := Option.ne_none_iff_exists'.mp (F.kf l q)
    exact (e.out l (by rw [R.fh l o w]; exact fun z => nomatch z)).trans (R.lk l q)
end

abbrev Rho (α β : Type) := PySem.W.Frag → Fr → Hp → Option Addr → En → St → Hp → α → β → Prop
def zpost {α β : Type} (X : Cx) (W : WX) (σ : St) (ρ : Rho α β) (F : Fr) (G : Hp) (Mu : Option Addr) (Q : β → Hp → Prop) (o : Ro α) : Prop := match o with
  | .bad => False
  | .ok r Γ' => ∀ v H' G', Same G G' → Rel X.K F G' Mu Γ' σ H' → ρ X.K F G' Mu Γ' σ H' r v → Q v H'
  | .ex c x Γ' => ∀ C a v H' G', X.mg c = some (.ref C) → Same G G' → Rel X.K F G' Mu Γ' σ H' → H' a = some (.xd [("value", v)]) → Dq X.K G' v x → F.f a = none → Mu ≠ some a → W (.ref C) (some a) σ H'
def zt {α β : Type} (X : Cx) (W : WX) (ρ : Rho α β) (m : M α) : St → Hp → (β → Hp → Prop) → Prop := fun σ H Q =>
  ∃ F G Mu Γ, Rel X.K F G Mu Γ σ H ∧ zpost X W σ ρ F G Mu Q (m Γ)
def rhoD : Rho D V := fun K _ G _ _ _ _ x v => Dq K G v x
def rhoR : Rho Rs V := fun K _ G _ _ σ _ r v => match r with
  | .d x => Dq K G v x
  | .sl i => σ[i]? = some (some v)
def rhoO : Rho (List D) V := fun K F G Mu Γ σ H xs v => ∃ l vs, v = .ref l ∧ H l = some (.lst vs) ∧ DqAll K G vs xs ∧ F l = none ∧ G l = none ∧ Mu ≠ some l ∧ ∀ i, ¬ Owns Γ σ i l
def rhoB : Rho Bool Bool := fun _ _ _ _ _ _ _ x b => x = b
def rhoDs : Rho (List D) (List V) := fun K _ G _ _ _ _ xs vs => DqAll K G vs xs
def RsAll (K : PySem.W.Frag) (G : Hp) (σ : St) : List Rs → List V → Prop
  | [], vs => vs = []
  | r :: rs, vs => ∃ v us, vs = v :: us ∧ (match r with | .d x => Dq K G v x | .sl i => σ[i]? = some (some v)) ∧ RsAll K G σ rs us
def rhoRs : Rho (List Rs) (List V) := fun K _ G _ _ σ _ rs vs => RsAll K G σ rs vs

/-- an expression gives data that stays -/
def DP (X : Cx) (e : Expr) (m : M D) : Prop := ∀ W, Takes X W → PE X e (zt X W rhoD m)
/-- .. data, or a name -/
def DV (X : Cx) (e : Expr) (m : M Rs) : Prop := ∀ W, Takes X W → PE X e (zt X W rhoR m)
/-- .. a new list -/
def DO (X : Cx) (e : Expr) (m : M (List D)) : Prop := ∀ W, Takes X W → PE X e (zt X W rhoO m)
def DT (X : Cx) (e : Expr) (m : M Bool) : Prop := ∀ W, Takes X W → PT X e (zt X W rhoB m)
/-- .. as a part of and, or -/
def DW (X : Cx) (e : Expr) (m : M Bool) : Prop := ∀ W, Takes X W → PW X e (zt X W rhoB m)
def DPs (X : Cx) (es : List Expr) (m : M (List D)) : Prop := ∀ W, Takes X W → PA X es (zt X W rhoDs m)
def DVs (X : Cx) (es : List Expr) (m : M (List Rs)) : Prop := ∀ W, Takes X W → PA X es (zt X W rhoRs m)

theorem pe_imp {X : Cx} {e : Expr} {t t' : TE} (p : PE X e t) (h : ∀ σ H Q, t' σ H Q → t σ H Q) : PE X e t' := ⟨fun pins s σ H Q I q => p.run pins s σ H Q I (h σ H Q q)⟩
theorem pt_imp {X : Cx} {e : Expr} {t t' : TT} (p : PT X e t) (h : ∀ σ H Q, t' σ H Q → t σ H Q) : PT X e t' := ⟨fun pins s σ H Q I q => p.run pins s σ H Q I (h σ H Q q)⟩
theorem pw_imp {X : Cx} {e : Expr} {t t' : TT} (p : PW X e t) (h : ∀ σ H Q, t' σ H Q → t σ H Q) : PW X e t' := ⟨fun wh pins s σ H Q I q => p.run wh pins s σ H Q I (h σ H Q q)⟩
theorem pa_imp {X : Cx} {es : List Expr} {t t' : TA} (p : PA X es t) (h : ∀ σ H Q, t' σ H Q → t σ H Q) : PA X es t' := ⟨fun pos pins s σ H Q I q => p.run pos pins s σ H Q I (h σ H Q q)⟩
theorem ps_imp {X : Cx} {st : Stmt} {t t' : TS} (p : PS X st t) (h : ∀ D σ H, t' D σ H → t D σ H) : PS X st t' := ⟨fun pins s σ H D I q => p.run pins s σ H D I (h D σ H q)⟩
theorem pss_imp {X : Cx} {st : List Stmt} {t t' : TS} (p : PSs X st t) (h : ∀ D σ H, t' D σ H → t D σ H) : PSs X st t' := ⟨fun pins s σ H D I q => p.run pins s σ H D I (h D σ H q)⟩

section
variable {X : Cx} {W : WX} {σ : St} {H : Hp} {α β γ δ ε ζ : Type} {ρ : Rho α β} {ρ' : Rho γ δ} {ρ'' : Rho ε ζ} {F : Fr} {G G' : Hp} {Mu : Option Addr}
theorem zpost.rebase {Q : β → Hp → Prop} {o : Ro α} (e : Same G G') (p : zpost X W σ ρ F G Mu Q o) : zpost X W σ ρ F G' Mu Q o := by
  cases o with
  | bad => exact p
  | ok r Γ' => exact fun v H' G2 h => p v H' G2 (e.trans h)
  | ex c x Γ' => exact fun C a v H' G2 h1 h2 => p C a v H' G2 h1 (e.trans h2)
theorem zpost.imp {Q Q' : β → Hp → Prop} {o : Ro α} (p : zpost X W σ ρ F G Mu Q o) (h : ∀ v H', Q v H' → Q' v H') : zpost X W σ ρ F G Mu Q' o := by
  cases o with
  | bad => exact p
  | ok r Γ' => exact fun v H' G2 h1 h2 h3 => h _ _ (p v H' G2 h1 h2 h3)
  | ex c x Γ' => exact p
theorem zt.imp {m : M α} {Q Q' : β → Hp → Prop} (p : zt X W ρ m σ H Q) (h : ∀ v H', Q v H' → Q' v H') : zt X W ρ m σ H Q' := by
  obtain ⟨F, G, Mu, Γ, R, q⟩ := p
  exact ⟨F, G, Mu, Γ, R, q.imp h⟩
/-- the first part of a run, the rest behind it -/
theorem zt_bnd {m : M α} {f : α → M γ} {Q : δ → Hp → Prop} (p : zt X W ρ' (bnd m f) σ H Q) :
    zt X W ρ m σ H fun v H1 => ∃ r F G Mu Γ, Rel X.K F G Mu Γ σ H1 ∧ ρ X.K F G Mu Γ σ H1 r v ∧ zpost X W σ ρ' F G Mu Q (f r Γ) := by
  obtain ⟨F, G, Mu, Γ, R, q⟩ := p
  refine ⟨F, G, Mu, Γ, R, ?_⟩
  unfold bnd at q
  cases e : m Γ with
  | bad => rw [e] at q; exact q
  | ok r Γ1 =>
    rw [e] at q
    exact fun v H1 G1 h1 R1 h2 => ⟨r, F, G1, Mu, Γ1, R1, h2, q.rebase h1⟩
  | ex c x Γ1 => rw [e] at q; exact q
/-- two parts in a row; what the first gave still stands -/
theorem zt_bnd2 {m : M α} {n : M γ} {f : α → γ → M ε} {Q : ζ → Hp → Prop} (st : ∀ K F G Mu Γ σ H r v F' G' Mu' Γ' H', Same G G' → ρ K F G Mu Γ σ H r v → ρ K F' G' Mu' Γ' σ H' r v)
    (p : zt X W ρ'' (bnd m fun r => bnd n fun s => f r s) σ H Q) :
    zt X W ρ m σ H fun v H1 => zt X W ρ' n σ H1 fun u H2 => ∃ r s F G Mu Γ, Rel X.K F G Mu Γ σ H2 ∧ ρ X.K F G Mu Γ σ H2 r v ∧ ρ' X.K F G Mu Γ σ H2 s u ∧ zpost X W σ ρ'' F G Mu Q (f r s Γ) := by
  obtain ⟨F, G, Mu, Γ, R, q⟩ := p
  refine ⟨F, G, Mu, Γ, R, ?_⟩
  unfold bnd at q
  cases e : m Γ with
  | bad => rw [e] at q; exact q
  | ok r Γ1 =>
    rw [e] at q
    refine fun v H1 G1 h1 R1 h2 => ⟨F, G1, Mu, Γ1, R1, ?_⟩
    dsimp only at q
    cases e2 : n Γ1 with
    | bad => rw [e2] at q; exact q
    | ok s Γ2 =>
      rw [e2] at q
      exact fun u H2 G2 k1 R2 k2 => ⟨r, s, F, G2, Mu, Γ2, R2, st _ _ _ _ _ _ _ _ _ _ _ _ _ _ k1 h2, k2, q.rebase (h1.trans k1)⟩
    | ex c x Γ2 => rw [e2] at q; exact q.rebase h1
  | ex c x Γ1 => rw [e] at q; exact q
end
theorem stD : ∀ K F G Mu Γ σ H r v F' G' Mu' Γ' H', Same G G' → rhoD K F G Mu Γ σ H r v → rhoD K F' G' Mu' Γ' σ H' r v := fun _ _ _ _ _ _ _ _ _ _ _ _ _ _ e h => dp_mono e _ _ h
theorem stR : ∀ K F G Mu Γ σ H r v F' G' Mu' Γ' H', Same G G' → rhoR K F G Mu Γ σ H r v → rhoR K F' G' Mu' Γ' σ H' r v := fun _ _ _ _ _ _ _ r _ _ _ _ _ _ e h => by
  cases r with
  | d x => exact dp_mono e _ _ h
  | sl i => exact h
def vl (g : En) : Rs → Option D
  | .d x => some x
  | .sl i => match g[i]? with
    | some (.d x) => some x
    | some (.a xs) => some (.list xs)
    | some (.own _ xs) => some (.list xs)
    | _ => none
/-- what is read: data, or a list whose items are such -/
def Rdb (K : PySem.W.Frag) (G H : Hp) (v : V) (x : D) : Prop := Dq K G v x ∨ ∃ l vs xs, v = .ref l ∧ x = .list xs ∧ SqL K H l vs ∧ DqAll K G vs xs
section
variable {K : PySem.W.Frag} {F : Fr} {G H H' G' : Hp} {Mu : Option Addr} {Γ : En} {σ : St}
theorem Rdb.dp (e : Same G H) {v : V} {x : D} (h : Rdb K G H v x) : Dq K H v x := by
  rcases h with h | ⟨l, vs, xs, rfl, rfl, h1, h2⟩
  · exact dp_mono e _ _ h
  · exact .lst h1 (dpAll_mono e _ _ h2)
theorem Rdb.list (e : Same G H) {v : V} {xs : List D} (h : Rdb K G H v (.list xs)) : ∃ l vs, v = .ref l ∧ SqL K H l vs ∧ DqAll K G vs xs := by
  rcases h with h | ⟨l, vs, xs, rfl, q, h1, h2⟩
  · cases h with
    | lst h1 h2 => exact ⟨_, _, rfl, e.seq h1, h2⟩
  · cases q
    exact ⟨l, vs, rfl, h1, h2⟩
theorem Rdb.tup (e : Same G H) {v : V} {xs : List D} (h : Rdb K G H v (.tuple xs)) : ∃ l vs, v = .ref l ∧ TupN K H l vs ∧ DqAll K G vs xs := by
  rcases h with h | ⟨l, vs, xs, rfl, q, h1, h2⟩
  · cases h with
    | tup h1 h2 => exact ⟨_, _, rfl, h1.mono e, h2⟩
  · cases q
theorem Rdb.int {v : V} {i : Int} (h : Rdb K G H v (.int i)) : v = .int i := by
  rcases h with h | ⟨l, vs, xs, rfl, q, h1, h2⟩
  · cases h; rfl
  · cases q
theorem Rdb.bool {v : V} {i : Bool} (h : Rdb K G H v (.bool i)) : v = .bl i := by
  rcases h with h | ⟨l, vs, xs, rfl, q, h1, h2⟩
  · cases h; rfl
  · cases q
theorem Rdb.str {v : V} {i : Str} (h : Rdb K G H v (.str i)) : v = .str i := by
  rcases h with h | ⟨l, vs, xs, rfl, q, h1, h2⟩
  · cases h; rfl
  · cases q
theorem Rdb.none {v : V} (h : Rdb K G H v .none) : v = .non := by
  rcases h with h | ⟨l, vs, xs, rfl, q, h1, h2⟩
  · cases h; rfl
  · cases q
theorem Rel.read (R : Rel K F G Mu Γ σ H) {r : Rs} {v : V} {x : D} (h : rhoR K F G Mu Γ σ H r v) (e : vl Γ r = some x) : Rdb K G H v x := by
  cases r with
  | d y =>
    cases e
    exact .inl h
  | sl i =>
    have h' : σ[i]? = some (some v) := h
    unfold vl at e
    dsimp only at e
    split at e
    · rename_i y q
      cases e
      obtain ⟨v', h1, h2⟩ := R.data q
      rw [h'] at h1
      cases h1
      exact .inl h2
    · rename_i ys q
      cases e
      obtain ⟨l, vs, h1, h2, h3⟩ := R.arg q
      rw [h'] at h1
      cases h1
      exact .inr ⟨l, vs, ys, rfl, rfl, (F.af.trans R.fh).seq h2, h3⟩
    · rename_i m ys q
      cases e
      obtain ⟨l, vs, h1, h2, h3, _⟩ := R.owned q
      rw [h'] at h1
      cases h1
      exact .inr ⟨l, vs, ys, rfl, rfl, .of h2, h3⟩
    · cases e
end
def dName (i : Nat) : M Rs := fun g => match g[i]? with
  | some (.d x) => .ok (.d x) g
  | some (.a _) => .ok (.sl i) g
  | some (.own _ _) => .ok (.sl i) g
  | _ => .bad
def dv (m : M D) : M Rs := bnd m fun x => rt (.d x)
/-- to let a name's list go into data: an own one stays as it is from now on -/
def esc (r : Rs) : M D := fun g => match r with
  | .d x => .ok x g
  | .sl i => match g[i]? with
    | some (.d x) => .ok x g
    | some (.own false xs) => .ok (.list xs) (g.set i (.d (.list xs)))
    | _ => .bad
def dEsc (m : M Rs) : M D := bnd m esc
def dFz (m : M (List D)) : M D := bnd m fun xs => rt (.list xs)
section
variable {X : Cx} {e : Expr} {es : List Expr} {pos : Pos}
theorem zpost_ok {α β : Type} {W : WX} {σ : St} {ρ : Rho α β} {F : Fr} {G H : Hp} {Mu : Option Addr} {Γ : En} {Q : β → Hp → Prop} {r : α} {v : β} (R : Rel X.K F G Mu Γ σ H) (h : ρ X.K F G Mu Γ σ H r v) (p : zpost X W σ ρ F G Mu Q (.ok r Γ)) : Q v H := p v H G (Same.refl _) R h
theorem dv_name {i : Nat} {x : Str} (hN : X.N[i]? = some x) (hv : Vis X.env.scope x) (hd : (x == ("__debug__" : Str)) = false := by decide) (hcd : (x == ("__classdict__" : Str)) = false := by decide) : DV X (.Name x pos) (dName i) := fun W _ => by
  refine pe_imp (pe_var hN hv hd hcd) fun σ H Q h => ?_
  obtain ⟨F, G, Mu, Γ, R, p⟩ := h
  unfold dName at p
  split at p
  · rename_i y q
    obtain ⟨v, h1, h2⟩ := R.data q
    exact ⟨v, h1, zpost_ok R (show rhoR _ _ _ _ _ _ _ (.d y) v from h2) p⟩
  · rename_i ys q
    obtain ⟨l, vs, h1, h2, h3⟩ := R.arg q
    exact ⟨_, h1, zpost_ok R (show rhoR _ _ _ _ _ _ _ (.sl i) _ from h1) p⟩
  · rename_i m ys q
    obtain ⟨l, vs, h1, h2, h3, _⟩ := R.owned q
    exact ⟨_, h1, zpost_ok R (show rhoR _ _ _ _ _ _ _ (.sl i) _ from h1) p⟩
  · exact p.elim
theorem dv_of {m : M D} (h : DP X e m) : DV X e (dv m) := fun W tk => by
  refine pe_imp (h W tk) fun σ H Q p => ?_
  refine (zt_bnd (ρ := rhoD) p).imp fun v H1 ⟨r, F, G, Mu, Γ, R, h1, q⟩ => ?_
  exact zpost_ok R (show rhoR _ _ _ _ _ _ _ (.d r) v from h1) q
theorem dp_esc {m : M Rs} (h : DV X e m) : DP X e (dEsc m) := fun W tk => by
  refine pe_imp (h W tk) fun σ H Q p => ?_
  refine (zt_bnd (ρ := rhoR) p).imp fun v H1 ⟨r, F, G, Mu, Γ, R, h1, q⟩ => ?_
  unfold esc at q
  cases r with
  | d x => exact zpost_ok R (show rhoD _ _ _ _ _ _ _ x v from h1) q
  | sl i =>
    have h1' : σ[i]? = some (some v) := h1
    dsimp only at q
    split at q
    · rename_i y g
      obtain ⟨v', k1, k2⟩ := R.data g
      rw [h1'] at k1
      cases k1
      exact zpost_ok R (show rhoD _ _ _ _ _ _ _ y v from k2) q
    · rename_i ys g
      obtain ⟨l, G', k1, R', k2, k3⟩ := R.freeze g
      rw [h1'] at k1
      cases k1
      exact q _ H1 G' k2 R' k3
    · exact q.elim
/-- a new list that stays -/
theorem Rel.keep {K : PySem.W.Frag} {F : Fr} {G H : Hp} {Mu : Option Addr} {Γ : En} {σ : St} {xs : List D} {v : V} (R : Rel K F G Mu Γ σ H) (h : rhoO K F G Mu Γ σ H xs v) : ∃ G', Same G G' ∧ Rel K F G' Mu Γ σ H ∧ Dq K G' v (.list xs) := by
  obtain ⟨l, vs, rfl, h1, h2, h3, h4, h5, h6⟩ := h
  have hs : Same G (upd G l (.lst vs)) := same_upd h4
  have gh : Same (upd G l (.lst vs)) H := fun b x q => by
    by_cases hb : b = l
    · subst hb
      rw [upd_same] at q
      rw [h1]
      exact q
    · rw [upd_ne hb] at q
      exact R.gh b x q
  refine ⟨_, hs, R.mono (Mu' := Mu) R.fh hs gh (fun l' q => ?_) (fun i l' ho => ?_) (fun l' q => ?_), .lst (.of upd_same) (dpAll_mono hs _ _ h2)⟩
  · obtain ⟨_, m2, m3⟩ := R.mu l' q
    have hne : l' ≠ l := fun z => h5 (by rw [q, z])
    rw [upd_ne hne]
    exact ⟨m2, m3⟩
  · have hne : l' ≠ l := fun z => h6 i (by rw [← z]; exact ho)
    rw [upd_ne hne]
    exact ⟨(R.there ho).2.1, rfl⟩
  · rw [upd_ne (fun z => F.kf l' q (by rw [z]; exact h3))]
    exact R.lk l' q
theorem dp_fz {m : M (List D)} (h : DO X e m) : DP X e (dFz m) := fun W tk => by
  refine pe_imp (h W tk) fun σ H Q p => ?_
  refine (zt_bnd (ρ := rhoO) p).imp fun v H1 ⟨r, F, G, Mu, Γ, R, h1, q⟩ => ?_
  obtain ⟨G', k1, R', k2⟩ := R.keep h1
  exact q v H1 G' k1 R' k2

def dC (x : D) : M D := rt x
theorem zt_c {W : WX} {σ : St} {H : Hp} {Q : VK} {x : D} {v : V} (hv : ∀ K G, Dq K G v x) (h : zt X W rhoD (dC x) σ H Q) : Q v H := by
  obtain ⟨F, G, Mu, Γ, R, p⟩ := h
  exact zpost_ok R (show rhoD _ _ _ _ _ _ _ x v from hv _ _) p
theorem dp_int {i : Int} {j} : DP X (.Constant (.int i) j pos) (dC (.int i)) := fun W _ => pe_imp pe_int fun σ H Q h => zt_c (fun _ _ => .int i) h
theorem dp_bool {b : Bool} {j} : DP X (.Constant (.bool b) j pos) (dC (.bool b)) := fun W _ => pe_imp pe_bl fun σ H Q h => zt_c (fun _ _ => .bl b) h
theorem dp_none {j} : DP X (.Constant .none j pos) (dC .none) := fun W _ => pe_imp pe_non fun σ H Q h => zt_c (fun _ _ => .non) h
theorem dp_str {x : Str} {j} : DP X (.Constant (.str x) j pos) (dC (.str x)) := fun W _ => pe_imp pe_str fun σ H Q h => zt_c (fun _ _ => .str x) h

def dNil : M (List D) := rt []
def dCons (m : M D) (n : M (List D)) : M (List D) := bnd m fun x => bnd n fun xs => rt (x :: xs)
theorem dps_nil : DPs X [] dNil := fun W _ => pa_imp pa_nil fun σ H Q ⟨F, G, Mu, Γ, R, p⟩ => zpost_ok R (show rhoDs _ _ _ _ _ _ _ [] [] from .nil) p
theorem dps_cons {m : M D} {n : M (List D)} (h : DP X e m) (k : DPs X es n) (hs : starEach (e :: es) X.env = (false, eval e X.env) :: starEach es X.env := by rfl) : DPs X (e :: es) (dCons m n) := fun W tk => by
  refine pa_imp (pa_cons (h W tk) (k W tk) hs) fun σ H Q p => ?_
  refine (zt_bnd2 (ρ := rhoD) (ρ' := rhoDs) stD p).imp fun v H1 q => q.imp fun vs H2 ⟨x, xs, F, G, Mu, Γ, R, h1, h2, q2⟩ => ?_
  exact zpost_ok R (show rhoDs _ _ _ _ _ _ _ (x :: xs) (v :: vs) from .cons h1 h2) q2
def vNil : M (List Rs) := rt []
def vCons (m : M Rs) (n : M (List Rs)) : M (List Rs) := bnd m fun x => bnd n fun xs => rt (x :: xs)
theorem dvs_nil : DVs X [] vNil := fun W _ => pa_imp pa_nil fun σ H Q ⟨F, G, Mu, Γ, R, p⟩ => zpost_ok R (show rhoRs _ _ _ _ _ _ _ [] [] from rfl) p
theorem dvs_cons {m : M Rs} {n : M (List Rs)} (h : DV X e m) (k : DVs X es n) (hs : starEach (e :: es) X.env = (false, eval e X.env) :: starEach es X.env := by rfl) : DVs X (e :: es) (vCons m n) := fun W tk => by
  refine pa_imp (pa_cons (h W tk) (k W tk) hs) fun σ H Q p => ?_
  refine (zt_bnd2 (ρ := rhoR) (ρ' := rhoRs) stR p).imp fun v H1 q => q.imp fun vs H2 ⟨x, xs, F, G, Mu, Γ, R, h1, h2, q2⟩ => ?_
  exact zpost_ok R (show rhoRs _ _ _ _ _ _ _ (x :: xs) (v :: vs) from ⟨v, vs, rfl, h1, h2⟩) q2
end
def vls (g : En) : List Rs → Option (List D)
  | [] => some []
  | r :: rs => match vl g r with
    | none => none
    | some x => match vls g rs with
      | none => none
      | some xs => some (x :: xs)
def RdbAll (K : PySem.W.Frag) (G H : Hp) : List V → List D → Prop
  | [], xs => xs = []
  | v :: vs, xs => ∃ y ys, xs = y :: ys ∧ Rdb K G H v y ∧ RdbAll K G H vs ys
theorem Rel.reads {K : PySem.W.Frag} {F : Fr} {G H : Hp} {Mu : Option Addr} {Γ : En} {σ : St} (R : Rel K F G Mu Γ σ H) : ∀ {rs : List Rs} {vs : List V} {xs : List D}, RsAll K G σ rs vs → vls Γ rs = some xs → RdbAll K G H vs xs
  | [], vs, xs, h, e => by
    cases (show vs = [] from h)
    cases e
    rfl
  | r :: rs, vs, xs, h, e => by
    obtain ⟨v, us, rfl, h1, h2⟩ := h
    unfold vls at e
    split at e
    · cases e
    · rename_i y q
      split at e
      · cases e
      · rename_i ys q2
        cases e
        exact ⟨y, ys, rfl, R.read (show rhoR K F G Mu Γ σ H r v from h1) q, R.reads h2 q2⟩
theorem RdbAll.one {K : PySem.W.Frag} {G H : Hp} {vs : List V} {x : D} (h : RdbAll K G H vs [x]) : ∃ v, vs = [v] ∧ Rdb K G H v x := by
  cases vs with
  | nil => cases (show [x] = [] from h)
  | cons v us =>
    obtain ⟨y, ys, e, h1, h2⟩ := h
    cases e
    cases us with
    | nil => exact ⟨v, rfl, h1⟩
    | cons _ _ =>
      obtain ⟨_, _, e, _⟩ := h2
      cases e
theorem RdbAll.two {K : PySem.W.Frag} {G H : Hp} {vs : List V} {x y : D} (h : RdbAll K G H vs [x, y]) : ∃ v u, vs = [v, u] ∧ Rdb K G H v x ∧ Rdb K G H u y := by
  cases vs with
  | nil => cases (show [x, y] = [] from h)
  | cons v us =>
    obtain ⟨_, _, e, h1, h2⟩ := h
    cases e
    obtain ⟨u, rfl, h3⟩ := RdbAll.one h2
    exact ⟨v, u, rfl, h1, h3⟩

def op2 (f : D → D → Option D) (m n : M Rs) : M D := bnd m fun r => bnd n fun s => fun g => match vl g r with
  | none => .bad
  | some x => match vl g s with
    | none => .bad
    | some y => match f x y with
      | none => .bad
      | some z => .ok z g
def rD2 (K : PySem.W.Frag) (f : D → D → Option D) : R2 := fun x y H Q => ∃ G dx dy z, Same G H ∧ Rdb K G H x dx ∧ Rdb K G H y dy ∧ f dx dy = some z ∧ ∀ v H' G', Ext G H G' H' → Dq K G' v z → Q v H'
theorem op2_run {X : Cx} {W : WX} {σ : St} {H : Hp} {Q : VK} {f : D → D → Option D} {m n : M Rs} (p : zt X W rhoD (op2 f m n) σ H Q) : tOp (rD2 X.K f) (zt X W rhoR m) (zt X W rhoR n) σ H Q := by
  refine (zt_bnd2 (ρ := rhoR) (ρ' := rhoR) stR p).imp fun v H1 q => q.imp fun u H2 ⟨r, s, F, G, Mu, Γ, R, h1, h2, q2⟩ => ?_
  cases e1 : vl Γ r with
  | none => rw [e1] at q2; exact q2.elim
  | some x =>
    cases e2 : vl Γ s with
    | none => rw [e1, e2] at q2; exact q2.elim
    | some y =>
      cases e3 : f x y with
      | none =>
        rw [e1, e2] at q2
        dsimp only at q2
        rw [e3] at q2
        exact q2.elim
      | some z =>
        rw [e1, e2] at q2
        dsimp only at q2
        rw [e3] at q2
        exact ⟨G, x, y, z, R.gh, R.read h1 e1, R.read h2 e2, e3, fun w H' G' ex d => q2 w H' G' ex.g (R.ext ex) d⟩
def rO2 (K : PySem.W.Frag) (f : D → D → Option (List D)) : R2 := fun x y H Q => ∃ G dx dy zs, Same G H ∧ Rdb K G H x dx ∧ Rdb K G H y dy ∧ f dx dy = some zs ∧ ∀ l vs, H l = none → DqAll K G vs zs → Q (.ref l) (upd H l (.lst vs))
theorem Rel.newO {K : PySem.W.Frag} {F : Fr} {G H : Hp} {Mu : Option Addr} {Γ : En} {σ : St} {l : Addr} {vs : List V} {zs : List D} (R : Rel K F G Mu Γ σ H) (n : H l = none) (d : DqAll K G vs zs) : Rel K F G Mu Γ σ (upd H l (.lst vs)) ∧ rhoO K F G Mu Γ σ (upd H l (.lst vs)) zs (.ref l) :=
  ⟨R.newX n, l, vs, rfl, upd_same, d, R.fh.free n, R.gh.free n, fun z => (R.mu l z).2.2 n, fun i h => by
    obtain ⟨_, _, us, q⟩ := R.there h
    rw [n] at q
    cases q⟩
def op1 (f : D → Option D) (m : M Rs) : M D := bnd m fun r => fun g => match vl g r with
  | none => .bad
  | some x => match f x with
    | none => .bad
    | some z => .ok z g
def rD1 (K : PySem.W.Frag) (f : D → Option D) : V → Hp → VK → Prop := fun x H Q => ∃ G dx z, Same G H ∧ Rdb K G H x dx ∧ f dx = some z ∧ ∀ v H' G', Ext G H G' H' → Dq K G' v z → Q v H'
theorem op1_run {X : Cx} {W : WX} {σ : St} {H : Hp} {Q : VK} {f : D → Option D} {m : M Rs} (p : zt X W rhoD (op1 f m) σ H Q) : tUn (rD1 X.K f) (zt X W rhoR m) σ H Q := by
  refine (zt_bnd (ρ := rhoR) p).imp fun v H1 ⟨r, F, G, Mu, Γ, R, h1, q2⟩ => ?_
  cases e1 : vl Γ r with
  | none => rw [e1] at q2; exact q2.elim
  | some x =>
    cases e3 : f x with
    | none =>
      rw [e1] at q2
      dsimp only at q2
      rw [e3] at q2
      exact q2.elim
    | some z =>
      rw [e1] at q2
      dsimp only at q2
      rw [e3] at q2
      exact ⟨G, x, z, R.gh, R.read h1 e1, e3, fun w H' G' ex d => q2 w H' G' ex.g (R.ext ex) d⟩
/-- a built-in by its arguments -/
def opN (f : List D → Option D) (m : M (List Rs)) : M D := bnd m fun rs => fun g => match vls g rs with
  | none => .bad
  | some xs => match f xs with
    | none => .bad
    | some z => .ok z g
def rDN (K : PySem.W.Frag) (f : List D → Option D) : List V → Hp → VK → Prop := fun vs H Q => ∃ G xs z, Same G H ∧ RdbAll K G H vs xs ∧ f xs = some z ∧ ∀ v H' G', Ext G H G' H' → Dq K G' v z → Q v H'
theorem opN_run {X : Cx} {W : WX} {σ : St} {H : Hp} {Q : VK} {f : List D → Option D} {m : M (List Rs)} (p : zt X W rhoD (opN f m) σ H Q) : tCB (rDN X.K f) (zt X W rhoRs m) σ H Q := by
  refine (zt_bnd (ρ := rhoRs) p).imp fun v H1 ⟨r, F, G, Mu, Γ, R, h1, q2⟩ => ?_
  cases e1 : vls Γ r with
  | none => rw [e1] at q2; exact q2.elim
  | some x =>
    cases e3 : f x with
    | none =>
      rw [e1] at q2
      dsimp only at q2
      rw [e3] at q2
      exact q2.elim
    | some z =>
      rw [e1] at q2
      dsimp only at q2
      rw [e3] at q2
      exact ⟨G, x, z, R.gh, R.reads h1 e1, e3, fun w H' G' ex d => q2 w H' G' ex.g (R.ext ex) d⟩
def opNo (f : List D → Option (List D)) (m : M (List Rs)) : M (List D) := bnd m fun rs => fun g => match vls g rs with
  | none => .bad
  | some xs => match f xs with
    | none => .bad
    | some z => .ok z g
section
variable {X : Cx} {a b e : Expr} {es : List Expr} {pos : Pos}
theorem dp_bin {op : Operator} {f : D → D → Option D} {m n : M Rs} (ho : OpR X (binaryOp op) (rD2 X.K f)) (ha : DV X a m) (hb : DV X b n) : DP X (.BinOp a op b pos) (op2 f m n) := fun W tk => pe_imp (pe_op ho (ha W tk) (hb W tk)) fun _ _ _ p => op2_run p
theorem dp_un {op : UnaryOp} {f : D → Option D} {m : M Rs} (ho : UnR X (unaryOp op) (rD1 X.K f)) (ha : DV X a m) : DP X (.UnaryOp op a pos) (op1 f m) := fun W tk => pe_imp (pe_un ho (ha W tk)) fun _ _ _ p => op1_run p
theorem dp_cmp {op : CmpOp} {f : D → D → Option D} {m n : M Rs} (ho : OpR X (compareOp op) (rD2 X.K f)) (ha : DV X a m) (hb : DV X b n) (hm : behindInMarks op b = false) : DP X (.Compare a [op] [b] pos) (op2 f m n) := fun W tk => pe_imp (pe_cmpR ho (ha W tk) (hb W tk) hm) fun _ _ _ p => op2_run p
theorem dp_ix {f : D → D → Option D} {m n : M Rs} (ho : IxR X (rD2 X.K f)) (ha : DV X a m) (hb : DV X b n) (hs : PlainIx b) : DP X (.Subscript a b pos) (op2 f m n) := fun W tk => pe_imp (pe_ix ho (ha W tk) (hb W tk) hs) fun _ _ _ p => op2_run p
end
end Z

set_option Elab.async false
set_option linter.all false
set_option maxRecDepth 100000
set_option autoImplicit false
set_option maxHeartbeats 1000000
namespace Z
open PySem PySem.Spec PyProof.Rows L2
section
variable {X : Cx} {pins : List (Addr × Obj)} {σ : St} {H : Hp} {s : Shared}
/-- the tuple just pushed is tracked, its object known -/
theorem laidT {its : List Value} {xs : List V} {h : Heap} {tk : Nat} (I : L2.Inv X pins σ H { s with heap := h, toks := tk }) (r : Vals xs its) (hz : xs.length ≤ sizeLine) :
    L2.Inv X pins σ (upd H h.objs.size (.frz { cls := .type "tuple", data := .seq its.toArray } (.tup xs))) { s with heap := h.push { cls := .type "tuple", data := .seq its.toArray }, toks := tk } := by
  have e := Heap.get?_push_size h (o := { cls := .type "tuple", data := .seq its.toArray }) rfl
  exact I.laid (t' := tk) (o := .frz { cls := .type "tuple", data := .seq its.toArray } (.tup xs)) (fun b u q => Heap.get?_push_of_some _ q) (Nat.le_refl _)
    ⟨e, hz, its, r, IsTup.new _ _⟩
theorem tryNew {its : List Value} {xs : List V} {Q : VK} (I : L2.Inv X pins σ H s) (r : Vals xs its) (hz : xs.length ≤ sizeLine)
    (q : ∀ p o, H p = none → o.dict = none → Q (.ref p) (upd H p (.frz o (.tup xs)))) : EP X pins σ Q (.ref s.heap.objs.size) { s with heap := s.heap.push { cls := .type "tuple", data := .seq its.toArray } } :=
  ⟨.ref s.heap.objs.size, _, laidT (tk := s.toks) I r hz, rfl, q _ _ (I.hok.fresh (Nat.le_refl _)) rfl⟩
end
def tTupZ (t : TA) : TE := fun σ H Q => t σ H fun xs H1 => xs.length ≤ sizeLine ∧ ∀ p o, H1 p = none → o.dict = none → Q (.ref p) (upd H1 p (.frz o (.tup xs)))
section
variable {X : Cx} {es : List Expr} {t : TA} {pos : Pos}
theorem pe_tupZ {k} (h : PA X es t) : PE X (.Tuple es k pos) (tTupZ t) := by
  refine ⟨fun pins s σ H Q I hq => wpAny_Tuple_spliced (thn (h.run pos pins s σ H _ I hq) fun us s1 ⟨xs, H1, I1, r, z, q⟩ => ⟨by rw [← r.length]; exact z, ?_⟩)⟩
  exact tryNew I1 r z q
/-- t + u -/
def rCatZ (K : PySem.W.Frag) : R2 := fun x y H Q => ∃ a b xs ys, x = .ref a ∧ y = .ref b ∧ SqT K H a xs ∧ SqT K H b ys ∧ xs.length + ys.length ≤ sizeLine ∧
  (xs = [] → Q (.ref b) H) ∧ (xs ≠ [] → ys = [] → Q (.ref a) H) ∧ (xs ≠ [] → ys ≠ [] → ∀ p o, H p = none → o.dict = none → Q (.ref p) (upd H p (.frz o (.tup (xs ++ ys)))))
theorem op_catZ : OpR X (binaryOp .Add) (rCatZ X.K) := by
  intro pins s σ H x y v u Q I rx ry h
  obtain ⟨a, b, xs, ys, rfl, rfl, ha, hb, hz, q0, q1, q2⟩ := h
  cases rx
  cases ry
  obtain ⟨ia, ra, pa, _⟩ := I.tuple ha
  obtain ⟨ib, rb, pb, _⟩ := I.tuple hb
  by_cases hx : xs = []
  · subst hx
    cases ra
    exact cat_tup0 pa pb ⟨.ref b, H, I, rfl, q0 rfl⟩
  · refine HT.cat_tup pa pb (fun z => hx (ra.nil_iff.mp z)) (fun z => ⟨.ref a, H, I, rfl, q1 hx (rb.nil_iff.mp z)⟩) (fun z => ?_) (by rw [← ra.length, ← rb.length]; exact hz)
    exact tryNew I (ra.append rb) (by rw [List.length_append]; exact hz) (q2 hx fun w => z (rb.nil_iff.mpr w))
end
end Z

set_option Elab.async false
set_option linter.all false
set_option maxRecDepth 100000
set_option autoImplicit false
set_option maxHeartbeats 1000000
namespace Z
open PySem PySem.Spec PyProof.Rows L2

def fAdd : D → D → Option D
  | .int i, .int j => some (.int (i + j))
  | .str a, .str b => if a.length + b.length ≤ sizeLine then some (.str (a ++ b)) else none
  | .tuple xs, .tuple ys => if xs.length + ys.length ≤ sizeLine then some (.tuple (xs ++ ys)) else none
  | _, _ => none
def fSub : D → D → Option D
  | .int i, .int j => some (.int (i - j))
  | _, _ => none
def okMul (i j : Int) : Bool := decide (i.natAbs < 18446744073709551616) || decide (j.natAbs < 18446744073709551616) || decide (i.natAbs.log2 + j.natAbs.log2 < 1000000)
def fMul : D → D → Option D
  | .int i, .int j => if okMul i j then some (.int (i * j)) else none
  | _, _ => none
def okDiv (j : Int) : Bool := decide (0 < j) && (decide (j < 1073741824) || decide (j.natAbs.log2 < 9000))
def fDiv : D → D → Option D
  | .int i, .int j => if okDiv j then some (.int (i / j)) else none
  | _, _ => none
def fMod : D → D → Option D
  | .int i, .int j => if 0 < j then some (.int (i % j)) else none
  | _, _ => none
def fPow : D → D → Option D
  | .int i, .int j => if 0 ≤ j ∧ j ≤ 1000000 ∧ i.natAbs < 18446744073709551616 then some (.int (i ^ j.toNat)) else none
  | _, _ => none
def fNeg : D → Option D
  | .int i => some (.int (-i))
  | _ => none
/-- comparisons of ints -/
def fCmpI (p : Int → Int → Bool) : D → D → Option D
  | .int i, .int j => some (.bool (p i j))
  | _, _ => none
def fLt := fCmpI fun i j => decide (i < j)
def fLe := fCmpI fun i j => decide (i ≤ j)
def fGt := fCmpI fun i j => decide (j < i)
def fGe := fCmpI fun i j => decide (j ≤ i)
def fEq (x y : D) : Option D := if SeqAt.shaped x && SeqAt.shaped y then some (.bool (PyData.eqv x y)) else none
def fNe (x y : D) : Option D := if SeqAt.shaped x && SeqAt.shaped y then some (.bool (!PyData.eqv x y)) else none
def isNone : D → Bool
  | .none => true
  | _ => false
def fIsN (x y : D) : Option D := if isNone y then some (.bool (isNone x)) else none
section
variable {X : Cx}
theorem or_ints {F : Value → Value → Sem Value} {f : D → D → Option D} {c : Int → Int → Prop} {g : Int → Int → Int} (ho : OpR X F (rI c fun i j => .int (g i j)))
    (hf : ∀ x y z, f x y = some z → ∃ i j, x = .int i ∧ y = .int j ∧ c i j ∧ z = .int (g i j)) : OpR X F (rD2 X.K f) := by
  intro pins s σ H x y v u Q I rx ry h
  obtain ⟨G, dx, dy, z, gh, r1, r2, e, q⟩ := h
  obtain ⟨i, j, rfl, rfl, hc, rfl⟩ := hf _ _ _ e
  have e1 := r1.int
  have e2 := r2.int
  subst e1 e2
  exact ho pins s σ H _ _ v u Q I rx ry ⟨i, j, rfl, rfl, hc, q _ _ _ (Ext.refl gh) (.int _)⟩
theorem or_cmpI {F : Value → Value → Sem Value} {g : Int → Int → Bool} (ho : OpR X F (rI0 fun i j => .bl (g i j))) : OpR X F (rD2 X.K (fCmpI g)) := by
  intro pins s σ H x y v u Q I rx ry h
  obtain ⟨G, dx, dy, z, gh, r1, r2, e, q⟩ := h
  unfold fCmpI at e
  split at e
  · cases e
    have e1 := r1.int
    have e2 := r2.int
    subst e1 e2
    exact ho pins s σ H _ _ v u Q I rx ry ⟨_, _, rfl, rfl, q _ _ _ (Ext.refl gh) (.bl _)⟩
  · cases e
theorem or_lt : OpR X (compareOp .Lt) (rD2 X.K fLt) := or_cmpI op_lt
theorem or_gt : OpR X (compareOp .Gt) (rD2 X.K fGt) := or_cmpI op_gt
theorem or_sub : OpR X (binaryOp .Sub) (rD2 X.K fSub) := by
  refine or_ints (c := fun _ _ => True) (g := fun i j => i - j) ?_ fun x y z e => ?_
  · exact opI fun _ _ _ _ _ _ _ _ q => sub_int q
  · unfold fSub at e
    split at e
    · cases e
      exact ⟨_, _, rfl, rfl, trivial, rfl⟩
    · cases e
theorem okMul_ok {i j : Int} (h : okMul i j = true) : IntMulOk i j := by
  unfold okMul at h
  simp only [Bool.or_eq_true, decide_eq_true_eq] at h
  rcases h with (h | h) | h
  · exact CMul.ok (.inl (by omega))
  · exact CMul.ok (.inr (by omega))
  · exact CMulW.ok h
theorem or_mul : OpR X (binaryOp .Mult) (rD2 X.K fMul) := by
  refine or_ints (c := fun i j => okMul i j = true) (g := fun i j => i * j) ?_ fun x y z e => ?_
  · exact opI fun _ _ _ _ _ _ _ hc q => mul_int q (okMul_ok hc)
  · unfold fMul at e
    split at e
    · split at e
      · cases e
        exact ⟨_, _, rfl, rfl, by assumption, rfl⟩
      · cases e
    · cases e
theorem or_div : OpR X (binaryOp .FloorDiv) (rD2 X.K fDiv) := by
  refine or_ints (c := fun _ j => okDiv j = true) (g := fun i j => i / j) ?_ fun x y z e => ?_
  · refine opI fun i j _ _ _ _ _ hc q => ?_
    unfold okDiv at hc
    simp only [Bool.and_eq_true, Bool.or_eq_true, decide_eq_true_eq] at hc
    obtain ⟨h1, h2⟩ := hc
    refine floordiv_int (by omega) (by rw [Int.fdiv_eq_ediv_of_nonneg i (by omega)]; exact q) ?_
    rcases h2 with h2 | h2
    · exact .inl (PyProof.noPylong_small (by omega))
    · exact .inl (PyProof.noPylong_of_log2 h2)
  · unfold fDiv at e
    split at e
    · split at e
      · cases e
        exact ⟨_, _, rfl, rfl, by assumption, rfl⟩
      · cases e
    · cases e
theorem or_mod : OpR X (binaryOp .Mod) (rD2 X.K fMod) := by
  refine or_ints (c := fun _ j => 0 < j) (g := fun i j => i % j) op_mod fun x y z e => ?_
  unfold fMod at e
  split at e
  · split at e
    · cases e
      exact ⟨_, _, rfl, rfl, by assumption, rfl⟩
    · cases e
  · cases e
theorem or_pow : OpR X (binaryOp .Pow) (rD2 X.K fPow) := by
  refine or_ints (c := fun i j => 0 ≤ j ∧ j ≤ 1000000 ∧ i.natAbs < 18446744073709551616) (g := fun i j => i ^ j.toNat) ?_ fun x y z e => ?_
  · exact opI fun _ _ _ _ _ _ _ hc q => pow_int_small hc.1 hc.2.1 hc.2.2 q
  · unfold fPow at e
    split at e
    · split at e
      · cases e
        exact ⟨_, _, rfl, rfl, by assumption, rfl⟩
      · cases e
    · cases e
theorem or_add : OpR X (binaryOp .Add) (rD2 X.K fAdd) := by
  intro pins s σ H x y v u Q I rx ry h
  obtain ⟨G, dx, dy, z, gh, r1, r2, e, q⟩ := h
  unfold fAdd at e
  split at e
  · cases e
    have e1 := r1.int
    have e2 := r2.int
    subst e1 e2
    exact op_add pins s σ H _ _ v u Q I rx ry ⟨_, _, rfl, rfl, q _ _ _ (Ext.refl gh) (.int _)⟩
  · split at e
    · cases e
      have e1 := r1.str
      have e2 := r2.str
      subst e1 e2
      exact op_add_str pins s σ H _ _ v u Q I rx ry ⟨_, _, rfl, rfl, by assumption, q _ _ _ (Ext.refl gh) (.str _)⟩
    · cases e
  · rename_i xs ys
    split at e
    · rename_i hz
      cases e
      obtain ⟨l1, vs1, rfl, s1, d1⟩ := r1.tup gh
      obtain ⟨l2, vs2, rfl, s2, d2⟩ := r2.tup gh
      have n1 := dpa_length d1
      have n2 := dpa_length d2
      have dt1 : Dq X.K G (.ref l1) (.tuple xs) := by
        rcases r1 with r1 | ⟨_, _, _, _, c, _⟩
        · exact r1
        · cases c
      have dt2 : Dq X.K G (.ref l2) (.tuple ys) := by
        rcases r2 with r2 | ⟨_, _, _, _, c, _⟩
        · exact r2
        · cases c
      refine op_catZ pins s σ H _ _ v u Q I rx ry ⟨l1, l2, vs1, vs2, rfl, rfl, s1.sq, s2.sq, by omega, fun z => ?_, fun _ z => ?_, fun _ _ p o n ho => ?_⟩
      · subst z
        have : xs = [] := by
          cases xs with
          | nil => rfl
          | cons _ _ => simp at n1
        subst this
        exact q _ _ _ (Ext.refl gh) dt2
      · subst z
        have : ys = [] := by
          cases ys with
          | nil => rfl
          | cons _ _ => simp at n2
        subst this
        rw [List.append_nil] at q
        exact q _ _ _ (Ext.refl gh) dt1
      · have E := Ext.new (o := .frz o (.tup (vs1 ++ vs2))) gh n
        exact q _ _ _ E (.tup (.new ho) (dpAll_mono E.g _ _ (dpa_append d1 d2)))
    · cases e
  · cases e
theorem un_negD : UnR X (unaryOp .USub) (rD1 X.K fNeg) := by
  intro pins s σ H x v Q I rx h
  obtain ⟨G, dx, z, gh, r1, e, q⟩ := h
  unfold fNeg at e
  split at e
  · cases e
    have e1 := r1.int
    subst e1
    exact un_neg pins s σ H _ v Q I rx ⟨_, rfl, q _ _ _ (Ext.refl gh) (.int _)⟩
  · cases e
theorem shaped_plain {d : D} (h : SeqAt.shaped d = true) : d.plain = true := by
  unfold SeqAt.shaped at h
  rw [Bool.and_eq_true] at h
  exact PyData.plain_of_canLay0 d h.1
theorem or_eq (hu : X.A.units + 64 < cLine) : OpR X (compareOp .Eq) (rD2 X.K fEq) := by
  intro pins s σ H x y v u Q I rx ry h
  obtain ⟨G, dx, dy, z, gh, r1, r2, e, q⟩ := h
  unfold fEq at e
  split at e
  · rename_i hs
    cases e
    rw [Bool.and_eq_true] at hs
    exact op_eqD hu pins s σ H _ _ v u Q I rx ry ⟨dx, dy, (r1.dp gh).dp _ _ (shaped_plain hs.1), (r2.dp gh).dp _ _ (shaped_plain hs.2), hs.1, hs.2, q _ _ _ (Ext.refl gh) (.bl _)⟩
  · cases e
theorem or_ne (hu : X.A.units + 64 < cLine) : OpR X (compareOp .NotEq) (rD2 X.K fNe) := by
  intro pins s σ H x y v u Q I rx ry h
  obtain ⟨G, dx, dy, z, gh, r1, r2, e, q⟩ := h
  unfold fNe at e
  split at e
  · rename_i hs
    cases e
    rw [Bool.and_eq_true] at hs
    exact op_neD hu pins s σ H _ _ v u Q I rx ry ⟨dx, dy, (r1.dp gh).dp _ _ (shaped_plain hs.1), (r2.dp gh).dp _ _ (shaped_plain hs.2), hs.1, hs.2, q _ _ _ (Ext.refl gh) (.bl _)⟩
  · cases e
theorem none_dec {K : PySem.W.Frag} {G H : Hp} {v : V} {x : D} (r : Rdb K G H v x) : decide (v = .non) = isNone x := by
  rcases r with r | ⟨l, vs, xs, rfl, rfl, _, _⟩
  · cases r <;> rfl
  · rfl
theorem or_isN : OpR X (compareOp .Is) (rD2 X.K fIsN) := by
  intro pins s σ H x y v u Q I rx ry h
  obtain ⟨G, dx, dy, z, gh, r1, r2, e, q⟩ := h
  unfold fIsN at e
  split at e
  · rename_i hn
    cases e
    cases dy with
    | none =>
      have e2 := r2.none
      subst e2
      exact op_isN pins s σ H _ _ v u Q I rx ry ⟨rfl, by rw [none_dec r1]; exact q _ _ _ (Ext.refl gh) (.bl _)⟩
    | _ => cases hn
  · cases e
end

/-- a key among data -/
def dkey : D → Option Key
  | .int i => some (.inl i)
  | .str x => some (.inr x)
  | _ => none
theorem dkey_keyD : ∀ k : Key, dkey (keyD k) = some k
  | .inl _ => rfl
  | .inr _ => rfl
theorem keyD_dkey {d : D} {k : Key} (h : dkey d = some k) : d = keyD k := by
  unfold dkey at h
  split at h
  · cases h; rfl
  · cases h; rfl
  · cases h
/-- what a dict holds at a key -/
def dfind : List (D × D) → Key → Option D
  | [], _ => none
  | p :: ds, k => if dkey p.1 = some k then some p.2 else dfind ds k
def dput (ds : List (D × D)) (k : Key) (d : D) : List (D × D) :=
  if (ds.any fun p => decide (dkey p.1 = some k)) = true then ds.map (fun p => if dkey p.1 = some k then (p.1, d) else p) else ds ++ [(keyD k, d)]
theorem kv_find {K : PySem.W.Frag} {G : Hp} {k : Key} {d : D} : ∀ {kvs : List (Key × V)} {ds : List (D × D)}, KvAll K G kvs ds → dfind ds k = some d → ∃ v, valV kvs k = some v ∧ Dq K G v d
  | _, _, .nil, h => nomatch h
  | _, _, .cons (k := k') (kvs := kvs) (ds := ds) a b, h => by
    unfold dfind at h
    rw [dkey_keyD] at h
    by_cases e : k' = k
    · subst e
      rw [if_pos rfl] at h
      cases h
      exact ⟨_, valV_pos rfl, a⟩
    · rw [if_neg (fun z => e (Option.some.inj z))] at h
      obtain ⟨v, h1, h2⟩ := kv_find b h
      exact ⟨v, by rw [valV_neg e]; exact h1, h2⟩
theorem kv_len {K : PySem.W.Frag} {G : Hp} : ∀ {kvs : List (Key × V)} {ds : List (D × D)}, KvAll K G kvs ds → kvs.length = ds.length
  | _, _, .nil => rfl
  | _, _, .cons _ b => by rw [List.length_cons, List.length_cons, kv_len b]
theorem key_rel {K : PySem.W.Frag} {G H : Hp} {y : V} {d : D} {k : Key} (r : Rdb K G H y d) (h : dkey d = some k) : y = kV k := by
  have e := keyD_dkey h
  subst e
  cases k with
  | inl i => exact r.int
  | inr x => exact r.str
theorem ix_dk {X : Cx} (hu : X.A.units + 64 < cLine) : IxR X (fun x y H Q => ∃ a v, x = .ref a ∧ DGet H a y (some v) ∧ Q v H) := by
  intro value slice pins s σ H x y v u Q I rx ry h hs
  obtain ⟨a, v', e, g, q⟩ := h
  subst e
  obtain rfl : v = Value.ref a := rx
  exact tail_any (dict_typeIs I g) PySem.F.slot_dict_getitem.lookup (d_getItem (by omega) I g ry fun w' s3 I3 rw' => ⟨v', H, I3, rw', q⟩) hs
def fIx : D → D → Option D
  | .list xs, .int i => atI xs i
  | .tuple xs, .int i => atI xs i
  | .dict ds, k => match dkey k with
    | some k => dfind ds k
    | none => none
  | _, _ => none
theorem dpa_at {K : PySem.W.Frag} {G : Hp} {vs : List V} {xs : List D} {i : Int} {d : D} (h : DqAll K G vs xs) (e : atI xs i = some d) : ∃ v, atI vs i = some v ∧ Dq K G v d := by
  unfold atI at e ⊢
  rw [dpa_length h]
  cases q : ixN xs.length i with
  | none => rw [q] at e; cases e
  | some j =>
    rw [q] at e
    exact dpa_get h e
theorem ixr {X : Cx} (hu : X.A.units + 64 < cLine) : IxR X (rD2 X.K fIx) := by
  intro value slice pins s σ H x y v u Q I rx ry h hs
  obtain ⟨G, dx, dy, z, gh, r1, r2, e, q⟩ := h
  unfold fIx at e
  split at e
  · obtain ⟨l, vs, rfl, s1, d1⟩ := r1.list gh
    have e2 := r2.int
    subst e2
    obtain ⟨w, k1, k2⟩ := dpa_at d1 e
    exact ix_list value slice pins s σ H _ _ v u Q I rx ry ⟨l, vs, _, w, rfl, rfl, s1, k1, q _ _ _ (Ext.refl gh) k2⟩ hs
  · obtain ⟨l, vs, rfl, s1, d1⟩ := r1.tup gh
    have e2 := r2.int
    subst e2
    obtain ⟨w, k1, k2⟩ := dpa_at d1 e
    exact ix_tup value slice pins s σ H _ _ v u Q I rx ry ⟨l, vs, _, w, rfl, rfl, s1.sq, k1, q _ _ _ (Ext.refl gh) k2⟩ hs
  · split at e
    · rename_i k hk
      have e2 := key_rel r2 hk
      subst e2
      rcases r1 with r1 | ⟨_, _, _, _, c, _⟩
      · cases r1 with
        | dic h1 h2 =>
          obtain ⟨w, k1, k2⟩ := kv_find h2 e
          exact ix_dk hu value slice pins s σ H _ _ v u Q I rx ry ⟨_, w, rfl, .inl ⟨_, _, .inl (gh _ _ h1), rfl, k1.symm⟩, q _ _ _ (Ext.refl gh) k2⟩ hs
        | exc h1 h2 h3 h4 => cases k <;> cases e
      · cases c
    · cases e
  · cases e
/-- the items from lo to hi -/
def cutD {α : Type} (xs : List α) (lo hi : Option Int) : List α := (xs.drop (HT.sIx xs.length 0 lo)).take (HT.sIx xs.length xs.length hi - HT.sIx xs.length 0 lo)
def fCutT (x : D) (lo hi : Option Int) : Option D := match x with
  | .tuple xs => some (.tuple (cutD xs lo hi))
  | _ => none
def fCutL (x : D) (lo hi : Option Int) : Option (List D) := match x with
  | .list xs => some (cutD xs lo hi)
  | _ => none
def oNone : M (Option Int) := rt none
def oSome (m : M D) : M (Option Int) := bnd m fun x => match x with
  | .int i => rt (some i)
  | _ => fun _ => .bad
section
variable {X : Cx} {e : Expr} {pos p2 : Pos} {lo hi : Option Expr}
end
end Z

set_option Elab.async false
set_option linter.all false
set_option maxRecDepth 100000
set_option autoImplicit false
set_option maxHeartbeats 1000000
namespace Z
open PySem PySem.Spec PyProof.Rows L2
section
variable {X : Cx}
/-- the numbers behind the items -/
theorem vals_num {ns : List Int} {us : List Value} (r : Vals (ns.map V.int) us) (i : Nat) (v : Value) (h : us.toArray[i]? = some v) : ∃ t, v = .int (ns.getD i 0) t := by
  have hl : i < us.length := by
    rw [List.getElem?_toArray] at h
    exact (List.getElem?_eq_some_iff.mp h).1
  have hn : i < ns.length := by
    have := r.length
    rw [List.length_map] at this
    omega
  obtain ⟨u, hu, ru⟩ := r.get (i := i) (x := V.int (ns.getD i 0)) (by rw [List.getElem?_map, List.getD_eq_getElem?_getD, List.getElem?_eq_getElem hn]; rfl)
  rw [List.getElem?_toArray, hu] at h
  cases h
  exact ru
theorem getD_in {ns : List Int} {i : Nat} (h : i < ns.length) : ns.getD i 0 ∈ ns := by
  rw [List.getD_eq_getElem?_getD, List.getElem?_eq_getElem h]
  exact List.getElem_mem h
theorem in_getD {ns : List Int} {y : Int} (h : y ∈ ns) : ∃ i, i < ns.length ∧ ns.getD i 0 = y := by
  obtain ⟨i, hi, e⟩ := List.getElem_of_mem h
  exact ⟨i, hi, by rw [List.getD_eq_getElem?_getD, List.getElem?_eq_getElem hi]; exact e⟩
def rMaxT (K : PySem.W.Frag) : List V → Hp → VK → Prop := fun vs H Q => ∃ (a : Addr) (ns : List Int), vs = [.ref a] ∧ SqT K H a (ns.map .int) ∧ ns ≠ [] ∧ ∀ m, m ∈ ns → (∀ y, y ∈ ns → y ≤ m) → Q (.int m) H
def rMinT (K : PySem.W.Frag) : List V → Hp → VK → Prop := fun vs H Q => ∃ (a : Addr) (ns : List Int), vs = [.ref a] ∧ SqT K H a (ns.map .int) ∧ ns ≠ [] ∧ ∀ m, m ∈ ns → (∀ y, y ∈ ns → m ≤ y) → Q (.int m) H
theorem cr_maxT (hc : X.calm = true) : CallR X (.builtin "max") (rMaxT X.K) := by
  intro pins s σ H vs us Q I r h
  obtain ⟨a, ns, e, hs, hne, q⟩ := h
  subst e
  obtain ⟨its, rv, p, hz⟩ := I.tuple hs
  rw [Vals.ref1 r]
  have pt : s.heap.IsTuple a its.toArray := p
  have la : a < s.heap.objs.size := by
    obtain ⟨o, k, _⟩ := id pt
    exact Heap.lt_size k
  have n1 : its.length = ns.length := by rw [← rv.length, List.length_map]
  have n0 : 0 < ns.length := List.length_pos_iff.mpr hne
  refine call_max_walk (wpAny_pyIter_tuple pt ?_)
  refine ⟨_, _, _, _, _, _, _, rfl, Walks.tuple (A := X.A.in1) (I.ok.hd hc) s.heap.objs.size a (Nat.ne_of_lt la) its.toArray, ⟨⟨_, Heap.get?_push_size _ rfl, rfl, rfl⟩, pt.push _⟩, fun b hb => ?_, ?_, CmpOf.ints_gt (fun i => ns.getD i 0) (vals_num rv), fun v h' tk hv hk => ?_⟩
  · show b < (s.heap.push _).objs.size
    rw [Heap.size_push]
    simp only [List.mem_cons, List.not_mem_nil, or_false] at hb
    rcases hb with rfl | rfl
    · exact Nat.lt_succ_self _
    · exact Nat.lt_succ_of_lt la
  · rw [List.size_toArray]
    omega
  · obtain ⟨t, rfl⟩ := vals_num rv _ _ hv
    obtain ⟨b1, b2⟩ := argBest_gt (fun i => ns.getD i 0) (its.toArray.size - 1)
    rw [List.size_toArray] at b1 b2 ⊢
    refine ⟨.int _, H, I.kept fun b u hb => hk b u (fun hm => ?_) (Heap.get?_push_of_some _ hb), ⟨_, rfl⟩, q _ (getD_in (by omega)) fun y hy => ?_⟩
    · rw [List.mem_singleton.mp hm] at hb
      exact absurd (Heap.lt_size hb) (Nat.lt_irrefl _)
    · obtain ⟨j, hj, rfl⟩ := in_getD hy
      exact b2 j (by omega)
theorem cr_minT (hc : X.calm = true) : CallR X (.builtin "min") (rMinT X.K) := by
  intro pins s σ H vs us Q I r h
  obtain ⟨a, ns, e, hs, hne, q⟩ := h
  subst e
  obtain ⟨its, rv, p, hz⟩ := I.tuple hs
  rw [Vals.ref1 r]
  have pt : s.heap.IsTuple a its.toArray := p
  have la : a < s.heap.objs.size := by
    obtain ⟨o, k, _⟩ := id pt
    exact Heap.lt_size k
  have n1 : its.length = ns.length := by rw [← rv.length, List.length_map]
  have n0 : 0 < ns.length := List.length_pos_iff.mpr hne
  refine call_min_walk (wpAny_pyIter_tuple pt ?_)
  refine ⟨_, _, _, _, _, _, _, rfl, Walks.tuple (A := X.A.in1) (I.ok.hd hc) s.heap.objs.size a (Nat.ne_of_lt la) its.toArray, ⟨⟨_, Heap.get?_push_size _ rfl, rfl, rfl⟩, pt.push _⟩, fun b hb => ?_, ?_, CmpOf.ints_lt (fun i => ns.getD i 0) (vals_num rv), fun v h' tk hv hk => ?_⟩
  · show b < (s.heap.push _).objs.size
    rw [Heap.size_push]
    simp only [List.mem_cons, List.not_mem_nil, or_false] at hb
    rcases hb with rfl | rfl
    · exact Nat.lt_succ_self _
    · exact Nat.lt_succ_of_lt la
  · rw [List.size_toArray]
    omega
  · obtain ⟨t, rfl⟩ := vals_num rv _ _ hv
    obtain ⟨b1, b2⟩ := argBest_lt (fun i => ns.getD i 0) (its.toArray.size - 1)
    rw [List.size_toArray] at b1 b2 ⊢
    refine ⟨.int _, H, I.kept fun b u hb => hk b u (fun hm => ?_) (Heap.get?_push_of_some _ hb), ⟨_, rfl⟩, q _ (getD_in (by omega)) fun y hy => ?_⟩
    · rw [List.mem_singleton.mp hm] at hb
      exact absurd (Heap.lt_size hb) (Nat.lt_irrefl _)
    · obtain ⟨j, hj, rfl⟩ := in_getD hy
      exact b2 j (by omega)
end
end Z

set_option Elab.async false
set_option linter.all false
set_option maxRecDepth 100000
set_option autoImplicit false
set_option maxHeartbeats 1000000
namespace Z
open PySem PySem.Spec PyProof.Rows L2

def dTup (m : M (List D)) : M D := bnd m fun xs => if xs.length ≤ sizeLine then rt (.tuple xs) else fun _ => .bad
def dLst (m : M (List D)) : M (List D) := bnd m fun xs => if xs.length ≤ sizeLine then rt xs else fun _ => .bad
section
variable {X : Cx} {a b c e : Expr} {es : List Expr} {pos : Pos}
theorem dp_tup {k} {m : M (List D)} (h : DPs X es m) : DP X (.Tuple es k pos) (dTup m) := fun W tk => by
  refine pe_imp (pe_tupZ (h W tk)) fun σ H Q p => ?_
  refine (zt_bnd (ρ := rhoDs) p).imp fun vs H1 ⟨xs, F, G, Mu, Γ, R, h1, q⟩ => ?_
  have n1 := dpa_length h1
  split at q
  · rename_i hz
    refine ⟨by omega, fun p o n ho => ?_⟩
    have E := Ext.new (o := .frz o (.tup vs)) R.gh n
    exact q _ _ _ E.g (R.ext E) (show rhoD _ _ _ _ _ _ _ (.tuple xs) _ from .tup (.new ho) (dpAll_mono E.g _ _ h1))
  · exact q.elim
theorem do_lst {m : M (List D)} (h : DPs X es m) : DO X (.List es pos) (dLst m) := fun W tk => by
  refine pe_imp (pe_lst (h W tk)) fun σ H Q p => ?_
  refine (zt_bnd (ρ := rhoDs) p).imp fun vs H1 ⟨xs, F, G, Mu, Γ, R, h1, q⟩ => ?_
  have n1 := dpa_length h1
  split at q
  · rename_i hz
    refine ⟨by omega, fun p n => ?_⟩
    obtain ⟨R', o⟩ := R.newO n h1
    exact q _ _ G (Same.refl _) R' o
  · exact q.elim

theorem dp_callB {id : String} {f : List D → Option D} {x : Str} {p : Pos} {m : M (List Rs)} (hc : CallR X (.builtin id) (rDN X.K f)) (hg : Gl X x) (hm : X.mg x = none) (hv : bootBuiltins x = some (.builtin id)) (ha : DVs X (e :: es) m)
    (hn : x ≠ "__name__" := by decide) (hdb : (x == ("__debug__" : Str)) = false := by decide) (he : starEach (e :: es) X.env = (false, eval e X.env) :: starEach es X.env := by rfl) (hpl : (backTo pos (starEach es X.env)).any (·.1) = false := by rfl) :
    DP X (.Call (.Name x p) (e :: es) [] pos) (opN f m) := fun W tk => pe_imp (pe_callB hc hg hm hv (ha W tk) hn hdb he hpl) fun _ _ _ p => opN_run p
theorem dp_callTy {T : String} {f : List D → Option D} {x : Str} {p : Pos} {m : M (List Rs)} (hc : CallR X (.type T) (rDN X.K f)) (hg : Gl X x) (hm : X.mg x = none) (hv : bootBuiltins x = some (.type T)) (ha : DVs X (e :: es) m)
    (hn : x ≠ "__name__" := by decide) (hdb : (x == ("__debug__" : Str)) = false := by decide) (he : starEach (e :: es) X.env = (false, eval e X.env) :: starEach es X.env := by rfl) (hpl : (backTo pos (starEach es X.env)).any (·.1) = false := by rfl) :
    DP X (.Call (.Name x p) (e :: es) [] pos) (opN f m) := fun W tk => pe_imp (pe_callTy hc hg hm hv (ha W tk) hn hdb he hpl) fun _ _ _ p => opN_run p
end
def toInts : List D → Option (List Int)
  | [] => some []
  | .int i :: r => (toInts r).map (i :: ·)
  | _ :: _ => none
def toBools : List D → Option (List Bool)
  | [] => some []
  | .bool i :: r => (toBools r).map (i :: ·)
  | _ :: _ => none
theorem toInts_ok : ∀ {xs : List D} {ns : List Int}, toInts xs = some ns → xs = ns.map PyData.int
  | [], _, h => by cases h; rfl
  | x :: r, ns, h => by
    unfold toInts at h
    split at h
    · cases ‹_ = []›
    · rename_i i r' e
      cases e
      obtain ⟨ms, h1, h2⟩ := Option.map_eq_some_iff.mp h
      subst h2
      rw [toInts_ok h1]
      rfl
    · cases h
theorem toInts_map (ns : List Int) : toInts (ns.map PyData.int) = some ns := by
  induction ns with
  | nil => rfl
  | cons n r ih =>
    show (toInts (r.map PyData.int)).map (n :: ·) = _
    rw [ih]
    rfl
theorem toBools_map (ns : List Bool) : toBools (ns.map PyData.bool) = some ns := by
  induction ns with
  | nil => rfl
  | cons n r ih =>
    show (toBools (r.map PyData.bool)).map (n :: ·) = _
    rw [ih]
    rfl
def fLen : List D → Option D
  | [.list xs] => some (.int xs.length)
  | [.tuple xs] => some (.int xs.length)
  | [.str z] => if z.length ≤ sizeLine then some (.int z.length) else none
  | [.dict ((.list _, _) :: _)] => none
  | [.dict ds] => some (.int ds.length)
  | _ => none
def fInt : List D → Option D
  | [.int i] => some (.int i)
  | [.bool b] => some (.int (if b then 1 else 0))
  | _ => none
def lmax : Int → List Int → Int
  | m, [] => m
  | m, x :: r => lmax (if x > m then x else m) r
def lmin : Int → List Int → Int
  | m, [] => m
  | m, x :: r => lmin (if x < m then x else m) r
theorem lmax_spec : ∀ (r : List Int) (m : Int), (lmax m r = m ∨ lmax m r ∈ r) ∧ m ≤ lmax m r ∧ ∀ y ∈ r, y ≤ lmax m r
  | [], m => ⟨.inl rfl, Int.le_refl _, fun _ h => nomatch h⟩
  | x :: r, m => by
    obtain ⟨h1, h2, h3⟩ := lmax_spec r (if x > m then x else m)
    show (lmax (if x > m then x else m) r = m ∨ lmax (if x > m then x else m) r ∈ x :: r) ∧ m ≤ lmax (if x > m then x else m) r ∧ ∀ y ∈ x :: r, y ≤ lmax (if x > m then x else m) r
    refine ⟨?_, ?_, fun y hy => ?_⟩
    · rcases h1 with h1 | h1
      · by_cases hx : x > m
        · rw [if_pos hx] at h1 ⊢
          rw [h1]
          exact .inr List.mem_cons_self
        · rw [if_neg hx] at h1 ⊢
          exact .inl h1
      · exact .inr (List.mem_cons_of_mem _ h1)
    · refine Int.le_trans ?_ h2
      split <;> omega
    · rcases List.mem_cons.mp hy with e | hy
      · subst e
        refine Int.le_trans ?_ h2
        split <;> omega
      · exact h3 y hy
theorem lmin_spec : ∀ (r : List Int) (m : Int), (lmin m r = m ∨ lmin m r ∈ r) ∧ lmin m r ≤ m ∧ ∀ y ∈ r, lmin m r ≤ y
  | [], m => ⟨.inl rfl, Int.le_refl _, fun _ h => nomatch h⟩
  | x :: r, m => by
    obtain ⟨h1, h2, h3⟩ := lmin_spec r (if x < m then x else m)
    show (lmin (if x < m then x else m) r = m ∨ lmin (if x < m then x else m) r ∈ x :: r) ∧ lmin (if x < m then x else m) r ≤ m ∧ ∀ y ∈ x :: r, lmin (if x < m then x else m) r ≤ y
    refine ⟨?_, ?_, fun y hy => ?_⟩
    · rcases h1 with h1 | h1
      · by_cases hx : x < m
        · rw [if_pos hx] at h1 ⊢
          rw [h1]
          exact .inr List.mem_cons_self
        · rw [if_neg hx] at h1 ⊢
          exact .inl h1
      · exact .inr (List.mem_cons_of_mem _ h1)
    · refine Int.le_trans h2 ?_
      split <;> omega
    · rcases List.mem_cons.mp hy with e | hy
      · subst e
        refine Int.le_trans h2 ?_
        split <;> omega
      · exact h3 y hy
theorem the_max {ns : List Int} {a b : Int} (ha : a ∈ ns) (hb : b ∈ ns) (h1 : ∀ y ∈ ns, y ≤ a) (h2 : ∀ y ∈ ns, y ≤ b) : a = b := Int.le_antisymm (h2 a ha) (h1 b hb)
theorem the_min {ns : List Int} {a b : Int} (ha : a ∈ ns) (hb : b ∈ ns) (h1 : ∀ y ∈ ns, a ≤ y) (h2 : ∀ y ∈ ns, b ≤ y) : a = b := Int.le_antisymm (h1 b hb) (h2 a ha)
def fMax : List D → Option D
  | [.int i, .int j] => some (.int (if j > i then j else i))
  | [.list xs] => match toInts xs with
    | some (n :: ns) => some (.int (lmax n ns))
    | _ => none
  | [.tuple xs] => match toInts xs with
    | some (n :: ns) => some (.int (lmax n ns))
    | _ => none
  | _ => none
def fMin : List D → Option D
  | [.int i, .int j] => some (.int (if j < i then j else i))
  | [.list xs] => match toInts xs with
    | some (n :: ns) => some (.int (lmin n ns))
    | _ => none
  | [.tuple xs] => match toInts xs with
    | some (n :: ns) => some (.int (lmin n ns))
    | _ => none
  | _ => none
def fSum : List D → Option D
  | [.list xs] => (toInts xs).map fun ns => .int ns.sum
  | _ => none
def fAll : List D → Option D
  | [.list xs] => (toBools xs).map fun bs => .bool (bs.all id)
  | _ => none
def fList : List D → Option (List D)
  | [.list xs] => some xs
  | [.tuple xs] => some xs
  | _ => none
def fTuple : List D → Option D
  | [.list xs] => some (.tuple xs)
  | [.tuple xs] => some (.tuple xs)
  | _ => none
section
variable {X : Cx}
theorem cd_len : CallR X (.builtin "len") (rDN X.K fLen) := by
  intro pins s σ H vs us Q I r h
  obtain ⟨G, xs, z, gh, rd, e, q⟩ := h
  unfold fLen at e
  split at e
  · cases e
    obtain ⟨v, rfl, rv⟩ := rd.one
    obtain ⟨l, ws, rfl, s1, d1⟩ := rv.list gh
    rw [← dpa_length d1] at q
    exact call_len_seq pins s σ H _ us Q I r ⟨l, ws, rfl, .inl s1, q _ _ _ (Ext.refl gh) (.int _)⟩
  · cases e
    obtain ⟨v, rfl, rv⟩ := rd.one
    obtain ⟨l, ws, rfl, s1, d1⟩ := rv.tup gh
    rw [← dpa_length d1] at q
    exact call_len_seq pins s σ H _ us Q I r ⟨l, ws, rfl, .inr s1.sq, q _ _ _ (Ext.refl gh) (.int _)⟩
  · split at e
    · cases e
      obtain ⟨v, rfl, rv⟩ := rd.one
      have e1 := rv.str
      subst e1
      exact call_len_str pins s σ H _ us Q I r ⟨_, rfl, by assumption, q _ _ _ (Ext.refl gh) (.int _)⟩
    · cases e
  · cases e
  · rename_i ds hne
    cases e
    obtain ⟨v, rfl, rv⟩ := rd.one
    rcases rv with rv | ⟨_, _, _, _, c, _⟩
    · cases rv with
      | dic h1 h2 =>
        rw [← kv_len h2] at q
        exact call_lenD pins s σ H _ us Q I r ⟨_, _, rfl, gh _ _ h1, q _ _ _ (Ext.refl gh) (.int _)⟩
      | exc h1 h2 h3 h4 => exact absurd rfl (hne _ _ _)
    · cases c
  · cases e
theorem cd_int : CallR X (.type "int") (rDN X.K fInt) := by
  intro pins s σ H vs us Q I r h
  obtain ⟨G, xs, z, gh, rd, e, q⟩ := h
  unfold fInt at e
  split at e
  · cases e
    obtain ⟨v, rfl, rv⟩ := rd.one
    have e1 := rv.int
    subst e1
    exact call_int1 pins s σ H _ us Q I r (.inl ⟨_, rfl, q _ _ _ (Ext.refl gh) (.int _)⟩)
  · cases e
    obtain ⟨v, rfl, rv⟩ := rd.one
    have e1 := rv.bool
    subst e1
    exact call_int1 pins s σ H _ us Q I r (.inr ⟨_, rfl, q _ _ _ (Ext.refl gh) (.int _)⟩)
  · cases e
theorem cd_max (hc : X.calm = true) : CallR X (.builtin "max") (rDN X.K fMax) := by
  intro pins s σ H vs us Q I r h
  obtain ⟨G, xs, z, gh, rd, e, q⟩ := h
  unfold fMax at e
  split at e
  · cases e
    obtain ⟨v, u, rfl, r1, r2⟩ := rd.two
    have e1 := r1.int
    have e2 := r2.int
    subst e1 e2
    exact call_max2 hc pins s σ H _ us Q I r ⟨_, _, rfl, q _ _ _ (Ext.refl gh) (.int _)⟩
  · rename_i xs'
    split at e
    · rename_i n ns hi
      cases e
      obtain ⟨v, rfl, rv⟩ := rd.one
      obtain ⟨l, ws, rfl, s1, d1⟩ := rv.list gh
      rw [toInts_ok hi] at d1
      have e1 := dpa_ints' d1
      subst e1
      refine cr_max hc pins s σ H _ us Q I r ⟨l, n :: ns, rfl, s1, by simp, fun m hm hy => ?_⟩
      obtain ⟨k1, k2, k3⟩ := lmax_spec ns n
      have e2 : m = lmax n ns := the_max hm (by rcases k1 with k | k <;> simp [k]) hy fun y hy => by
        rcases List.mem_cons.mp hy with e | hy
        · subst e
          exact k2
        · exact k3 y hy
      rw [e2]
      exact q _ _ _ (Ext.refl gh) (.int _)
    · cases e
  · rename_i xs'
    split at e
    · rename_i n ns hi
      cases e
      obtain ⟨v, rfl, rv⟩ := rd.one
      obtain ⟨l, ws, rfl, s1, d1⟩ := rv.tup gh
      rw [toInts_ok hi] at d1
      have e1 := dpa_ints' d1
      subst e1
      refine cr_maxT hc pins s σ H _ us Q I r ⟨l, n :: ns, rfl, s1.sq, by simp, fun m hm hy => ?_⟩
      obtain ⟨k1, k2, k3⟩ := lmax_spec ns n
      have e2 : m = lmax n ns := the_max hm (by rcases k1 with k | k <;> simp [k]) hy fun y hy => by
        rcases List.mem_cons.mp hy with e | hy
        · subst e
          exact k2
        · exact k3 y hy
      rw [e2]
      exact q _ _ _ (Ext.refl gh) (.int _)
    · cases e
  · cases e
theorem cd_min (hc : X.calm = true) : CallR X (.builtin "min") (rDN X.K fMin) := by
  intro pins s σ H vs us Q I r h
  obtain ⟨G, xs, z, gh, rd, e, q⟩ := h
  unfold fMin at e
  split at e
  · cases e
    obtain ⟨v, u, rfl, r1, r2⟩ := rd.two
    have e1 := r1.int
    have e2 := r2.int
    subst e1 e2
    exact call_min2 hc pins s σ H _ us Q I r ⟨_, _, rfl, q _ _ _ (Ext.refl gh) (.int _)⟩
  · rename_i xs'
    split at e
    · rename_i n ns hi
      cases e
      obtain ⟨v, rfl, rv⟩ := rd.one
      obtain ⟨l, ws, rfl, s1, d1⟩ := rv.list gh
      rw [toInts_ok hi] at d1
      have e1 := dpa_ints' d1
      subst e1
      refine cr_min hc pins s σ H _ us Q I r ⟨l, n :: ns, rfl, s1, by simp, fun m hm hy => ?_⟩
      obtain ⟨k1, k2, k3⟩ := lmin_spec ns n
      have e2 : m = lmin n ns := the_min hm (by rcases k1 with k | k <;> simp [k]) hy fun y hy => by
        rcases List.mem_cons.mp hy with e | hy
        · subst e
          exact k2
        · exact k3 y hy
      rw [e2]
      exact q _ _ _ (Ext.refl gh) (.int _)
    · cases e
  · rename_i xs'
    split at e
    · rename_i n ns hi
      cases e
      obtain ⟨v, rfl, rv⟩ := rd.one
      obtain ⟨l, ws, rfl, s1, d1⟩ := rv.tup gh
      rw [toInts_ok hi] at d1
      have e1 := dpa_ints' d1
      subst e1
      refine cr_minT hc pins s σ H _ us Q I r ⟨l, n :: ns, rfl, s1.sq, by simp, fun m hm hy => ?_⟩
      obtain ⟨k1, k2, k3⟩ := lmin_spec ns n
      have e2 : m = lmin n ns := the_min hm (by rcases k1 with k | k <;> simp [k]) hy fun y hy => by
        rcases List.mem_cons.mp hy with e | hy
        · subst e
          exact k2
        · exact k3 y hy
      rw [e2]
      exact q _ _ _ (Ext.refl gh) (.int _)
    · cases e
  · cases e
end
end Z

set_option Elab.async false
set_option linter.all false
set_option maxRecDepth 100000
set_option autoImplicit false
set_option maxHeartbeats 1000000
namespace Z
open PySem PySem.Spec PyProof.Rows L2

def dB (m : M D) : M Bool := bnd m fun x => match x with
  | .bool b => rt b
  | _ => fun _ => .bad
def dNot (m : M Bool) : M Bool := bnd m fun b => rt (!b)
def dAnd (m n : M Bool) : M Bool := bnd m fun b => if b = true then n else rt false
def dOr (m n : M Bool) : M Bool := bnd m fun b => if b = true then rt true else n
def dIfE (t : M Bool) (m n : M D) : M D := bnd t fun b => if b = true then m else n
def dAndV (m n : M D) : M D := bnd m fun x => match x with
  | .bool b => if b = true then n else rt (.bool false)
  | _ => fun _ => .bad
def dOrV (m n : M D) : M D := bnd m fun x => match x with
  | .bool b => if b = true then rt (.bool true) else n
  | _ => fun _ => .bad
def dNotV (m : M D) : M D := bnd m fun x => match x with
  | .bool b => rt (.bool (!b))
  | _ => fun _ => .bad
section
variable {X : Cx} {a b c e : Expr} {rest : List Expr} {pos : Pos}
theorem b_run {W : WX} {σ : St} {H : Hp} {m : M D} {Q : Bool → Hp → Prop} (p : zt X W rhoB (dB m) σ H Q) : zt X W rhoD m σ H fun v H1 => ∃ k, v = .bl k ∧ Q k H1 := by
  refine (zt_bnd (ρ := rhoD) p).imp fun v H1 ⟨r, F, G, Mu, Γ, R, h1, q⟩ => ?_
  cases r with
  | bool k =>
    cases h1
    exact ⟨k, rfl, zpost_ok R (show rhoB _ _ _ _ _ _ _ k k from rfl) q⟩
  | _ => exact q.elim
theorem dt_val {m : M D} (h : DP X e m) (he : ∀ whole, isTrue e X.env whole = (do let v ← whole; standAt e.pos; holding [v] (truthy v)) := by intro _; rfl) : DT X e (dB m) := fun W tk =>
  pt_imp (pt_val (h W tk) he) fun σ H Q p => b_run p
theorem dt_cmp {op : CmpOp} {f : D → D → Option D} {m n : M Rs} (ho : OpR X (compareOp op) (rD2 X.K f)) (ha : DV X a m) (hb : DV X b n) (hm : behindInMarks op b = false) : DT X (.Compare a [op] [b] pos) (dB (op2 f m n)) := fun W tk =>
  pt_imp (pt_cmpR ho (ha W tk) (hb W tk) hm) fun σ H Q p => op2_run (b_run p)
theorem dt_not {m : M Bool} (h : DT X a m) : DT X (.UnaryOp .Not a pos) (dNot m) := fun W tk => pt_imp (pt_not (h W tk)) fun σ H Q p => by
  refine (zt_bnd (ρ := rhoB) p).imp fun v H1 ⟨r, F, G, Mu, Γ, R, h1, q⟩ => ?_
  have e0 : r = v := h1
  subst e0
  exact zpost_ok R (show rhoB _ _ _ _ _ _ _ (!r) (!r) from rfl) q
theorem dw_and1 {m : M Bool} (h : DT X a m) : DW X (.BoolOp .And [a] pos) m := fun W tk => pw_and1 (h W tk)
theorem dw_or1 {m : M Bool} (h : DT X a m) : DW X (.BoolOp .Or [a] pos) m := fun W tk => pw_or1 (h W tk)
theorem dw_and {m n : M Bool} (h : DT X a m) (k : DW X (.BoolOp .And (b :: rest) pos) n) : DW X (.BoolOp .And (a :: b :: rest) pos) (dAnd m n) := fun W tk => pw_imp (pw_and (h W tk) (k W tk)) fun σ H Q p => by
  refine (zt_bnd (ρ := rhoB) p).imp fun v H1 ⟨r, F, G, Mu, Γ, R, h1, q⟩ => ?_
  have e0 : r = v := h1
  subst e0
  cases r with
  | true => exact ⟨F, G, Mu, Γ, R, q⟩
  | false => exact zpost_ok R (show rhoB _ _ _ _ _ _ _ false false from rfl) q
theorem dw_or {m n : M Bool} (h : DT X a m) (k : DW X (.BoolOp .Or (b :: rest) pos) n) : DW X (.BoolOp .Or (a :: b :: rest) pos) (dOr m n) := fun W tk => pw_imp (pw_or (h W tk) (k W tk)) fun σ H Q p => by
  refine (zt_bnd (ρ := rhoB) p).imp fun v H1 ⟨r, F, G, Mu, Γ, R, h1, q⟩ => ?_
  have e0 : r = v := h1
  subst e0
  cases r with
  | false => exact ⟨F, G, Mu, Γ, R, q⟩
  | true => exact zpost_ok R (show rhoB _ _ _ _ _ _ _ true true from rfl) q
theorem dt_w {m : M Bool} (h : DW X e m) : DT X e m := fun W tk => (h W tk).pt
theorem dp_one {op} {m : M D} (h : DP X a m) : DP X (.BoolOp op [a] pos) m := fun W tk => pe_one (h W tk)
theorem dp_and {m n : M D} (h : DP X a m) (k : DP X (.BoolOp .And (b :: rest) pos) n) : DP X (.BoolOp .And (a :: b :: rest) pos) (dAndV m n) := fun W tk => pe_imp (pe_and (h W tk) (k W tk)) fun σ H Q p => by
  refine (zt_bnd (ρ := rhoD) p).imp fun v H1 ⟨r, F, G, Mu, Γ, R, h1, q⟩ => ?_
  cases r with
  | bool k =>
    cases h1
    refine ⟨k, rfl, ?_⟩
    cases k with
    | true => exact ⟨F, G, Mu, Γ, R, q⟩
    | false => exact zpost_ok R (show rhoD _ _ _ _ _ _ _ (.bool false) (.bl false) from .bl _) q
  | _ => exact q.elim
theorem dp_not {m : M D} (h : DP X a m) : DP X (.UnaryOp .Not a pos) (dNotV m) := fun W tk => pe_imp (pe_not (h W tk)) fun σ H Q p => by
  refine (zt_bnd (ρ := rhoD) p).imp fun v H1 ⟨r, F, G, Mu, Γ, R, h1, q⟩ => ?_
  cases r with
  | bool k =>
    cases h1
    exact ⟨k, rfl, zpost_ok R (show rhoD _ _ _ _ _ _ _ (.bool (!k)) (.bl (!k)) from .bl _) q⟩
  | _ => exact q.elim
end

def dChain (f g : D → D → Option D) (m n o : M Rs) : M D := bnd m fun r => bnd n fun s => fun Γ => match vl Γ r, vl Γ s with
  | some x, some y => match f x y with
    | some (.bool k) => if k = true then bnd o (fun t => fun Γ' => match vl Γ' s, vl Γ' t with
      | some y', some z => match g y' z with
        | some w => .ok w Γ'
        | none => .bad
      | _, _ => .bad) Γ else .ok (.bool false) Γ
    | _ => .bad
  | _, _ => .bad
section
variable {X : Cx} {a b c : Expr} {pos : Pos} {f g : D → D → Option D}
end

inductive Ty where
  | int | bool | str | list | tuple
def Ty.name : Ty → String
  | .int => "int"
  | .bool => "bool"
  | .str => "str"
  | .list => "list"
  | .tuple => "tuple"
def tyD : D → String
  | .none => "NoneType"
  | .bool _ => "bool"
  | .int _ => "int"
  | .str _ => "str"
  | .list _ => "list"
  | .tuple _ => "tuple"
  | .dict _ => "dict"
def isTy : D → Ty → Bool
  | .bool _, .int => true
  | .bool _, .bool => true
  | .int _, .int => true
  | .str _, .str => true
  | .list _, .list => true
  | .tuple _, .tuple => true
  | _, _ => false
def isTys (x : D) (ts : List Ty) : Bool := ts.any (isTy x)
def fIs (ts : List Ty) (x : D) : Option D := match x with
  | .dict _ => none
  | x => some (.bool (isTys x ts))
theorem fIs_nd {ts : List Ty} {x z : D} (h : fIs ts x = some z) : (∀ kvs, x ≠ .dict kvs) ∧ z = .bool (isTys x ts) := by
  unfold fIs at h
  split at h
  · cases h
  · rename_i hx
    cases h
    exact ⟨fun kvs e => hx kvs e, rfl⟩
section
variable {X : Cx} {pos p p2 : Pos} {a : Expr}
theorem rdb_ty {K : PySem.W.Frag} {G H : Hp} {v : V} {x : D} (gh : Same G H) (r : Rdb K G H v x) (hx : ∀ kvs, x ≠ .dict kvs) : TyX K H v (.type (tyD x)) := by
  have d := r.dp gh
  cases d with
  | dic _ _ => exact absurd rfl (hx _)
  | exc _ _ _ _ => exact absurd rfl (hx _)
  | non => exact .base .non
  | bl b => exact .base (.bl b)
  | int i => exact .base (.int i)
  | str z => exact .base (.str z)
  | lst h1 h2 =>
    rcases h1 with (h1 | ⟨o, h1⟩) | ⟨o, _, _, h1, h3, _⟩
    · exact .base (.lst h1)
    · exact .base (.frz h1)
    · exact .kList h1 h3
  | tup h1 h2 =>
    rcases h1 with ⟨o, h1, _⟩ | ⟨o, _, _, h1, h3, _⟩
    · exact .fTuple h1
    · exact .kTuple h1 h3
theorem kit_D (K : PySem.W.Frag) (x : D) (h : ∀ kvs, x ≠ .dict kvs) : ∀ t : Ty, PySem.W.kitOne K (.type (tyD x)) (.type t.name) = some (isTy x t) := by
  intro t
  cases x with
  | dict kvs => exact absurd rfl (h kvs)
  | none => cases t <;> exact kit_ty (by decide +kernel)
  | bool b =>
    cases t
    · exact kit_ty (show kitB "bool" "int" = some (isTy (.bool true) .int) by decide +kernel)
    · exact kit_ty (show kitB "bool" "bool" = some (isTy (.bool true) .bool) by decide +kernel)
    · exact kit_ty (show kitB "bool" "str" = some (isTy (.bool true) .str) by decide +kernel)
    · exact kit_ty (show kitB "bool" "list" = some (isTy (.bool true) .list) by decide +kernel)
    · exact kit_ty (show kitB "bool" "tuple" = some (isTy (.bool true) .tuple) by decide +kernel)
  | int b =>
    cases t
    · exact kit_ty (show kitB "int" "int" = some (isTy (.int 0) .int) by decide +kernel)
    · exact kit_ty (show kitB "int" "bool" = some (isTy (.int 0) .bool) by decide +kernel)
    · exact kit_ty (show kitB "int" "str" = some (isTy (.int 0) .str) by decide +kernel)
    · exact kit_ty (show kitB "int" "list" = some (isTy (.int 0) .list) by decide +kernel)
    · exact kit_ty (show kitB "int" "tuple" = some (isTy (.int 0) .tuple) by decide +kernel)
  | str b =>
    cases t
    · exact kit_ty (show kitB "str" "int" = some (isTy (.str "") .int) by decide +kernel)
    · exact kit_ty (show kitB "str" "bool" = some (isTy (.str "") .bool) by decide +kernel)
    · exact kit_ty (show kitB "str" "str" = some (isTy (.str "") .str) by decide +kernel)
    · exact kit_ty (show kitB "str" "list" = some (isTy (.str "") .list) by decide +kernel)
    · exact kit_ty (show kitB "str" "tuple" = some (isTy (.str "") .tuple) by decide +kernel)
  | list b =>
    cases t
    · exact kit_ty (show kitB "list" "int" = some (isTy (.list []) .int) by decide +kernel)
    · exact kit_ty (show kitB "list" "bool" = some (isTy (.list []) .bool) by decide +kernel)
    · exact kit_ty (show kitB "list" "str" = some (isTy (.list []) .str) by decide +kernel)
    · exact kit_ty (show kitB "list" "list" = some (isTy (.list []) .list) by decide +kernel)
    · exact kit_ty (show kitB "list" "tuple" = some (isTy (.list []) .tuple) by decide +kernel)
  | tuple b =>
    cases t
    · exact kit_ty (show kitB "tuple" "int" = some (isTy (.tuple []) .int) by decide +kernel)
    · exact kit_ty (show kitB "tuple" "bool" = some (isTy (.tuple []) .bool) by decide +kernel)
    · exact kit_ty (show kitB "tuple" "str" = some (isTy (.tuple []) .str) by decide +kernel)
    · exact kit_ty (show kitB "tuple" "list" = some (isTy (.tuple []) .list) by decide +kernel)
    · exact kit_ty (show kitB "tuple" "tuple" = some (isTy (.tuple []) .tuple) by decide +kernel)
theorem kit_Ds (K : PySem.W.Frag) (x : D) (h : ∀ kvs, x ≠ .dict kvs) : ∀ ts : List Ty, PySem.W.kitAny K (.type (tyD x)) (ts.map fun t => Value.type t.name) = some (isTys x ts)
  | [] => kitAny_nil
  | t :: ts => kitAny_cons (kit_D K x h t) (fun e => by
      rw [kit_Ds K x h ts]
      show some (isTys x ts) = some (isTy x t || isTys x ts)
      rw [e, Bool.false_or]) (fun e => by
      show (isTy x t || isTys x ts) = true
      rw [e, Bool.true_or])
theorem dp_isi {T : Str} {t : Ty} {m : M Rs} (hg : Gl X "isinstance") (hm : X.mg "isinstance" = none) (ha : DV X a m) (hgT : Gl X T) (hmT : X.mg T = none) (hv : bootBuiltins T = some (.type t.name))
    (hnT : T ≠ "__name__" := by decide) (hdT : (T == ("__debug__" : Str)) = false := by decide) (hs : starEach [a, .Name T p2] X.env = (false, eval a X.env) :: starEach [.Name T p2] X.env := by rfl) (hs2 : starEach [.Name T p2] X.env = (false, eval (.Name T p2) X.env) :: starEach [] X.env := by rfl)
    (hpl : (backTo pos (starEach [.Name T p2] X.env)).any (·.1) = false := by rfl) :
    DP X (.Call (.Name "isinstance" p) [a, .Name T p2] [] pos) (op1 (fIs [t]) m) := fun W tk => by
  refine pe_imp (pe_callB call_isi hg hm (by decide +kernel) (pa_cons (ha W tk) (pa_cons (pe_bltn (v := .ty t.name) hgT hmT hv rfl hnT hdT) pa_nil hs2) hs) (he := hs) (hpl := hpl)) fun σ H Q p => ?_
  refine (op1_run p).imp fun v H1 ⟨G, dx, z, gh, r1, e, q⟩ => ?_
  obtain ⟨hx, e⟩ := fIs_nd e
  subst e
  refine ⟨v, .ty t.name, .type (tyD dx), .type t.name, isTy dx t, rfl, .ty _, rdb_ty gh r1 hx, kit_D _ _ hx t, ?_⟩
  have q' := q (.bl (isTys dx [t])) H1 G (Ext.refl gh) (.bl _)
  have e2 : isTys dx [t] = isTy dx t := Bool.or_false _
  rw [e2] at q'
  exact q'
end
end Z

set_option Elab.async false
set_option linter.all false
set_option maxRecDepth 100000
set_option autoImplicit false
set_option maxHeartbeats 1000000
namespace Z
open PySem PySem.Spec PyProof.Rows L2

section
variable {K : PySem.W.Frag} {G H H' : Hp}
theorem Rdb.mono (e : Same H H') {v : V} {x : D} (h : Rdb K G H v x) : Rdb K G H' v x := by
  rcases h with h | ⟨l, vs, xs, rfl, rfl, h1, h2⟩
  · exact .inl h
  · exact .inr ⟨l, vs, xs, rfl, rfl, e.seq h1, h2⟩
end
def tTys (ts : List Ty) : TA := fun _ H Q => Q (ts.map fun t => V.ty t.name) H
section
variable {X : Cx} {pos p p2 : Pos} {a : Expr} {es : List Expr} {k : Nat}
theorem ty_nil : PA X [] (tTys []) := pa_nil
theorem ty_cons {T : Str} {t : Ty} {ts : List Ty} (hgT : Gl X T) (hmT : X.mg T = none) (hv : bootBuiltins T = some (.type t.name)) (h : PA X es (tTys ts))
    (hnT : T ≠ "__name__" := by decide) (hdT : (T == ("__debug__" : Str)) = false := by decide) (hs : starEach (.Name T p :: es) X.env = (false, eval (.Name T p) X.env) :: starEach es X.env := by rfl) : PA X (.Name T p :: es) (tTys (t :: ts)) :=
  pa_cons (pe_bltn (v := .ty t.name) hgT hmT hv rfl hnT hdT) h hs
theorem paired_cls : ∀ ts : List Ty, Paired ClsV (ts.map fun t => V.ty t.name) (ts.map fun t => Value.type t.name)
  | [] => .nil
  | t :: ts => .cons (.ty _) (paired_cls ts)
theorem dp_isiT {ts : List Ty} {m : M Rs} (hg : Gl X "isinstance") (hm : X.mg "isinstance" = none) (ha : DV X a m) (h : PA X es (tTys ts)) (hl : ts.length ≤ 100)
    (hs : starEach [a, .Tuple es k p2] X.env = (false, eval a X.env) :: starEach [.Tuple es k p2] X.env := by rfl) (hs2 : starEach [.Tuple es k p2] X.env = (false, eval (.Tuple es k p2) X.env) :: starEach [] X.env := by rfl)
    (hpl : (backTo pos (starEach [.Tuple es k p2] X.env)).any (·.1) = false := by rfl) :
    DP X (.Call (.Name "isinstance" p) [a, .Tuple es k p2] [] pos) (op1 (fIs ts) m) := fun W tk => by
  refine pe_imp (pe_callB call_isiT hg hm (by decide +kernel) (pa_cons (ha W tk) (pa_cons (pe_tup h) pa_nil hs2) hs) (he := hs) (hpl := hpl)) fun σ H Q p => ?_
  refine (zt_bnd (ρ := rhoR) p).imp fun v H1 ⟨r, F, G, Mu, Γ, R, h1, q⟩ => ?_
  have hz : sizeLine = 16777216 := sizeLine_eq
  refine ⟨by rw [List.length_map]; omega, fun tp n => ?_⟩
  cases e1 : vl Γ r with
  | none => rw [e1] at q; exact q.elim
  | some x =>
    rw [e1] at q
    have r1 := R.read h1 e1
    have gh2 := same_updR (o := .tup (ts.map fun t => V.ty t.name)) R.gh (R.gh.free n)
    have r2 := r1.mono (same_upd (o := .tup (ts.map fun t => V.ty t.name)) n)
    dsimp only at q
    cases e2 : fIs ts x with
    | none => rw [e2] at q; exact q.elim
    | some z =>
    obtain ⟨hx, ez⟩ := fIs_nd e2
    subst ez
    rw [e2] at q
    refine ⟨v, tp, _, .type (tyD x), _, isTys x ts, rfl, upd_same, paired_cls ts, rdb_ty gh2 r2 hx, kit_Ds _ _ hx ts, ?_⟩
    exact q _ _ G (Same.refl _) (R.newX n) (show rhoD _ _ _ _ _ _ _ (.bool (isTys x ts)) (.bl (isTys x ts)) from .bl _)
end

def fCat : D → D → Option (List D)
  | .list xs, .list ys => if xs.length + ys.length ≤ sizeLine then some (xs ++ ys) else none
  | _, _ => none
section
variable {X : Cx}
theorem or_cat : OpR X (binaryOp .Add) (rO2 X.K fCat) := by
  intro pins s σ H x y v u Q I rx ry h
  obtain ⟨G, dx, dy, zs, gh, r1, r2, e, q⟩ := h
  unfold fCat at e
  split at e
  · split at e
    · rename_i hz
      cases e
      obtain ⟨l1, vs1, rfl, s1, d1⟩ := r1.list gh
      obtain ⟨l2, vs2, rfl, s2, d2⟩ := r2.list gh
      have n1 := dpa_length d1
      have n2 := dpa_length d2
      cases rx
      cases ry
      obtain ⟨its, ra, ⟨o1, k1, e1, c1, dn1, t1⟩, _⟩ := I.list s1
      obtain ⟨its2, rb, ⟨o2, k2, e2, c2, dn2, t2⟩, _⟩ := I.list s2
      have m1 := ra.length
      have m2 := rb.length
      obtain ⟨cls1, dd1, dt1, sl1⟩ := o1
      obtain ⟨cls2, dd2, dt2, sl2⟩ := o2
      simp only at c1 dn1 t1 c2 dn2 t2
      subst c1 dn1 t1 c2 dn2 t2
      have ea : its.toArray ++ its2.toArray = (its ++ its2).toArray := by simp
      refine concat_meets ⟨_, e1, rfl⟩ ⟨_, e2, rfl⟩ noFill_list_add seq_list_add PySem.F.slot_list_add PySem.F.entry_list_add (PySem.F.args_list_add_2 _ _)
        (list_addW l1 l2 its.toArray its2.toArray k1 k2 none none sl1 sl2 (by rw [List.size_toArray, List.size_toArray]; omega)) ⟨e1, e2, ?_⟩
      rw [ea]
      exact ⟨.ref _, _, I.lnew (t' := s.toks) (ra.append rb) (by rw [List.length_append]; omega), rfl, q _ _ I.fresh (dpa_append d1 d2)⟩
    · cases e
  · cases e
end
def fRep (xs : List D) (y : D) : Option (List D) := match y with
  | .int k => if -(2 ^ 63) ≤ k ∧ k < 2 ^ 63 ∧ xs.length * k.toNat ≤ sizeLine then some (List.replicate k.toNat xs).flatten else none
  | _ => none
def dRep (m : M (List D)) (n : M Rs) : M (List D) := bnd m fun xs => bnd n fun s => fun g => match vl g s with
  | none => .bad
  | some y => match fRep xs y with
    | none => .bad
    | some z => .ok z g
section
variable {X : Cx} {a b e : Expr} {pos : Pos}
end

def rgD (a b : Int) : List D := (List.range (b - a).toNat).map fun i => .int (a + (i : Nat))
def okRg (a b : Int) : Bool := decide (-(2 ^ 62) ≤ a) && decide (a < 2 ^ 62) && decide (-(2 ^ 62) ≤ b) && decide (b < 2 ^ 62) && decide ((b - a).toNat ≤ 16777216)
/-- the bounds of a range, as values -/
def rg1 (m : M Rs) : M (Int × Int) := bnd m fun r => fun g => match vl g r with
  | some (.int n) => .ok (0, n) g
  | _ => .bad
def rg2 (m n : M Rs) : M (Int × Int) := bnd m fun r => bnd n fun s => fun g => match vl g r, vl g s with
  | some (.int i), some (.int j) => .ok (i, j) g
  | _, _ => .bad
section
variable {X : Cx} {a b e : Expr} {p pos : Pos}
def dLstRg (m : M (Int × Int)) : M (List D) := bnd m fun ij => if okRg ij.1 ij.2 then rt (rgD ij.1 ij.2) else fun _ => .bad
def dTupRg (m : M (Int × Int)) : M D := bnd m fun ij => if okRg ij.1 ij.2 then rt (.tuple (rgD ij.1 ij.2)) else fun _ => .bad
end

def ixOf (k : Int) : List Int → Option Nat
  | [] => none
  | n :: r => if n = k then some 0 else (ixOf k r).map (· + 1)
section
variable {X : Cx}
end
end Z

set_option Elab.async false
set_option linter.all false
set_option maxRecDepth 100000
set_option autoImplicit false
set_option maxHeartbeats 1000000
namespace Z
open PySem PySem.Spec PyProof.Rows L2

section
variable {prog : Program} {w : World} {A : Around} {E : Value → Shared → Prop} {s : Shared}
end
def fBack : D → Option D
  | .tuple xs => some (.tuple xs.reverse)
  | _ => none
def fBackL : D → Option (List D)
  | .list xs => some xs.reverse
  | _ => none
def op1o (f : D → Option (List D)) (m : M Rs) : M (List D) := bnd m fun r => fun g => match vl g r with
  | none => .bad
  | some x => match f x with
    | none => .bad
    | some z => .ok z g
section
variable {X : Cx} {e : Expr} {k : Nat} {p1 p2 p3 pos : Pos}
end

section
variable {X : Cx} {o e : Expr} {apos cpos : Pos} {to : TE} {t : TA} {es : List Expr} {name : Str} {id : String} {r : V → List V → Hp → VK → Prop}
def fIxT : D → D → Option D
  | .tuple xs, .int k => match toInts xs with
    | some ns => (ixOf k ns).map fun j => .int (j : Nat)
    | none => none
  | _, _ => none
/-- the receiver is looked at ahead of the argument -/
def dIndexT (m n : M Rs) : M D := bnd m fun r => fun g => match vl g r with
  | some (.tuple _) => op2 fIxT (rt r) n g
  | _ => .bad
end
end Z

set_option Elab.async false
set_option linter.all false
set_option maxRecDepth 100000
set_option autoImplicit false
set_option maxHeartbeats 1000000
namespace Z
open PySem PySem.Spec PyProof.Rows L2

def dMut (i : Nat) (f : List D → List D → Option (List D × D)) (m : M (List D)) : M D := fun g => match g[i]? with
  | some (.own _ _) => bnd m (fun args => fun g' => match g'[i]? with
    | some (.own b xs) => match f xs args with
      | some (ys, r) => .ok r (g'.set i (.own b ys))
      | none => .bad
    | _ => .bad) g
  | _ => .bad
section
variable {X : Cx}
end
section
variable {X : Cx} {e : Expr} {es : List Expr} {apos cpos p : Pos} {x name : Str} {id : String} {i : Nat} {f : List D → List D → Option (List D × D)}
end
end Z

set_option Elab.async false
set_option linter.all false
set_option maxRecDepth 100000
set_option autoImplicit false
set_option maxHeartbeats 1000000
namespace Z
open PySem PySem.Spec PyProof.Rows L2

inductive Rt where
  | d (x : D)
  | own (xs : List D)
inductive Fl where
  | nx
  | rt (r : Rt)
  | bk
  | ct
def rhoT : Rho Rt V := fun K F G Mu Γ σ H r v => match r with
  | .d x => Dq K G v x
  | .own xs => rhoO K F G Mu Γ σ H xs v
def spost (X : Cx) (W : WX) (F : Fr) (G : Hp) (Mu : Option Addr) (D : Ends) (o : Ro Fl) : Prop := match o with
  | .bad => False
  | .ok .nx Γ' => ∀ σ' H' G', Same G G' → Rel X.K F G' Mu Γ' σ' H' → D.nx σ' H'
  | .ok (.rt r) Γ' => ∀ v σ' H' G', Same G G' → Rel X.K F G' Mu Γ' σ' H' → rhoT X.K F G' Mu Γ' σ' H' r v → D.rt v H'
  | .ok .bk Γ' => ∀ σ' H' G', Same G G' → Rel X.K F G' Mu Γ' σ' H' → D.bk σ' H'
  | .ok .ct Γ' => ∀ σ' H' G', Same G G' → Rel X.K F G' Mu Γ' σ' H' → D.ct σ' H'
  | .ex c x Γ' => ∀ C a v σ' H' G', X.mg c = some (.ref C) → Same G G' → Rel X.K F G' Mu Γ' σ' H' → H' a = some (.xd [("value", v)]) → Dq X.K G' v x → F.f a = none → Mu ≠ some a → W (.ref C) (some a) σ' H'
def st (X : Cx) (W : WX) (m : M Fl) : TS := fun D σ H => ∃ F G Mu Γ, Rel X.K F G Mu Γ σ H ∧ spost X W F G Mu D (m Γ)
def DS (X : Cx) (s : Stmt) (m : M Fl) : Prop := ∀ W, Takes X W → PS X s (st X W m)
def DSs (X : Cx) (ss : List Stmt) (m : M Fl) : Prop := ∀ W, Takes X W → PSs X ss (st X W m)
def dSeq (a b : M Fl) : M Fl := fun g => match a g with
  | .ok .nx g' => b g'
  | o => o
def sNx : M Fl := fun g => .ok .nx g
def sBk : M Fl := fun g => .ok .bk g
def sCt : M Fl := fun g => .ok .ct g
section
variable {X : Cx} {W : WX} {F : Fr} {G G' : Hp} {Mu : Option Addr} {D D' : Ends}
theorem spost.rebase {o : Ro Fl} (e : Same G G') (p : spost X W F G Mu D o) : spost X W F G' Mu D o := by
  cases o with
  | bad => exact p
  | ok r Γ' =>
    cases r with
    | nx => exact fun σ' H' G2 h => p σ' H' G2 (e.trans h)
    | rt r => exact fun v σ' H' G2 h => p v σ' H' G2 (e.trans h)
    | bk => exact fun σ' H' G2 h => p σ' H' G2 (e.trans h)
    | ct => exact fun σ' H' G2 h => p σ' H' G2 (e.trans h)
  | ex c x Γ' => exact fun C a v σ' H' G2 h1 h2 => p C a v σ' H' G2 h1 (e.trans h2)
end
section
variable {X : Cx} {s : Stmt} {ss : List Stmt} {e c : Expr} {pos : Pos}
theorem dss_nil : DSs X [] sNx := fun W _ => pss_imp pss_nil fun D σ H ⟨F, G, Mu, Γ, R, p⟩ => p σ H G (Same.refl _) R
theorem dss_cons {m n : M Fl} (h : DS X s m) (k : DSs X ss n) : DSs X (s :: ss) (dSeq m n) := fun W tk => pss_imp (pss_cons (h W tk) (k W tk)) fun D σ H ⟨F, G, Mu, Γ, R, p⟩ => by
  refine ⟨F, G, Mu, Γ, R, ?_⟩
  unfold dSeq at p
  cases e1 : m Γ with
  | bad => rw [e1] at p; exact p
  | ex c x Γ' => rw [e1] at p; exact p
  | ok r Γ' =>
    rw [e1] at p
    cases r with
    | nx => exact fun σ' H' G' h R' => ⟨F, G', Mu, Γ', R', p.rebase h⟩
    | rt r => exact p
    | bk => exact p
    | ct => exact p
theorem dss_one {m : M Fl} (h : DS X s m) : DSs X [s] m := fun W tk => pss_one (h W tk)
theorem st_bnd {α β : Type} {ρ : Rho α β} {W : WX} {σ : St} {H : Hp} {D : Ends} {m : M α} {f : α → M Fl} (p : st X W (bnd m f) D σ H) : zt X W ρ m σ H fun v H1 => ∃ r F G Mu Γ, Rel X.K F G Mu Γ σ H1 ∧ ρ X.K F G Mu Γ σ H1 r v ∧ spost X W F G Mu D (f r Γ) := by
  obtain ⟨F, G, Mu, Γ, R, q⟩ := p
  refine ⟨F, G, Mu, Γ, R, ?_⟩
  unfold bnd at q
  cases e : m Γ with
  | bad => rw [e] at q; exact q
  | ok r Γ1 =>
    rw [e] at q
    exact fun v H1 G1 h1 R1 h2 => ⟨r, F, G1, Mu, Γ1, R1, h2, q.rebase h1⟩
  | ex c x Γ1 =>
    rw [e] at q
    exact fun C a v H' G' => q C a v σ H' G'
def sExpr (m : M D) : M Fl := bnd m fun _ => sNx
def sRet (m : M D) : M Fl := bnd m fun x => fun g => .ok (.rt (.d x)) g
def sRetO (m : M (List D)) : M Fl := bnd m fun x => fun g => .ok (.rt (.own x)) g
def sRetN : M Fl := fun g => .ok (.rt (.d .none)) g
def sSet (i : Nat) (m : M D) : M Fl := bnd m fun x => fun g => .ok .nx (g.set i (.d x))
def sSetO (i : Nat) (m : M (List D)) : M Fl := bnd m fun x => fun g => .ok .nx (g.set i (.own false x))
def sIf (t : M Bool) (a b : M Fl) : M Fl := bnd t fun k => if k = true then a else b
theorem ds_ret {m : M D} (h : DP X e m) : DS X (.Return (some e) pos) (sRet m) := fun W tk => ps_imp (ps_ret (h W tk)) fun D σ H p =>
  (st_bnd (ρ := rhoD) p).imp fun v H1 ⟨r, F, G, Mu, Γ, R, h1, q⟩ => q v σ H1 G (Same.refl _) R h1
theorem ds_retO {m : M (List D)} (h : DO X e m) : DS X (.Return (some e) pos) (sRetO m) := fun W tk => ps_imp (ps_ret (h W tk)) fun D σ H p =>
  (st_bnd (ρ := rhoO) p).imp fun v H1 ⟨r, F, G, Mu, Γ, R, h1, q⟩ => q v σ H1 G (Same.refl _) R h1
/-- return of a name that holds a list of one's own: it is the caller's -/
def sRetV (i : Nat) : M Fl := fun g => match g[i]? with
  | some (.own false xs) => .ok (.rt (.own xs)) (g.set i .u)
  | some (.d x) => .ok (.rt (.d x)) g
  | _ => .bad
theorem ds_retV {i : Nat} {x : Str} {p : Pos} (hN : X.N[i]? = some x) (hv : Vis X.env.scope x) (hd : (x == ("__debug__" : Str)) = false := by decide) (hcd : (x == ("__classdict__" : Str)) = false := by decide) : DS X (.Return (some (.Name x p)) pos) (sRetV i) := fun W _ =>
  ps_imp (ps_ret (pe_var hN hv hd hcd)) fun D σ H ⟨F, G, Mu, Γ, R, q⟩ => by
    unfold sRetV at q
    split at q
    · rename_i xs hg
      obtain ⟨l, us, h1, h2, h3, h4, h5, h6, h7, ho⟩ := R.owned hg
      have e : σ.set i (σ[i]?.join) = σ := by
        rw [h1]
        exact List.ext_getElem? fun j => by
          by_cases hj : i = j
          · subst hj
            have hi := (List.getElem?_eq_some_iff.mp h1).1
            rw [List.getElem?_set_self hi, h1]
            rfl
          · rw [List.getElem?_set_ne hj]
      have R' := R.forget i (o := σ[i]?.join)
      rw [e] at R'
      refine ⟨_, h1, q _ σ H G (Same.refl _) R' ⟨l, us, rfl, h2, h3, h4, h5, h7 rfl, fun j hj => ?_⟩⟩
      obtain ⟨k1, k2⟩ := owns_set hj rfl
      exact k2 (R.sep j i l k1 ho)
    · rename_i y hg
      obtain ⟨v, h1, h2⟩ := R.data hg
      exact ⟨v, h1, q v σ H G (Same.refl _) R h2⟩
    · exact q.elim
theorem ds_if {t : M Bool} {m n : M Fl} {a b : List Stmt} (hc : DT X c t) (ha : DSs X a m) (hb : DSs X b n) : DS X (.If c a b pos) (sIf t m n) := fun W tk => ps_imp (ps_if (hc W tk) (ha W tk) (hb W tk)) fun D σ H p =>
  (st_bnd (ρ := rhoB) p).imp fun v H1 ⟨r, F, G, Mu, Γ, R, h1, q⟩ => by
    have e0 : r = v := h1
    subst e0
    cases r with
    | true => exact ⟨F, G, Mu, Γ, R, q⟩
    | false => exact ⟨F, G, Mu, Γ, R, q⟩
variable {i : Nat} {x : Str} {pos' : Pos}
theorem ds_set {m : M D} (hN : X.N.Nodup) (hi : X.N[i]? = some x) (hx : Loc X.env.scope x) (h : DP X e m) (hs : swapsWith e (some (.Name x pos')) pos.line X.env = pure false := by rfl)
    (hf : X.fn x = true ∨ X.env.scope.names.lookup x = some .local := by first | exact .inl rfl | exact .inr rfl | assumption) : DS X (.Assign [.Name x pos'] e pos) (sSet i m) := fun W tk =>
  ps_imp (ps_set hN hi hx (h W tk) hs hf) fun D σ H p => (st_bnd (ρ := rhoD) p).imp fun v H1 ⟨r, F, G, Mu, Γ, R, h1, q⟩ =>
    q _ H1 G (Same.refl _) (R.store (sv := .d r) ⟨v, rfl, h1⟩ fun z => nomatch z)
theorem Rel.storeO {K : PySem.W.Frag} {F : Fr} {G H : Hp} {Mu : Option Addr} {Γ : En} {σ : St} {xs : List Z.D} {v : V} (R : Rel K F G Mu Γ σ H) (h : rhoO K F G Mu Γ σ H xs v) (i : Nat) : Rel K F G Mu (Γ.set i (.own false xs)) (σ.set i (some v)) H := by
  obtain ⟨l, vs, rfl, h1, h2, h3, h4, h5, h6⟩ := h
  exact R.store (sv := .own false xs) ⟨l, vs, rfl, h1, h2, h3, h4, (fun z => nomatch z), fun _ => h5⟩ fun _ j l' e ho => by
    cases e
    exact absurd ho (h6 j)
theorem ds_setO {m : M (List Z.D)} (hN : X.N.Nodup) (hi : X.N[i]? = some x) (hx : Loc X.env.scope x) (h : DO X e m) (hs : swapsWith e (some (.Name x pos')) pos.line X.env = pure false := by rfl)
    (hf : X.fn x = true ∨ X.env.scope.names.lookup x = some .local := by first | exact .inl rfl | exact .inr rfl | assumption) : DS X (.Assign [.Name x pos'] e pos) (sSetO i m) := fun W tk =>
  ps_imp (ps_set hN hi hx (h W tk) hs hf) fun D σ H p => (st_bnd (ρ := rhoO) p).imp fun v H1 ⟨r, F, G, Mu, Γ, R, h1, q⟩ => q _ H1 G (Same.refl _) (R.storeO h1 i)
/-- xs[k] = v, xs a name's own list -/
def sSub (i : Nat) (m : M Z.D) (k : M Rs) : M Fl := bnd m fun y => fun g => match g[i]? with
  | some (.own _ _) => bnd k (fun s => fun g' => match g'[i]?, vl g' s with
    | some (.own b xs), some (.int n) => match ixN xs.length n with
      | some j => .ok .nx (g'.set i (.own b (xs.set j y)))
      | none => .bad
    | _, _ => .bad) g
  | _ => .bad
theorem ds_sub {m : M Z.D} {k : M Rs} {ix : Expr} {pn ps : Pos} (hi : X.N[i]? = some x) (hv : Vis X.env.scope x) (he : DP X e m) (hk : DV X ix k) (hd : (x == ("__debug__" : Str)) = false := by decide) (hcd : (x == ("__classdict__" : Str)) = false := by decide)
    (ha : ∀ v, assign (.Subscript (.Name x pn) ix ps) X.env v = (do
      let ov ← holding [v] (eval (.Name x pn) X.env)
      let iv ← holding [v, ov] (eval ix X.env)
      standAt ps
      holding [v, ov, iv] (setItem ov iv v)
      release [v, ov, iv] []) := by intro _; rfl) (hs : swapsWithSole [.Subscript (.Name x pn) ix ps] e pos.line X.env = pure false := by rfl) (hw : swappedStores [.Subscript (.Name x pn) ix ps] e X.env = pure none := by rfl)
    (h1 : (assignEach [.Subscript (.Name x pn) ix ps] X.env).map (·.2) = [assign (.Subscript (.Name x pn) ix ps) X.env] := by rfl) : DS X (.Assign [.Subscript (.Name x pn) ix ps] e pos) (sSub i m k) := fun W tk =>
  ps_imp (ps_asg (he W tk) (pg_sub (pe_var hi hv hd hcd) (hk W tk) set_list ha) hs hw h1) fun D σ H p => (st_bnd (ρ := rhoD) p).imp fun v H1 ⟨y, F, G, Mu, Γ, R, d1, q⟩ => by
    split at q
    · rename_i b xs hg
      obtain ⟨l, us, j1, j2, j3, j4, j5, j6, j7, jo⟩ := R.owned hg
      refine ⟨_, j1, F, G, Mu, Γ, R, ?_⟩
      unfold bnd at q
      cases e1 : k Γ with
      | bad => rw [e1] at q; exact q
      | ex c z Γ1 =>
        rw [e1] at q
        exact fun C a v H' G' => q C a v σ H' G'
      | ok s Γ1 =>
        rw [e1] at q
        intro u H2 G2 k1 R2 k2
        dsimp only at q
        split at q
        · rename_i b' xs' n hg' e2
          split at q
          · rename_i j hj
            obtain ⟨l', us', i1, i2, i3, i4, i5, i6, i7, io⟩ := R2.owned hg'
            rw [j1] at i1
            cases i1
            have e3 := (R2.read k2 e2).int
            subst e3
            refine ⟨l, us', n, j, rfl, rfl, i2, by rw [dpa_length i3]; exact hj, ?_⟩
            exact q σ _ G2 k1 (R2.change hg' j1 (dpa_set (dp_mono k1 _ _ d1) j i3))
          · exact q.elim
        · exact q.elim
    · exact q.elim
end
end Z

set_option Elab.async false
set_option linter.all false
set_option maxRecDepth 100000
set_option autoImplicit false
set_option maxHeartbeats 1000000
namespace Z
open PySem PySem.Spec PyProof.Rows L2

def Fr.lock (F : Fr) (l : Addr) (o : HO) (n : F l = none) : Fr where
  f := upd F.f l o
  a := F.a
  k := fun b => F.k b ∨ b = l
  af := F.af.trans (same_upd n)
  kf := fun b h => by
    rcases h with h | h
    · rw [upd_ne (fun z => F.kf b h (by rw [z]; exact n))]
      exact F.kf b h
    · rw [h, upd_same]
      exact fun z => nomatch z
theorem Fr.lock_back {F : Fr} {l : Addr} {o : HO} {n : F l = none} {b : Addr} (q : (F.lock l o n).f b = none) : F.f b = none := by
  by_cases hb : b = l
  · rw [hb]
    exact n
  · rw [show (F.lock l o n).f b = F.f b from upd_ne hb] at q
    exact q
section
variable {K : PySem.W.Frag} {F : Fr} {G H H' G' : Hp} {Mu : Option Addr} {Γ : En} {σ : St} {l : Addr} {o : HO}
theorem Rel.lock (R : Rel K F G Mu Γ σ H) (n : F l = none) (h : H l = some o) (g : G l = none) (m : Mu ≠ some l) (ow : ∀ i, ¬ Owns Γ σ i l) : Rel K (F.lock l o n) G Mu Γ σ H where
  fh := fun b x q => by
    by_cases hb : b = l
    · subst hb
      rw [show (F.lock b o n).f b = some o from upd_same] at q
      rw [h]
      exact q
    · rw [show (F.lock l o n).f b = F.f b from upd_ne hb] at q
      exact R.fh b x q
  lk := fun b q => by
    rcases q with q | q
    · exact R.lk b q
    · rw [q]
      exact g
  gh := R.gh
  mu := fun b q => by
    obtain ⟨h1, h2, h3⟩ := R.mu b q
    have hne : b ≠ l := fun z => m (by rw [q, z])
    exact ⟨(upd_ne hne).trans h1, h2, h3⟩
  len := R.len
  sl := fun i sv q => by
    have p := R.sl i sv q
    cases sv with
    | u => exact p
    | d x => exact p
    | a xs => exact p
    | own b xs =>
      obtain ⟨l', vs, p1, p2, p3, p4, p5, p6, p7⟩ := p
      have hne : l' ≠ l := fun z => ow i (by rw [← z]; exact ⟨_, q, rfl, join_some p1⟩)
      exact ⟨l', vs, p1, p2, p3, (upd_ne hne).trans p4, p5, p6, p7⟩
    | dk ds =>
      obtain ⟨l', es, p1, p2, p3, p4, p5, p6⟩ := p
      have hne : l' ≠ l := fun z => ow i (by rw [← z]; exact ⟨_, q, rfl, join_some p1⟩)
      exact ⟨l', es, p1, p2, p3, (upd_ne hne).trans p4, p5, p6⟩
  sep := R.sep
theorem Rel.unlock {n : F l = none} (R : Rel K (F.lock l o n) G Mu Γ σ H) : Rel K F G Mu Γ σ H ∧ H l = some o ∧ G l = none ∧ Mu ≠ some l ∧ ∀ i, ¬ Owns Γ σ i l := by
  have back : ∀ b, (F.lock l o n) b = none → F b = none := fun b q => by
    by_cases hb : b = l
    · rw [hb]
      exact n
    · rw [show (F.lock l o n) b = F.f b from upd_ne hb] at q
      exact q
  have at_l : (F.lock l o n) l = some o := upd_same
  refine ⟨⟨fun b x q => R.fh b x (same_upd n b x q), fun b q => R.lk b (.inl q), R.gh, fun b q => ⟨back b (R.mu b q).1, (R.mu b q).2⟩, R.len, fun i sv q => ?_, R.sep⟩, R.fh _ _ at_l, R.lk l (.inr rfl), fun q => ?_, fun i q => ?_⟩
  · have p := R.sl i sv q
    cases sv with
    | u => exact p
    | d x => exact p
    | a xs => exact p
    | own b xs =>
      obtain ⟨l', vs, p1, p2, p3, p4, p5, p6, p7⟩ := p
      exact ⟨l', vs, p1, p2, p3, back l' p4, p5, p6, p7⟩
    | dk ds =>
      obtain ⟨l', es, p1, p2, p3, p4, p5, p6⟩ := p
      exact ⟨l', es, p1, p2, p3, back l' p4, p5, p6⟩
  · have := (R.mu l q).1
    rw [at_l] at this
    cases this
  · have := (R.there q).1
    rw [at_l] at this
    cases this
end

def Apart (l : V) : List Rt → List V → Prop
  | [], _ => True
  | .d _ :: rs, vs => Apart l rs vs.tail
  | .own _ :: rs, vs => vs.head? ≠ some l ∧ Apart l rs vs.tail
def RtAll (K : PySem.W.Frag) (F : Fr) (G : Hp) (Mu : Option Addr) (Γ : En) (σ : St) (H : Hp) : List Rt → List V → Prop
  | [], vs => vs = []
  | .d x :: rs, vs => ∃ v us, vs = v :: us ∧ Dq K G v x ∧ RtAll K F G Mu Γ σ H rs us
  | .own xs :: rs, vs => ∃ v us, vs = v :: us ∧ rhoO K F G Mu Γ σ H xs v ∧ Apart v rs us ∧ RtAll K F G Mu Γ σ H rs us
def rhoMs : Rho (List Rt) (List V) := fun K F G Mu Γ σ H rs vs => RtAll K F G Mu Γ σ H rs vs
def DMs (X : Cx) (es : List Expr) (m : M (List Rt)) : Prop := ∀ W, Takes X W → PA X es (zt X W rhoMs m)
def msNil : M (List Rt) := rt []
def msD (m : M D) (n : M (List Rt)) : M (List Rt) := bnd m fun x => bnd n fun xs => rt (.d x :: xs)
def msO (m : M (List D)) (n : M (List Rt)) : M (List Rt) := bnd m fun x => bnd n fun xs => rt (.own x :: xs)
section
variable {K : PySem.W.Frag} {F : Fr} {G H H' G' : Hp} {Mu : Option Addr} {Γ : En} {σ : St} {l : Addr} {o : HO} {n : F l = none}
theorem rtAll_unlock : ∀ {rs : List Rt} {vs : List V}, RtAll K (F.lock l o n) G Mu Γ σ H rs vs → RtAll K F G Mu Γ σ H rs vs ∧ Apart (.ref l) rs vs
  | [], _, h => ⟨h, trivial⟩
  | .d x :: rs, _, h => by
    obtain ⟨v, us, rfl, h1, h2⟩ := h
    obtain ⟨k1, k2⟩ := rtAll_unlock h2
    exact ⟨⟨v, us, rfl, h1, k1⟩, k2⟩
  | .own x :: rs, _, h => by
    obtain ⟨v, us, rfl, h1, h2, h3⟩ := h
    obtain ⟨k1, k2⟩ := rtAll_unlock h3
    obtain ⟨l', ws, rfl, p1, p2, p3, p4, p5, p6⟩ := h1
    have hne : l' ≠ l := fun z => by
      rw [show (F.lock l o n) l' = upd F.f l o l' from rfl, z, upd_same] at p3
      cases p3
    exact ⟨⟨_, us, rfl, ⟨l', ws, rfl, p1, p2, by rw [show (F.lock l o n) l' = F.f l' from upd_ne hne] at p3; exact p3, p4, p5, p6⟩, h2, k1⟩, fun z => hne (by injection z with z; injection z), k2⟩
end
section
variable {X : Cx} {e : Expr} {es : List Expr} {pos : Pos}
theorem dms_nil : DMs X [] msNil := fun W _ => pa_imp pa_nil fun σ H Q ⟨F, G, Mu, Γ, R, p⟩ => zpost_ok R (show rhoMs _ _ _ _ _ _ _ [] [] from rfl) p
theorem dms_d {m : M D} {n : M (List Rt)} (h : DP X e m) (k : DMs X es n) (hs : starEach (e :: es) X.env = (false, eval e X.env) :: starEach es X.env := by rfl) : DMs X (e :: es) (msD m n) := fun W tk => by
  refine pa_imp (pa_cons (h W tk) (k W tk) hs) fun σ H Q p => ?_
  refine (zt_bnd2 (ρ := rhoD) (ρ' := rhoMs) stD p).imp fun v H1 q => q.imp fun vs H2 ⟨x, xs, F, G, Mu, Γ, R, h1, h2, q2⟩ => ?_
  exact zpost_ok R (show rhoMs _ _ _ _ _ _ _ (.d x :: xs) (v :: vs) from ⟨v, vs, rfl, h1, h2⟩) q2
end

def setRs : List Nat → List Rt → En → Option En
  | [], [], g => some g
  | i :: is, .d x :: rs, g => setRs is rs (g.set i (.d x))
  | i :: is, .own xs :: rs, g => setRs is rs (g.set i (.own false xs))
  | _, _, _ => none
def stV : List Nat → List V → St → St
  | i :: is, v :: vs, σ => stV is vs (σ.set i (some v))
  | _, _, σ => σ
section
variable {K : PySem.W.Frag} {F : Fr} {G H : Hp} {Mu : Option Addr}
theorem rhoO_set {Γ : En} {σ : St} {xs : List D} {v w : V} {i : Nat} {sv : SV} (h : rhoO K F G Mu Γ σ H xs w) (hn : sv.ow = false ∨ v ≠ w) : rhoO K F G Mu (Γ.set i sv) (σ.set i (some v)) H xs w := by
  obtain ⟨l, us, rfl, h1, h2, h3, h4, h5, h6⟩ := h
  refine ⟨l, us, rfl, h1, h2, h3, h4, h5, fun j hj => ?_⟩
  obtain ⟨m, k1, ys, k2⟩ := hj
  by_cases e : j = i
  · subst e
    have hj1 : j < Γ.length := by
      have := (List.getElem?_eq_some_iff.mp k1).1
      simpa using this
    have hj2 : j < σ.length := by
      have := (List.getElem?_eq_some_iff.mp k2).1
      simpa using this
    rw [List.getElem?_set_self hj1] at k1
    rw [List.getElem?_set_self hj2] at k2
    cases k1
    cases k2
    rcases hn with hn | hn
    · rw [hn] at ys
      cases ys
    · exact hn rfl
  · rw [List.getElem?_set_ne (Ne.symm e)] at k1 k2
    exact h6 j ⟨m, k1, ys, k2⟩
theorem rtAll_set {Γ : En} {σ : St} {v : V} {i : Nat} {sv : SV} : ∀ {rs : List Rt} {vs : List V}, RtAll K F G Mu Γ σ H rs vs → (sv.ow = false ∨ Apart v rs vs) → RtAll K F G Mu (Γ.set i sv) (σ.set i (some v)) H rs vs
  | [], _, h, _ => h
  | .d x :: rs, _, h, hn => by
    obtain ⟨w, us, rfl, h1, h2⟩ := h
    exact ⟨w, us, rfl, h1, rtAll_set h2 hn⟩
  | .own x :: rs, _, h, hn => by
    obtain ⟨w, us, rfl, h1, h2, h3⟩ := h
    refine ⟨w, us, rfl, rhoO_set h1 (hn.imp id fun z e => z.1 (by rw [e]; rfl)), h2, rtAll_set h3 (hn.imp id fun z => z.2)⟩
theorem Rel.setRs : ∀ {is : List Nat} {rs : List Rt} {vs : List V} {Γ Γ' : En} {σ : St}, Rel K F G Mu Γ σ H → RtAll K F G Mu Γ σ H rs vs → Z.setRs is rs Γ = some Γ' → Rel K F G Mu Γ' (stV is vs σ) H ∧ vs.length = is.length
  | [], [], vs, _, _, _, R, h, e => by
    cases (show vs = [] from h)
    cases e
    exact ⟨R, rfl⟩
  | i :: is, .d x :: rs, _, _, _, _, R, h, e => by
    obtain ⟨w, us, rfl, h1, h2⟩ := h
    have := Rel.setRs (is := is) (R.store (i := i) (sv := .d x) ⟨w, rfl, h1⟩ fun z => nomatch z) (rtAll_set h2 (.inl rfl)) e
    exact ⟨this.1, by rw [List.length_cons, List.length_cons, this.2]⟩
  | i :: is, .own x :: rs, _, _, _, _, R, h, e => by
    obtain ⟨w, us, rfl, h1, h2, h3⟩ := h
    have := Rel.setRs (is := is) (R.storeO h1 i) (rtAll_set h3 (.inr h2)) e
    exact ⟨this.1, by rw [List.length_cons, List.length_cons, this.2]⟩
  | [], _ :: _, _, _, _, _, _, _, e => by cases e
  | _ :: _, [], _, _, _, _, _, _, e => by cases e
end
def sPar (is : List Nat) (m : M (List Rt)) : M Fl := bnd m fun rs => fun g => match setRs is rs g with
  | some g' => .ok .nx g'
  | none => .bad
section
variable {X : Cx} {pos : Pos}
theorem par_end {W : WX} {D : Ends} {σ : St} {H : Hp} {is : List Nat} {m : M (List Rt)} (p : st X W (sPar is m) D σ H) : zt X W rhoMs m σ H fun vs H1 => vs.length = is.length ∧ D.nx (stV is vs σ) H1 :=
  (st_bnd (ρ := rhoMs) p).imp fun v H1 ⟨r, F, G, Mu, Γ, R, h1, q⟩ => by
    split at q
    · rename_i g' e
      obtain ⟨R', hl⟩ := R.setRs h1 e
      exact ⟨hl, q _ H1 G (Same.refl _) R'⟩
    · exact q.elim
theorem ds_par {i j : Nat} {x y : Str} {a b : Expr} {px py pt : Pos} {kt k2 pt2} {m : M (List Rt)} (hc : X.calm = true) (hN : X.N.Nodup) (hi : X.N[i]? = some x) (hj : X.N[j]? = some y) (hij : i ≠ j)
    (hx : X.env.scope.names.lookup x = some .local) (hy : X.env.scope.names.lookup y = some .local) (ha : DMs X [a, b] m)
    (hw : swappedStores [.Tuple [.Name x px, .Name y py] kt pt] (.Tuple [a, b] k2 pt2) X.env = pure (some [x, y]) := by rfl)
    (hs : swapsWithSole [.Tuple [.Name x px, .Name y py] kt pt] (.Tuple [a, b] k2 pt2) pos.line X.env = pure false := by rfl) :
    DS X (.Assign [.Tuple [.Name x px, .Name y py] kt pt] (.Tuple [a, b] k2 pt2) pos) (sPar [i, j] m) := fun W tk =>
  ps_imp (ps_par hc hN hi hj hij hx hy (ha W tk) hw hs) fun D σ H p => (par_end p).imp fun vs H1 ⟨hl, q⟩ => by
    match vs, hl, q with
    | [v, w], _, q => exact ⟨v, w, rfl, q⟩
end

inductive Tg where
  | nm (i : Nat)
  | tup (ts : List Tg)
mutual
def setT : Tg → D → En → Option En
  | .nm i, x, g => some (g.set i (.d x))
  | .tup ts, .tuple xs, g => setTs ts xs g
  | .tup ts, .list xs, g => setTs ts xs g
  | .tup _, _, _ => none
def setTs : List Tg → List D → En → Option En
  | [], [], g => some g
  | t :: ts, x :: xs, g => match setT t x g with
    | some g' => setTs ts xs g'
    | none => none
  | _, _, _ => none
end
mutual
def tgS : Tg → List Nat
  | .nm i => [i]
  | .tup ts => tgsS ts
def tgsS : List Tg → List Nat
  | [] => []
  | t :: ts => tgS t ++ tgsS ts
end
/-- two states that are the same outside of some slots -/
def Off (is : List Nat) (σ σ' : St) : Prop := σ'.length = σ.length ∧ ∀ j, j ∉ is → σ'[j]? = σ[j]?
theorem Off.refl {is : List Nat} {σ : St} : Off is σ σ := ⟨rfl, fun _ _ => rfl⟩
theorem Off.trans {is js : List Nat} {σ σ' σ'' : St} (a : Off is σ σ') (b : Off js σ' σ'') : Off (is ++ js) σ σ'' := ⟨b.1.trans a.1, fun j hj => by
  rw [b.2 j (fun z => hj (List.mem_append_right _ z)), a.2 j (fun z => hj (List.mem_append_left _ z))]⟩
def zG (X : Cx) (t : Tg) : TG := fun v σ H Q => ∃ F G Mu Γ Γ' x, Rel X.K F G Mu Γ σ H ∧ Dq X.K G v x ∧ setT t x Γ = some Γ' ∧ ∀ σ', Rel X.K F G Mu Γ' σ' H → Off (tgS t) σ σ' → Q σ' H
def DG (X : Cx) (e : Expr) (t : Tg) : Prop := PG X e (zG X t)
theorem pg_imp {X : Cx} {e : Expr} {t t' : TG} (p : PG X e t) (h : ∀ v σ H Q, t' v σ H Q → t v σ H Q) : PG X e t' := ⟨fun pins s σ H v u Q I r q => p.run pins s σ H v u Q I r (h v σ H Q q)⟩
theorem pgs_imp {X : Cx} {es : List Expr} {t t' : TGs} (p : PGs X es t) (h : ∀ v σ H Q, t' v σ H Q → t v σ H Q) : PGs X es t' := ⟨fun pins s σ H v u Q I r q => p.run pins s σ H v u Q I r (h v σ H Q q)⟩
section
variable {X : Cx} {pos : Pos} {x : Str} {i : Nat} {e : Expr} {es : List Expr}
theorem dg_name (hN : X.N.Nodup) (hi : X.N[i]? = some x) (hx : Loc X.env.scope x) (hf : X.fn x = true ∨ X.env.scope.names.lookup x = some .local := by first | exact .inl rfl | exact .inr rfl | assumption) : DG X (.Name x pos) (.nm i) :=
  pg_imp (pg_name hN hi hx hf) fun v σ H Q ⟨F, G, Mu, Γ, Γ', y, R, h1, h2, q⟩ => by
    unfold setT at h2
    cases h2
    refine q _ (R.store (sv := .d y) ⟨v, rfl, h1⟩ fun z => nomatch z) ⟨by rw [List.length_set], fun j hj => ?_⟩
    unfold tgS at hj
    rw [List.getElem?_set_ne (fun z => hj (by rw [z]; exact List.mem_singleton_self _))]
end
end Z

set_option Elab.async false
set_option linter.all false
set_option maxRecDepth 100000
set_option autoImplicit false
set_option maxHeartbeats 1000000
namespace Z
open PySem PySem.Spec PyProof.Rows L2

def YV (b : Bool) (K : PySem.W.Frag) (G H : Hp) (v : V) (x : D) (H' : Hp) : Prop := match b with
  | false => H' = H ∧ Dq K G v x
  | true => ∃ T us ds, v = .ref T ∧ x = .tuple ds ∧ H T = none ∧ H' = upd H T (.tup us) ∧ DqAll K G us ds
def Src (b : Bool) (K : PySem.W.Frag) (F : Fr) (G : Hp) (J : It) (xs : List D) : Prop := Walk J xs.length (fun H => Same F.a H ∧ Same G H) (fun i H v H' => ∃ x, xs[i]? = some x ∧ YV b K G H v x H')
def rhoW (b : Bool) : Rho (List D) It := fun K F G _ _ _ _ xs J => Src b K F G J xs
def DI (b : Bool) (X : Cx) (tg e : Expr) (m : M (List D)) : Prop := ∀ W, Takes X W → PI X tg e (zt X W (rhoW b) m)
theorem pi_imp {X : Cx} {tg e : Expr} {t t' : TI} (p : PI X tg e t) (h : ∀ σ H Q, t' σ H Q → t σ H Q) : PI X tg e t' := ⟨fun pins s σ H Q I q => p.run pins s σ H Q I (h σ H Q q)⟩
/-- lo, lo + c, .. -/
def rngD (lo c : Int) (n : Nat) : List D := (List.range n).map fun (i : Nat) => .int (lo + (i : Int) * c)
theorem rngD_len {lo c : Int} {n : Nat} : (rngD lo c n).length = n := by simp [rngD]
theorem rngD_get {lo c : Int} {n i : Nat} (h : i < n) : (rngD lo c n)[i]? = some (.int (lo + (i : Int) * c)) := by simp [rngD, h]
theorem src_range {K : PySem.W.Frag} {F : Fr} {G : Hp} {lo : Int} {n : Nat} : Src false K F G (Itr lo n) (rngD lo 1 n) := by
  have w := (walk_range (lo := lo) (n := n)).mono (G' := fun H => Same F.a H ∧ Same G H) (Y' := fun i H v H' => ∃ x, (rngD lo 1 n)[i]? = some x ∧ YV false K G H v x H') (fun _ _ => trivial) fun i H v H' hi _ y =>
    ⟨_, rngD_get hi, y.1, by rw [y.2, Int.mul_one]; exact .int _⟩
  unfold Src
  rw [rngD_len]
  exact w
def seqD : D → Option (List D)
  | .list xs => some xs
  | .tuple xs => some xs
  | _ => none
def itR (r : Rs) : M (List D) := fun g => match r with
  | .d x => match seqD x with
    | some xs => .ok xs g
    | none => .bad
  | .sl i => match g[i]? with
    | some (.d x) => match seqD x with
      | some xs => .ok xs g
      | none => .bad
    | some (.a xs) => .ok xs g
    | some (.own false xs) => .ok xs (g.set i (.d (.list xs)))
    | _ => .bad
def iV (m : M Rs) : M (List D) := bnd m itR
/-- a new list -/
def iO (m : M (List D)) : M (List D) := m
def rgLim (i : Int) : Prop := -(2 ^ 62) ≤ i ∧ i < 2 ^ 62
instance {i : Int} : Decidable (rgLim i) := by unfold rgLim; infer_instance
def iR1 (m : M (List Rs)) : M (List D) := bnd m fun rs => fun g => match vls g rs with
  | some [.int j] => if rgLim j then .ok (rngD 0 1 j.toNat) g else .bad
  | _ => .bad
def iR2 (m : M (List Rs)) : M (List D) := bnd m fun rs => fun g => match vls g rs with
  | some [.int i, .int j] => if rgLim i ∧ rgLim j then .ok (rngD i 1 (j - i).toNat) g else .bad
  | _ => .bad
def iR3 (m : M (List Rs)) : M (List D) := bnd m fun rs => fun g => match vls g rs with
  | some [.int i, .int j, .int c] => if rgLim i ∧ rgLim j ∧ c = -1 then .ok (rngD i (-1) (i - j).toNat) g else .bad
  | _ => .bad
section
variable {X : Cx} {tg a b c : Expr} {m : M (List Rs)} {p pos : Pos}
theorem di_range1 (hg : Gl X "range") (hm : X.mg "range" = none) (ha : DVs X [a] m) (hs : starEach [a] X.env = [(false, eval a X.env)] := by rfl) : DI false X tg (.Call (.Name "range" p) [a] [] pos) (iR1 m) := fun W tk =>
  pi_imp (pi_range1 hg hm (ha W tk) hs) fun σ H R q => (zt_bnd (ρ := rhoRs) q).imp fun vs H1 ⟨r, F, G, Mu, Γ, Rl, h1, q⟩ => by
    split at q
    · rename_i j e
      split at q
      · rename_i hj
        obtain ⟨v, rfl, h2⟩ := (Rl.reads h1 e).one
        cases h2.int
        exact ⟨j, rfl, hj.1, hj.2, zpost_ok Rl src_range q⟩
      · exact q.elim
    · exact q.elim
end

def zGb (b : Bool) (X : Cx) (t : Tg) : TG := fun v σ H Q => ∃ F G Mu Γ Γ' x H0, Rel X.K F G Mu Γ σ H0 ∧ YV b X.K G H0 v x H ∧ setT t x Γ = some Γ' ∧ ∀ σ', Rel X.K F G Mu Γ' σ' H → Off (tgS t) σ σ' → Q σ' H
def DGb (b : Bool) (X : Cx) (e : Expr) (t : Tg) : Prop := PG X e (zGb b X t)
section
variable {X : Cx} {pos : Pos} {e : Expr} {es : List Expr}
theorem dgb_any {t : Tg} (h : DG X e t) : DGb false X e t := pg_imp h fun v σ H Q ⟨F, G, Mu, Γ, Γ', x, H0, R, ⟨e1, d⟩, s, q⟩ => by
  subst e1
  exact ⟨F, G, Mu, Γ, Γ', x, R, d, s, q⟩
end

def fgt : List Nat → En → En
  | [], g => g
  | i :: is, g => fgt is (g.set i .u)
theorem Rel.forget' {K : PySem.W.Frag} {F : Fr} {G H : Hp} {Mu : Option Addr} {Γ : En} {σ : St} (R : Rel K F G Mu Γ σ H) (i : Nat) : Rel K F G Mu (Γ.set i .u) σ H := by
  cases h : σ[i]? with
  | none =>
    have hl : Γ.length ≤ i := by rw [R.len]; exact List.getElem?_eq_none_iff.mp h
    rw [List.set_eq_of_length_le hl]
    exact R
  | some o =>
    have e : σ.set i o = σ := List.ext_getElem? fun j => by
      by_cases hj : i = j
      · subst hj
        have hi := (List.getElem?_eq_some_iff.mp h).1
        rw [List.getElem?_set_self hi, h]
      · rw [List.getElem?_set_ne hj]
    have R' := R.forget i (o := o)
    rw [e] at R'
    exact R'
theorem Rel.fgt {K : PySem.W.Frag} {F : Fr} {G H : Hp} {Mu : Option Addr} {σ : St} : ∀ {is : List Nat} {Γ : En}, Rel K F G Mu Γ σ H → Rel K F G Mu (Z.fgt is Γ) σ H
  | [], _, R => R
  | i :: is, _, R => Rel.fgt (is := is) (R.forget' i)
/-- a for over xs; ms: the slots that are of no more use behind a turn -/
def forG (t : Tg) (ms : List Nat) (b : M Fl) : List D → M Fl
  | [], g => .ok .nx (fgt ms g)
  | x :: xs, g => match setT t x g with
    | none => .bad
    | some g1 => match b g1 with
      | .ok .nx g2 => forG t ms b xs (fgt ms g2)
      | .ok .ct g2 => forG t ms b xs (fgt ms g2)
      | .ok .bk g2 => .ok .nx (fgt ms g2)
      | o => o
def sFor (t : Tg) (ms : List Nat) (mi : M (List D)) (b : M Fl) : M Fl := bnd mi fun xs => forG t ms b xs
theorem ds_for {X : Cx} {b : Bool} {tg iter : Expr} {body : List Stmt} {pos : Pos} {t : Tg} {mi : M (List D)} {mb : M Fl} (ms : List Nat) (hp : PassesOwn (model X.prog X.w) X.A X.env X.xe) (hc : X.calm = true) (hi : DI b X tg iter mi) (hg : DGb b X tg t) (hb : DSs X body mb)
    (hs : ∀ x, foldedSetIterable iter X.env x = pure x := by intro _; rfl) : DS X (.For tg iter body [] pos) (sFor t ms mi mb) := fun W tk =>
  ps_imp (ps_for hp hc (hi W tk) hg (hb W tk) hs) fun D σ H p => (st_bnd (ρ := rhoW b) p).imp fun J H1 ⟨xs, F, G, Mu, Γ, R, h1, q⟩ => by
    refine for_it h1 (fun i σ' H' => ∃ G' Γ', Same G G' ∧ Rel X.K F G' Mu Γ' σ' H' ∧ spost X W F G' Mu D (forG t ms mb (xs.drop i) Γ')) ⟨G, Γ, Same.refl _, R, q⟩
      (fun i σ' H' _ ⟨G', Γ', g, R', _⟩ => ⟨F.af.trans R'.fh, g.trans R'.gh⟩) (fun i v σ' H' H2 hi ⟨G', Γ', g, R', p'⟩ ⟨x, hx, y⟩ => ?_) fun σ' H' ⟨G', Γ', g, R', p'⟩ => ?_
    · have hd : xs.drop i = x :: xs.drop (i + 1) := by
        obtain ⟨hl, e⟩ := List.getElem?_eq_some_iff.mp hx
        rw [← e]
        exact List.drop_eq_getElem_cons hl
      rw [hd] at p'
      unfold forG at p'
      cases e1 : setT t x Γ' with
      | none => rw [e1] at p'; exact p'.elim
      | some g1 =>
        rw [e1] at p'
        dsimp only at p'
        have y' : YV b X.K G' H' v x H2 := by
          cases b with
          | false => exact ⟨y.1, dp_mono g _ _ y.2⟩
          | true =>
            obtain ⟨T, us, ds, a1, a2, a3, a4, a5⟩ := y
            exact ⟨T, us, ds, a1, a2, a3, a4, dpAll_mono g _ _ a5⟩
        refine ⟨F, G', Mu, Γ', g1, x, H', R', y', e1, fun σ2 R2 _ => ⟨F, G', Mu, g1, R2, ?_⟩⟩
        cases e2 : mb g1 with
        | bad => rw [e2] at p'; exact p'
        | ex c z Γ2 => rw [e2] at p'; exact p'
        | ok f Γ2 =>
          rw [e2] at p'
          cases f with
          | nx => exact fun σ3 H3 G3 k R3 => ⟨G3, _, g.trans k, R3.fgt, p'.rebase k⟩
          | ct => exact fun σ3 H3 G3 k R3 => ⟨G3, _, g.trans k, R3.fgt, p'.rebase k⟩
          | rt r => exact p'
          | bk => exact fun σ3 H3 G3 k R3 => p' σ3 H3 G3 k R3.fgt
    · rw [List.drop_length] at p'
      exact p' σ' H' G' (Same.refl _) R'.fgt
end Z

set_option Elab.async false
set_option linter.all false
set_option maxRecDepth 100000
set_option autoImplicit false
set_option maxHeartbeats 1000000
namespace Z
open PySem PySem.Spec PyProof.Rows L2

def wipG (g : En) : List Nat → En
  | [] => g
  | v :: vs => (wipG g vs).set v .u
def rstG (g g' : En) : List Nat → En
  | [] => g'
  | v :: vs => match g[v]? with
    | some sv => (rstG g g' vs).set v sv
    | none => rstG g g' vs
def noOwn (g : En) (vs : List Nat) : Bool := vs.all fun v => match g[v]? with
  | some (.own _ _) => false
  | some (.dk _) => false
  | _ => true
theorem noOwn_at {g : En} {vs : List Nat} {j : Nat} {sv : SV} (no : noOwn g vs = true) (hj : j ∈ vs) (e : g[j]? = some sv) : sv.ow = false := by
  have := List.all_eq_true.mp no j hj
  rw [e] at this
  cases sv with
  | own m xs => cases this
  | dk ds => cases this
  | u => rfl
  | d x => rfl
  | a xs => rfl
theorem wipG_len {g : En} : ∀ {vs : List Nat}, (wipG g vs).length = g.length
  | [] => rfl
  | v :: vs => by
    unfold wipG
    rw [List.length_set, wipG_len]
theorem rstG_len {g g' : En} : ∀ {vs : List Nat}, (rstG g g' vs).length = g'.length
  | [] => rfl
  | v :: vs => by
    unfold rstG
    split
    · rw [List.length_set, rstG_len]
    · exact rstG_len
theorem rstG_in {g g' : En} (hl : g'.length = g.length) {i : Nat} : ∀ {vs : List Nat}, i ∈ vs → (rstG g g' vs)[i]? = g[i]?
  | [], h => nomatch h
  | v :: vs, h => by
    unfold rstG
    by_cases e : v = i
    · subst e
      split
      · rename_i sv hv
        rw [List.getElem?_set_self (by rw [rstG_len, hl]; exact (List.getElem?_eq_some_iff.mp hv).1), hv]
      · rename_i hv
        rw [hv, List.getElem?_eq_none_iff, rstG_len, hl]
        exact List.getElem?_eq_none_iff.mp hv
    · have h2 : i ∈ vs := by
        rcases List.mem_cons.mp h with z | z
        · exact absurd z.symm e
        · exact z
      split
      · rw [List.getElem?_set_ne e]
        exact rstG_in hl h2
      · exact rstG_in hl h2
theorem rstG_out {g g' : En} {i : Nat} : ∀ {vs : List Nat}, i ∉ vs → (rstG g g' vs)[i]? = g'[i]?
  | [], _ => rfl
  | v :: vs, h => by
    have h1 : v ≠ i := fun e => h (by rw [e]; exact List.mem_cons_self)
    have h2 : i ∉ vs := fun m => h (List.mem_cons_of_mem _ m)
    unfold rstG
    split
    · rw [List.getElem?_set_ne h1]
      exact rstG_out h2
    · exact rstG_out h2
theorem wipe_in {σ : St} {i : Nat} : ∀ {vs : List Nat}, i ∈ vs → (wipe σ vs)[i]? = (σ[i]?).map fun _ => none
  | [], h => nomatch h
  | v :: vs, h => by
    unfold wipe
    by_cases e : v = i
    · subst e
      cases hv : σ[v]? with
      | none =>
        rw [Option.map_none, List.getElem?_eq_none_iff, List.length_set, wipe_length]
        exact List.getElem?_eq_none_iff.mp hv
      | some o =>
        rw [List.getElem?_set_self (by rw [wipe_length]; exact (List.getElem?_eq_some_iff.mp hv).1)]
        rfl
    · have h2 : i ∈ vs := by
        rcases List.mem_cons.mp h with z | z
        · exact absurd z.symm e
        · exact z
      rw [List.getElem?_set_ne e]
      exact wipe_in h2
theorem wipe_off {σ σ' : St} {is vs : List Nat} (h : Off is (wipe σ vs) σ') (hs : ∀ i ∈ is, i ∈ vs) : wipe σ' vs = wipe σ vs := List.ext_getElem? fun j => by
  by_cases hj : j ∈ vs
  · rw [wipe_in hj, wipe_in hj]
    have hl : σ'.length = σ.length := h.1.trans (wipe_length σ vs)
    cases e : σ[j]? with
    | none =>
      have : σ'[j]? = none := by
        rw [List.getElem?_eq_none_iff, hl]
        exact List.getElem?_eq_none_iff.mp e
      rw [this]
    | some o =>
      have hj2 : j < σ'.length := by
        rw [hl]
        exact (List.getElem?_eq_some_iff.mp e).1
      rw [List.getElem?_eq_getElem hj2]
      rfl
  · rw [wipe_out hj, wipe_out hj, h.2 j (fun z => hj (hs j z)), wipe_out hj]
section
variable {K : PySem.W.Frag} {F : Fr} {G H G' H' : Hp} {Mu : Option Addr} {Γ Γ' : En} {σ : St}
theorem Rel.wipe (R : Rel K F G Mu Γ σ H) : ∀ vs : List Nat, Rel K F G Mu (wipG Γ vs) (L2.wipe σ vs) H
  | [] => R
  | v :: vs => (Rel.wipe R vs).forget v
/-- back out of a block -/
theorem Rel.back {vs : List Nat} (R : Rel K F G Mu Γ σ H) (R' : Rel K F G' Mu Γ' (L2.wipe σ vs) H') (g : Same G G') (no : noOwn Γ vs = true) : Rel K F G' Mu (rstG Γ Γ' vs) σ H' := by
  have hl : Γ'.length = Γ.length := by rw [R'.len, R.len, wipe_length]
  have nin : ∀ {j : Nat} {sv : SV}, (rstG Γ Γ' vs)[j]? = some sv → sv.ow = true → j ∉ vs := fun {j sv} e ho hj => by
    rw [rstG_in hl hj] at e
    rw [noOwn_at no hj e] at ho
    cases ho
  have own' : ∀ {j : Nat} {l : Addr}, Owns (rstG Γ Γ' vs) σ j l → Owns Γ' (L2.wipe σ vs) j l := fun {j l} ⟨m, h1, xs, h2⟩ => by
    have hj := nin h1 xs
    exact ⟨m, by rw [← rstG_out hj]; exact h1, xs, by rw [wipe_out hj]; exact h2⟩
  refine ⟨R'.fh, R'.lk, R'.gh, R'.mu, by rw [rstG_len, hl, R.len], fun j sv e => ?_, fun i j l a b => R'.sep i j l (own' a) (own' b)⟩
  by_cases hj : j ∈ vs
  · rw [rstG_in hl hj] at e
    have q := R.sl j sv e
    cases sv with
    | u => exact True.intro
    | d x =>
      obtain ⟨v, h1, h2⟩ := q
      exact ⟨v, h1, dp_mono g _ _ h2⟩
    | a xs =>
      obtain ⟨l, us, h1, h2, h3⟩ := q
      exact ⟨l, us, h1, h2, dpAll_mono g _ _ h3⟩
    | own m xs => exact absurd hj (nin (by rw [rstG_in hl hj]; exact e) rfl)
    | dk ds => exact absurd hj (nin (by rw [rstG_in hl hj]; exact e) rfl)
  · rw [rstG_out hj] at e
    have q := R'.sl j sv e
    rw [wipe_out hj] at q
    exact q
theorem Rel.poke (R : Rel K F G Mu Γ σ H) {l : Addr} {o : HO} (n : F l = none) (g : G l = none) (m : Mu ≠ some l) (ow : ∀ i, ¬ Owns Γ σ i l) : Rel K F G Mu Γ σ (upd H l o) := by
  refine R.mono (Mu' := Mu) (same_updR R.fh n) (Same.refl _) (same_updR R.gh g) (fun b q => ?_) (fun i b h => ?_) R.lk
  · obtain ⟨_, h2, h3⟩ := R.mu b q
    rw [upd_ne (fun z => m (by rw [q, z]))]
    exact ⟨h2, h3⟩
  · rw [upd_ne (fun z => ow i (by rw [← z]; exact h))]
    exact ⟨(R.there h).2.1, rfl⟩
end

def compG (vs : List Nat) (t : Tg) (mt : M Bool) (me : M D) : List D → List D → M (List D)
  | [], ys, g => .ok ys g
  | x :: xs, ys, g => match setT t x g with
    | none => .bad
    | some g1 => match mt g1 with
      | .ok true g2 => match me g2 with
        | .ok y g3 => compG vs t mt me xs (ys ++ [y]) (wipG g3 vs)
        | _ => .bad
      | .ok false g2 => compG vs t mt me xs ys (wipG g2 vs)
      | _ => .bad
def compB (vs : List Nat) (t : Tg) (mt : M Bool) (me : M D) (xs : List D) : M (List D) := fun g => if xs.length ≤ sizeLine ∧ noOwn g vs = true then match compG vs t mt me xs [] (wipG g vs) with
    | .ok ys g' => .ok ys (rstG g g' vs)
    | _ => .bad
  else .bad
def compL (vs : List Nat) (t : Tg) (mi : M (List D)) (mt : M Bool) (me : M D) : M (List D) := bnd mi (compB vs t mt me)
def DTs (X : Cx) (ifs : List Expr) (m : M Bool) : Prop := ∀ W, Takes X W → PTs X ifs (zt X W rhoB m)
theorem pts_imp {X : Cx} {es : List Expr} {t t' : TT} (p : PTs X es t) (h : ∀ σ H Q, t' σ H Q → t σ H Q) : PTs X es t' := ⟨fun pins s σ H Q I q => p.run pins s σ H Q I (h σ H Q q)⟩
theorem dts_nil {X : Cx} : DTs X [] (rt true) := fun W _ => pts_imp pts_nil fun σ H Q ⟨F, G, Mu, Γ, R, p⟩ => zpost_ok R (show rhoB _ _ _ _ _ _ _ true true from rfl) p
theorem dts_one {X : Cx} {c : Expr} {m : M Bool} (h : DT X c m) : DTs X [c] m := fun W tk => pts_one (h W tk)
abbrev W0 : WX := fun _ _ _ _ => False
theorem comp_run {X : Cx} {b : Bool} {W : WX} {σ : St} {H : Hp} {Q : VK} {vs : List Nat} {t : Tg} {mi : M (List D)} {mt : M Bool} {me : M D} (hv : ∀ i ∈ tgS t, i ∈ vs) (p : zt X W rhoO (compL vs t mi mt me) σ H Q) :
    tLc (zt X W (rhoW b) mi) (zGb b X t) (zt X W0 rhoB mt) (zt X W0 rhoD me) vs σ H Q :=
  (zt_bnd (ρ := rhoW b) p).imp fun J H1 ⟨xs, F, G, Mu, Γ, R, h1, q⟩ l nl => by
    unfold compB at q
    split at q
    · rename_i hz
      obtain ⟨hz, no⟩ := hz
      have nF : F l = none := R.fh.free nl
      have nG : G l = none := R.gh.free nl
      have nM : Mu ≠ some l := fun z => (R.mu l z).2.2 nl
      have nO : ∀ i, ¬ Owns (wipG Γ vs) (wipe σ vs) i l := fun i h => by
        obtain ⟨_, _, us, z⟩ := (R.wipe vs).there h
        rw [nl] at z
        cases z
      cases e1 : compG vs t mt me xs [] (wipG Γ vs) with
      | bad => rw [e1] at q; exact q.elim
      | ex c y Γ1 => rw [e1] at q; exact q.elim
      | ok zs Γz =>
        rw [e1] at q
        refine lc_it h1 (fun i H' => ∃ G' Γ' acc ys, Same G G' ∧ Rel X.K (F.lock l (.lst acc) nF) G' Mu Γ' (wipe σ vs) H' ∧ DqAll X.K G' acc ys ∧ ys.length ≤ i ∧ compG vs t mt me (xs.drop i) ys Γ' = .ok zs Γz) ?_
          (fun i H' _ ⟨G', Γ', acc, ys, g, R', _⟩ => ⟨fun a o z => R'.unlock.1.fh a o (F.af a o z), g.trans R'.gh⟩) (fun i v H' H2 hi ⟨G', Γ', acc, ys, g, R', hd, hy, hc⟩ ⟨x, hx, y⟩ => ?_) fun H' ⟨G', Γ', acc, ys, g, R', hd, hy, hc⟩ => ?_
        · exact ⟨G, wipG Γ vs, [], [], Same.refl _, ((R.wipe vs).newX nl).lock nF upd_same nG nM (fun i h => nO i h), .nil, Nat.le_refl _, e1⟩
        · have hdr : xs.drop i = x :: xs.drop (i + 1) := by
            obtain ⟨hl, e⟩ := List.getElem?_eq_some_iff.mp hx
            rw [← e]
            exact List.drop_eq_getElem_cons hl
          rw [hdr] at hc
          unfold compG at hc
          split at hc
          · cases hc
          · rename_i g1 e2
            have y' : YV b X.K G' H' v x H2 := by
              cases b with
              | false => exact ⟨y.1, dp_mono g _ _ y.2⟩
              | true =>
                obtain ⟨T, us, ds, a1, a2, a3, a4, a5⟩ := y
                exact ⟨T, us, ds, a1, a2, a3, a4, dpAll_mono g _ _ a5⟩
            refine ⟨_, G', Mu, Γ', g1, x, H', R', y', e2, fun σ2 R2 off => ⟨wipe_off off hv, ?_⟩⟩
            have ew := wipe_off off hv
            split at hc
            · rename_i g2 e3
              split at hc
              · rename_i z g3 e4
                refine ⟨_, G', Mu, g1, R2, ?_⟩
                rw [e3]
                intro bb H3 G3 k3 R3 hb
                cases (show true = bb from hb)
                rw [if_pos rfl]
                refine ⟨_, G3, Mu, g2, R3, ?_⟩
                rw [e4]
                intro u H4 G4 k4 R4 hu
                obtain ⟨R5, j1, j2, j3, j4⟩ := R4.unlock
                refine ⟨acc, j1, ?_, G4, wipG g3 vs, acc ++ [u], ys ++ [z], (g.trans k3).trans k4, ?_, dpa_append (dpAll_mono k4 _ _ (dpAll_mono k3 _ _ hd)) (.cons hu .nil), by rw [List.length_append]; exact Nat.add_le_add_right hy 1, hc⟩
                · rw [dpa_length hd]
                  omega
                · have R6 := R5.wipe vs
                  rw [ew] at R6
                  have o6 : ∀ i, ¬ Owns (wipG g3 vs) (wipe σ vs) i l := fun i h => by
                    obtain ⟨w1, w2, w3⟩ := R6.there h
                    have R7 := R4.wipe vs
                    rw [ew] at R7
                    have := (R7.there h).1
                    rw [show (F.lock l (HO.lst acc) nF) l = some (.lst acc) from upd_same] at this
                    cases this
                  exact (R6.poke (o := .lst (acc ++ [u])) nF j2 j3 o6).lock nF upd_same j2 j3 o6
              · cases hc
            · rename_i g2 e3
              refine ⟨_, G', Mu, g1, R2, ?_⟩
              rw [e3]
              intro bb H3 G3 k3 R3 hb
              cases (show false = bb from hb)
              rw [if_neg Bool.false_ne_true]
              have R6 := R3.wipe vs
              rw [ew] at R6
              exact ⟨G3, wipG g2 vs, acc, ys, g.trans k3, R6, dpAll_mono k3 _ _ hd, by omega, hc⟩
            · cases hc
        · rw [List.drop_length] at hc
          unfold compG at hc
          cases hc
          obtain ⟨R5, j1, j2, j3, j4⟩ := R'.unlock
          have R6 := R.back R5 g no
          refine q _ H' G' g R6 ⟨l, acc, rfl, j1, hd, nF, j2, j3, fun i h => ?_⟩
          obtain ⟨m, w1, ws, w2⟩ := h
          have hni : i ∉ vs := fun hin => by
            rw [rstG_in (by rw [R5.len, R.len, wipe_length]) hin] at w1
            rw [noOwn_at no hin w1] at ws
            cases ws
          exact j4 i ⟨m, by rw [← rstG_out hni]; exact w1, ws, by rw [wipe_out hni]; exact w2⟩
    · exact q.elim
section
variable {X : Cx} {b : Bool} {elt tg iter : Expr} {ifs : List Expr} {scope : Scope} {pos : Pos} {t : Tg} {mi : M (List D)} {mt : M Bool} {me : M D}
theorem do_comp (own : List (Str × Nat)) (hc : X.calm = true) (hN : X.N.Nodup) (hi : DI b X tg iter mi) (ok : BlkOk X.N X.env.scope scope own)
    (hg : ∀ (s : Shared) (H : Hp) (C : Addr) (cl : List (Str × Addr)) (fp : List Addr), DGb b (X.blk s H scope (compEnvC scope cl C X.env) fp) tg t) (ht : ∀ (s : Shared) (H : Hp) (C : Addr) (cl : List (Str × Addr)) (fp : List Addr), DTs (X.blk s H scope (compEnvC scope cl C X.env) fp) ifs mt)
    (he : ∀ (s : Shared) (H : Hp) (C : Addr) (cl : List (Str × Addr)) (fp : List Addr), DP (X.blk s H scope (compEnvC scope cl C X.env) fp) elt me) (hv : ∀ i ∈ tgS t, i ∈ own.map (·.2)) (hs : ∀ x, foldedSetIterable iter X.env x = pure x := by intro _; rfl) :
    DO X (.ListComp elt [⟨tg, iter, ifs, 0⟩] scope pos) (compL (own.map (·.2)) t mi mt me) := fun W tk =>
  pe_imp (pe_lc (g := zGb b X t) (tt := zt X W0 rhoB mt) (te := zt X W0 rhoD me) hc hN (hi W tk) ok (fun s H C cl fp => hg s H C cl fp) (fun s H C cl fp => ht s H C cl fp W0 takes0) (fun s H C cl fp => he s H C cl fp W0 takes0) hs) fun σ H Q p => comp_run hv p
end
end Z

set_option Elab.async false
set_option linter.all false
set_option maxRecDepth 100000
set_option autoImplicit false
set_option maxHeartbeats 1000000
namespace Z
open PySem PySem.Spec PyProof.Rows L2

/-- how a parameter is taken: read alone; kept; a list that is changed -/
inductive Pk where
  | v
  | p
  | m
inductive Out where
  | bad
  | ret (r : Rt) (ms : List D)
  | ex (c : Str) (x : D) (ms : List D)
def del (H : Hp) (Mu : Option Addr) : Hp := fun b => if Mu = some b then none else H b
theorem del_sub {H : Hp} {Mu : Option Addr} : Same (del H Mu) H := fun b o h => by
  unfold del at h
  split at h
  · cases h
  · exact h
theorem del_at {H : Hp} {Mu : Option Addr} {l : Addr} (h : Mu = some l) : del H Mu l = none := if_pos h
theorem del_ne {H : Hp} {Mu : Option Addr} {l : Addr} (h : Mu ≠ some l) : del H Mu l = H l := if_neg h
def ArgV (K : PySem.W.Frag) (G H : Hp) (Mu : Option Addr) (v : V) (x : D) : Prop := Dq K G v x ∨ ∃ l us ys, v = .ref l ∧ x = .list ys ∧ SqL K (del H Mu) l us ∧ DqAll K G us ys
def ArgM (K : PySem.W.Frag) (G H : Hp) (Mu : Option Addr) (v : V) (x : D) : Prop := ∃ l us ys, x = .list ys ∧ v = .ref l ∧ Mu = some l ∧ H l = some (.lst us) ∧ DqAll K G us ys ∧ G l = none
def ArgK (K : PySem.W.Frag) (G H : Hp) (Mu : Option Addr) : Pk → V → D → Prop
  | .v => ArgV K G H Mu
  | .p => Dq K G
  | .m => ArgM K G H Mu
def ArgsR (K : PySem.W.Frag) (G H : Hp) (Mu : Option Addr) : List Pk → List V → List D → Prop
  | [], vs, xs => vs = [] ∧ xs = []
  | k :: ks, vs, xs => ∃ v us x ys, vs = v :: us ∧ xs = x :: ys ∧ ArgK K G H Mu k v x ∧ ArgsR K G H Mu ks us ys
structure Post (K : PySem.W.Frag) (G H : Hp) (Mu : Option Addr) (G' H' : Hp) (ms : List D) : Prop where
  g : Same G G'
  gh : Same G' H'
  fr : Same (del H Mu) H'
  keep : ∀ b, H b ≠ none → G b = none → G' b = none
  mu : ∀ l, Mu = some l → ∃ us, H' l = some (.lst us) ∧ DqAll K G' us ms
def RetR (K : PySem.W.Frag) (H G' H' : Hp) (r : Rt) (v : V) : Prop := match r with
  | .d x => Dq K G' v x
  | .own xs => ∃ l us, v = .ref l ∧ H' l = some (.lst us) ∧ DqAll K G' us xs ∧ H l = none ∧ G' l = none
def outP (K : PySem.W.Frag) (mg : Str → Option Value) (G H : Hp) (Mu : Option Addr) (Q : VK) (E : XK) : Out → Prop
  | .bad => False
  | .ret r ms => ∀ v H' G', Post K G H Mu G' H' ms → RetR K H G' H' r v → Q v H'
  | .ex c x ms => ∀ C a v H' G', mg c = some (.ref C) → Post K G H Mu G' H' ms → H' a = some (.xd [("value", v)]) → Dq K G' v x → H a = none → E (.ref C) (some a) H'
def hasM : List Pk → Bool
  | [] => false
  | .m :: _ => true
  | _ :: ks => hasM ks
def spF (K : PySem.W.Frag) (mg : Str → Option Value) (ks : List Pk) (φ : List D → Out) : Sp := fun vs H Q E => ∃ G Mu xs, Same G H ∧ (∀ l, Mu = some l → G l = none ∧ H l ≠ none) ∧ (hasM ks = false → Mu = none) ∧ ArgsR K G H Mu ks vs xs ∧ outP K mg G H Mu Q E (φ xs)

def svK : Pk → D → SV
  | .m, .list ys => .own true ys
  | .m, _ => .u
  | .p, x => .d x
  | .v, x => svA x
def svs : List Pk → List D → List SV
  | k :: ks, x :: xs => svK k x :: svs ks xs
  | _, _ => []
def start0 (n : Nat) (ks : List Pk) (xs : List D) : En := svs ks xs ++ List.replicate (n - ks.length) .u
def muOf : List Pk → En → Option (List D)
  | [], _ => some []
  | .m :: _, .own true ms :: _ => some ms
  | .v :: ks, _ :: g => muOf ks g
  | .p :: ks, _ :: g => muOf ks g
  | _, _ => none
def oneM : List Pk → Bool
  | [] => true
  | .m :: ks => !hasM ks
  | _ :: ks => oneM ks
def outM (ks : List Pk) (r : Rt) (g : En) : Out := match muOf ks g with
  | some ms => .ret r ms
  | none => .bad
/-- a def's answer -/
def runF (n : Nat) (ks : List Pk) (b : M Fl) (xs : List D) : Out := match b (start0 n ks xs) with
  | .ok .nx g => outM ks (.d .none) g
  | .ok (.rt r) g => outM ks r g
  | .ex c x g => match muOf ks g with
    | some ms => .ex c x ms
    | none => .bad
  | _ => .bad
section
variable {K : PySem.W.Frag} {G H : Hp} {Mu : Option Addr}
theorem args_len : ∀ {ks : List Pk} {vs : List V} {xs : List D}, ArgsR K G H Mu ks vs xs → vs.length = ks.length ∧ xs.length = ks.length ∧ (svs ks xs).length = ks.length
  | [], _, _, h => by
    obtain ⟨rfl, rfl⟩ := h
    exact ⟨rfl, rfl, rfl⟩
  | k :: ks, _, _, h => by
    obtain ⟨v, us, x, ys, rfl, rfl, _, h⟩ := h
    obtain ⟨a, b, c⟩ := args_len h
    refine ⟨by rw [List.length_cons, List.length_cons, a], by rw [List.length_cons, List.length_cons, b], ?_⟩
    show (svs ks ys).length + 1 = _
    rw [c, List.length_cons]
theorem args_get : ∀ {ks : List Pk} {vs : List V} {xs : List D} {i : Nat} {sv : SV}, ArgsR K G H Mu ks vs xs → (svs ks xs)[i]? = some sv → ∃ k v x, ks[i]? = some k ∧ vs[i]? = some v ∧ sv = svK k x ∧ ArgK K G H Mu k v x
  | [], _, _, _, _, h, e => by
    obtain ⟨rfl, rfl⟩ := h
    cases e
  | k :: ks, _, _, 0, sv, h, e => by
    obtain ⟨v, us, x, ys, rfl, rfl, h1, h⟩ := h
    have e' : some (svK k x) = some sv := e
    cases e'
    exact ⟨k, v, x, rfl, rfl, rfl, h1⟩
  | k :: ks, _, _, i + 1, sv, h, e => by
    obtain ⟨v, us, x, ys, rfl, rfl, h1, h⟩ := h
    obtain ⟨k', v', x', a, b, c, d⟩ := args_get (i := i) h (show (svs ks ys)[i]? = some sv from e)
    exact ⟨k', v', x', by simpa using a, by simpa using b, c, d⟩
theorem hasM_get : ∀ {ks : List Pk} {i : Nat}, ks[i]? = some .m → hasM ks = true
  | [], _, h => by simp at h
  | .m :: ks, _, _ => rfl
  | .v :: ks, 0, h => by simp at h
  | .p :: ks, 0, h => by simp at h
  | .v :: ks, i + 1, h => hasM_get (ks := ks) (i := i) (by simpa using h)
  | .p :: ks, i + 1, h => hasM_get (ks := ks) (i := i) (by simpa using h)
theorem oneM_eq : ∀ {ks : List Pk} {i j : Nat}, oneM ks = true → ks[i]? = some .m → ks[j]? = some .m → i = j
  | [], _, _, _, h, _ => by simp at h
  | _ :: _, 0, 0, _, _, _ => rfl
  | .m :: ks, 0, j + 1, h, _, e => by
    have := hasM_get (ks := ks) (i := j) (by simpa using e)
    simp [oneM, this] at h
  | .m :: ks, i + 1, 0, h, e, _ => by
    have := hasM_get (ks := ks) (i := i) (by simpa using e)
    simp [oneM, this] at h
  | .v :: ks, 0, j + 1, h, e, _ => by simp at e
  | .p :: ks, 0, j + 1, h, e, _ => by simp at e
  | .v :: ks, i + 1, 0, h, _, e => by simp at e
  | .p :: ks, i + 1, 0, h, _, e => by simp at e
  | .m :: ks, i + 1, j + 1, h, e, e2 => by
    have := hasM_get (ks := ks) (i := i) (by simpa using e)
    simp [oneM, this] at h
  | .v :: ks, i + 1, j + 1, h, e, e2 => by rw [oneM_eq (ks := ks) (i := i) (j := j) h (by simpa using e) (by simpa using e2)]
  | .p :: ks, i + 1, j + 1, h, e, e2 => by rw [oneM_eq (ks := ks) (i := i) (j := j) h (by simpa using e) (by simpa using e2)]
/-- the frame of a def that is called -/
def frD (G H : Hp) (Mu : Option Addr) : Fr where
  f := del H Mu
  a := del H Mu
  k := fun b => del H Mu b ≠ none ∧ G b = none
  af := Same.refl _
  kf := fun _ h => h.1
theorem start_at {N : List Str} {vs : List V} {i : Nat} {v : V} (h : vs[i]? = some v) : (L2.start N vs)[i]? = some (some v) := by
  unfold L2.start
  rw [List.getElem?_append_left (by rw [List.length_map]; exact (List.getElem?_eq_some_iff.mp h).1), List.getElem?_map, h]
  rfl
theorem svK_ow {k : Pk} {x : D} (h : (svK k x).ow = true) : k = .m := by
  cases k with
  | m => rfl
  | p => cases h
  | v =>
    cases x with
    | _ => cases h
theorem rel_start {N : List Str} {ks : List Pk} {vs : List V} {xs : List D} (gh : Same G H) (mu : ∀ l, Mu = some l → G l = none ∧ H l ≠ none) (a : ArgsR K G H Mu ks vs xs) (one : oneM ks = true) (hn : ks.length ≤ N.length) :
    Rel K (frD G H Mu) G Mu (start0 N.length ks xs) (L2.start N vs) H := by
  obtain ⟨l1, l2, l3⟩ := args_len a
  have get : ∀ {i : Nat} {sv : SV}, (start0 N.length ks xs)[i]? = some sv → (∃ k v x, ks[i]? = some k ∧ (L2.start N vs)[i]? = some (some v) ∧ sv = svK k x ∧ ArgK K G H Mu k v x) ∨ sv = .u := fun {i sv} e => by
    unfold start0 at e
    by_cases hi : i < (svs ks xs).length
    · rw [List.getElem?_append_left hi] at e
      obtain ⟨k, v, x, h1, h2, h3, h4⟩ := args_get a e
      exact .inl ⟨k, v, x, h1, start_at h2, h3, h4⟩
    · rw [List.getElem?_append_right (by omega), List.getElem?_replicate] at e
      split at e
      · cases e
        exact .inr rfl
      · cases e
  refine ⟨del_sub, fun l h => h.2, gh, fun l h => ⟨del_at h, mu l h⟩, ?_, fun i sv e => ?_, fun i j l ⟨m, a1, ys, a2⟩ ⟨m', b1, ys', b2⟩ => ?_⟩
  · unfold start0 L2.start
    rw [List.length_append, List.length_append, List.length_map, List.length_replicate, List.length_replicate, l3, l1]
  · rcases get e with ⟨k, v, x, h1, h2, rfl, h4⟩ | rfl
    · rw [h2]
      cases k with
      | p => exact ⟨v, rfl, h4⟩
      | m =>
        obtain ⟨l, us, ys, rfl, rfl, q1, q2, q3, q4⟩ := h4
        exact ⟨l, us, rfl, q2, q3, del_at q1, q4, fun _ => q1, fun z => nomatch z⟩
      | v =>
        rcases h4 with h4 | ⟨l, us, ys, rfl, rfl, q1, q2⟩
        · have hd := h4
          cases h4 with
          | lst q1 q2 =>
            rename_i l us ys
            refine ⟨l, us, rfl, ?_, q2⟩
            rcases q1 with (q1 | ⟨o, q1⟩) | q1
            · exact .inl (.inl ((del_ne fun z => by rw [(mu l z).1] at q1; cases q1).trans (gh _ _ q1)))
            · exact .inl (.inr ⟨o, (del_ne fun z => by rw [(mu l z).1] at q1; cases q1).trans (gh _ _ q1)⟩)
            · exact .inr q1
          | _ => exact ⟨_, rfl, hd⟩
        · exact ⟨l, us, rfl, q1, q2⟩
    · exact True.intro
  · rcases get a1 with ⟨k, v, x, h1, h2, h3, h4⟩ | z
    · rcases get b1 with ⟨k', v', x', i1, i2, i3, i4⟩ | z
      · subst h3
        subst i3
        obtain rfl := svK_ow ys
        obtain rfl := svK_ow ys'
        exact oneM_eq one h1 i1
      · subst z
        cases ys'
    · subst z
      cases ys
theorem mu_end {F : Fr} {G' H' : Hp} {l : Addr} (hM : Mu = some l) : ∀ {ks : List Pk} {Γ' : En} {σ' : St} {ms : List D}, hasM ks = true → Rel K F G' Mu Γ' σ' H' → muOf ks Γ' = some ms → ∃ us, H' l = some (.lst us) ∧ DqAll K G' us ms := by
  have key : ∀ {ks : List Pk} {g : En} {ms : List D}, hasM ks = true → muOf ks g = some ms → ∃ i : Nat, g[i]? = some (SV.own true ms) := by
    intro ks
    induction ks with
    | nil => intro g ms h; cases h
    | cons k ks ih =>
      intro g ms h e
      cases g with
      | nil => cases k <;> cases e
      | cons sv g =>
        cases k with
        | m =>
          cases sv with
          | own b ys =>
            cases b with
            | true =>
              cases e
              exact ⟨0, rfl⟩
            | false => cases e
          | _ => cases e
        | v =>
          obtain ⟨i, hi⟩ := ih h (show muOf ks g = some ms from e)
          exact ⟨i + 1, by simpa using hi⟩
        | p =>
          obtain ⟨i, hi⟩ := ih h (show muOf ks g = some ms from e)
          exact ⟨i + 1, by simpa using hi⟩
  intro ks Γ' σ' ms h R e
  obtain ⟨i, hi⟩ := key h e
  obtain ⟨l', us, _, h2, h3, _, _, h6, _⟩ := R.owned hi
  have := h6 rfl
  rw [hM] at this
  cases this
  exact ⟨us, h2, h3⟩
theorem post_of {G' H' : Hp} {ks : List Pk} {Γ' : En} {σ' : St} {ms : List D} (hm : hasM ks = false → Mu = none) (g : Same G G') (R : Rel K (frD G H Mu) G' Mu Γ' σ' H') (e : muOf ks Γ' = some ms) : Post K G H Mu G' H' ms where
  g := g
  gh := R.gh
  fr := R.fh
  keep := fun b h1 h2 => by
    by_cases hb : Mu = some b
    · exact (R.mu b hb).2.1
    · exact R.lk b ⟨by rw [del_ne hb]; exact h1, h2⟩
  mu := fun l h => by
    cases hh : hasM ks with
    | false =>
      rw [hm hh] at h
      cases h
    | true => exact mu_end h hh R e
end
section
variable {P : Program} {w : World} {K : PySem.W.Frag} {mg : Str → Option Value} {base : Heap}
/-- a def by its body -/
theorem fn_ok {x qual : Str} {stm : Stmt} {f : Addr} {fd : FuncData} {N ps : List Str} {k : Nat} {ks : List Pk} {m : M Fl} (Fn : Fun K x qual stm f fd) (S : FnScope N ps (defScope stm)) (hl : ks.length = ps.length) (one : oneM ks = true)
    (body : ∀ (cdv : Value) (A : Around) (outer : List Env) (s : Shared) (H : Hp) (E : XK), Room k (A.deeper (envOfC qual (defScope stm) s.heap.objs.size f cdv)) → DSs (cxOf (L2.CX P w) P w K mg base N qual (defScope stm) f cdv A outer s H E) (defBody stm) m) :
    FnOk P w K mg base (L2.CX P w) (k + 1) f fd ps (spF K mg ks (runF N.length ks m)) := by
  have hpl : ps.length ≤ N.length := by
    have := congrArg List.length S.pre
    rw [List.length_take] at this
    omega
  refine Fn.okX S (fun vs H Q E ⟨G, Mu, xs, _, _, _, a, _⟩ => by rw [(args_len a).1, hl]) fun cdv A outer s H vs Q E hr ⟨G, Mu, xs, gh, mu, hm, a, q⟩ => ?_
  refine ⟨_, body cdv A outer s H E hr (fun cls d _ H => E cls d H) (takes_of rfl rfl rfl rfl), frD G H Mu, G, Mu, start0 N.length ks xs, rel_start gh mu a one (by omega), ?_⟩
  unfold runF at q
  have ret : ∀ {r : Rt} {Γ' : En}, outP K mg G H Mu Q E (outM ks r Γ') → ∀ v σ' H' G', Same G G' → Rel K (frD G H Mu) G' Mu Γ' σ' H' → rhoT K (frD G H Mu) G' Mu Γ' σ' H' r v → Q v H' := fun {r Γ'} q v σ' H' G' g R h => by
    unfold outM at q
    cases e : muOf ks Γ' with
    | none => rw [e] at q; exact q.elim
    | some ms =>
      rw [e] at q
      refine q v H' G' (post_of hm g R e) ?_
      cases r with
      | d x => exact h
      | own ys =>
        obtain ⟨l, us, rfl, h1, h2, h3, h4, h5, _⟩ := h
        exact ⟨l, us, rfl, h1, h2, by rw [show (frD G H Mu) l = del H Mu l from rfl, del_ne h5] at h3; exact h3, h4⟩
  cases e : m (start0 N.length ks xs) with
  | bad => rw [e] at q; exact q.elim
  | ok fl Γ' =>
    rw [e] at q
    cases fl with
    | nx => exact fun σ' H' G' g R => ret q .non σ' H' G' g R .non
    | rt r => exact fun v σ' H' G' g R h => ret q v σ' H' G' g R h
    | bk => exact q.elim
    | ct => exact q.elim
  | ex c z Γ' =>
    rw [e] at q
    intro C ad v σ' H' G' h1 g R h2 h3 f1 f2
    have f3 : H ad = none := by
      rw [show (frD G H Mu).f ad = del H Mu ad from rfl, del_ne f2] at f1
      exact f1
    dsimp only at q
    cases e2 : muOf ks Γ' with
    | none => rw [e2] at q; exact q.elim
    | some ms =>
      rw [e2] at q
      exact q C ad v H' G' h1 (post_of hm g R e2) h2 h3 f3
end

def mIx : List Pk → List Rs → Option Nat
  | .m :: _, .sl i :: _ => some i
  | _ :: ks, _ :: rs => mIx ks rs
  | _, _ => none
def argD (g : En) (mi : Option Nat) : List Pk → List Rs → Option (List D)
  | [], [] => some []
  | k :: ks, r :: rs => match argD g mi ks rs with
    | none => none
    | some xs => match k, r with
      | .m, .sl i => match g[i]? with
        | some (.own _ ys) => if mi = some i then some (.list ys :: xs) else none
        | _ => none
      | .v, .d x => some (x :: xs)
      | .v, .sl i => if mi = some i then none else match vl g (.sl i) with
        | some x => some (x :: xs)
        | none => none
      | .p, .d x => some (x :: xs)
      | _, _ => none
  | _, _ => none
def putM (mi : Option Nat) (ms : List D) (g : En) : En := match mi with
  | none => g
  | some i => match g[i]? with
    | some (.own b _) => g.set i (.own b ms)
    | _ => g
def callM (ks : List Pk) (φ : List D → Out) (rs : List Rs) : M Rt := fun g => match argD g (mIx ks rs) ks rs with
  | none => .bad
  | some xs => match φ xs with
    | .bad => .bad
    | .ret r ms => .ok r (putM (mIx ks rs) ms g)
    | .ex c x ms => .ex c x (putM (mIx ks rs) ms g)
section
variable {K : PySem.W.Frag} {F : Fr} {G H : Hp} {Mu : Option Addr} {Γ : En} {σ : St}
def muA (σ : St) (mi : Option Nat) : Option Addr := match mi with
  | none => none
  | some i => match σ[i]? with
    | some (some (.ref l)) => some l
    | _ => none
theorem muA_own {mi : Option Nat} (hmi : ∀ i, mi = some i → ∃ b ys, Γ[i]? = some (.own b ys)) {l : Addr} (h : muA σ mi = some l) : ∃ j, mi = some j ∧ Owns Γ σ j l := by
  unfold muA at h
  split at h
  · cases h
  · rename_i j
    split at h
    · rename_i l' hl
      cases h
      obtain ⟨b, ys, e⟩ := hmi j rfl
      exact ⟨j, rfl, _, e, rfl, hl⟩
    · cases h
theorem argsM (R : Rel K F G Mu Γ σ H) {mi : Option Nat} (hmi : ∀ i, mi = some i → ∃ b ys, Γ[i]? = some (.own b ys)) : ∀ {ks : List Pk} {rs : List Rs} {vs : List V} {xs : List D}, RsAll K G σ rs vs → argD Γ mi ks rs = some xs → ArgsR K G H (muA σ mi) ks vs xs
  | [], [], _, _, h, e => by
    cases e
    exact ⟨h, rfl⟩
  | [], _ :: _, _, _, _, e => by cases e
  | _ :: _, [], _, _, _, e => by cases e
  | k :: ks, r :: rs, _, _, h, e => by
    obtain ⟨v, us, rfl, h1, h2⟩ := h
    unfold argD at e
    split at e
    · cases e
    · rename_i ys e1
      have ih := argsM R hmi h2 e1
      split at e
      · rename_i i
        split at e
        · rename_i b zs hg
          split at e
          · rename_i hm
            cases e
            obtain ⟨l, ws, k1, k2, k3, k4, k5, _⟩ := R.owned hg
            have h1' : σ[i]? = some (some v) := h1
            rw [h1'] at k1
            cases k1
            refine ⟨_, us, _, ys, rfl, rfl, ⟨l, ws, zs, rfl, rfl, ?_, k2, k3, k5⟩, ih⟩
            rw [hm]
            unfold muA
            dsimp only
            rw [h1']
          · cases e
        · cases e
      · rename_i x
        cases e
        exact ⟨v, us, x, ys, rfl, rfl, .inl h1, ih⟩
      · rename_i i
        split at e
        · cases e
        · rename_i hm
          have h1' : σ[i]? = some (some v) := h1
          split at e
          · rename_i x hx
            cases e
            refine ⟨v, us, x, ys, rfl, rfl, ?_, ih⟩
            unfold vl at hx
            dsimp only at hx
            split at hx
            · rename_i y hg
              cases hx
              obtain ⟨v', w1, w2⟩ := R.data hg
              rw [h1'] at w1
              cases w1
              exact .inl w2
            · rename_i zs hg
              cases hx
              obtain ⟨l, ws, w1, w2, w3⟩ := R.arg hg
              rw [h1'] at w1
              cases w1
              refine .inr ⟨l, ws, zs, rfl, rfl, ?_, w3⟩
              have hne : ∀ o, F.a l = some o → muA σ mi ≠ some l := fun o w z => by
                obtain ⟨j, _, oj⟩ := muA_own hmi z
                have := F.af _ _ w
                rw [(R.there oj).1] at this
                cases this
              rcases w2 with (w2 | ⟨o, w2⟩) | w2
              · exact .inl (.inl ((del_ne (hne _ w2)).trans (R.fh _ _ (F.af _ _ w2))))
              · exact .inl (.inr ⟨o, (del_ne (hne _ w2)).trans (R.fh _ _ (F.af _ _ w2))⟩)
              · exact .inr w2
            · rename_i b zs hg
              cases hx
              obtain ⟨l, ws, w1, w2, w3, _, _, _, _, ow⟩ := R.owned hg
              rw [h1'] at w1
              cases w1
              refine .inr ⟨l, ws, zs, rfl, rfl, .inl (.inl ((del_ne fun z => ?_).trans w2)), w3⟩
              obtain ⟨j, hj, oj⟩ := muA_own hmi z
              exact hm (by rw [hj, R.sep i j l ow oj])
            · cases hx
          · cases e
      · rename_i x
        cases e
        exact ⟨v, us, x, ys, rfl, rfl, h1, ih⟩
      · cases e
theorem mIx_no : ∀ {ks : List Pk} {rs : List Rs}, hasM ks = false → mIx ks rs = none
  | [], _, _ => by unfold mIx; rfl
  | .m :: _, _, h => by cases h
  | .v :: ks, [], _ => rfl
  | .p :: ks, [], _ => rfl
  | .v :: ks, r :: rs, h => mIx_no (ks := ks) (rs := rs) h
  | .p :: ks, r :: rs, h => mIx_no (ks := ks) (rs := rs) h
theorem mIx_own {g : En} {mi : Option Nat} : ∀ {ks : List Pk} {rs : List Rs} {xs : List D}, argD g mi ks rs = some xs → ∀ i, mIx ks rs = some i → ∃ b ys, g[i]? = some (.own b ys)
  | [], _, _, _, _, h => by
    unfold mIx at h
    cases h
  | k :: ks, [], _, e, _, h => by
    cases e
  | k :: ks, r :: rs, xs, e, i, h => by
    unfold argD at e
    split at e
    · cases e
    · rename_i ys e1
      split at e
      · rename_i j
        cases h
        split at e
        · rename_i b zs hg
          exact ⟨b, zs, hg⟩
        · cases e
      · exact mIx_own e1 i h
      · exact mIx_own e1 i h
      · exact mIx_own e1 i h
      · cases e
theorem putM_len {mi : Option Nat} {ms : List D} : (putM mi ms Γ).length = Γ.length := by
  unfold putM
  split
  · rfl
  · split
    · rw [List.length_set]
    · rfl
/-- behind a call -/
theorem Rel.called {G' H' : Hp} {ms : List D} {mi : Option Nat} (R : Rel K F G Mu Γ σ H) (hmi : ∀ i, mi = some i → ∃ b ys, Γ[i]? = some (.own b ys)) (p : Post K G H (muA σ mi) G' H' ms) : Rel K F G' Mu (putM mi ms Γ) σ H' := by
  have same : ∀ {l : Addr} {o : HO}, H l = some o → muA σ mi ≠ some l → H' l = some o := fun {l o} h n => p.fr _ _ ((del_ne n).trans h)
  have at_own : ∀ {i : Nat} {l : Addr}, Owns Γ σ i l → mi ≠ some i → muA σ mi ≠ some l := fun {i l} h n z => by
    obtain ⟨j, hj, oj⟩ := muA_own hmi z
    exact n (by rw [hj, R.sep i j l h oj])
  have own' : ∀ {i : Nat} {l : Addr}, Owns (putM mi ms Γ) σ i l → Owns Γ σ i l := fun {i l} ⟨m, h1, xs, h2⟩ => by
    unfold putM at h1
    split at h1
    · exact ⟨m, h1, xs, h2⟩
    · rename_i j _
      split at h1
      · rename_i b ys hg
        by_cases e : j = i
        · subst e
          exact ⟨_, hg, rfl, h2⟩
        · rw [List.getElem?_set_ne e] at h1
          exact ⟨m, h1, xs, h2⟩
      · exact ⟨m, h1, xs, h2⟩
  refine ⟨fun b o h => same (R.fh b o h) fun z => ?_, fun b h => ?_, p.gh, fun l h => ?_, by rw [putM_len, R.len], fun i sv e => ?_, fun i j l a b => R.sep i j l (own' a) (own' b)⟩
  · obtain ⟨j, _, oj⟩ := muA_own hmi z
    rw [(R.there oj).1] at h
    cases h
  · refine p.keep b (fun z => ?_) (R.lk b h)
    obtain ⟨o, w⟩ := Option.ne_none_iff_exists'.mp (F.kf b h)
    rw [R.fh b o w] at z
    cases z
  · obtain ⟨m1, m2, m3⟩ := R.mu l h
    refine ⟨m1, p.keep l m3 m2, ?_⟩
    by_cases hl : muA σ mi = some l
    · obtain ⟨us, h1, _⟩ := p.mu l hl
      rw [h1]
      exact fun z => nomatch z
    · obtain ⟨o, w⟩ := Option.ne_none_iff_exists'.mp m3
      rw [same w hl]
      exact fun z => nomatch z
  · have old : Γ[i]? = some sv → mi ≠ some i → SlotRel K F G' H' Mu sv (σ[i]?.join) := fun e hn => by
      have q := R.sl i sv e
      cases sv with
      | u => exact True.intro
      | d x =>
        obtain ⟨v, h1, h2⟩ := q
        exact ⟨v, h1, dp_mono p.g _ _ h2⟩
      | a xs =>
        obtain ⟨l, us, h1, h2, h3⟩ := q
        exact ⟨l, us, h1, h2, dpAll_mono p.g _ _ h3⟩
      | own m xs =>
        obtain ⟨l, us, h1, h2, h3, h4, h5, h6, h7⟩ := q
        have ow : Owns Γ σ i l := ⟨_, e, rfl, join_some h1⟩
        exact ⟨l, us, h1, same h2 (at_own ow hn), dpAll_mono p.g _ _ h3, h4, p.keep l (by rw [h2]; exact fun z => nomatch z) h5, h6, h7⟩
      | dk ds =>
        obtain ⟨l, es, h1, h2, h3, h4, h5, h6⟩ := q
        have ow : Owns Γ σ i l := ⟨_, e, rfl, join_some h1⟩
        exact ⟨l, es, h1, same h2 (at_own ow hn), dkAll_up p.g h3, h4, p.keep l (by rw [h2]; exact fun z => nomatch z) h5, h6⟩
    unfold putM at e
    split at e
    · exact old e (fun z => nomatch z)
    · rename_i j
      obtain ⟨b, ys, hg⟩ := hmi j rfl
      rw [hg] at e
      dsimp only at e
      by_cases hji : j = i
      · subst hji
        rw [List.getElem?_set_self (List.getElem?_eq_some_iff.mp hg).1] at e
        cases e
        obtain ⟨l, us, h1, h2, h3, h4, h5, h6, h7, ow⟩ := R.owned hg
        have hl : muA σ (some j) = some l := by
          unfold muA
          dsimp only
          rw [h1]
        obtain ⟨ws, w1, w2⟩ := p.mu l hl
        exact ⟨l, ws, by rw [h1]; rfl, w1, w2, h4, p.keep l (by rw [h2]; exact fun z => nomatch z) h5, h6, h7⟩
      · rw [List.getElem?_set_ne hji] at e
        exact old e (fun z => hji (by cases z; rfl))
end
def DR (X : Cx) (e : Expr) (m : M Rt) : Prop := ∀ W, Takes X W → PE X e (zt X W rhoT m)
section
variable {X : Cx} {W : WX} {σ : St} {F : Fr} {G H : Hp} {Mu : Option Addr} {Γ : En} {Q : VK}
theorem call_end {ks : List Pk} {φ : List D → Out} {rs : List Rs} {vs : List V} (R : Rel X.K F G Mu Γ σ H) (h : RsAll X.K G σ rs vs) (q : zpost X W σ rhoT F G Mu Q (callM ks φ rs Γ)) : spF X.K X.mg ks φ vs H Q (WE W σ) := by
  unfold callM at q
  split at q
  · exact q.elim
  · rename_i xs e
    have hmi := mIx_own e
    have ar := argsM R hmi h e
    refine ⟨G, muA σ (mIx ks rs), xs, R.gh, fun l hl => ?_, fun hm => by rw [mIx_no hm]; rfl, ar, ?_⟩
    · obtain ⟨j, _, oj⟩ := muA_own hmi hl
      obtain ⟨_, h2, us, h3⟩ := R.there oj
      exact ⟨h2, by rw [h3]; exact fun z => nomatch z⟩
    · split at q
      · exact q.elim
      · rename_i r ms e2
        rw [e2]
        intro v H' G' p hr
        refine q v H' G' p.g (R.called hmi p) ?_
        cases r with
        | d x => exact hr
        | own ys =>
          obtain ⟨l, us, rfl, h1, h2, h3, h4⟩ := hr
          have R' := R.called hmi p
          refine ⟨l, us, rfl, h1, h2, R.fh.free h3, h4, fun z => (R.mu l z).2.2 h3, fun i hi => ?_⟩
          obtain ⟨m, w1, ws, w2⟩ := hi
          have : ∃ sv : SV, Γ[i]? = some sv ∧ sv.ow = true := by
            unfold putM at w1
            split at w1
            · exact ⟨m, w1, ws⟩
            · rename_i j _
              split at w1
              · rename_i b zs hg
                by_cases hji : j = i
                · subst hji
                  exact ⟨_, hg, rfl⟩
                · rw [List.getElem?_set_ne hji] at w1
                  exact ⟨m, w1, ws⟩
              · exact ⟨m, w1, ws⟩
          obtain ⟨m', w3, ws'⟩ := this
          obtain ⟨_, _, us', w4⟩ := R.there (i := i) (l := l) ⟨m', w3, ws', w2⟩
          rw [h3] at w4
          cases w4
      · rename_i c x ms e2
        rw [e2]
        exact fun C a v H' G' h1 p h2 h3 h4 => q C a v H' G' h1 p.g (R.called hmi p) h2 h3 (R.fh.free h4) (fun z => (R.mu a z).2.2 h4)
end
end Z

set_option Elab.async false
set_option linter.all false
set_option maxRecDepth 100000
set_option autoImplicit false
set_option maxHeartbeats 1000000
namespace Z
open PySem PySem.Spec PyProof.Rows L2

structure FnP (P : Program) (w : World) (K : PySem.W.Frag) (mg : Str → Option Value) (base : Heap) (x : Str) (st : Stmt) (k : Nat) (ps : List Str) (ks : List Pk) (φ : List D → Out) : Prop where
  ex : ∃ f fd qual, Fun K x qual st f fd ∧ mg x = some (.ref f) ∧ FnOk P w K mg base (L2.CX P w) k f fd ps (spF K mg ks φ) ∧ Binds K fd ps []
theorem FnP.mono {P : Program} {w : World} {K : PySem.W.Frag} {mg : Str → Option Value} {base : Heap} {x : Str} {st : Stmt} {j k : Nat} {ps : List Str} {ks : List Pk} {φ : List D → Out} (F : FnP P w K mg base x st j ps ks φ) (h : j ≤ k) : FnP P w K mg base x st k ps ks φ := by
  obtain ⟨f, fd, qual, a, b, c, d⟩ := F.ex
  exact ⟨f, fd, qual, a, b, c.mono h, d⟩
/-- keywords, and positions ahead of them: how the values come to the parameters' order -/
def pick {α : Type} (pm : List Nat) (xs : List α) : List α := pm.filterMap (xs[·]?)
def callP (ks : List Pk) (φ : List D → Out) (m : M (List Rs)) : M Rt := bnd m (callM ks φ)
def callK (ks : List Pk) (φ : List D → Out) (pm : List Nat) (m n : M (List Rs)) : M Rt := bnd m fun rs => bnd n fun rs' => callM ks φ (pick pm (rs ++ rs'))
section
variable {X : Cx} {kws : List Keyword} {nm : Option Str} {e : Expr} {es : List Expr} {kpos p pos : Pos} {x : Str} {st : Stmt} {k : Nat} {ps : List Str} {ks : List Pk} {φ : List D → Out}
theorem dr_fn (F : FnP X.prog X.w X.K X.mg X.base x st k ps ks φ) (hr : Room k X.A) (hg : Gl X x) {m : M (List Rs)} (ha : DVs X (e :: es) m)
    (hdb : (x == ("__debug__" : Str)) = false := by decide) (he : starEach (e :: es) X.env = (false, eval e X.env) :: starEach es X.env := by rfl) (hpl : (backTo pos (starEach es X.env)).any (·.1) = false := by rfl) :
    DR X (.Call (.Name x p) (e :: es) [] pos) (callP ks φ m) := fun W tk => by
  obtain ⟨f, fd, qual, f1, f2, f3, f4⟩ := F.ex
  refine pe_imp (pe_callS f3 hr hg f2 f1.kp f4 (passAt tk) (ha W tk) hdb he hpl) fun σ H Q p => ?_
  exact (zt_bnd (ρ := rhoRs) p).imp fun vs H1 ⟨rs, F, G, Mu, Γ, R, h1, q⟩ => call_end R h1 q
end
def rtD : Rt → M D
  | .d x => rt x
  | .own xs => rt (.list xs)
def rtO : Rt → M (List D)
  | .own xs => rt xs
  | _ => fun _ => .bad
def rD (m : M Rt) : M D := bnd m rtD
def rO (m : M Rt) : M (List D) := bnd m rtO
def msR (m : M Rt) (n : M (List Rt)) : M (List Rt) := bnd m fun r => bnd n fun rs => rt (r :: rs)
def sExprR (m : M Rt) : M Fl := bnd m fun _ => sNx
def sRetR (m : M Rt) : M Fl := bnd m fun r => fun g => .ok (.rt r) g
def sSetR (i : Nat) (m : M Rt) : M Fl := bnd m fun r => fun g => match r with
  | .d x => .ok .nx (g.set i (.d x))
  | .own xs => .ok .nx (g.set i (.own false xs))
section
variable {X : Cx} {e : Expr} {es : List Expr} {pos pos' : Pos} {x : Str} {i : Nat}
theorem dp_ofR {m : M Rt} (h : DR X e m) : DP X e (rD m) := fun W tk => pe_imp (h W tk) fun σ H Q p => (zt_bnd (ρ := rhoT) p).imp fun v H1 ⟨r, F, G, Mu, Γ, R, h1, q⟩ => by
  cases r with
  | d x => exact zpost_ok R (show rhoD _ _ _ _ _ _ _ x v from h1) q
  | own xs =>
    obtain ⟨G', k1, R', k2⟩ := R.keep (show rhoO _ _ _ _ _ _ _ xs v from h1)
    exact q v H1 G' k1 R' k2
theorem dms_r {m : M Rt} {n : M (List Rt)} (h : DR X e m) (k : DMs X es n) (hs : starEach (e :: es) X.env = (false, eval e X.env) :: starEach es X.env := by rfl) : DMs X (e :: es) (msR m n) := fun W tk => by
  refine pa_imp (pa_cons (h W tk) (k W tk) hs) fun σ H Q p => ?_
  refine (zt_bnd (ρ := rhoT) p).imp fun v H1 ⟨r, F, G, Mu, Γ, R, h1, q⟩ => ?_
  cases r with
  | d x =>
    refine ⟨F, G, Mu, Γ, R, ?_⟩
    unfold bnd at q
    cases e1 : n Γ with
    | bad => rw [e1] at q; exact q
    | ex c y Γ1 => rw [e1] at q; exact q
    | ok rs Γ1 =>
      rw [e1] at q
      exact fun vs H2 G2 k1 R2 k2 => q (v :: vs) H2 G2 k1 R2 ⟨v, vs, rfl, dp_mono k1 _ _ h1, k2⟩
  | own xs =>
    obtain ⟨l, us, ev, o1, o2, o3, o4, o5, o6⟩ := (show rhoO _ _ _ _ _ _ _ xs v from h1)
    subst ev
    refine ⟨F.lock l _ o3, G, Mu, Γ, R.lock o3 o1 o4 o5 o6, ?_⟩
    unfold bnd at q
    cases e1 : n Γ with
    | bad => rw [e1] at q; exact q
    | ex c x Γ1 =>
      rw [e1] at q
      exact fun C a v H' G' w1 w2 w3 w4 w5 w6 => q C a v H' G' w1 w2 w3.unlock.1 w4 w5 (Fr.lock_back w6)
    | ok rs Γ1 =>
      rw [e1] at q
      intro vs H2 G2 k1 R2 k2
      obtain ⟨R3, j1, j2, j3, j4⟩ := R2.unlock
      obtain ⟨a1, a2⟩ := rtAll_unlock k2
      exact q (.ref l :: vs) H2 G2 k1 R3 ⟨.ref l, vs, rfl, ⟨l, us, rfl, j1, dpAll_mono k1 _ _ o2, o3, j2, j3, j4⟩, a2, a1⟩
theorem ds_exprR {m : M Rt} (h : DR X e m) (hs : swapsWith e none pos.line X.env = pure false := by rfl) : DS X (.Expr e pos) (sExprR m) := fun W tk => ps_imp (ps_expr (h W tk) hs) fun D σ H p =>
  (st_bnd (ρ := rhoT) p).imp fun v H1 ⟨r, F, G, Mu, Γ, R, _, q⟩ => q σ H1 G (Same.refl _) R
theorem ds_retR {m : M Rt} (h : DR X e m) : DS X (.Return (some e) pos) (sRetR m) := fun W tk => ps_imp (ps_ret (h W tk)) fun D σ H p =>
  (st_bnd (ρ := rhoT) p).imp fun v H1 ⟨r, F, G, Mu, Γ, R, h1, q⟩ => q v σ H1 G (Same.refl _) R h1
theorem ds_setR {m : M Rt} (hN : X.N.Nodup) (hi : X.N[i]? = some x) (hx : Loc X.env.scope x) (h : DR X e m) (hs : swapsWith e (some (.Name x pos')) pos.line X.env = pure false := by rfl)
    (hf : X.fn x = true ∨ X.env.scope.names.lookup x = some .local := by first | exact .inl rfl | exact .inr rfl | assumption) : DS X (.Assign [.Name x pos'] e pos) (sSetR i m) := fun W tk =>
  ps_imp (ps_set hN hi hx (h W tk) hs hf) fun D σ H p => (st_bnd (ρ := rhoT) p).imp fun v H1 ⟨r, F, G, Mu, Γ, R, h1, q⟩ => by
    cases r with
    | d y => exact q _ H1 G (Same.refl _) (R.store (sv := .d y) ⟨v, rfl, h1⟩ fun z => nomatch z)
    | own xs => exact q _ H1 G (Same.refl _) (R.storeO h1 i)
end
end Z

set_option Elab.async false
set_option linter.all false
set_option maxRecDepth 100000
set_option autoImplicit false
set_option maxHeartbeats 1000000
namespace Z
open PySem PySem.Spec PyProof.Rows L2

def isTup1 : D → Bool
  | .tuple (_ :: _) => true
  | _ => false
def plainS : D → Bool
  | .none => false
  | .tuple _ => false
  | _ => true
def okSort (xs : List D) : Bool := (xs.all fun d => xs.all (PySem.W.alike d)) && (xs.all isTup1 || xs.all plainS) && decide (xs.length ≤ sizeLine) && xs.all fun d => decide (d.depth ≤ 30)
def sortD (xs : List D) : List D := xs.mergeSort (PySem.W.dataLe false id)
theorem okSort_ok {xs : List D} (h : okSort xs = true) : PySem.W.AllAlike xs ∧ PySem.W.Sortable xs ∧ xs.length ≤ sizeLine ∧ ∀ d, d ∈ xs → d.depth ≤ 30 := by
  unfold okSort at h
  simp only [Bool.and_eq_true, decide_eq_true_eq, List.all_eq_true, Bool.or_eq_true] at h
  obtain ⟨⟨⟨h1, h2⟩, h3⟩, h4⟩ := h
  refine ⟨fun d hd d' hd' => h1 d hd d' hd', ?_, h3, h4⟩
  rcases h2 with h2 | h2
  · refine .inl fun d hd => ?_
    have := h2 d hd
    unfold isTup1 at this
    split at this
    · exact ⟨_, _, rfl⟩
    · cases this
  · refine .inr fun d hd => ?_
    have := h2 d hd
    refine ⟨fun e => ?_, fun ys e => ?_⟩
    · rw [e] at this
      cases this
    · rw [e] at this
      cases this
section
variable {prog : Program} {w : World} {A : Around} {E : Value → Shared → Prop} {s : Shared}
end
end Z

set_option Elab.async false
set_option linter.all false
set_option maxRecDepth 100000
set_option autoImplicit false
set_option maxHeartbeats 1000000
namespace Z
open PySem PySem.Spec PyProof.Rows L2

def enumD : Nat → List D → List D
  | _, [] => []
  | i, x :: xs => .tuple [.int (i : Nat), x] :: enumD (i + 1) xs
def iEnV (m : M Rs) : M (List D) := bnd m fun r => bnd (itR r) fun xs => rt (enumD 0 xs)
/-- .. of a new list -/
def iEnO (m : M (List D)) : M (List D) := bnd m fun xs => rt (enumD 0 xs)
end Z

set_option Elab.async false
set_option linter.all false
set_option maxRecDepth 100000
set_option autoImplicit false
set_option maxHeartbeats 1000000
namespace Z
open PySem PySem.Spec PyProof.Rows L2

section
variable {X : Cx}
end

def op2r (f : D → D → Option D) (h : D → D → Option (List D)) (m n : M Rs) : M Rt := bnd m fun r => bnd n fun s => fun g => match vl g r with
  | none => .bad
  | some x => match vl g s with
    | none => .bad
    | some y => match f x y with
      | some z => .ok (.d z) g
      | none => match h x y with
        | some zs => .ok (.own zs) g
        | none => .bad
def cutR (m : M Rs) (a b : M (Option Int)) : M Rt := bnd m fun r => bnd a fun lo => bnd b fun hi => fun g => match vl g r with
  | none => .bad
  | some x => match fCutT x lo hi with
    | some z => .ok (.d z) g
    | none => match fCutL x lo hi with
      | some zs => .ok (.own zs) g
      | none => .bad
section
variable {X : Cx} {a b e : Expr} {pos p2 : Pos} {lo hi : Option Expr}
theorem OpR.both {F : Value → Value → Sem Value} {r r' : R2} (h : OpR X F r) (k : OpR X F r') : OpR X F (fun x y H Q => r x y H Q ∨ r' x y H Q) := by
  intro pins s σ H x y v u Q I rx ry q
  rcases q with q | q
  · exact h pins s σ H x y v u Q I rx ry q
  · exact k pins s σ H x y v u Q I rx ry q
theorem dr_bin {op : Operator} {f : D → D → Option D} {h : D → D → Option (List D)} {m n : M Rs} (ho : OpR X (binaryOp op) (rD2 X.K f)) (ho' : OpR X (binaryOp op) (rO2 X.K h)) (ha : DV X a m) (hb : DV X b n) : DR X (.BinOp a op b pos) (op2r f h m n) := fun W tk =>
  pe_imp (pe_op (OpR.both ho ho') (ha W tk) (hb W tk)) fun σ H Q p => (zt_bnd2 (ρ := rhoR) (ρ' := rhoR) stR p).imp fun v H1 q => q.imp fun u H2 ⟨r, s, F, G, Mu, Γ, R, h1, h2, q2⟩ => by
    cases e1 : vl Γ r with
    | none => rw [e1] at q2; exact q2.elim
    | some x =>
      cases e2 : vl Γ s with
      | none => rw [e1, e2] at q2; exact q2.elim
      | some y =>
        rw [e1, e2] at q2
        dsimp only at q2
        cases e3 : f x y with
        | some z =>
          rw [e3] at q2
          exact .inl ⟨G, x, y, z, R.gh, R.read h1 e1, R.read h2 e2, e3, fun w H' G' ex d => q2 w H' G' ex.g (R.ext ex) d⟩
        | none =>
          rw [e3] at q2
          dsimp only at q2
          cases e4 : h x y with
          | none => rw [e4] at q2; exact q2.elim
          | some zs =>
            rw [e4] at q2
            refine .inr ⟨G, x, y, zs, R.gh, R.read h1 e1, R.read h2 e2, e4, fun l vs n d => ?_⟩
            obtain ⟨R', o⟩ := R.newO n d
            exact q2 _ _ G (Same.refl _) R' o
end
end Z

set_option Elab.async false
set_option linter.all false
set_option maxRecDepth 100000
set_option autoImplicit false
set_option maxHeartbeats 1000000
namespace Z
open PySem PySem.Spec PyProof.Rows L2

def mixR (m : M D) (n : M (List D)) : M Rt := fun g => match m g with
  | .ok x g' => .ok (.d x) g'
  | .ex c x g' => .ex c x g'
  | .bad => match n g with
    | .ok xs g' => .ok (.own xs) g'
    | .ex c x g' => .ex c x g'
    | .bad => .bad
section
variable {X : Cx} {e : Expr} {pos : Pos}
end
theorem passX {P : Program} {w : World} {K : PySem.W.Frag} {mg : Str → Option Value} {base : Heap} {N : List Str} {qual : Str} {scope : Scope} {f : Addr} {cd : Value} {A : Around} {outer : List Env} {s : Shared} {H : Hp} {E : XK} :
    PassesOwn (model (cxOf (L2.CX P w) P w K mg base N qual scope f cd A outer s H E).prog (cxOf (L2.CX P w) P w K mg base N qual scope f cd A outer s H E).w) (cxOf (L2.CX P w) P w K mg base N qual scope f cd A outer s H E).A (cxOf (L2.CX P w) P w K mg base N qual scope f cd A outer s H E).env (cxOf (L2.CX P w) P w K mg base N qual scope f cd A outer s H E).xe := PassesOwn.leaving

theorem rtAll_new {K : PySem.W.Frag} {F : Fr} {G H : Hp} {Mu : Option Addr} {Γ : En} {σ : St} {p : Addr} {o : HO} (n : H p = none) : ∀ {rs : List Rt} {vs : List V}, RtAll K F G Mu Γ σ H rs vs → RtAll K F G Mu Γ σ (upd H p o) rs vs
  | [], _, h => h
  | .d x :: rs, _, h => by
    obtain ⟨v, us, rfl, h1, h2⟩ := h
    exact ⟨v, us, rfl, h1, rtAll_new n h2⟩
  | .own x :: rs, _, h => by
    obtain ⟨v, us, rfl, ⟨l, ws, e, h1, h2⟩, h3, h4⟩ := h
    exact ⟨v, us, rfl, ⟨l, ws, e, by rw [upd_ne (ne_of_none h1 n)]; exact h1, h2⟩, h3, rtAll_new n h4⟩
inductive Nms (X : Cx) : List Expr → List Nat → Prop where
  | nil : Nms X [] []
  | cons {x : Str} {pos : Pos} {i : Nat} {es : List Expr} {is : List Nat} (hi : X.N[i]? = some x) (hx : Loc X.env.scope x) (hf : X.fn x = true ∨ X.env.scope.names.lookup x = some .local) (hs : (assignEach (.Name x pos :: es) X.env).map (·.2) = assign (.Name x pos) X.env :: (assignEach es X.env).map (·.2)) (h : Nms X es is) : Nms X (.Name x pos :: es) (i :: is)
def gNms (is : List Nat) : TGs := fun vs σ H Q => vs.length = is.length ∧ Q (stV is vs σ) H
theorem pgs_nms {X : Cx} (hN : X.N.Nodup) : ∀ {es : List Expr} {is : List Nat}, Nms X es is → PGs X es (gNms is)
  | _, _, .nil => pgs_imp pgs_nil fun vs σ H Q ⟨h, q⟩ => ⟨List.eq_nil_of_length_eq_zero h, by
      rw [List.eq_nil_of_length_eq_zero h] at q
      exact q⟩
  | _, _, .cons hi hx hf hs h => pgs_imp (pgs_cons (pg_name hN hi hx hf) (pgs_nms hN h) hs) fun vs σ H Q ⟨hl, q⟩ => by
      cases vs with
      | nil => cases hl
      | cons v vs => exact ⟨v, vs, rfl, by simpa using hl, q⟩
theorem ds_parG {X : Cx} {ts es : List Expr} {is : List Nat} {kt k2 : Nat} {pt p2 pos : Pos} {m : M (List Rt)} {n : Nat} (hc : X.calm = true) (hN : X.N.Nodup) (hg : Nms X ts is) (ha : DMs X es m) (hz : is.length ≤ sizeLine)
    (hn : (assignEach ts X.env).length = n := by rfl) (hst : (assignEach ts X.env).findIdx? (·.1) = none := by rfl) (hl : is.length = n := by rfl)
    (hs : swapsWithSole [.Tuple ts kt pt] (.Tuple es k2 p2) pos.line X.env = pure false := by rfl) (hw : swappedStores [.Tuple ts kt pt] (.Tuple es k2 p2) X.env = pure none := by rfl)
    (h1 : (assignEach [.Tuple ts kt pt] X.env).map (·.2) = [assign (.Tuple ts kt pt) X.env] := by rfl) : DS X (.Assign [.Tuple ts kt pt] (.Tuple es k2 p2) pos) (sPar is m) := fun W tk =>
  ps_imp (ps_asg (pe_tup (ha W tk)) (pg_tup hc (pgs_nms hN hg) hn hst) hs hw h1) fun D σ H p => (st_bnd (ρ := rhoMs) p).imp fun vs H1 ⟨rs, F, G, Mu, Γ, R, h1, q⟩ => by
    split at q
    · rename_i g' e
      have len : vs.length = is.length := (R.setRs h1 e).2
      refine ⟨by rw [len]; exact hz, fun t nt => ⟨t, vs, rfl, .inl (.inl upd_same), by rw [len, hl], len, ?_⟩⟩
      obtain ⟨R', _⟩ := (R.newX (o := .tup vs) nt).setRs (rtAll_new nt h1) e
      exact q _ _ G (Same.refl _) R'
    · exact q.elim

def dTupRg3 (m : M (List Rs)) : M D := bnd m fun rs => fun g => match vls g rs with
  | some [.int i, .int j, .int c] => if rgLim i ∧ rgLim j ∧ c = -1 ∧ (i - j).toNat ≤ 16777216 then .ok (.tuple (rngD i (-1) (i - j).toNat)) g else .bad
  | _ => .bad
end Z

set_option Elab.async false
set_option linter.all false
set_option maxRecDepth 100000
set_option autoImplicit false
set_option maxHeartbeats 1000000
namespace Z
open PySem PySem.Spec PyProof.Rows L2
section
variable {X : Cx}
theorem zv (i : Nat) {x : Str} {pos : Pos} (hN : X.N[i]? = some x := by rfl) (hv : Vis X.env.scope x := by first | exact Or.inl rfl | exact Or.inr (Or.inl rfl) | exact Or.inr (Or.inr rfl)) (hd : (x == ("__debug__" : Str)) = false := by decide)
    (hcd : (x == ("__classdict__" : Str)) = false := by decide) : DV X (.Name x pos) (dName i) := dv_name hN hv hd hcd
end
section
variable {P : Program} {w : World} {K : PySem.W.Frag} {mg : Str → Option Value} {base : Heap}
theorem fnP_bad {x : Str} {st : Stmt} {k : Nat} {ps : List Str} {ks : List Pk} {f : Addr} {fd : FuncData} {qual : Str} (Fn : Fun K x qual st f fd) (hm : mg x = some (.ref f)) (hb : Binds K fd ps []) : FnP P w K mg base x st k ps ks (fun _ => .bad) :=
  ⟨f, fd, qual, Fn, hm, ⟨fun vs H Q E ⟨_, _, _, _, _, _, _, q⟩ => q.elim, fun _ _ _ _ _ _ _ _ _ _ _ _ _ ⟨_, _, _, _, _, _, _, q⟩ => q.elim⟩, hb⟩
theorem fnP_mk {x : Str} {stm : Stmt} {f : Addr} {fd : FuncData} {N ps : List Str} {k : Nat} {ks : List Pk} {m : M Fl} (Fn : Fun K x x stm f fd) (hm : mg x = some (.ref f)) (hb : Binds K fd ps []) (S : FnScope N ps (defScope stm)) (hl : ks.length = ps.length) (one : oneM ks = true)
    (body : ∀ (cdv : Value) (A : Around) (outer : List Env) (s : Shared) (H : Hp) (E : XK), Room k (A.deeper (envOfC x (defScope stm) s.heap.objs.size f cdv)) → DSs (cxOf (L2.CX P w) P w K mg base N x (defScope stm) f cdv A outer s H E) (defBody stm) m) :
    FnP P w K mg base x stm (k + 1) ps ks (runF N.length ks m) := ⟨f, fd, x, Fn, hm, fn_ok Fn S hl one body, hb⟩
end
end Z

set_option Elab.async false
set_option linter.all false
set_option maxRecDepth 100000
set_option autoImplicit false
set_option maxHeartbeats 1000000
namespace Z
open PySem PySem.Spec PyProof.Rows L2

def call1 (φ : List D → Out) (m : M (List D)) : M Rt := bnd m fun xs => fun g => match φ [.list xs] with
  | .bad => .bad
  | .ret r _ => .ok r g
  | .ex c x _ => .ex c x g
section
variable {K : PySem.W.Frag} {F : Fr} {G H G' H' : Hp} {Mu : Option Addr} {Γ : En} {σ : St} {l : Addr} {ms : List D}
end
section
variable {X : Cx} {e : Expr} {p pos : Pos} {x : Str} {st : Stmt} {k : Nat} {ps : List Str} {φ : List D → Out}
end
end Z

set_option Elab.async false
set_option linter.all false
set_option maxRecDepth 100000
set_option autoImplicit false
set_option maxHeartbeats 1000000
namespace Z
open PySem PySem.Spec PyProof.Rows L2
def spLaw (K : PySem.W.Frag) : Sp := fun vs H Q _ => ∃ (a : Addr) (ns : List Int), vs = [.ref a] ∧ SqL K H a (ns.map V.int) ∧ ns.length ≤ 63 ∧ ∀ v H', v = .bl true → Q v H'
theorem law_sp {K : PySem.W.Frag} {mg : Str → Option Value} {φ : List D → Out} (h : ∀ ns : List Int, ns.length ≤ 63 → φ [.list (ns.map PyData.int)] = .ret (.d (.bool true)) []) (vs : List V) (H : Hp) (Q : VK) (E : XK) (q : spLaw K vs H Q E) : spF K mg [.v] φ vs H Q E := by
  obtain ⟨a, ns, rfl, hs, hl, q⟩ := q
  refine ⟨fun _ => none, none, [.list (ns.map PyData.int)], (fun _ _ z => by cases z), (fun _ z => by cases z), fun _ => rfl, ⟨_, _, _, _, rfl, rfl, .inr ⟨a, ns.map V.int, ns.map PyData.int, rfl, rfl, ?_, dpa_ints ns⟩, rfl, rfl⟩, ?_⟩
  · rcases hs with (hs | ⟨o, hs⟩) | hs
    · exact .inl (.inl ((del_ne (fun z => by cases z)).trans hs))
    · exact .inl (.inr ⟨o, (del_ne (fun z => by cases z)).trans hs⟩)
    · exact .inr hs
  · rw [h ns hl]
    intro v H' G' _ hr
    cases (show Dq K G' v (.bool true) from hr)
    exact q _ H' rfl
theorem law_fn {P : Program} {w : World} {K : PySem.W.Frag} {mg : Str → Option Value} {base : Heap} {x : Str} {st : Stmt} {k : Nat} {ps : List Str} {φ : List D → Out} {fa : Addr} {fd : FuncData}
    (F : FnP P w K mg base x st k ps [.v] φ) (hm : mg x = some (.ref fa)) (hl : ∃ (oc : Value) (od : Option Addr) (osl : Array (Option Value)), K.lookup fa = some ⟨oc, od, .func fd, osl⟩)
    (h : ∀ ns : List Int, ns.length ≤ 63 → φ [.list (ns.map PyData.int)] = .ret (.d (.bool true)) []) : FnOk P w K mg base (L2.CX P w) k fa fd ps (spLaw K) := by
  obtain ⟨f, fd', qual, Fn, hm', ok, _⟩ := F.ex
  rw [hm] at hm'
  cases hm'
  obtain ⟨oc, od, osl, e1⟩ := hl
  obtain ⟨oc', od', kV, doc, pm, an, cdv, ct, osl', rfl, e2, _⟩ := Fn.ex
  rw [e1] at e2
  cases e2
  exact ok.imp fun vs H Q E q => law_sp h vs H Q E q
theorem cx_none {P : Program} {w : World} {H : Hp} {s : Shared} {e : Value} {s' : Shared} (h : L2.CX P w [] H s (fun _ _ _ => False) e s') : False := by
  obtain ⟨_, _, _, _, _, _, _, _, _, _, _, _, z⟩ := h
  exact z
end Z

set_option Elab.async false
set_option linter.all false
set_option maxRecDepth 100000
set_option autoImplicit false
set_option maxHeartbeats 1000000
namespace Z
open PySem PySem.Spec PyProof.Rows L2

class Cont (α β : Type) where
  k : α → En → Ro β
def Ro.thn {α β : Type} (r : Ro α) [c : Cont α β] : Ro β := match r with
  | .bad => .bad
  | .ok x g => c.k x g
  | .ex e x g => .ex e x g
theorem thn_ok {α β : Type} (x : α) (g : En) (f : α → En → Ro β) : (Ro.ok x g).thn (c := ⟨f⟩) = f x g := Eq.trans rfl rfl
theorem thn_ex {α β : Type} (c : Str) (x : D) (g : En) (f : Cont α β) : (Ro.ex c x g).thn (c := f) = .ex c x g := Eq.trans rfl rfl
/-- an answer that may lack -/
def oRo {α : Type} (o : Option α) (g : En) : Ro α := match o with
  | some x => .ok x g
  | none => .bad
theorem oRo_some {α : Type} (x : α) (g : En) : oRo (some x) g = .ok x g := Eq.trans rfl rfl
class OCont (α β : Type) where
  k : α → Option β
def oMap {α β : Type} (o : Option α) [c : OCont α β] : Option β := match o with
  | some x => c.k x
  | none => none
theorem oMap_some {α β : Type} (x : α) (f : α → Option β) : oMap (some x) (c := ⟨f⟩) = f x := Eq.trans rfl rfl
/-- a choice -/
def brn {α : Type} (k : Bool) (a b : M α) (g : En) : Ro α := if k = true then a g else b g
theorem brn_t {α : Type} (a b : M α) (g : En) : brn true a b g = a g := Eq.trans rfl rfl
theorem brn_f {α : Type} (a b : M α) (g : En) : brn false a b g = b g := Eq.trans rfl rfl
def bdz {α : Type} (n : Nat) (a : Ro α) : Ro α := if n ≤ sizeLine then a else .bad
theorem bdz_ok {α : Type} (n : Nat) (a : Ro α) (h : n ≤ sizeLine) : bdz n a = a := if_pos h
section
variable {α β : Type}
theorem bnd_at (m : M α) (f : α → M β) (g : En) : bnd m f g = (m g).thn (c := ⟨f⟩) := Eq.trans rfl rfl
theorem rt_at (x : α) (g : En) : rt x g = .ok x g := Eq.trans rfl rfl
end
/-- what a slot gives -/
def slR (i : Nat) (o : Option SV) (g : En) : Ro Rs := match o with
  | some (.d x) => .ok (.d x) g
  | some (.a _) => .ok (.sl i) g
  | some (.own _ _) => .ok (.sl i) g
  | _ => .bad
theorem dName_at (i : Nat) (g : En) : dName i g = slR i g[i]? g := Eq.trans rfl rfl
theorem slR_d (i : Nat) (x : D) (g : En) : slR i (some (.d x)) g = .ok (.d x) g := Eq.trans rfl rfl
theorem slR_a (i : Nat) (x : List D) (g : En) : slR i (some (.a x)) g = .ok (.sl i) g := Eq.trans rfl rfl
theorem slR_o (i : Nat) (m : Bool) (x : List D) (g : En) : slR i (some (.own m x)) g = .ok (.sl i) g := Eq.trans rfl rfl
def slV (o : Option SV) : Option D := match o with
  | some (.d x) => some x
  | some (.a xs) => some (.list xs)
  | some (.own _ xs) => some (.list xs)
  | _ => none
theorem vl_d (g : En) (x : D) : vl g (.d x) = some x := Eq.trans rfl rfl
theorem vl_s (g : En) (i : Nat) : vl g (.sl i) = slV g[i]? := Eq.trans rfl rfl
theorem slV_d (x : D) : slV (some (.d x)) = some x := Eq.trans rfl rfl
theorem slV_a (x : List D) : slV (some (.a x)) = some (.list x) := Eq.trans rfl rfl
theorem slV_o (m : Bool) (x : List D) : slV (some (.own m x)) = some (.list x) := Eq.trans rfl rfl
theorem dv_at (m : M D) (g : En) : dv m g = (m g).thn (c := ⟨fun x g' => .ok (.d x) g'⟩) := Eq.trans rfl rfl
def escS (i : Nat) (o : Option SV) (g : En) : Ro D := match o with
  | some (.d x) => .ok x g
  | some (.own false xs) => .ok (.list xs) (g.set i (.d (.list xs)))
  | _ => .bad
theorem dEsc_at (m : M Rs) (g : En) : dEsc m g = (m g).thn (c := ⟨esc⟩) := Eq.trans rfl rfl
theorem esc_d (x : D) (g : En) : esc (.d x) g = .ok x g := Eq.trans rfl rfl
theorem esc_s (i : Nat) (g : En) : esc (.sl i) g = escS i g[i]? g := Eq.trans rfl rfl
theorem escS_d (i : Nat) (x : D) (g : En) : escS i (some (.d x)) g = .ok x g := Eq.trans rfl rfl
theorem escS_o (i : Nat) (xs : List D) (g : En) : escS i (some (.own false xs)) g = .ok (.list xs) (g.set i (.d (.list xs))) := Eq.trans rfl rfl
theorem dFz_at (m : M (List D)) (g : En) : dFz m g = (m g).thn (c := ⟨fun xs g' => .ok (.list xs) g'⟩) := Eq.trans rfl rfl
theorem dC_at (x : D) (g : En) : dC x g = .ok x g := Eq.trans rfl rfl
theorem dNil_at (g : En) : dNil g = .ok [] g := Eq.trans rfl rfl
theorem dCons_at (m : M D) (n : M (List D)) (g : En) : dCons m n g = (m g).thn (c := ⟨fun x g1 => (n g1).thn (c := ⟨fun xs g2 => .ok (x :: xs) g2⟩)⟩) := Eq.trans rfl rfl
theorem vNil_at (g : En) : vNil g = .ok [] g := Eq.trans rfl rfl
theorem vCons_at (m : M Rs) (n : M (List Rs)) (g : En) : vCons m n g = (m g).thn (c := ⟨fun x g1 => (n g1).thn (c := ⟨fun xs g2 => .ok (x :: xs) g2⟩)⟩) := Eq.trans rfl rfl
theorem op2_at (f : D → D → Option D) (m n : M Rs) (g : En) : op2 f m n g = (m g).thn (c := ⟨fun r g1 => (n g1).thn (c := ⟨fun s g2 => oRo (oMap (vl g2 r) (c := ⟨fun x => oMap (vl g2 s) (c := ⟨fun y => f x y⟩)⟩)) g2⟩)⟩) := by
  unfold op2 bnd Ro.thn
  cases m g with
  | ok r g1 =>
    dsimp only
    cases n g1 with
    | ok s g2 =>
      dsimp only
      cases vl g2 r with
      | none => rfl
      | some x =>
        cases vl g2 s with
        | none => rfl
        | some y =>
          dsimp only [oMap]
          cases f x y <;> rfl
    | _ => rfl
  | _ => rfl
theorem op2r_at (f : D → D → Option D) (h : D → D → Option (List D)) (m n : M Rs) (g : En) : op2r f h m n g = (m g).thn (c := ⟨fun r g1 => (n g1).thn (c := ⟨fun s g2 => oRo (oMap (vl g2 r) (c := ⟨fun x => oMap (vl g2 s) (c := ⟨fun y => (match f x y with
    | some z => some (Rt.d z)
    | none => match h x y with
      | some zs => some (Rt.own zs)
      | none => none)⟩)⟩)) g2⟩)⟩) := by
  unfold op2r bnd Ro.thn
  cases m g with
  | ok r g1 =>
    dsimp only
    cases n g1 with
    | ok s g2 =>
      dsimp only
      cases vl g2 r with
      | none => rfl
      | some x =>
        cases vl g2 s with
        | none => rfl
        | some y =>
          dsimp only [oMap]
          cases f x y with
          | some z => rfl
          | none => cases h x y <;> rfl
    | _ => rfl
  | _ => rfl
theorem op1_at (f : D → Option D) (m : M Rs) (g : En) : op1 f m g = (m g).thn (c := ⟨fun r g1 => oRo (oMap (vl g1 r) (c := ⟨f⟩)) g1⟩) := by
  unfold op1 bnd Ro.thn
  cases m g with
  | ok r g1 =>
    dsimp only
    cases vl g1 r with
    | none => rfl
    | some x =>
      dsimp only [oMap]
      cases f x <;> rfl
  | _ => rfl
theorem op1o_at (f : D → Option (List D)) (m : M Rs) (g : En) : op1o f m g = (m g).thn (c := ⟨fun r g1 => oRo (oMap (vl g1 r) (c := ⟨f⟩)) g1⟩) := by
  unfold op1o bnd Ro.thn
  cases m g with
  | ok r g1 =>
    dsimp only
    cases vl g1 r with
    | none => rfl
    | some x =>
      dsimp only [oMap]
      cases f x <;> rfl
  | _ => rfl
theorem opN_at (f : List D → Option D) (m : M (List Rs)) (g : En) : opN f m g = (m g).thn (c := ⟨fun rs g1 => oRo (oMap (vls g1 rs) (c := ⟨f⟩)) g1⟩) := by
  unfold opN bnd Ro.thn
  cases m g with
  | ok r g1 =>
    dsimp only
    cases vls g1 r with
    | none => rfl
    | some x =>
      dsimp only [oMap]
      cases f x <;> rfl
  | _ => rfl
theorem opNo_at (f : List D → Option (List D)) (m : M (List Rs)) (g : En) : opNo f m g = (m g).thn (c := ⟨fun rs g1 => oRo (oMap (vls g1 rs) (c := ⟨f⟩)) g1⟩) := by
  unfold opNo bnd Ro.thn
  cases m g with
  | ok r g1 =>
    dsimp only
    cases vls g1 r with
    | none => rfl
    | some x =>
      dsimp only [oMap]
      cases f x <;> rfl
  | _ => rfl
theorem vls_nil (g : En) : vls g [] = some [] := Eq.trans rfl rfl
theorem vls_cons (g : En) (r : Rs) (rs : List Rs) : vls g (r :: rs) = oMap (vl g r) (c := ⟨fun x => oMap (vls g rs) (c := ⟨fun xs => some (x :: xs)⟩)⟩) := by
  rw [vls]
  unfold oMap
  cases vl g r with
  | none => rfl
  | some x => cases vls g rs <;> rfl
theorem cutR_at (m : M Rs) (a b : M (Option Int)) (g : En) : cutR m a b g = (m g).thn (c := ⟨fun r g1 => (a g1).thn (c := ⟨fun lo g2 => (b g2).thn (c := ⟨fun hi g3 => oRo (oMap (vl g3 r) (c := ⟨fun x => match fCutT x lo hi with
    | some z => some (Rt.d z)
    | none => match fCutL x lo hi with
      | some zs => some (Rt.own zs)
      | none => none⟩)) g3⟩)⟩)⟩) := by
  unfold cutR bnd Ro.thn
  cases m g with
  | ok r g1 =>
    dsimp only
    cases a g1 with
    | ok lo g2 =>
      dsimp only
      cases b g2 with
      | ok hi g3 =>
        dsimp only
        cases vl g3 r with
        | none => rfl
        | some x =>
          dsimp only [oMap]
          cases fCutT x lo hi with
          | some z => rfl
          | none => cases fCutL x lo hi <;> rfl
      | _ => rfl
    | _ => rfl
  | _ => rfl
theorem oNone_at (g : En) : oNone g = .ok none g := Eq.trans rfl rfl
theorem oSome_at (m : M D) (g : En) : oSome m g = (m g).thn (c := ⟨fun x g1 => match x with
    | .int i => .ok (some i) g1
    | _ => .bad⟩) := by
  unfold oSome bnd Ro.thn
  cases m g with
  | ok x g1 => cases x <;> rfl
  | _ => rfl
theorem dTup_at (m : M (List D)) (g : En) : dTup m g = (m g).thn (c := ⟨fun xs g1 => bdz xs.length (.ok (.tuple xs) g1)⟩) := by
  unfold dTup bnd Ro.thn bdz
  cases m g with
  | ok x g1 =>
    dsimp only
    split <;> rfl
  | _ => rfl
theorem dLst_at (m : M (List D)) (g : En) : dLst m g = (m g).thn (c := ⟨fun xs g1 => bdz xs.length (.ok xs g1)⟩) := by
  unfold dLst bnd Ro.thn bdz
  cases m g with
  | ok x g1 =>
    dsimp only
    split <;> rfl
  | _ => rfl
def boolD : D → Option Bool
  | .bool b => some b
  | _ => none
theorem dB_at (m : M D) (g : En) : dB m g = (m g).thn (c := ⟨fun x g1 => oRo (boolD x) g1⟩) := by
  unfold dB bnd Ro.thn
  cases m g with
  | ok x g1 => cases x <;> rfl
  | _ => rfl
theorem boolD_b (b : Bool) : boolD (.bool b) = some b := Eq.trans rfl rfl
theorem dNot_at (m : M Bool) (g : En) : dNot m g = (m g).thn (c := ⟨fun b g1 => .ok (!b) g1⟩) := Eq.trans rfl rfl
theorem dAnd_at (m n : M Bool) (g : En) : dAnd m n g = (m g).thn (c := ⟨fun b g1 => brn b n (rt false) g1⟩) := by
  unfold dAnd bnd Ro.thn brn
  cases m g with
  | ok b g1 => cases b <;> rfl
  | _ => rfl
theorem dOr_at (m n : M Bool) (g : En) : dOr m n g = (m g).thn (c := ⟨fun b g1 => brn b (rt true) n g1⟩) := by
  unfold dOr bnd Ro.thn brn
  cases m g with
  | ok b g1 => cases b <;> rfl
  | _ => rfl
theorem dIfE_at (t : M Bool) (m n : M D) (g : En) : dIfE t m n g = (t g).thn (c := ⟨fun b g1 => brn b m n g1⟩) := by
  unfold dIfE bnd Ro.thn brn
  cases t g with
  | ok b g1 => cases b <;> rfl
  | _ => rfl
theorem dAndV_at (m n : M D) (g : En) : dAndV m n g = (m g).thn (c := ⟨fun x g1 => (oRo (boolD x) g1).thn (c := ⟨fun b g2 => brn b n (rt x) g2⟩)⟩) := by
  unfold dAndV bnd Ro.thn brn
  cases m g with
  | ok x g1 =>
    cases x with
    | bool b => cases b <;> rfl
    | _ => rfl
  | _ => rfl
theorem dOrV_at (m n : M D) (g : En) : dOrV m n g = (m g).thn (c := ⟨fun x g1 => (oRo (boolD x) g1).thn (c := ⟨fun b g2 => brn b (rt x) n g2⟩)⟩) := by
  unfold dOrV bnd Ro.thn brn
  cases m g with
  | ok x g1 =>
    cases x with
    | bool b => cases b <;> rfl
    | _ => rfl
  | _ => rfl
theorem dNotV_at (m : M D) (g : En) : dNotV m g = (m g).thn (c := ⟨fun x g1 => (oRo (boolD x) g1).thn (c := ⟨fun b g2 => .ok (.bool (!b)) g2⟩)⟩) := by
  unfold dNotV bnd Ro.thn
  cases m g with
  | ok x g1 => cases x <;> rfl
  | _ => rfl

def dsq (r : Ro Fl) (b : M Fl) : Ro Fl := match r with
  | .ok .nx g => b g
  | o => o
theorem dSeq_at (a b : M Fl) (g : En) : dSeq a b g = dsq (a g) b := by
  unfold dSeq dsq
  cases a g with
  | ok f g1 => cases f <;> rfl
  | _ => rfl
theorem dsq_nx (g : En) (b : M Fl) : dsq (.ok .nx g) b = b g := Eq.trans rfl rfl
theorem dsq_rt (r : Rt) (g : En) (b : M Fl) : dsq (.ok (.rt r) g) b = .ok (.rt r) g := Eq.trans rfl rfl
theorem dsq_bk (g : En) (b : M Fl) : dsq (.ok .bk g) b = .ok .bk g := Eq.trans rfl rfl
theorem dsq_ct (g : En) (b : M Fl) : dsq (.ok .ct g) b = .ok .ct g := Eq.trans rfl rfl
theorem dsq_ex (c : Str) (x : D) (g : En) (b : M Fl) : dsq (.ex c x g) b = .ex c x g := Eq.trans rfl rfl
theorem sNx_at (g : En) : sNx g = .ok .nx g := Eq.trans rfl rfl
theorem sBk_at (g : En) : sBk g = .ok .bk g := Eq.trans rfl rfl
theorem sCt_at (g : En) : sCt g = .ok .ct g := Eq.trans rfl rfl
theorem sExpr_at (m : M D) (g : En) : sExpr m g = (m g).thn (c := ⟨fun _ g1 => .ok .nx g1⟩) := Eq.trans rfl rfl
theorem sRet_at (m : M D) (g : En) : sRet m g = (m g).thn (c := ⟨fun x g1 => .ok (.rt (.d x)) g1⟩) := Eq.trans rfl rfl
theorem sRetO_at (m : M (List D)) (g : En) : sRetO m g = (m g).thn (c := ⟨fun x g1 => .ok (.rt (.own x)) g1⟩) := Eq.trans rfl rfl
theorem sRetN_at (g : En) : sRetN g = .ok (.rt (.d .none)) g := Eq.trans rfl rfl
def retS (i : Nat) (o : Option SV) (g : En) : Ro Fl := match o with
  | some (.own false xs) => .ok (.rt (.own xs)) (g.set i .u)
  | some (.d x) => .ok (.rt (.d x)) g
  | _ => .bad
theorem sRetV_at (i : Nat) (g : En) : sRetV i g = retS i g[i]? g := Eq.trans rfl rfl
theorem retS_d (i : Nat) (x : D) (g : En) : retS i (some (.d x)) g = .ok (.rt (.d x)) g := Eq.trans rfl rfl
theorem retS_o (i : Nat) (xs : List D) (g : En) : retS i (some (.own false xs)) g = .ok (.rt (.own xs)) (g.set i .u) := Eq.trans rfl rfl
theorem sSet_at (i : Nat) (m : M D) (g : En) : sSet i m g = (m g).thn (c := ⟨fun x g1 => .ok .nx (g1.set i (.d x))⟩) := Eq.trans rfl rfl
theorem sSetO_at (i : Nat) (m : M (List D)) (g : En) : sSetO i m g = (m g).thn (c := ⟨fun x g1 => .ok .nx (g1.set i (.own false x))⟩) := Eq.trans rfl rfl
theorem sIf_at (t : M Bool) (a b : M Fl) (g : En) : sIf t a b g = (t g).thn (c := ⟨fun k g1 => brn k a b g1⟩) := by
  unfold sIf bnd Ro.thn brn
  cases t g with
  | ok b g1 => cases b <;> rfl
  | _ => rfl
def ownV (o : Option SV) : Option (Bool × List D) := match o with
  | some (.own b xs) => some (b, xs)
  | _ => none
theorem ownV_o (b : Bool) (xs : List D) : ownV (some (.own b xs)) = some (b, xs) := Eq.trans rfl rfl
def subS (i : Nat) (y : D) (o : Option (Bool × List D)) (v : Option D) (g : En) : Ro Fl := match o, v with
  | some (b, xs), some (.int n) => match ixN xs.length n with
    | some j => .ok .nx (g.set i (.own b (xs.set j y)))
    | none => .bad
  | _, _ => .bad
theorem subS_at (i : Nat) (y : D) (b : Bool) (xs : List D) (n : Int) (g : En) (j : Nat) (h : ixN xs.length n = some j) : subS i y (some (b, xs)) (some (.int n)) g = .ok .nx (g.set i (.own b (xs.set j y))) := by
  unfold subS
  dsimp only
  rw [h]
/-- the list is there -/
class MCont (α : Type) where
  k : M α
def chk {α : Type} (o : Option (Bool × List D)) [c : MCont α] (g : En) : Ro α := match o with
  | some _ => c.k g
  | none => .bad
theorem chk_some {α : Type} (p : Bool × List D) (f : M α) (g : En) : chk (some p) (c := ⟨f⟩) g = f g := Eq.trans rfl rfl
theorem sSub_at (i : Nat) (m : M D) (k : M Rs) (g : En) : sSub i m k g = (m g).thn (c := ⟨fun y g1 => chk (ownV g1[i]?) (c := ⟨fun g1 => (k g1).thn (c := ⟨fun s g2 => subS i y (ownV g2[i]?) (vl g2 s) g2⟩)⟩) g1⟩) := by
  unfold sSub
  rw [bnd_at]
  unfold Ro.thn
  cases m g with
  | ok y g1 =>
    dsimp only
    unfold chk ownV
    cases g1[i]? with
    | none => rfl
    | some sv =>
      cases sv with
      | own b0 xs0 =>
        dsimp only
        unfold bnd
        cases k g1 with
        | ok s g2 =>
          dsimp only
          unfold subS
          cases g2[i]? with
          | none => rfl
          | some sv =>
            cases sv with
            | own b xs =>
              dsimp only
              cases vl g2 s with
              | none => rfl
              | some x => cases x <;> rfl
            | _ => rfl
        | _ => rfl
      | _ => rfl
  | _ => rfl
def mutS (i : Nat) (b : Bool) (o : Option (List D × D)) (g : En) : Ro D := match o with
  | some (ys, r) => .ok r (g.set i (.own b ys))
  | none => .bad
theorem mutS_some (i : Nat) (b : Bool) (ys : List D) (r : D) (g : En) : mutS i b (some (ys, r)) g = .ok r (g.set i (.own b ys)) := Eq.trans rfl rfl
def mutP (f : List D → Option (List D × D)) (i : Nat) (o : Option (Bool × List D)) (g : En) : Ro D := match o with
  | some (b, xs) => mutS i b (f xs) g
  | none => .bad
theorem mutP_some (f : List D → Option (List D × D)) (i : Nat) (b : Bool) (xs : List D) (g : En) : mutP f i (some (b, xs)) g = mutS i b (f xs) g := Eq.trans rfl rfl
theorem dMut_at (i : Nat) (f : List D → List D → Option (List D × D)) (m : M (List D)) (g : En) : dMut i f m g = chk (ownV g[i]?) (c := ⟨fun g => (m g).thn (c := ⟨fun args g' => mutP (fun xs => f xs args) i (ownV g'[i]?) g'⟩)⟩) g := by
  unfold dMut chk ownV
  cases g[i]? with
  | none => rfl
  | some sv =>
    cases sv with
    | own b0 xs0 =>
      dsimp only
      unfold bnd Ro.thn
      cases m g with
      | ok args g' =>
        dsimp only
        unfold mutP mutS
        cases g'[i]? with
        | none => rfl
        | some sv =>
          cases sv with
          | own b xs =>
            dsimp only
            all_goals (cases f xs args <;> rfl)
          | _ => rfl
      | _ => rfl
    | _ => rfl
theorem msNil_at (g : En) : msNil g = .ok [] g := Eq.trans rfl rfl
theorem msD_at (m : M D) (n : M (List Rt)) (g : En) : msD m n g = (m g).thn (c := ⟨fun x g1 => (n g1).thn (c := ⟨fun xs g2 => .ok (.d x :: xs) g2⟩)⟩) := Eq.trans rfl rfl
theorem msO_at (m : M (List D)) (n : M (List Rt)) (g : En) : msO m n g = (m g).thn (c := ⟨fun x g1 => (n g1).thn (c := ⟨fun xs g2 => .ok (.own x :: xs) g2⟩)⟩) := Eq.trans rfl rfl
theorem msR_at (m : M Rt) (n : M (List Rt)) (g : En) : msR m n g = (m g).thn (c := ⟨fun x g1 => (n g1).thn (c := ⟨fun xs g2 => .ok (x :: xs) g2⟩)⟩) := Eq.trans rfl rfl
def gRo (o : Option En) : Ro Fl := match o with
  | some g => .ok .nx g
  | none => .bad
theorem gRo_some (g : En) : gRo (some g) = .ok .nx g := Eq.trans rfl rfl
theorem sPar_at (is : List Nat) (m : M (List Rt)) (g : En) : sPar is m g = (m g).thn (c := ⟨fun rs g1 => gRo (setRs is rs g1)⟩) := Eq.trans rfl rfl
theorem setRs_nil (g : En) : setRs [] [] g = some g := Eq.trans rfl rfl
theorem setRs_d (i : Nat) (is : List Nat) (x : D) (rs : List Rt) (g : En) : setRs (i :: is) (.d x :: rs) g = setRs is rs (g.set i (.d x)) := Eq.trans rfl rfl
theorem setRs_o (i : Nat) (is : List Nat) (x : List D) (rs : List Rt) (g : En) : setRs (i :: is) (.own x :: rs) g = setRs is rs (g.set i (.own false x)) := Eq.trans rfl rfl

theorem callP_at (ks : List Pk) (φ : List D → Out) (m : M (List Rs)) (g : En) : callP ks φ m g = (m g).thn (c := ⟨fun rs g1 => callM ks φ rs g1⟩) := Eq.trans rfl rfl
theorem callK_at (ks : List Pk) (φ : List D → Out) (pm : List Nat) (m n : M (List Rs)) (g : En) : callK ks φ pm m n g = (m g).thn (c := ⟨fun rs g1 => (n g1).thn (c := ⟨fun rs' g2 => callM ks φ (pick pm (rs ++ rs')) g2⟩)⟩) := Eq.trans rfl rfl
def outR (mi : Option Nat) (g : En) (o : Out) : Ro Rt := match o with
  | .bad => .bad
  | .ret r ms => .ok r (putM mi ms g)
  | .ex c x ms => .ex c x (putM mi ms g)
def argO (φ : List D → Out) (o : Option (List D)) : Out := match o with
  | some xs => φ xs
  | none => .bad
theorem argO_some (φ : List D → Out) (xs : List D) : argO φ (some xs) = φ xs := Eq.trans rfl rfl
theorem callM_at (ks : List Pk) (φ : List D → Out) (rs : List Rs) (g : En) : callM ks φ rs g = outR (mIx ks rs) g (argO φ (argD g (mIx ks rs) ks rs)) := by
  unfold callM outR argO
  cases argD g (mIx ks rs) ks rs with
  | none => rfl
  | some xs =>
    dsimp only
    all_goals (cases φ xs <;> rfl)
theorem outR_ret (mi : Option Nat) (g : En) (r : Rt) (ms : List D) : outR mi g (.ret r ms) = .ok r (putM mi ms g) := Eq.trans rfl rfl
theorem outR_ex (mi : Option Nat) (g : En) (c : Str) (x : D) (ms : List D) : outR mi g (.ex c x ms) = .ex c x (putM mi ms g) := Eq.trans rfl rfl
theorem argD_nil (g : En) (mi : Option Nat) : argD g mi [] [] = some [] := Eq.trans rfl rfl
theorem argD_v (g : En) (mi : Option Nat) (ks : List Pk) (x : D) (rs : List Rs) : argD g mi (.v :: ks) (.d x :: rs) = oMap (argD g mi ks rs) (c := ⟨fun xs => some (x :: xs)⟩) := by
  rw [argD]
  unfold oMap
  cases argD g mi ks rs <;> rfl
theorem argD_p (g : En) (mi : Option Nat) (ks : List Pk) (x : D) (rs : List Rs) : argD g mi (.p :: ks) (.d x :: rs) = oMap (argD g mi ks rs) (c := ⟨fun xs => some (x :: xs)⟩) := by
  rw [argD]
  unfold oMap
  cases argD g mi ks rs <;> rfl
theorem argD_vs (g : En) (mi : Option Nat) (ks : List Pk) (i : Nat) (rs : List Rs) (h : mi ≠ some i) : argD g mi (.v :: ks) (.sl i :: rs) = oMap (argD g mi ks rs) (c := ⟨fun xs => oMap (slV g[i]?) (c := ⟨fun x => some (x :: xs)⟩)⟩) := by
  rw [argD]
  unfold oMap
  cases argD g mi ks rs with
  | none => rfl
  | some xs =>
    dsimp only
    rw [if_neg h, vl_s]
    cases slV g[i]? <;> rfl
theorem argD_m (g : En) (ks : List Pk) (i : Nat) (rs : List Rs) : argD g (some i) (.m :: ks) (.sl i :: rs) = oMap (argD g (some i) ks rs) (c := ⟨fun xs => oMap (ownV g[i]?) (c := ⟨fun p => some (.list p.2 :: xs)⟩)⟩) := by
  rw [argD]
  unfold oMap ownV
  cases argD g (some i) ks rs with
  | none => rfl
  | some xs =>
    dsimp only
    cases g[i]? with
    | none => rfl
    | some sv =>
      cases sv with
      | own b ys =>
        dsimp only
        rw [if_pos rfl]
      | _ => rfl
theorem mIx_m (ks : List Pk) (i : Nat) (rs : List Rs) : mIx (.m :: ks) (.sl i :: rs) = some i := Eq.trans rfl rfl
theorem mIx_v (ks : List Pk) (r : Rs) (rs : List Rs) : mIx (.v :: ks) (r :: rs) = mIx ks rs := by cases r <;> rfl
theorem mIx_p (ks : List Pk) (r : Rs) (rs : List Rs) : mIx (.p :: ks) (r :: rs) = mIx ks rs := by cases r <;> rfl
theorem mIx_nil (rs : List Rs) : mIx [] rs = none := by
  unfold mIx
  rfl
theorem putM_none (ms : List D) (g : En) : putM none ms g = g := Eq.trans rfl rfl
def putO (i : Nat) (ms : List D) (g : En) (o : Option SV) : En := match o with
  | some (.own b _) => g.set i (.own b ms)
  | _ => g
theorem putM_some (i : Nat) (ms : List D) (g : En) : putM (some i) ms g = putO i ms g g[i]? := Eq.trans rfl rfl
theorem putO_o (i : Nat) (ms : List D) (g : En) (b : Bool) (xs : List D) : putO i ms g (some (.own b xs)) = g.set i (.own b ms) := Eq.trans rfl rfl
theorem call1_at (φ : List D → Out) (m : M (List D)) (g : En) : call1 φ m g = (m g).thn (c := ⟨fun xs g1 => outR none g1 (φ [.list xs])⟩) := by
  unfold call1 bnd Ro.thn outR
  cases m g with
  | ok xs g1 =>
    dsimp only
    cases φ [.list xs] <;> rfl
  | _ => rfl
theorem rD_at (m : M Rt) (g : En) : rD m g = (m g).thn (c := ⟨fun r g1 => rtD r g1⟩) := Eq.trans rfl rfl
theorem rtD_d (x : D) (g : En) : rtD (.d x) g = .ok x g := Eq.trans rfl rfl
theorem rtD_o (x : List D) (g : En) : rtD (.own x) g = .ok (.list x) g := Eq.trans rfl rfl
theorem rO_at (m : M Rt) (g : En) : rO m g = (m g).thn (c := ⟨fun r g1 => rtO r g1⟩) := Eq.trans rfl rfl
theorem rtO_o (x : List D) (g : En) : rtO (.own x) g = .ok x g := Eq.trans rfl rfl
theorem sExprR_at (m : M Rt) (g : En) : sExprR m g = (m g).thn (c := ⟨fun _ g1 => .ok .nx g1⟩) := Eq.trans rfl rfl
theorem sRetR_at (m : M Rt) (g : En) : sRetR m g = (m g).thn (c := ⟨fun r g1 => .ok (.rt r) g1⟩) := Eq.trans rfl rfl
def setS (i : Nat) (g : En) (r : Rt) : Ro Fl := match r with
  | .d x => .ok .nx (g.set i (.d x))
  | .own xs => .ok .nx (g.set i (.own false xs))
theorem sSetR_at (i : Nat) (m : M Rt) (g : En) : sSetR i m g = (m g).thn (c := ⟨fun r g1 => setS i g1 r⟩) := by
  unfold sSetR bnd Ro.thn setS
  cases m g with
  | ok r g1 => cases r <;> rfl
  | _ => rfl
theorem setS_d (i : Nat) (g : En) (x : D) : setS i g (.d x) = .ok .nx (g.set i (.d x)) := Eq.trans rfl rfl
theorem setS_o (i : Nat) (g : En) (x : List D) : setS i g (.own x) = .ok .nx (g.set i (.own false x)) := Eq.trans rfl rfl
def outF (ks : List Pk) (r : Ro Fl) : Out := match r with
  | .ok .nx g => outM ks (.d .none) g
  | .ok (.rt r) g => outM ks r g
  | .ex c x g => match muOf ks g with
    | some ms => .ex c x ms
    | none => .bad
  | _ => .bad
theorem runF_at (n : Nat) (ks : List Pk) (b : M Fl) (xs : List D) : runF n ks b xs = outF ks (b (start0 n ks xs)) := by
  unfold runF outF
  cases b (start0 n ks xs) with
  | ok f g => cases f <;> rfl
  | _ => rfl
def mOut (o : Option (List D)) (r : Rt) : Out := match o with
  | some ms => .ret r ms
  | none => .bad
theorem outF_nx (ks : List Pk) (g : En) : outF ks (.ok .nx g) = mOut (muOf ks g) (.d .none) := Eq.trans rfl rfl
theorem outF_rt (ks : List Pk) (r : Rt) (g : En) : outF ks (.ok (.rt r) g) = mOut (muOf ks g) r := Eq.trans rfl rfl
theorem mOut_some (ms : List D) (r : Rt) : mOut (some ms) r = .ret r ms := Eq.trans rfl rfl
theorem muOf_nil (g : En) : muOf [] g = some [] := by
  unfold muOf
  rfl
theorem muOf_m (ks : List Pk) (ms : List D) (g : En) : muOf (.m :: ks) (.own true ms :: g) = some ms := Eq.trans rfl rfl
theorem muOf_v (ks : List Pk) (sv : SV) (g : En) : muOf (.v :: ks) (sv :: g) = muOf ks g := Eq.trans rfl rfl
theorem muOf_p (ks : List Pk) (sv : SV) (g : En) : muOf (.p :: ks) (sv :: g) = muOf ks g := Eq.trans rfl rfl

theorem mixR_at (m : M D) (n : M (List D)) (g : En) : mixR m n g = match m g with
  | .ok x g' => .ok (.d x) g'
  | .ex c x g' => .ex c x g'
  | .bad => (n g).thn (c := ⟨fun xs g' => .ok (.own xs) g'⟩) := by
  unfold mixR Ro.thn
  cases m g with
  | bad => cases n g <;> rfl
  | _ => rfl
theorem dChain_at (f h : D → D → Option D) (m n o : M Rs) (g : En) : dChain f h m n o g = (m g).thn (c := ⟨fun r g1 => (n g1).thn (c := ⟨fun s g2 => (oRo (oMap (vl g2 r) (c := ⟨fun x => oMap (vl g2 s) (c := ⟨fun y => oMap (f x y) (c := ⟨boolD⟩)⟩)⟩)) g2).thn (c := ⟨fun k g3 => brn k (fun g3 => (o g3).thn (c := ⟨fun t g4 => oRo (oMap (vl g4 s) (c := ⟨fun y' => oMap (vl g4 t) (c := ⟨fun z => h y' z⟩)⟩)) g4⟩)) (rt (.bool false)) g3⟩)⟩)⟩) := by
  unfold dChain bnd Ro.thn
  cases m g with
  | ok r g1 =>
    dsimp only
    cases n g1 with
    | ok s g2 =>
      dsimp only
      cases vl g2 r with
      | none => rfl
      | some x =>
        cases vl g2 s with
        | none => rfl
        | some y =>
          dsimp only [oMap]
          cases f x y with
          | none => rfl
          | some w =>
            cases w with
            | bool k =>
              dsimp only [boolD, oRo]
              cases k with
              | false => rfl
              | true =>
                unfold brn
                rw [if_pos rfl, if_pos rfl]
                dsimp only
                cases o g2 with
                | ok t g4 =>
                  dsimp only
                  cases vl g4 s with
                  | none => rfl
                  | some y' =>
                    cases vl g4 t with
                    | none => rfl
                    | some z =>
                      dsimp only
                      cases h y' z <;> rfl
                | _ => rfl
            | _ => rfl
    | _ => rfl
  | _ => rfl
theorem dRep_at (m : M (List D)) (n : M Rs) (g : En) : dRep m n g = (m g).thn (c := ⟨fun xs g1 => (n g1).thn (c := ⟨fun s g2 => oRo (oMap (vl g2 s) (c := ⟨fun y => fRep xs y⟩)) g2⟩)⟩) := by
  unfold dRep bnd Ro.thn
  cases m g with
  | ok xs g1 =>
    dsimp only
    cases n g1 with
    | ok s g2 =>
      dsimp only
      cases vl g2 s with
      | none => rfl
      | some y =>
        dsimp only [oMap]
        cases fRep xs y <;> rfl
    | _ => rfl
  | _ => rfl
def intD : D → Option Int
  | .int i => some i
  | _ => none
theorem intD_i (i : Int) : intD (.int i) = some i := Eq.trans rfl rfl
theorem rg1_at (m : M Rs) (g : En) : rg1 m g = (m g).thn (c := ⟨fun r g1 => oRo (oMap (vl g1 r) (c := ⟨fun x => oMap (intD x) (c := ⟨fun i => some (0, i)⟩)⟩)) g1⟩) := by
  unfold rg1 bnd Ro.thn
  cases m g with
  | ok r g1 =>
    dsimp only
    cases vl g1 r with
    | none => rfl
    | some x => cases x <;> rfl
  | _ => rfl
theorem rg2_at (m n : M Rs) (g : En) : rg2 m n g = (m g).thn (c := ⟨fun r g1 => (n g1).thn (c := ⟨fun s g2 => oRo (oMap (vl g2 r) (c := ⟨fun x => oMap (vl g2 s) (c := ⟨fun y => oMap (intD x) (c := ⟨fun i => oMap (intD y) (c := ⟨fun j => some (i, j)⟩)⟩)⟩)⟩)) g2⟩)⟩) := by
  unfold rg2 bnd Ro.thn
  cases m g with
  | ok r g1 =>
    dsimp only
    cases n g1 with
    | ok s g2 =>
      dsimp only
      cases vl g2 r with
      | none => rfl
      | some x =>
        cases vl g2 s with
        | none => cases x <;> rfl
        | some y => cases x <;> cases y <;> rfl
    | _ => rfl
  | _ => rfl
theorem dIndexT_at (m n : M Rs) (g : En) : dIndexT m n g = (m g).thn (c := ⟨fun r g1 => match vl g1 r with
  | some (.tuple _) => op2 fIxT (rt r) n g1
  | _ => .bad⟩) := rfl

def seqS (i : Nat) (o : Option SV) (g : En) : Ro (List D) := match o with
  | some (.d x) => oRo (seqD x) g
  | some (.a xs) => .ok xs g
  | some (.own false xs) => .ok xs (g.set i (.d (.list xs)))
  | _ => .bad
theorem seqS_d (i : Nat) (x : D) (g : En) : seqS i (some (.d x)) g = oRo (seqD x) g := Eq.trans rfl rfl
theorem seqS_a (i : Nat) (x : List D) (g : En) : seqS i (some (.a x)) g = .ok x g := Eq.trans rfl rfl
theorem seqS_o (i : Nat) (x : List D) (g : En) : seqS i (some (.own false x)) g = .ok x (g.set i (.d (.list x))) := Eq.trans rfl rfl
theorem seqD_l (xs : List D) : seqD (.list xs) = some xs := Eq.trans rfl rfl
theorem seqD_t (xs : List D) : seqD (.tuple xs) = some xs := Eq.trans rfl rfl
theorem itR_d (x : D) (g : En) : itR (.d x) g = oRo (seqD x) g := by
  unfold itR oRo
  dsimp only
  cases seqD x <;> rfl
theorem itR_s (i : Nat) (g : En) : itR (.sl i) g = seqS i g[i]? g := by
  unfold itR seqS
  dsimp only
  cases g[i]? with
  | none => rfl
  | some sv =>
    cases sv with
    | d x =>
      dsimp only
      cases seqD x <;> rfl
    | own b xs => cases b <;> rfl
    | _ => rfl
theorem iV_at (m : M Rs) (g : En) : iV m g = (m g).thn (c := ⟨fun r g1 => itR r g1⟩) := Eq.trans rfl rfl
theorem iO_at (m : M (List D)) (g : En) : iO m g = m g := Eq.trans rfl rfl
theorem iEnV_at (m : M Rs) (g : En) : iEnV m g = (m g).thn (c := ⟨fun r g1 => (itR r g1).thn (c := ⟨fun xs g2 => .ok (enumD 0 xs) g2⟩)⟩) := Eq.trans rfl rfl
theorem iEnO_at (m : M (List D)) (g : En) : iEnO m g = (m g).thn (c := ⟨fun xs g2 => .ok (enumD 0 xs) g2⟩) := Eq.trans rfl rfl
theorem sFor_at (t : Tg) (ms : List Nat) (mi : M (List D)) (b : M Fl) (g : En) : sFor t ms mi b g = (mi g).thn (c := ⟨fun xs g1 => forG t ms b xs g1⟩) := Eq.trans rfl rfl
theorem compL_at (vs : List Nat) (t : Tg) (mi : M (List D)) (mt : M Bool) (me : M D) (g : En) : compL vs t mi mt me g = (mi g).thn (c := ⟨fun xs g1 => compB vs t mt me xs g1⟩) := Eq.trans rfl rfl

theorem forG_inv {t : Tg} {ms : List Nat} {b : M Fl} : ∀ (xs : List D) (P : List D → En → Prop) (g : En), P xs g → (∀ x r g, P (x :: r) g → (x :: r) <:+ xs → ∃ g1 g2, setT t x g = some g1 ∧ (b g1 = .ok .nx g2 ∨ b g1 = .ok .ct g2) ∧ P r (fgt ms g2)) → ∃ g', forG t ms b xs g = .ok .nx (fgt ms g') ∧ P [] g' := by
  intro xs P
  have key : ∀ (r : List D) (g : En), P r g → r <:+ xs → (∀ x r g, P (x :: r) g → (x :: r) <:+ xs → ∃ g1 g2, setT t x g = some g1 ∧ (b g1 = .ok .nx g2 ∨ b g1 = .ok .ct g2) ∧ P r (fgt ms g2)) → ∃ g', forG t ms b r g = .ok .nx (fgt ms g') ∧ P [] g' := by
    intro r
    induction r with
    | nil => exact fun g h _ _ => ⟨g, rfl, h⟩
    | cons x r ih =>
      intro g h hs step
      obtain ⟨g1, g2, h1, h2, h3⟩ := step x r g h hs
      obtain ⟨g', h4, h5⟩ := ih (fgt ms g2) h3 (List.IsSuffix.trans (List.suffix_cons x r) hs) step
      refine ⟨g', ?_, h5⟩
      rw [forG, h1]
      dsimp only
      rcases h2 with h2 | h2
      · rw [h2]
        exact h4
      · rw [h2]
        exact h4
  exact fun g h step => key xs g h (List.suffix_refl _) step
theorem compG_ok {β : Type} {vs : List Nat} {t : Tg} {mt : M Bool} {me : M D} {enc f : β → D} {p : β → Bool} {g : En} : ∀ (l : List β) (ys : List D),
    (∀ x ∈ l, ∃ g1, setT t (enc x) g = some g1 ∧ mt g1 = .ok (p x) g1 ∧ (p x = true → me g1 = .ok (f x) g1) ∧ wipG g1 vs = g) → compG vs t mt me (l.map enc) ys g = .ok (ys ++ (l.filter p).map f) g
  | [], ys, _ => by
    show Ro.ok ys g = Ro.ok (ys ++ []) g
    rw [List.append_nil]
  | x :: l, ys, h => by
    obtain ⟨g1, h1, h2, h3, h4⟩ := h x List.mem_cons_self
    have ih := compG_ok (vs := vs) (t := t) (mt := mt) (me := me) (enc := enc) (f := f) (p := p) (g := g) l
    rw [List.map_cons, compG, h1]
    dsimp only
    rw [h2]
    cases hp : p x with
    | true =>
      dsimp only
      rw [h3 hp]
      dsimp only
      rw [h4, ih (ys ++ [f x]) (fun y hy => h y (List.mem_cons_of_mem _ hy)), List.filter_cons_of_pos hp, List.map_cons, List.append_assoc]
      rfl
    | false =>
      dsimp only
      rw [h4, ih ys (fun y hy => h y (List.mem_cons_of_mem _ hy)), List.filter_cons_of_neg (by rw [hp]; exact Bool.false_ne_true)]
theorem wipG_out {g : En} {i : Nat} : ∀ {vs : List Nat}, i ∉ vs → (wipG g vs)[i]? = g[i]?
  | [], _ => rfl
  | v :: vs, h => by
    have h1 : v ≠ i := fun e => h (by rw [e]; exact List.mem_cons_self)
    unfold wipG
    rw [List.getElem?_set_ne h1]
    exact wipG_out fun m => h (List.mem_cons_of_mem _ m)
theorem rst_wip {g : En} : ∀ {vs : List Nat}, rstG g (wipG g vs) vs = g := fun {vs} => List.ext_getElem? fun i => by
  by_cases h : i ∈ vs
  · exact rstG_in wipG_len h
  · rw [rstG_out h, wipG_out h]
theorem compB_ok {β : Type} {vs : List Nat} {t : Tg} {mt : M Bool} {me : M D} {enc f : β → D} {p : β → Bool} {g : En} (l : List β) (hz : l.length ≤ sizeLine) (hn : noOwn g vs = true)
    (h : ∀ x ∈ l, ∃ g1, setT t (enc x) (wipG g vs) = some g1 ∧ mt g1 = .ok (p x) g1 ∧ (p x = true → me g1 = .ok (f x) g1) ∧ wipG g1 vs = wipG g vs) : compB vs t mt me (l.map enc) g = .ok ((l.filter p).map f) g := by
  unfold compB
  rw [if_pos ⟨by rw [List.length_map]; exact hz, hn⟩, compG_ok (p := p) (f := f) l [] h]
  show Ro.ok _ (rstG g (wipG g vs) vs) = _
  rw [rst_wip, List.nil_append]
end Z

set_option Elab.async false
set_option linter.all false
set_option maxRecDepth 100000
set_option autoImplicit false
set_option maxHeartbeats 1000000
namespace Z
open PySem PySem.Spec PyProof.Rows L2

theorem fAdd_i (i j : Int) : fAdd (.int i) (.int j) = some (.int (i + j)) := Eq.trans rfl rfl
theorem fSub_i (i j : Int) : fSub (.int i) (.int j) = some (.int (i - j)) := Eq.trans rfl rfl
theorem fLt_i (i j : Int) : fLt (.int i) (.int j) = some (.bool (decide (i < j))) := Eq.trans rfl rfl
theorem fLe_i (i j : Int) : fLe (.int i) (.int j) = some (.bool (decide (i ≤ j))) := Eq.trans rfl rfl
theorem fGt_i (i j : Int) : fGt (.int i) (.int j) = some (.bool (decide (j < i))) := Eq.trans rfl rfl
theorem fGe_i (i j : Int) : fGe (.int i) (.int j) = some (.bool (decide (j ≤ i))) := Eq.trans rfl rfl
theorem fMod_i (i j : Int) (h : 0 < j) : fMod (.int i) (.int j) = some (.int (i % j)) := if_pos h
theorem fDiv_i (i j : Int) (h : 0 < j) (h2 : j < 1073741824) : fDiv (.int i) (.int j) = some (.int (i / j)) := by
  unfold fDiv
  dsimp only
  rw [if_pos (by unfold okDiv; rw [decide_eq_true h, decide_eq_true h2]; rfl)]
theorem fDiv_33 (i : Int) : fDiv (.int i) (.int 8589934592) = some (.int (i / 8589934592)) := Eq.trans rfl rfl
theorem fMul_r (i j : Int) (h : j.natAbs < 18446744073709551616) : fMul (.int i) (.int j) = some (.int (i * j)) := by
  unfold fMul
  dsimp only
  rw [if_pos (by unfold okMul; rw [decide_eq_true h, Bool.or_true, Bool.true_or])]
theorem fMul_l (i j : Int) (h : i.natAbs < 18446744073709551616) : fMul (.int i) (.int j) = some (.int (i * j)) := by
  unfold fMul
  dsimp only
  rw [if_pos (by unfold okMul; rw [decide_eq_true h, Bool.true_or, Bool.true_or])]
theorem fMul_take (i : Int) : fMul (.int i) (.int 6364136223846793005) = some (.int (i * 6364136223846793005)) := fMul_r i _ (by decide)
theorem fMul_7919 (i : Int) : fMul (.int 7919) (.int i) = some (.int (7919 * i)) := fMul_l _ i (by decide)
theorem fMul_31 (i : Int) : fMul (.int 31) (.int i) = some (.int (31 * i)) := fMul_l _ i (by decide)
theorem fPow_64 : fPow (.int 2) (.int 64) = some (.int 18446744073709551616) := Eq.trans rfl rfl
theorem fPow_33 : fPow (.int 2) (.int 33) = some (.int 8589934592) := Eq.trans rfl rfl
theorem fPow_18 : fPow (.int 10) (.int 18) = some (.int 1000000000000000000) := Eq.trans rfl rfl
theorem fNeg_i (i : Int) : fNeg (.int i) = some (.int (-i)) := Eq.trans rfl rfl
theorem fLen_l (xs : List D) : fLen [.list xs] = some (.int xs.length) := Eq.trans rfl rfl
theorem fLen_t (xs : List D) : fLen [.tuple xs] = some (.int xs.length) := Eq.trans rfl rfl
theorem fInt_i (i : Int) : fInt [.int i] = some (.int i) := Eq.trans rfl rfl
theorem fTuple_l (xs : List D) : fTuple [.list xs] = some (.tuple xs) := Eq.trans rfl rfl
theorem fList_l (xs : List D) : fList [.list xs] = some xs := Eq.trans rfl rfl
theorem fMax_2 (i j : Int) : fMax [.int i, .int j] = some (.int (if j > i then j else i)) := Eq.trans rfl rfl
theorem fMin_2 (i j : Int) : fMin [.int i, .int j] = some (.int (if j < i then j else i)) := Eq.trans rfl rfl
theorem ixN_nat {n i : Nat} (h : i < n) : ixN n (i : Int) = some i := by
  unfold ixN
  rw [if_pos (Int.natCast_nonneg i), if_pos (Int.ofNat_lt.mpr h), Int.toNat_natCast]
theorem atI_of {xs : List D} {i : Nat} {x : D} (h : xs[i]? = some x) : atI xs (i : Int) = some x := by
  unfold atI
  rw [ixN_nat (List.getElem?_eq_some_iff.mp h).1]
  exact h
theorem fIx_l {xs : List D} {i : Nat} {x : D} (h : xs[i]? = some x) : fIx (.list xs) (.int (i : Int)) = some x := atI_of h
theorem fIx_t {xs : List D} {i : Nat} {x : D} (h : xs[i]? = some x) : fIx (.tuple xs) (.int (i : Int)) = some x := atI_of h
theorem fIx_l0 (x : D) (xs : List D) : fIx (.list (x :: xs)) (.int 0) = some x := fIx_l (i := 0) rfl
theorem fIx_l1 (x y : D) (xs : List D) : fIx (.list (x :: y :: xs)) (.int 1) = some y := fIx_l (i := 1) rfl
theorem fIx_l2 (x y z : D) (xs : List D) : fIx (.list (x :: y :: z :: xs)) (.int 2) = some z := fIx_l (i := 2) rfl
theorem subS0 (i : Nat) (y : D) (b : Bool) (x : D) (xs : List D) (g : En) : subS i y (some (b, x :: xs)) (some (.int 0)) g = .ok .nx (g.set i (.own b (y :: xs))) := subS_at i y b (x :: xs) 0 g 0 (ixN_nat (i := 0) (Nat.succ_pos _))
theorem subS1 (i : Nat) (y : D) (b : Bool) (x z : D) (xs : List D) (g : En) : subS i y (some (b, x :: z :: xs)) (some (.int 1)) g = .ok .nx (g.set i (.own b (x :: y :: xs))) := subS_at i y b (x :: z :: xs) 1 g 1 (ixN_nat (i := 1) (by simp))

abbrev li (p : List Int) : D := .list (p.map .int)
/-- data without dicts, of few levels -/
def Gd (n : Nat) (d : D) : Prop := d.canLay0 = true ∧ d.depth ≤ n
theorem gd_int (n : Nat) (i : Int) : Gd n (.int i) := ⟨rfl, Nat.zero_le _⟩
theorem gd_bool (n : Nat) (i : Bool) : Gd n (.bool i) := ⟨rfl, Nat.zero_le _⟩
theorem gd_all : ∀ {n : Nat} {xs : List D}, (∀ x ∈ xs, Gd n x) → PyData.canLayAll0 xs = true ∧ PyData.depthAll xs ≤ n
  | _, [], _ => ⟨rfl, Nat.zero_le _⟩
  | n, x :: xs, h => by
    obtain ⟨a, b⟩ := h x List.mem_cons_self
    obtain ⟨c, d⟩ := gd_all (xs := xs) fun y hy => h y (List.mem_cons_of_mem _ hy)
    exact ⟨by show (x.canLay0 && PyData.canLayAll0 xs) = true; rw [a, c]; rfl, Nat.max_le.mpr ⟨b, d⟩⟩
theorem gd_list {n : Nat} {xs : List D} (h : ∀ x ∈ xs, Gd n x) : Gd (n + 1) (.list xs) := by
  obtain ⟨a, b⟩ := gd_all h
  exact ⟨a, Nat.succ_le_succ b⟩
theorem Gd.mono {m n : Nat} {d : D} (h : Gd m d) (l : m ≤ n) : Gd n d := ⟨h.1, Nat.le_trans h.2 l⟩
theorem gd_ints (n : Nat) (p : List Int) : ∀ x ∈ p.map PyData.int, Gd n x := fun x hx => by
  obtain ⟨i, _, rfl⟩ := List.mem_map.mp hx
  exact gd_int n i
theorem gd_li (n : Nat) (p : List Int) : Gd (n + 1) (li p) := gd_list (gd_ints n p)
theorem Gd.shaped {n : Nat} {d : D} (h : Gd n d) (hn : n ≤ 64) : SeqAt.shaped d = true := by
  unfold SeqAt.shaped
  rw [h.1, decide_eq_true (Nat.le_trans h.2 hn)]
  rfl
theorem Gd.eqv {n : Nat} {d : D} (h : Gd n d) : PyData.eqv d d = true := PySem.SeqAt.eqv_refl d h.1
theorem eqvAll_ints : ∀ p q : List Int, PyData.eqvAll (p.map .int) (q.map .int) = decide (p = q)
  | [], [] => rfl
  | [], _ :: _ => rfl
  | _ :: _, [] => rfl
  | x :: p, y :: q => by
    show ((x == y) && PyData.eqvAll (p.map .int) (q.map .int)) = decide (x :: p = y :: q)
    rw [eqvAll_ints p q]
    by_cases h : x = y
    · subst h
      by_cases h2 : p = q
      · subst h2
        simp
      · simp [h2]
    · simp [h]
theorem fEq_gd {n m : Nat} {x y : D} (h : Gd n x) (k : Gd m y) (hn : n ≤ 64) (hm : m ≤ 64) : fEq x y = some (.bool (PyData.eqv x y)) := by
  unfold fEq
  rw [h.shaped hn, k.shaped hm]
  rfl
theorem fNe_gd {n m : Nat} {x y : D} (h : Gd n x) (k : Gd m y) (hn : n ≤ 64) (hm : m ≤ 64) : fNe x y = some (.bool (!PyData.eqv x y)) := by
  unfold fNe
  rw [h.shaped hn, k.shaped hm]
  rfl
theorem fEq_i (i j : Int) : fEq (.int i) (.int j) = some (.bool (decide (i = j))) := by
  rw [fEq_gd (gd_int 0 i) (gd_int 0 j) (by decide) (by decide)]
  show some (PyData.bool (i == j)) = _
  by_cases h : i = j <;> simp [h]
theorem fEq_li (p q : List Int) : fEq (li p) (li q) = some (.bool (decide (p = q))) := by
  rw [fEq_gd (gd_li 0 p) (gd_li 0 q) (by decide) (by decide)]
  show some (PyData.bool (PyData.eqvAll _ _)) = _
  rw [eqvAll_ints]
end Z

set_option Elab.async false
set_option linter.all false
set_option maxRecDepth 100000
set_option autoImplicit false
set_option maxHeartbeats 1000000
namespace Z
open PySem PySem.Spec PyProof.Rows L2

def irange (a : Int) (n : Nat) : List Int := (List.range n).map fun (i : Nat) => a + (i : Int)
theorem irange_len (a : Int) (n : Nat) : (irange a n).length = n := by simp [irange]
theorem irange_zero (a : Int) : irange a 0 = [] := Eq.trans rfl rfl
theorem irange_succ (a : Int) (n : Nat) : irange a (n + 1) = a :: irange (a + 1) n := by
  unfold irange
  rw [List.range_succ_eq_map, List.map_cons, List.map_map]
  congr 1
  · simp
  · apply List.map_congr_left
    intro i _
    simp only [Function.comp, Nat.succ_eq_add_one]
    omega
theorem irange_get (a : Int) (n i : Nat) (h : i < n) : (irange a n)[i]? = some (a + i) := by simp [irange, h]
theorem irange_mem {a : Int} {n : Nat} {x : Int} : x ∈ irange a n ↔ a ≤ x ∧ x < a + n := by
  unfold irange
  rw [List.mem_map]
  constructor
  · rintro ⟨i, hi, rfl⟩
    have := List.mem_range.mp hi
    omega
  · rintro ⟨h1, h2⟩
    exact ⟨(x - a).toNat, List.mem_range.mpr (by omega), by omega⟩
theorem irange_sorted (a : Int) (n : Nat) : (irange a n).Pairwise (· < ·) := by
  unfold irange
  rw [List.pairwise_map]
  exact List.pairwise_lt_range.imp fun {i j} h => by omega
theorem irange_nodup (a : Int) (n : Nat) : (irange a n).Nodup := (irange_sorted a n).imp fun {i j} h => by omega
theorem rngD_irange (a : Int) (n : Nat) : rngD a 1 n = (irange a n).map .int := by
  unfold rngD irange
  rw [List.map_map]
  apply List.map_congr_left
  intro i _
  simp
theorem rgD_irange (a b : Int) : rgD a b = (irange a (b - a).toNat).map .int := by
  unfold rgD irange
  rw [List.map_map]
  rfl

structure IsOrd (p : List Int) : Prop where
  nd : p.Nodup
  lo : ∀ x ∈ p, 1 ≤ x
  hi : ∀ x ∈ p, x ≤ p.length
theorem perm_of_sub {p q : List Int} (hp : p.Nodup) (hq : q.Nodup) (h : ∀ x ∈ p, x ∈ q) (hl : q.length ≤ p.length) : p.Perm q := by
  rw [List.perm_ext_iff_of_nodup hp hq]
  intro a
  refine ⟨h a, fun ha => ?_⟩
  by_cases hn : a ∈ p
  · exact hn
  · have h1 : (a :: p).Nodup := List.nodup_cons.mpr ⟨hn, hp⟩
    have h2 : (a :: p) ⊆ q := fun x hx => by
      rcases List.mem_cons.mp hx with e | e
      · rw [e]; exact ha
      · exact h x e
    have := List.Nodup.length_le_of_subset h1 h2
    rw [List.length_cons] at this
    omega
theorem IsOrd.perm {p : List Int} (h : IsOrd p) : p.Perm (irange 1 p.length) :=
  perm_of_sub h.nd (irange_nodup _ _) (fun x hx => irange_mem.mpr ⟨h.lo x hx, by have := h.hi x hx; omega⟩) (by rw [irange_len]; exact Nat.le_refl _)
theorem IsOrd.mem {p : List Int} (h : IsOrd p) {x : Int} (h1 : 1 ≤ x) (h2 : x ≤ p.length) : x ∈ p := h.perm.mem_iff.mpr (irange_mem.mpr ⟨h1, by omega⟩)
theorem isOrd_nil : IsOrd [] := ⟨List.nodup_nil, fun _ h => (nomatch h), fun _ h => (nomatch h)⟩
theorem isOrd_insert {p : List Int} (h : IsOrd p) (r : Nat) : IsOrd (p.take r ++ [((p.length + 1 : Nat) : Int)] ++ p.drop r) := by
  have hp : (p.take r ++ [((p.length + 1 : Nat) : Int)] ++ p.drop r).Perm (((p.length + 1 : Nat) : Int) :: p) := by
    rw [List.append_assoc, List.singleton_append]
    refine List.perm_middle.trans ?_
    rw [List.take_append_drop]
  have hl : (p.take r ++ [((p.length + 1 : Nat) : Int)] ++ p.drop r).length = p.length + 1 := by rw [hp.length_eq, List.length_cons]
  refine ⟨hp.nodup_iff.mpr (List.nodup_cons.mpr ⟨fun hm => ?_, h.nd⟩), fun x hx => ?_, fun x hx => ?_⟩
  · have := h.hi _ hm
    omega
  · rcases List.mem_cons.mp (hp.mem_iff.mp hx) with e | e
    · omega
    · exact h.lo x e
  · rw [hl]
    rcases List.mem_cons.mp (hp.mem_iff.mp hx) with e | e
    · omega
    · have := h.hi x e
      omega
theorem setT_nm (i : Nat) (x : D) (g : En) : setT (.nm i) x g = some (g.set i (.d x)) := by
  unfold setT
  rfl
theorem setT_tup (ts : List Tg) (xs : List D) (g : En) : setT (.tup ts) (.tuple xs) g = setTs ts xs g := by rw [setT]
theorem setTs_nil (g : En) : setTs [] [] g = some g := by rw [setTs]
theorem setTs_cons (t : Tg) (ts : List Tg) (x : D) (xs : List D) (g g' : En) (h : setT t x g = some g') : setTs (t :: ts) (x :: xs) g = setTs ts xs g' := by rw [setTs, h]
theorem fgt_nil (g : En) : fgt [] g = g := Eq.trans rfl rfl
theorem fgt_cons (i : Nat) (is : List Nat) (g : En) : fgt (i :: is) g = fgt is (g.set i .u) := Eq.trans rfl rfl
theorem wipG_nil (g : En) : wipG g [] = g := Eq.trans rfl rfl
theorem wipG_cons (g : En) (v : Nat) (vs : List Nat) : wipG g (v :: vs) = (wipG g vs).set v .u := Eq.trans rfl rfl
def rgO1 (o : Option (List D)) (g : En) : Ro (List D) := match o with
  | some [.int j] => if rgLim j then .ok (rngD 0 1 j.toNat) g else .bad
  | _ => .bad
def rgO2 (o : Option (List D)) (g : En) : Ro (List D) := match o with
  | some [.int i, .int j] => if rgLim i ∧ rgLim j then .ok (rngD i 1 (j - i).toNat) g else .bad
  | _ => .bad
def rgO3 (o : Option (List D)) (g : En) : Ro (List D) := match o with
  | some [.int i, .int j, .int c] => if rgLim i ∧ rgLim j ∧ c = -1 then .ok (rngD i (-1) (i - j).toNat) g else .bad
  | _ => .bad
def rgT3 (o : Option (List D)) (g : En) : Ro D := match o with
  | some [.int i, .int j, .int c] => if rgLim i ∧ rgLim j ∧ c = -1 ∧ (i - j).toNat ≤ 16777216 then .ok (.tuple (rngD i (-1) (i - j).toNat)) g else .bad
  | _ => .bad
theorem iR1_go (m : M (List Rs)) (g : En) : iR1 m g = (m g).thn (c := ⟨fun rs g1 => rgO1 (vls g1 rs) g1⟩) := Eq.trans rfl rfl
theorem iR2_go (m : M (List Rs)) (g : En) : iR2 m g = (m g).thn (c := ⟨fun rs g1 => rgO2 (vls g1 rs) g1⟩) := Eq.trans rfl rfl
theorem iR3_go (m : M (List Rs)) (g : En) : iR3 m g = (m g).thn (c := ⟨fun rs g1 => rgO3 (vls g1 rs) g1⟩) := Eq.trans rfl rfl
theorem dTupRg3_go (m : M (List Rs)) (g : En) : dTupRg3 m g = (m g).thn (c := ⟨fun rs g1 => rgT3 (vls g1 rs) g1⟩) := Eq.trans rfl rfl
/-- a bound of a range -/
def Sm (i : Int) : Prop := -1000000 ≤ i ∧ i ≤ 1000000
theorem Sm.rg {i : Int} (h : Sm i) : rgLim i := by
  unfold rgLim
  obtain ⟨h1, h2⟩ := h
  omega
/-- lo, lo - 1, .. -/
def drange (a : Int) (n : Nat) : List Int := (List.range n).map fun (i : Nat) => a - (i : Int)
theorem rngD_drange (a : Int) (n : Nat) : rngD a (-1) n = (drange a n).map .int := by
  unfold rngD drange
  rw [List.map_map]
  apply List.map_congr_left
  intro i _
  simp only [Function.comp]
  congr 1
  omega
theorem rgO1_ok (j : Int) (g : En) (h : Sm j) : rgO1 (some [.int j]) g = .ok ((irange 0 j.toNat).map .int) g := by
  rw [← rngD_irange]
  exact if_pos h.rg
theorem rgO2_ok (i j : Int) (g : En) (h : Sm i) (k : Sm j) : rgO2 (some [.int i, .int j]) g = .ok ((irange i (j - i).toNat).map .int) g := by
  rw [← rngD_irange]
  exact if_pos ⟨h.rg, k.rg⟩
theorem rgO3_ok (i j : Int) (g : En) (h : Sm i) (k : Sm j) : rgO3 (some [.int i, .int j, .int (-1)]) g = .ok ((drange i (i - j).toNat).map .int) g := by
  rw [← rngD_drange]
  exact if_pos ⟨h.rg, k.rg, rfl⟩
theorem rgT3_ok (i j : Int) (g : En) (h : Sm i) (k : Sm j) : rgT3 (some [.int i, .int j, .int (-1)]) g = .ok (.tuple ((drange i (i - j).toNat).map .int)) g := by
  rw [← rngD_drange]
  exact if_pos ⟨h.rg, k.rg, rfl, by obtain ⟨h1, h2⟩ := h; obtain ⟨k1, k2⟩ := k; omega⟩
theorem okRg_sm {i j : Int} (h : Sm i) (k : Sm j) : okRg i j = true := by
  obtain ⟨h1, h2⟩ := h
  obtain ⟨k1, k2⟩ := k
  unfold okRg
  simp only [Bool.and_eq_true, decide_eq_true_eq]
  omega
def rgL (ij : Int × Int) (g : En) : Ro (List D) := if okRg ij.1 ij.2 then .ok (rgD ij.1 ij.2) g else .bad
theorem dLstRg_go (m : M (Int × Int)) (g : En) : dLstRg m g = (m g).thn (c := ⟨fun ij g1 => rgL ij g1⟩) := by
  unfold dLstRg bnd Ro.thn rgL
  cases m g with
  | ok x g1 =>
    dsimp only
    split <;> rfl
  | _ => rfl
theorem rgL_ok (i j : Int) (g : En) (h : Sm i) (k : Sm j) : rgL (i, j) g = .ok ((irange i (j - i).toNat).map .int) g := by
  rw [← rgD_irange]
  exact if_pos (okRg_sm h k)
def rgT (ij : Int × Int) (g : En) : Ro D := if okRg ij.1 ij.2 then .ok (.tuple (rgD ij.1 ij.2)) g else .bad
theorem dTupRg_go (m : M (Int × Int)) (g : En) : dTupRg m g = (m g).thn (c := ⟨fun ij g1 => rgT ij g1⟩) := by
  unfold dTupRg bnd Ro.thn rgT
  cases m g with
  | ok x g1 =>
    dsimp only
    split <;> rfl
  | _ => rfl
theorem rgT_ok (i j : Int) (g : En) (h : Sm i) (k : Sm j) : rgT (i, j) g = .ok (.tuple ((irange i (j - i).toNat).map .int)) g := by
  rw [← rgD_irange]
  exact if_pos (okRg_sm h k)
theorem sm0 : Sm 0 := ⟨by decide, by decide⟩
theorem sm1 : Sm 1 := ⟨by decide, by decide⟩
theorem sm_of {i : Int} (h : 0 ≤ i) (k : i ≤ 1000) : Sm i := ⟨by omega, by omega⟩
theorem sz1 : 1 ≤ sizeLine := by decide
theorem sz2 : 2 ≤ sizeLine := by decide
theorem sz3 : 3 ≤ sizeLine := by decide
theorem sz4 : 4 ≤ sizeLine := by decide
theorem sz5 : 5 ≤ sizeLine := by decide
theorem sz_le {n : Nat} (h : n ≤ 100000) : n ≤ sizeLine := Nat.le_trans h (by decide)
end Z

set_option Elab.async false
set_option linter.all false
set_option maxRecDepth 100000
set_option autoImplicit false
set_option maxHeartbeats 1000000
namespace Z
open PySem PySem.Spec PyProof.Rows L2
theorem compB_map {β : Type} {vs : List Nat} {t : Tg} {me : M D} {enc f : β → D} {g : En} (l : List β) (hz : l.length ≤ sizeLine) (hn : noOwn g vs = true)
    (h : ∀ x ∈ l, ∃ g1, setT t (enc x) (wipG g vs) = some g1 ∧ me g1 = .ok (f x) g1 ∧ wipG g1 vs = wipG g vs) : compB vs t (rt true) me (l.map enc) g = .ok (l.map f) g := by
  have := compB_ok (vs := vs) (t := t) (mt := rt true) (me := me) (enc := enc) (f := f) (p := fun _ => true) l hz hn fun x hx => by
    obtain ⟨g1, h1, h2, h3⟩ := h x hx
    exact ⟨g1, h1, rfl, fun _ => h2, h3⟩
  rw [this, List.filter_eq_self.mpr (fun _ _ => rfl)]
theorem compB_one {β : Type} {i : Nat} {me : M D} {enc f : β → D} {g : En} (l : List β) (hz : l.length ≤ 100000) (hn : noOwn g [i] = true)
    (h : ∀ x ∈ l, me (g.set i (.d (enc x))) = .ok (f x) (g.set i (.d (enc x)))) : compB [i] (.nm i) (rt true) me (l.map enc) g = .ok (l.map f) g :=
  compB_map l (sz_le hz) hn fun x hx => ⟨g.set i (.d (enc x)), by rw [setT_nm]; show some ((g.set i .u).set i _) = _; rw [List.set_set], h x hx, by show (g.set i _).set i .u = g.set i .u; rw [List.set_set]⟩
theorem compB_fil {β : Type} {i : Nat} {mt : M Bool} {me : M D} {enc f : β → D} {p : β → Bool} {g : En} (l : List β) (hz : l.length ≤ 100000) (hn : noOwn g [i] = true)
    (h : ∀ x ∈ l, mt (g.set i (.d (enc x))) = .ok (p x) (g.set i (.d (enc x))) ∧ (p x = true → me (g.set i (.d (enc x))) = .ok (f x) (g.set i (.d (enc x))))) : compB [i] (.nm i) mt me (l.map enc) g = .ok ((l.filter p).map f) g :=
  compB_ok l (sz_le hz) hn fun x hx => ⟨g.set i (.d (enc x)), by rw [setT_nm]; show some ((g.set i .u).set i _) = _; rw [List.set_set], (h x hx).1, (h x hx).2, by show (g.set i _).set i .u = g.set i .u; rw [List.set_set]⟩
theorem fIs_ii (i : Int) : fIs [.int] (.int i) = some (.bool true) := Eq.trans rfl rfl
theorem fIs_ib (i : Int) : fIs [.bool] (.int i) = some (.bool false) := Eq.trans rfl rfl
theorem fIs_is (i : Int) : fIs [.str] (.int i) = some (.bool false) := Eq.trans rfl rfl
theorem fIs_itl (i : Int) : fIs [.tuple, .list] (.int i) = some (.bool false) := Eq.trans rfl rfl
theorem fIs_tt (xs : List D) : fIs [.tuple] (.tuple xs) = some (.bool true) := Eq.trans rfl rfl
theorem fIs_tl (xs : List D) : fIs [.list] (.tuple xs) = some (.bool false) := Eq.trans rfl rfl
theorem fIs_ttl (xs : List D) : fIs [.tuple, .list] (.tuple xs) = some (.bool true) := Eq.trans rfl rfl
theorem fIs_lt (xs : List D) : fIs [.tuple] (.list xs) = some (.bool false) := Eq.trans rfl rfl
theorem fIs_ll (xs : List D) : fIs [.list] (.list xs) = some (.bool true) := Eq.trans rfl rfl
theorem fIs_ltl (xs : List D) : fIs [.tuple, .list] (.list xs) = some (.bool true) := Eq.trans rfl rfl
theorem fAll_b (bs : List Bool) : fAll [.list (bs.map .bool)] = some (.bool (bs.all id)) := by
  unfold fAll
  dsimp only
  rw [toBools_map]
  rfl
theorem fSum_i (ns : List Int) : fSum [.list (ns.map .int)] = some (.int ns.sum) := by
  unfold fSum
  dsimp only
  rw [toInts_map]
  rfl
theorem fBack_t (xs : List D) : fBack (.tuple xs) = some (.tuple xs.reverse) := Eq.trans rfl rfl
theorem fBackL_l (xs : List D) : fBackL (.list xs) = some xs.reverse := Eq.trans rfl rfl
end Z

set_option Elab.async false
set_option linter.all false
set_option maxRecDepth 100000
set_option autoImplicit false
set_option maxHeartbeats 1000000
namespace Z
open PySem PySem.Spec PyProof.Rows L2
def mi (p : List Int) : List Int := p.map fun x => p.length + 1 - x
end Z

set_option Elab.async false
set_option linter.all false
set_option maxRecDepth 100000
set_option autoImplicit false
set_option maxHeartbeats 1000000
namespace Z
open PySem PySem.Spec PyProof.Rows L2
theorem argD_vn (g : En) (ks : List Pk) (i : Nat) (rs : List Rs) : argD g none (.v :: ks) (.sl i :: rs) = oMap (argD g none ks rs) (c := ⟨fun xs => oMap (slV g[i]?) (c := ⟨fun x => some (x :: xs)⟩)⟩) := argD_vs g none ks i rs (fun z => nomatch z)
def like (c : List Int) : List Int := c.map fun y => 1 + ((c.filter fun x => decide (x < y)).length : Int)
theorem irange_snoc (a : Int) (n : Nat) : irange a (n + 1) = irange a n ++ [a + n] := by
  unfold irange
  rw [List.range_succ, List.map_append]
  rfl
end Z

set_option Elab.async false
set_option linter.all false
set_option maxRecDepth 100000
set_option autoImplicit false
set_option maxHeartbeats 1000000
namespace Z
open PySem PySem.Spec PyProof.Rows L2
def mx : List Int → Int
  | [] => 0
  | n :: ns => lmax n ns
def mn : List Int → Int
  | [] => 0
  | n :: ns => lmin n ns
theorem mx_mem {l : List Int} (h : l ≠ []) : mx l ∈ l := by
  cases l with
  | nil => exact absurd rfl h
  | cons n ns =>
    rcases (lmax_spec ns n).1 with e | e
    · show lmax n ns ∈ n :: ns
      rw [e]
      exact List.mem_cons_self
    · exact List.mem_cons_of_mem _ e
theorem mx_ge {l : List Int} {x : Int} (h : x ∈ l) : x ≤ mx l := by
  cases l with
  | nil => exact nomatch h
  | cons n ns =>
    rcases List.mem_cons.mp h with e | e
    · rw [e]
      exact (lmax_spec ns n).2.1
    · exact (lmax_spec ns n).2.2 x e
theorem mn_mem {l : List Int} (h : l ≠ []) : mn l ∈ l := by
  cases l with
  | nil => exact absurd rfl h
  | cons n ns =>
    rcases (lmin_spec ns n).1 with e | e
    · show lmin n ns ∈ n :: ns
      rw [e]
      exact List.mem_cons_self
    · exact List.mem_cons_of_mem _ e
theorem mn_le {l : List Int} {x : Int} (h : x ∈ l) : mn l ≤ x := by
  cases l with
  | nil => exact nomatch h
  | cons n ns =>
    rcases List.mem_cons.mp h with e | e
    · rw [e]
      exact (lmin_spec ns n).2.1
    · exact (lmin_spec ns n).2.2 x e
def qAt (q : List Int) (a : Nat) : Int := q.getD a 0
def lesser (q : List Int) (a : Nat) : List Int := (q.take a).filter fun x => decide (x < qAt q a)
def greater (q : List Int) (a : Nat) : List Int := (q.take a).filter fun x => decide (qAt q a < x)
theorem getD_get {q : List Int} {a : Nat} (h : a < q.length) : q[a]? = some (q.getD a 0) := by
  rw [List.getD_eq_getElem?_getD, List.getElem?_eq_getElem h]
  rfl
end Z

set_option Elab.async false
set_option linter.all false
set_option maxRecDepth 100000
set_option autoImplicit false
set_option maxHeartbeats 1000000
namespace Z
open PySem PySem.Spec PyProof.Rows L2
def pAt (p : List Int) (x : Int) : Int := p.getD x.toNat 0
def leastI (p q : List Int) (a : Nat) (t : List Int) : Int := if lesser q a = [] then 0 else pAt p (t.getD (q.idxOf (mx (lesser q a))) 0)
def mostI (p q : List Int) (a : Nat) (t : List Int) : Int := if greater q a = [] then (p.length : Int) + 1 else pAt p (t.getD (q.idxOf (mn (greater q a))) 0)
def startI (t : List Int) : Int := match t.getLast? with
  | some x => x + 1
  | none => 0
def stopI (p q : List Int) (a : Nat) : Int := (p.length : Int) - ((q.length : Int) - a - 1)
def okI (p q : List Int) (a : Nat) (t : List Int) (x : Int) : Bool := decide (leastI p q a t < pAt p x) && decide (pAt p x < mostI p q a t)
def extT (p q : List Int) (a : Nat) (t : List Int) : List (List Int) := ((irange (startI t) (stopI p q a - startI t).toNat).filter (okI p q a t)).map fun x => t ++ [x]
def Ls (p q : List Int) : Nat → List (List Int)
  | 0 => [[]]
  | a + 1 => (Ls p q a).flatMap (extT p q a)
/-- a tuple of places so far -/
structure Pl (p : List Int) (a : Nat) (t : List Int) : Prop where
  len : t.length = a
  lo : ∀ x ∈ t, 0 ≤ x
  hi : ∀ x ∈ t, x < p.length
theorem startI_bd {p : List Int} {a : Nat} {t : List Int} (h : Pl p a t) : 0 ≤ startI t ∧ startI t ≤ p.length := by
  unfold startI
  cases e : t.getLast? with
  | none => exact ⟨Int.le_refl _, by show (0 : Int) ≤ _; omega⟩
  | some x =>
    have hm := List.mem_of_getLast? e
    have h1 := h.lo x hm
    have h2 := h.hi x hm
    dsimp only
    omega
theorem idx_take {q : List Int} {a : Nat} {x : Int} (h : x ∈ q.take a) : q.idxOf x < a := by
  have e : q.idxOf x = (q.take a).idxOf x := by
    conv => lhs; rw [← List.take_append_drop a q]
    rw [List.idxOf_append, if_pos h]
  rw [e]
  have := List.idxOf_lt_length_of_mem h
  rw [List.length_take] at this
  omega
end Z

set_option Elab.async false
set_option linter.all false
set_option maxRecDepth 100000
set_option autoImplicit false
set_option maxHeartbeats 1000000
namespace Z
open PySem PySem.Spec PyProof.Rows L2
abbrev at0 (t : List Int) (i : Nat) : Int := t.getD i 0
theorem at0_mem {t : List Int} {i : Nat} (h : i < t.length) : at0 t i ∈ t := by
  unfold at0
  rw [List.getD_eq_getElem?_getD, List.getElem?_eq_getElem h]
  exact List.getElem_mem h
theorem mem_at0 {t : List Int} {x : Int} (h : x ∈ t) : ∃ i, i < t.length ∧ at0 t i = x := by
  obtain ⟨i, hi, e⟩ := List.mem_iff_getElem.mp h
  refine ⟨i, hi, ?_⟩
  unfold at0
  rw [List.getD_eq_getElem?_getD, List.getElem?_eq_getElem hi, ← e]
  rfl
theorem at0_app1 {t u : List Int} {i : Nat} (h : i < t.length) : at0 (t ++ u) i = at0 t i := by
  unfold at0
  rw [List.getD_eq_getElem?_getD, List.getD_eq_getElem?_getD, List.getElem?_append_left h]
theorem at0_app2 {t : List Int} {x : Int} : at0 (t ++ [x]) t.length = x := by
  unfold at0
  rw [List.getD_eq_getElem?_getD, List.getElem?_append_right (Nat.le_refl _), Nat.sub_self]
  rfl
theorem at0_inj {q : List Int} (h : q.Nodup) {i j : Nat} (hi : i < q.length) (hj : j < q.length) (e : at0 q i = at0 q j) : i = j := by
  unfold at0 at e
  rw [List.getD_eq_getElem?_getD, List.getD_eq_getElem?_getD, List.getElem?_eq_getElem hi, List.getElem?_eq_getElem hj] at e
  exact (List.getElem_inj (h₀ := hi) (h₁ := hj) h).mp e
theorem pAt_bd {p : List Int} (h : IsOrd p) {x : Int} (h0 : 0 ≤ x) (h1 : x < p.length) : 1 ≤ pAt p x ∧ pAt p x ≤ p.length := by
  have hm : pAt p x ∈ p := at0_mem (show x.toNat < p.length by omega)
  exact ⟨h.lo _ hm, h.hi _ hm⟩
/-- the first a things of q are shown at t -/
structure Mt (p q : List Int) (a : Nat) (t : List Int) : Prop where
  pl : Pl p a t
  asc : ∀ i j, i < j → j < a → at0 t i < at0 t j
  ord : ∀ i j, i < a → j < a → (pAt p (at0 t i) < pAt p (at0 t j) ↔ at0 q i < at0 q j)
theorem startI_le {t : List Int} {x : Int} (asc : ∀ i j, i < j → j < t.length → at0 t i < at0 t j) (h0 : 0 ≤ x) : startI t ≤ x ↔ ∀ y ∈ t, y < x := by
  rcases List.eq_nil_or_concat t with rfl | ⟨s, z, rfl⟩
  · exact ⟨fun _ _ h => (nomatch h), fun _ => h0⟩
  · rw [List.concat_eq_append] at *
    have hs : startI (s ++ [z]) = z + 1 := by
      unfold startI
      rw [List.getLast?_concat]
    rw [hs]
    constructor
    · intro h y hy
      rcases List.mem_append.mp hy with hy | hy
      · obtain ⟨i, hi, rfl⟩ := mem_at0 hy
        have := asc i s.length hi (by rw [List.length_append, List.length_singleton]; omega)
        rw [at0_app1 hi, at0_app2] at this
        omega
      · rw [List.mem_singleton.mp hy]
        omega
    · intro h
      have := h z (List.mem_append_right _ (List.mem_singleton.mpr rfl))
      omega
section
variable {p q : List Int} {a : Nat} {t : List Int}
theorem q_take {i : Nat} (hi : i < a) (ha : a < q.length) : at0 q i ∈ q.take a := by
  have : at0 q i = at0 (q.take a) i := by
    unfold at0
    rw [List.getD_eq_getElem?_getD, List.getD_eq_getElem?_getD, List.getElem?_take_of_lt hi]
  rw [this]
  exact at0_mem (by rw [List.length_take]; omega)
theorem take_q {x : Int} (h : x ∈ q.take a) : ∃ i, i < a ∧ i < q.length ∧ at0 q i = x ∧ i = q.idxOf x := by
  have h1 := idx_take h
  have h2 := List.idxOf_lt_length_of_mem (List.mem_of_mem_take h)
  refine ⟨q.idxOf x, h1, h2, ?_, rfl⟩
  unfold at0
  rw [List.getD_eq_getElem?_getD, List.getElem?_eq_getElem h2, List.getElem_idxOf]
  rfl
theorem least_iff (ip : IsOrd p) (iq : q.Nodup) (ha : a < q.length) (m : Mt p q a t) {x : Int} (h0 : 0 ≤ x) (h1 : x < p.length) : leastI p q a t < pAt p x ↔ ∀ i, i < a → at0 q i < at0 q a → pAt p (at0 t i) < pAt p x := by
  unfold leastI
  by_cases z : lesser q a = []
  · rw [if_pos z]
    refine ⟨fun _ i hi hq => ?_, fun _ => by have := (pAt_bd ip h0 h1).1; omega⟩
    have : at0 q i ∈ lesser q a := List.mem_filter.mpr ⟨q_take hi ha, decide_eq_true hq⟩
    rw [z] at this
    cases this
  · rw [if_neg z]
    have hm := mx_mem z
    obtain ⟨b, b1, b2, b3, b4⟩ := take_q (List.mem_filter.mp hm).1
    have b5 : mx (lesser q a) < at0 q a := of_decide_eq_true (List.mem_filter.mp hm).2
    rw [← b4]
    constructor
    · intro h i hi hq
      have hl : at0 q i ≤ mx (lesser q a) := mx_ge (List.mem_filter.mpr ⟨q_take hi ha, decide_eq_true hq⟩)
      by_cases e : i = b
      · rw [e]
        exact h
      · have : at0 q i < at0 q b := by
          have hne : at0 q i ≠ at0 q b := fun w => e (at0_inj iq (by omega) b2 w)
          omega
        have := (m.ord i b hi b1).mpr this
        exact Int.lt_trans this h
    · intro h
      exact h b b1 (by rw [b3]; exact b5)
theorem most_iff (ip : IsOrd p) (iq : q.Nodup) (ha : a < q.length) (m : Mt p q a t) {x : Int} (h0 : 0 ≤ x) (h1 : x < p.length) : pAt p x < mostI p q a t ↔ ∀ i, i < a → at0 q a < at0 q i → pAt p x < pAt p (at0 t i) := by
  unfold mostI
  by_cases z : greater q a = []
  · rw [if_pos z]
    refine ⟨fun _ i hi hq => ?_, fun _ => by have := (pAt_bd ip h0 h1).2; omega⟩
    have : at0 q i ∈ greater q a := List.mem_filter.mpr ⟨q_take hi ha, decide_eq_true hq⟩
    rw [z] at this
    cases this
  · rw [if_neg z]
    have hm := mn_mem z
    obtain ⟨b, b1, b2, b3, b4⟩ := take_q (List.mem_filter.mp hm).1
    have b5 : at0 q a < mn (greater q a) := of_decide_eq_true (List.mem_filter.mp hm).2
    rw [← b4]
    constructor
    · intro h i hi hq
      have hl : mn (greater q a) ≤ at0 q i := mn_le (List.mem_filter.mpr ⟨q_take hi ha, decide_eq_true hq⟩)
      by_cases e : i = b
      · rw [e]
        exact h
      · have : at0 q b < at0 q i := by
          have hne : at0 q i ≠ at0 q b := fun w => e (at0_inj iq (by omega) b2 w)
          omega
        have := (m.ord b i b1 hi).mpr this
        exact Int.lt_trans h this
    · intro h
      exact h b b1 (by rw [b3]; exact b5)
/-- one thing more -/
theorem mt_snoc (ip : IsOrd p) (iq : q.Nodup) (ha : a < q.length) {x : Int} (hl : t.length = a) : Mt p q (a + 1) (t ++ [x]) ↔ Mt p q a t ∧ startI t ≤ x ∧ 0 ≤ x ∧ x < p.length ∧ okI p q a t x = true := by
  subst hl
  constructor
  · intro m
    have hx : x ∈ t ++ [x] := List.mem_append_right _ (List.mem_singleton.mpr rfl)
    have h0 := m.pl.lo x hx
    have h1 := m.pl.hi x hx
    have m0 : Mt p q t.length t := by
      refine ⟨⟨rfl, fun y hy => m.pl.lo y (List.mem_append_left _ hy), fun y hy => m.pl.hi y (List.mem_append_left _ hy)⟩, fun i j hij hj => ?_, fun i j hi hj => ?_⟩
      · have := m.asc i j hij (by omega)
        rw [at0_app1 (by omega), at0_app1 hj] at this
        exact this
      · have := m.ord i j (by omega) (by omega)
        rw [at0_app1 hi, at0_app1 hj] at this
        exact this
    refine ⟨m0, (startI_le m0.asc h0).mpr fun y hy => ?_, h0, h1, ?_⟩
    · obtain ⟨i, hi, rfl⟩ := mem_at0 hy
      have := m.asc i t.length hi (by omega)
      rw [at0_app1 hi, at0_app2] at this
      exact this
    · unfold okI
      rw [Bool.and_eq_true, decide_eq_true_eq, decide_eq_true_eq, least_iff ip iq ha m0 h0 h1, most_iff ip iq ha m0 h0 h1]
      refine ⟨fun i hi hq => ?_, fun i hi hq => ?_⟩
      · have := (m.ord i t.length (by omega) (by omega)).mpr hq
        rw [at0_app1 hi, at0_app2] at this
        exact this
      · have := (m.ord t.length i (by omega) (by omega)).mpr hq
        rw [at0_app1 hi, at0_app2] at this
        exact this
  · rintro ⟨m, h2, h0, h1, h3⟩
    unfold okI at h3
    rw [Bool.and_eq_true, decide_eq_true_eq, decide_eq_true_eq, least_iff ip iq ha m h0 h1, most_iff ip iq ha m h0 h1] at h3
    have hy := (startI_le m.asc h0).mp h2
    have split : ∀ i, i < t.length + 1 → i < t.length ∨ i = t.length := fun i hi => by omega
    refine ⟨⟨by rw [List.length_append]; rfl, fun y hy => ?_, fun y hy => ?_⟩, fun i j hij hj => ?_, fun i j hi hj => ?_⟩
    · rcases List.mem_append.mp hy with z | z
      · exact m.pl.lo y z
      · rw [List.mem_singleton.mp z]
        exact h0
    · rcases List.mem_append.mp hy with z | z
      · exact m.pl.hi y z
      · rw [List.mem_singleton.mp z]
        exact h1
    · rcases split j hj with z | rfl
      · rw [at0_app1 (by omega), at0_app1 z]
        exact m.asc i j hij z
      · rw [at0_app1 hij, at0_app2]
        exact hy _ (at0_mem hij)
    · have tri : ∀ i, i < t.length → at0 q i < at0 q t.length ∨ at0 q t.length < at0 q i := fun i hi => by
        have : at0 q i ≠ at0 q t.length := fun w => by
          have := at0_inj iq (by omega) ha w
          omega
        omega
      rcases split i hi with zi | rfl
      · rcases split j hj with zj | rfl
        · rw [at0_app1 zi, at0_app1 zj]
          exact m.ord i j zi zj
        · rw [at0_app1 zi, at0_app2]
          rcases tri i zi with w | w
          · exact ⟨fun _ => w, fun _ => h3.1 i zi w⟩
          · have := h3.2 i zi w
            constructor <;> intro <;> omega
      · rcases split j hj with zj | rfl
        · rw [at0_app1 zj, at0_app2]
          rcases tri j zj with w | w
          · have := h3.1 j zj w
            constructor <;> intro <;> omega
          · exact ⟨fun _ => w, fun _ => h3.2 j zj w⟩
        · rw [at0_app2]
          constructor <;> intro <;> omega
end
theorem mem_Ls {p q : List Int} (ip : IsOrd p) (iq : q.Nodup) : ∀ {a : Nat}, a ≤ q.length → ∀ t : List Int, t ∈ Ls p q a ↔ Mt p q a t ∧ ∀ x ∈ t, x + ((q.length : Int) - a) < p.length
  | 0, _, t => by
    constructor
    · intro h
      have e : t = [] := List.mem_singleton.mp h
      subst e
      exact ⟨⟨⟨rfl, fun _ h => (nomatch h), fun _ h => (nomatch h)⟩, fun i j _ hj => absurd hj (Nat.not_lt_zero _), fun i j hi _ => absurd hi (Nat.not_lt_zero _)⟩, fun _ h => (nomatch h)⟩
    · rintro ⟨m, _⟩
      rw [List.eq_nil_of_length_eq_zero m.pl.len]
      exact List.mem_singleton.mpr rfl
  | a + 1, ha, t => by
    have ih := mem_Ls ip iq (a := a) (by omega)
    constructor
    · intro h
      obtain ⟨s, hs, hu⟩ := List.mem_flatMap.mp h
      obtain ⟨m, hr⟩ := (ih s).mp hs
      unfold extT at hu
      obtain ⟨x, hx, rfl⟩ := List.mem_map.mp hu
      obtain ⟨hx1, hx2⟩ := List.mem_filter.mp hx
      have hx3 := irange_mem.mp hx1
      have hb := startI_bd m.pl
      have hst : stopI p q a = (p.length : Int) - ((q.length : Int) - a - 1) := rfl
      have m' := (mt_snoc ip iq (show a < q.length by omega) m.pl.len (x := x)).mpr ⟨m, hx3.1, by omega, by omega, hx2⟩
      refine ⟨m', fun y hy => ?_⟩
      rcases List.mem_append.mp hy with z | z
      · have h2 := (startI_le (by rw [m.pl.len]; exact m.asc) (show 0 ≤ x by omega)).mp hx3.1 y z
        omega
      · rw [List.mem_singleton.mp z]
        omega
    · rintro ⟨m, hr⟩
      rcases List.eq_nil_or_concat t with rfl | ⟨s, x, rfl⟩
      · have := m.pl.len
        cases this
      · rw [List.concat_eq_append] at *
        have hl : s.length = a := by
          have := m.pl.len
          rw [List.length_append, List.length_singleton] at this
          omega
        obtain ⟨m0, h2, h0, h1, h3⟩ := (mt_snoc ip iq (show a < q.length by omega) hl).mp m
        have hx := hr x (List.mem_append_right _ (List.mem_singleton.mpr rfl))
        have hst : stopI p q a = (p.length : Int) - ((q.length : Int) - a - 1) := rfl
        refine List.mem_flatMap.mpr ⟨s, (ih s).mpr ⟨m0, fun y hy => ?_⟩, List.mem_map.mpr ⟨x, List.mem_filter.mpr ⟨irange_mem.mpr ⟨h2, by omega⟩, h3⟩, rfl⟩⟩
        have := (startI_le (by rw [m0.pl.len]; exact m0.asc) h0).mp h2 y hy
        omega
/-- all places -/
def PL (p q : List Int) : List (List Int) := Ls p q q.length
theorem mem_PL {p q : List Int} (ip : IsOrd p) (iq : q.Nodup) (t : List Int) : t ∈ PL p q ↔ Mt p q q.length t := by
  unfold PL
  rw [mem_Ls ip iq (Nat.le_refl _)]
  refine ⟨fun h => h.1, fun h => ⟨h, fun x hx => ?_⟩⟩
  have := h.pl.hi x hx
  omega
end Z

set_option Elab.async false
set_option linter.all false
set_option maxRecDepth 100000
set_option autoImplicit false
set_option maxHeartbeats 1000000
namespace Z
open PySem PySem.Spec PyProof.Rows L2
theorem at0_map {t : List Int} {f : Int → Int} {i : Nat} (h : i < t.length) : at0 (t.map f) i = f (at0 t i) := by
  unfold at0
  rw [List.getD_eq_getElem?_getD, List.getD_eq_getElem?_getD, List.getElem?_map, List.getElem?_eq_getElem h]
  rfl
end Z

set_option Elab.async false
set_option linter.all false
set_option maxRecDepth 100000
set_option autoImplicit false
set_option maxHeartbeats 1000000
namespace Z
open PySem PySem.Spec PyProof.Rows L2
end Z

set_option Elab.async false
set_option linter.all false
set_option maxRecDepth 100000
set_option autoImplicit false
set_option maxHeartbeats 1000000
namespace Z
open PySem PySem.Spec PyProof.Rows L2
def sft (k : Int) (c : List Int) : List Int := c.map fun x => x + k
theorem cnt_range (y : Int) : ∀ n : Nat, 1 ≤ y → y ≤ n + 1 → ((irange 1 n).filter fun x => decide (x < y)).length = (y - 1).toNat
  | 0, h1, h2 => by
    rw [irange_zero]
    simp
    omega
  | n + 1, h1, h2 => by
    rw [irange_snoc, List.filter_append, List.length_append]
    by_cases h : y ≤ n + 1
    · rw [cnt_range y n h1 h, List.filter_cons_of_neg (by simp; omega)]
      rfl
    · have e : y = (n : Int) + 2 := by omega
      rw [List.filter_cons_of_pos (by simp; omega)]
      have : (irange 1 n).filter (fun x => decide (x < y)) = irange 1 n := List.filter_eq_self.mpr fun x hx => by
        have := irange_mem.mp hx
        simp
        omega
      rw [this, irange_len]
      simp
      omega
theorem like_ord {p : List Int} (h : IsOrd p) : like p = p := by
  unfold like
  refine (List.map_congr_left fun y hy => ?_).trans (List.map_id p)
  have h1 := h.lo y hy
  have h2 := h.hi y hy
  have := (h.perm.filter fun x => decide (x < y)).length_eq
  rw [this, cnt_range y p.length h1 (by omega)]
  simp only [id]
  omega
end Z

set_option Elab.async false
set_option linter.all false
set_option maxRecDepth 100000
set_option autoImplicit false
set_option maxHeartbeats 1000000
namespace Z
open PySem PySem.Spec PyProof.Rows L2
end Z

set_option Elab.async false
set_option linter.all false
set_option maxRecDepth 100000
set_option autoImplicit false
set_option maxHeartbeats 1000000
namespace Z
open PySem PySem.Spec PyProof.Rows L2
def sm (p q : List Int) : List Int := p ++ sft p.length q
end Z

set_option Elab.async false
set_option linter.all false
set_option maxRecDepth 100000
set_option autoImplicit false
set_option maxHeartbeats 1000000
namespace Z
open PySem PySem.Spec PyProof.Rows L2
def due (k : Bool) (n t : Nat) : List Int := if k then irange ((n : Int) - t + 1) t else irange 1 t
end Z

set_option Elab.async false
set_option linter.all false
set_option maxRecDepth 100000
set_option autoImplicit false
set_option maxHeartbeats 1000000
namespace Z
open PySem PySem.Spec PyProof.Rows L2
end Z

set_option Elab.async false
set_option linter.all false
set_option maxRecDepth 100000
set_option autoImplicit false
set_option maxHeartbeats 1000000
namespace Z
open PySem PySem.Spec PyProof.Rows L2
end Z

set_option Elab.async false
set_option linter.all false
set_option maxRecDepth 100000
set_option autoImplicit false
set_option maxHeartbeats 1000000
namespace Z
open PySem PySem.Spec PySem.W PyProof.Rows L2
end Z

set_option Elab.async false
set_option linter.all false
set_option maxRecDepth 100000
set_option autoImplicit false
set_option maxHeartbeats 1000000
namespace Z
open PySem PySem.Spec PySem.W PyProof.Rows L2
end Z

set_option Elab.async false
set_option linter.all false
set_option maxRecDepth 100000
set_option autoImplicit false
set_option maxHeartbeats 1000000
namespace Z
open PySem PySem.Spec PyProof.Rows L2
def zipD (xs ys : List D) : List D := List.zipWith (fun x y => .tuple [x, y]) xs ys
def iZip (m : M (List Rs)) : M (List D) := bnd m fun rs => match rs with
  | [r, s] => bnd (itR r) fun xs => bnd (itR s) fun ys => rt (zipD xs ys)
  | _ => fun _ => .bad
end Z

set_option Elab.async false
set_option linter.all false
set_option maxRecDepth 100000
set_option autoImplicit false
set_option maxHeartbeats 1000000
namespace Z
open PySem PySem.Spec PyProof.Rows L2
theorem mx_is {l : List Int} {m : Int} (h : m ∈ l) (k : ∀ y ∈ l, y ≤ m) : mx l = m :=
  Int.le_antisymm (k _ (mx_mem (List.ne_nil_of_mem h))) (mx_ge h)
def stch (p : List Int) (a b : Nat) : List Int := (p.drop a).take (b - a)
def tight (c : List Int) : Bool := decide (mx c - mn c = (c.length : Int) - 1)
def blk (p : List Int) (a b : Nat) : Bool := tight (stch p a b)
end Z

set_option Elab.async false
set_option linter.all false
set_option maxRecDepth 100000
set_option autoImplicit false
set_option maxHeartbeats 1000000
namespace Z
open PySem PySem.Spec PyProof.Rows L2
theorem by_places (c : List Int) : c = (List.range c.length).map fun i => c.getD i 0 := List.ext_getElem? fun i => by
  by_cases h : i < c.length
  · rw [List.getElem?_map, List.getElem?_range h, getD_get h]
    rfl
  · rw [List.getElem?_eq_none (by omega), List.getElem?_eq_none (by rw [List.length_map, List.length_range]; omega)]
theorem like_places (c : List Int) : like c = (List.range c.length).map fun j => 1 + ((((List.range c.length).filter fun i => decide (c.getD i 0 < c.getD j 0)).length : Nat) : Int) := by
  have e : ∀ y : Int, (c.filter fun x => decide (x < y)).length = ((List.range c.length).filter fun i => decide (c.getD i 0 < y)).length := fun y => by
    conv => lhs; rw [by_places c]
    rw [List.filter_map, List.length_map]
    rfl
  unfold like
  conv => lhs; arg 2; rw [by_places c]
  rw [List.map_map]
  exact List.map_congr_left fun j _ => by
    show 1 + (((c.filter fun x => decide (x < c.getD j 0)).length : Nat) : Int) = _
    rw [e]
theorem like_cmp {c d : List Int} (hl : c.length = d.length) (h : ∀ i j, i < c.length → j < c.length → (c.getD i 0 < c.getD j 0 ↔ d.getD i 0 < d.getD j 0)) : like c = like d := by
  rw [like_places, like_places, ← hl]
  refine List.map_congr_left fun j hj => ?_
  have e : ((List.range c.length).filter fun i => decide (c.getD i 0 < c.getD j 0)) = (List.range c.length).filter fun i => decide (d.getD i 0 < d.getD j 0) := by
    refine List.filter_congr fun i hi => ?_
    exact decide_eq_decide.mpr (h i j (List.mem_range.mp hi) (List.mem_range.mp hj))
  rw [e]
def zipR (rs : List Rs) : M (List D) := match rs with
  | [r, s] => bnd (itR r) fun xs => bnd (itR s) fun ys => rt (zipD xs ys)
  | _ => fun _ => .bad
theorem iZip_at (m : M (List Rs)) (g : En) : iZip m g = (m g).thn (c := ⟨fun rs g1 => zipR rs g1⟩) := Eq.trans rfl rfl
theorem zipR_at (r s : Rs) (g : En) : zipR [r, s] g = (itR r g).thn (c := ⟨fun xs g1 => (itR s g1).thn (c := ⟨fun ys g2 => .ok (zipD xs ys) g2⟩)⟩) := Eq.trans rfl rfl
end Z

set_option Elab.async false
set_option linter.all false
set_option maxRecDepth 100000
set_option autoImplicit false
set_option maxHeartbeats 1000000
namespace Z
open PySem PySem.Spec PyProof.Rows L2
def dcG (vs : List Nat) (t : Tg) (mt : M Bool) (mk mv : M D) : List D → List (D × D) → M (List (D × D))
  | [], ys, g => .ok ys g
  | x :: xs, ys, g => match setT t x g with
    | none => .bad
    | some g1 => match mt g1 with
      | .ok true g2 => match mk g2 with
        | .ok k g3 => match dkey k with
          | none => .bad
          | some key => match mv g3 with
            | .ok d g4 => dcG vs t mt mk mv xs (dput ys key d) (wipG g4 vs)
            | _ => .bad
        | _ => .bad
      | .ok false g2 => dcG vs t mt mk mv xs ys (wipG g2 vs)
      | _ => .bad
def dcB (vs : List Nat) (t : Tg) (mt : M Bool) (mk mv : M D) (xs : List D) : M D := fun g => if xs.length ≤ sizeLine ∧ noOwn g vs = true then match dcG vs t mt mk mv xs [] (wipG g vs) with
    | .ok ys g' => .ok (.dict ys) (rstG g g' vs)
    | _ => .bad
  else .bad
def dcL (vs : List Nat) (t : Tg) (mi : M (List D)) (mt : M Bool) (mk mv : M D) : M D := bnd mi (dcB vs t mt mk mv)
theorem Rel.keepX {K : PySem.W.Frag} {F : Fr} {G H : Hp} {Mu : Option Addr} {Γ : En} {σ : St} {l : Addr} {o : HO} (R : Rel K F G Mu Γ σ H) (h1 : H l = some o) (h3 : F l = none) (h4 : G l = none) (h5 : Mu ≠ some l) (h6 : ∀ i, ¬ Owns Γ σ i l) : Same G (upd G l o) ∧ Rel K F (upd G l o) Mu Γ σ H := by
  have hs : Same G (upd G l o) := same_upd h4
  have gh : Same (upd G l o) H := fun b x q => by
    by_cases hb : b = l
    · subst hb
      rw [upd_same] at q
      rw [h1]
      exact q
    · rw [upd_ne hb] at q
      exact R.gh b x q
  refine ⟨hs, R.mono (Mu' := Mu) R.fh hs gh (fun l' q => ?_) (fun i l' ho => ?_) (fun l' q => ?_)⟩
  · obtain ⟨_, m2, m3⟩ := R.mu l' q
    rw [upd_ne (show l' ≠ l from fun z => h5 (by rw [q, z]))]
    exact ⟨m2, m3⟩
  · rw [upd_ne (show l' ≠ l from fun z => h6 i (by rw [← z]; exact ho))]
    exact ⟨(R.there ho).2.1, rfl⟩
  · rw [upd_ne (fun z => F.kf l' q (by rw [z]; exact h3))]
    exact R.lk l' q
section
variable {X : Cx} {b : Bool} {kx vx tg iter : Expr} {ifs : List Expr} {scope : Scope} {pos : Pos} {t : Tg} {mi : M (List D)} {mt : M Bool} {mk mv : M D}
end
theorem dcL_at (vs : List Nat) (t : Tg) (mi : M (List D)) (mt : M Bool) (mk mv : M D) (g : En) : dcL vs t mi mt mk mv g = (mi g).thn (c := ⟨fun xs g1 => dcB vs t mt mk mv xs g1⟩) := Eq.trans rfl rfl
end Z

set_option Elab.async false
set_option linter.all false
set_option maxRecDepth 100000
set_option autoImplicit false
set_option maxHeartbeats 1000000
namespace Z
open PySem PySem.Spec PyProof.Rows L2
def sSubG (i : Nat) (y : D) (k : M Rs) : M Fl := fun g => match g[i]? with
  | some (.own _ _) => bnd k (fun s => fun g' => match g'[i]?, vl g' s with
    | some (.own b xs), some (.int n) => match ixN xs.length n with
      | some j => .ok .nx (g'.set i (.own b (xs.set j y)))
      | none => .bad
    | _, _ => .bad) g
  | _ => .bad
def sSwap (i : Nat) (m : M (List D)) (k1 k2 : M Rs) : M Fl := bnd (dTup m) fun t => match t with
  | .tuple [y1, y2] => dSeq (sSubG i y1 k1) (sSubG i y2 k2)
  | _ => fun _ => .bad
def swapR (i : Nat) (k1 k2 : M Rs) (t : D) : M Fl := match t with
  | .tuple [y1, y2] => dSeq (sSub i (rt y1) k1) (sSub i (rt y2) k2)
  | _ => fun _ => .bad
theorem sSwap_at (i : Nat) (m : M (List D)) (k1 k2 : M Rs) (g : En) : sSwap i m k1 k2 g = (dTup m g).thn (c := ⟨fun t g1 => swapR i k1 k2 t g1⟩) := Eq.trans rfl rfl
theorem swapR_at (i : Nat) (k1 k2 : M Rs) (y1 y2 : D) (g : En) : swapR i k1 k2 (.tuple [y1, y2]) g = dSeq (sSub i (rt y1) k1) (sSub i (rt y2) k2) g := Eq.trans rfl rfl
end Z

set_option Elab.async false
set_option linter.all false
set_option maxRecDepth 100000
set_option autoImplicit false
set_option maxHeartbeats 1000000
namespace Z
open PySem PySem.Spec PyProof.Rows L2
def srt (c : List Int) : List Int := c.mergeSort fun a b => decide (a ≤ b)
end Z

set_option Elab.async false
set_option linter.all false
set_option maxRecDepth 100000
set_option autoImplicit false
set_option maxHeartbeats 1000000
namespace Z
open PySem PySem.Spec PyProof.Rows L2
def moveV (o : Option SV) : Option SV := match o with
  | some (.own false xs) => some (.own false xs)
  | some (.d x) => some (.d x)
  | _ => none
def sMove (i j : Nat) : M Fl := fun g => match moveV g[j]? with
  | some sv => .ok .nx ((g.set j .u).set i sv)
  | none => .bad
theorem moveV_o (xs : List D) : moveV (some (.own false xs)) = some (.own false xs) := Eq.trans rfl rfl
theorem moveV_d (x : D) : moveV (some (.d x)) = some (.d x) := Eq.trans rfl rfl
def mvR (i j : Nat) (g : En) (o : Option SV) : Ro Fl := match o with
  | some sv => .ok .nx ((g.set j .u).set i sv)
  | none => .bad
theorem sMove_at (i j : Nat) (g : En) : sMove i j g = mvR i j g (moveV g[j]?) := Eq.trans rfl rfl
theorem mvR_some (i j : Nat) (g : En) (sv : SV) : mvR i j g (some sv) = .ok .nx ((g.set j .u).set i sv) := Eq.trans rfl rfl
end Z

set_option Elab.async false
set_option linter.all false
set_option maxRecDepth 100000
set_option autoImplicit false
set_option maxHeartbeats 1000000
namespace Z
open PySem PySem.Spec PyProof.Rows L2
def okIn (x : D) (ys : List D) : Bool := x.canLay0 && PyData.canLayAll0 ys && decide (x.depth ≤ 60)
theorem okIn_ok {x : D} {ys : List D} (h : okIn x ys = true) : x.canLay0 = true ∧ PyData.canLayAll0 ys = true ∧ x.depth ≤ 60 := by
  unfold okIn at h
  simp only [Bool.and_eq_true, decide_eq_true_eq] at h
  exact ⟨h.1.1, h.1.2, h.2⟩
def inD (x : D) (ys : List D) : Bool := ys.any fun z => PyData.eqv z x
def fIn (x y : D) : Option D := match y with
  | .list ys => if okIn x ys then some (.bool (inD x ys)) else none
  | .tuple ys => if okIn x ys then some (.bool (inD x ys)) else none
  | _ => none
section
variable {X : Cx}
theorem or_in (hu : X.A.units + 64 < cLine) : OpR X (compareOp .In) (rD2 X.K fIn) := by
  intro pins s σ H x y v u Q I rx ry h
  obtain ⟨G, dx, dy, z, gh, r1, r2, e, q⟩ := h
  unfold fIn at e
  split at e
  · split at e
    · rename_i ys hk
      cases e
      obtain ⟨k1, k2, k3⟩ := okIn_ok hk
      have p2 : (PyData.list ys).plain = true := PyData.plain_of_canLay0 _ (by rw [PyData.canLay0]; exact k2)
      obtain ⟨as, a1⟩ := Dp.reads I dx x v ((r1.dp gh).dp _ _ (PyData.plain_of_canLay0 _ k1)) rx
      obtain ⟨bs, a2⟩ := Dp.reads I (.list ys) y u ((r2.dp gh).dp _ _ p2) ry
      exact SeqAt.in_list_reads a2 a1 k2 k1 (by have := Nat.min_le_right (PyData.depthAll ys) dx.depth; omega) ⟨.bl _, H, I, rfl, q _ _ _ (Ext.refl gh) (.bl _)⟩
    · cases e
  · split at e
    · rename_i ys hk
      cases e
      obtain ⟨k1, k2, k3⟩ := okIn_ok hk
      have p2 : (PyData.tuple ys).plain = true := PyData.plain_of_canLay0 _ (by rw [PyData.canLay0]; exact k2)
      obtain ⟨as, a1⟩ := Dp.reads I dx x v ((r1.dp gh).dp _ _ (PyData.plain_of_canLay0 _ k1)) rx
      obtain ⟨bs, a2⟩ := Dp.reads I (.tuple ys) y u ((r2.dp gh).dp _ _ p2) ry
      exact SeqAt.in_tuple_reads a2 a1 k2 k1 (by have := Nat.min_le_right (PyData.depthAll ys) dx.depth; omega) ⟨.bl _, H, I, rfl, q _ _ _ (Ext.refl gh) (.bl _)⟩
    · cases e
  · cases e
variable {o e : Expr} {apos cpos : Pos}
end
end Z

set_option Elab.async false
set_option linter.all false
set_option maxRecDepth 100000
set_option autoImplicit false
set_option maxHeartbeats 1000000
namespace Z
open PySem PySem.Spec PyProof.Rows L2
def sUnp (t : Tg) (m : M D) : M Fl := bnd m fun x => fun g => match setT t x g with
  | some g' => .ok .nx g'
  | none => .bad
def unpR (t : Tg) (x : D) : M Fl := fun g => match setT t x g with
  | some g' => .ok .nx g'
  | none => .bad
theorem sUnp_at (t : Tg) (m : M D) (g : En) : sUnp t m g = (m g).thn (c := ⟨fun x g1 => unpR t x g1⟩) := Eq.trans rfl rfl
theorem unpR_2 (i j : Nat) (x y : D) (g : En) : unpR (.tup [.nm i, .nm j]) (.tuple [x, y]) g = .ok .nx ((g.set i (.d x)).set j (.d y)) := by
  unfold unpR
  rw [setT_tup, setTs_cons _ _ _ _ _ _ (setT_nm _ _ _), setTs_cons _ _ _ _ _ _ (setT_nm _ _ _), setTs_nil]
end Z

set_option Elab.async false
set_option linter.all false
set_option maxRecDepth 100000
set_option autoImplicit false
set_option maxHeartbeats 1000000
namespace Z
open PySem PySem.Spec PyProof.Rows L2
def c2G (vs : List Nat) (t : Tg) (mt : M Bool) (vs1 : List Nat) (mi1 : M (List D)) (t1 : Tg) (mt1 : M Bool) (me : M D) : List D → List D → M (List D)
  | [], ys, g => .ok ys g
  | x :: xs, ys, g => match setT t x g with
    | none => .bad
    | some g1 => match mt g1 with
      | .ok true g2 => match mi1 g2 with
        | .ok xs1 g3 => match compG vs1 t1 mt1 me xs1 ys (wipG g3 vs1) with
          | .ok zs g4 => c2G vs t mt vs1 mi1 t1 mt1 me xs zs (wipG g4 vs)
          | _ => .bad
        | _ => .bad
      | .ok false g2 => c2G vs t mt vs1 mi1 t1 mt1 me xs ys (wipG g2 vs)
      | _ => .bad
def c2B (vs : List Nat) (t : Tg) (mt : M Bool) (vs1 : List Nat) (mi1 : M (List D)) (t1 : Tg) (mt1 : M Bool) (me : M D) (xs : List D) : M (List D) := fun g => if noOwn g vs = true then match c2G vs t mt vs1 mi1 t1 mt1 me xs [] (wipG g vs) with
    | .ok ys g' => if ys.length ≤ sizeLine then .ok ys (rstG g g' vs) else .bad
    | _ => .bad
  else .bad
def c2L (vs : List Nat) (t : Tg) (mi : M (List D)) (mt : M Bool) (vs1 : List Nat) (mi1 : M (List D)) (t1 : Tg) (mt1 : M Bool) (me : M D) : M (List D) := bnd mi (c2B vs t mt vs1 mi1 t1 mt1 me)
section
variable {X : Cx} {b b1 : Bool} {elt tg iter tg1 iter1 : Expr} {ifs ifs1 : List Expr} {scope : Scope} {pos : Pos} {t t1 : Tg} {mi mi1 : M (List D)} {mt mt1 : M Bool} {me : M D}
end
theorem c2L_at (vs : List Nat) (t : Tg) (mi : M (List D)) (mt : M Bool) (vs1 : List Nat) (mi1 : M (List D)) (t1 : Tg) (mt1 : M Bool) (me : M D) (g : En) : c2L vs t mi mt vs1 mi1 t1 mt1 me g = (mi g).thn (c := ⟨fun xs g1 => c2B vs t mt vs1 mi1 t1 mt1 me xs g1⟩) := Eq.trans rfl rfl
end Z

set_option Elab.async false
set_option linter.all false
set_option maxRecDepth 100000
set_option autoImplicit false
set_option maxHeartbeats 1000000
namespace Z
open PySem PySem.Spec PyProof.Rows L2
def sUnpL (ts : List Tg) (m : M D) : M Fl := bnd m fun x => fun g => match x with
  | .list xs => match setTs ts xs g with
    | some g' => .ok .nx g'
    | none => .bad
  | _ => .bad
def unpRL (ts : List Tg) (x : D) : M Fl := fun g => match x with
  | .list xs => match setTs ts xs g with
    | some g' => .ok .nx g'
    | none => .bad
  | _ => .bad
theorem sUnpL_at (ts : List Tg) (m : M D) (g : En) : sUnpL ts m g = (m g).thn (c := ⟨fun x g1 => unpRL ts x g1⟩) := Eq.trans rfl rfl
theorem unpRL_2 (i j : Nat) (x y : D) (g : En) : unpRL [.nm i, .nm j] (.list [x, y]) g = .ok .nx ((g.set i (.d x)).set j (.d y)) := by
  unfold unpRL
  dsimp only
  rw [setTs_cons _ _ _ _ _ _ (setT_nm _ _ _), setTs_cons _ _ _ _ _ _ (setT_nm _ _ _), setTs_nil]
end Z

set_option Elab.async false
set_option linter.all false
set_option maxRecDepth 100000
set_option autoImplicit false
set_option maxHeartbeats 1000000
namespace Z
open PySem PySem.Spec PyProof.Rows L2
def nz : List Int → Bool
  | [] => true
  | [_] => true
  | x :: y :: r => !(decide (x = 0) && decide (y = 0)) && nz (y :: r)
theorem nz_app : ∀ (A B : List Int), nz (A ++ B) = true ↔ nz A = true ∧ nz B = true ∧ ¬ (A.getLast? = some 0 ∧ B.head? = some 0)
  | [], B => by simp [nz]
  | [x], [] => by simp [nz]
  | [x], y :: r => by
    show (!(decide (x = 0) && decide (y = 0)) && nz (y :: r)) = true ↔ _
    simp [nz]
    constructor
    · rintro ⟨h1, h2⟩
      exact ⟨h2, fun hx hy => h1.elim (fun z => z hx) (fun z => z hy)⟩
    · rintro ⟨h1, h2⟩
      exact ⟨(Classical.em (x = 0)).elim (fun a => .inr (h2 a)) .inl, h1⟩
  | x :: y :: r, B => by
    have ih := nz_app (y :: r) B
    show (!(decide (x = 0) && decide (y = 0)) && nz ((y :: r) ++ B)) = true ↔ (!(decide (x = 0) && decide (y = 0)) && nz (y :: r)) = true ∧ _
    rw [Bool.and_eq_true, Bool.and_eq_true, ih, List.getLast?_cons_cons]
    constructor
    · rintro ⟨h1, h2, h3, h4⟩
      exact ⟨⟨h1, h2⟩, h3, h4⟩
    · rintro ⟨⟨h1, h2⟩, h3, h4⟩
      exact ⟨h1, h2, h3, h4⟩
def nums (F : List Int) : List Int := F.filter fun x => decide (x ≠ 0)
structure IsForm (F : List Int) : Prop where
  sep : nz F = true
  ord : IsOrd (nums F)
  ne : F ≠ []
theorem form0 : IsForm [0] := ⟨rfl, isOrd_nil, by simp⟩
def cntz (F : List Int) : Nat := (F.filter fun x => decide (x = 0)).length
/-- the places of the slots -/
def zs (F : List Int) : List Int := (irange 0 F.length).filter fun k => decide (F.getD k.toNat 0 = 0)
theorem by_irange' (F : List Int) : F = (irange 0 F.length).map fun i => F.getD i.toNat 0 := List.ext_getElem? fun i => by
  by_cases h : i < F.length
  · rw [List.getElem?_map, irange_get _ _ _ h, getD_get h]
    show _ = some (F.getD ((0 : Int) + i).toNat 0)
    rw [show ((0 : Int) + i).toNat = i by omega]
  · rw [List.getElem?_eq_none (by omega), List.getElem?_eq_none (by rw [List.length_map, irange_len]; omega)]
theorem zs_len (F : List Int) : (zs F).length = cntz F := by
  unfold zs cntz
  conv => rhs; rw [by_irange' F]
  rw [List.filter_map, List.length_map]
  rfl
theorem zs_mem {F : List Int} {k : Int} : k ∈ zs F ↔ 0 ≤ k ∧ k < F.length ∧ F.getD k.toNat 0 = 0 := by
  unfold zs
  rw [List.mem_filter, irange_mem, decide_eq_true_eq]
  constructor
  · rintro ⟨⟨h1, h2⟩, h3⟩
    exact ⟨h1, by omega, h3⟩
  · rintro ⟨h1, h2, h3⟩
    exact ⟨⟨h1, by omega⟩, h3⟩
/-- the place of a slot -/
def zat (F : List Int) (s : Int) : Int := (zs F).getD (s - 1).toNat 0
structure Valid (F : List Int) (s w : Int) : Prop where
  s1 : 1 ≤ s
  s2 : s ≤ cntz F
  w0 : 0 ≤ w
  w3 : w ≤ 3
theorem zat_ok {F : List Int} {s w : Int} (h : Valid F s w) : 0 ≤ zat F s ∧ zat F s < F.length ∧ F.getD (zat F s).toNat 0 = 0 := by
  have hl := zs_len F
  have h1 := h.s1
  have h2 := h.s2
  exact zs_mem.mp (at0_mem (t := zs F) (i := (s - 1).toNat) (by omega))
def fillW (w n : Int) : List Int := if w = 0 then [0, n, 0] else if w = 1 then [n, 0] else if w = 2 then [0, n] else [n]
def putF (F : List Int) (s w : Int) : List Int := F.take (zat F s).toNat ++ fillW w (mx F + 1) ++ F.drop ((zat F s).toNat + 1)
theorem split_at {F : List Int} {a : Nat} (h : a < F.length) (h0 : F.getD a 0 = 0) : F = F.take a ++ 0 :: F.drop (a + 1) := by
  conv => lhs; rw [← List.take_append_drop a F]
  rw [List.drop_eq_getElem_cons h]
  have : F[a] = 0 := by
    rw [List.getD_eq_getElem?_getD, List.getElem?_eq_getElem h] at h0
    exact h0
  rw [this]
theorem nums_app (A B : List Int) : nums (A ++ B) = nums A ++ nums B := List.filter_append ..
theorem nums_fill {w n : Int} (hn : n ≠ 0) : nums (fillW w n) = [n] := by
  unfold fillW nums
  split
  · simp [hn]
  · split
    · simp [hn]
    · split
      · simp [hn]
      · simp [hn]
theorem nz_fill {w n : Int} (hn : n ≠ 0) : nz (fillW w n) = true := by
  unfold fillW
  split
  · simp [nz, hn]
  · split
    · simp [nz, hn]
    · split
      · simp [nz, hn]
      · simp [nz]
theorem fill_ne {w n : Int} : fillW w n ≠ [] := by
  unfold fillW
  split
  · simp
  · split
    · simp
    · split <;> simp
theorem mx_form {F : List Int} (h : IsForm F) (h0 : (0 : Int) ∈ F) : mx F = (nums F).length := by
  refine mx_is ?_ fun y hy => ?_
  · by_cases hp : nums F = []
    · rw [hp]
      exact h0
    · have hl := List.length_pos_iff.mpr hp
      exact (List.mem_filter.mp (h.ord.mem (x := ((nums F).length : Int)) (by omega) (Int.le_refl _))).1
  · by_cases e : y = 0
    · omega
    · exact h.ord.hi y (List.mem_filter.mpr ⟨hy, decide_eq_true e⟩)
theorem form_put {F : List Int} {s w : Int} (h : IsForm F) (v : Valid F s w) : IsForm (putF F s w) := by
  obtain ⟨z0, z1, z2⟩ := zat_ok v
  have hs := split_at (F := F) (a := (zat F s).toNat) (by omega) z2
  have h0 : (0 : Int) ∈ F := by
    rw [hs]
    exact List.mem_append_right _ List.mem_cons_self
  have hm := mx_form h h0
  have hn : mx F + 1 ≠ 0 := by omega
  unfold putF
  generalize hA : F.take (zat F s).toNat = A at *
  generalize hB : F.drop ((zat F s).toNat + 1) = B at *
  have hsep := h.sep
  rw [hs, nz_app, show (0 : Int) :: B = [0] ++ B from rfl, nz_app] at hsep
  obtain ⟨a1, ⟨a2, a3, a4⟩, a5⟩ := hsep
  have b4 : ¬ B.head? = some 0 := fun e => a4 ⟨rfl, e⟩
  have b5 : ¬ A.getLast? = some 0 := fun e => a5 ⟨e, rfl⟩
  have hnum : nums F = nums A ++ nums B := by
    conv => lhs; rw [hs]
    rw [nums_app]
    congr 1
  refine ⟨?_, ?_, ?_⟩
  · rw [List.append_assoc, nz_app, nz_app]
    exact ⟨a1, ⟨nz_fill hn, a3, fun e => b4 e.2⟩, fun e => b5 e.1⟩
  · rw [nums_app, nums_app, nums_fill hn, hm]
    have hi := isOrd_insert h.ord (nums A).length
    rw [hnum, List.take_left, List.drop_left] at hi
    rw [hnum]
    have e : (((nums A ++ nums B).length + 1 : Nat) : Int) = ((nums A ++ nums B).length : Int) + 1 := rfl
    rw [e] at hi
    exact hi
  · intro e
    rw [List.append_assoc] at e
    exact fill_ne (List.append_eq_nil_iff.mp (List.append_eq_nil_iff.mp e).2).1
theorem fill_len (w n : Int) : (fillW w n).length ≤ 3 := by
  unfold fillW
  split
  · simp
  · split
    · simp
    · split <;> simp
theorem put_len {F : List Int} {s w : Int} (v : Valid F s w) : (putF F s w).length ≤ F.length + 2 := by
  obtain ⟨z0, z1, z2⟩ := zat_ok v
  have := fill_len w (mx F + 1)
  unfold putF
  rw [List.length_append, List.length_append, List.length_take, List.length_drop]
  omega
def OkW (F : List Int) : List (Int × Int) → Prop
  | [] => True
  | l :: r => Valid F l.1 l.2 ∧ OkW (putF F l.1 l.2) r
def lead (F : List Int) : List (Int × Int) → List Int
  | [] => F
  | l :: r => lead (putF F l.1 l.2) r
theorem lead_form : ∀ (w : List (Int × Int)) (F : List Int), IsForm F → OkW F w → IsForm (lead F w) ∧ (lead F w).length ≤ F.length + 2 * w.length
  | [], F, h, _ => ⟨h, Nat.le_refl _⟩
  | x :: w, F, h, k => by
    obtain ⟨h1, h2⟩ := lead_form w _ (form_put h k.1) k.2
    have := put_len k.1
    refine ⟨h1, ?_⟩
    show (lead (putF F x.1 x.2) w).length ≤ _
    rw [List.length_cons]
    omega
end Z

set_option Elab.async false
set_option linter.all false
set_option maxRecDepth 100000
set_option autoImplicit false
set_option maxHeartbeats 1000000
namespace Z
open PySem PySem.Spec PyProof.Rows L2
abbrev DkP : List (List Int × Addr × V) → List (List Int × Addr × Value) → Prop := Paired fun p q => p.1 = q.1 ∧ p.2.1 = q.2.1 ∧ RelV p.2.2 q.2.2
section
variable {X : Cx} {pins : List (Addr × Obj)} {σ : L2.St} {H G : Hp} {s : Shared} {l : Addr} {es : List (List Int × Addr × V)} {ds : List (List Int × D)}
end
section
variable {K : PySem.W.Frag} {F : Fr} {G H : Hp} {Mu : Option Addr} {Γ : En} {σ : St}
end
section
variable {X : Cx} {i j : Nat} {x y : Str} {a e : Expr} {px py pt pos pd : Pos} {kt k2 : Nat} {pt2 : Pos}
end
end Z

set_option Elab.async false
set_option linter.all false
set_option maxRecDepth 100000
set_option autoImplicit false
set_option maxHeartbeats 1000000
namespace Z
open PySem PySem.Spec PyProof.Rows L2
/-- the form that holds the numbers below k; b: whether a slot is open ahead -/
def col (k : Int) : Bool → List Int → List Int
  | _, [] => []
  | b, x :: r => if k ≤ x then (if b then col k true r else 0 :: col k true r) else x :: col k false r
def lo (k : Int) : Bool → List Int → Bool
  | b, [] => b
  | _, x :: r => lo k (decide (k ≤ x)) r
def wst (k : Int) (p : List Int) (j : Int) : Bool := decide (k ≤ p.getD j.toNat 0) && (decide (j = 0) || !decide (k ≤ p.getD (j - 1).toNat 0))
def wlf (k : Int) (p : List Int) (a : Int) : Bool := decide (0 < a) && decide (k ≤ p.getD (a - 1).toNat 0)
def wrt (k : Int) (p : List Int) (a : Int) : Bool := decide (a + 1 < p.length) && decide (k ≤ p.getD (a + 1).toNat 0)
def bz (b : Bool) : Int := if b then 1 else 0
/-- the letter of the number k, a its place -/
def lwA (k : Int) (p : List Int) (a : Nat) : Int × Int := ((((irange 0 (a + 1)).filter (wst k p)).length : Nat), 3 - 2 * bz (wrt k p a) - bz (wlf k p a))
def lw (p : List Int) (k : Int) : Int × Int := lwA k p (p.idxOf k)
def lword (p : List Int) : List (Int × Int) := (irange 1 p.length).map (lw p)
end Z

set_option Elab.async false
set_option linter.all false
set_option maxRecDepth 100000
set_option autoImplicit false
set_option maxHeartbeats 1000000
namespace Z
open PySem PySem.Spec PyProof.Rows L2
end Z

set_option Elab.async false
set_option linter.all false
set_option maxRecDepth 100000
set_option autoImplicit false
set_option maxHeartbeats 1000000
namespace Z
open PySem PySem.Spec PyProof.Rows L2
def letsI (F : List Int) : List (Int × Int) := (irange 1 (cntz F)).flatMap fun s => [(s, 0), (s, 1), (s, 2), (s, 3)]
abbrev WF : Type := List (Int × Int) × List Int
def wwL (m : Int) (r : WF) (l : Int × Int) : List WF := if (cntz (Z.putF r.2 l.1 l.2) : Int) ≤ m then [(r.1 ++ [l], Z.putF r.2 l.1 l.2)] else []
def wwIn (m : Int) (r : WF) : List WF := (letsI r.2).flatMap (wwL m r)
def wwRows (n : Nat) : Nat → List WF
  | 0 => [([], [0])]
  | k + 1 => (wwRows n k).flatMap (wwIn ((n : Int) - k - 1))
def ww (n : Nat) : List WF := (wwRows n n).filter fun r => decide ((0 : Int) ∉ r.2)
structure WwOk (k : Nat) (r : WF) : Prop where
  ok : OkW [0] r.1
  ld : lead [0] r.1 = r.2
  len : r.1.length = k
theorem WwOk.form {k : Nat} {r : WF} (h : WwOk k r) : IsForm r.2 ∧ r.2.length ≤ 1 + 2 * k := by
  have := lead_form r.1 [0] form0 h.ok
  rw [h.ld, h.len] at this
  exact this
structure WwAll (n c : Nat) : Prop where
  wd : ∀ r ∈ ww n, r.1 = lword r.2
  nd : ((ww n).map (·.2)).Nodup
  len : (ww n).length = c
  few : ∀ k, k ≤ n → (wwRows n k).length ≤ 40000
end Z

set_option Elab.async false
set_option linter.all false
set_option maxRecDepth 100000
set_option autoImplicit false
set_option maxHeartbeats 1000000
namespace Z
open PySem PySem.Spec PyProof.Rows L2
section
variable {X : Cx} {e st : Expr} {p2 pos : Pos} {te ts : TE}
end
end Z

set_option Elab.async false
set_option linter.all false
set_option maxRecDepth 100000
set_option autoImplicit false
set_option maxHeartbeats 1000000
namespace Z
open PySem PySem.Spec PyProof.Rows L2
/-- whether p shows q -/
def Shows (p q : List Int) : Prop := ∃ t, Mt p q q.length t
theorem PL_shows {p q : List Int} (ip : IsOrd p) (iq : q.Nodup) : PL p q ≠ [] ↔ Shows p q := by
  constructor
  · intro h
    obtain ⟨t, ht⟩ := List.exists_mem_of_ne_nil _ h
    exact ⟨t, (mem_PL ip iq t).mp ht⟩
  · rintro ⟨t, ht⟩ e
    have := (mem_PL ip iq t).mpr ht
    rw [e] at this
    cases this
theorem shows_len {p q : List Int} (h : Shows p q) : q.length ≤ p.length := by
  obtain ⟨t, m⟩ := h
  have key : ∀ i, i < q.length → (i : Int) ≤ at0 t i := by
    intro i
    induction i with
    | zero => exact fun h => m.pl.lo _ (at0_mem (by rw [m.pl.len]; exact h))
    | succ i ih =>
      intro h
      have := ih (by omega)
      have := m.asc i (i + 1) (by omega) h
      omega
  by_cases h0 : q.length = 0
  · omega
  · have a := key (q.length - 1) (by omega)
    have b := m.pl.hi _ (at0_mem (t := t) (i := q.length - 1) (by rw [m.pl.len]; omega))
    omega
end Z

set_option Elab.async false
set_option linter.all false
set_option maxRecDepth 100000
set_option autoImplicit false
set_option maxHeartbeats 1000000
namespace Z
open PySem PySem.Spec PyProof.Rows L2
end Z

set_option Elab.async false
set_option linter.all false
set_option maxRecDepth 100000
set_option autoImplicit false
set_option maxHeartbeats 1000000
namespace Z
open PySem PySem.Spec PyProof.Rows L2
end Z

set_option Elab.async false
set_option linter.all false
set_option maxRecDepth 100000
set_option autoImplicit false
set_option maxHeartbeats 1000000
namespace Z
open PySem PySem.Spec PyProof.Rows L2
end Z

set_option Elab.async false
set_option linter.all false
set_option maxRecDepth 100000
set_option autoImplicit false
set_option maxHeartbeats 1000000
namespace Z
open PySem PySem.Spec PyProof.Rows L2
end Z

set_option Elab.async false
set_option linter.all false
set_option maxRecDepth 100000
set_option autoImplicit false
set_option maxHeartbeats 1000000
namespace Z
open PySem PySem.Spec PyProof.Rows L2
/-- s compares as q -/
def Cmp (s q : List Int) : Prop := s.length = q.length ∧ ∀ i j, i < q.length → j < q.length → (at0 s i < at0 s j ↔ at0 q i < at0 q j)
theorem shows_sub {c q : List Int} : Shows c q ↔ ∃ s, s.Sublist c ∧ Cmp s q := by
  constructor
  · rintro ⟨t, m⟩
    have hlt : ∀ x ∈ t, x.toNat < c.length := fun x hx => by
      have := m.pl.lo x hx
      have := m.pl.hi x hx
      omega
    have hp : t.Pairwise (· < ·) := by
      rw [List.pairwise_iff_getElem]
      intro i j hi hj hij
      have := m.asc i j hij (by rw [← m.pl.len]; exact hj)
      unfold at0 at this
      rw [List.getD_eq_getElem?_getD, List.getD_eq_getElem?_getD, List.getElem?_eq_getElem hi, List.getElem?_eq_getElem hj] at this
      exact this
    have hs := List.map_getElem_sublist (l := c) (is := t.pmap (fun x h => (⟨x.toNat, h⟩ : Fin c.length)) hlt) (by
      rw [List.pairwise_pmap]
      refine hp.imp_of_mem fun {a b} ha hb hab h1 h2 => ?_
      have := m.pl.lo a ha
      show a.toNat < b.toNat
      omega)
    have e : (t.pmap (fun x h => (⟨x.toNat, h⟩ : Fin c.length)) hlt).map (fun x => c[x]) = t.map (pAt c) := by
      rw [List.map_pmap, ← List.pmap_eq_map (p := fun x => x.toNat < c.length) (f := pAt c) (H := hlt)]
      refine List.pmap_congr_left _ fun x hx h1 h2 => ?_
      show c[x.toNat] = c.getD x.toNat 0
      rw [List.getD_eq_getElem?_getD, List.getElem?_eq_getElem h1]
      rfl
    rw [e] at hs
    refine ⟨_, hs, by rw [List.length_map, m.pl.len], fun i j hi hj => ?_⟩
    rw [at0_map (by rw [m.pl.len]; exact hi), at0_map (by rw [m.pl.len]; exact hj)]
    exact m.ord i j hi hj
  · rintro ⟨s, hs, hl, ho⟩
    obtain ⟨is, rfl, hp⟩ := List.sublist_eq_map_getElem hs
    rw [List.length_map] at hl
    have g : ∀ i (h : i < q.length), at0 (is.map fun i : Fin c.length => ((i.val : Nat) : Int)) i = ((is[i]'(by omega)).val : Int) := fun i h => by
      unfold at0
      rw [List.getD_eq_getElem?_getD, List.getElem?_map, List.getElem?_eq_getElem (by omega)]
      rfl
    have g2 : ∀ i (h : i < q.length), at0 (is.map fun x : Fin c.length => c[x]) i = pAt c (at0 (is.map fun i : Fin c.length => ((i.val : Nat) : Int)) i) := fun i h => by
      rw [g i h]
      unfold at0 pAt
      rw [List.getD_eq_getElem?_getD, List.getElem?_map, List.getElem?_eq_getElem (by omega), Int.toNat_natCast, List.getD_eq_getElem?_getD, List.getElem?_eq_getElem (is[i]'(by omega)).isLt]
      rfl
    refine ⟨is.map fun i : Fin c.length => ((i.val : Nat) : Int), ⟨by rw [List.length_map, hl], fun x hx => ?_, fun x hx => ?_⟩, fun i j hij hj => ?_, fun i j hi hj => ?_⟩
    · obtain ⟨i, _, rfl⟩ := List.mem_map.mp hx
      omega
    · obtain ⟨i, _, rfl⟩ := List.mem_map.mp hx
      have := i.isLt
      omega
    · rw [g i (by omega), g j hj]
      have := List.pairwise_iff_getElem.mp hp i j (by omega) (by omega) hij
      exact Int.ofNat_lt.mpr this
    · rw [← g2 i hi, ← g2 j hj]
      exact ho i j hi hj
theorem shows_mono {c d q : List Int} (h : c.Sublist d) (k : Shows c q) : Shows d q := by
  obtain ⟨s, hs, hc⟩ := shows_sub.mp k
  exact shows_sub.mpr ⟨s, hs.trans h, hc⟩
/-- what compares alike shows alike -/
theorem shows_cmp {c d q : List Int} (hl : c.length = d.length) (h : ∀ i j, i < c.length → j < c.length → (at0 c i < at0 c j ↔ at0 d i < at0 d j)) (k : Shows c q) : Shows d q := by
  obtain ⟨t, m⟩ := k
  refine ⟨t, ⟨m.pl.len, m.pl.lo, fun x hx => by rw [← hl]; exact m.pl.hi x hx⟩, m.asc, fun i j hi hj => ?_⟩
  have a1 := m.pl.lo _ (at0_mem (t := t) (i := i) (by rw [m.pl.len]; exact hi))
  have a2 := m.pl.hi _ (at0_mem (t := t) (i := i) (by rw [m.pl.len]; exact hi))
  have b1 := m.pl.lo _ (at0_mem (t := t) (i := j) (by rw [m.pl.len]; exact hj))
  have b2 := m.pl.hi _ (at0_mem (t := t) (i := j) (by rw [m.pl.len]; exact hj))
  rw [← m.ord i j hi hj]
  exact (h (at0 t i).toNat (at0 t j).toNat (by omega) (by omega)).symm
/-- rows of unlike numbers behind the form's -/
structure RowOk (F row : List Int) : Prop where
  len : row.length ≤ cntz F
  nd : row.Nodup
  lo : ∀ x ∈ row, mx F < x
  hi : ∀ x ∈ row, x ≤ mx F + cntz F
end Z

set_option Elab.async false
set_option linter.all false
set_option maxRecDepth 100000
set_option autoImplicit false
set_option maxHeartbeats 1000000
namespace Z
open PySem PySem.Spec PyProof.Rows L2
def shB (p q : List Int) : Bool := !decide (PL p q = [])
theorem shB_iff {p q : List Int} (ip : IsOrd p) (iq : IsOrd q) : shB p q = true ↔ Shows p q := by
  unfold shB
  rw [← PL_shows ip iq.nd]
  simp
def letB (P : List (List Int)) (p : List Int) : Bool := P.all fun q => !shB p q
theorem letB_iff {P : List (List Int)} {p : List Int} (hP : ∀ q ∈ P, IsOrd q) (ip : IsOrd p) : letB P p = true ↔ ∀ q ∈ P, ¬ Shows p q := by
  unfold letB
  rw [List.all_eq_true]
  refine forall_congr' fun q => forall_congr' fun hq => ?_
  rw [Bool.not_eq_true', ← shB_iff ip (hP q hq)]
  simp
inductive Exp : List Int → List Int → Prop
  | nil : Exp [] []
  | num {x : Int} {F e : List Int} : x ≠ 0 → Exp F e → Exp (x :: F) (x :: e)
  | slot {b F e : List Int} : b ≠ [] → Exp F e → Exp (0 :: F) (b ++ e)
end Z

set_option Elab.async false
set_option linter.all false
set_option maxRecDepth 100000
set_option autoImplicit false
set_option maxHeartbeats 1000000
namespace Z
open PySem PySem.Spec PyProof.Rows L2
end Z

set_option Elab.async false
set_option linter.all false
set_option maxRecDepth 100000
set_option autoImplicit false
set_option maxHeartbeats 2000000
namespace Z
open PySem PySem.Spec PyProof.Rows L2
abbrev NKey := NestedKey
mutual
/-- no texts within -/
def ntx : NKey → Bool
  | .text _ => false
  | .none => true
  | .num _ => true
  | .tup ks => ntxs ks
def ntxs : List NKey → Bool
  | [] => true
  | k :: ks => ntx k && ntxs ks
end
section
variable {P : Program} {w : World}
/-- two small questions that the table asks of what it stores -/
structure Tame (P : Program) (w : World) (n : Nat) (s : Shared) (v : Value) : Prop where
  cls : ∀ (A : Around) (E : Value → Shared → Prop) (Q : Bool → Shared → Prop), Q false s → wpAny (model P w) A (ofAClassStatement n v) Q E s
  hsh : ∀ (A : Around) (E : Value → Shared → Prop) (Q : Bool → Shared → Prop), Q true s → wpAny (model P w) A (hashByValue n v) Q E s
theorem Tame.tup {n : Nat} {s : Shared} {a : Addr} {o : Obj} {its : Array Value} {m : Nat} (ho : s.heap.get? a = some o) (hc : o.cls = .type "tuple") (hd : o.data = .seq its m) (hi : ∀ v ∈ its.toList, Tame P w n s v) : Tame P w (n + 1) s (.ref a) := by
  have ty : s.TypeIs (.ref a) "tuple" := ⟨o, ho, hc⟩
  constructor
  · intro A E Q q
    unfold ofAClassStatement
    refine wpAny_bind (wpAny_typeOf ty ?_)
    simp only [show (("tuple" : String) == "tuple") = true by decide, if_true]
    try refine wpAny_bind (wpAny_pure ?_)
    simp only [Bool.not_true, Bool.false_eq_true, if_false]
    try refine wpAny_bind (wpAny_pure ?_)
    refine wpAny_bind (wpAny_seqItems (items := its) ho hd ?_)
    dsimp only
    refine wpAny_bind ?_
    rw [← Array.forIn_toList]
    refine wpAny_forIn_list _ (fun left acc now => (acc.1 = none ∧ now = s) ∧ ∀ v ∈ left, Tame P w n s v) _ ?_ ?_ _ _ ⟨⟨rfl, rfl⟩, hi⟩
    · rintro v left acc now ⟨⟨e1, rfl⟩, al⟩
      refine wpAny_bind ((al v List.mem_cons_self).cls _ _ _ ?_)
      simp only [Bool.false_eq_true, if_false]
      exact wpAny_pure ⟨⟨rfl, rfl⟩, fun z hz => al z (List.mem_cons_of_mem _ hz)⟩
    · rintro ⟨acc, u⟩ now ⟨⟨e1, rfl⟩, _⟩
      cases (show acc = none from e1)
      exact wpAny_pure q
  · intro A E Q q
    unfold hashByValue
    refine wpAny_bind (wpAny_specialOf ty F.slot_tuple_hash.lookup ?_)
    dsimp only
    refine wpAny_bind (wpAny_seqItems (items := its) ho hd ?_)
    refine wpAny_bind ?_
    show wpAny _ _ (forIn its _ _) _ _ s
    rw [← Array.forIn_toList]
    refine wpAny_forIn_list _ (fun left acc now => (acc.1 = none ∧ now = s) ∧ ∀ v ∈ left, Tame P w n s v) _ ?_ ?_ _ _ ⟨⟨rfl, rfl⟩, hi⟩
    · rintro v left acc now ⟨⟨e1, rfl⟩, al⟩
      refine wpAny_bind ((al v List.mem_cons_self).hsh _ _ _ ?_)
      simp only [Bool.not_true, Bool.false_eq_true, if_false]
      exact wpAny_pure ⟨⟨rfl, rfl⟩, fun z hz => al z (List.mem_cons_of_mem _ hz)⟩
    · rintro ⟨acc, u⟩ now ⟨⟨e1, rfl⟩, _⟩
      cases (show acc = none from e1)
      exact wpAny_pure q
theorem Tame.plain {n : Nat} {s : Shared} {v : Value} (h1 : ofAClassStatement n v = pure false) (h2 : hashByValue n v = pure true) : Tame P w n s v :=
  ⟨fun A E Q q => by rw [h1]; exact wpAny_pure q, fun A E Q q => by rw [h2]; exact wpAny_pure q⟩
end
end Z

set_option Elab.async false
set_option linter.all false
set_option maxRecDepth 100000
set_option autoImplicit false
set_option maxHeartbeats 4000000
namespace Z
open PySem PySem.Spec PyProof.Rows L2
/-- a member: the tuple at b is the key k -/
structure Mem (h : Heap) (k : NKey) (b : Addr) : Prop where
  is : NestedIs h k (.ref b)
  dep : k.depth ≤ 8
  ntx : ntx k = true
abbrev Row : Type := Addr × NKey
section
variable {P : Program} {w : World} {A : Around} {E : Value → Shared → Prop} {s : Shared}
theorem Mem.more {h h' : Heap} {k : NKey} {b : Addr} (m : Mem h k b) (e : ∀ c o vs n, h.get? c = some o → o.data = .seq vs n → h'.get? c = some o) : Mem h' k b := ⟨NestedIs.at e _ _ m.is, m.dep, m.ntx⟩
def hOf (w : World) (p : Row) : Int := p.2.hash w
structure NSet (w : World) (h : Heap) (a : Addr) (L : List Row) (es : Array (Int × Value)) (ep : Nat) (t : SetTable) : Prop where
  obj : ∃ o, h.get? a = some o ∧ o.ExactSet ∧ o.data = .set es ep t
  ents : es.toList = L.map fun p => (hOf w p, Value.ref p.1)
  tab : TabOk t (L.map (hOf w))
  nd : (L.map Prod.snd).Nodup
  mem : ∀ p ∈ L, Mem h p.2 p.1
  pln : t.plain = true
  led : w.params.followText "set-order" = true ∨ t.led = true
  room : L.length * 5 < t.mask * 3
  few : L.length < 64
variable {a : Addr} {L : List Row} {es : Array (Int × Value)} {ep : Nat} {t : SetTable}
theorem NSet.esz (S : NSet w s.heap a L es ep t) : es.size = L.length := by
  rw [← Array.length_toList, S.ents, List.length_map]
theorem NSet.psz (S : NSet w s.heap a L es ep t) : t.place.toList.length = L.length := by
  rw [Array.length_toList, S.tab.sz, List.length_map]
theorem NSet.fit (S : NSet w s.heap a L es ep t) : t.fits es.size = true := by
  have r := S.room
  have z := S.psz
  rw [Array.length_toList] at z
  unfold SetTable.fits SetTable.fill
  rw [S.tab.dm, S.esz, z]
  simp
  omega
theorem NSet.stays (S : NSet w s.heap a L es ep t) : ¬ t.gaveWay = true := by
  have := mask_odd S.tab.mok
  unfold SetTable.gaveWay
  rw [this]
  decide
end
end Z

set_option Elab.async false
set_option linter.all false
set_option maxRecDepth 100000
set_option autoImplicit false
set_option maxHeartbeats 4000000
namespace Z
open PySem PySem.Spec PyProof.Rows L2
section
variable {P : Program} {w : World} {A : Around} {E : Value → Shared → Prop} {s : Shared}
abbrev entOf (w : World) (p : Row) : Int × Value := (hOf w p, Value.ref p.1)
variable {a : Addr} {L : List Row} {es : Array (Int × Value)} {ep : Nat} {t : SetTable}
end
end Z

set_option Elab.async false
set_option linter.all false
set_option maxRecDepth 100000
set_option autoImplicit false
set_option maxHeartbeats 4000000
namespace Z
open PySem PySem.Spec PyProof.Rows L2
def Held (w : World) (h : Heap) (a : Addr) (L : List Row) : Prop := ∃ (es : Array (Int × Value)) (ep : Nat) (t : SetTable), (∃ o, h.get? a = some o ∧ o.ExactSet ∧ o.data = .set es ep t) ∧ es.toList = L.map (entOf w) ∧ TabOk t (L.map (hOf w)) ∧ (L.map Prod.snd).Nodup ∧
  t.plain = true ∧ (w.params.followText "set-order" = true ∨ t.led = true) ∧ L.length * 5 < t.mask * 3 ∧ L.length < 64
theorem NSet.held {w : World} {h : Heap} {a : Addr} {L : List Row} {es : Array (Int × Value)} {ep : Nat} {t : SetTable} (S : NSet w h a L es ep t) : Held w h a L := ⟨es, ep, t, S.obj, S.ents, S.tab, S.nd, S.pln, S.led, S.room, S.few⟩
section
variable {X : Cx} {pins : List (Addr × Obj)} {σ : St} {G H : Hp} {s : Shared}
mutual
theorem nested_of (I : L2.Inv X pins σ H s) (g : Same G H) : ∀ (k : NKey) (v : V) (u : Value), ntx k = true → Dq X.K G v k.data → RelV v u → NestedIs s.heap k u
  | .none, v, u, _, d, r => by
    rw [NestedKey.data] at d
    cases d
    cases r
    exact .none
  | .num i, v, u, _, d, r => by
    rw [NestedKey.data] at d
    cases d
    obtain ⟨t, rfl⟩ := r
    exact .int i t
  | .text x, v, u, t, _, _ => by cases (show false = true from t)
  | .tup ks, v, u, t, d, r => by
    rw [NestedKey.data] at d
    cases d with
    | tup ht ha =>
      cases r
      obtain ⟨its, rv, ⟨o, ho, hc, n, hd⟩, _⟩ := I.tuple (ht.mono g).sq
      exact .tup ho hc hd (by simpa using nested_all I g ks _ _ t ha rv)
theorem nested_all (I : L2.Inv X pins σ H s) (g : Same G H) : ∀ (ks : List NKey) (vs : List V) (us : List Value), ntxs ks = true → DqAll X.K G vs (NestedKey.datas ks) → Vals vs us → NestedAll s.heap ks us
  | [], vs, us, _, d, r => by
    rw [NestedKey.datas] at d
    cases d
    cases r
    exact .nil
  | k :: ks, vs, us, t, d, r => by
    rw [NestedKey.datas] at d
    rw [ntxs, Bool.and_eq_true] at t
    cases d with
    | cons d1 d2 =>
      cases r with
      | cons r1 r2 => exact .cons (nested_of I g k _ _ t.1 d1 r1) (nested_all I g ks _ _ t.2 d2 r2)
end
/-- a row's key, seen in the layer -/
def RowAt (K : PySem.W.Frag) (G : Hp) (p : Row) : Prop := Dq K G (.ref p.1) p.2.data ∧ p.2.depth ≤ 8 ∧ ntx p.2 = true
theorem RowAt.up {K : PySem.W.Frag} {G G' : Hp} {p : Row} (r : RowAt K G p) (g : Same G G') : RowAt K G' p := ⟨dp_mono g _ _ r.1, r.2⟩
theorem RowAt.mem {p : Row} (r : RowAt X.K G p) (I : L2.Inv X pins σ H s) (g : Same G H) : Mem s.heap p.2 p.1 := ⟨nested_of I g _ _ _ r.2.2 r.1 rfl, r.2.1, r.2.2⟩
end
end Z

set_option Elab.async false
set_option linter.all false
set_option maxRecDepth 100000
set_option autoImplicit false
set_option maxHeartbeats 4000000
namespace Z
open PySem PySem.Spec PyProof.Rows L2 PpSet
section
variable {X : Cx}
end
end Z

set_option Elab.async false
set_option linter.all false
set_option maxRecDepth 100000
set_option autoImplicit false
set_option maxHeartbeats 4000000
namespace Z
open PySem PySem.Spec PyProof.Rows L2
theorem okSort_perm {xs ys : List D} (hp : xs.Perm ys) (h : okSort ys = true) : okSort xs = true := by
  unfold okSort at *
  simp only [Bool.and_eq_true, Bool.or_eq_true, List.all_eq_true, decide_eq_true_eq] at h ⊢
  obtain ⟨⟨⟨h1, h2⟩, h3⟩, h4⟩ := h
  have m := fun d => (hp.mem_iff (a := d)).mp
  exact ⟨⟨⟨fun a ha b hb => h1 a (m a ha) b (m b hb), h2.imp (fun z a ha => z a (m a ha)) fun z a ha => z a (m a ha)⟩, by rw [hp.length_eq]; exact h3⟩, fun a ha => h4 a (m a ha)⟩
theorem perm_map_of {α β : Type} (f : α → β) {vs : List β} {M : List β} (hp : vs.Perm M) : ∀ L : List α, M = L.map f → ∃ L1 : List α, vs = L1.map f ∧ L1.Perm L := by
  induction hp with
  | nil => intro L e; exact ⟨L, e, .refl _⟩
  | cons x _ ih =>
    intro L e
    cases L with
    | nil => cases e
    | cons y L =>
      rw [List.map_cons] at e
      injection e with e1 e2
      obtain ⟨L1, q1, q2⟩ := ih L e2
      exact ⟨y :: L1, by rw [List.map_cons, ← e1, q1], .cons y q2⟩
  | swap x y l =>
    intro L e
    match L, e with
    | a :: b :: L, e =>
      simp only [List.map_cons, List.cons.injEq] at e
      obtain ⟨e1, e2, e3⟩ := e
      exact ⟨b :: a :: L, by rw [List.map_cons, List.map_cons, ← e1, ← e2, ← e3], .swap _ _ _⟩
  | trans _ _ ih1 ih2 =>
    intro L e
    obtain ⟨L1, q1, q2⟩ := ih2 L e
    obtain ⟨L2, r1, r2⟩ := ih1 L1 q1
    exact ⟨L2, r1, r2.trans q2⟩
end Z

set_option Elab.async false
set_option linter.all false
set_option maxRecDepth 100000
set_option autoImplicit false
set_option maxHeartbeats 4000000
namespace Z
open PySem PySem.Spec PyProof.Rows L2
section
variable {prog : Program} {w : World} {A : Around} {E : Value → Shared → Prop} {s : Shared}
open PySem.W PySem.Calls in
/-- what comes of sorted(s): a new list of the members' values, in the order of their data -/
theorem sorted_members {a : Addr} {L : List Row} {es : Array (Int × Value)} {ep : Nat} {t : SetTable} {R : Value → D → Prop} {Q : Value → Shared → Prop} (S : NSet w s.heap a L es ep t) (hh : A.handled = none) (hu : A.units + 2 + 30 < cLine)
    (rel : ∀ p ∈ L, R (.ref p.1) p.2.data ∧ ∃ as, Reads s.heap (.ref p.1) p.2.data as) (ok : okSort (L.map fun p => p.2.data) = true)
    (h : ∀ (L1 : List Row) (s1 : Shared) (h' : Heap) (out : List Value) (c : Nat), L1.Perm L → (∀ b o, s.heap.get? b = some o → s1.heap.get? b = some o) → s.heap.objs.size ≤ s1.heap.objs.size → s1.gens = s.gens → s1.os = s.os → (∀ b o, s1.heap.get? b = some o → h'.get? b = some o) →
      h'.get? s1.heap.objs.size = some (seqObj "list" out.toArray c) → EachIs R out (sortD (L1.map fun p => p.2.data)) → Q (.ref s1.heap.objs.size) { s1 with heap := h' }) :
    wpAny (model prog w) A (call (.builtin "sorted") [.ref a]) Q E s := by
  obtain ⟨o, go, ex, dat⟩ := S.obj
  have few := S.few
  have big : 64 ≤ sizeLine := by rw [sizeLine_eq]; omega
  refine call_function_entry_kw kind_sorted plain_sorted entry_sorted (args_sorted1 _) ?_
  unfold Builtin.«sorted»
  refine wpAny_bind (m := checkCount "sorted" 1 1 _) (wpAny_pure ?_)
  refine wpAny_bind (collect_set (A := A.in1) hh ⟨o, go, ex.1, dat⟩ S.fit (by rw [S.esz]; unfold scanBound; omega) S.tab.ris S.led fun s1 vs k1 sz g1 o1 pm => ?_)
  rw [show es.toList.map (·.2) = L.map fun p => Value.ref p.1 by rw [S.ents, List.map_map]; rfl] at pm
  obtain ⟨L1, rfl, pL⟩ := perm_map_of (fun p : Row => Value.ref p.1) pm L rfl
  have len : (L1.map fun p => Value.ref p.1).length ≤ sizeLine := by rw [List.length_map, pL.length_eq]; omega
  refine wpAny_bind (wpAny_newList ?_ len)
  show wpAny (model prog w) _ _ _ _ { s1 with heap := s1.heap.push (seqObj "list" (L1.map fun p => Value.ref p.1).toArray 0) }
  generalize hvs : (L1.map fun p => Value.ref p.1) = vs at *
  have atL : (s1.heap.push (seqObj "list" vs.toArray 0)).get? s1.heap.objs.size = some (seqObj "list" vs.toArray 0) := Heap.get?_push_size _ rfl
  have k2 : ∀ b ob, s.heap.get? b = some ob → (sortingHeap (s1.heap.push (seqObj "list" vs.toArray 0)) s1.heap.objs.size vs).get? b = some ob := fun b ob q => sortingHeap_old (Nat.ne_of_lt (Heap.lt_size (k1 b ob q))) (Heap.get?_push_of_some _ (k1 b ob q))
  have each : ∀ M : List Row, (∀ p ∈ M, p ∈ L) → EachIs R (M.map fun p => Value.ref p.1) (M.map fun p => p.2.data) ∧ EachIs (fun v d => ∃ as, Reads s.heap v d as) (M.map fun p => Value.ref p.1) (M.map fun p => p.2.data) := by
    intro M
    induction M with
    | nil => intro _; exact ⟨.nil, .nil⟩
    | cons p M ih =>
      intro hm
      obtain ⟨a1, a2⟩ := ih fun q hq => hm q (List.mem_cons_of_mem _ hq)
      obtain ⟨b1, b2⟩ := rel p (hm p List.mem_cons_self)
      exact ⟨.cons b1 a1, .cons b2 a2⟩
  obtain ⟨er, rd⟩ := each L1 fun p hp => pL.mem_iff.mp hp
  rw [hvs] at er rd
  have okL := okSort_perm (pL.map fun p : Row => p.2.data) ok
  generalize hxs : (L1.map fun p => p.2.data) = xs at *
  obtain ⟨al, so, _, dep⟩ := okSort_ok okL
  have rd' : EachIs (fun v d => ∃ as, Reads (sortingHeap (s1.heap.push (seqObj "list" vs.toArray 0)) s1.heap.objs.size vs) v d as) vs xs := rd.mono fun _ _ ⟨as, r⟩ => ⟨as, PyProof.Rows.Reads.keeps k2 r⟩
  refine wpAny_bind (wpAny_holding (wpAny_call_entry_kw slot_list_sort ⟨_, atL, rfl⟩ entry_list_sort ?_ (args_list_sort _)))
  have srt := SortsAt.data (prog := prog) (w := w) (A := A.in1.in1) (s := { s1 with heap := sortingHeap (s1.heap.push (seqObj "list" vs.toArray 0)) s1.heap.objs.size vs }) rd' al so fun d hd => by
    have := dep d hd
    show A.units + 2 + d.depth < cLine
    omega
  refine list_sort_vals (s := { s1 with heap := s1.heap.push (seqObj "list" vs.toArray 0) }) atL srt len ⟨_, rfl, wpAny_pure ?_⟩
  obtain ⟨c, atS⟩ := sortedHeap_at (h := s1.heap.push (seqObj "list" vs.toArray 0)) (a := s1.heap.objs.size) (vs := vs) (n := 0) (out := (sortVals (dataKind (sortingHeap (s1.heap.push (seqObj "list" vs.toArray 0)) s1.heap.objs.size vs) xs) false vs vs).toArray) atL
  have out := sortVals_data (R := R) (enc := id) (bs := xs) (vs := vs) false er rd' (by rw [List.map_id]; exact al)
  rw [List.map_id] at out
  refine ⟨_, rfl, h L1 s1 _ _ c pL k1 sz g1 o1 (fun b ob q => ?_) atS ?_⟩
  · rw [sortedHeap_old (Nat.ne_of_lt (Heap.lt_size q)) (Heap.lt_size (Heap.get?_push_of_some _ q))]
    exact Heap.get?_push_of_some _ q
  · rw [hxs]
    exact out
end
section
variable {X : Cx}
end
end Z

set_option Elab.async false
set_option linter.all false
set_option maxRecDepth 100000
set_option autoImplicit false
set_option maxHeartbeats 4000000
namespace Z
open PySem PySem.Spec PyProof.Rows L2
section
variable {X : Cx} {b : Bool} {elt tg iter : Expr} {ifs : List Expr} {scope : Scope} {pos cpos p : Pos} {t : Tg} {mi : M (List D)} {mt : M Bool} {me : M D}
end
end Z

set_option Elab.async false
set_option linter.all false
set_option maxRecDepth 100000
set_option autoImplicit false
set_option maxHeartbeats 1000000
namespace Z
open PySem PySem.Spec PyProof.Rows L2
def slt (p q : List Int) : Prop := p.length < q.length ∨ (p.length = q.length ∧ p < q)
theorem slt_irrefl {p : List Int} : ¬ slt p p := fun h => by
  rcases h with h | ⟨_, h⟩
  · omega
  · exact List.lt_irrefl p h
theorem slt_trans {p q r : List Int} (h : slt p q) (k : slt q r) : slt p r := by
  rcases h with h | ⟨h, h'⟩ <;> rcases k with k | ⟨k, k'⟩
  · exact .inl (by omega)
  · exact .inl (by omega)
  · exact .inl (by omega)
  · exact .inr ⟨by omega, List.lt_trans h' k'⟩
theorem slt_tri (p q : List Int) : slt p q ∨ p = q ∨ slt q p := by
  rcases Nat.lt_trichotomy p.length q.length with h | h | h
  · exact .inl (.inl h)
  · by_cases e : p = q
    · exact .inr (.inl e)
    · rcases Classical.em (p < q) with c | c
      · exact .inl (.inr ⟨h, c⟩)
      · have : q ≤ p := List.not_lt.mp c
        rcases List.le_iff_lt_or_eq.mp this with d | d
        · exact .inr (.inr (.inr ⟨h.symm, d⟩))
        · exact absurd d.symm e
  · exact .inr (.inr (.inl h))
end Z

set_option Elab.async false
set_option linter.all false
set_option maxRecDepth 100000
set_option autoImplicit false
set_option maxHeartbeats 2000000
namespace Z
open PySem PySem.Spec PyProof.Rows L2
theorem cmp_refl (q : List Int) : Cmp q q := ⟨rfl, fun _ _ _ _ => Iff.rfl⟩
theorem shows_refl (q : List Int) : Shows q q := shows_sub.mpr ⟨q, .refl _, cmp_refl q⟩
theorem shows_trans {p q r : List Int} (h : Shows p q) (k : Shows q r) : Shows p r := by
  obtain ⟨s, hs, hc⟩ := shows_sub.mp h
  exact shows_mono hs (shows_cmp hc.1.symm (fun i j hi hj => (hc.2 i j hi hj).symm) k)
theorem shows_same {p q : List Int} (ip : IsOrd p) (iq : IsOrd q) (h : Shows p q) (l : p.length = q.length) : p = q := by
  obtain ⟨s, hs, hc⟩ := shows_sub.mp h
  have e : s = p := hs.eq_of_length (by rw [hc.1, l])
  subst e
  have := like_cmp (c := s) (d := q) l fun i j hi hj => hc.2 i j (by omega) (by omega)
  rwa [like_ord ip, like_ord iq] at this
instance (p q : List Int) : Decidable (slt p q) := by unfold slt; exact inferInstance
def insP (q : List Int) : List (List Int) → List (List Int)
  | [] => [q]
  | x :: r => if q = x then x :: r else if slt q x then q :: x :: r else x :: insP q r
def srtP : List (List Int) → List (List Int)
  | [] => []
  | q :: F => insP q (srtP F)
theorem insP_mem {q t : List Int} : ∀ {L : List (List Int)}, t ∈ insP q L ↔ t = q ∨ t ∈ L
  | [] => by simp [insP]
  | x :: r => by
    unfold insP
    split
    · rename_i e
      subst e
      simp
    · split
      · simp
      · rw [List.mem_cons, insP_mem, List.mem_cons]
        constructor
        · rintro (h | h | h)
          · exact .inr (.inl h)
          · exact .inl h
          · exact .inr (.inr h)
        · rintro (h | h | h)
          · exact .inr (.inl h)
          · exact .inl h
          · exact .inr (.inr h)
theorem insP_srt {q : List Int} : ∀ {L : List (List Int)}, L.Pairwise slt → (insP q L).Pairwise slt
  | [], _ => List.pairwise_singleton _ _
  | x :: r, h => by
    obtain ⟨h1, h2⟩ := List.pairwise_cons.mp h
    unfold insP
    split
    · exact h
    · split
      · rename_i c
        exact List.pairwise_cons.mpr ⟨fun y hy => by
          rcases List.mem_cons.mp hy with rfl | hy
          · exact c
          · exact slt_trans c (h1 y hy), h⟩
      · rename_i e c
        refine List.pairwise_cons.mpr ⟨fun y hy => ?_, insP_srt h2⟩
        rcases insP_mem.mp hy with rfl | hy
        · rcases slt_tri x y with d | d | d
          · exact d
          · exact absurd d.symm e
          · exact absurd d c
        · exact h1 y hy
theorem srtP_mem {t : List Int} : ∀ {F : List (List Int)}, t ∈ srtP F ↔ t ∈ F
  | [] => Iff.rfl
  | q :: F => by
    show t ∈ insP q (srtP F) ↔ _
    rw [insP_mem, srtP_mem, List.mem_cons]
theorem srtP_srt : ∀ F : List (List Int), (srtP F).Pairwise slt
  | [] => .nil
  | q :: F => insP_srt (srtP_srt F)
end Z

set_option Elab.async false
set_option linter.all false
set_option maxRecDepth 100000
set_option autoImplicit false
set_option maxHeartbeats 2000000
namespace Z
open PySem PySem.Spec PyProof.Rows L2
end Z

set_option Elab.async false
set_option linter.all false
set_option maxRecDepth 100000
set_option autoImplicit false
set_option maxHeartbeats 2000000
namespace Z
open PySem PySem.Spec PyProof.Rows L2
def lgo : List (List Int) → List (List Int) → List (List Int)
  | acc, [] => acc
  | acc, q :: r => lgo (if letB acc q = true then acc ++ [q] else acc) r
def leastL (F : List (List Int)) : List (List Int) := lgo [] (srtP F)
abbrev Ords (F : List (List Int)) : Prop := ∀ q ∈ F, IsOrd q
/-- what shows no other one -/
def Minl (F : List (List Int)) (q : List Int) : Prop := q ∈ F ∧ ∀ r ∈ F, Shows q r → r = q
theorem minl_below {F : List (List Int)} (hF : Ords F) : ∀ (n : Nat) (q : List Int), q.length ≤ n → q ∈ F → ∃ m, Minl F m ∧ Shows q m
  | n, q, hn, hq => by
    by_cases c : ∀ r ∈ F, Shows q r → r = q
    · exact ⟨q, ⟨hq, c⟩, shows_refl q⟩
    · obtain ⟨r, hc⟩ := Classical.not_forall.mp c
      obtain ⟨hr, hc⟩ := Classical.not_imp.mp hc
      obtain ⟨hs, hne⟩ := Classical.not_imp.mp hc
      have l1 := shows_len hs
      have l2 : r.length ≠ q.length := fun e => hne (shows_same (hF q hq) (hF r hr) hs e.symm).symm
      cases n with
      | zero => omega
      | succ n =>
        obtain ⟨m, hm, sm⟩ := minl_below hF n r (by omega) hr
        exact ⟨m, hm, shows_trans hs sm⟩
theorem lgo_sub : ∀ (r acc : List (List Int)), acc.Sublist (lgo acc r) ∧ (lgo acc r).Sublist (acc ++ r)
  | [], acc => ⟨.refl _, by rw [List.append_nil]; exact .refl _⟩
  | q :: r, acc => by
    unfold lgo
    split
    · obtain ⟨a, b⟩ := lgo_sub r (acc ++ [q])
      exact ⟨(List.sublist_append_left _ _).trans a, by rw [List.append_assoc] at b; exact b⟩
    · obtain ⟨a, b⟩ := lgo_sub r acc
      exact ⟨a, b.trans (List.Sublist.append_left (List.sublist_cons_self _ _) _)⟩
theorem leastL_sub (F : List (List Int)) : (leastL F).Sublist (srtP F) := (lgo_sub (srtP F) []).2
theorem leastL_in {F : List (List Int)} {q : List Int} (h : q ∈ leastL F) : q ∈ F := srtP_mem.mp ((leastL_sub F).subset h)
theorem leastL_ords {F : List (List Int)} (h : Ords F) : Ords (leastL F) := fun q hq => h q (leastL_in hq)
theorem lgo_mem {F : List (List Int)} (hF : Ords F) : ∀ (r pre acc : List (List Int)), pre ++ r = srtP F → (∀ q, q ∈ acc ↔ q ∈ pre ∧ Minl F q) → ∀ q, q ∈ lgo acc r ↔ Minl F q
  | [], pre, acc, e, h, q => by
    rw [List.append_nil] at e
    show q ∈ acc ↔ _
    rw [h, e, srtP_mem]
    exact ⟨fun z => z.2, fun z => ⟨z.1, z⟩⟩
  | x :: r, pre, acc, e, h, q => by
    have hx : x ∈ F := srtP_mem.mp (by rw [← e]; simp)
    have ps := srtP_srt F
    rw [← e] at ps
    have pre_lt : ∀ y ∈ pre, slt y x := fun y hy => (List.pairwise_append.mp ps).2.2 y hy x List.mem_cons_self
    have accO : Ords acc := fun y hy => hF y ((h y).mp hy).2.1
    have key : letB acc x = true ↔ Minl F x := by
      rw [letB_iff accO (hF x hx)]
      constructor
      · intro hn
        obtain ⟨m, hm, sm⟩ := minl_below hF x.length x (Nat.le_refl _) hx
        have hms : m ∈ srtP F := srtP_mem.mpr hm.1
        rw [← e] at hms
        rcases List.mem_append.mp hms with k | k
        · exact absurd sm (hn m ((h m).mpr ⟨k, hm⟩))
        · rcases List.mem_cons.mp k with rfl | k
          · exact hm
          · have lt := (List.pairwise_cons.mp (List.pairwise_append.mp ps).2.1).1 m k
            have l1 := shows_len sm
            rcases lt with lt | ⟨le, lt⟩
            · omega
            · have := shows_same (hF x hx) (hF m hm.1) sm le
              subst this
              exact absurd lt (List.lt_irrefl _)
      · intro hm y hy sy
        obtain ⟨k1, k2⟩ := (h y).mp hy
        have := hm.2 y k2.1 sy
        subst this
        exact slt_irrefl (pre_lt y k1)
    unfold lgo
    by_cases c : letB acc x = true
    · rw [if_pos c]
      refine lgo_mem hF r (pre ++ [x]) (acc ++ [x]) (by rw [List.append_assoc]; exact e) (fun y => ?_) q
      rw [List.mem_append, List.mem_append, List.mem_singleton, h]
      constructor
      · rintro (⟨a, b⟩ | rfl)
        · exact ⟨.inl a, b⟩
        · exact ⟨.inr rfl, key.mp c⟩
      · rintro ⟨a | rfl, b⟩
        · exact .inl ⟨a, b⟩
        · exact .inr rfl
    · rw [if_neg c]
      refine lgo_mem hF r (pre ++ [x]) acc (by rw [List.append_assoc]; exact e) (fun y => ?_) q
      rw [List.mem_append, List.mem_singleton, h]
      constructor
      · rintro ⟨a, b⟩
        exact ⟨.inl a, b⟩
      · rintro ⟨a | rfl, b⟩
        · exact ⟨a, b⟩
        · exact absurd (key.mpr b) c
theorem leastL_mem {F : List (List Int)} (hF : Ords F) {q : List Int} : q ∈ leastL F ↔ Minl F q := lgo_mem hF (srtP F) [] [] rfl (fun q => by simp) q
theorem leastL_let {F : List (List Int)} (hF : Ords F) {p : List Int} (ip : IsOrd p) : letB (leastL F) p = letB F p := by
  rw [Bool.eq_iff_iff, letB_iff (leastL_ords hF) ip, letB_iff hF ip]
  constructor
  · intro h q hq hs
    obtain ⟨m, hm, sm⟩ := minl_below hF q.length q (Nat.le_refl _) hq
    exact h m ((leastL_mem hF).mpr hm) (shows_trans hs sm)
  · exact fun h q hq => h q (leastL_in hq)
end Z

set_option Elab.async false
set_option linter.all false
set_option maxRecDepth 100000
set_option autoImplicit false
set_option maxHeartbeats 2000000
namespace Z
open PySem PySem.Spec PyProof.Rows L2
structure Mv (w : List Int → List Int) : Prop where
  ord : ∀ {p : List Int}, IsOrd p → IsOrd (w p)
  len : ∀ p : List Int, (w p).length = p.length
  back : ∀ {p : List Int}, IsOrd p → w (w p) = p
  sh : ∀ {p q : List Int}, IsOrd p → IsOrd q → Shows p q → Shows (w p) (w q)
variable {w : List Int → List Int}
theorem Mv.iff (h : Mv w) {p q : List Int} (ip : IsOrd p) (iq : IsOrd q) : Shows (w p) (w q) ↔ Shows p q := by
  constructor
  · intro s
    have := h.sh (h.ord ip) (h.ord iq) s
    rwa [h.back ip, h.back iq] at this
  · exact h.sh ip iq
theorem Mv.ords (h : Mv w) {F : List (List Int)} (hF : Ords F) : Ords (F.map w) := fun q hq => by
  obtain ⟨p, hp, rfl⟩ := List.mem_map.mp hq
  exact h.ord (hF p hp)
theorem Mv.let (h : Mv w) {F : List (List Int)} (hF : Ords F) {p : List Int} (ip : IsOrd p) : letB (leastL (F.map w)) (w p) = letB F p := by
  rw [leastL_let (h.ords hF) (h.ord ip), Bool.eq_iff_iff, letB_iff (h.ords hF) (h.ord ip), letB_iff hF ip]
  constructor
  · intro a q hq hs
    exact a (w q) (List.mem_map.mpr ⟨q, hq, rfl⟩) ((h.iff ip (hF q hq)).mpr hs)
  · intro a q hq hs
    obtain ⟨r, hr, rfl⟩ := List.mem_map.mp hq
    exact a r hr ((h.iff ip (hF r hr)).mp hs)
end Z

set_option Elab.async false
set_option linter.all false
set_option maxRecDepth 100000
set_option autoImplicit false
set_option maxHeartbeats 2000000
namespace Z
open PySem PySem.Spec PyProof.Rows L2
structure AllOk (n : Nat) (L : List (List Int)) : Prop where
  asc : L.Pairwise (· < ·)
  mem : ∀ t, t ∈ L ↔ IsOrd t ∧ t.length = n
end Z

set_option Elab.async false
set_option linter.all false
set_option maxRecDepth 100000
set_option autoImplicit false
set_option maxHeartbeats 2000000
namespace Z
open PySem PySem.Spec PyProof.Rows L2
end Z

set_option Elab.async false
set_option linter.all false
set_option maxRecDepth 100000
set_option autoImplicit false
set_option maxHeartbeats 2000000
namespace Z
open PySem PySem.Spec PyProof.Rows L2
end Z

set_option Elab.async false
set_option linter.all false
set_option maxRecDepth 100000
set_option autoImplicit false
set_option maxHeartbeats 2000000
namespace Z
open PySem PySem.Spec PyProof.Rows L2
section
variable {X : Cx}
end
end Z

set_option Elab.async false
set_option linter.all false
set_option maxRecDepth 100000
set_option autoImplicit false
set_option maxHeartbeats 2000000
namespace Z
open PySem PySem.Spec PyProof.Rows L2
section
variable {X : Cx}
end
section
variable {X : Cx} {pins : List (Addr × Obj)} {σ : L2.St} {H G : Hp} {s : Shared}
structure PrOk (X : Cx) (H G : Hp) (s : Shared) (ps : List (List Int × D)) (its : List Value) (as : List Addr) (es : List (List Int × Addr × V)) (xs : List (List Int × Addr × Value)) : Prop where
  it : its = as.map Value.ref
  al : DkAll X.K G es ps
  dp : DkP es xs
  la : as.length = xs.length
  pr : ∀ (j : Nat) (x : List Int × Addr × Value), xs[j]? = some x → ∃ a, as[j]? = some a ∧ PairAt s.heap a (.ref x.2.1) x.2.2
  ks : ∀ x ∈ xs, IsTupleKey (intKind X.prog X.w) s.heap x.1 x.2.1
end
end Z

set_option Elab.async false
set_option linter.all false
set_option maxRecDepth 100000
set_option autoImplicit false
set_option maxHeartbeats 2000000
namespace Z
open PySem PySem.Spec PyProof.Rows L2
section
variable {X : Cx} {i j : Nat} {x y : Str} {px py pt pos pd pc pl : Pos} {kt k2 : Nat} {pt2 : Pos} {arg : Expr}
end
section
variable {X : Cx} {b b1 : Bool} {elt tg iter tg1 iter1 : Expr} {ifs ifs1 : List Expr} {scope : Scope} {pos : Pos} {t t1 : Tg} {mi mi1 : M (List D)} {mt mt1 : M Bool} {me : M D}
end
end Z

set_option Elab.async false
set_option linter.all false
set_option maxRecDepth 100000
set_option autoImplicit false
set_option maxHeartbeats 2000000
namespace Z
open PySem PySem.Spec PyProof.Rows L2
def rmx : List Int → List Int
  | [] => []
  | x :: l => if ∀ y ∈ l, y < x then x :: rmx l else rmx l
def rst : List Int → List Int
  | [] => []
  | x :: l => if ∀ y ∈ l, y < x then rst l else x :: rst l
theorem rmx_sub : ∀ l : List Int, (rmx l).Sublist l
  | [] => .refl _
  | x :: l => by
    unfold rmx
    split
    · exact (rmx_sub l).cons_cons x
    · exact (rmx_sub l).cons x
theorem rst_sub : ∀ l : List Int, (rst l).Sublist l
  | [] => .refl _
  | x :: l => by
    unfold rst
    split
    · exact (rst_sub l).cons x
    · exact (rst_sub l).cons_cons x
theorem rmx_len : ∀ l : List Int, (rmx l).length + (rst l).length = l.length
  | [] => rfl
  | x :: l => by
    have := rmx_len l
    unfold rmx rst
    split <;> simp only [List.length_cons] <;> omega
theorem rmx_desc : ∀ l : List Int, (rmx l).Pairwise (· > ·)
  | [] => .nil
  | x :: l => by
    unfold rmx
    split
    · rename_i h
      exact .cons (fun y hy => h y ((rmx_sub l).subset hy)) (rmx_desc l)
    · exact rmx_desc l
theorem rst_ext : ∀ (l s : List Int), l.Nodup → s.Sublist (rst l) → s ≠ [] → s.Pairwise (· < ·) → ∃ y, (s ++ [y]).Sublist l ∧ (s ++ [y]).Pairwise (· < ·)
  | [], s, _, h, hn, _ => absurd (List.sublist_nil.mp h) hn
  | x :: l, s, nd, h, hn, hp => by
    obtain ⟨n1, n2⟩ := List.nodup_cons.mp nd
    unfold rst at h
    split at h
    · obtain ⟨y, h1, h2⟩ := rst_ext l s n2 h hn hp
      exact ⟨y, h1.cons x, h2⟩
    · rename_i hx
      cases h with
      | cons _ h =>
        obtain ⟨y, h1, h2⟩ := rst_ext l s n2 h hn hp
        exact ⟨y, h1.cons x, h2⟩
      | cons_cons _ h =>
        rename_i s'
        obtain ⟨p1, p2⟩ := List.pairwise_cons.mp hp
        by_cases c : s' = []
        · subst c
          obtain ⟨y, hy⟩ := Classical.not_forall.mp hx
          obtain ⟨hy, hlt⟩ := Classical.not_imp.mp hy
          have ne : y ≠ x := fun z => n1 (z ▸ hy)
          refine ⟨y, (List.singleton_sublist.mpr hy).cons_cons x, ?_⟩
          show [x, y].Pairwise (· < ·)
          refine .cons (fun z hz => ?_) (List.pairwise_singleton _ _)
          rw [List.mem_singleton.mp hz]
          omega
        · obtain ⟨y, h1, h2⟩ := rst_ext l s' n2 h c p2
          refine ⟨y, h1.cons_cons x, .cons (fun z hz => ?_) h2⟩
          rcases List.mem_append.mp hz with a | a
          · exact p1 z a
          · rw [List.mem_singleton.mp a]
            obtain ⟨w, hw⟩ := List.exists_mem_of_ne_nil _ c
            have := p1 w hw
            have := (List.pairwise_append.mp h2).2.2 w hw y (List.mem_singleton.mpr rfl)
            omega
theorem far (f : Nat) : ∀ (r : Nat) (l : List Int), l.Nodup → r * f < l.length → (∃ s : List Int, s.Sublist l ∧ s.Pairwise (· < ·) ∧ s.length = r + 1) ∨ ∃ s : List Int, s.Sublist l ∧ s.Pairwise (· > ·) ∧ s.length = f + 1
  | 0, l, nd, h => by
    cases l with
    | nil => rw [List.length_nil] at h; omega
    | cons x l => exact .inl ⟨[x], List.singleton_sublist.mpr List.mem_cons_self, List.pairwise_singleton _ _, rfl⟩
  | r + 1, l, nd, h => by
    by_cases c : f + 1 ≤ (rmx l).length
    · exact .inr ⟨(rmx l).take (f + 1), (List.take_sublist _ _).trans (rmx_sub l), (rmx_desc l).sublist (List.take_sublist _ _), by rw [List.length_take]; omega⟩
    · have hl := rmx_len l
      rw [Nat.add_mul, Nat.one_mul] at h
      rcases far f r (rst l) (nd.sublist (rst_sub l)) (by omega) with ⟨s, h1, h2, h3⟩ | ⟨s, h1, h2, h3⟩
      · obtain ⟨y, k1, k2⟩ := rst_ext l s nd h1 (fun z => by rw [z] at h3; cases h3) h2
        exact .inl ⟨s ++ [y], k1, k2, by rw [List.length_append, h3]; rfl⟩
      · exact .inr ⟨s, h1.trans (rst_sub l), h2, h3⟩
end Z

set_option Elab.async false
set_option linter.all false
set_option maxRecDepth 100000
set_option autoImplicit false
set_option maxHeartbeats 2000000
namespace Z
open PySem PySem.Spec PyProof.Rows L2
section
variable {prog : Program} {w : World} {A : Around} {E : Value → Shared → Prop} {s : Shared}
end
end Z

set_option Elab.async false
set_option linter.all false
set_option maxRecDepth 100000
set_option autoImplicit false
set_option maxHeartbeats 1000000
namespace Z
open PySem PySem.Spec PyProof.Rows L2
section
variable {X : Cx}
end
def fitJ (a : Str) (ys : List Str) : Prop := (ys.map (·.length)).sum + ys.length * a.length ≤ 16777216
instance (a : Str) (ys : List Str) : Decidable (fitJ a ys) := by unfold fitJ; exact inferInstance
section
variable {X : Cx} {o e : Expr} {apos pos : Pos}
end
end Z

set_option Elab.async false
set_option linter.all false
set_option maxRecDepth 100000
set_option autoImplicit false
set_option maxHeartbeats 3200000
namespace Z
open PySem PySem.Spec PyProof.Rows L2
section
variable {P : Program} {w : World} {A : Around} {E : Value → Shared → Prop} {s : Shared}
end
section
variable {X : Cx} {pins : List (Addr × Obj)} {σ : St}
end
end Z

set_option Elab.async false
set_option linter.all false
set_option maxRecDepth 100000
set_option autoImplicit false
set_option maxHeartbeats 3200000
namespace Z
open PySem PySem.Spec PyProof.Rows L2
section
variable {X : Cx} {e : Expr} {p p2 pos pos2 : Pos}
end
end Z

set_option Elab.async false
set_option linter.all false
set_option maxRecDepth 100000
set_option autoImplicit false
set_option maxHeartbeats 1000000
namespace Z
open PySem PySem.Spec PyProof.Rows L2
theorem fDiv_w (i j : Int) (h : 0 < j) (h2 : j.natAbs.log2 < 9000) : fDiv (.int i) (.int j) = some (.int (i / j)) := by
  have ok : okDiv j = true := by
    unfold okDiv
    rw [decide_eq_true h, decide_eq_true h2, Bool.or_true]
    rfl
  exact if_pos ok
end Z

set_option Elab.async false
set_option linter.all false
set_option maxRecDepth 100000
set_option autoImplicit false
set_option maxHeartbeats 1000000
namespace Z
open PySem PySem.Spec PyProof.Rows L2
end Z

set_option Elab.async false
set_option linter.all false
set_option maxRecDepth 100000
set_option autoImplicit false
set_option maxHeartbeats 1000000
namespace Z
open PySem PySem.Spec PyProof.Rows L2
end Z

set_option Elab.async false
set_option linter.all false
set_option maxRecDepth 100000
set_option autoImplicit false
set_option maxHeartbeats 4000000
namespace Z
open PySem PySem.Spec PyProof.Rows L2
end Z

set_option Elab.async false
set_option linter.all false
set_option maxRecDepth 100000
set_option autoImplicit false
set_option maxHeartbeats 4000000
namespace Z
open PySem PySem.Spec PyProof.Rows L2
structure QF (F : Fr) (G : Hp) (Mu : Option Addr) (p l1 l2 : Addr) : Prop where
  ne : l1 ≠ l2
  n1 : p ≠ l1
  n2 : p ≠ l2
  fp : F p = none
  f1 : F l1 = none
  f2 : F l2 = none
  gp : G p = none
  g1 : G l1 = none
  g2 : G l2 = none
  mu : ∀ l, Mu = some l → l ≠ p ∧ l ≠ l1 ∧ l ≠ l2
structure QH (F : Fr) (G : Hp) (Mu : Option Addr) (v0 : V) (p l1 l2 : Addr) (s : List Int × List Int) (σ : St) (H : Hp) : Prop where
  len : σ.length = 5
  s0 : σ[0]? = some (some v0)
  s1 : σ[1]? = some (some (.ref p))
  hp : ∃ ob : Obj, ob.dict = none ∧ H p = some (.frz ob (.tup [.ref l1, .ref l2]))
  h1 : H l1 = some (.lst (s.1.map .int))
  h2 : H l2 = some (.lst (s.2.map .int))
  mu : ∀ l, Mu = some l → H l ≠ none
  fh : Same F.f H
  gh : Same G H
end Z

set_option Elab.async false
set_option linter.all false
set_option maxRecDepth 100000
set_option autoImplicit false
set_option maxHeartbeats 4000000
namespace Z
open PySem PySem.Spec PyProof.Rows L2
end Z

set_option Elab.async false
set_option linter.all false
set_option maxRecDepth 100000
set_option autoImplicit false
set_option maxHeartbeats 4000000
namespace Z
open PySem PySem.Spec PyProof.Rows L2
end Z

set_option Elab.async false
set_option linter.all false
set_option maxRecDepth 100000
set_option autoImplicit false
set_option maxHeartbeats 1000000
namespace Z
open PySem PySem.Spec PyProof.Rows L2
structure FnA (P : Program) (w : World) (K : PySem.W.Frag) (mg : Str → Option Value) (base : Heap) (y : Str) (st : Stmt) (k : Nat) (ps : List Str) (ks : List Pk) (φ : List D → Out) : Prop where
  ex : ∃ f fd x qual, Fun K x qual st f fd ∧ mg y = some (.ref f) ∧ FnOk P w K mg base (L2.CX P w) k f fd ps (spF K mg ks φ) ∧ Binds K fd ps []
theorem FnA.mono {P : Program} {w : World} {K : PySem.W.Frag} {mg : Str → Option Value} {base : Heap} {y : Str} {st : Stmt} {j k : Nat} {ps : List Str} {ks : List Pk} {φ : List D → Out} (F : FnA P w K mg base y st j ps ks φ) (h : j ≤ k) : FnA P w K mg base y st k ps ks φ := by
  obtain ⟨f, fd, x, qual, a, b, c, d⟩ := F.ex
  exact ⟨f, fd, x, qual, a, b, c.mono h, d⟩
section
variable {P : Program} {w : World} {K : PySem.W.Frag} {mg : Str → Option Value} {base : Heap}
end
section
variable {X : Cx} {e : Expr} {es : List Expr} {p pos : Pos} {x : Str} {st : Stmt} {k : Nat} {ps : List Str} {ks : List Pk} {φ : List D → Out}
end
end Z

set_option Elab.async false
set_option linter.all false
set_option maxRecDepth 100000
set_option autoImplicit false
set_option maxHeartbeats 1000000
namespace Z
open PySem PySem.Spec PyProof.Rows L2
section
variable {X : Cx} {i j : Nat} {pt pos pd pc pl pb : Pos} {kt k2 k3 : Nat} {pt2 : Pos}
end
end Z

set_option Elab.async false
set_option linter.all false
set_option maxRecDepth 100000
set_option maxHeartbeats 2000000
namespace Zp
open PySem PySem.Spec
open Sem (wp)
end Zp
set_option Elab.async false
set_option linter.all false
set_option maxRecDepth 100000
set_option maxHeartbeats 2000000
namespace Zp
open PySem PySem.Spec
open Sem (wp)
abbrev tupO (vs : List Value) : Obj := { cls := .type "tuple", data := .seq vs.toArray }
abbrev pickV (its : List Value) (ind : List Nat) : List Value := ind.map fun i => its.getD i Value.none
section
variable {prog : Program} {w : World} {A : Around} {E : Value → Shared → Prop} {s : Shared}
end
end Zp
set_option Elab.async false
set_option linter.all false
set_option maxRecDepth 100000
set_option maxHeartbeats 2000000
namespace Zp
open PySem PySem.Spec PyProof.Rows
open Sem (wp)
section
variable {prog : Program} {w : World} {A : Around} {E : Value → Shared → Prop} {s : Shared} {r : Addr} {a b : Int} {t u v : Tok} {n : Nat}
end
end Zp
set_option Elab.async false
set_option linter.all false
set_option maxRecDepth 100000
set_option maxHeartbeats 2000000
namespace Z
open PySem PySem.Spec PyProof.Rows L2 Zp
section
variable {X : Cx} {pins : List (Addr × Obj)} {σ : St} {s : Shared} {h' : Heap} {tk : Nat} {ex : List Addr}
end
end Z
set_option Elab.async false
set_option linter.all false
set_option maxRecDepth 100000
set_option maxHeartbeats 2000000
namespace Zp
open PySem PySem.Spec PyProof.Rows
open Sem (wp)
/-- the tuples made so far -/
structure Tups (its : List Value) (lo : Addr) (h : Heap) (as : List Addr) (rows : List (List Nat)) : Prop where
  len : as.length = rows.length
  rise : as.Pairwise (· < ·)
  low : ∀ a ∈ as, lo ≤ a
  at_ : ∀ (j : Nat) (a : Addr) (r : List Nat), as[j]? = some a → rows[j]? = some r → h.get? a = some (tupO (pickV its r))
theorem Tups.there {its : List Value} {lo : Addr} {h : Heap} {as : List Addr} {rows : List (List Nat)} (g : Tups its lo h as rows) {a : Addr} (ha : a ∈ as) : a < h.objs.size := by
  obtain ⟨j, hj⟩ := List.mem_iff_getElem?.mp ha
  have hl : j < rows.length := by
    rw [← g.len]
    exact (List.getElem?_eq_some_iff.mp hj).1
  exact Heap.lt_size (g.at_ j a _ hj (List.getElem?_eq_getElem hl))
section
variable {prog : Program} {w : World} {A : Around} {E : Value → Shared → Prop} {s : Shared} {R : Result → Shared → Prop}
end
end Zp
set_option Elab.async false
set_option linter.all false
set_option maxRecDepth 100000
set_option maxHeartbeats 2000000
namespace Zp
open PySem PySem.Spec PyProof.Rows
open Sem (wp)
section
variable {prog : Program} {w : World} {A : Around} {E : Value → Shared → Prop} {s : Shared} {R : Result → Shared → Prop} {I p : Addr} {its : List Value} {n : Nat}
end
end Zp
set_option Elab.async false
set_option linter.all false
set_option maxRecDepth 100000
set_option autoImplicit false
set_option maxHeartbeats 1000000
namespace Z
open PySem PySem.Spec PyProof.Rows L2 Zp
section
variable {X : Cx} {e : Expr} {p pos p2 pos2 : Pos}
end
end Z

set_option Elab.async false
set_option linter.all false
set_option maxRecDepth 100000
set_option autoImplicit false
set_option maxHeartbeats 1000000
namespace Z
open PySem PySem.Spec PyProof.Rows L2
section
variable {X : Cx}
end
end Z

set_option Elab.async false
set_option linter.all false
set_option maxRecDepth 100000
set_option autoImplicit false
set_option maxHeartbeats 1000000
namespace Z
open PySem PySem.Spec PyProof.Rows L2
end Z

set_option Elab.async false
set_option linter.all false
set_option maxRecDepth 100000
set_option autoImplicit false
set_option maxHeartbeats 1000000
namespace Z
open PySem PySem.Spec PyProof.Rows L2
end Z

set_option Elab.async false
set_option linter.all false
set_option maxRecDepth 100000
set_option autoImplicit false
set_option maxHeartbeats 1000000
namespace Z
open PySem PySem.Spec PyProof.Rows L2
section
variable {prog : Program} {w : World} {A : Around} {E : Value → Shared → Prop} {s : Shared}
end
section
variable {X : Cx} {e st : Expr} {p2 pos : Pos} {te ts : TE}
end
end Z

set_option Elab.async false
set_option linter.all false
set_option maxRecDepth 100000
set_option autoImplicit false
set_option maxHeartbeats 1000000
namespace Z
open PySem PySem.Spec PyProof.Rows L2
structure ExC (K : PySem.W.Frag) (mg : Str → Option Value) (c : Str) (C fI : Addr) : Prop where
  gC : mg c = some (.ref C)
  T : OexC K C
  iC : PySem.W.findIn K (.ref C) "__init__" = some (some (.ref fI))
  noN : PySem.W.findIn K (.ref C) "value" = some none
def spInit (K : PySem.W.Frag) : Sp := fun vs H Q E => ∃ (a C : Addr) (v : V), vs = [.ref a, v] ∧ OexC K C ∧ PySem.W.findIn K (.ref C) "value" = some none ∧ H a = some (exo a C none) ∧
  ∀ dx, H dx = none → dx ≠ a → Q .non (upd (upd H dx (exd dx [(("value" : Str), v)])) a (exo a C (some dx)))
/-- what is said of __init__ -/
structure InitP (P : Program) (w : World) (K : PySem.W.Frag) (mg : Str → Option Value) (base : Heap) (fI : Addr) (k : Nat) : Prop where
  ex : ∃ fd, PySem.W.typeIn K (.ref fI) = some (.type "function") ∧ FnOk P w K mg base (L2.CX P w) k fI fd ["self", "value"] (spInit K) ∧ Binds K fd ["self", "value"] []
abbrev tInit (K : PySem.W.Frag) : TS := tSeq (tDrop (tVeI K (tCons (tVar 0) (tCons (tVar 1) tNil)))) (tOst K "value" (tVar 0) (tVar 1))
theorem ok_init {P : Program} {w : World} {K : PySem.W.Frag} {mg : Str → Option Value} {base : Heap} {qual : Str} {st : Stmt} {f : Addr} {fd : FuncData} (F : Fun K "__init__" qual st f fd)
    (S : FnScope ["self", "value"] ["self", "value"] (defScope st))
    (hb : ∀ (cdv : Value) (A : Around) (outer : List Env) (s : Shared) (H : Hp) (E : XK), PSs (cxOf (L2.CX P w) P w K mg base ["self", "value"] qual (defScope st) f cdv A outer s H E) (defBody st) (tInit K)) : FnOk P w K mg base (L2.CX P w) 1 f fd ["self", "value"] (spInit K) := by
  refine F.okX S (fun vs H Q E h => ?_) (fun cdv A outer s H vs Q E hr h => ⟨_, hb cdv A outer s H E, ?_⟩)
  · obtain ⟨a, C, v, rfl, _⟩ := h
    rfl
  · obtain ⟨a, C, v, rfl, T, hno, ha, q⟩ := h
    refine ⟨.ref a, rfl, v, rfl, a, C, [v], rfl, (by decide : 1 ≤ 1000), T, ha, ?_⟩
    refine ⟨v, rfl, .ref a, rfl, a, C, rfl, T, hno, .inl ⟨ha, fun dx hd hne => q dx hd hne⟩⟩
def sRaise (c : Str) (m : M D) : M Fl := bnd m fun x => fun g => .ex c x g
section
variable {X : Cx} {c : Str} {C fI : Addr} {k : Nat} {arg : Expr} {m : M D} {p pos pos2 : Pos}
theorem ds_raise (hc : X.calm = true) (E : ExC X.K X.mg c C fI) (Ip : InitP X.prog X.w X.K X.mg X.base fI k) (hr : Room (k + 1) X.A) (hg : Gl X c) (h : DP X arg m) (hdb : (c == ("__debug__" : Str)) = false := by decide)
    (he : starEach (arg :: []) X.env = (false, eval arg X.env) :: starEach [] X.env := by rfl) (hpl : (backTo pos (starEach [] X.env)).any (·.1) = false := by rfl) :
    DS X (.Raise (some (.Call (.Name c p) [arg] [] pos)) none pos2) (sRaise c m) := fun W tk => by
  obtain ⟨fd, tI, ok, hb⟩ := Ip.ex
  refine ps_imp (ps_raise hc tk (pmk_oex E.T E.iC tI ok hr hb .nil passL hg E.gC (pa_cons (h W tk) pa_nil he) hdb he hpl)) fun D σ H q => ?_
  refine (st_bnd (ρ := rhoD) q).imp fun v H1 ⟨x, F, G, Mu, Γ, R, h1, sp⟩ => ⟨(by decide : 1 ≤ 1000), fun a ha => ⟨a, C, v, rfl, E.T, E.noN, upd_same, fun dx hd hne => ?_⟩⟩
  rw [upd_ne hne] at hd
  refine ⟨rfl, dx, [(("value" : Str), v)], upd_same, by rw [upd_ne hne, upd_same], hd, ?_⟩
  have e : upd (L2.del (upd (upd (upd H1 a (exo a C none)) dx (exd dx [(("value" : Str), v)])) a (exo a C (some dx))) a) dx (.xd [(("value" : Str), v)]) = upd H1 dx (.xd [(("value" : Str), v)]) := by
    funext b
    by_cases hb : b = dx
    · rw [hb, upd_same, upd_same]
    · rw [upd_ne hb, upd_ne hb]
      by_cases hba : b = a
      · rw [hba, L2.del_same, ha]
      · rw [L2.del_ne hba, upd_ne hba, upd_ne hb, upd_ne hba]
  rw [e]
  exact sp C dx v σ _ G E.gC (Same.refl G) (R.newX hd) upd_same h1 (R.fh.free hd) (fun z => (R.mu dx z).2.2 hd)
end
end Z

set_option Elab.async false
set_option linter.all false
set_option maxRecDepth 100000
set_option autoImplicit false
set_option maxHeartbeats 2000000
namespace Z
open PySem PySem.Spec PyProof.Rows L2
abbrev Suite : Type := Addr → Value → Option Addr → TS
inductive HdA (X : Cx) (n : Str) : List ExceptHandler → List (Value × Suite) → Prop
  | nil : HdA X n [] []
  | cons {x : Str} {c : Value} {ts : Suite} {b0 : Stmt} {bs : List Stmt} {p1 p2 : Pos} {hs : List ExceptHandler} {l : List (Value × Suite)} (nm : Names X x c)
      (su : ∀ (a : Addr) (oe : Obj) (cls : Value) (d : Option Addr) (pn : List (Addr × Obj)), Zc cls d oe → (∃ vs, oe.data = .fields vs) → PSs (X.suite a ((a, oe) :: pn)) (b0 :: bs) (ts a cls d)) (more : HdA X n hs l) :
      HdA X n (.ExceptHandler (some (.Name x p1)) (some n) (b0 :: bs) p2 :: hs) ((c, ts) :: l)
section
variable {X : Cx} {n : Str} {i : Nat} {body : List Stmt} {h0 : ExceptHandler} {hs : List ExceptHandler} {l : List (Value × Suite)} {pos : Pos} {tb : WX → TS} {Wo : WX}
end
end Z

set_option Elab.async false
set_option linter.all false
set_option maxRecDepth 100000
set_option autoImplicit false
set_option maxHeartbeats 2000000
namespace Z
open PySem PySem.Spec PyProof.Rows L2
abbrev wNo : WX := fun _ _ _ _ => False
/-- the caught exception's value is x -/
def Kn (K : PySem.W.Frag) (i : Nat) (a : Addr) (cls : Value) (d : Option Addr) (x : D) (G : Hp) (σ : St) (H : Hp) : Prop :=
  ∃ (C dd : Addr) (v : V), cls = .ref C ∧ XfC K C ∧ PySem.W.findIn K (.ref C) "value" = some none ∧ d = some dd ∧ H dd = some (.xd [(("value" : Str), v)]) ∧ Dq K G v x ∧ σ[i]? = some (some (.ref a))
def rdx {α β : Type} (X : Cx) (i : Nat) (a : Addr) (cls : Value) (d : Option Addr) (ρ : Rho α β) (m : D → M α) : St → Hp → (β → Hp → Prop) → Prop := fun σ H Q =>
  ∃ x F G Mu Γ, Rel X.K F G Mu Γ σ H ∧ Kn X.K i a cls d x G σ H ∧ zpost X wNo σ ρ F G Mu Q (m x Γ)
def stx (X : Cx) (i : Nat) (h : D → M Fl) : Suite := fun a cls d D σ H =>
  ∃ x F G Mu Γ, Rel X.K F G Mu Γ σ H ∧ Kn X.K i a cls d x G σ H ∧ spost X wNo F G Mu D (h x Γ)
def SXs (X : Cx) (i : Nat) (ss : List Stmt) (h : D → M Fl) : Prop := ∀ (a : Addr) (oe : Obj) (cls : Value) (d : Option Addr) (pn : List (Addr × Obj)), Zc cls d oe → (∃ vs, oe.data = .fields vs) → PSs (X.suite a ((a, oe) :: pn)) ss (stx X i h a cls d)
section
variable {X : Cx} {i : Nat} {e : Expr} {es : List Expr} {pos p : Pos} {n : Str}
theorem rdx.imp {α β : Type} {ρ : Rho α β} {a : Addr} {cls : Value} {d : Option Addr} {σ : St} {H : Hp} {Q Q' : β → Hp → Prop} {m : D → M α} (p : rdx X i a cls d ρ m σ H Q) (h : ∀ v H1, Q v H1 → Q' v H1) : rdx X i a cls d ρ m σ H Q' := by
  obtain ⟨x, F, G, Mu, Γ, R, kn, q⟩ := p
  refine ⟨x, F, G, Mu, Γ, R, kn, ?_⟩
  cases e : m x Γ with
  | bad => rw [e] at q; exact q
  | ok r Γ1 => rw [e] at q; exact fun v H1 G1 h1 R1 h2 => h _ _ (q v H1 G1 h1 R1 h2)
  | ex c y Γ1 => rw [e] at q; exact q
variable {s : Stmt} {ss : List Stmt}
/-- what is said of a clause's class: of each class that is told -/
def ExT (X : Cx) (t : Str → Option Bool) (v : Value) : Prop := ∀ (c : Str) (C : Addr) (b : Bool), X.mg c = some (.ref C) → t c = some b → PySem.W.exmOne X.K (.ref C) v = some b ∧ (b = true → XfC X.K C ∧ PySem.W.findIn X.K (.ref C) "value" = some none)
inductive HdM (X : Cx) (n : Str) (i : Nat) : List ExceptHandler → List ((Str → Option Bool) × (D → M Fl)) → List (Value × Suite) → Prop
  | nil : HdM X n i [] [] []
  | cons {x : Str} {v : Value} {t : Str → Option Bool} {h : D → M Fl} {b0 : Stmt} {bs : List Stmt} {p1 p2 : Pos} {hs : List ExceptHandler} {l : List ((Str → Option Bool) × (D → M Fl))} {k : List (Value × Suite)} (nm : Names X x v) (et : ExT X t v)
      (su : SXs X i (b0 :: bs) h) (more : HdM X n i hs l k) : HdM X n i (.ExceptHandler (some (.Name x p1)) (some n) (b0 :: bs) p2 :: hs) ((t, h) :: l) ((v, stx X i h) :: k)
end
end Z

set_option Elab.async false
set_option linter.all false
set_option maxRecDepth 100000
set_option autoImplicit false
set_option maxHeartbeats 2000000
namespace Z
open PySem PySem.Spec PyProof.Rows L2
def clsInit (s : Stmt) : Stmt := match s with
  | .ClassDef _ _ _ (s :: _) _ _ _ _ _ _ _ => s
  | _ => .Pass ⟨0, 0, 0, 0⟩
theorem own_exm {K : PySem.W.Frag} {S : Addr} (h1 : PySem.W.subIn K (.ref S) (.type "BaseException") = some true) (h2 : PySem.W.isClsIn K S = true) (h3 : PySem.W.typeIn K (.ref S) = some (.type "type")) (h4 : PySem.W.subIn K (.ref S) (.ref S) = some true) :
    PySem.W.exmOne K (.ref S) (.ref S) = some true := by
  have e2 : ((PySem.W.clsIn K S).isSome && PySem.W.typeIn K (.ref S) == some (.type "type")) = true := by
    rw [show (PySem.W.clsIn K S).isSome = true from h2, h3] <;> rfl
  show (if (PySem.W.subIn K (.ref S) (.type "BaseException") == some true) = true then (if ((PySem.W.clsIn K S).isSome && PySem.W.typeIn K (.ref S) == some (.type "type")) = true then PySem.W.subIn K (.ref S) (.ref S) else none) else none) = some true
  rw [if_pos (by rw [h1] <;> rfl), if_pos e2]
  exact h4
/-- what is said of an error's class -/
structure ExX (K : PySem.W.Frag) (mg : Str → Option Value) (c : Str) (st : Stmt) : Prop where
  ex : ∃ C fI fd qual, ExC K mg c C fI ∧ XfC K C ∧ PySem.W.exmOne K (.ref C) (.ref C) = some true ∧ PySem.W.typeIn K (.ref fI) = some (.type "function") ∧ Fun K "__init__" qual st fI fd
  vV : PySem.W.findCls K (.type "ValueError") (.type "type") "__init__" = some (.val (.builtin "ValueError.__init__"))
theorem excMk {K : PySem.W.Frag} {h : Heap} {mg : Str → Option Value} {c : Str} {st : Stmt} {C CO fI : Addr} (X : K.In h) (G : h.Ns mainGlobals mg) {qual : Str}
    {nm q : Str} {N : Addr} {bs : List Value} {sn : List Str} {sub : List Value} {ab : Bool} {col : Option Bool} {dd : Option Addr} {m0 m1 m2 m3 m5 : Option Value} {od an : Option Addr} {sl : Array (Option Value)} {oc kV dc pm cd ct : Value}
    (aC : PySem.W.nsIn K mainGlobals c = some (some (.ref C)))
    (xL : K.lookup C = some (excClassObj nm q C N bs [.ref CO, .type "ValueError", .type "Exception", .type "BaseException", .type "object"] true sn sub ab col dd m0 m1 m2 m3 m5 "ValueError.__new__"))
    (sa : PySem.W.findIn K (.ref C) "__setattr__" = some (some (.builtin "object.__setattr__"))) (ga : PySem.W.findIn K (.ref C) "__getattribute__" = some (some (.builtin "BaseException.__getattribute__"))) (gg : PySem.W.findIn K (.ref C) "__getattr__" = some none) (nb : PySem.W.findIn K (.ref C) "value" = some none)
    (a1 : PySem.W.findIn K (.ref C) "__init__" = some (some (.ref fI))) (t1 : PySem.W.typeIn K (.ref fI) = some (.type "function"))
    (l1 : K.lookup fI = some ⟨oc, od, .func (PySem.W.fnOf "__init__" qual (defArgs st) (defBody st) (defScope st) .none kV dc pm an cd ct), sl⟩) (c1 : PySem.W.codeIn K cd qual = true) (k1 : PySem.W.keepIn K (.ref fI) = true)
    (kC : PySem.W.keepIn K (.ref C) = true) (eC : PySem.W.subIn K (.ref C) (.type "BaseException") = some true) (tC : PySem.W.typeIn K (.ref C) = some (.type "type")) (hC : PySem.W.hasDictIn K C = true) (iC : PySem.W.isClsIn K C = true) (sC : PySem.W.subIn K (.ref C) (.ref C) = some true)
    (vV : PySem.W.findCls K (.type "ValueError") (.type "type") "__init__" = some (.val (.builtin "ValueError.__init__"))) : ExX K mg c st :=
  ⟨⟨C, fI, _, qual, ⟨PySem.W.mg_of X G aC, ⟨⟨nm, q, N, bs, _, sn, sub, ab, col, dd, m0, m1, m2, m3, m5, xL, by first | rfl | decide +kernel | simp [PySem.HandSPX.refsVE]⟩, sa, eC, tC, kC⟩, a1, nb⟩, ⟨ga, gg, eC, hC⟩, own_exm eC iC tC sC, t1, fun_mk (st := st) l1 c1 k1⟩, vV⟩
end Z

set_option Elab.async false
set_option linter.all false
set_option maxRecDepth 100000
set_option autoImplicit false
set_option maxHeartbeats 1000000
namespace Z
open PySem PySem.Spec PyProof.Rows L2
mutual
def sz : D → Nat
  | .tuple xs => 1 + szs xs
  | .list xs => 1 + szs xs
  | .none => 1
  | .bool _ => 1
  | .int _ => 1
  | .str _ => 1
  | .dict _ => 1
def szs : List D → Nat
  | [] => 0
  | x :: xs => sz x + szs xs
end
end Z

set_option Elab.async false
set_option linter.all false
set_option maxRecDepth 100000
set_option autoImplicit false
set_option maxHeartbeats 2000000
namespace Z
open PySem PySem.Spec PyProof.Rows L2
end Z

set_option Elab.async false
set_option linter.all false
set_option maxRecDepth 100000
set_option autoImplicit false
set_option maxHeartbeats 2000000
namespace Z
open PySem PySem.Spec PyProof.Rows L2
section
variable {X : Cx} {i j : Nat} {x name : Str} {id : String} {f : List D → List D → Option (List D × D)} {e : Expr} {es : List Expr} {p apos cpos pos : Pos}
end
end Z

set_option Elab.async false
set_option linter.all false
set_option maxRecDepth 100000
set_option autoImplicit false
set_option maxHeartbeats 2000000
namespace Z
open PySem PySem.Spec PyProof.Rows L2
section
variable {X : Cx} {x : Str} {p pos kpos cpos : Pos} {e : Expr} {es : List Expr}
end
end Z

set_option Elab.async false
set_option linter.all false
set_option maxRecDepth 100000
set_option autoImplicit false
set_option maxHeartbeats 1000000
namespace Z
open PySem PySem.Spec PyProof.Rows L2
structure FnG (P : Program) (w : World) (K : PySem.W.Frag) (mg : Str → Option Value) (base : Heap) (k : Nat) (f : Addr) (fd : FuncData) (ps : List Str) (sp : Sp) : Prop where
  len : ∀ vs H Q E, sp vs H Q E → vs.length = ps.length
  run : ∀ (A : Around) (outer : List Env) (s : Shared) (H : Hp) (args : Args) (us : List Value) (vs : List V) (Q : VK) (E : XK), A.guards = some [] → Room k A → Env0 P w K mg base A outer s H → BindsTo s fd args (ps.zip us) → Vals vs us → sp vs H Q E →
    codeAny (model P w) A (.call (.ref f) args) (CR (L2.CX P w) outer P w H s Q E) s
theorem FnG.mono {P : Program} {w : World} {K : PySem.W.Frag} {mg : Str → Option Value} {base : Heap} {j k : Nat} {f : Addr} {fd : FuncData} {ps : List Str} {sp : Sp} (F : FnG P w K mg base j f fd ps sp) (h : j ≤ k) : FnG P w K mg base k f fd ps sp :=
  ⟨F.len, fun A outer s H args us vs Q E hg hr => F.run A outer s H args us vs Q E hg (hr.mono h)⟩
section
variable {P : Program} {w : World} {K : PySem.W.Frag} {mg : Str → Option Value} {base : Heap}
structure FnPG (P : Program) (w : World) (K : PySem.W.Frag) (mg : Str → Option Value) (base : Heap) (x : Str) (st : Stmt) (k : Nat) (ps : List Str) (ks : List Pk) (φ : List D → Out) : Prop where
  ex : ∃ f fd qual, Fun K x qual st f fd ∧ mg x = some (.ref f) ∧ FnG P w K mg base k f fd ps (spF K mg ks φ) ∧ Binds K fd ps []
theorem FnPG.mono {x : Str} {st : Stmt} {j k : Nat} {ps : List Str} {ks : List Pk} {φ : List D → Out} (F : FnPG P w K mg base x st j ps ks φ) (h : j ≤ k) : FnPG P w K mg base x st k ps ks φ := by
  obtain ⟨f, fd, qual, a, b, c, d⟩ := F.ex
  exact ⟨f, fd, qual, a, b, c.mono h, d⟩
end
section
variable {X : Cx} {e : Expr} {es : List Expr} {p pos : Pos} {x : Str} {st : Stmt} {k : Nat} {ps : List Str} {ks : List Pk} {φ : List D → Out} {f : Addr} {fd : FuncData} {sp : Sp} {E : St → XK} {t : TA}
end
end Z

set_option Elab.async false
set_option linter.all false
set_option maxRecDepth 100000
set_option autoImplicit false
set_option maxHeartbeats 1000000
namespace Z
open PySem PySem.Spec PyProof.Rows L2
section
variable {P : Program} {w : World} {K : PySem.W.Frag} {mg mb : Str → Option Value} {k : Nat} {fa a : Addr} {fd : FuncData} {x : Str} {s : Shared} {vs : List Value} {ns : List Int}
end
end Z

set_option Elab.async false
set_option linter.all false
set_option maxRecDepth 100000
set_option autoImplicit false
set_option maxHeartbeats 1000000
namespace Z
open PySem PySem.Spec PyProof.Rows L2
section
variable {X : Cx}
end
end Z

set_option Elab.async false
set_option linter.all false
set_option maxRecDepth 100000
set_option autoImplicit false
set_option maxHeartbeats 1000000
namespace Z
open PySem PySem.Spec PyProof.Rows L2
section
variable {X : Cx} {e : Expr} {p pos cp : Pos} {x : Str} {st : Stmt} {k : Nat} {ps : List Str} {φ : List D → Out} {c : Int}
end
end Z

set_option Elab.async false
set_option linter.all false
set_option maxRecDepth 100000
set_option autoImplicit false
set_option maxHeartbeats 2000000
namespace Z
open PySem PySem.Spec PyProof.Rows L2
theorem exO_ok {P : Program} {w : World} {H : Hp} {h : Heap} {a C dd : Addr} {o : Obj} {vs : Array Value} (h1 : h.get? a = some o) (h2 : o.cls = .ref C) (h3 : o.dict = some dd) (h4 : o.data = .fields vs) : ObjOk P w H h a (ExO a C dd) :=
  ⟨⟨o, vs, h1, h2, h3, h4⟩, ⟨o, h1⟩, fun h1' h2' p k => by
    obtain ⟨o', vs', e, r⟩ := p
    exact ⟨o', vs', k o' e, r⟩⟩
section
variable {X : Cx} {n : Str} {i : Nat} {pins : List (Addr × Obj)} {σ : St} {H : Hp} {s : Shared}
/-- an object of ours that wasn't tracked is tracked from here on -/
theorem inv_track (I : L2.Inv X pins σ H s) {a : Addr} {oe : Obj} {vs : Array Value} {o : HO} (ha : s.heap.get? a = some oe) (hd : oe.data = .fields vs) (na : H a = none) (nL : a ≠ X.env.locals) (np : ∀ p ∈ X.pn ++ pins, p.1 ≠ a) (n0 : X.s_0.heap.get? a = none)
    (new : ObjOk X.prog X.w (upd H a o) s.heap a o) : L2.Inv X pins σ (upd H a o) s := by
  have ne : ∀ {b : Addr} {u : HO}, H b = some u → b ≠ a := fun {b u} e z => by rw [z, na] at e; cases e
  refine ⟨I.ok, I.os, I.bare, ⟨I.base.keep, I.base.slot, fun b u e nb hx => ?_, I.base.there, fun b xs e => ?_, fun b ob xs e => ?_, fun b ps e => ?_⟩, I.loc, I.cell, ?_, fun y c e => ?_, fun p hp => ?_, I.hok.laidN (fun _ _ e => e) na new, I.len⟩
  · rw [upd_ne (fun z => by rw [z, n0] at e; cases e)]
    exact I.base.free b u e nb hx
  · have := I.base.tups b xs e
    rw [upd_ne (ne this)]
    exact this
  · have := I.base.frzs b ob xs e
    rw [upd_ne (ne this)]
    exact this
  · obtain ⟨more, e1⟩ := I.base.tbls b ps e
    exact ⟨more, by rw [upd_ne (ne e1)]; exact e1⟩
  · rw [upd_ne (Ne.symm nL)]
    exact I.free
  · obtain ⟨v, ob, ho, hc⟩ := I.cell y c e
    rw [upd_ne (fun z => by
      rw [z, ha] at ho
      cases ho
      rw [hd] at hc
      cases hc)]
    exact I.freeC y c e
  · obtain ⟨p1, p2, p3⟩ := I.pin p hp
    exact ⟨p1, by rw [upd_ne (np p hp)]; exact p2, p3⟩
/-- the suite's ends, where the exception at a is tracked behind it -/
def keepE (i : Nat) (a C dd : Addr) (D : Ends) : Ends :=
  { nx := fun σ H => D.nx (σ.set i none) (upd H a (ExO a C dd)), rt := fun _ _ => False, bk := fun _ _ => False, ct := fun _ _ => False }
def wKeep (K : PySem.W.Frag) (i : Nat) (Wo : WX) (D : Ends) (c : Value) (ts : Suite) : WX := fun cls d σ H =>
  ∃ b, PySem.W.exmOne K cls c = some b ∧ (b = true → ∃ C dd, cls = .ref C ∧ d = some dd ∧ ∀ a, H a = none → ts a cls d (keepE i a C dd D) (σ.set i (some (.ref a))) H) ∧ (b = false → Wo cls d σ H)
theorem ps_try_keep {body : List Stmt} {x : Str} {c : Value} {ts : Suite} {b0 : Stmt} {bs : List Stmt} {p1 p2 pos : Pos} {tb : WX → TS} {Wo : WX} (hex : X.ex = []) (hs' : X.stack = X.env :: X.outer) (hf : X.env.frame = some X.env.locals) (hN : X.N.Nodup) (hi : X.N[i]? = some n) (hn : X.env.kindOf n = some .local) (tk : Takes X Wo)
    (hb : ∀ (W : WX) (pn : List (Addr × Obj)) (xe : Value → Shared → Prop), Takes (X.tr pn xe) W → PassesOwn (model X.prog X.w) X.A X.env xe → PSs (X.tr pn xe) body (tb W))
    (nm : Names X x c) (su : ∀ (a : Addr) (oe : Obj) (cls : Value) (d : Option Addr) (pn : List (Addr × Obj)), Zc cls d oe → (∃ vs, oe.data = .fields vs) → PSs (X.suite a ((a, oe) :: pn)) (b0 :: bs) (ts a cls d)) :
    PS X (.Try body [.ExceptHandler (some (.Name x p1)) (some n) (b0 :: bs) p2] [] [] pos) (fun D σ H => tb (wKeep X.K i Wo D c ts) D σ H) := by
  refine ⟨fun pins s σ H D I h => wpAny_Try_except (wpAny_mono ((hb (wKeep X.K i Wo D c ts) (X.pn ++ pins) _ (fun u z xx => ?_) PassesOwn.looking).run [] s σ H D (I.toTry _) h) (fun f z q => ?_) (fun _ _ q => q))⟩
  case refine_2 =>
    have ok := I.ok
    cases f
    case next => exact wpAny_execs_nil (by obtain ⟨σ1, H1, J, w⟩ := q; exact ⟨σ1, H1, J.ofTry ok, w⟩)
    case ret u => exact (by obtain ⟨v, σ1, H1, J, r, w⟩ := q; exact ⟨v, σ1, H1, J.ofTry ok, r, w⟩)
    all_goals exact (by obtain ⟨σ1, H1, J, w⟩ := q; exact ⟨σ1, H1, J.ofTry ok, w⟩)
  obtain ⟨a, B, sI, p', σ1, H1, cls, d, rfl, J', nb, up, sky, na, os, ag, w⟩ := xx
  have ok := I.ok
  have J := J'.ofTry ok
  have fr : X.A.frames = some (X.env :: X.outer) := ok.frames.trans (congrArg some hs')
  refine Sky.land Zc.steady fr hf (hs' ▸ sky) fun h1 fl up1 => ?_
  have J1 : L2.Inv X pins σ1 H1 { z with heap := h1 } := J.landed nb fl.1 (up.trans up1) os ag
  obtain ⟨oe, vs, g1, g2, g3⟩ := fl.there
  have far : a ∉ frs (X.env :: X.outer) := fun hm => by
    obtain ⟨_, o, g4, g5⟩ := fl.2.2.1.mem hm
    exact g5 _ ((Option.some.inj (g1.symm.trans g4)) ▸ g3)
  have nL : a ≠ X.env.locals := fun e => far (List.mem_filterMap.mpr ⟨X.env, List.mem_cons_self, hf.trans (congrArg some e.symm)⟩)
  have nF : a ∉ X.fs := fun hm => by
    obtain ⟨e, he, q⟩ := List.mem_filterMap.mp hm
    exact far (List.mem_filterMap.mpr ⟨e, List.mem_cons_of_mem _ he, q⟩)
  -- the exception is new
  have nB := fl.2.1
  have far' : ∀ b, b ∈ frs X.stack → b ∈ frs (X.env :: X.outer) := fun b hb => by rw [hs'] at hb; exact hb
  have nI : sI.heap.get? a = none := by
    cases e : sI.heap.get? a with
    | none => rfl
    | some o =>
      have := nb a o e (fun hb => far (far' a hb))
      rw [nB] at this
      cases this
  have n0 : X.s_0.heap.get? a = none := by
    cases e : X.s_0.heap.get? a with
    | none => rfl
    | some o =>
      obtain ⟨o', e1⟩ := J.base.there a o e (by rw [hex]; exact fun z => nomatch z)
      rw [nI] at e1
      cases e1
  have np : ∀ p ∈ X.pn ++ pins, p.1 ≠ a := fun p hp q => by
    have := (J.pin p hp).1
    rw [q, nI] at this
    cases this
  have S1 := J1.suite g1 g3 na nL nF
  obtain ⟨b, hb1, yes, no⟩ := w
  have looks : PySem.W.Looks (model X.prog X.w) h1 (typeOf (.ref a)) cls := fun _ _ _ _ k q => wpAny_typeOf_ref (k _ _ g1) (g2.1.symm ▸ q)
  refine wpAny_handleBy_cons (codeAny_handlers_test ?_) (fun q => nomatch q)
  have named : ∀ {Q E : Value → Shared → Prop}, Q c { z with heap := h1 } → wpAny (model X.prog X.w) (X.A.mark (some (.ref a))) (eval (.Name x p1) X.env) Q E { z with heap := h1 } := fun {Q E} q => by
    rcases nm with ⟨k1, k2, k3 | ⟨k3, k4, k5⟩⟩
    · exact ld_glob (X := X.suite a ((a, oe) :: (X.pn ++ pins))) S1 k1 k3 q k2
    · exact ld_blt (X := X.suite a ((a, oe) :: (X.pn ++ pins))) S1 k1 k3 k4 q k5 k2
  refine named ((PySem.W.exm_one J1.kIn looks hb1).here ?_)
  cases b
  case false =>
    have out : wpAny (model X.prog X.w) X.A (setFlight (.ref a) X.env.frame) (fun _ t => wpAny (model X.prog X.w) X.A (throw (.ref a) : Sem Flow) (SP X pins D) X.xe t) X.xe { z with heap := h1 } :=
      hf ▸ HandSPX.setFlight_upZ fl fun h2 held up2 => wpAny_throw (tk _ _ ⟨a, B, sI, pins, σ1, H1, cls, d, rfl, J, nb, (up.trans up1).trans up2, .inr (.inr (hs' ▸ held)), na, os, ag, no rfl⟩)
    obtain ⟨_, _, _, o, us, t0, _, _, c1, _, c2, c3, _⟩ := id fl
    refine wpAny_handleBy_nil ?_
    unfold PySem.passOn
    refine wpAny_bind (wpAny_field c1 c2 c3 ?_)
    rw [if_neg (by simp : ¬ (Value.ref t0 == Value.none) = true)]
    first
      | exact wpAny_bind out
      | exact wpAny_bind (wpAny_pure (wpAny_bind out))
  case true =>
    obtain ⟨C, dd, rfl, rfl, yes⟩ := yes rfl
    refine codeAny_handlers_suite_as (HandSPX.lands_againZ fl fun h2 fl2 up2 => ?_)
    have J2 : L2.Inv X pins σ1 H1 { z with heap := h2 } := J.landed nb fl2.1 ((up.trans up1).trans up2) os ag
    obtain ⟨oe2, vs2, r1, r2, r3⟩ := fl2.there
    refine store_ok (X := X.suite a ((a, oe2) :: (X.pn ++ pins))) (v := .ref a) (J2.suite r1 r3 na nL nF) hN hi (.inl hn) rfl (fun s3 S3 => ?_) (.inr hn)
    refine wpAny_mono ((su a oe2 (.ref C) (some dd) (X.pn ++ pins) r2 ⟨_, r3⟩).run [] s3 _ H1 _ S3 (yes a na)) (fun f s4 q => ?_) (fun _ _ q => q.elim)
    cases f
    case ret u => obtain ⟨_, _, _, _, _, w⟩ := q; exact w.elim
    case next =>
      obtain ⟨σ4, H4, J4, w⟩ := q
      obtain ⟨q1, q2, _⟩ := J4.pin (a, oe2) (List.mem_append_left _ List.mem_cons_self)
      have J5 := J4.unsuite ok
      have J6 := inv_track (o := ExO a C dd) J5 q1 r3 q2 nL np n0 (exO_ok q1 r2.1 r2.2 r3)
      exact gone_ok J6 hN hi hn fun _ J7 => ⟨_, _, J7, w⟩
    all_goals exact (by obtain ⟨_, _, _, w⟩ := q; exact w.elim)
end
end Z

set_option Elab.async false
set_option linter.all false
set_option maxRecDepth 100000
set_option autoImplicit false
set_option maxHeartbeats 2000000
namespace Z
open PySem PySem.Spec PyProof.Rows L2
/-- an exception as data: its class, its value -/
abbrev eD (c : Str) (x : D) : D := .dict [(.list [], .str c), (.list [], x)]
def sTryK (i j : Nat) (t : Str → Option Bool) (b : M Fl) : M Fl := fun g => match b g with
  | .ok f g' => .ok f g'
  | .ex c x g' => match t c with
    | some true => if i < g'.length then .ok .nx (((g'.set i .u).set j (.d (eD c x))).set i .u) else .bad
    | _ => .bad
  | .bad => .bad
/-- what is said of a clause's class v, of each class that is told -/
def ExK (X : Cx) (t : Str → Option Bool) (v : Value) : Prop := ∀ (c : Str) (C : Addr), X.mg c = some (.ref C) → t c = some true → PySem.W.exmOne X.K (.ref C) v = some true ∧ PySem.W.nsIn X.K mainGlobals c = some (some (.ref C))
section
variable {X : Cx} {n m x : Str} {i j : Nat}
theorem ds_tryK {body : List Stmt} {v : Value} {t : Str → Option Bool} {mb : M Fl} {p1 p2 p3 p4 p5 pos : Pos} (hex : X.ex = []) (hs' : X.stack = X.env :: X.outer) (hf : X.env.frame = some X.env.locals) (hN : X.N.Nodup) (hi : X.N[i]? = some n) (hn : X.env.kindOf n = some .local)
    (hj : X.N[j]? = some m) (hm : Loc X.env.scope m) (hv : Vis X.env.scope n) (hij : i ≠ j)
    (hb : ∀ (pn : List (Addr × Obj)) (xe : Value → Shared → Prop), PassesOwn (model X.prog X.w) X.A X.env xe → DSs (X.tr pn xe) body mb) (nm : Names X x v) (et : ExK X t v) (hd : (n == ("__debug__" : Str)) = false := by decide) (hcd : (n == ("__classdict__" : Str)) = false := by decide)
    (hsw : swapsWith (.Name n p4) (some (.Name m p3)) p5.line X.env = pure false := by rfl) (hfn : X.fn m = true ∨ X.env.scope.names.lookup m = some .local := by first | exact .inl rfl | exact .inr rfl | assumption) :
    DS X (.Try body [.ExceptHandler (some (.Name x p1)) (some n) [.Assign [.Name m p3] (.Name n p4) p5] p2] [] [] pos) (sTryK i j t mb) := fun Wo tk => by
  refine ps_imp (ps_try_keep (X := X) (tb := fun W => st X W mb) (Wo := Wo) (ts := fun a cls d => tAsg (tVar i) (gName j)) hex hs' hf hN hi hn tk (fun W pn xe tk2 po => hb pn xe po W tk2) nm (fun a oe cls d pn _ _ =>
    pss_one (ps_set (X := X.suite a ((a, oe) :: pn)) hN hj hm (pe_var (X := X.suite a ((a, oe) :: pn)) hi hv hd hcd) hsw hfn))) fun D σ H ⟨F, G, Mu, Γ, R, p⟩ => ⟨F, G, Mu, Γ, R, ?_⟩
  unfold sTryK at p
  cases e : mb Γ with
  | bad => rw [e] at p; exact p.elim
  | ok r Γ' =>
    rw [e] at p
    cases r <;> exact p
  | ex c y Γ' =>
    rw [e] at p
    intro C dd w σ' H' G' hC e1 R1 hd dq nF nM
    dsimp only at p
    split at p
    · rename_i ht
      obtain ⟨h1, h2⟩ := et c C hC ht
      split at p
      · rename_i hlt
        refine ⟨true, h1, fun _ => ⟨C, dd, rfl, rfl, fun a ha => ?_⟩, fun z => nomatch z⟩
        have hl : i < σ'.length := by rw [← R1.len]; exact hlt
        refine ⟨.ref a, List.getElem?_set_self hl, ?_⟩
        -- the dict stays
        obtain ⟨G1, g1, R2, gd⟩ : ∃ G1, Same G' G1 ∧ Rel X.K F G1 Mu Γ' σ' H' ∧ G1 dd = some (.xd [(("value" : Str), w)]) := by
          cases q : G' dd with
          | some o =>
            have := R1.gh _ _ q
            rw [hd] at this
            cases this
            exact ⟨G', Same.refl _, R1, q⟩
          | none =>
            obtain ⟨s1, R2⟩ := R1.keepX hd nF q nM (fun k ho => by
              obtain ⟨sv, o1, o2, o3⟩ := ho
              cases sv with
              | own b xs =>
                obtain ⟨l, vs, w1, w2, _⟩ := R1.owned o1
                rw [o3] at w1
                cases w1
                rw [hd] at w2
                cases w2
              | dk ds =>
                obtain ⟨l, es, w1, w2, _⟩ := R1.dkd o1
                rw [o3] at w1
                cases w1
                rw [hd] at w2
                cases w2
              | u => cases o2
              | d x => cases o2
              | a xs => cases o2)
            exact ⟨_, s1, R2, upd_same⟩
        obtain ⟨R3, s3⟩ := R2.new (p := a) (o := ExO a C dd) ha
        have dq2 : Dq X.K (upd G1 a (ExO a C dd)) (.ref a) (eD c y) := .exc h2 upd_same (s3 _ _ gd) (dp_mono (g1.trans s3) _ _ dq)
        have R4 := (R3.forget i (o := some (.ref a))).store (i := j) (sv := .d (eD c y)) (v := .ref a) ⟨.ref a, rfl, dq2⟩ (fun z => nomatch z)
        have R5 := R4.forget i (o := none)
        exact p _ _ _ ((e1.trans g1).trans s3) R5
      · exact p.elim
    · exact p.elim
end
end Z

set_option Elab.async false
set_option linter.all false
set_option maxRecDepth 100000
set_option autoImplicit false
set_option maxHeartbeats 2000000
namespace Z
open PySem PySem.Spec PyProof.Rows L2
def fVal (kn : Str → Bool) : D → Option D
  | .dict [(.list [], .str c), (.list [], x)] => if kn c = true then some x else none
  | _ => none
theorem fVal_e (kn : Str → Bool) (c : Str) (x : D) (h : kn c = true) : fVal kn (eD c x) = some x := if_pos h
theorem fVal_is {kn : Str → Bool} {d z : D} (h : fVal kn d = some z) : ∃ c, d = eD c z ∧ kn c = true := by
  unfold fVal at h
  split at h
  · split at h
    · cases h
      exact ⟨_, rfl, by assumption⟩
    · cases h
  · cases h
section
variable {X : Cx} {e : Expr} {pos : Pos} {pins : List (Addr × Obj)} {σ : St} {H G : Hp} {s : Shared}
theorem kv_head {K : PySem.W.Frag} {kvs : List (Key × V)} {p : D × D} {ds : List (D × D)} (h : KvAll K G kvs (p :: ds)) : ∃ k : Key, p.1 = keyD k := by
  generalize e : p :: ds = l at h
  cases h with
  | nil => cases e
  | cons a b =>
    injection e with e1 e2
    exact ⟨_, by rw [e1]⟩
theorem exc_at {K : PySem.W.Frag} {v : V} {c : Str} {x : D} (h : Dq K G v (eD c x)) : (∃ a C dd w, v = .ref a ∧ PySem.W.nsIn K mainGlobals c = some (some (.ref C)) ∧ G a = some (ExO a C dd) ∧ G dd = some (.xd [(("value" : Str), w)]) ∧ Dq K G w x) := by
  generalize hd : eD c x = d at h
  cases h with
  | exc h1 h2 h3 h4 =>
    cases hd
    exact ⟨_, _, _, _, rfl, h1, h2, h3, h4⟩
  | dic h1 h2 =>
    exfalso
    rename_i ds
    cases hd
    obtain ⟨k, hk⟩ := kv_head h2
    cases k <;> cases hk
  | _ => cases hd
theorem exc_inst (I : L2.Inv X pins σ H s) (gh : Same G H) {a C dd : Addr} {w : V} (h1 : G a = some (ExO a C dd)) (h2 : G dd = some (.xd [(("value" : Str), w)])) :
    ∃ (oe od : Obj) (u : Value), PySem.W.InstAt s.heap a oe C (some od) ∧ RelV w u ∧ ∀ x : Str, PySem.W.lookIn x od = some (if x = "value" then some u else none) := by
  obtain ⟨⟨oe, vs, e1, e2, e3, e4⟩, _⟩ : ObjOk X.prog X.w H s.heap a (ExO a C dd) := I.hok a _ (gh _ _ h1)
  have hx : ObjOk X.prog X.w H s.heap dd (.xd [(("value" : Str), w)]) := I.hok dd _ (gh _ _ h2)
  obtain ⟨mA, hns, hr⟩ := hx
  obtain ⟨od, ho, hl⟩ := lookIn_ns hns
  obtain ⟨u, hu, ru⟩ := RelO.some_of (v := w) (o := mA "value") (hr "value")
  refine ⟨oe, od, u, ⟨e1, e2, by unfold PySem.W.notCls; rw [e4] <;> rfl, by rw [e3]; exact ho⟩, ru, fun x => ?_⟩
  by_cases hx : x = "value"
  · subst hx
    rw [if_pos rfl, hl, hu]
  · rw [if_neg hx, hl]
    have h0 := hr x
    have h3 : ([(("value" : Str), w)] : List (Str × V)).lookup x = none := by
      rw [List.lookup_cons]
      have : (x == ("value" : Str)) = false := beq_eq_false_iff_ne.mpr hx
      rw [this]
      rfl
    rw [h3] at h0
    rw [RelO.none_of h0]
theorem dp_eVal {kn : Str → Bool} {m : M Rs} (hk : ∀ (c : Str) (C : Addr), kn c = true → PySem.W.nsIn X.K mainGlobals c = some (some (.ref C)) → XfC X.K C ∧ PySem.W.findIn X.K (.ref C) "value" = some none) (he : DV X e m)
    (hb : attributeBase e "value" X.env (eval e X.env) = eval e X.env := by rfl) : DP X (.Attribute e "value" pos) (op1 (fVal kn) m) := fun W tk => by
  refine ⟨fun pins s σ H Q I h => ?_⟩
  refine attr_of hb (thn ((he W tk).run pins s σ H _ I (op1_run h)) fun u s1 hh => ?_)
  obtain ⟨v, H1, I1, rv, G, dx, z, gh, r1, ef, q⟩ := hh
  obtain ⟨c, rfl, hc⟩ := fVal_is ef
  rcases r1 with r1 | ⟨_, _, _, _, z, _⟩
  · obtain ⟨a, C, dd, w, rfl, hn, h1, h2, h3⟩ := exc_at r1
    obtain ⟨T, hno⟩ := hk c C hc hn
    obtain ⟨oe, od, uv, J, ru, hl⟩ := exc_inst I1 gh h1 h2
    obtain rfl : u = Value.ref a := rv
    exact HandSPX.exc_get I1.kIn J T.ga T.gg T.exC (PySem.W.findObj_own T.hdC hno rfl (by rw [hl, if_pos rfl])) (handed_of ru) ⟨w, H1, I1.tok _, ru, q _ _ G (Ext.refl gh) h3⟩
  · cases z
end
end Z

set_option Elab.async false
set_option linter.all false
set_option maxRecDepth 100000
set_option autoImplicit false
set_option maxHeartbeats 4000000
namespace Z
open PySem PySem.Spec PySem.Calls PyProof.Rows L2
section
variable {K : PySem.W.Frag} {x D0 : Addr} {ox od : Obj}
theorem class_bind {name : Str} {a g : Value} (hc : (PySem.W.clsIn K D0).isSome = true) (ha : PySem.W.findIn K (.ref D0) name = some (some a)) (hg : PySem.W.specialIn K a "__get__" = some (some g)) (ht : PySem.W.takesIn K a = some true) : PySem.W.findObj K D0 (some od) name = some (.bind g a) := by
  obtain ⟨cd, hc⟩ := Option.isSome_iff_exists.mp hc
  unfold PySem.W.findObj
  simp only [hc, ha, hg, ht, Option.bind_some]
theorem class_of_exc {prog : Program} {w : World} {A : Around} {E : Value → Shared → Prop} {s : Shared} {Q : Option Value → Shared → Prop} (C : ExcC K D0) (X : K.In s.heap) (I : PySem.W.InstAt s.heap x ox D0 (some od)) (q : Q (some (.ref D0)) { s with toks := s.toks + 1 }) :
    wpAny (model prog w) A (getAttr? (.ref x) "__class__") Q E s := by
  have found : PySem.W.findObj K D0 (some od) "__class__" = some (.bind (.builtin "getset_descriptor.__get__") (.builtin "object.__class__")) := class_bind (by
    obtain ⟨cd, hc, _⟩ := PySem.W.any_some C.hd
    rw [hc]
    rfl) C.ha C.hn C.ht
  obtain ⟨hp, g, d, t, os⟩ := s
  have ty := I.type (M := model prog w)
  have sub : PySem.W.Looks (model prog w) hp (isInstance (.ref x) (.type "BaseException")) true := ty.andThen (PySem.W.looks_subIn X C.hs)
  have plain : (Value.builtin "BaseException.__getattribute__" == Value.builtin "object.__getattribute__") = false := by decide +kernel
  have l1 := PySem.W.looks_findIn (M := model prog w) X C.hg
  have l2 := PySem.W.looks_findIn (M := model prog w) X C.hk
  have l3 := PySem.W.looks_find (M := model prog w) X I found
  unfold getAttr? getAttrBy? getAttrBy
  refine wpAny_bind (wpAny_mkText (wpAny_bind (wpAny_attempt (wpAny_holding (wpAny_bind (ty.at (wpAny_bind (l1.at ?_))))))))
  show wpAny _ _ (if (onTheHeap (Value.ref D0) && Value.builtin "BaseException.__getattribute__" == Value.builtin "object.__getattribute__") = true then _ else _) _ _ _
  rw [if_neg (by rw [plain]; simp)]
  unfold getAttrByItsOwn hookBefore
  refine wpAny_bind ?_
  rw [if_pos (show onTheHeap (Value.ref D0) = true from rfl)]
  refine l2.at (wpAny_bind (wpAny_attempt (wpAny_holding ?_)))
  unfold callGetattribute
  rw [if_neg (show ¬ (false && onTheHeap (Value.builtin "BaseException.__getattribute__")) = true from Bool.false_ne_true)]
  unfold boundAndCalled
  rw [PySem.F.excAttr_ValueError.ga.bind (.ref x)]
  refine wpAny_bind (wpAny_pure ?_)
  show wpAny _ _ (call (.builtin "BaseException.__getattribute__") [.ref x, .str "__class__" t]) _ _ _
  refine wpAny_call (codeAny_call_builtin PySem.F.excAttr_ValueError.ga.plain PySem.F.entry_bexc_ga ?_)
  refine @PySem.W.check_slot (model prog w) _ _ ⟨hp, g, d, t + 1, os⟩ "BaseException.__getattribute__" "BaseException" "__getattribute__" (.ref x) [.str "__class__" t] [] _ (by decide +kernel) (by decide +kernel) sub (PySem.F.args_bexc_ga (.ref x) (.str "__class__" t)) ?_
  unfold Builtin.«object.__getattribute__»
  refine wpAny_bind (wpAny_of_eq (a := ((Value.ref x : Value), [Value.str "__class__" t])) (by first | rfl | (simp only [slotArgs]; rfl)) ?_)
  refine wpAny_bind (wpAny_pure (wpAny_bind (ty.at (wpAny_bind (l3.at ?_)))))
  show wpAny _ _ (holding [Value.builtin "object.__class__"] (call (.builtin "getset_descriptor.__get__") [.builtin "object.__class__", .ref x, .ref D0]) >>= ret) _ _ _
  refine wpAny_bind (wpAny_holding (wpAny_call (PySem.W.class_get (s := ⟨hp, g, d, t + 1, os⟩) (ox := ox) (od := some od) X I C.hm ?_)))
  refine wpAny_pure ?_
  show wpAny _ _ (handedOut (.ref D0)) _ _ _
  rw [PySem.W.handedOut_of (v := .ref D0) rfl]
  first
    | exact wpAny_pure (wpAny_pure q)
    | exact wpAny_pure q
    | exact wpAny_pure (wpAny_bind (wpAny_pure (wpAny_pure q)))
theorem kit_exc (C : ExcC K D0) : PySem.W.KitX K (.ref x) (.ref D0) (fun h => PySem.W.InstAt h x ox D0 (some od)) where
  ty := fun _ _ _ I => I.type
  it := fun _ _ X _ => by
    obtain ⟨_, hc, _⟩ := PySem.W.any_some C.hd
    unfold PySem.W.clsIn at hc
    split at hc
    · rename_i ho
      intro A' Q' E' s' k q
      unfold isType loadHead
      exact wpAny_bind (wpAny_loadPart (k _ _ (X _ _ ho)) (wpAny_pure q))
    · cases hc
  ne := fun h tp dd its n sl X htp => by
    obtain ⟨_, hc, _⟩ := PySem.W.any_some C.hd
    cases e : (Value.ref D0 == Value.ref tp) with
    | false => rfl
    | true =>
      have e := Value.ref.inj (beq_iff_eq.mp e)
      subst e
      unfold PySem.W.clsIn at hc
      split at hc
      · rename_i ho
        have z := (X _ _ ho).symm.trans htp
        cases z
      · cases hc
  ca := fun X I k => class_of_exc C X I k
end
end Z

set_option Elab.async false
set_option linter.all false
set_option maxRecDepth 100000
set_option autoImplicit false
set_option maxHeartbeats 2000000
namespace Z
open PySem PySem.Spec PyProof.Rows L2
def fIsE (t : Str → Option Bool) : D → Option D
  | .dict [(.list [], .str c), (.list [], _)] => (t c).map .bool
  | _ => none
theorem fIsE_e (t : Str → Option Bool) (c : Str) (x : D) (b : Bool) (h : t c = some b) : fIsE t (eD c x) = some (.bool b) := by
  show (t c).map PyData.bool = _
  rw [h]
  rfl
theorem fIsE_is {t : Str → Option Bool} {d z : D} (h : fIsE t d = some z) : ∃ c x b, d = eD c x ∧ t c = some b ∧ z = .bool b := by
  unfold fIsE at h
  split at h
  · obtain ⟨b, h1, h2⟩ := Option.map_eq_some_iff.mp h
    exact ⟨_, _, b, rfl, h1, h2.symm⟩
  · cases h
/-- what is said of isinstance of the told classes -/
def IsT (K : PySem.W.Frag) (t : Str → Option Bool) (cv : Value) : Prop := ∀ (c : Str) (C : Addr) (b : Bool), PySem.W.nsIn K mainGlobals c = some (some (.ref C)) → t c = some b → ExcC K C ∧ PySem.W.kitOne K (.ref C) cv = some b
def rIsX (K : PySem.W.Frag) (t : Str → Option Bool) (cl : V) : List V → Hp → VK → Prop := fun xs H Q => ∃ x dx z G, xs = [x, cl] ∧ Same G H ∧ Rdb K G H x dx ∧ fIsE t dx = some z ∧ ∀ v H' G', Ext G H G' H' → Dq K G' v z → Q v H'
section
variable {X : Cx}
theorem cr_isX {t : Str → Option Bool} {cl : V} {cv : Value} (hcv : ∀ u, RelV cl u → u = cv) (ht : IsT X.K t cv) : CallR X (.builtin "isinstance") (rIsX X.K t cl) := by
  intro pins s σ H xs us Q I r h
  obtain ⟨x, dx, z, G, rfl, gh, r1, ef, q⟩ := h
  obtain ⟨u1, u2, rfl, ru1, ru2⟩ := vals2 r
  have ec := hcv _ ru2
  subst ec
  obtain ⟨c, y, b, rfl, hb, rfl⟩ := fIsE_is ef
  rcases r1 with r1 | ⟨_, _, _, _, z, _⟩
  · obtain ⟨a, C, dd, w, rfl, hn, h1, h2, h3⟩ := exc_at r1
    obtain ⟨E, k⟩ := ht c C b hn hb
    obtain ⟨oe, od, uv, J, ru, hl⟩ := exc_inst I gh h1 h2
    obtain rfl : u1 = Value.ref a := ru1
    exact PySem.W.kia_one (kit_exc E) I.kIn J k (fun z => nomatch z) fun tk => ⟨.bl b, H, I.tok tk, rfl, q _ _ G (Ext.refl gh) (.bl b)⟩
  · cases z
variable {pos p p2 : Pos} {a : Expr}
/-- C one of the module's own -/
theorem dp_isE {T : Str} {C : Addr} {t : Str → Option Bool} {m : M Rs} (hg : Gl X "isinstance") (hm : X.mg "isinstance" = none) (ha : DV X a m) (hgT : Gl X T) (hmT : X.mg T = some (.ref C)) (ht : IsT X.K t (.ref C))
    (hdT : (T == ("__debug__" : Str)) = false := by decide) (hs : starEach [a, .Name T p2] X.env = (false, eval a X.env) :: starEach [.Name T p2] X.env := by rfl) (hs2 : starEach [.Name T p2] X.env = (false, eval (.Name T p2) X.env) :: starEach [] X.env := by rfl)
    (hpl : (backTo pos (starEach [.Name T p2] X.env)).any (·.1) = false := by rfl) :
    DP X (.Call (.Name "isinstance" p) [a, .Name T p2] [] pos) (op1 (fIsE t) m) := fun W tk => by
  have pT : PE X (.Name T p2) (tC (.ref C)) := ⟨fun pins s σ H Q I h => ld_glob I hgT hmT ⟨.ref C, H, I, rfl, h⟩ hdT⟩
  refine pe_imp (pe_callB (cr_isX (cl := .ref C) (fun u r => r) ht) hg hm (by decide +kernel) (pa_cons (ha W tk) (pa_cons pT pa_nil hs2) hs) (he := hs) (hpl := hpl)) fun σ H Q p => ?_
  exact (op1_run p).imp fun v H1 ⟨G, dx, z, gh, r1, e, q⟩ => ⟨v, dx, z, G, rfl, gh, r1, e, q⟩
/-- C a built-in class -/
theorem dp_isEB {T : Str} {tn : String} {t : Str → Option Bool} {m : M Rs} (hg : Gl X "isinstance") (hm : X.mg "isinstance" = none) (ha : DV X a m) (hgT : Gl X T) (hmT : X.mg T = none) (hv : bootBuiltins T = some (.type tn)) (ht : IsT X.K t (.type tn))
    (hnT : T ≠ "__name__" := by decide) (hdT : (T == ("__debug__" : Str)) = false := by decide) (hs : starEach [a, .Name T p2] X.env = (false, eval a X.env) :: starEach [.Name T p2] X.env := by rfl) (hs2 : starEach [.Name T p2] X.env = (false, eval (.Name T p2) X.env) :: starEach [] X.env := by rfl)
    (hpl : (backTo pos (starEach [.Name T p2] X.env)).any (·.1) = false := by rfl) :
    DP X (.Call (.Name "isinstance" p) [a, .Name T p2] [] pos) (op1 (fIsE t) m) := fun W tk => by
  refine pe_imp (pe_callB (cr_isX (cl := .ty tn) (fun u r => r) ht) hg hm (by decide +kernel) (pa_cons (ha W tk) (pa_cons (pe_bltn (v := .ty tn) hgT hmT hv rfl hnT hdT) pa_nil hs2) hs) (he := hs) (hpl := hpl)) fun σ H Q p => ?_
  exact (op1_run p).imp fun v H1 ⟨G, dx, z, gh, r1, e, q⟩ => ⟨v, dx, z, G, rfl, gh, r1, e, q⟩
end
end Z

set_option Elab.async false
set_option linter.all false
set_option maxRecDepth 100000
set_option autoImplicit false
set_option maxHeartbeats 4000000
namespace Zk
open PySem PySem.HandSPX PySem.Calls PyProof.Rows
open Builtin Builtin.ObjectAttr
section
variable {prog : Program} {w : World} {A : Around} {E : Value → Shared → Prop} {R : Result → Shared → Prop} {h : Heap} {g : Array GenState} {d : Drawn} {t : Nat} {os : OsState}
variable {nm q : Str} {C N : Addr} {bs bm bmB : List Value} {hdct : Bool} {sn : List Str} {sub : List Value} {ab : Bool} {col : Option Bool} {dd : Option Addr} {k0 k1 k2 k3 k5 : Option Value} {B newId initId : String} {kw : List (Str × Value)}
theorem new_chk (F : ExcBaseFacts B newId initId bmB) (hT : ∀ X : String, bm.contains (.type X) = bmB.contains (.type X)) {M : Model} {Q : Unit → Shared → Prop}
    (hC : h.get? C = some (excClassObj nm q C N bs bm hdct sn sub ab col dd k0 k1 k2 k3 k5 newId)) (hq : Q () ⟨h, g, d, t, os⟩) : wpAny M A (checkBuiltinCall newId ⟨[.ref C], kw⟩) Q E ⟨h, g, d, t, os⟩ := by
  have has : (Value.ref C :: bm).contains (.type B) = true := by rw [List.contains_cons, hT, F.hasB, Bool.or_true]
  have hstar := F.noStar
  simp only [checkBuiltinCall, F.newKind, F.newSplit, F.newRow]
  repeat (first | refine wpAny_loadPart_at hC ?_ | (refine wpAny_isSubtype_exc hC ?_; rw [has]) | refine wpAny_staticBase_exc hC ?_ | refine wpAny_madeBy_exc hC ?_ | simp only [bne_self_eq_false, Bool.false_eq_true, if_false] | wp_step)
  exact hq
theorem new_kw (F : ExcBaseFacts B newId initId bmB) (hT : ∀ X : String, bm.contains (.type X) = bmB.contains (.type X)) (hC : h.get? C = some (excClassObj nm q C N bs bm hdct sn sub ab col dd k0 k1 k2 k3 k5 newId))
    (hq : R (.ok (.ret (.ref (h.objs.size + 1)))) ⟨(h.push (W.kdv_tup [])).push (excO C h.objs.size), g, d, t, os⟩) :
    codeAny (model prog w) A (.builtin newId ⟨[.ref C], kw⟩) R ⟨h, g, d, t, os⟩ := by
  have hends := F.ends
  have has : (Value.ref C :: bm).contains (.type B) = true := by rw [List.contains_cons, hT, F.hasB, Bool.or_true]
  have noA : (Value.ref C :: bm).contains (.type "AttributeError") = false := by rw [List.contains_cons, hT, F.noAttr]; rfl
  have noN : (Value.ref C :: bm).contains (.type "NameError") = false := by rw [List.contains_cons, hT, F.noName]; rfl
  have hrest : ([] : List Value).length ≤ sizeLine := Nat.zero_le _
  refine codeAny_builtinAt F.entry ?_
  unfold Builtin.«BaseException.__new__»
  refine PySem.wpAt_bind ?_
  show PySem.wpAt _ _ _ (stack >>= _) _ _ _
  refine PySem.wpAt_bind (PySem.wpAt_stack fun p below => PySem.wpAt_of_wpAny ?_)
  wp_walk
  refine PySem.wpAt_of_wpAny ?_
  rw [F.owner]
  repeat (first | with_reducible refine wpAny_madeHere_exc F.canon hC ?_ | with_reducible refine wpAny_loadPart_at hC ?_ | (with_reducible refine wpAny_isSubtype_exc hC ?_; first | rw [has] | rw [noA] | rw [noN]) | wp_step)
  show R _ _
  rw [Heap.size_push]
  exact hq
theorem typeCall_kw (F : ExcBaseFacts B newId initId bmB) (hT : ∀ X : String, bm.contains (.type X) = bmB.contains (.type X)) {fI : Addr} {Q : Fin → Shared → Prop}
    (hC : h.get? C = some (excClassObj nm q C N bs bm hdct sn sub ab col dd k0 k1 k2 k3 k5 newId))
    (hi : W.Looks (model prog w) h (typeLookup (.ref C) "__init__") (some (.ref fI))) (hb : ∀ self, W.Looks (model prog w) h (bindSpecial (.ref fI) self) (.ref fI, [self]))
    (hq : codeAny (model prog w) A (.call (.ref fI) ⟨[.ref (h.objs.size + 1)], kw⟩)
      (fun r s' => match r with | .ok (.ret v) => v = .none ∧ Q (.done (.ret (.ref (h.objs.size + 1)))) s' | .ok _ => False | .error e => E e s')
      ⟨(h.push (W.kdv_tup [])).push (excO C h.objs.size), g, d, t, os⟩) :
    wpAny (model prog w) A (Builtin.«type.__call__» ⟨[.ref C], kw⟩) Q E ⟨h, g, d, t, os⟩ := by
  repeat (first | with_reducible refine wpAny_loadPart_at hC ?_ | with_reducible refine wpAny_madeBy_exc hC ?_ | wp_step)
  refine codeAny_call_builtin_code (Code.quiet_builtin _ F.quiet) (new_chk F hT hC ?_)
  refine new_kw F hT hC ?_
  show wpAny _ _ _ _ _ _
  have k : ∀ b o, h.get? b = some o → ((h.push (W.kdv_tup [])).push (excO C h.objs.size)).get? b = some o := fun b o e => Heap.get?_push_of_some _ (Heap.get?_push_of_some _ e)
  have hC₁ := k _ _ hC
  have hget : ((h.push (W.kdv_tup [])).push (excO C h.objs.size)).get? (h.objs.size + 1) = some (excO C h.objs.size) := by heap_get
  have hcC : (Value.ref C :: bm).contains (.ref C) = true := by simp
  have i1 := hi.keeps k
  have b1 := (hb (.ref (h.objs.size + 1))).keeps k
  unfold isInstance
  repeat (first | with_reducible refine wpAny_loadPart_at hget ?_ | (with_reducible refine wpAny_isSubtype_exc hC₁ ?_; rw [hcC]) | wp_step)
  show wpAny _ _ (typeLookup (.ref C) _) _ _ _
  refine i1.at ?_
  refine wpAny_holding (wpAny_bind (b1.at ?_))
  refine wpAny_bind (wpAny_call (codeAny_mono hq fun r s' z => ?_))
  rcases r with e | (v | _ | _ | _) <;> first | exact z | exact z.elim | skip
  obtain ⟨rfl, z⟩ := z
  first
    | exact wpAny_pure (wpAny_pure z)
    | (wp_walk; exact z)
theorem call_kw (F : ExcBaseFacts B newId initId bmB) (hT : ∀ X : String, bm.contains (.type X) = bmB.contains (.type X)) {fI : Addr} (hC : h.get? C = some (excClassObj nm q C N bs bm hdct sn sub ab col dd k0 k1 k2 k3 k5 newId))
    (hi : W.Looks (model prog w) h (typeLookup (.ref C) "__init__") (some (.ref fI))) (hb : ∀ self, W.Looks (model prog w) h (bindSpecial (.ref fI) self) (.ref fI, [self]))
    (hq : codeAny (model prog w) (A.under (.builtin "type.__call__" ⟨[.ref C], kw⟩)) (.call (.ref fI) ⟨[.ref (h.objs.size + 1)], kw⟩) (W.InitBack (h.objs.size + 1) R) ⟨(h.push (W.kdv_tup [])).push (excO C h.objs.size), g, d, t, os⟩) :
    codeAny (model prog w) A (.call (.ref C) ⟨[], kw⟩) R ⟨h, g, d, t, os⟩ := by
  have f1 := tc_lookup
  have f2 := tc_bind (.ref C)
  have hTy : (⟨h, g, d, t, os⟩ : Shared).TypeIs (.ref C) "type" := ⟨_, hC, rfl⟩
  refine codeAny_of_tree ?_
  show wpAny _ _ (callAny (.ref C) _) _ _ _
  repeat (any_goals (first | assumption | with_reducible refine wpAny_loadPart_at hC ?_ | wp_step))
  refine ⟨rfl, ?_⟩
  refine codeAny_call_builtin_at (Code.quiet_builtin _ (by decide +kernel)) entry_typeCall (wpAny_check_type_call_sub hC (typeCall_kw F hT hC hi hb ?_))
  refine codeAny_mono hq fun r s' z => ?_
  rcases r with e | (v | _ | _ | _) <;> exact z
end
end Zk

set_option Elab.async false
set_option linter.all false
set_option maxRecDepth 100000
set_option autoImplicit false
set_option maxHeartbeats 2000000
namespace Z
open PySem PySem.Spec PyProof.Rows L2
def tOf : List (Str × Bool) → Str → Option Bool
  | [], _ => none
  | (c0, b) :: l, c => if c = c0 then some b else tOf l c
def knL : List Str → Str → Bool
  | [], _ => false
  | c0 :: l, c => if c = c0 then true else knL l c
def ExKm (K : PySem.W.Frag) (mg : Str → Option Value) (t : Str → Option Bool) (v : Value) : Prop := ∀ (c : Str) (C : Addr), mg c = some (.ref C) → t c = some true → PySem.W.exmOne K (.ref C) v = some true ∧ PySem.W.nsIn K mainGlobals c = some (some (.ref C))
def VaT (K : PySem.W.Frag) (kn : Str → Bool) : Prop := ∀ (c : Str) (C : Addr), kn c = true → PySem.W.nsIn K mainGlobals c = some (some (.ref C)) → XfC K C ∧ PySem.W.findIn K (.ref C) "value" = some none
section
variable {K : PySem.W.Frag} {mg : Str → Option Value} {cv : Value} {c0 : Str} {C0 C : Addr} {b0 : Bool} {l : List (Str × Bool)} {ls : List Str}
theorem isT_nil : IsT K (tOf []) cv := fun _ _ _ _ h => nomatch h
theorem isT_cons (a : PySem.W.nsIn K mainGlobals c0 = some (some (.ref C0))) (E : ExcC K C0) (k : PySem.W.kitOne K (.ref C0) cv = some b0) (r : IsT K (tOf l) cv) : IsT K (tOf ((c0, b0) :: l)) cv := fun c C b h1 h2 => by
  rw [tOf] at h2
  split at h2
  · rename_i e
    subst e
    cases h2
    cases h1.symm.trans a
    exact ⟨E, k⟩
  · exact r c C b h1 h2
theorem exK_nil : ExKm K mg (tOf []) cv := fun _ _ _ h => nomatch h
theorem exK_cons (g : mg c0 = some (.ref C0)) (a : PySem.W.nsIn K mainGlobals c0 = some (some (.ref C0))) (k : PySem.W.exmOne K (.ref C0) cv = some true) (r : ExKm K mg (tOf l) cv) : ExKm K mg (tOf ((c0, b0) :: l)) cv := fun c C h1 h2 => by
  rw [tOf] at h2
  split at h2
  · rename_i e
    subst e
    cases h1.symm.trans g
    exact ⟨k, a⟩
  · exact r c C h1 h2
theorem vaT_nil : VaT K (knL []) := fun _ _ h => nomatch h
theorem vaT_cons (a : PySem.W.nsIn K mainGlobals c0 = some (some (.ref C0))) (T : XfC K C0) (nb : PySem.W.findIn K (.ref C0) "value" = some none) (r : VaT K (knL ls)) : VaT K (knL (c0 :: ls)) := fun c C h1 h2 => by
  rw [knL] at h1
  split at h1
  · rename_i e
    subst e
    cases h2.symm.trans a
    exact ⟨T, nb⟩
  · exact r c C h1 h2
theorem kit_own {b : Bool} (iC : PySem.W.isClsIn K C = true) (tC : PySem.W.typeIn K (.ref C) = some (.type "type")) (sC : PySem.W.subIn K (.ref C) (.ref C) = some true) (s : PySem.W.subIn K (.ref C0) (.ref C) = some b) : PySem.W.kitOne K (.ref C0) (.ref C) = some b := by
  have e2 : ((PySem.W.clsIn K C).isSome && PySem.W.typeIn K (.ref C) == some (.type "type")) = true := by
    rw [show (PySem.W.clsIn K C).isSome = true from iC, tC] <;> rfl
  unfold PySem.W.kitOne
  split
  · rename_i h
    have : C0 = C := Value.ref.inj (beq_iff_eq.mp h)
    subst this
    rw [s] at sC
    cases sC
    rfl
  · show (if ((PySem.W.clsIn K C).isSome && PySem.W.typeIn K (.ref C) == some (.type "type")) = true then PySem.W.subIn K (.ref C0) (.ref C) else none) = some b
    rw [if_pos e2]
    exact s
theorem kit_ty {T : String} {b : Bool} (s : PySem.W.subIn K (.ref C0) (.type T) = some b) (hT : PySem.W.kitMeta T = true := by decide +kernel) : PySem.W.kitOne K (.ref C0) (.type T) = some b := by
  unfold PySem.W.kitOne
  split
  · rename_i h
    cases beq_iff_eq.mp h
  · show (if PySem.W.kitMeta T = true then PySem.W.subIn K (.ref C0) (.type T) else none) = some b
    rw [if_pos hT]
    exact s
theorem exm_own (h1 : PySem.W.subIn K (.ref C) (.type "BaseException") = some true) (h2 : PySem.W.isClsIn K C = true) (h3 : PySem.W.typeIn K (.ref C) = some (.type "type")) (h4 : PySem.W.subIn K (.ref C0) (.ref C) = some true) :
    PySem.W.exmOne K (.ref C0) (.ref C) = some true := by
  have e2 : ((PySem.W.clsIn K C).isSome && PySem.W.typeIn K (.ref C) == some (.type "type")) = true := by
    rw [show (PySem.W.clsIn K C).isSome = true from h2, h3] <;> rfl
  show (if (PySem.W.subIn K (.ref C) (.type "BaseException") == some true) = true then (if ((PySem.W.clsIn K C).isSome && PySem.W.typeIn K (.ref C) == some (.type "type")) = true then PySem.W.subIn K (.ref C0) (.ref C) else none) else none) = some true
  rw [if_pos (by rw [h1] <;> rfl), if_pos e2]
  exact h4
end
section
variable {X : Cx} {e : Expr} {pos : Pos}
theorem dp_eValL {ls : List Str} {m : M Rs} (hk : VaT X.K (knL ls)) (he : DV X e m) (hb : attributeBase e "value" X.env (eval e X.env) = eval e X.env := by rfl) : DP X (.Attribute e "value" pos) (op1 (fVal (knL ls)) m) := dp_eVal (fun c C h1 h2 => hk c C h1 h2) he hb
end
end Z

set_option Elab.async false
set_option linter.all false
set_option maxRecDepth 100000
set_option autoImplicit false
set_option maxHeartbeats 2000000
namespace Z
open PySem PySem.Spec PyProof.Rows L2
section
variable {X : Cx} {e : Expr} {es : List Expr} {kws : List Keyword} {p pos : Pos} {tk : TA}
theorem pmk_oexK {CX : CXT} {x : Str} {C fI : Addr} {k : Nat} {fd : FuncData} {nv : Str} {s0 : Str} {sp : Sp} (T : OexC X.K C) (iC : PySem.W.findIn X.K (.ref C) "__init__" = some (some (.ref fI))) (tI : PySem.W.typeIn X.K (.ref fI) = some (.type "function"))
    (F1 : FnOk X.prog X.w X.K X.mg X.base CX k fI fd [s0, nv] sp) (hr : Room (k + 1) X.A) (hb : ∀ (s : Shared) (a w : Value), BindsTo s fd ⟨[a], [(nv, w)]⟩ [(s0, a), (nv, w)]) (hx : Passes CX X (fun _ _ _ => False)) (hg : Gl X x) (hm : X.mg x = some (.ref C)) (hkw : PK X kws tk)
    (hall : (backToKw pos (keywordEach kws X.env)).all (·.1.isSome) = true := by rfl) (hks : (backToKw pos (keywordEach kws X.env)).filterMap (·.1) = [nv] := by rfl) (hdb : (x == ("__debug__" : Str)) = false := by decide)
    (hpl : ((backTo pos (starEach [] X.env)).any (·.1) || (backToKw pos (keywordEach kws X.env)).any (·.1.isNone)) = false := by rfl) :
    PMk X (.Call (.Name x p) [] kws pos) (tMkO C sp [] tk) := by
  intro pins s σ H Q I h
  obtain ⟨nm, q, N, bs, bm, sn, sub, ab, col, dd, k0, k1, k2, k3, k5, hC, hbm⟩ := T.cls
  refine wpAny_Call_Name_kw (ld_glob I hg hm ?_ hdb)
  refine PySem.W.callWith_KW0 (h₀ := X.base) I.ok.mod.kin T.kC hall ?_ hpl
  refine thn (hkw.run pos pins s σ H _ I h) fun us s1 ⟨vs, H1, I1, r1, hz, q1⟩ => ⟨I1.kIn, ?_⟩
  rw [hks]
  obtain ⟨hp, g, dr, tk, os⟩ := s1
  have hsz : hp.objs.size ≤ hp.objs.size + 1 := Nat.le_succ _
  have hn : H1 (hp.objs.size + 1) = none := I1.hok.fresh hsz
  have hq := q1 (hp.objs.size + 1) hn
  have kk : ∀ b o, hp.get? b = some o → ((hp.push (PySem.W.kdv_tup [])).push (PySem.HandSPX.excO C hp.objs.size)).get? b = some o := fun b o e => Heap.get?_push_of_some _ (Heap.get?_push_of_some _ e)
  have hget : ((hp.push (PySem.W.kdv_tup [])).push (PySem.HandSPX.excO C hp.objs.size)).get? (hp.objs.size + 1) = some (PySem.HandSPX.excO C hp.objs.size) := by heap_get
  have I2 : L2.Inv X pins σ (upd H1 (hp.objs.size + 1) (exo (hp.objs.size + 1) C none)) ⟨(hp.push (PySem.W.kdv_tup [])).push (PySem.HandSPX.excO C hp.objs.size), g, dr, tk, os⟩ :=
    I1.laid (t' := tk) (a := hp.objs.size + 1) (o := exo (hp.objs.size + 1) C none) (h' := (hp.push (PySem.W.kdv_tup [])).push (PySem.HandSPX.excO C hp.objs.size)) kk hsz (exo_ok hget)
  have r2 : Vals (V.ref (hp.objs.size + 1) :: (vs ++ [])) (Value.ref (hp.objs.size + 1) :: (us ++ [])) := .cons rfl (r1.append .nil)
  have hl : (Value.ref (hp.objs.size + 1) :: us ++ []).length = [s0, nv].length := by
    have e := r2.length
    rw [F1.len _ _ _ _ hq] at e
    exact e.symm
  obtain ⟨u, rfl⟩ : ∃ u, us = [u] := by
    match us, hl with
    | [u], _ => exact ⟨u, rfl⟩
    | [], hl => simp at hl
    | _ :: _ :: _, hl => simp at hl
  refine wpAny_call (Zk.call_kw F.excBase_ValueError (fun Y => PySem.HandSPX.refsVE_contains Y bm hbm) (I1.kIn _ _ hC) (PySem.W.looks_findIn I1.kIn iC) (fun self => PySem.W.bind_fn I1.kIn self tI)
    (codeAny_mono (F1.run _ X.stack _ _ ⟨[Value.ref (hp.objs.size + 1)], [(nv, u)]⟩ [Value.ref (hp.objs.size + 1), u] _ _ (fun _ _ _ => False) (hr.make C [] [(nv, u)]) (I2.env0.make C [] [(nv, u)]) (hb _ _ _) r2 hq) fun r s' hq' => ?_))
  cases r with
  | error er => exact hx pins σ _ _ er s' I2 hq'
  | ok fl =>
    cases fl with
    | ret u =>
      obtain ⟨v, H2, os2, bare2, un2, hok2, rv, ev, d, fs, ea, ed, hd1, q2⟩ := hq'
      subst ev
      obtain ⟨h2, g2, d2, t2, os'⟩ := s'
      exact ⟨rv, mk_end (raises_own T.exC T.tyC) I1 hsz kk un2 hok2 os2 bare2 ea ed hd1 q2⟩
    | next => exact False.elim hq'
    | brk => exact False.elim hq'
    | cont => exact False.elim hq'
/-- what is said of __init__, by place and by name -/
structure InitK (P : Program) (w : World) (K : PySem.W.Frag) (mg : Str → Option Value) (base : Heap) (fI : Addr) (k : Nat) : Prop where
  ex : ∃ fd, PySem.W.typeIn K (.ref fI) = some (.type "function") ∧ FnOk P w K mg base (L2.CX P w) k fI fd ["self", "value"] (spInit K) ∧ ∀ (s : Shared) (a w : Value), BindsTo s fd ⟨[a], [("value", w)]⟩ [("self", a), ("value", w)]
variable {c : Str} {C fI : Addr} {k : Nat} {arg : Expr} {m : M D} {pos2 : Pos} {kp : Pos}
theorem oex_heap {H1 : Hp} {a dx : Addr} {v : V} (ha : H1 a = none) (hne : dx ≠ a) : upd (L2.del (upd (upd (upd H1 a (exo a C none)) dx (exd dx [(("value" : Str), v)])) a (exo a C (some dx))) a) dx (.xd [(("value" : Str), v)]) = upd H1 dx (.xd [(("value" : Str), v)]) := by
  funext b
  by_cases hb : b = dx
  · rw [hb, upd_same, upd_same]
  · rw [upd_ne hb, upd_ne hb]
    by_cases hba : b = a
    · rw [hba, L2.del_same, ha]
    · rw [L2.del_ne hba, upd_ne hba, upd_ne hb, upd_ne hba]
theorem ds_raiseK (hc : X.calm = true) (E : ExC X.K X.mg c C fI) (Ip : InitK X.prog X.w X.K X.mg X.base fI k) (hr : Room (k + 1) X.A) (hg : Gl X c) (h : DP X arg m) (hdb : (c == ("__debug__" : Str)) = false := by decide)
    (hall : (backToKw pos (keywordEach [⟨some "value", arg, kp⟩] X.env)).all (·.1.isSome) = true := by rfl) (hks : (backToKw pos (keywordEach [⟨some "value", arg, kp⟩] X.env)).filterMap (·.1) = [("value" : Str)] := by rfl)
    (hpl : ((backTo pos (starEach [] X.env)).any (·.1) || (backToKw pos (keywordEach [⟨some "value", arg, kp⟩] X.env)).any (·.1.isNone)) = false := by rfl) :
    DS X (.Raise (some (.Call (.Name c p) [] [⟨some "value", arg, kp⟩] pos)) none pos2) (sRaise c m) := fun W tk => by
  obtain ⟨fd, tI, ok, hb⟩ := Ip.ex
  refine ps_imp (ps_raise hc tk (pmk_oexK E.T E.iC tI ok hr hb passL hg E.gC (pk_cons (h W tk) pk_nil) hall hks hdb hpl)) fun D σ H q => ?_
  refine (st_bnd (ρ := rhoD) q).imp fun v H1 ⟨x, F, G, Mu, Γ, R, h1, sp⟩ => ⟨(by decide : 1 ≤ 1000), fun a ha => ⟨a, C, v, rfl, E.T, E.noN, upd_same, fun dx hd hne => ?_⟩⟩
  rw [upd_ne hne] at hd
  refine ⟨rfl, dx, [(("value" : Str), v)], upd_same, by rw [upd_ne hne, upd_same], hd, ?_⟩
  rw [oex_heap ha hne]
  exact sp C dx v σ _ G E.gC (Same.refl G) (R.newX hd) upd_same h1 (R.fh.free hd) (fun z => (R.mu dx z).2.2 hd)
/-- what is made, tracked -/
theorem pe_of_mk {t : St → Hp → XK → Prop} (hmk : PMk X e t) : PE X e (fun σ H Q => t σ H fun cls d H' => ∃ C dd, cls = .ref C ∧ d = some dd ∧ ∀ a, H' a = none → Q (.ref a) (upd H' a (ExO a C dd))) := by
  refine ⟨fun pins s σ H Q I h => wpAny_mono (hmk pins s σ H _ I h) (fun u s1 hu => ?_) (fun _ _ x => x)⟩
  obtain ⟨a, oe, vs, sI, H', cls, d, rfl, J, k, hne, ha, hz, hd, h1, na, os, ag, r, C, dd, rfl, rfl, q⟩ := hu
  have J1 := J.laidN (h' := s1.heap) (t' := sI.toks) k hne na (exO_ok ha hz.1 hz.2 hd)
  have J2 : L2.Inv X pins σ (upd H' a (ExO a C dd)) s1 := J1.landed (s' := s1) (B := s1.heap) (fun b o e _ => e) (fun b o e => e) (fun b o e _ => ⟨o.slots, e⟩) os ag
  exact ⟨.ref a, _, J2, rfl, q a na⟩
theorem dp_mkE (E : ExC X.K X.mg c C fI) (Ip : InitP X.prog X.w X.K X.mg X.base fI k) (hn' : ∃ C' : Addr, PySem.W.nsIn X.K mainGlobals c = some (some (.ref C')) ∧ X.mg c = some (.ref C')) (hr : Room (k + 1) X.A) (hg : Gl X c) (h : DP X arg m) (hdb : (c == ("__debug__" : Str)) = false := by decide)
    (he : starEach (arg :: []) X.env = (false, eval arg X.env) :: starEach [] X.env := by rfl) (hpl : (backTo pos (starEach [] X.env)).any (·.1) = false := by rfl) :
    DP X (.Call (.Name c p) [arg] [] pos) (bnd m fun x => rt (eD c x)) := fun W tk => by
  obtain ⟨fd, tI, ok, hb⟩ := Ip.ex
  obtain ⟨C', hn, hC'⟩ := hn'
  cases hC'.symm.trans E.gC
  refine pe_imp (pe_of_mk (pmk_oex E.T E.iC tI ok hr hb .nil passL hg E.gC (pa_cons (h W tk) pa_nil he) hdb he hpl)) fun σ H Q q => ?_
  refine (zt_bnd (ρ := rhoD) q).imp fun v H1 ⟨x, F, G, Mu, Γ, R, h1, sp⟩ => ⟨(by decide : 1 ≤ 1000), fun a ha => ⟨a, C, v, rfl, E.T, E.noN, upd_same, fun dx hd hne => ?_⟩⟩
  rw [upd_ne hne] at hd
  refine ⟨rfl, dx, [(("value" : Str), v)], upd_same, by rw [upd_ne hne, upd_same], hd, ?_⟩
  rw [oex_heap ha hne]
  refine ⟨C, dx, rfl, rfl, fun b hb => ?_⟩
  have E1 := Ext.new (p := dx) (o := .xd [(("value" : Str), v)]) R.gh hd
  have R1 := R.ext E1
  have E2 := Ext.new (p := b) (o := ExO b C dx) R1.gh hb
  have ne : dx ≠ b := fun z => by rw [← z, upd_same] at hb; cases hb
  exact sp _ _ _ (E1.g.trans E2.g) (R1.ext E2) (show Dq X.K _ (.ref b) (eD c x) from .exc hn upd_same (by rw [upd_ne ne, upd_same]) (dp_mono (E1.g.trans E2.g) _ _ h1))
end
theorem excMk0 {K : PySem.W.Frag} {h : Heap} {mg : Str → Option Value} {c : Str} {st : Stmt} {C fI : Addr} (X : K.In h) (G : h.Ns mainGlobals mg) {qual : Str}
    {nm q : Str} {N : Addr} {bs : List Value} {sn : List Str} {sub : List Value} {ab : Bool} {col : Option Bool} {dd : Option Addr} {m0 m1 m2 m3 m5 : Option Value} {od an : Option Addr} {sl : Array (Option Value)} {oc kV dc pm cd ct : Value}
    (aC : PySem.W.nsIn K mainGlobals c = some (some (.ref C)))
    (xL : K.lookup C = some (excClassObj nm q C N bs [.type "ValueError", .type "Exception", .type "BaseException", .type "object"] true sn sub ab col dd m0 m1 m2 m3 m5 "ValueError.__new__"))
    (sa : PySem.W.findIn K (.ref C) "__setattr__" = some (some (.builtin "object.__setattr__"))) (ga : PySem.W.findIn K (.ref C) "__getattribute__" = some (some (.builtin "BaseException.__getattribute__"))) (gg : PySem.W.findIn K (.ref C) "__getattr__" = some none) (nb : PySem.W.findIn K (.ref C) "value" = some none)
    (a1 : PySem.W.findIn K (.ref C) "__init__" = some (some (.ref fI))) (t1 : PySem.W.typeIn K (.ref fI) = some (.type "function"))
    (l1 : K.lookup fI = some ⟨oc, od, .func (PySem.W.fnOf "__init__" qual (defArgs st) (defBody st) (defScope st) .none kV dc pm an cd ct), sl⟩) (c1 : PySem.W.codeIn K cd qual = true) (k1 : PySem.W.keepIn K (.ref fI) = true)
    (kC : PySem.W.keepIn K (.ref C) = true) (eC : PySem.W.subIn K (.ref C) (.type "BaseException") = some true) (tC : PySem.W.typeIn K (.ref C) = some (.type "type")) (hC : PySem.W.hasDictIn K C = true) (iC : PySem.W.isClsIn K C = true) (sC : PySem.W.subIn K (.ref C) (.ref C) = some true)
    (vV : PySem.W.findCls K (.type "ValueError") (.type "type") "__init__" = some (.val (.builtin "ValueError.__init__"))) : ExX K mg c st :=
  ⟨⟨C, fI, _, qual, ⟨PySem.W.mg_of X G aC, ⟨⟨nm, q, N, bs, _, sn, sub, ab, col, dd, m0, m1, m2, m3, m5, xL, by first | rfl | decide +kernel | simp [PySem.HandSPX.refsVE]⟩, sa, eC, tC, kC⟩, a1, nb⟩, ⟨ga, gg, eC, hC⟩, own_exm eC iC tC sC, t1, fun_mk (st := st) l1 c1 k1⟩, vV⟩
end Z

set_option Elab.async false
set_option linter.all false
set_option maxRecDepth 100000
set_option autoImplicit false
set_option maxHeartbeats 4000000
namespace Ck00
open PySem PySem.Spec PyProof.Rows L2 Z
def topS (i : Nat) : Stmt := PySem.Challenge.pw_wholeorders_k00_errors.main.body.getD i (.Pass ⟨0, 0, 0, 0⟩)
abbrev s__law_deck : Stmt := topS 23
abbrev s__law_take : Stmt := topS 24
abbrev s__law_same : Stmt := topS 25
abbrev s__law_raise_first : Stmt := topS 26
abbrev s__law_raise_second : Stmt := topS 27
abbrev s__law_raise_named_first : Stmt := topS 28
abbrev s__law_raise_named_second : Stmt := topS 29
abbrev s__law_raised : Stmt := topS 30
abbrev s__law_kinds : Stmt := topS 31
abbrev s__law_given : Stmt := topS 32
abbrev s__law_right : Stmt := topS 33
abbrev s__law_base_right : Stmt := topS 34
abbrev s_law : Stmt := topS 35
abbrev s__init : Stmt := clsInit (topS 1)
abbrev kNL : List Str := ["InvalidOrder", "InvalidPattern", "InvalidList", "InvalidForm", "InvalidLetter", "InvalidWord", "InvalidKind", "InvalidNumber", "InvalidPair", "InvalidMachine", "NoMachine", "InvalidTape", "InvalidSorter", "InvalidSaying", "InvalidName", "NotLet", "UnknownName", "NothingToUndo", "Unreadable", "Unorderly", "OrderError"]
abbrev tT_InvalidForm : List (Str × Bool) := [("InvalidOrder", false), ("InvalidPattern", false), ("InvalidList", false), ("InvalidForm", true), ("InvalidLetter", false), ("InvalidWord", false), ("InvalidKind", false), ("InvalidNumber", false), ("InvalidPair", false), ("InvalidMachine", false), ("NoMachine", false), ("InvalidTape", false), ("InvalidSorter", false), ("InvalidSaying", false), ("InvalidName", false), ("NotLet", false), ("UnknownName", false), ("NothingToUndo", false), ("Unreadable", false), ("Unorderly", false), ("OrderError", false)]
abbrev tT_InvalidKind : List (Str × Bool) := [("InvalidOrder", false), ("InvalidPattern", false), ("InvalidList", false), ("InvalidForm", false), ("InvalidLetter", false), ("InvalidWord", false), ("InvalidKind", true), ("InvalidNumber", false), ("InvalidPair", false), ("InvalidMachine", false), ("NoMachine", false), ("InvalidTape", false), ("InvalidSorter", false), ("InvalidSaying", false), ("InvalidName", false), ("NotLet", false), ("UnknownName", false), ("NothingToUndo", false), ("Unreadable", false), ("Unorderly", false), ("OrderError", false)]
abbrev tT_InvalidLetter : List (Str × Bool) := [("InvalidOrder", false), ("InvalidPattern", false), ("InvalidList", false), ("InvalidForm", false), ("InvalidLetter", true), ("InvalidWord", false), ("InvalidKind", false), ("InvalidNumber", false), ("InvalidPair", false), ("InvalidMachine", false), ("NoMachine", false), ("InvalidTape", false), ("InvalidSorter", false), ("InvalidSaying", false), ("InvalidName", false), ("NotLet", false), ("UnknownName", false), ("NothingToUndo", false), ("Unreadable", false), ("Unorderly", false), ("OrderError", false)]
abbrev tT_InvalidList : List (Str × Bool) := [("InvalidOrder", false), ("InvalidPattern", false), ("InvalidList", true), ("InvalidForm", false), ("InvalidLetter", false), ("InvalidWord", false), ("InvalidKind", false), ("InvalidNumber", false), ("InvalidPair", false), ("InvalidMachine", false), ("NoMachine", false), ("InvalidTape", false), ("InvalidSorter", false), ("InvalidSaying", false), ("InvalidName", false), ("NotLet", false), ("UnknownName", false), ("NothingToUndo", false), ("Unreadable", false), ("Unorderly", false), ("OrderError", false)]
abbrev tT_InvalidMachine : List (Str × Bool) := [("InvalidOrder", false), ("InvalidPattern", false), ("InvalidList", false), ("InvalidForm", false), ("InvalidLetter", false), ("InvalidWord", false), ("InvalidKind", false), ("InvalidNumber", false), ("InvalidPair", false), ("InvalidMachine", true), ("NoMachine", false), ("InvalidTape", false), ("InvalidSorter", false), ("InvalidSaying", false), ("InvalidName", false), ("NotLet", false), ("UnknownName", false), ("NothingToUndo", false), ("Unreadable", false), ("Unorderly", false), ("OrderError", false)]
abbrev tT_InvalidName : List (Str × Bool) := [("InvalidOrder", false), ("InvalidPattern", false), ("InvalidList", false), ("InvalidForm", false), ("InvalidLetter", false), ("InvalidWord", false), ("InvalidKind", false), ("InvalidNumber", false), ("InvalidPair", false), ("InvalidMachine", false), ("NoMachine", false), ("InvalidTape", false), ("InvalidSorter", false), ("InvalidSaying", false), ("InvalidName", true), ("NotLet", false), ("UnknownName", false), ("NothingToUndo", false), ("Unreadable", false), ("Unorderly", false), ("OrderError", false)]
abbrev tT_InvalidNumber : List (Str × Bool) := [("InvalidOrder", false), ("InvalidPattern", false), ("InvalidList", false), ("InvalidForm", false), ("InvalidLetter", false), ("InvalidWord", false), ("InvalidKind", false), ("InvalidNumber", true), ("InvalidPair", false), ("InvalidMachine", false), ("NoMachine", false), ("InvalidTape", false), ("InvalidSorter", false), ("InvalidSaying", false), ("InvalidName", false), ("NotLet", false), ("UnknownName", false), ("NothingToUndo", false), ("Unreadable", false), ("Unorderly", false), ("OrderError", false)]
abbrev tT_InvalidOrder : List (Str × Bool) := [("InvalidOrder", true), ("InvalidPattern", false), ("InvalidList", false), ("InvalidForm", false), ("InvalidLetter", false), ("InvalidWord", false), ("InvalidKind", false), ("InvalidNumber", false), ("InvalidPair", false), ("InvalidMachine", false), ("NoMachine", false), ("InvalidTape", false), ("InvalidSorter", false), ("InvalidSaying", false), ("InvalidName", false), ("NotLet", false), ("UnknownName", false), ("NothingToUndo", false), ("Unreadable", false), ("Unorderly", false), ("OrderError", false)]
abbrev tT_InvalidPair : List (Str × Bool) := [("InvalidOrder", false), ("InvalidPattern", false), ("InvalidList", false), ("InvalidForm", false), ("InvalidLetter", false), ("InvalidWord", false), ("InvalidKind", false), ("InvalidNumber", false), ("InvalidPair", true), ("InvalidMachine", false), ("NoMachine", false), ("InvalidTape", false), ("InvalidSorter", false), ("InvalidSaying", false), ("InvalidName", false), ("NotLet", false), ("UnknownName", false), ("NothingToUndo", false), ("Unreadable", false), ("Unorderly", false), ("OrderError", false)]
abbrev tT_InvalidPattern : List (Str × Bool) := [("InvalidOrder", false), ("InvalidPattern", true), ("InvalidList", false), ("InvalidForm", false), ("InvalidLetter", false), ("InvalidWord", false), ("InvalidKind", false), ("InvalidNumber", false), ("InvalidPair", false), ("InvalidMachine", false), ("NoMachine", false), ("InvalidTape", false), ("InvalidSorter", false), ("InvalidSaying", false), ("InvalidName", false), ("NotLet", false), ("UnknownName", false), ("NothingToUndo", false), ("Unreadable", false), ("Unorderly", false), ("OrderError", false)]
abbrev tT_InvalidSaying : List (Str × Bool) := [("InvalidOrder", false), ("InvalidPattern", false), ("InvalidList", false), ("InvalidForm", false), ("InvalidLetter", false), ("InvalidWord", false), ("InvalidKind", false), ("InvalidNumber", false), ("InvalidPair", false), ("InvalidMachine", false), ("NoMachine", false), ("InvalidTape", false), ("InvalidSorter", false), ("InvalidSaying", true), ("InvalidName", false), ("NotLet", false), ("UnknownName", false), ("NothingToUndo", false), ("Unreadable", false), ("Unorderly", false), ("OrderError", false)]
abbrev tT_InvalidSorter : List (Str × Bool) := [("InvalidOrder", false), ("InvalidPattern", false), ("InvalidList", false), ("InvalidForm", false), ("InvalidLetter", false), ("InvalidWord", false), ("InvalidKind", false), ("InvalidNumber", false), ("InvalidPair", false), ("InvalidMachine", false), ("NoMachine", false), ("InvalidTape", false), ("InvalidSorter", true), ("InvalidSaying", false), ("InvalidName", false), ("NotLet", false), ("UnknownName", false), ("NothingToUndo", false), ("Unreadable", false), ("Unorderly", false), ("OrderError", false)]
abbrev tT_InvalidTape : List (Str × Bool) := [("InvalidOrder", false), ("InvalidPattern", false), ("InvalidList", false), ("InvalidForm", false), ("InvalidLetter", false), ("InvalidWord", false), ("InvalidKind", false), ("InvalidNumber", false), ("InvalidPair", false), ("InvalidMachine", false), ("NoMachine", false), ("InvalidTape", true), ("InvalidSorter", false), ("InvalidSaying", false), ("InvalidName", false), ("NotLet", false), ("UnknownName", false), ("NothingToUndo", false), ("Unreadable", false), ("Unorderly", false), ("OrderError", false)]
abbrev tT_InvalidWord : List (Str × Bool) := [("InvalidOrder", false), ("InvalidPattern", false), ("InvalidList", false), ("InvalidForm", false), ("InvalidLetter", false), ("InvalidWord", true), ("InvalidKind", false), ("InvalidNumber", false), ("InvalidPair", false), ("InvalidMachine", false), ("NoMachine", false), ("InvalidTape", false), ("InvalidSorter", false), ("InvalidSaying", false), ("InvalidName", false), ("NotLet", false), ("UnknownName", false), ("NothingToUndo", false), ("Unreadable", false), ("Unorderly", false), ("OrderError", false)]
abbrev tT_NoMachine : List (Str × Bool) := [("InvalidOrder", false), ("InvalidPattern", false), ("InvalidList", false), ("InvalidForm", false), ("InvalidLetter", false), ("InvalidWord", false), ("InvalidKind", false), ("InvalidNumber", false), ("InvalidPair", false), ("InvalidMachine", false), ("NoMachine", true), ("InvalidTape", false), ("InvalidSorter", false), ("InvalidSaying", false), ("InvalidName", false), ("NotLet", false), ("UnknownName", false), ("NothingToUndo", false), ("Unreadable", false), ("Unorderly", false), ("OrderError", false)]
abbrev tT_NotLet : List (Str × Bool) := [("InvalidOrder", false), ("InvalidPattern", false), ("InvalidList", false), ("InvalidForm", false), ("InvalidLetter", false), ("InvalidWord", false), ("InvalidKind", false), ("InvalidNumber", false), ("InvalidPair", false), ("InvalidMachine", false), ("NoMachine", false), ("InvalidTape", false), ("InvalidSorter", false), ("InvalidSaying", false), ("InvalidName", false), ("NotLet", true), ("UnknownName", false), ("NothingToUndo", false), ("Unreadable", false), ("Unorderly", false), ("OrderError", false)]
abbrev tT_NothingToUndo : List (Str × Bool) := [("InvalidOrder", false), ("InvalidPattern", false), ("InvalidList", false), ("InvalidForm", false), ("InvalidLetter", false), ("InvalidWord", false), ("InvalidKind", false), ("InvalidNumber", false), ("InvalidPair", false), ("InvalidMachine", false), ("NoMachine", false), ("InvalidTape", false), ("InvalidSorter", false), ("InvalidSaying", false), ("InvalidName", false), ("NotLet", false), ("UnknownName", false), ("NothingToUndo", true), ("Unreadable", false), ("Unorderly", false), ("OrderError", false)]
abbrev tT_OrderError : List (Str × Bool) := [("InvalidOrder", true), ("InvalidPattern", true), ("InvalidList", true), ("InvalidForm", true), ("InvalidLetter", true), ("InvalidWord", true), ("InvalidKind", true), ("InvalidNumber", true), ("InvalidPair", true), ("InvalidMachine", true), ("NoMachine", true), ("InvalidTape", true), ("InvalidSorter", true), ("InvalidSaying", true), ("InvalidName", true), ("NotLet", true), ("UnknownName", true), ("NothingToUndo", true), ("Unreadable", true), ("Unorderly", true), ("OrderError", true)]
abbrev tT_UnknownName : List (Str × Bool) := [("InvalidOrder", false), ("InvalidPattern", false), ("InvalidList", false), ("InvalidForm", false), ("InvalidLetter", false), ("InvalidWord", false), ("InvalidKind", false), ("InvalidNumber", false), ("InvalidPair", false), ("InvalidMachine", false), ("NoMachine", false), ("InvalidTape", false), ("InvalidSorter", false), ("InvalidSaying", false), ("InvalidName", false), ("NotLet", false), ("UnknownName", true), ("NothingToUndo", false), ("Unreadable", false), ("Unorderly", false), ("OrderError", false)]
abbrev tT_Unorderly : List (Str × Bool) := [("InvalidOrder", false), ("InvalidPattern", false), ("InvalidList", false), ("InvalidForm", false), ("InvalidLetter", false), ("InvalidWord", false), ("InvalidKind", false), ("InvalidNumber", false), ("InvalidPair", false), ("InvalidMachine", false), ("NoMachine", false), ("InvalidTape", false), ("InvalidSorter", false), ("InvalidSaying", false), ("InvalidName", false), ("NotLet", false), ("UnknownName", false), ("NothingToUndo", false), ("Unreadable", false), ("Unorderly", true), ("OrderError", false)]
abbrev tT_Unreadable : List (Str × Bool) := [("InvalidOrder", false), ("InvalidPattern", false), ("InvalidList", false), ("InvalidForm", false), ("InvalidLetter", false), ("InvalidWord", false), ("InvalidKind", false), ("InvalidNumber", false), ("InvalidPair", false), ("InvalidMachine", false), ("NoMachine", false), ("InvalidTape", false), ("InvalidSorter", false), ("InvalidSaying", false), ("InvalidName", false), ("NotLet", false), ("UnknownName", false), ("NothingToUndo", false), ("Unreadable", true), ("Unorderly", false), ("OrderError", false)]
abbrev tT_ValueError : List (Str × Bool) := [("InvalidOrder", true), ("InvalidPattern", true), ("InvalidList", true), ("InvalidForm", true), ("InvalidLetter", true), ("InvalidWord", true), ("InvalidKind", true), ("InvalidNumber", true), ("InvalidPair", true), ("InvalidMachine", true), ("NoMachine", true), ("InvalidTape", true), ("InvalidSorter", true), ("InvalidSaying", true), ("InvalidName", true), ("NotLet", true), ("UnknownName", true), ("NothingToUndo", true), ("Unreadable", true), ("Unorderly", true), ("OrderError", true)]
/-! ### mirrors -/
def m__law_deck : M Fl :=
  (dSeq (sSet 2 (dC (.int 0)))
    (dSeq (sIf (dB (op2 fLt (dName 1) (dv (opN fLen (vCons (dName 0) vNil))))) (sSet 2 (op2 fIx (dName 0) (dName 1))) sNx)
    (dSeq (sSet 3 (op2 fMod (dv (opN fInt (vCons (dv (rD (op2r fAdd fCat (dv (rD (op2r fAdd fCat (dName 2) (dv (op2 fMul (dv (dC (.int 7919))) (dName 1)))))) (dv (dC (.int 104729)))))) vNil))) (dv (dC (.int 2305843009213693951)))))
    (dSeq (sSet 3 (op2 fMod (dv (opN fInt (vCons (dv (rD (op2r fAdd fCat (dv (rD (op2r fAdd fCat (dv (op2 fMul (dv (op2 fMul (dName 3) (dName 3))) (dName 3))) (dv (op2 fMul (dv (dC (.int 31))) (dName 1)))))) (dv (dC (.int 7)))))) vNil))) (dv (dC (.int 2305843009213693951)))))
    (dSeq (sIf (dB (op2 fLt (dName 2) (dv (op2 fPow (dv (dC (.int 10))) (dv (dC (.int 18))))))) (sRetO (dLst (dCons (dC (.int 0)) (dCons (dEsc (dName 3)) dNil)))) sNx)
    (sRetO (dLst (dCons (op2 fSub (dName 2) (dv (op2 fPow (dv (dC (.int 10))) (dv (dC (.int 18)))))) (dCons (dEsc (dName 3)) dNil)))))))))
def φ__law_deck : List PyData → Out := runF 4 [.v, .v] m__law_deck
def m__law_take : M Fl :=
  (dSeq (sIf (dB (op2 fGt (dv (op2 fIx (dName 0) (dv (dC (.int 0))))) (dv (dC (.int 0))))) (dSeq (sSet 2 (op2 fMod (dv (opN fInt (vCons (dv (op2 fIx (dName 0) (dv (dC (.int 0))))) vNil))) (dName 1)))
    (dSeq (sSub 0 (op2 fDiv (dv (op2 fIx (dName 0) (dv (dC (.int 0))))) (dName 1)) (dv (dC (.int 0))))
    (sRetV 2))) sNx)
    (dSeq (sSub 0 (op2 fMod (dv (opN fInt (vCons (dv (rD (op2r fAdd fCat (dv (op2 fMul (dv (op2 fIx (dName 0) (dv (dC (.int 1))))) (dv (dC (.int 6364136223846793005))))) (dv (dC (.int 1442695040888963407)))))) vNil))) (dv (op2 fPow (dv (dC (.int 2))) (dv (dC (.int 64)))))) (dv (dC (.int 1))))
    (sRet (op2 fMod (dv (op2 fDiv (dv (op2 fIx (dName 0) (dv (dC (.int 1))))) (dv (op2 fPow (dv (dC (.int 2))) (dv (dC (.int 20))))))) (dName 1)))))
def φ__law_take : List PyData → Out := runF 3 [.m, .v] m__law_take
def m__law_same (rec : List PyData → Out) : M Fl :=
  (dSeq (sIf (dB (op1 (fIs [.tuple, .list]) (dName 1))) (dSeq (sIf (dOr (dB (op2 fNe (dv (op1 (fIs [.tuple]) (dName 0))) (dv (op1 (fIs [.tuple]) (dName 1))))) (dB (op2 fNe (dv (op1 (fIs [.list]) (dName 0))) (dv (op1 (fIs [.list]) (dName 1)))))) (sRet (dC (.bool false))) sNx)
    (dSeq (sIf (dB (op2 fNe (dv (opN fLen (vCons (dName 0) vNil))) (dv (opN fLen (vCons (dName 1) vNil))))) (sRet (dC (.bool false))) sNx)
    (sRet (op2 fEq (dv (dFz (compL [2] (.nm 2) (iR1 (vCons (dv (opN fLen (vCons (dName 1) vNil))) vNil)) (dNot (dB (rD (callP [.v, .v] rec (vCons (dv (op2 fIx (dName 0) (dName 2))) (vCons (dv (op2 fIx (dName 1) (dName 2))) vNil)))))) (dEsc (dName 2))))) (dv (dFz (dLst dNil))))))) sNx)
    (dSeq (sIf (dB (op2 fIsN (dName 1) (dv (dC .none)))) (sRet (op2 fIsN (dName 0) (dv (dC .none)))) sNx)
    (dSeq (sIf (dB (op1 (fIs [.str]) (dName 1))) (sRet (dAndV (op1 (fIs [.str]) (dName 0)) (op2 fEq (dName 0) (dName 1)))) sNx)
    (dSeq (sIf (dOr (dB (op1 (fIs [.bool]) (dName 1))) (dB (op1 (fIs [.bool]) (dName 0)))) (sRet (dAndV (op1 (fIs [.bool]) (dName 1)) (dAndV (op1 (fIs [.bool]) (dName 0)) (op2 fEq (dName 0) (dName 1))))) sNx)
    (sRet (dAndV (op1 (fIs [.int]) (dName 0)) (op2 fEq (dName 0) (dName 1))))))))
def φ__law_same : Nat → List PyData → Out
  | 0 => fun _ => .bad
  | n + 1 => runF 3 [.v, .v] (m__law_same (φ__law_same n))
def m__law_raise_first : M Fl :=
  (dSeq (sIf (dB (op2 fEq (dName 0) (dv (dC (.int 0))))) (sRaise "InvalidOrder" (dEsc (dName 1))) sNx)
    (dSeq (sIf (dB (op2 fEq (dName 0) (dv (dC (.int 1))))) (sRaise "InvalidPattern" (dEsc (dName 1))) sNx)
    (dSeq (sIf (dB (op2 fEq (dName 0) (dv (dC (.int 2))))) (sRaise "InvalidList" (dEsc (dName 1))) sNx)
    (dSeq (sIf (dB (op2 fEq (dName 0) (dv (dC (.int 3))))) (sRaise "InvalidForm" (dEsc (dName 1))) sNx)
    (dSeq (sIf (dB (op2 fEq (dName 0) (dv (dC (.int 4))))) (sRaise "InvalidLetter" (dEsc (dName 1))) sNx)
    (dSeq (sIf (dB (op2 fEq (dName 0) (dv (dC (.int 5))))) (sRaise "InvalidWord" (dEsc (dName 1))) sNx)
    (dSeq (sIf (dB (op2 fEq (dName 0) (dv (dC (.int 6))))) (sRaise "InvalidKind" (dEsc (dName 1))) sNx)
    (dSeq (sIf (dB (op2 fEq (dName 0) (dv (dC (.int 7))))) (sRaise "InvalidNumber" (dEsc (dName 1))) sNx)
    (dSeq (sIf (dB (op2 fEq (dName 0) (dv (dC (.int 8))))) (sRaise "InvalidPair" (dEsc (dName 1))) sNx)
    (sRaise "InvalidMachine" (dEsc (dName 1))))))))))))
def φ__law_raise_first : List PyData → Out := runF 2 [.v, .p] m__law_raise_first
def m__law_raise_second : M Fl :=
  (dSeq (sIf (dB (op2 fEq (dName 0) (dv (dC (.int 10))))) (sRaise "NoMachine" (dEsc (dName 1))) sNx)
    (dSeq (sIf (dB (op2 fEq (dName 0) (dv (dC (.int 11))))) (sRaise "InvalidTape" (dEsc (dName 1))) sNx)
    (dSeq (sIf (dB (op2 fEq (dName 0) (dv (dC (.int 12))))) (sRaise "InvalidSorter" (dEsc (dName 1))) sNx)
    (dSeq (sIf (dB (op2 fEq (dName 0) (dv (dC (.int 13))))) (sRaise "InvalidSaying" (dEsc (dName 1))) sNx)
    (dSeq (sIf (dB (op2 fEq (dName 0) (dv (dC (.int 14))))) (sRaise "InvalidName" (dEsc (dName 1))) sNx)
    (dSeq (sIf (dB (op2 fEq (dName 0) (dv (dC (.int 15))))) (sRaise "NotLet" (dEsc (dName 1))) sNx)
    (dSeq (sIf (dB (op2 fEq (dName 0) (dv (dC (.int 16))))) (sRaise "UnknownName" (dEsc (dName 1))) sNx)
    (dSeq (sIf (dB (op2 fEq (dName 0) (dv (dC (.int 17))))) (sRaise "NothingToUndo" (dEsc (dName 1))) sNx)
    (dSeq (sIf (dB (op2 fEq (dName 0) (dv (dC (.int 18))))) (sRaise "Unreadable" (dEsc (dName 1))) sNx)
    (sRaise "Unorderly" (dEsc (dName 1))))))))))))
def φ__law_raise_second : List PyData → Out := runF 2 [.v, .p] m__law_raise_second
def m__law_raise_named_first : M Fl :=
  (dSeq (sIf (dB (op2 fEq (dName 0) (dv (dC (.int 0))))) (sRaise "InvalidOrder" (dEsc (dName 1))) sNx)
    (dSeq (sIf (dB (op2 fEq (dName 0) (dv (dC (.int 1))))) (sRaise "InvalidPattern" (dEsc (dName 1))) sNx)
    (dSeq (sIf (dB (op2 fEq (dName 0) (dv (dC (.int 2))))) (sRaise "InvalidList" (dEsc (dName 1))) sNx)
    (dSeq (sIf (dB (op2 fEq (dName 0) (dv (dC (.int 3))))) (sRaise "InvalidForm" (dEsc (dName 1))) sNx)
    (dSeq (sIf (dB (op2 fEq (dName 0) (dv (dC (.int 4))))) (sRaise "InvalidLetter" (dEsc (dName 1))) sNx)
    (dSeq (sIf (dB (op2 fEq (dName 0) (dv (dC (.int 5))))) (sRaise "InvalidWord" (dEsc (dName 1))) sNx)
    (dSeq (sIf (dB (op2 fEq (dName 0) (dv (dC (.int 6))))) (sRaise "InvalidKind" (dEsc (dName 1))) sNx)
    (dSeq (sIf (dB (op2 fEq (dName 0) (dv (dC (.int 7))))) (sRaise "InvalidNumber" (dEsc (dName 1))) sNx)
    (dSeq (sIf (dB (op2 fEq (dName 0) (dv (dC (.int 8))))) (sRaise "InvalidPair" (dEsc (dName 1))) sNx)
    (sRaise "InvalidMachine" (dEsc (dName 1))))))))))))
def φ__law_raise_named_first : List PyData → Out := runF 2 [.v, .p] m__law_raise_named_first
def m__law_raise_named_second : M Fl :=
  (dSeq (sIf (dB (op2 fEq (dName 0) (dv (dC (.int 10))))) (sRaise "NoMachine" (dEsc (dName 1))) sNx)
    (dSeq (sIf (dB (op2 fEq (dName 0) (dv (dC (.int 11))))) (sRaise "InvalidTape" (dEsc (dName 1))) sNx)
    (dSeq (sIf (dB (op2 fEq (dName 0) (dv (dC (.int 12))))) (sRaise "InvalidSorter" (dEsc (dName 1))) sNx)
    (dSeq (sIf (dB (op2 fEq (dName 0) (dv (dC (.int 13))))) (sRaise "InvalidSaying" (dEsc (dName 1))) sNx)
    (dSeq (sIf (dB (op2 fEq (dName 0) (dv (dC (.int 14))))) (sRaise "InvalidName" (dEsc (dName 1))) sNx)
    (dSeq (sIf (dB (op2 fEq (dName 0) (dv (dC (.int 15))))) (sRaise "NotLet" (dEsc (dName 1))) sNx)
    (dSeq (sIf (dB (op2 fEq (dName 0) (dv (dC (.int 16))))) (sRaise "UnknownName" (dEsc (dName 1))) sNx)
    (dSeq (sIf (dB (op2 fEq (dName 0) (dv (dC (.int 17))))) (sRaise "NothingToUndo" (dEsc (dName 1))) sNx)
    (dSeq (sIf (dB (op2 fEq (dName 0) (dv (dC (.int 18))))) (sRaise "Unreadable" (dEsc (dName 1))) sNx)
    (sRaise "Unorderly" (dEsc (dName 1))))))))))))
def φ__law_raise_named_second : List PyData → Out := runF 2 [.v, .p] m__law_raise_named_second
def m__law_raised : M Fl :=
  (sIf (dAnd (dB (op2 fLt (dName 0) (dv (dC (.int 10))))) (dB (dEsc (dName 2)))) (sExprR (callP [.v, .p] φ__law_raise_named_first (vCons (dName 0) (vCons (dv (dEsc (dName 1))) vNil)))) (sIf (dB (op2 fLt (dName 0) (dv (dC (.int 10))))) (sExprR (callP [.v, .p] φ__law_raise_first (vCons (dName 0) (vCons (dv (dEsc (dName 1))) vNil)))) (sIf (dB (dEsc (dName 2))) (sExprR (callP [.v, .p] φ__law_raise_named_second (vCons (dName 0) (vCons (dv (dEsc (dName 1))) vNil)))) (sExprR (callP [.v, .p] φ__law_raise_second (vCons (dName 0) (vCons (dv (dEsc (dName 1))) vNil)))))))
def φ__law_raised : List PyData → Out := runF 3 [.v, .p, .p] m__law_raised
def m__law_kinds : M Fl :=
  (dSeq (sSetO 1 (dLst (dCons (op1 (fIsE (tOf tT_InvalidOrder)) (dName 0)) (dCons (op1 (fIsE (tOf tT_InvalidPattern)) (dName 0)) (dCons (op1 (fIsE (tOf tT_InvalidList)) (dName 0)) dNil)))))
    (dSeq (sSetR 1 (op2r fAdd fCat (dName 1) (dv (dFz (dLst (dCons (op1 (fIsE (tOf tT_InvalidForm)) (dName 0)) (dCons (op1 (fIsE (tOf tT_InvalidLetter)) (dName 0)) (dCons (op1 (fIsE (tOf tT_InvalidWord)) (dName 0)) dNil))))))))
    (dSeq (sSetR 1 (op2r fAdd fCat (dName 1) (dv (dFz (dLst (dCons (op1 (fIsE (tOf tT_InvalidKind)) (dName 0)) (dCons (op1 (fIsE (tOf tT_InvalidNumber)) (dName 0)) (dCons (op1 (fIsE (tOf tT_InvalidPair)) (dName 0)) dNil))))))))
    (dSeq (sSetR 1 (op2r fAdd fCat (dName 1) (dv (dFz (dLst (dCons (op1 (fIsE (tOf tT_InvalidMachine)) (dName 0)) (dCons (op1 (fIsE (tOf tT_NoMachine)) (dName 0)) (dCons (op1 (fIsE (tOf tT_InvalidTape)) (dName 0)) dNil))))))))
    (dSeq (sSetR 1 (op2r fAdd fCat (dName 1) (dv (dFz (dLst (dCons (op1 (fIsE (tOf tT_InvalidSorter)) (dName 0)) (dCons (op1 (fIsE (tOf tT_InvalidSaying)) (dName 0)) (dCons (op1 (fIsE (tOf tT_InvalidName)) (dName 0)) dNil))))))))
    (dSeq (sSetR 1 (op2r fAdd fCat (dName 1) (dv (dFz (dLst (dCons (op1 (fIsE (tOf tT_NotLet)) (dName 0)) (dCons (op1 (fIsE (tOf tT_UnknownName)) (dName 0)) (dCons (op1 (fIsE (tOf tT_NothingToUndo)) (dName 0)) dNil))))))))
    (sRetR (op2r fAdd fCat (dName 1) (dv (dFz (dLst (dCons (op1 (fIsE (tOf tT_Unreadable)) (dName 0)) (dCons (op1 (fIsE (tOf tT_Unorderly)) (dName 0)) dNil)))))))))))))
def φ__law_kinds : List PyData → Out := runF 2 [.v] m__law_kinds
def m__law_given : M Fl :=
  (dSeq (sSet 1 (op2 fSub (dv (rD (callP [.m, .v] φ__law_take (vCons (dName 0) (vCons (dv (op2 fPow (dv (dC (.int 10))) (dv (dC (.int 30))))) vNil))))) (dv (op2 fPow (dv (dC (.int 10))) (dv (dC (.int 29)))))))
    (dSeq (sSetO 2 (dLst (dCons (dEsc (dName 1)) (dCons (rD (callP [.m, .v] φ__law_take (vCons (dName 0) (vCons (dv (dC (.int 9))) vNil)))) (dCons (dC (.str "")) (dCons (dC (.str "a b")) (dCons (dC .none) (dCons (dC (.bool true)) (dCons (dC (.bool false)) (dCons (dTup dNil) (dCons (dTup (dCons (dEsc (dName 1)) (dCons (dC (.int 1)) dNil))) (dCons (dFz (dLst (dCons (dEsc (dName 1)) (dCons (dC (.str "x")) dNil)))) (dCons (dTup (dCons (dTup (dCons (dC (.int 1)) (dCons (dC (.int 2)) dNil))) (dCons (dTup (dCons (dC (.str "a")) (dCons (dTup dNil) dNil))) dNil))) (dCons (dFz (dLst dNil)) (dCons (op1 fNeg (dv (dC (.int 1)))) (dCons (dC (.int 0)) dNil))))))))))))))))
    (sRet (op2 fIx (dName 2) (dv (rD (callP [.m, .v] φ__law_take (vCons (dName 0) (vCons (dv (dC (.int 14))) vNil)))))))))
def φ__law_given : List PyData → Out := runF 3 [.m] m__law_given
def m__law_right : M Fl :=
  (dSeq (sSet 3 (dC .none))
    (dSeq (sTryK 4 3 (tOf tT_OrderError) (sExprR (callP [.v, .p, .p] φ__law_raised (vCons (dName 0) (vCons (dv (dEsc (dName 1))) (vCons (dv (dEsc (dName 2))) vNil))))))
    (dSeq (sIf (dOr (dB (op2 fIsN (dName 3) (dv (dC .none)))) (dNot (dB (op1 (fIsE (tOf tT_ValueError)) (dName 3))))) (sRet (dC (.bool false))) sNx)
    (sRet (dAndV (op2 fEq (dv (rD (callP [.v] φ__law_kinds (vCons (dName 3) vNil)))) (dv (dFz (compL [5] (.nm 5) (iR1 (vCons (dv (dC (.int 20))) vNil)) (rt true) (op2 fEq (dName 5) (dName 0)))))) (rD (callP [.v, .v] (φ__law_same 4) (vCons (dv (op1 (fVal (knL kNL)) (dName 3))) (vCons (dName 1) vNil)))))))))
def φ__law_right : List PyData → Out := runF 6 [.v, .p, .p] m__law_right
def m__law_base_right : M Fl :=
  (dSeq (sSet 1 (dC .none))
    (dSeq (sTryK 2 1 (tOf tT_OrderError) (sRaise "OrderError" (dEsc (dName 0))))
    (dSeq (sIf (dOr (dNot (dB (op1 (fIsE (tOf tT_ValueError)) (dName 1)))) (dB (op2 fIn (dv (dC (.bool true))) (dv (rD (callP [.v] φ__law_kinds (vCons (dName 1) vNil))))))) (sRet (dC (.bool false))) sNx)
    (sRet (dAndV (rD (callP [.v, .v] (φ__law_same 4) (vCons (dv (op1 (fVal (knL kNL)) (dName 1))) (vCons (dName 0) vNil)))) (rD (callP [.v, .v] (φ__law_same 4) (vCons (dv (op1 (fVal (knL kNL)) (dv (bnd (dEsc (dName 0)) fun x => rt (eD "OrderError" x))))) (vCons (dName 0) vNil)))))))))
def φ__law_base_right : List PyData → Out := runF 3 [.p] m__law_base_right
def m_law : M Fl :=
  (dSeq (sPar [1, 2] (msD (dC .none) (msD (dC .none) msNil)))
    (dSeq (sFor (.nm 3) [3, 4, 5, 6, 7, 8] (iR1 (vCons (dv (opN fMax (vCons (dv (dC (.int 1))) (vCons (dv (opN fMin (vCons (dv (opN fLen (vCons (dName 0) vNil))) (vCons (dv (dC (.int 40))) vNil)))) vNil)))) vNil)) (dSeq (sSetR 4 (callP [.v, .v] φ__law_deck (vCons (dName 0) (vCons (dName 3) vNil))))
    (dSeq (sPar [5, 6] (msR (callP [.m, .v] φ__law_take (vCons (dName 4) (vCons (dv (dC (.int 20))) vNil))) (msD (op2 fEq (dv (rD (callP [.m, .v] φ__law_take (vCons (dName 4) (vCons (dv (dC (.int 2))) vNil))))) (dv (dC (.int 1)))) msNil)))
    (dSeq (sPar [7, 8] (msR (callP [.m] φ__law_given (vCons (dName 4) vNil)) (msR (callP [.m] φ__law_given (vCons (dName 4) vNil)) msNil)))
    (dSeq (sIf (dOr (dNot (dB (rD (callP [.v, .p, .p] φ__law_right (vCons (dName 5) (vCons (dv (dEsc (dName 7))) (vCons (dv (dEsc (dName 6))) vNil))))))) (dOr (dNot (dB (rD (callP [.v, .p, .p] φ__law_right (vCons (dName 5) (vCons (dv (dEsc (dName 8))) (vCons (dv (dNotV (dEsc (dName 6)))) vNil))))))) (dNot (dB (rD (callP [.p] φ__law_base_right (vCons (dv (dEsc (dName 8))) vNil))))))) (sRet (dC (.bool false))) sNx)
    (dSeq (sTryK 9 1 (tOf tT_OrderError) (sExprR (callP [.v, .p, .p] φ__law_raised (vCons (dName 5) (vCons (dv (dEsc (dName 7))) (vCons (dv (dEsc (dName 6))) vNil))))))
    (dSeq (sTryK 9 2 (tOf tT_OrderError) (sExprR (callP [.v, .p, .p] φ__law_raised (vCons (dName 5) (vCons (dv (dEsc (dName 8))) (vCons (dv (dEsc (dName 6))) vNil))))))
    (sIf (dOr (dNot (dB (rD (callP [.v, .v] (φ__law_same 4) (vCons (dv (op1 (fVal (knL kNL)) (dName 1))) (vCons (dName 7) vNil)))))) (dNot (dB (rD (callP [.v, .v] (φ__law_same 4) (vCons (dv (op1 (fVal (knL kNL)) (dName 2))) (vCons (dName 8) vNil))))))) (sRet (dC (.bool false))) sNx))))))))
    (dSeq (sFor (.nm 5) [] (iR1 (vCons (dv (dC (.int 20))) vNil)) (sIf (dOr (dNot (dB (rD (callP [.v, .p, .p] φ__law_right (vCons (dName 5) (vCons (dv (dEsc (dName 5))) (vCons (dv (dC (.bool false))) vNil))))))) (dNot (dB (rD (callP [.v, .p, .p] φ__law_right (vCons (dName 5) (vCons (dv (dC (.str "a"))) (vCons (dv (dC (.bool true))) vNil)))))))) (sRet (dC (.bool false))) sNx))
    (sRet (dC (.bool true))))))
def φ_law : List PyData → Out := runF 10 [.v] m_law
/-! ### what the top holds -/
structure EnvOk (mg : Str → Option Value) (K : PySem.W.Frag) : Prop where
  f__law_deck : ∃ f fd, Fun K "_law_deck" "_law_deck" s__law_deck f fd ∧ mg "_law_deck" = some (.ref f)
  f__law_take : ∃ f fd, Fun K "_law_take" "_law_take" s__law_take f fd ∧ mg "_law_take" = some (.ref f)
  f__law_same : ∃ f fd, Fun K "_law_same" "_law_same" s__law_same f fd ∧ mg "_law_same" = some (.ref f)
  f__law_raise_first : ∃ f fd, Fun K "_law_raise_first" "_law_raise_first" s__law_raise_first f fd ∧ mg "_law_raise_first" = some (.ref f)
  f__law_raise_second : ∃ f fd, Fun K "_law_raise_second" "_law_raise_second" s__law_raise_second f fd ∧ mg "_law_raise_second" = some (.ref f)
  f__law_raise_named_first : ∃ f fd, Fun K "_law_raise_named_first" "_law_raise_named_first" s__law_raise_named_first f fd ∧ mg "_law_raise_named_first" = some (.ref f)
  f__law_raise_named_second : ∃ f fd, Fun K "_law_raise_named_second" "_law_raise_named_second" s__law_raise_named_second f fd ∧ mg "_law_raise_named_second" = some (.ref f)
  f__law_raised : ∃ f fd, Fun K "_law_raised" "_law_raised" s__law_raised f fd ∧ mg "_law_raised" = some (.ref f)
  f__law_kinds : ∃ f fd, Fun K "_law_kinds" "_law_kinds" s__law_kinds f fd ∧ mg "_law_kinds" = some (.ref f)
  f__law_given : ∃ f fd, Fun K "_law_given" "_law_given" s__law_given f fd ∧ mg "_law_given" = some (.ref f)
  f__law_right : ∃ f fd, Fun K "_law_right" "_law_right" s__law_right f fd ∧ mg "_law_right" = some (.ref f)
  f__law_base_right : ∃ f fd, Fun K "_law_base_right" "_law_base_right" s__law_base_right f fd ∧ mg "_law_base_right" = some (.ref f)
  f_law : ∃ f fd, Fun K "law" "law" s_law f fd ∧ mg "law" = some (.ref f)
  b_ValueError : mg "ValueError" = none
  b_bool : mg "bool" = none
  b_int : mg "int" = none
  b_isinstance : mg "isinstance" = none
  b_len : mg "len" = none
  b_list : mg "list" = none
  b_max : mg "max" = none
  b_min : mg "min" = none
  b_range : mg "range" = none
  b_str : mg "str" = none
  b_tuple : mg "tuple" = none
  x_InvalidOrder : ExX K mg "InvalidOrder" s__init
  x_InvalidPattern : ExX K mg "InvalidPattern" s__init
  x_InvalidList : ExX K mg "InvalidList" s__init
  x_InvalidForm : ExX K mg "InvalidForm" s__init
  x_InvalidLetter : ExX K mg "InvalidLetter" s__init
  x_InvalidWord : ExX K mg "InvalidWord" s__init
  x_InvalidKind : ExX K mg "InvalidKind" s__init
  x_InvalidNumber : ExX K mg "InvalidNumber" s__init
  x_InvalidPair : ExX K mg "InvalidPair" s__init
  x_InvalidMachine : ExX K mg "InvalidMachine" s__init
  x_NoMachine : ExX K mg "NoMachine" s__init
  x_InvalidTape : ExX K mg "InvalidTape" s__init
  x_InvalidSorter : ExX K mg "InvalidSorter" s__init
  x_InvalidSaying : ExX K mg "InvalidSaying" s__init
  x_InvalidName : ExX K mg "InvalidName" s__init
  x_NotLet : ExX K mg "NotLet" s__init
  x_UnknownName : ExX K mg "UnknownName" s__init
  x_NothingToUndo : ExX K mg "NothingToUndo" s__init
  x_Unreadable : ExX K mg "Unreadable" s__init
  x_Unorderly : ExX K mg "Unorderly" s__init
  x_OrderError : ExX K mg "OrderError" s__init
  y_InvalidForm : ∃ C : Addr, mg "InvalidForm" = some (.ref C) ∧ IsT K (tOf tT_InvalidForm) (.ref C)
  y_InvalidKind : ∃ C : Addr, mg "InvalidKind" = some (.ref C) ∧ IsT K (tOf tT_InvalidKind) (.ref C)
  y_InvalidLetter : ∃ C : Addr, mg "InvalidLetter" = some (.ref C) ∧ IsT K (tOf tT_InvalidLetter) (.ref C)
  y_InvalidList : ∃ C : Addr, mg "InvalidList" = some (.ref C) ∧ IsT K (tOf tT_InvalidList) (.ref C)
  y_InvalidMachine : ∃ C : Addr, mg "InvalidMachine" = some (.ref C) ∧ IsT K (tOf tT_InvalidMachine) (.ref C)
  y_InvalidName : ∃ C : Addr, mg "InvalidName" = some (.ref C) ∧ IsT K (tOf tT_InvalidName) (.ref C)
  y_InvalidNumber : ∃ C : Addr, mg "InvalidNumber" = some (.ref C) ∧ IsT K (tOf tT_InvalidNumber) (.ref C)
  y_InvalidOrder : ∃ C : Addr, mg "InvalidOrder" = some (.ref C) ∧ IsT K (tOf tT_InvalidOrder) (.ref C)
  y_InvalidPair : ∃ C : Addr, mg "InvalidPair" = some (.ref C) ∧ IsT K (tOf tT_InvalidPair) (.ref C)
  y_InvalidPattern : ∃ C : Addr, mg "InvalidPattern" = some (.ref C) ∧ IsT K (tOf tT_InvalidPattern) (.ref C)
  y_InvalidSaying : ∃ C : Addr, mg "InvalidSaying" = some (.ref C) ∧ IsT K (tOf tT_InvalidSaying) (.ref C)
  y_InvalidSorter : ∃ C : Addr, mg "InvalidSorter" = some (.ref C) ∧ IsT K (tOf tT_InvalidSorter) (.ref C)
  y_InvalidTape : ∃ C : Addr, mg "InvalidTape" = some (.ref C) ∧ IsT K (tOf tT_InvalidTape) (.ref C)
  y_InvalidWord : ∃ C : Addr, mg "InvalidWord" = some (.ref C) ∧ IsT K (tOf tT_InvalidWord) (.ref C)
  y_NoMachine : ∃ C : Addr, mg "NoMachine" = some (.ref C) ∧ IsT K (tOf tT_NoMachine) (.ref C)
  y_NotLet : ∃ C : Addr, mg "NotLet" = some (.ref C) ∧ IsT K (tOf tT_NotLet) (.ref C)
  y_NothingToUndo : ∃ C : Addr, mg "NothingToUndo" = some (.ref C) ∧ IsT K (tOf tT_NothingToUndo) (.ref C)
  y_UnknownName : ∃ C : Addr, mg "UnknownName" = some (.ref C) ∧ IsT K (tOf tT_UnknownName) (.ref C)
  y_Unorderly : ∃ C : Addr, mg "Unorderly" = some (.ref C) ∧ IsT K (tOf tT_Unorderly) (.ref C)
  y_Unreadable : ∃ C : Addr, mg "Unreadable" = some (.ref C) ∧ IsT K (tOf tT_Unreadable) (.ref C)
  yb_ValueError : IsT K (tOf tT_ValueError) (.type "ValueError")
  z_OrderError : ∃ C : Addr, mg "OrderError" = some (.ref C) ∧ ExKm K mg (tOf tT_OrderError) (.ref C)
  n_OrderError : ∃ C : Addr, PySem.W.nsIn K mainGlobals "OrderError" = some (some (.ref C)) ∧ mg "OrderError" = some (.ref C)
  vl : VaT K (knL kNL)
/-! ### derivations -/
section
variable {P : Program} {w : World} {K : PySem.W.Frag} {mg : Str → Option Value} {base : Heap}
theorem sc__init : FnScope ["self", "value"] ["self", "value"] (defScope s__init) := ⟨rfl, rfl, rfl, by decide +kernel, rfl, by decide +kernel, by decide +kernel⟩
theorem raise_InvalidOrder (e : EnvOk mg K) : ∃ C fI, ExC K mg "InvalidOrder" C fI ∧ InitP P w K mg base fI 1 ∧ XfC K C ∧ PySem.W.exmOne K (.ref C) (.ref C) = some true := by
  obtain ⟨⟨C, fI, fd, qual, a, b, c, d, F⟩, vV⟩ := e.x_InvalidOrder
  exact ⟨C, fI, a, ⟨⟨fd, d, ok_init F sc__init fun cdv A outer s H E => (pss_cons (ps_expr (pe_veinit (by rfl) e.b_ValueError vV (pa_cons (pe_var (i := 0) rfl (by first | exact Or.inl rfl | exact Or.inr (Or.inl rfl) | exact Or.inr (Or.inr rfl))) (pa_cons (pe_var (i := 1) rfl (by first | exact Or.inl rfl | exact Or.inr (Or.inl rfl) | exact Or.inr (Or.inr rfl))) pa_nil)))) (pss_one (ps_ost (pe_var (i := 0) rfl (by first | exact Or.inl rfl | exact Or.inr (Or.inl rfl) | exact Or.inr (Or.inr rfl))) (pe_var (i := 1) rfl (by first | exact Or.inl rfl | exact Or.inr (Or.inl rfl) | exact Or.inr (Or.inr rfl)))))), F.binds (ps := ["self", "value"]) fun _ _ _ _ _ _ us hl => match us, hl with | [_, _], _ => rfl⟩⟩, b, c⟩
theorem raiseK_InvalidOrder (e : EnvOk mg K) : ∃ C fI, ExC K mg "InvalidOrder" C fI ∧ InitK P w K mg base fI 1 := by
  obtain ⟨⟨C, fI, fd, qual, a, b, c, d, F⟩, vV⟩ := e.x_InvalidOrder
  obtain ⟨oc, od, kV, doc, pm', an, cdv, ct, osl, efd, lk, hcd⟩ := id F.ex
  exact ⟨C, fI, a, ⟨⟨fd, d, ok_init F sc__init fun cdv A outer s H E => (pss_cons (ps_expr (pe_veinit (by rfl) e.b_ValueError vV (pa_cons (pe_var (i := 0) rfl (by first | exact Or.inl rfl | exact Or.inr (Or.inl rfl) | exact Or.inr (Or.inr rfl))) (pa_cons (pe_var (i := 1) rfl (by first | exact Or.inl rfl | exact Or.inr (Or.inl rfl) | exact Or.inr (Or.inr rfl))) pa_nil)))) (pss_one (ps_ost (pe_var (i := 0) rfl (by first | exact Or.inl rfl | exact Or.inr (Or.inl rfl) | exact Or.inr (Or.inr rfl))) (pe_var (i := 1) rfl (by first | exact Or.inl rfl | exact Or.inr (Or.inl rfl) | exact Or.inr (Or.inr rfl)))))), fun s a w => .of_eq (by rw [efd]; rfl)⟩⟩⟩
theorem raise_InvalidPattern (e : EnvOk mg K) : ∃ C fI, ExC K mg "InvalidPattern" C fI ∧ InitP P w K mg base fI 1 ∧ XfC K C ∧ PySem.W.exmOne K (.ref C) (.ref C) = some true := by
  obtain ⟨⟨C, fI, fd, qual, a, b, c, d, F⟩, vV⟩ := e.x_InvalidPattern
  exact ⟨C, fI, a, ⟨⟨fd, d, ok_init F sc__init fun cdv A outer s H E => (pss_cons (ps_expr (pe_veinit (by rfl) e.b_ValueError vV (pa_cons (pe_var (i := 0) rfl (by first | exact Or.inl rfl | exact Or.inr (Or.inl rfl) | exact Or.inr (Or.inr rfl))) (pa_cons (pe_var (i := 1) rfl (by first | exact Or.inl rfl | exact Or.inr (Or.inl rfl) | exact Or.inr (Or.inr rfl))) pa_nil)))) (pss_one (ps_ost (pe_var (i := 0) rfl (by first | exact Or.inl rfl | exact Or.inr (Or.inl rfl) | exact Or.inr (Or.inr rfl))) (pe_var (i := 1) rfl (by first | exact Or.inl rfl | exact Or.inr (Or.inl rfl) | exact Or.inr (Or.inr rfl)))))), F.binds (ps := ["self", "value"]) fun _ _ _ _ _ _ us hl => match us, hl with | [_, _], _ => rfl⟩⟩, b, c⟩
theorem raiseK_InvalidPattern (e : EnvOk mg K) : ∃ C fI, ExC K mg "InvalidPattern" C fI ∧ InitK P w K mg base fI 1 := by
  obtain ⟨⟨C, fI, fd, qual, a, b, c, d, F⟩, vV⟩ := e.x_InvalidPattern
  obtain ⟨oc, od, kV, doc, pm', an, cdv, ct, osl, efd, lk, hcd⟩ := id F.ex
  exact ⟨C, fI, a, ⟨⟨fd, d, ok_init F sc__init fun cdv A outer s H E => (pss_cons (ps_expr (pe_veinit (by rfl) e.b_ValueError vV (pa_cons (pe_var (i := 0) rfl (by first | exact Or.inl rfl | exact Or.inr (Or.inl rfl) | exact Or.inr (Or.inr rfl))) (pa_cons (pe_var (i := 1) rfl (by first | exact Or.inl rfl | exact Or.inr (Or.inl rfl) | exact Or.inr (Or.inr rfl))) pa_nil)))) (pss_one (ps_ost (pe_var (i := 0) rfl (by first | exact Or.inl rfl | exact Or.inr (Or.inl rfl) | exact Or.inr (Or.inr rfl))) (pe_var (i := 1) rfl (by first | exact Or.inl rfl | exact Or.inr (Or.inl rfl) | exact Or.inr (Or.inr rfl)))))), fun s a w => .of_eq (by rw [efd]; rfl)⟩⟩⟩
theorem raise_InvalidList (e : EnvOk mg K) : ∃ C fI, ExC K mg "InvalidList" C fI ∧ InitP P w K mg base fI 1 ∧ XfC K C ∧ PySem.W.exmOne K (.ref C) (.ref C) = some true := by
  obtain ⟨⟨C, fI, fd, qual, a, b, c, d, F⟩, vV⟩ := e.x_InvalidList
  exact ⟨C, fI, a, ⟨⟨fd, d, ok_init F sc__init fun cdv A outer s H E => (pss_cons (ps_expr (pe_veinit (by rfl) e.b_ValueError vV (pa_cons (pe_var (i := 0) rfl (by first | exact Or.inl rfl | exact Or.inr (Or.inl rfl) | exact Or.inr (Or.inr rfl))) (pa_cons (pe_var (i := 1) rfl (by first | exact Or.inl rfl | exact Or.inr (Or.inl rfl) | exact Or.inr (Or.inr rfl))) pa_nil)))) (pss_one (ps_ost (pe_var (i := 0) rfl (by first | exact Or.inl rfl | exact Or.inr (Or.inl rfl) | exact Or.inr (Or.inr rfl))) (pe_var (i := 1) rfl (by first | exact Or.inl rfl | exact Or.inr (Or.inl rfl) | exact Or.inr (Or.inr rfl)))))), F.binds (ps := ["self", "value"]) fun _ _ _ _ _ _ us hl => match us, hl with | [_, _], _ => rfl⟩⟩, b, c⟩
theorem raiseK_InvalidList (e : EnvOk mg K) : ∃ C fI, ExC K mg "InvalidList" C fI ∧ InitK P w K mg base fI 1 := by
  obtain ⟨⟨C, fI, fd, qual, a, b, c, d, F⟩, vV⟩ := e.x_InvalidList
  obtain ⟨oc, od, kV, doc, pm', an, cdv, ct, osl, efd, lk, hcd⟩ := id F.ex
  exact ⟨C, fI, a, ⟨⟨fd, d, ok_init F sc__init fun cdv A outer s H E => (pss_cons (ps_expr (pe_veinit (by rfl) e.b_ValueError vV (pa_cons (pe_var (i := 0) rfl (by first | exact Or.inl rfl | exact Or.inr (Or.inl rfl) | exact Or.inr (Or.inr rfl))) (pa_cons (pe_var (i := 1) rfl (by first | exact Or.inl rfl | exact Or.inr (Or.inl rfl) | exact Or.inr (Or.inr rfl))) pa_nil)))) (pss_one (ps_ost (pe_var (i := 0) rfl (by first | exact Or.inl rfl | exact Or.inr (Or.inl rfl) | exact Or.inr (Or.inr rfl))) (pe_var (i := 1) rfl (by first | exact Or.inl rfl | exact Or.inr (Or.inl rfl) | exact Or.inr (Or.inr rfl)))))), fun s a w => .of_eq (by rw [efd]; rfl)⟩⟩⟩
theorem raise_InvalidForm (e : EnvOk mg K) : ∃ C fI, ExC K mg "InvalidForm" C fI ∧ InitP P w K mg base fI 1 ∧ XfC K C ∧ PySem.W.exmOne K (.ref C) (.ref C) = some true := by
  obtain ⟨⟨C, fI, fd, qual, a, b, c, d, F⟩, vV⟩ := e.x_InvalidForm
  exact ⟨C, fI, a, ⟨⟨fd, d, ok_init F sc__init fun cdv A outer s H E => (pss_cons (ps_expr (pe_veinit (by rfl) e.b_ValueError vV (pa_cons (pe_var (i := 0) rfl (by first | exact Or.inl rfl | exact Or.inr (Or.inl rfl) | exact Or.inr (Or.inr rfl))) (pa_cons (pe_var (i := 1) rfl (by first | exact Or.inl rfl | exact Or.inr (Or.inl rfl) | exact Or.inr (Or.inr rfl))) pa_nil)))) (pss_one (ps_ost (pe_var (i := 0) rfl (by first | exact Or.inl rfl | exact Or.inr (Or.inl rfl) | exact Or.inr (Or.inr rfl))) (pe_var (i := 1) rfl (by first | exact Or.inl rfl | exact Or.inr (Or.inl rfl) | exact Or.inr (Or.inr rfl)))))), F.binds (ps := ["self", "value"]) fun _ _ _ _ _ _ us hl => match us, hl with | [_, _], _ => rfl⟩⟩, b, c⟩
theorem raiseK_InvalidForm (e : EnvOk mg K) : ∃ C fI, ExC K mg "InvalidForm" C fI ∧ InitK P w K mg base fI 1 := by
  obtain ⟨⟨C, fI, fd, qual, a, b, c, d, F⟩, vV⟩ := e.x_InvalidForm
  obtain ⟨oc, od, kV, doc, pm', an, cdv, ct, osl, efd, lk, hcd⟩ := id F.ex
  exact ⟨C, fI, a, ⟨⟨fd, d, ok_init F sc__init fun cdv A outer s H E => (pss_cons (ps_expr (pe_veinit (by rfl) e.b_ValueError vV (pa_cons (pe_var (i := 0) rfl (by first | exact Or.inl rfl | exact Or.inr (Or.inl rfl) | exact Or.inr (Or.inr rfl))) (pa_cons (pe_var (i := 1) rfl (by first | exact Or.inl rfl | exact Or.inr (Or.inl rfl) | exact Or.inr (Or.inr rfl))) pa_nil)))) (pss_one (ps_ost (pe_var (i := 0) rfl (by first | exact Or.inl rfl | exact Or.inr (Or.inl rfl) | exact Or.inr (Or.inr rfl))) (pe_var (i := 1) rfl (by first | exact Or.inl rfl | exact Or.inr (Or.inl rfl) | exact Or.inr (Or.inr rfl)))))), fun s a w => .of_eq (by rw [efd]; rfl)⟩⟩⟩
theorem raise_InvalidLetter (e : EnvOk mg K) : ∃ C fI, ExC K mg "InvalidLetter" C fI ∧ InitP P w K mg base fI 1 ∧ XfC K C ∧ PySem.W.exmOne K (.ref C) (.ref C) = some true := by
  obtain ⟨⟨C, fI, fd, qual, a, b, c, d, F⟩, vV⟩ := e.x_InvalidLetter
  exact ⟨C, fI, a, ⟨⟨fd, d, ok_init F sc__init fun cdv A outer s H E => (pss_cons (ps_expr (pe_veinit (by rfl) e.b_ValueError vV (pa_cons (pe_var (i := 0) rfl (by first | exact Or.inl rfl | exact Or.inr (Or.inl rfl) | exact Or.inr (Or.inr rfl))) (pa_cons (pe_var (i := 1) rfl (by first | exact Or.inl rfl | exact Or.inr (Or.inl rfl) | exact Or.inr (Or.inr rfl))) pa_nil)))) (pss_one (ps_ost (pe_var (i := 0) rfl (by first | exact Or.inl rfl | exact Or.inr (Or.inl rfl) | exact Or.inr (Or.inr rfl))) (pe_var (i := 1) rfl (by first | exact Or.inl rfl | exact Or.inr (Or.inl rfl) | exact Or.inr (Or.inr rfl)))))), F.binds (ps := ["self", "value"]) fun _ _ _ _ _ _ us hl => match us, hl with | [_, _], _ => rfl⟩⟩, b, c⟩
theorem raiseK_InvalidLetter (e : EnvOk mg K) : ∃ C fI, ExC K mg "InvalidLetter" C fI ∧ InitK P w K mg base fI 1 := by
  obtain ⟨⟨C, fI, fd, qual, a, b, c, d, F⟩, vV⟩ := e.x_InvalidLetter
  obtain ⟨oc, od, kV, doc, pm', an, cdv, ct, osl, efd, lk, hcd⟩ := id F.ex
  exact ⟨C, fI, a, ⟨⟨fd, d, ok_init F sc__init fun cdv A outer s H E => (pss_cons (ps_expr (pe_veinit (by rfl) e.b_ValueError vV (pa_cons (pe_var (i := 0) rfl (by first | exact Or.inl rfl | exact Or.inr (Or.inl rfl) | exact Or.inr (Or.inr rfl))) (pa_cons (pe_var (i := 1) rfl (by first | exact Or.inl rfl | exact Or.inr (Or.inl rfl) | exact Or.inr (Or.inr rfl))) pa_nil)))) (pss_one (ps_ost (pe_var (i := 0) rfl (by first | exact Or.inl rfl | exact Or.inr (Or.inl rfl) | exact Or.inr (Or.inr rfl))) (pe_var (i := 1) rfl (by first | exact Or.inl rfl | exact Or.inr (Or.inl rfl) | exact Or.inr (Or.inr rfl)))))), fun s a w => .of_eq (by rw [efd]; rfl)⟩⟩⟩
theorem raise_InvalidWord (e : EnvOk mg K) : ∃ C fI, ExC K mg "InvalidWord" C fI ∧ InitP P w K mg base fI 1 ∧ XfC K C ∧ PySem.W.exmOne K (.ref C) (.ref C) = some true := by
  obtain ⟨⟨C, fI, fd, qual, a, b, c, d, F⟩, vV⟩ := e.x_InvalidWord
  exact ⟨C, fI, a, ⟨⟨fd, d, ok_init F sc__init fun cdv A outer s H E => (pss_cons (ps_expr (pe_veinit (by rfl) e.b_ValueError vV (pa_cons (pe_var (i := 0) rfl (by first | exact Or.inl rfl | exact Or.inr (Or.inl rfl) | exact Or.inr (Or.inr rfl))) (pa_cons (pe_var (i := 1) rfl (by first | exact Or.inl rfl | exact Or.inr (Or.inl rfl) | exact Or.inr (Or.inr rfl))) pa_nil)))) (pss_one (ps_ost (pe_var (i := 0) rfl (by first | exact Or.inl rfl | exact Or.inr (Or.inl rfl) | exact Or.inr (Or.inr rfl))) (pe_var (i := 1) rfl (by first | exact Or.inl rfl | exact Or.inr (Or.inl rfl) | exact Or.inr (Or.inr rfl)))))), F.binds (ps := ["self", "value"]) fun _ _ _ _ _ _ us hl => match us, hl with | [_, _], _ => rfl⟩⟩, b, c⟩
theorem raiseK_InvalidWord (e : EnvOk mg K) : ∃ C fI, ExC K mg "InvalidWord" C fI ∧ InitK P w K mg base fI 1 := by
  obtain ⟨⟨C, fI, fd, qual, a, b, c, d, F⟩, vV⟩ := e.x_InvalidWord
  obtain ⟨oc, od, kV, doc, pm', an, cdv, ct, osl, efd, lk, hcd⟩ := id F.ex
  exact ⟨C, fI, a, ⟨⟨fd, d, ok_init F sc__init fun cdv A outer s H E => (pss_cons (ps_expr (pe_veinit (by rfl) e.b_ValueError vV (pa_cons (pe_var (i := 0) rfl (by first | exact Or.inl rfl | exact Or.inr (Or.inl rfl) | exact Or.inr (Or.inr rfl))) (pa_cons (pe_var (i := 1) rfl (by first | exact Or.inl rfl | exact Or.inr (Or.inl rfl) | exact Or.inr (Or.inr rfl))) pa_nil)))) (pss_one (ps_ost (pe_var (i := 0) rfl (by first | exact Or.inl rfl | exact Or.inr (Or.inl rfl) | exact Or.inr (Or.inr rfl))) (pe_var (i := 1) rfl (by first | exact Or.inl rfl | exact Or.inr (Or.inl rfl) | exact Or.inr (Or.inr rfl)))))), fun s a w => .of_eq (by rw [efd]; rfl)⟩⟩⟩
theorem raise_InvalidKind (e : EnvOk mg K) : ∃ C fI, ExC K mg "InvalidKind" C fI ∧ InitP P w K mg base fI 1 ∧ XfC K C ∧ PySem.W.exmOne K (.ref C) (.ref C) = some true := by
  obtain ⟨⟨C, fI, fd, qual, a, b, c, d, F⟩, vV⟩ := e.x_InvalidKind
  exact ⟨C, fI, a, ⟨⟨fd, d, ok_init F sc__init fun cdv A outer s H E => (pss_cons (ps_expr (pe_veinit (by rfl) e.b_ValueError vV (pa_cons (pe_var (i := 0) rfl (by first | exact Or.inl rfl | exact Or.inr (Or.inl rfl) | exact Or.inr (Or.inr rfl))) (pa_cons (pe_var (i := 1) rfl (by first | exact Or.inl rfl | exact Or.inr (Or.inl rfl) | exact Or.inr (Or.inr rfl))) pa_nil)))) (pss_one (ps_ost (pe_var (i := 0) rfl (by first | exact Or.inl rfl | exact Or.inr (Or.inl rfl) | exact Or.inr (Or.inr rfl))) (pe_var (i := 1) rfl (by first | exact Or.inl rfl | exact Or.inr (Or.inl rfl) | exact Or.inr (Or.inr rfl)))))), F.binds (ps := ["self", "value"]) fun _ _ _ _ _ _ us hl => match us, hl with | [_, _], _ => rfl⟩⟩, b, c⟩
theorem raiseK_InvalidKind (e : EnvOk mg K) : ∃ C fI, ExC K mg "InvalidKind" C fI ∧ InitK P w K mg base fI 1 := by
  obtain ⟨⟨C, fI, fd, qual, a, b, c, d, F⟩, vV⟩ := e.x_InvalidKind
  obtain ⟨oc, od, kV, doc, pm', an, cdv, ct, osl, efd, lk, hcd⟩ := id F.ex
  exact ⟨C, fI, a, ⟨⟨fd, d, ok_init F sc__init fun cdv A outer s H E => (pss_cons (ps_expr (pe_veinit (by rfl) e.b_ValueError vV (pa_cons (pe_var (i := 0) rfl (by first | exact Or.inl rfl | exact Or.inr (Or.inl rfl) | exact Or.inr (Or.inr rfl))) (pa_cons (pe_var (i := 1) rfl (by first | exact Or.inl rfl | exact Or.inr (Or.inl rfl) | exact Or.inr (Or.inr rfl))) pa_nil)))) (pss_one (ps_ost (pe_var (i := 0) rfl (by first | exact Or.inl rfl | exact Or.inr (Or.inl rfl) | exact Or.inr (Or.inr rfl))) (pe_var (i := 1) rfl (by first | exact Or.inl rfl | exact Or.inr (Or.inl rfl) | exact Or.inr (Or.inr rfl)))))), fun s a w => .of_eq (by rw [efd]; rfl)⟩⟩⟩
theorem raise_InvalidNumber (e : EnvOk mg K) : ∃ C fI, ExC K mg "InvalidNumber" C fI ∧ InitP P w K mg base fI 1 ∧ XfC K C ∧ PySem.W.exmOne K (.ref C) (.ref C) = some true := by
  obtain ⟨⟨C, fI, fd, qual, a, b, c, d, F⟩, vV⟩ := e.x_InvalidNumber
  exact ⟨C, fI, a, ⟨⟨fd, d, ok_init F sc__init fun cdv A outer s H E => (pss_cons (ps_expr (pe_veinit (by rfl) e.b_ValueError vV (pa_cons (pe_var (i := 0) rfl (by first | exact Or.inl rfl | exact Or.inr (Or.inl rfl) | exact Or.inr (Or.inr rfl))) (pa_cons (pe_var (i := 1) rfl (by first | exact Or.inl rfl | exact Or.inr (Or.inl rfl) | exact Or.inr (Or.inr rfl))) pa_nil)))) (pss_one (ps_ost (pe_var (i := 0) rfl (by first | exact Or.inl rfl | exact Or.inr (Or.inl rfl) | exact Or.inr (Or.inr rfl))) (pe_var (i := 1) rfl (by first | exact Or.inl rfl | exact Or.inr (Or.inl rfl) | exact Or.inr (Or.inr rfl)))))), F.binds (ps := ["self", "value"]) fun _ _ _ _ _ _ us hl => match us, hl with | [_, _], _ => rfl⟩⟩, b, c⟩
theorem raiseK_InvalidNumber (e : EnvOk mg K) : ∃ C fI, ExC K mg "InvalidNumber" C fI ∧ InitK P w K mg base fI 1 := by
  obtain ⟨⟨C, fI, fd, qual, a, b, c, d, F⟩, vV⟩ := e.x_InvalidNumber
  obtain ⟨oc, od, kV, doc, pm', an, cdv, ct, osl, efd, lk, hcd⟩ := id F.ex
  exact ⟨C, fI, a, ⟨⟨fd, d, ok_init F sc__init fun cdv A outer s H E => (pss_cons (ps_expr (pe_veinit (by rfl) e.b_ValueError vV (pa_cons (pe_var (i := 0) rfl (by first | exact Or.inl rfl | exact Or.inr (Or.inl rfl) | exact Or.inr (Or.inr rfl))) (pa_cons (pe_var (i := 1) rfl (by first | exact Or.inl rfl | exact Or.inr (Or.inl rfl) | exact Or.inr (Or.inr rfl))) pa_nil)))) (pss_one (ps_ost (pe_var (i := 0) rfl (by first | exact Or.inl rfl | exact Or.inr (Or.inl rfl) | exact Or.inr (Or.inr rfl))) (pe_var (i := 1) rfl (by first | exact Or.inl rfl | exact Or.inr (Or.inl rfl) | exact Or.inr (Or.inr rfl)))))), fun s a w => .of_eq (by rw [efd]; rfl)⟩⟩⟩
theorem raise_InvalidPair (e : EnvOk mg K) : ∃ C fI, ExC K mg "InvalidPair" C fI ∧ InitP P w K mg base fI 1 ∧ XfC K C ∧ PySem.W.exmOne K (.ref C) (.ref C) = some true := by
  obtain ⟨⟨C, fI, fd, qual, a, b, c, d, F⟩, vV⟩ := e.x_InvalidPair
  exact ⟨C, fI, a, ⟨⟨fd, d, ok_init F sc__init fun cdv A outer s H E => (pss_cons (ps_expr (pe_veinit (by rfl) e.b_ValueError vV (pa_cons (pe_var (i := 0) rfl (by first | exact Or.inl rfl | exact Or.inr (Or.inl rfl) | exact Or.inr (Or.inr rfl))) (pa_cons (pe_var (i := 1) rfl (by first | exact Or.inl rfl | exact Or.inr (Or.inl rfl) | exact Or.inr (Or.inr rfl))) pa_nil)))) (pss_one (ps_ost (pe_var (i := 0) rfl (by first | exact Or.inl rfl | exact Or.inr (Or.inl rfl) | exact Or.inr (Or.inr rfl))) (pe_var (i := 1) rfl (by first | exact Or.inl rfl | exact Or.inr (Or.inl rfl) | exact Or.inr (Or.inr rfl)))))), F.binds (ps := ["self", "value"]) fun _ _ _ _ _ _ us hl => match us, hl with | [_, _], _ => rfl⟩⟩, b, c⟩
theorem raiseK_InvalidPair (e : EnvOk mg K) : ∃ C fI, ExC K mg "InvalidPair" C fI ∧ InitK P w K mg base fI 1 := by
  obtain ⟨⟨C, fI, fd, qual, a, b, c, d, F⟩, vV⟩ := e.x_InvalidPair
  obtain ⟨oc, od, kV, doc, pm', an, cdv, ct, osl, efd, lk, hcd⟩ := id F.ex
  exact ⟨C, fI, a, ⟨⟨fd, d, ok_init F sc__init fun cdv A outer s H E => (pss_cons (ps_expr (pe_veinit (by rfl) e.b_ValueError vV (pa_cons (pe_var (i := 0) rfl (by first | exact Or.inl rfl | exact Or.inr (Or.inl rfl) | exact Or.inr (Or.inr rfl))) (pa_cons (pe_var (i := 1) rfl (by first | exact Or.inl rfl | exact Or.inr (Or.inl rfl) | exact Or.inr (Or.inr rfl))) pa_nil)))) (pss_one (ps_ost (pe_var (i := 0) rfl (by first | exact Or.inl rfl | exact Or.inr (Or.inl rfl) | exact Or.inr (Or.inr rfl))) (pe_var (i := 1) rfl (by first | exact Or.inl rfl | exact Or.inr (Or.inl rfl) | exact Or.inr (Or.inr rfl)))))), fun s a w => .of_eq (by rw [efd]; rfl)⟩⟩⟩
theorem raise_InvalidMachine (e : EnvOk mg K) : ∃ C fI, ExC K mg "InvalidMachine" C fI ∧ InitP P w K mg base fI 1 ∧ XfC K C ∧ PySem.W.exmOne K (.ref C) (.ref C) = some true := by
  obtain ⟨⟨C, fI, fd, qual, a, b, c, d, F⟩, vV⟩ := e.x_InvalidMachine
  exact ⟨C, fI, a, ⟨⟨fd, d, ok_init F sc__init fun cdv A outer s H E => (pss_cons (ps_expr (pe_veinit (by rfl) e.b_ValueError vV (pa_cons (pe_var (i := 0) rfl (by first | exact Or.inl rfl | exact Or.inr (Or.inl rfl) | exact Or.inr (Or.inr rfl))) (pa_cons (pe_var (i := 1) rfl (by first | exact Or.inl rfl | exact Or.inr (Or.inl rfl) | exact Or.inr (Or.inr rfl))) pa_nil)))) (pss_one (ps_ost (pe_var (i := 0) rfl (by first | exact Or.inl rfl | exact Or.inr (Or.inl rfl) | exact Or.inr (Or.inr rfl))) (pe_var (i := 1) rfl (by first | exact Or.inl rfl | exact Or.inr (Or.inl rfl) | exact Or.inr (Or.inr rfl)))))), F.binds (ps := ["self", "value"]) fun _ _ _ _ _ _ us hl => match us, hl with | [_, _], _ => rfl⟩⟩, b, c⟩
theorem raiseK_InvalidMachine (e : EnvOk mg K) : ∃ C fI, ExC K mg "InvalidMachine" C fI ∧ InitK P w K mg base fI 1 := by
  obtain ⟨⟨C, fI, fd, qual, a, b, c, d, F⟩, vV⟩ := e.x_InvalidMachine
  obtain ⟨oc, od, kV, doc, pm', an, cdv, ct, osl, efd, lk, hcd⟩ := id F.ex
  exact ⟨C, fI, a, ⟨⟨fd, d, ok_init F sc__init fun cdv A outer s H E => (pss_cons (ps_expr (pe_veinit (by rfl) e.b_ValueError vV (pa_cons (pe_var (i := 0) rfl (by first | exact Or.inl rfl | exact Or.inr (Or.inl rfl) | exact Or.inr (Or.inr rfl))) (pa_cons (pe_var (i := 1) rfl (by first | exact Or.inl rfl | exact Or.inr (Or.inl rfl) | exact Or.inr (Or.inr rfl))) pa_nil)))) (pss_one (ps_ost (pe_var (i := 0) rfl (by first | exact Or.inl rfl | exact Or.inr (Or.inl rfl) | exact Or.inr (Or.inr rfl))) (pe_var (i := 1) rfl (by first | exact Or.inl rfl | exact Or.inr (Or.inl rfl) | exact Or.inr (Or.inr rfl)))))), fun s a w => .of_eq (by rw [efd]; rfl)⟩⟩⟩
theorem raise_NoMachine (e : EnvOk mg K) : ∃ C fI, ExC K mg "NoMachine" C fI ∧ InitP P w K mg base fI 1 ∧ XfC K C ∧ PySem.W.exmOne K (.ref C) (.ref C) = some true := by
  obtain ⟨⟨C, fI, fd, qual, a, b, c, d, F⟩, vV⟩ := e.x_NoMachine
  exact ⟨C, fI, a, ⟨⟨fd, d, ok_init F sc__init fun cdv A outer s H E => (pss_cons (ps_expr (pe_veinit (by rfl) e.b_ValueError vV (pa_cons (pe_var (i := 0) rfl (by first | exact Or.inl rfl | exact Or.inr (Or.inl rfl) | exact Or.inr (Or.inr rfl))) (pa_cons (pe_var (i := 1) rfl (by first | exact Or.inl rfl | exact Or.inr (Or.inl rfl) | exact Or.inr (Or.inr rfl))) pa_nil)))) (pss_one (ps_ost (pe_var (i := 0) rfl (by first | exact Or.inl rfl | exact Or.inr (Or.inl rfl) | exact Or.inr (Or.inr rfl))) (pe_var (i := 1) rfl (by first | exact Or.inl rfl | exact Or.inr (Or.inl rfl) | exact Or.inr (Or.inr rfl)))))), F.binds (ps := ["self", "value"]) fun _ _ _ _ _ _ us hl => match us, hl with | [_, _], _ => rfl⟩⟩, b, c⟩
theorem raiseK_NoMachine (e : EnvOk mg K) : ∃ C fI, ExC K mg "NoMachine" C fI ∧ InitK P w K mg base fI 1 := by
  obtain ⟨⟨C, fI, fd, qual, a, b, c, d, F⟩, vV⟩ := e.x_NoMachine
  obtain ⟨oc, od, kV, doc, pm', an, cdv, ct, osl, efd, lk, hcd⟩ := id F.ex
  exact ⟨C, fI, a, ⟨⟨fd, d, ok_init F sc__init fun cdv A outer s H E => (pss_cons (ps_expr (pe_veinit (by rfl) e.b_ValueError vV (pa_cons (pe_var (i := 0) rfl (by first | exact Or.inl rfl | exact Or.inr (Or.inl rfl) | exact Or.inr (Or.inr rfl))) (pa_cons (pe_var (i := 1) rfl (by first | exact Or.inl rfl | exact Or.inr (Or.inl rfl) | exact Or.inr (Or.inr rfl))) pa_nil)))) (pss_one (ps_ost (pe_var (i := 0) rfl (by first | exact Or.inl rfl | exact Or.inr (Or.inl rfl) | exact Or.inr (Or.inr rfl))) (pe_var (i := 1) rfl (by first | exact Or.inl rfl | exact Or.inr (Or.inl rfl) | exact Or.inr (Or.inr rfl)))))), fun s a w => .of_eq (by rw [efd]; rfl)⟩⟩⟩
theorem raise_InvalidTape (e : EnvOk mg K) : ∃ C fI, ExC K mg "InvalidTape" C fI ∧ InitP P w K mg base fI 1 ∧ XfC K C ∧ PySem.W.exmOne K (.ref C) (.ref C) = some true := by
  obtain ⟨⟨C, fI, fd, qual, a, b, c, d, F⟩, vV⟩ := e.x_InvalidTape
  exact ⟨C, fI, a, ⟨⟨fd, d, ok_init F sc__init fun cdv A outer s H E => (pss_cons (ps_expr (pe_veinit (by rfl) e.b_ValueError vV (pa_cons (pe_var (i := 0) rfl (by first | exact Or.inl rfl | exact Or.inr (Or.inl rfl) | exact Or.inr (Or.inr rfl))) (pa_cons (pe_var (i := 1) rfl (by first | exact Or.inl rfl | exact Or.inr (Or.inl rfl) | exact Or.inr (Or.inr rfl))) pa_nil)))) (pss_one (ps_ost (pe_var (i := 0) rfl (by first | exact Or.inl rfl | exact Or.inr (Or.inl rfl) | exact Or.inr (Or.inr rfl))) (pe_var (i := 1) rfl (by first | exact Or.inl rfl | exact Or.inr (Or.inl rfl) | exact Or.inr (Or.inr rfl)))))), F.binds (ps := ["self", "value"]) fun _ _ _ _ _ _ us hl => match us, hl with | [_, _], _ => rfl⟩⟩, b, c⟩
theorem raiseK_InvalidTape (e : EnvOk mg K) : ∃ C fI, ExC K mg "InvalidTape" C fI ∧ InitK P w K mg base fI 1 := by
  obtain ⟨⟨C, fI, fd, qual, a, b, c, d, F⟩, vV⟩ := e.x_InvalidTape
  obtain ⟨oc, od, kV, doc, pm', an, cdv, ct, osl, efd, lk, hcd⟩ := id F.ex
  exact ⟨C, fI, a, ⟨⟨fd, d, ok_init F sc__init fun cdv A outer s H E => (pss_cons (ps_expr (pe_veinit (by rfl) e.b_ValueError vV (pa_cons (pe_var (i := 0) rfl (by first | exact Or.inl rfl | exact Or.inr (Or.inl rfl) | exact Or.inr (Or.inr rfl))) (pa_cons (pe_var (i := 1) rfl (by first | exact Or.inl rfl | exact Or.inr (Or.inl rfl) | exact Or.inr (Or.inr rfl))) pa_nil)))) (pss_one (ps_ost (pe_var (i := 0) rfl (by first | exact Or.inl rfl | exact Or.inr (Or.inl rfl) | exact Or.inr (Or.inr rfl))) (pe_var (i := 1) rfl (by first | exact Or.inl rfl | exact Or.inr (Or.inl rfl) | exact Or.inr (Or.inr rfl)))))), fun s a w => .of_eq (by rw [efd]; rfl)⟩⟩⟩
theorem raise_InvalidSorter (e : EnvOk mg K) : ∃ C fI, ExC K mg "InvalidSorter" C fI ∧ InitP P w K mg base fI 1 ∧ XfC K C ∧ PySem.W.exmOne K (.ref C) (.ref C) = some true := by
  obtain ⟨⟨C, fI, fd, qual, a, b, c, d, F⟩, vV⟩ := e.x_InvalidSorter
  exact ⟨C, fI, a, ⟨⟨fd, d, ok_init F sc__init fun cdv A outer s H E => (pss_cons (ps_expr (pe_veinit (by rfl) e.b_ValueError vV (pa_cons (pe_var (i := 0) rfl (by first | exact Or.inl rfl | exact Or.inr (Or.inl rfl) | exact Or.inr (Or.inr rfl))) (pa_cons (pe_var (i := 1) rfl (by first | exact Or.inl rfl | exact Or.inr (Or.inl rfl) | exact Or.inr (Or.inr rfl))) pa_nil)))) (pss_one (ps_ost (pe_var (i := 0) rfl (by first | exact Or.inl rfl | exact Or.inr (Or.inl rfl) | exact Or.inr (Or.inr rfl))) (pe_var (i := 1) rfl (by first | exact Or.inl rfl | exact Or.inr (Or.inl rfl) | exact Or.inr (Or.inr rfl)))))), F.binds (ps := ["self", "value"]) fun _ _ _ _ _ _ us hl => match us, hl with | [_, _], _ => rfl⟩⟩, b, c⟩
theorem raiseK_InvalidSorter (e : EnvOk mg K) : ∃ C fI, ExC K mg "InvalidSorter" C fI ∧ InitK P w K mg base fI 1 := by
  obtain ⟨⟨C, fI, fd, qual, a, b, c, d, F⟩, vV⟩ := e.x_InvalidSorter
  obtain ⟨oc, od, kV, doc, pm', an, cdv, ct, osl, efd, lk, hcd⟩ := id F.ex
  exact ⟨C, fI, a, ⟨⟨fd, d, ok_init F sc__init fun cdv A outer s H E => (pss_cons (ps_expr (pe_veinit (by rfl) e.b_ValueError vV (pa_cons (pe_var (i := 0) rfl (by first | exact Or.inl rfl | exact Or.inr (Or.inl rfl) | exact Or.inr (Or.inr rfl))) (pa_cons (pe_var (i := 1) rfl (by first | exact Or.inl rfl | exact Or.inr (Or.inl rfl) | exact Or.inr (Or.inr rfl))) pa_nil)))) (pss_one (ps_ost (pe_var (i := 0) rfl (by first | exact Or.inl rfl | exact Or.inr (Or.inl rfl) | exact Or.inr (Or.inr rfl))) (pe_var (i := 1) rfl (by first | exact Or.inl rfl | exact Or.inr (Or.inl rfl) | exact Or.inr (Or.inr rfl)))))), fun s a w => .of_eq (by rw [efd]; rfl)⟩⟩⟩
theorem raise_InvalidSaying (e : EnvOk mg K) : ∃ C fI, ExC K mg "InvalidSaying" C fI ∧ InitP P w K mg base fI 1 ∧ XfC K C ∧ PySem.W.exmOne K (.ref C) (.ref C) = some true := by
  obtain ⟨⟨C, fI, fd, qual, a, b, c, d, F⟩, vV⟩ := e.x_InvalidSaying
  exact ⟨C, fI, a, ⟨⟨fd, d, ok_init F sc__init fun cdv A outer s H E => (pss_cons (ps_expr (pe_veinit (by rfl) e.b_ValueError vV (pa_cons (pe_var (i := 0) rfl (by first | exact Or.inl rfl | exact Or.inr (Or.inl rfl) | exact Or.inr (Or.inr rfl))) (pa_cons (pe_var (i := 1) rfl (by first | exact Or.inl rfl | exact Or.inr (Or.inl rfl) | exact Or.inr (Or.inr rfl))) pa_nil)))) (pss_one (ps_ost (pe_var (i := 0) rfl (by first | exact Or.inl rfl | exact Or.inr (Or.inl rfl) | exact Or.inr (Or.inr rfl))) (pe_var (i := 1) rfl (by first | exact Or.inl rfl | exact Or.inr (Or.inl rfl) | exact Or.inr (Or.inr rfl)))))), F.binds (ps := ["self", "value"]) fun _ _ _ _ _ _ us hl => match us, hl with | [_, _], _ => rfl⟩⟩, b, c⟩
theorem raiseK_InvalidSaying (e : EnvOk mg K) : ∃ C fI, ExC K mg "InvalidSaying" C fI ∧ InitK P w K mg base fI 1 := by
  obtain ⟨⟨C, fI, fd, qual, a, b, c, d, F⟩, vV⟩ := e.x_InvalidSaying
  obtain ⟨oc, od, kV, doc, pm', an, cdv, ct, osl, efd, lk, hcd⟩ := id F.ex
  exact ⟨C, fI, a, ⟨⟨fd, d, ok_init F sc__init fun cdv A outer s H E => (pss_cons (ps_expr (pe_veinit (by rfl) e.b_ValueError vV (pa_cons (pe_var (i := 0) rfl (by first | exact Or.inl rfl | exact Or.inr (Or.inl rfl) | exact Or.inr (Or.inr rfl))) (pa_cons (pe_var (i := 1) rfl (by first | exact Or.inl rfl | exact Or.inr (Or.inl rfl) | exact Or.inr (Or.inr rfl))) pa_nil)))) (pss_one (ps_ost (pe_var (i := 0) rfl (by first | exact Or.inl rfl | exact Or.inr (Or.inl rfl) | exact Or.inr (Or.inr rfl))) (pe_var (i := 1) rfl (by first | exact Or.inl rfl | exact Or.inr (Or.inl rfl) | exact Or.inr (Or.inr rfl)))))), fun s a w => .of_eq (by rw [efd]; rfl)⟩⟩⟩
theorem raise_InvalidName (e : EnvOk mg K) : ∃ C fI, ExC K mg "InvalidName" C fI ∧ InitP P w K mg base fI 1 ∧ XfC K C ∧ PySem.W.exmOne K (.ref C) (.ref C) = some true := by
  obtain ⟨⟨C, fI, fd, qual, a, b, c, d, F⟩, vV⟩ := e.x_InvalidName
  exact ⟨C, fI, a, ⟨⟨fd, d, ok_init F sc__init fun cdv A outer s H E => (pss_cons (ps_expr (pe_veinit (by rfl) e.b_ValueError vV (pa_cons (pe_var (i := 0) rfl (by first | exact Or.inl rfl | exact Or.inr (Or.inl rfl) | exact Or.inr (Or.inr rfl))) (pa_cons (pe_var (i := 1) rfl (by first | exact Or.inl rfl | exact Or.inr (Or.inl rfl) | exact Or.inr (Or.inr rfl))) pa_nil)))) (pss_one (ps_ost (pe_var (i := 0) rfl (by first | exact Or.inl rfl | exact Or.inr (Or.inl rfl) | exact Or.inr (Or.inr rfl))) (pe_var (i := 1) rfl (by first | exact Or.inl rfl | exact Or.inr (Or.inl rfl) | exact Or.inr (Or.inr rfl)))))), F.binds (ps := ["self", "value"]) fun _ _ _ _ _ _ us hl => match us, hl with | [_, _], _ => rfl⟩⟩, b, c⟩
theorem raiseK_InvalidName (e : EnvOk mg K) : ∃ C fI, ExC K mg "InvalidName" C fI ∧ InitK P w K mg base fI 1 := by
  obtain ⟨⟨C, fI, fd, qual, a, b, c, d, F⟩, vV⟩ := e.x_InvalidName
  obtain ⟨oc, od, kV, doc, pm', an, cdv, ct, osl, efd, lk, hcd⟩ := id F.ex
  exact ⟨C, fI, a, ⟨⟨fd, d, ok_init F sc__init fun cdv A outer s H E => (pss_cons (ps_expr (pe_veinit (by rfl) e.b_ValueError vV (pa_cons (pe_var (i := 0) rfl (by first | exact Or.inl rfl | exact Or.inr (Or.inl rfl) | exact Or.inr (Or.inr rfl))) (pa_cons (pe_var (i := 1) rfl (by first | exact Or.inl rfl | exact Or.inr (Or.inl rfl) | exact Or.inr (Or.inr rfl))) pa_nil)))) (pss_one (ps_ost (pe_var (i := 0) rfl (by first | exact Or.inl rfl | exact Or.inr (Or.inl rfl) | exact Or.inr (Or.inr rfl))) (pe_var (i := 1) rfl (by first | exact Or.inl rfl | exact Or.inr (Or.inl rfl) | exact Or.inr (Or.inr rfl)))))), fun s a w => .of_eq (by rw [efd]; rfl)⟩⟩⟩
theorem raise_NotLet (e : EnvOk mg K) : ∃ C fI, ExC K mg "NotLet" C fI ∧ InitP P w K mg base fI 1 ∧ XfC K C ∧ PySem.W.exmOne K (.ref C) (.ref C) = some true := by
  obtain ⟨⟨C, fI, fd, qual, a, b, c, d, F⟩, vV⟩ := e.x_NotLet
  exact ⟨C, fI, a, ⟨⟨fd, d, ok_init F sc__init fun cdv A outer s H E => (pss_cons (ps_expr (pe_veinit (by rfl) e.b_ValueError vV (pa_cons (pe_var (i := 0) rfl (by first | exact Or.inl rfl | exact Or.inr (Or.inl rfl) | exact Or.inr (Or.inr rfl))) (pa_cons (pe_var (i := 1) rfl (by first | exact Or.inl rfl | exact Or.inr (Or.inl rfl) | exact Or.inr (Or.inr rfl))) pa_nil)))) (pss_one (ps_ost (pe_var (i := 0) rfl (by first | exact Or.inl rfl | exact Or.inr (Or.inl rfl) | exact Or.inr (Or.inr rfl))) (pe_var (i := 1) rfl (by first | exact Or.inl rfl | exact Or.inr (Or.inl rfl) | exact Or.inr (Or.inr rfl)))))), F.binds (ps := ["self", "value"]) fun _ _ _ _ _ _ us hl => match us, hl with | [_, _], _ => rfl⟩⟩, b, c⟩
theorem raiseK_NotLet (e : EnvOk mg K) : ∃ C fI, ExC K mg "NotLet" C fI ∧ InitK P w K mg base fI 1 := by
  obtain ⟨⟨C, fI, fd, qual, a, b, c, d, F⟩, vV⟩ := e.x_NotLet
  obtain ⟨oc, od, kV, doc, pm', an, cdv, ct, osl, efd, lk, hcd⟩ := id F.ex
  exact ⟨C, fI, a, ⟨⟨fd, d, ok_init F sc__init fun cdv A outer s H E => (pss_cons (ps_expr (pe_veinit (by rfl) e.b_ValueError vV (pa_cons (pe_var (i := 0) rfl (by first | exact Or.inl rfl | exact Or.inr (Or.inl rfl) | exact Or.inr (Or.inr rfl))) (pa_cons (pe_var (i := 1) rfl (by first | exact Or.inl rfl | exact Or.inr (Or.inl rfl) | exact Or.inr (Or.inr rfl))) pa_nil)))) (pss_one (ps_ost (pe_var (i := 0) rfl (by first | exact Or.inl rfl | exact Or.inr (Or.inl rfl) | exact Or.inr (Or.inr rfl))) (pe_var (i := 1) rfl (by first | exact Or.inl rfl | exact Or.inr (Or.inl rfl) | exact Or.inr (Or.inr rfl)))))), fun s a w => .of_eq (by rw [efd]; rfl)⟩⟩⟩
theorem raise_UnknownName (e : EnvOk mg K) : ∃ C fI, ExC K mg "UnknownName" C fI ∧ InitP P w K mg base fI 1 ∧ XfC K C ∧ PySem.W.exmOne K (.ref C) (.ref C) = some true := by
  obtain ⟨⟨C, fI, fd, qual, a, b, c, d, F⟩, vV⟩ := e.x_UnknownName
  exact ⟨C, fI, a, ⟨⟨fd, d, ok_init F sc__init fun cdv A outer s H E => (pss_cons (ps_expr (pe_veinit (by rfl) e.b_ValueError vV (pa_cons (pe_var (i := 0) rfl (by first | exact Or.inl rfl | exact Or.inr (Or.inl rfl) | exact Or.inr (Or.inr rfl))) (pa_cons (pe_var (i := 1) rfl (by first | exact Or.inl rfl | exact Or.inr (Or.inl rfl) | exact Or.inr (Or.inr rfl))) pa_nil)))) (pss_one (ps_ost (pe_var (i := 0) rfl (by first | exact Or.inl rfl | exact Or.inr (Or.inl rfl) | exact Or.inr (Or.inr rfl))) (pe_var (i := 1) rfl (by first | exact Or.inl rfl | exact Or.inr (Or.inl rfl) | exact Or.inr (Or.inr rfl)))))), F.binds (ps := ["self", "value"]) fun _ _ _ _ _ _ us hl => match us, hl with | [_, _], _ => rfl⟩⟩, b, c⟩
theorem raiseK_UnknownName (e : EnvOk mg K) : ∃ C fI, ExC K mg "UnknownName" C fI ∧ InitK P w K mg base fI 1 := by
  obtain ⟨⟨C, fI, fd, qual, a, b, c, d, F⟩, vV⟩ := e.x_UnknownName
  obtain ⟨oc, od, kV, doc, pm', an, cdv, ct, osl, efd, lk, hcd⟩ := id F.ex
  exact ⟨C, fI, a, ⟨⟨fd, d, ok_init F sc__init fun cdv A outer s H E => (pss_cons (ps_expr (pe_veinit (by rfl) e.b_ValueError vV (pa_cons (pe_var (i := 0) rfl (by first | exact Or.inl rfl | exact Or.inr (Or.inl rfl) | exact Or.inr (Or.inr rfl))) (pa_cons (pe_var (i := 1) rfl (by first | exact Or.inl rfl | exact Or.inr (Or.inl rfl) | exact Or.inr (Or.inr rfl))) pa_nil)))) (pss_one (ps_ost (pe_var (i := 0) rfl (by first | exact Or.inl rfl | exact Or.inr (Or.inl rfl) | exact Or.inr (Or.inr rfl))) (pe_var (i := 1) rfl (by first | exact Or.inl rfl | exact Or.inr (Or.inl rfl) | exact Or.inr (Or.inr rfl)))))), fun s a w => .of_eq (by rw [efd]; rfl)⟩⟩⟩
theorem raise_NothingToUndo (e : EnvOk mg K) : ∃ C fI, ExC K mg "NothingToUndo" C fI ∧ InitP P w K mg base fI 1 ∧ XfC K C ∧ PySem.W.exmOne K (.ref C) (.ref C) = some true := by
  obtain ⟨⟨C, fI, fd, qual, a, b, c, d, F⟩, vV⟩ := e.x_NothingToUndo
  exact ⟨C, fI, a, ⟨⟨fd, d, ok_init F sc__init fun cdv A outer s H E => (pss_cons (ps_expr (pe_veinit (by rfl) e.b_ValueError vV (pa_cons (pe_var (i := 0) rfl (by first | exact Or.inl rfl | exact Or.inr (Or.inl rfl) | exact Or.inr (Or.inr rfl))) (pa_cons (pe_var (i := 1) rfl (by first | exact Or.inl rfl | exact Or.inr (Or.inl rfl) | exact Or.inr (Or.inr rfl))) pa_nil)))) (pss_one (ps_ost (pe_var (i := 0) rfl (by first | exact Or.inl rfl | exact Or.inr (Or.inl rfl) | exact Or.inr (Or.inr rfl))) (pe_var (i := 1) rfl (by first | exact Or.inl rfl | exact Or.inr (Or.inl rfl) | exact Or.inr (Or.inr rfl)))))), F.binds (ps := ["self", "value"]) fun _ _ _ _ _ _ us hl => match us, hl with | [_, _], _ => rfl⟩⟩, b, c⟩
theorem raiseK_NothingToUndo (e : EnvOk mg K) : ∃ C fI, ExC K mg "NothingToUndo" C fI ∧ InitK P w K mg base fI 1 := by
  obtain ⟨⟨C, fI, fd, qual, a, b, c, d, F⟩, vV⟩ := e.x_NothingToUndo
  obtain ⟨oc, od, kV, doc, pm', an, cdv, ct, osl, efd, lk, hcd⟩ := id F.ex
  exact ⟨C, fI, a, ⟨⟨fd, d, ok_init F sc__init fun cdv A outer s H E => (pss_cons (ps_expr (pe_veinit (by rfl) e.b_ValueError vV (pa_cons (pe_var (i := 0) rfl (by first | exact Or.inl rfl | exact Or.inr (Or.inl rfl) | exact Or.inr (Or.inr rfl))) (pa_cons (pe_var (i := 1) rfl (by first | exact Or.inl rfl | exact Or.inr (Or.inl rfl) | exact Or.inr (Or.inr rfl))) pa_nil)))) (pss_one (ps_ost (pe_var (i := 0) rfl (by first | exact Or.inl rfl | exact Or.inr (Or.inl rfl) | exact Or.inr (Or.inr rfl))) (pe_var (i := 1) rfl (by first | exact Or.inl rfl | exact Or.inr (Or.inl rfl) | exact Or.inr (Or.inr rfl)))))), fun s a w => .of_eq (by rw [efd]; rfl)⟩⟩⟩
theorem raise_Unreadable (e : EnvOk mg K) : ∃ C fI, ExC K mg "Unreadable" C fI ∧ InitP P w K mg base fI 1 ∧ XfC K C ∧ PySem.W.exmOne K (.ref C) (.ref C) = some true := by
  obtain ⟨⟨C, fI, fd, qual, a, b, c, d, F⟩, vV⟩ := e.x_Unreadable
  exact ⟨C, fI, a, ⟨⟨fd, d, ok_init F sc__init fun cdv A outer s H E => (pss_cons (ps_expr (pe_veinit (by rfl) e.b_ValueError vV (pa_cons (pe_var (i := 0) rfl (by first | exact Or.inl rfl | exact Or.inr (Or.inl rfl) | exact Or.inr (Or.inr rfl))) (pa_cons (pe_var (i := 1) rfl (by first | exact Or.inl rfl | exact Or.inr (Or.inl rfl) | exact Or.inr (Or.inr rfl))) pa_nil)))) (pss_one (ps_ost (pe_var (i := 0) rfl (by first | exact Or.inl rfl | exact Or.inr (Or.inl rfl) | exact Or.inr (Or.inr rfl))) (pe_var (i := 1) rfl (by first | exact Or.inl rfl | exact Or.inr (Or.inl rfl) | exact Or.inr (Or.inr rfl)))))), F.binds (ps := ["self", "value"]) fun _ _ _ _ _ _ us hl => match us, hl with | [_, _], _ => rfl⟩⟩, b, c⟩
theorem raiseK_Unreadable (e : EnvOk mg K) : ∃ C fI, ExC K mg "Unreadable" C fI ∧ InitK P w K mg base fI 1 := by
  obtain ⟨⟨C, fI, fd, qual, a, b, c, d, F⟩, vV⟩ := e.x_Unreadable
  obtain ⟨oc, od, kV, doc, pm', an, cdv, ct, osl, efd, lk, hcd⟩ := id F.ex
  exact ⟨C, fI, a, ⟨⟨fd, d, ok_init F sc__init fun cdv A outer s H E => (pss_cons (ps_expr (pe_veinit (by rfl) e.b_ValueError vV (pa_cons (pe_var (i := 0) rfl (by first | exact Or.inl rfl | exact Or.inr (Or.inl rfl) | exact Or.inr (Or.inr rfl))) (pa_cons (pe_var (i := 1) rfl (by first | exact Or.inl rfl | exact Or.inr (Or.inl rfl) | exact Or.inr (Or.inr rfl))) pa_nil)))) (pss_one (ps_ost (pe_var (i := 0) rfl (by first | exact Or.inl rfl | exact Or.inr (Or.inl rfl) | exact Or.inr (Or.inr rfl))) (pe_var (i := 1) rfl (by first | exact Or.inl rfl | exact Or.inr (Or.inl rfl) | exact Or.inr (Or.inr rfl)))))), fun s a w => .of_eq (by rw [efd]; rfl)⟩⟩⟩
theorem raise_Unorderly (e : EnvOk mg K) : ∃ C fI, ExC K mg "Unorderly" C fI ∧ InitP P w K mg base fI 1 ∧ XfC K C ∧ PySem.W.exmOne K (.ref C) (.ref C) = some true := by
  obtain ⟨⟨C, fI, fd, qual, a, b, c, d, F⟩, vV⟩ := e.x_Unorderly
  exact ⟨C, fI, a, ⟨⟨fd, d, ok_init F sc__init fun cdv A outer s H E => (pss_cons (ps_expr (pe_veinit (by rfl) e.b_ValueError vV (pa_cons (pe_var (i := 0) rfl (by first | exact Or.inl rfl | exact Or.inr (Or.inl rfl) | exact Or.inr (Or.inr rfl))) (pa_cons (pe_var (i := 1) rfl (by first | exact Or.inl rfl | exact Or.inr (Or.inl rfl) | exact Or.inr (Or.inr rfl))) pa_nil)))) (pss_one (ps_ost (pe_var (i := 0) rfl (by first | exact Or.inl rfl | exact Or.inr (Or.inl rfl) | exact Or.inr (Or.inr rfl))) (pe_var (i := 1) rfl (by first | exact Or.inl rfl | exact Or.inr (Or.inl rfl) | exact Or.inr (Or.inr rfl)))))), F.binds (ps := ["self", "value"]) fun _ _ _ _ _ _ us hl => match us, hl with | [_, _], _ => rfl⟩⟩, b, c⟩
theorem raiseK_Unorderly (e : EnvOk mg K) : ∃ C fI, ExC K mg "Unorderly" C fI ∧ InitK P w K mg base fI 1 := by
  obtain ⟨⟨C, fI, fd, qual, a, b, c, d, F⟩, vV⟩ := e.x_Unorderly
  obtain ⟨oc, od, kV, doc, pm', an, cdv, ct, osl, efd, lk, hcd⟩ := id F.ex
  exact ⟨C, fI, a, ⟨⟨fd, d, ok_init F sc__init fun cdv A outer s H E => (pss_cons (ps_expr (pe_veinit (by rfl) e.b_ValueError vV (pa_cons (pe_var (i := 0) rfl (by first | exact Or.inl rfl | exact Or.inr (Or.inl rfl) | exact Or.inr (Or.inr rfl))) (pa_cons (pe_var (i := 1) rfl (by first | exact Or.inl rfl | exact Or.inr (Or.inl rfl) | exact Or.inr (Or.inr rfl))) pa_nil)))) (pss_one (ps_ost (pe_var (i := 0) rfl (by first | exact Or.inl rfl | exact Or.inr (Or.inl rfl) | exact Or.inr (Or.inr rfl))) (pe_var (i := 1) rfl (by first | exact Or.inl rfl | exact Or.inr (Or.inl rfl) | exact Or.inr (Or.inr rfl)))))), fun s a w => .of_eq (by rw [efd]; rfl)⟩⟩⟩
theorem raise_OrderError (e : EnvOk mg K) : ∃ C fI, ExC K mg "OrderError" C fI ∧ InitP P w K mg base fI 1 ∧ XfC K C ∧ PySem.W.exmOne K (.ref C) (.ref C) = some true := by
  obtain ⟨⟨C, fI, fd, qual, a, b, c, d, F⟩, vV⟩ := e.x_OrderError
  exact ⟨C, fI, a, ⟨⟨fd, d, ok_init F sc__init fun cdv A outer s H E => (pss_cons (ps_expr (pe_veinit (by rfl) e.b_ValueError vV (pa_cons (pe_var (i := 0) rfl (by first | exact Or.inl rfl | exact Or.inr (Or.inl rfl) | exact Or.inr (Or.inr rfl))) (pa_cons (pe_var (i := 1) rfl (by first | exact Or.inl rfl | exact Or.inr (Or.inl rfl) | exact Or.inr (Or.inr rfl))) pa_nil)))) (pss_one (ps_ost (pe_var (i := 0) rfl (by first | exact Or.inl rfl | exact Or.inr (Or.inl rfl) | exact Or.inr (Or.inr rfl))) (pe_var (i := 1) rfl (by first | exact Or.inl rfl | exact Or.inr (Or.inl rfl) | exact Or.inr (Or.inr rfl)))))), F.binds (ps := ["self", "value"]) fun _ _ _ _ _ _ us hl => match us, hl with | [_, _], _ => rfl⟩⟩, b, c⟩
theorem raiseK_OrderError (e : EnvOk mg K) : ∃ C fI, ExC K mg "OrderError" C fI ∧ InitK P w K mg base fI 1 := by
  obtain ⟨⟨C, fI, fd, qual, a, b, c, d, F⟩, vV⟩ := e.x_OrderError
  obtain ⟨oc, od, kV, doc, pm', an, cdv, ct, osl, efd, lk, hcd⟩ := id F.ex
  exact ⟨C, fI, a, ⟨⟨fd, d, ok_init F sc__init fun cdv A outer s H E => (pss_cons (ps_expr (pe_veinit (by rfl) e.b_ValueError vV (pa_cons (pe_var (i := 0) rfl (by first | exact Or.inl rfl | exact Or.inr (Or.inl rfl) | exact Or.inr (Or.inr rfl))) (pa_cons (pe_var (i := 1) rfl (by first | exact Or.inl rfl | exact Or.inr (Or.inl rfl) | exact Or.inr (Or.inr rfl))) pa_nil)))) (pss_one (ps_ost (pe_var (i := 0) rfl (by first | exact Or.inl rfl | exact Or.inr (Or.inl rfl) | exact Or.inr (Or.inr rfl))) (pe_var (i := 1) rfl (by first | exact Or.inl rfl | exact Or.inr (Or.inl rfl) | exact Or.inr (Or.inr rfl)))))), fun s a w => .of_eq (by rw [efd]; rfl)⟩⟩⟩
theorem sc__law_deck : FnScope ["script", "k", "cell", "stir"] ["script", "k"] (defScope s__law_deck) := ⟨rfl, rfl, rfl, by decide +kernel, rfl, by decide +kernel, by decide +kernel⟩
theorem fn__law_deck (e : EnvOk mg K) : FnP P w K mg base "_law_deck" s__law_deck 1 ["script", "k"] [.v, .v] φ__law_deck := by
  obtain ⟨f, fd, F, hm⟩ := e.f__law_deck
  refine fnP_mk (k := 0) (N := ["script", "k", "cell", "stir"]) F hm (F.binds (ps := ["script", "k"]) fun _ _ _ _ _ _ us hl => match us, hl with | [_, _], _ => rfl) sc__law_deck rfl rfl fun cdv A outer s H E hr => ?_
  exact (dss_cons (ds_set (i := 2) sc__law_deck.nd rfl (by first | exact Or.inl rfl | exact Or.inr rfl) dp_int)
      (dss_cons (ds_if (dt_cmp or_lt (zv 1) (dv_of (dp_callB cd_len (by rfl) e.b_len boot_len (dvs_cons (zv 0) dvs_nil))) (by rfl)) (dss_one (ds_set (i := 2) sc__law_deck.nd rfl (by first | exact Or.inl rfl | exact Or.inr rfl) (dp_ix (ixr hr.units) (zv 0) (zv 1) (fun _ _ => rfl)))) dss_nil)
      (dss_cons (ds_set (i := 3) sc__law_deck.nd rfl (by first | exact Or.inl rfl | exact Or.inr rfl) (dp_bin or_mod (dv_of (dp_callTy cd_int (by rfl) e.b_int boot_int (dvs_cons (dv_of (dp_ofR (dr_bin or_add or_cat (dv_of (dp_ofR (dr_bin or_add or_cat (zv 2) (dv_of (dp_bin or_mul (dv_of dp_int) (zv 1)))))) (dv_of dp_int)))) dvs_nil))) (dv_of dp_int)))
      (dss_cons (ds_set (i := 3) sc__law_deck.nd rfl (by first | exact Or.inl rfl | exact Or.inr rfl) (dp_bin or_mod (dv_of (dp_callTy cd_int (by rfl) e.b_int boot_int (dvs_cons (dv_of (dp_ofR (dr_bin or_add or_cat (dv_of (dp_ofR (dr_bin or_add or_cat (dv_of (dp_bin or_mul (dv_of (dp_bin or_mul (zv 3) (zv 3))) (zv 3))) (dv_of (dp_bin or_mul (dv_of dp_int) (zv 1)))))) (dv_of dp_int)))) dvs_nil))) (dv_of dp_int)))
      (dss_cons (ds_if (dt_cmp or_lt (zv 2) (dv_of (dp_bin or_pow (dv_of dp_int) (dv_of dp_int))) (by rfl)) (dss_one (ds_retO (do_lst (dps_cons dp_int (dps_cons (dp_esc (zv 3)) dps_nil))))) dss_nil)
      (dss_one (ds_retO (do_lst (dps_cons (dp_bin or_sub (zv 2) (dv_of (dp_bin or_pow (dv_of dp_int) (dv_of dp_int)))) (dps_cons (dp_esc (zv 3)) dps_nil))))))))))
theorem sc__law_take : FnScope ["deck", "many", "taken"] ["deck", "many"] (defScope s__law_take) := ⟨rfl, rfl, rfl, by decide +kernel, rfl, by decide +kernel, by decide +kernel⟩
theorem fn__law_take (e : EnvOk mg K) : FnP P w K mg base "_law_take" s__law_take 1 ["deck", "many"] [.m, .v] φ__law_take := by
  obtain ⟨f, fd, F, hm⟩ := e.f__law_take
  refine fnP_mk (k := 0) (N := ["deck", "many", "taken"]) F hm (F.binds (ps := ["deck", "many"]) fun _ _ _ _ _ _ us hl => match us, hl with | [_, _], _ => rfl) sc__law_take rfl rfl fun cdv A outer s H E hr => ?_
  exact (dss_cons (ds_if (dt_cmp or_gt (dv_of (dp_ix (ixr hr.units) (zv 0) (dv_of dp_int) (fun _ _ => rfl))) (dv_of dp_int) (by rfl)) (dss_cons (ds_set (i := 2) sc__law_take.nd rfl (by first | exact Or.inl rfl | exact Or.inr rfl) (dp_bin or_mod (dv_of (dp_callTy cd_int (by rfl) e.b_int boot_int (dvs_cons (dv_of (dp_ix (ixr hr.units) (zv 0) (dv_of dp_int) (fun _ _ => rfl))) dvs_nil))) (zv 1)))
      (dss_cons (ds_sub (i := 0) rfl (by first | exact Or.inl rfl | exact Or.inr (Or.inl rfl) | exact Or.inr (Or.inr rfl)) (dp_bin or_div (dv_of (dp_ix (ixr hr.units) (zv 0) (dv_of dp_int) (fun _ _ => rfl))) (zv 1)) (dv_of dp_int))
      (dss_one (ds_retV (i := 2) rfl (by first | exact Or.inl rfl | exact Or.inr (Or.inl rfl) | exact Or.inr (Or.inr rfl)))))) dss_nil)
      (dss_cons (ds_sub (i := 0) rfl (by first | exact Or.inl rfl | exact Or.inr (Or.inl rfl) | exact Or.inr (Or.inr rfl)) (dp_bin or_mod (dv_of (dp_callTy cd_int (by rfl) e.b_int boot_int (dvs_cons (dv_of (dp_ofR (dr_bin or_add or_cat (dv_of (dp_bin or_mul (dv_of (dp_ix (ixr hr.units) (zv 0) (dv_of dp_int) (fun _ _ => rfl))) (dv_of dp_int))) (dv_of dp_int)))) dvs_nil))) (dv_of (dp_bin or_pow (dv_of dp_int) (dv_of dp_int)))) (dv_of dp_int))
      (dss_one (ds_ret (dp_bin or_mod (dv_of (dp_bin or_div (dv_of (dp_ix (ixr hr.units) (zv 0) (dv_of dp_int) (fun _ _ => rfl))) (dv_of (dp_bin or_pow (dv_of dp_int) (dv_of dp_int))))) (zv 1))))))
theorem sc__law_same : FnScope ["found", "due", "k"] ["found", "due"] (defScope s__law_same) := ⟨rfl, rfl, rfl, by decide +kernel, rfl, by decide +kernel, by decide +kernel⟩
theorem fn__law_same (e : EnvOk mg K) : ∀ n : Nat, FnP P w K mg base "_law_same" s__law_same (n + 1) ["found", "due"] [.v, .v] (φ__law_same n)
  | 0 => by
    obtain ⟨f, fd, F, hm⟩ := e.f__law_same
    exact fnP_bad F hm (F.binds (ps := ["found", "due"]) fun _ _ _ _ _ _ us hl => match us, hl with | [_, _], _ => rfl)
  | n + 1 => by
    have ih := fn__law_same e n
    obtain ⟨f, fd, F, hm⟩ := e.f__law_same
    refine (show n + 1 + 1 = (n + 1) + 1 by omega) ▸ fnP_mk (N := ["found", "due", "k"]) F hm (F.binds (ps := ["found", "due"]) fun _ _ _ _ _ _ us hl => match us, hl with | [_, _], _ => rfl) sc__law_same rfl rfl fun cdv A outer s H E hr => ?_
    exact (dss_cons (ds_if (dt_val (dp_isiT (by rfl) e.b_isinstance (zv 1) (ty_cons (t := .tuple) (by rfl) e.b_tuple boot_tuple (ty_cons (t := .list) (by rfl) e.b_list boot_list ty_nil)) (by decide))) (dss_cons (ds_if (dt_w (dw_or (dt_cmp (or_ne hr.units) (dv_of (dp_isi (t := .tuple) (by rfl) e.b_isinstance (zv 0) (by rfl) e.b_tuple boot_tuple)) (dv_of (dp_isi (t := .tuple) (by rfl) e.b_isinstance (zv 1) (by rfl) e.b_tuple boot_tuple)) (by rfl)) (dw_or1 (dt_cmp (or_ne hr.units) (dv_of (dp_isi (t := .list) (by rfl) e.b_isinstance (zv 0) (by rfl) e.b_list boot_list)) (dv_of (dp_isi (t := .list) (by rfl) e.b_isinstance (zv 1) (by rfl) e.b_list boot_list)) (by rfl))))) (dss_one (ds_ret dp_bool)) dss_nil)
      (dss_cons (ds_if (dt_cmp (or_ne hr.units) (dv_of (dp_callB cd_len (by rfl) e.b_len boot_len (dvs_cons (zv 0) dvs_nil))) (dv_of (dp_callB cd_len (by rfl) e.b_len boot_len (dvs_cons (zv 1) dvs_nil))) (by rfl)) (dss_one (ds_ret dp_bool)) dss_nil)
      (dss_one (ds_ret (dp_cmp (or_eq hr.units) (dv_of (dp_fz (do_comp [("k", 2)] rfl sc__law_same.nd (di_range1 (by rfl) e.b_range (dvs_cons (dv_of (dp_callB cd_len (by rfl) e.b_len boot_len (dvs_cons (zv 1) dvs_nil))) dvs_nil)) (blkOk_by (by rfl)) (fun _ _ _ _ _ => (dgb_any (dg_name (i := 2) sc__law_same.nd rfl (by first | exact Or.inl rfl | exact Or.inr rfl)))) (fun _ _ _ _ _ => (dts_one (dt_not (dt_val (dp_ofR (dr_fn ih hr (by rfl) (dvs_cons (dv_of (dp_ix (ixr hr.units) (zv 0) (zv 2) (fun _ _ => rfl))) (dvs_cons (dv_of (dp_ix (ixr hr.units) (zv 1) (zv 2) (fun _ _ => rfl))) dvs_nil)))))))) (fun _ _ _ _ _ => (dp_esc (zv 2))) (by simp [tgS, tgsS])))) (dv_of (dp_fz (do_lst dps_nil))) (by rfl)))))) dss_nil)
      (dss_cons (ds_if (dt_cmp or_isN (zv 1) (dv_of dp_none) (by rfl)) (dss_one (ds_ret (dp_cmp or_isN (zv 0) (dv_of dp_none) (by rfl)))) dss_nil)
      (dss_cons (ds_if (dt_val (dp_isi (t := .str) (by rfl) e.b_isinstance (zv 1) (by rfl) e.b_str boot_str)) (dss_one (ds_ret (dp_and (dp_isi (t := .str) (by rfl) e.b_isinstance (zv 0) (by rfl) e.b_str boot_str) (dp_one (dp_cmp (or_eq hr.units) (zv 0) (zv 1) (by rfl)))))) dss_nil)
      (dss_cons (ds_if (dt_w (dw_or (dt_val (dp_isi (t := .bool) (by rfl) e.b_isinstance (zv 1) (by rfl) e.b_bool boot_bool)) (dw_or1 (dt_val (dp_isi (t := .bool) (by rfl) e.b_isinstance (zv 0) (by rfl) e.b_bool boot_bool))))) (dss_one (ds_ret (dp_and (dp_isi (t := .bool) (by rfl) e.b_isinstance (zv 1) (by rfl) e.b_bool boot_bool) (dp_and (dp_isi (t := .bool) (by rfl) e.b_isinstance (zv 0) (by rfl) e.b_bool boot_bool) (dp_one (dp_cmp (or_eq hr.units) (zv 0) (zv 1) (by rfl))))))) dss_nil)
      (dss_one (ds_ret (dp_and (dp_isi (t := .int) (by rfl) e.b_isinstance (zv 0) (by rfl) e.b_int boot_int) (dp_one (dp_cmp (or_eq hr.units) (zv 0) (zv 1) (by rfl))))))))))
theorem sc__law_raise_first : FnScope ["which", "given"] ["which", "given"] (defScope s__law_raise_first) := ⟨rfl, rfl, rfl, by decide +kernel, rfl, by decide +kernel, by decide +kernel⟩
theorem fn__law_raise_first (e : EnvOk mg K) : FnP P w K mg base "_law_raise_first" s__law_raise_first 3 ["which", "given"] [.v, .p] φ__law_raise_first := by
  obtain ⟨f, fd, F, hm⟩ := e.f__law_raise_first
  obtain ⟨xC_InvalidOrder, xI_InvalidOrder, xE_InvalidOrder, xP_InvalidOrder, xT_InvalidOrder, xX_InvalidOrder⟩ := raise_InvalidOrder (P := P) (w := w) (base := base) e
  obtain ⟨xC_InvalidPattern, xI_InvalidPattern, xE_InvalidPattern, xP_InvalidPattern, xT_InvalidPattern, xX_InvalidPattern⟩ := raise_InvalidPattern (P := P) (w := w) (base := base) e
  obtain ⟨xC_InvalidList, xI_InvalidList, xE_InvalidList, xP_InvalidList, xT_InvalidList, xX_InvalidList⟩ := raise_InvalidList (P := P) (w := w) (base := base) e
  obtain ⟨xC_InvalidForm, xI_InvalidForm, xE_InvalidForm, xP_InvalidForm, xT_InvalidForm, xX_InvalidForm⟩ := raise_InvalidForm (P := P) (w := w) (base := base) e
  obtain ⟨xC_InvalidLetter, xI_InvalidLetter, xE_InvalidLetter, xP_InvalidLetter, xT_InvalidLetter, xX_InvalidLetter⟩ := raise_InvalidLetter (P := P) (w := w) (base := base) e
  obtain ⟨xC_InvalidWord, xI_InvalidWord, xE_InvalidWord, xP_InvalidWord, xT_InvalidWord, xX_InvalidWord⟩ := raise_InvalidWord (P := P) (w := w) (base := base) e
  obtain ⟨xC_InvalidKind, xI_InvalidKind, xE_InvalidKind, xP_InvalidKind, xT_InvalidKind, xX_InvalidKind⟩ := raise_InvalidKind (P := P) (w := w) (base := base) e
  obtain ⟨xC_InvalidNumber, xI_InvalidNumber, xE_InvalidNumber, xP_InvalidNumber, xT_InvalidNumber, xX_InvalidNumber⟩ := raise_InvalidNumber (P := P) (w := w) (base := base) e
  obtain ⟨xC_InvalidPair, xI_InvalidPair, xE_InvalidPair, xP_InvalidPair, xT_InvalidPair, xX_InvalidPair⟩ := raise_InvalidPair (P := P) (w := w) (base := base) e
  obtain ⟨xC_InvalidMachine, xI_InvalidMachine, xE_InvalidMachine, xP_InvalidMachine, xT_InvalidMachine, xX_InvalidMachine⟩ := raise_InvalidMachine (P := P) (w := w) (base := base) e
  refine fnP_mk (k := 2) (N := ["which", "given"]) F hm (F.binds (ps := ["which", "given"]) fun _ _ _ _ _ _ us hl => match us, hl with | [_, _], _ => rfl) sc__law_raise_first rfl rfl fun cdv A outer s H E hr => ?_
  exact (dss_cons (ds_if (dt_cmp (or_eq hr.units) (zv 0) (dv_of dp_int) (by rfl)) (dss_one (ds_raise rfl xE_InvalidOrder xP_InvalidOrder (hr.mono (by omega)) (by rfl) (dp_esc (zv 1)))) dss_nil)
      (dss_cons (ds_if (dt_cmp (or_eq hr.units) (zv 0) (dv_of dp_int) (by rfl)) (dss_one (ds_raise rfl xE_InvalidPattern xP_InvalidPattern (hr.mono (by omega)) (by rfl) (dp_esc (zv 1)))) dss_nil)
      (dss_cons (ds_if (dt_cmp (or_eq hr.units) (zv 0) (dv_of dp_int) (by rfl)) (dss_one (ds_raise rfl xE_InvalidList xP_InvalidList (hr.mono (by omega)) (by rfl) (dp_esc (zv 1)))) dss_nil)
      (dss_cons (ds_if (dt_cmp (or_eq hr.units) (zv 0) (dv_of dp_int) (by rfl)) (dss_one (ds_raise rfl xE_InvalidForm xP_InvalidForm (hr.mono (by omega)) (by rfl) (dp_esc (zv 1)))) dss_nil)
      (dss_cons (ds_if (dt_cmp (or_eq hr.units) (zv 0) (dv_of dp_int) (by rfl)) (dss_one (ds_raise rfl xE_InvalidLetter xP_InvalidLetter (hr.mono (by omega)) (by rfl) (dp_esc (zv 1)))) dss_nil)
      (dss_cons (ds_if (dt_cmp (or_eq hr.units) (zv 0) (dv_of dp_int) (by rfl)) (dss_one (ds_raise rfl xE_InvalidWord xP_InvalidWord (hr.mono (by omega)) (by rfl) (dp_esc (zv 1)))) dss_nil)
      (dss_cons (ds_if (dt_cmp (or_eq hr.units) (zv 0) (dv_of dp_int) (by rfl)) (dss_one (ds_raise rfl xE_InvalidKind xP_InvalidKind (hr.mono (by omega)) (by rfl) (dp_esc (zv 1)))) dss_nil)
      (dss_cons (ds_if (dt_cmp (or_eq hr.units) (zv 0) (dv_of dp_int) (by rfl)) (dss_one (ds_raise rfl xE_InvalidNumber xP_InvalidNumber (hr.mono (by omega)) (by rfl) (dp_esc (zv 1)))) dss_nil)
      (dss_cons (ds_if (dt_cmp (or_eq hr.units) (zv 0) (dv_of dp_int) (by rfl)) (dss_one (ds_raise rfl xE_InvalidPair xP_InvalidPair (hr.mono (by omega)) (by rfl) (dp_esc (zv 1)))) dss_nil)
      (dss_one (ds_raise rfl xE_InvalidMachine xP_InvalidMachine (hr.mono (by omega)) (by rfl) (dp_esc (zv 1)))))))))))))
theorem sc__law_raise_second : FnScope ["which", "given"] ["which", "given"] (defScope s__law_raise_second) := ⟨rfl, rfl, rfl, by decide +kernel, rfl, by decide +kernel, by decide +kernel⟩
theorem fn__law_raise_second (e : EnvOk mg K) : FnP P w K mg base "_law_raise_second" s__law_raise_second 3 ["which", "given"] [.v, .p] φ__law_raise_second := by
  obtain ⟨f, fd, F, hm⟩ := e.f__law_raise_second
  obtain ⟨xC_NoMachine, xI_NoMachine, xE_NoMachine, xP_NoMachine, xT_NoMachine, xX_NoMachine⟩ := raise_NoMachine (P := P) (w := w) (base := base) e
  obtain ⟨xC_InvalidTape, xI_InvalidTape, xE_InvalidTape, xP_InvalidTape, xT_InvalidTape, xX_InvalidTape⟩ := raise_InvalidTape (P := P) (w := w) (base := base) e
  obtain ⟨xC_InvalidSorter, xI_InvalidSorter, xE_InvalidSorter, xP_InvalidSorter, xT_InvalidSorter, xX_InvalidSorter⟩ := raise_InvalidSorter (P := P) (w := w) (base := base) e
  obtain ⟨xC_InvalidSaying, xI_InvalidSaying, xE_InvalidSaying, xP_InvalidSaying, xT_InvalidSaying, xX_InvalidSaying⟩ := raise_InvalidSaying (P := P) (w := w) (base := base) e
  obtain ⟨xC_InvalidName, xI_InvalidName, xE_InvalidName, xP_InvalidName, xT_InvalidName, xX_InvalidName⟩ := raise_InvalidName (P := P) (w := w) (base := base) e
  obtain ⟨xC_NotLet, xI_NotLet, xE_NotLet, xP_NotLet, xT_NotLet, xX_NotLet⟩ := raise_NotLet (P := P) (w := w) (base := base) e
  obtain ⟨xC_UnknownName, xI_UnknownName, xE_UnknownName, xP_UnknownName, xT_UnknownName, xX_UnknownName⟩ := raise_UnknownName (P := P) (w := w) (base := base) e
  obtain ⟨xC_NothingToUndo, xI_NothingToUndo, xE_NothingToUndo, xP_NothingToUndo, xT_NothingToUndo, xX_NothingToUndo⟩ := raise_NothingToUndo (P := P) (w := w) (base := base) e
  obtain ⟨xC_Unreadable, xI_Unreadable, xE_Unreadable, xP_Unreadable, xT_Unreadable, xX_Unreadable⟩ := raise_Unreadable (P := P) (w := w) (base := base) e
  obtain ⟨xC_Unorderly, xI_Unorderly, xE_Unorderly, xP_Unorderly, xT_Unorderly, xX_Unorderly⟩ := raise_Unorderly (P := P) (w := w) (base := base) e
  refine fnP_mk (k := 2) (N := ["which", "given"]) F hm (F.binds (ps := ["which", "given"]) fun _ _ _ _ _ _ us hl => match us, hl with | [_, _], _ => rfl) sc__law_raise_second rfl rfl fun cdv A outer s H E hr => ?_
  exact (dss_cons (ds_if (dt_cmp (or_eq hr.units) (zv 0) (dv_of dp_int) (by rfl)) (dss_one (ds_raise rfl xE_NoMachine xP_NoMachine (hr.mono (by omega)) (by rfl) (dp_esc (zv 1)))) dss_nil)
      (dss_cons (ds_if (dt_cmp (or_eq hr.units) (zv 0) (dv_of dp_int) (by rfl)) (dss_one (ds_raise rfl xE_InvalidTape xP_InvalidTape (hr.mono (by omega)) (by rfl) (dp_esc (zv 1)))) dss_nil)
      (dss_cons (ds_if (dt_cmp (or_eq hr.units) (zv 0) (dv_of dp_int) (by rfl)) (dss_one (ds_raise rfl xE_InvalidSorter xP_InvalidSorter (hr.mono (by omega)) (by rfl) (dp_esc (zv 1)))) dss_nil)
      (dss_cons (ds_if (dt_cmp (or_eq hr.units) (zv 0) (dv_of dp_int) (by rfl)) (dss_one (ds_raise rfl xE_InvalidSaying xP_InvalidSaying (hr.mono (by omega)) (by rfl) (dp_esc (zv 1)))) dss_nil)
      (dss_cons (ds_if (dt_cmp (or_eq hr.units) (zv 0) (dv_of dp_int) (by rfl)) (dss_one (ds_raise rfl xE_InvalidName xP_InvalidName (hr.mono (by omega)) (by rfl) (dp_esc (zv 1)))) dss_nil)
      (dss_cons (ds_if (dt_cmp (or_eq hr.units) (zv 0) (dv_of dp_int) (by rfl)) (dss_one (ds_raise rfl xE_NotLet xP_NotLet (hr.mono (by omega)) (by rfl) (dp_esc (zv 1)))) dss_nil)
      (dss_cons (ds_if (dt_cmp (or_eq hr.units) (zv 0) (dv_of dp_int) (by rfl)) (dss_one (ds_raise rfl xE_UnknownName xP_UnknownName (hr.mono (by omega)) (by rfl) (dp_esc (zv 1)))) dss_nil)
      (dss_cons (ds_if (dt_cmp (or_eq hr.units) (zv 0) (dv_of dp_int) (by rfl)) (dss_one (ds_raise rfl xE_NothingToUndo xP_NothingToUndo (hr.mono (by omega)) (by rfl) (dp_esc (zv 1)))) dss_nil)
      (dss_cons (ds_if (dt_cmp (or_eq hr.units) (zv 0) (dv_of dp_int) (by rfl)) (dss_one (ds_raise rfl xE_Unreadable xP_Unreadable (hr.mono (by omega)) (by rfl) (dp_esc (zv 1)))) dss_nil)
      (dss_one (ds_raise rfl xE_Unorderly xP_Unorderly (hr.mono (by omega)) (by rfl) (dp_esc (zv 1)))))))))))))
theorem sc__law_raise_named_first : FnScope ["which", "given"] ["which", "given"] (defScope s__law_raise_named_first) := ⟨rfl, rfl, rfl, by decide +kernel, rfl, by decide +kernel, by decide +kernel⟩
theorem fn__law_raise_named_first (e : EnvOk mg K) : FnP P w K mg base "_law_raise_named_first" s__law_raise_named_first 3 ["which", "given"] [.v, .p] φ__law_raise_named_first := by
  obtain ⟨f, fd, F, hm⟩ := e.f__law_raise_named_first
  obtain ⟨xKC_InvalidOrder, xKI_InvalidOrder, xKE_InvalidOrder, xKP_InvalidOrder⟩ := raiseK_InvalidOrder (P := P) (w := w) (base := base) e
  obtain ⟨xKC_InvalidPattern, xKI_InvalidPattern, xKE_InvalidPattern, xKP_InvalidPattern⟩ := raiseK_InvalidPattern (P := P) (w := w) (base := base) e
  obtain ⟨xKC_InvalidList, xKI_InvalidList, xKE_InvalidList, xKP_InvalidList⟩ := raiseK_InvalidList (P := P) (w := w) (base := base) e
  obtain ⟨xKC_InvalidForm, xKI_InvalidForm, xKE_InvalidForm, xKP_InvalidForm⟩ := raiseK_InvalidForm (P := P) (w := w) (base := base) e
  obtain ⟨xKC_InvalidLetter, xKI_InvalidLetter, xKE_InvalidLetter, xKP_InvalidLetter⟩ := raiseK_InvalidLetter (P := P) (w := w) (base := base) e
  obtain ⟨xKC_InvalidWord, xKI_InvalidWord, xKE_InvalidWord, xKP_InvalidWord⟩ := raiseK_InvalidWord (P := P) (w := w) (base := base) e
  obtain ⟨xKC_InvalidKind, xKI_InvalidKind, xKE_InvalidKind, xKP_InvalidKind⟩ := raiseK_InvalidKind (P := P) (w := w) (base := base) e
  obtain ⟨xKC_InvalidNumber, xKI_InvalidNumber, xKE_InvalidNumber, xKP_InvalidNumber⟩ := raiseK_InvalidNumber (P := P) (w := w) (base := base) e
  obtain ⟨xKC_InvalidPair, xKI_InvalidPair, xKE_InvalidPair, xKP_InvalidPair⟩ := raiseK_InvalidPair (P := P) (w := w) (base := base) e
  obtain ⟨xKC_InvalidMachine, xKI_InvalidMachine, xKE_InvalidMachine, xKP_InvalidMachine⟩ := raiseK_InvalidMachine (P := P) (w := w) (base := base) e
  refine fnP_mk (k := 2) (N := ["which", "given"]) F hm (F.binds (ps := ["which", "given"]) fun _ _ _ _ _ _ us hl => match us, hl with | [_, _], _ => rfl) sc__law_raise_named_first rfl rfl fun cdv A outer s H E hr => ?_
  exact (dss_cons (ds_if (dt_cmp (or_eq hr.units) (zv 0) (dv_of dp_int) (by rfl)) (dss_one (ds_raiseK rfl xKE_InvalidOrder xKP_InvalidOrder (hr.mono (by omega)) (by rfl) (dp_esc (zv 1)))) dss_nil)
      (dss_cons (ds_if (dt_cmp (or_eq hr.units) (zv 0) (dv_of dp_int) (by rfl)) (dss_one (ds_raiseK rfl xKE_InvalidPattern xKP_InvalidPattern (hr.mono (by omega)) (by rfl) (dp_esc (zv 1)))) dss_nil)
      (dss_cons (ds_if (dt_cmp (or_eq hr.units) (zv 0) (dv_of dp_int) (by rfl)) (dss_one (ds_raiseK rfl xKE_InvalidList xKP_InvalidList (hr.mono (by omega)) (by rfl) (dp_esc (zv 1)))) dss_nil)
      (dss_cons (ds_if (dt_cmp (or_eq hr.units) (zv 0) (dv_of dp_int) (by rfl)) (dss_one (ds_raiseK rfl xKE_InvalidForm xKP_InvalidForm (hr.mono (by omega)) (by rfl) (dp_esc (zv 1)))) dss_nil)
      (dss_cons (ds_if (dt_cmp (or_eq hr.units) (zv 0) (dv_of dp_int) (by rfl)) (dss_one (ds_raiseK rfl xKE_InvalidLetter xKP_InvalidLetter (hr.mono (by omega)) (by rfl) (dp_esc (zv 1)))) dss_nil)
      (dss_cons (ds_if (dt_cmp (or_eq hr.units) (zv 0) (dv_of dp_int) (by rfl)) (dss_one (ds_raiseK rfl xKE_InvalidWord xKP_InvalidWord (hr.mono (by omega)) (by rfl) (dp_esc (zv 1)))) dss_nil)
      (dss_cons (ds_if (dt_cmp (or_eq hr.units) (zv 0) (dv_of dp_int) (by rfl)) (dss_one (ds_raiseK rfl xKE_InvalidKind xKP_InvalidKind (hr.mono (by omega)) (by rfl) (dp_esc (zv 1)))) dss_nil)
      (dss_cons (ds_if (dt_cmp (or_eq hr.units) (zv 0) (dv_of dp_int) (by rfl)) (dss_one (ds_raiseK rfl xKE_InvalidNumber xKP_InvalidNumber (hr.mono (by omega)) (by rfl) (dp_esc (zv 1)))) dss_nil)
      (dss_cons (ds_if (dt_cmp (or_eq hr.units) (zv 0) (dv_of dp_int) (by rfl)) (dss_one (ds_raiseK rfl xKE_InvalidPair xKP_InvalidPair (hr.mono (by omega)) (by rfl) (dp_esc (zv 1)))) dss_nil)
      (dss_one (ds_raiseK rfl xKE_InvalidMachine xKP_InvalidMachine (hr.mono (by omega)) (by rfl) (dp_esc (zv 1)))))))))))))
theorem sc__law_raise_named_second : FnScope ["which", "given"] ["which", "given"] (defScope s__law_raise_named_second) := ⟨rfl, rfl, rfl, by decide +kernel, rfl, by decide +kernel, by decide +kernel⟩
theorem fn__law_raise_named_second (e : EnvOk mg K) : FnP P w K mg base "_law_raise_named_second" s__law_raise_named_second 3 ["which", "given"] [.v, .p] φ__law_raise_named_second := by
  obtain ⟨f, fd, F, hm⟩ := e.f__law_raise_named_second
  obtain ⟨xKC_NoMachine, xKI_NoMachine, xKE_NoMachine, xKP_NoMachine⟩ := raiseK_NoMachine (P := P) (w := w) (base := base) e
  obtain ⟨xKC_InvalidTape, xKI_InvalidTape, xKE_InvalidTape, xKP_InvalidTape⟩ := raiseK_InvalidTape (P := P) (w := w) (base := base) e
  obtain ⟨xKC_InvalidSorter, xKI_InvalidSorter, xKE_InvalidSorter, xKP_InvalidSorter⟩ := raiseK_InvalidSorter (P := P) (w := w) (base := base) e
  obtain ⟨xKC_InvalidSaying, xKI_InvalidSaying, xKE_InvalidSaying, xKP_InvalidSaying⟩ := raiseK_InvalidSaying (P := P) (w := w) (base := base) e
  obtain ⟨xKC_InvalidName, xKI_InvalidName, xKE_InvalidName, xKP_InvalidName⟩ := raiseK_InvalidName (P := P) (w := w) (base := base) e
  obtain ⟨xKC_NotLet, xKI_NotLet, xKE_NotLet, xKP_NotLet⟩ := raiseK_NotLet (P := P) (w := w) (base := base) e
  obtain ⟨xKC_UnknownName, xKI_UnknownName, xKE_UnknownName, xKP_UnknownName⟩ := raiseK_UnknownName (P := P) (w := w) (base := base) e
  obtain ⟨xKC_NothingToUndo, xKI_NothingToUndo, xKE_NothingToUndo, xKP_NothingToUndo⟩ := raiseK_NothingToUndo (P := P) (w := w) (base := base) e
  obtain ⟨xKC_Unreadable, xKI_Unreadable, xKE_Unreadable, xKP_Unreadable⟩ := raiseK_Unreadable (P := P) (w := w) (base := base) e
  obtain ⟨xKC_Unorderly, xKI_Unorderly, xKE_Unorderly, xKP_Unorderly⟩ := raiseK_Unorderly (P := P) (w := w) (base := base) e
  refine fnP_mk (k := 2) (N := ["which", "given"]) F hm (F.binds (ps := ["which", "given"]) fun _ _ _ _ _ _ us hl => match us, hl with | [_, _], _ => rfl) sc__law_raise_named_second rfl rfl fun cdv A outer s H E hr => ?_
  exact (dss_cons (ds_if (dt_cmp (or_eq hr.units) (zv 0) (dv_of dp_int) (by rfl)) (dss_one (ds_raiseK rfl xKE_NoMachine xKP_NoMachine (hr.mono (by omega)) (by rfl) (dp_esc (zv 1)))) dss_nil)
      (dss_cons (ds_if (dt_cmp (or_eq hr.units) (zv 0) (dv_of dp_int) (by rfl)) (dss_one (ds_raiseK rfl xKE_InvalidTape xKP_InvalidTape (hr.mono (by omega)) (by rfl) (dp_esc (zv 1)))) dss_nil)
      (dss_cons (ds_if (dt_cmp (or_eq hr.units) (zv 0) (dv_of dp_int) (by rfl)) (dss_one (ds_raiseK rfl xKE_InvalidSorter xKP_InvalidSorter (hr.mono (by omega)) (by rfl) (dp_esc (zv 1)))) dss_nil)
      (dss_cons (ds_if (dt_cmp (or_eq hr.units) (zv 0) (dv_of dp_int) (by rfl)) (dss_one (ds_raiseK rfl xKE_InvalidSaying xKP_InvalidSaying (hr.mono (by omega)) (by rfl) (dp_esc (zv 1)))) dss_nil)
      (dss_cons (ds_if (dt_cmp (or_eq hr.units) (zv 0) (dv_of dp_int) (by rfl)) (dss_one (ds_raiseK rfl xKE_InvalidName xKP_InvalidName (hr.mono (by omega)) (by rfl) (dp_esc (zv 1)))) dss_nil)
      (dss_cons (ds_if (dt_cmp (or_eq hr.units) (zv 0) (dv_of dp_int) (by rfl)) (dss_one (ds_raiseK rfl xKE_NotLet xKP_NotLet (hr.mono (by omega)) (by rfl) (dp_esc (zv 1)))) dss_nil)
      (dss_cons (ds_if (dt_cmp (or_eq hr.units) (zv 0) (dv_of dp_int) (by rfl)) (dss_one (ds_raiseK rfl xKE_UnknownName xKP_UnknownName (hr.mono (by omega)) (by rfl) (dp_esc (zv 1)))) dss_nil)
      (dss_cons (ds_if (dt_cmp (or_eq hr.units) (zv 0) (dv_of dp_int) (by rfl)) (dss_one (ds_raiseK rfl xKE_NothingToUndo xKP_NothingToUndo (hr.mono (by omega)) (by rfl) (dp_esc (zv 1)))) dss_nil)
      (dss_cons (ds_if (dt_cmp (or_eq hr.units) (zv 0) (dv_of dp_int) (by rfl)) (dss_one (ds_raiseK rfl xKE_Unreadable xKP_Unreadable (hr.mono (by omega)) (by rfl) (dp_esc (zv 1)))) dss_nil)
      (dss_one (ds_raiseK rfl xKE_Unorderly xKP_Unorderly (hr.mono (by omega)) (by rfl) (dp_esc (zv 1)))))))))))))
theorem sc__law_raised : FnScope ["which", "given", "named"] ["which", "given", "named"] (defScope s__law_raised) := ⟨rfl, rfl, rfl, by decide +kernel, rfl, by decide +kernel, by decide +kernel⟩
theorem fn__law_raised (e : EnvOk mg K) : FnP P w K mg base "_law_raised" s__law_raised 4 ["which", "given", "named"] [.v, .p, .p] φ__law_raised := by
  obtain ⟨f, fd, F, hm⟩ := e.f__law_raised
  refine fnP_mk (k := 3) (N := ["which", "given", "named"]) F hm (F.binds (ps := ["which", "given", "named"]) fun _ _ _ _ _ _ us hl => match us, hl with | [_, _, _], _ => rfl) sc__law_raised rfl rfl fun cdv A outer s H E hr => ?_
  exact (dss_one (ds_if (dt_w (dw_and (dt_cmp or_lt (zv 0) (dv_of dp_int) (by rfl)) (dw_and1 (dt_val (dp_esc (zv 2)))))) (dss_one (ds_exprR (dr_fn ((fn__law_raise_named_first e).mono (by omega)) hr (by rfl) (dvs_cons (zv 0) (dvs_cons (dv_of (dp_esc (zv 1))) dvs_nil))))) (dss_one (ds_if (dt_cmp or_lt (zv 0) (dv_of dp_int) (by rfl)) (dss_one (ds_exprR (dr_fn ((fn__law_raise_first e).mono (by omega)) hr (by rfl) (dvs_cons (zv 0) (dvs_cons (dv_of (dp_esc (zv 1))) dvs_nil))))) (dss_one (ds_if (dt_val (dp_esc (zv 2))) (dss_one (ds_exprR (dr_fn ((fn__law_raise_named_second e).mono (by omega)) hr (by rfl) (dvs_cons (zv 0) (dvs_cons (dv_of (dp_esc (zv 1))) dvs_nil))))) (dss_one (ds_exprR (dr_fn ((fn__law_raise_second e).mono (by omega)) hr (by rfl) (dvs_cons (zv 0) (dvs_cons (dv_of (dp_esc (zv 1))) dvs_nil)))))))))))
theorem sc__law_kinds : FnScope ["e", "found"] ["e"] (defScope s__law_kinds) := ⟨rfl, rfl, rfl, by decide +kernel, rfl, by decide +kernel, by decide +kernel⟩
theorem fn__law_kinds (e : EnvOk mg K) : FnP P w K mg base "_law_kinds" s__law_kinds 1 ["e"] [.v] φ__law_kinds := by
  obtain ⟨f, fd, F, hm⟩ := e.f__law_kinds
  obtain ⟨yC_InvalidForm, yM_InvalidForm, yT_InvalidForm⟩ := e.y_InvalidForm
  obtain ⟨yC_InvalidKind, yM_InvalidKind, yT_InvalidKind⟩ := e.y_InvalidKind
  obtain ⟨yC_InvalidLetter, yM_InvalidLetter, yT_InvalidLetter⟩ := e.y_InvalidLetter
  obtain ⟨yC_InvalidList, yM_InvalidList, yT_InvalidList⟩ := e.y_InvalidList
  obtain ⟨yC_InvalidMachine, yM_InvalidMachine, yT_InvalidMachine⟩ := e.y_InvalidMachine
  obtain ⟨yC_InvalidName, yM_InvalidName, yT_InvalidName⟩ := e.y_InvalidName
  obtain ⟨yC_InvalidNumber, yM_InvalidNumber, yT_InvalidNumber⟩ := e.y_InvalidNumber
  obtain ⟨yC_InvalidOrder, yM_InvalidOrder, yT_InvalidOrder⟩ := e.y_InvalidOrder
  obtain ⟨yC_InvalidPair, yM_InvalidPair, yT_InvalidPair⟩ := e.y_InvalidPair
  obtain ⟨yC_InvalidPattern, yM_InvalidPattern, yT_InvalidPattern⟩ := e.y_InvalidPattern
  obtain ⟨yC_InvalidSaying, yM_InvalidSaying, yT_InvalidSaying⟩ := e.y_InvalidSaying
  obtain ⟨yC_InvalidSorter, yM_InvalidSorter, yT_InvalidSorter⟩ := e.y_InvalidSorter
  obtain ⟨yC_InvalidTape, yM_InvalidTape, yT_InvalidTape⟩ := e.y_InvalidTape
  obtain ⟨yC_InvalidWord, yM_InvalidWord, yT_InvalidWord⟩ := e.y_InvalidWord
  obtain ⟨yC_NoMachine, yM_NoMachine, yT_NoMachine⟩ := e.y_NoMachine
  obtain ⟨yC_NotLet, yM_NotLet, yT_NotLet⟩ := e.y_NotLet
  obtain ⟨yC_NothingToUndo, yM_NothingToUndo, yT_NothingToUndo⟩ := e.y_NothingToUndo
  obtain ⟨yC_UnknownName, yM_UnknownName, yT_UnknownName⟩ := e.y_UnknownName
  obtain ⟨yC_Unorderly, yM_Unorderly, yT_Unorderly⟩ := e.y_Unorderly
  obtain ⟨yC_Unreadable, yM_Unreadable, yT_Unreadable⟩ := e.y_Unreadable
  refine fnP_mk (k := 0) (N := ["e", "found"]) F hm (F.binds (ps := ["e"]) fun _ _ _ _ _ _ us hl => match us, hl with | [_], _ => rfl) sc__law_kinds rfl rfl fun cdv A outer s H E hr => ?_
  exact (dss_cons (ds_setO (i := 1) sc__law_kinds.nd rfl (by first | exact Or.inl rfl | exact Or.inr rfl) (do_lst (dps_cons (dp_isE (by rfl) e.b_isinstance (zv 0) (by rfl) yM_InvalidOrder yT_InvalidOrder) (dps_cons (dp_isE (by rfl) e.b_isinstance (zv 0) (by rfl) yM_InvalidPattern yT_InvalidPattern) (dps_cons (dp_isE (by rfl) e.b_isinstance (zv 0) (by rfl) yM_InvalidList yT_InvalidList) dps_nil)))))
      (dss_cons (ds_setR (i := 1) sc__law_kinds.nd rfl (by first | exact Or.inl rfl | exact Or.inr rfl) (dr_bin or_add or_cat (zv 1) (dv_of (dp_fz (do_lst (dps_cons (dp_isE (by rfl) e.b_isinstance (zv 0) (by rfl) yM_InvalidForm yT_InvalidForm) (dps_cons (dp_isE (by rfl) e.b_isinstance (zv 0) (by rfl) yM_InvalidLetter yT_InvalidLetter) (dps_cons (dp_isE (by rfl) e.b_isinstance (zv 0) (by rfl) yM_InvalidWord yT_InvalidWord) dps_nil))))))))
      (dss_cons (ds_setR (i := 1) sc__law_kinds.nd rfl (by first | exact Or.inl rfl | exact Or.inr rfl) (dr_bin or_add or_cat (zv 1) (dv_of (dp_fz (do_lst (dps_cons (dp_isE (by rfl) e.b_isinstance (zv 0) (by rfl) yM_InvalidKind yT_InvalidKind) (dps_cons (dp_isE (by rfl) e.b_isinstance (zv 0) (by rfl) yM_InvalidNumber yT_InvalidNumber) (dps_cons (dp_isE (by rfl) e.b_isinstance (zv 0) (by rfl) yM_InvalidPair yT_InvalidPair) dps_nil))))))))
      (dss_cons (ds_setR (i := 1) sc__law_kinds.nd rfl (by first | exact Or.inl rfl | exact Or.inr rfl) (dr_bin or_add or_cat (zv 1) (dv_of (dp_fz (do_lst (dps_cons (dp_isE (by rfl) e.b_isinstance (zv 0) (by rfl) yM_InvalidMachine yT_InvalidMachine) (dps_cons (dp_isE (by rfl) e.b_isinstance (zv 0) (by rfl) yM_NoMachine yT_NoMachine) (dps_cons (dp_isE (by rfl) e.b_isinstance (zv 0) (by rfl) yM_InvalidTape yT_InvalidTape) dps_nil))))))))
      (dss_cons (ds_setR (i := 1) sc__law_kinds.nd rfl (by first | exact Or.inl rfl | exact Or.inr rfl) (dr_bin or_add or_cat (zv 1) (dv_of (dp_fz (do_lst (dps_cons (dp_isE (by rfl) e.b_isinstance (zv 0) (by rfl) yM_InvalidSorter yT_InvalidSorter) (dps_cons (dp_isE (by rfl) e.b_isinstance (zv 0) (by rfl) yM_InvalidSaying yT_InvalidSaying) (dps_cons (dp_isE (by rfl) e.b_isinstance (zv 0) (by rfl) yM_InvalidName yT_InvalidName) dps_nil))))))))
      (dss_cons (ds_setR (i := 1) sc__law_kinds.nd rfl (by first | exact Or.inl rfl | exact Or.inr rfl) (dr_bin or_add or_cat (zv 1) (dv_of (dp_fz (do_lst (dps_cons (dp_isE (by rfl) e.b_isinstance (zv 0) (by rfl) yM_NotLet yT_NotLet) (dps_cons (dp_isE (by rfl) e.b_isinstance (zv 0) (by rfl) yM_UnknownName yT_UnknownName) (dps_cons (dp_isE (by rfl) e.b_isinstance (zv 0) (by rfl) yM_NothingToUndo yT_NothingToUndo) dps_nil))))))))
      (dss_one (ds_retR (dr_bin or_add or_cat (zv 1) (dv_of (dp_fz (do_lst (dps_cons (dp_isE (by rfl) e.b_isinstance (zv 0) (by rfl) yM_Unreadable yT_Unreadable) (dps_cons (dp_isE (by rfl) e.b_isinstance (zv 0) (by rfl) yM_Unorderly yT_Unorderly) dps_nil))))))))))))))
theorem sc__law_given : FnScope ["deck", "far", "some"] ["deck"] (defScope s__law_given) := ⟨rfl, rfl, rfl, by decide +kernel, rfl, by decide +kernel, by decide +kernel⟩
theorem fn__law_given (e : EnvOk mg K) : FnP P w K mg base "_law_given" s__law_given 2 ["deck"] [.m] φ__law_given := by
  obtain ⟨f, fd, F, hm⟩ := e.f__law_given
  refine fnP_mk (k := 1) (N := ["deck", "far", "some"]) F hm (F.binds (ps := ["deck"]) fun _ _ _ _ _ _ us hl => match us, hl with | [_], _ => rfl) sc__law_given rfl rfl fun cdv A outer s H E hr => ?_
  exact (dss_cons (ds_set (i := 1) sc__law_given.nd rfl (by first | exact Or.inl rfl | exact Or.inr rfl) (dp_bin or_sub (dv_of (dp_ofR (dr_fn ((fn__law_take e).mono (by omega)) hr (by rfl) (dvs_cons (zv 0) (dvs_cons (dv_of (dp_bin or_pow (dv_of dp_int) (dv_of dp_int))) dvs_nil))))) (dv_of (dp_bin or_pow (dv_of dp_int) (dv_of dp_int)))))
      (dss_cons (ds_setO (i := 2) sc__law_given.nd rfl (by first | exact Or.inl rfl | exact Or.inr rfl) (do_lst (dps_cons (dp_esc (zv 1)) (dps_cons (dp_ofR (dr_fn ((fn__law_take e).mono (by omega)) hr (by rfl) (dvs_cons (zv 0) (dvs_cons (dv_of dp_int) dvs_nil)))) (dps_cons dp_str (dps_cons dp_str (dps_cons dp_none (dps_cons dp_bool (dps_cons dp_bool (dps_cons (dp_tup dps_nil) (dps_cons (dp_tup (dps_cons (dp_esc (zv 1)) (dps_cons dp_int dps_nil))) (dps_cons (dp_fz (do_lst (dps_cons (dp_esc (zv 1)) (dps_cons dp_str dps_nil)))) (dps_cons (dp_tup (dps_cons (dp_tup (dps_cons dp_int (dps_cons dp_int dps_nil))) (dps_cons (dp_tup (dps_cons dp_str (dps_cons (dp_tup dps_nil) dps_nil))) dps_nil))) (dps_cons (dp_fz (do_lst dps_nil)) (dps_cons (dp_un un_negD (dv_of dp_int)) (dps_cons dp_int dps_nil))))))))))))))))
      (dss_one (ds_ret (dp_ix (ixr hr.units) (zv 2) (dv_of (dp_ofR (dr_fn ((fn__law_take e).mono (by omega)) hr (by rfl) (dvs_cons (zv 0) (dvs_cons (dv_of dp_int) dvs_nil))))) (fun _ _ => rfl))))))
theorem sc__law_right : FnScope ["which", "given", "named", "caught", "e", "k"] ["which", "given", "named"] (defScope s__law_right) := ⟨rfl, rfl, rfl, by decide +kernel, rfl, by decide +kernel, by decide +kernel⟩
theorem fn__law_right (e : EnvOk mg K) : FnP P w K mg base "_law_right" s__law_right 6 ["which", "given", "named"] [.v, .p, .p] φ__law_right := by
  obtain ⟨f, fd, F, hm⟩ := e.f__law_right
  obtain ⟨zC_OrderError, zM_OrderError, zT_OrderError⟩ := e.z_OrderError
  refine fnP_mk (k := 5) (N := ["which", "given", "named", "caught", "e", "k"]) F hm (F.binds (ps := ["which", "given", "named"]) fun _ _ _ _ _ _ us hl => match us, hl with | [_, _, _], _ => rfl) sc__law_right rfl rfl fun cdv A outer s H E hr => ?_
  exact (dss_cons (ds_set (i := 3) sc__law_right.nd rfl (by first | exact Or.inl rfl | exact Or.inr rfl) dp_none)
      (dss_cons (ds_tryK (i := 4) (j := 3) rfl rfl rfl sc__law_right.nd rfl rfl rfl (by first | exact Or.inl rfl | exact Or.inr rfl) (by first | exact Or.inl rfl | exact Or.inr (Or.inl rfl) | exact Or.inr (Or.inr rfl)) (by decide) (fun pn xe po => (dss_one (ds_exprR (dr_fn ((fn__law_raised e).mono (by omega)) hr (by rfl) (dvs_cons (zv 0) (dvs_cons (dv_of (dp_esc (zv 1))) (dvs_cons (dv_of (dp_esc (zv 2))) dvs_nil))))))) ⟨by rfl, by decide, .inl zM_OrderError⟩ zT_OrderError)
      (dss_cons (ds_if (dt_w (dw_or (dt_cmp or_isN (zv 3) (dv_of dp_none) (by rfl)) (dw_or1 (dt_not (dt_val (dp_isEB (by rfl) e.b_isinstance (zv 3) (by rfl) e.b_ValueError (by rfl) e.yb_ValueError)))))) (dss_one (ds_ret dp_bool)) dss_nil)
      (dss_one (ds_ret (dp_and (dp_cmp (or_eq hr.units) (dv_of (dp_ofR (dr_fn ((fn__law_kinds e).mono (by omega)) hr (by rfl) (dvs_cons (zv 3) dvs_nil)))) (dv_of (dp_fz (do_comp [("k", 5)] rfl sc__law_right.nd (di_range1 (by rfl) e.b_range (dvs_cons (dv_of dp_int) dvs_nil)) (blkOk_by (by rfl)) (fun _ _ _ _ _ => (dgb_any (dg_name (i := 5) sc__law_right.nd rfl (by first | exact Or.inl rfl | exact Or.inr rfl)))) (fun _ _ _ _ _ => dts_nil) (fun _ _ _ _ _ => (dp_cmp (or_eq hr.units) (zv 5) (zv 0) (by rfl))) (by simp [tgS, tgsS])))) (by rfl)) (dp_one (dp_ofR (dr_fn ((fn__law_same e 4).mono (by omega)) hr (by rfl) (dvs_cons (dv_of (dp_eValL e.vl (zv 3))) (dvs_cons (zv 1) dvs_nil)))))))))))
theorem sc__law_base_right : FnScope ["given", "caught", "e"] ["given"] (defScope s__law_base_right) := ⟨rfl, rfl, rfl, by decide +kernel, rfl, by decide +kernel, by decide +kernel⟩
theorem fn__law_base_right (e : EnvOk mg K) : FnP P w K mg base "_law_base_right" s__law_base_right 6 ["given"] [.p] φ__law_base_right := by
  obtain ⟨f, fd, F, hm⟩ := e.f__law_base_right
  obtain ⟨xKC_OrderError, xKI_OrderError, xKE_OrderError, xKP_OrderError⟩ := raiseK_OrderError (P := P) (w := w) (base := base) e
  obtain ⟨xC_OrderError, xI_OrderError, xE_OrderError, xP_OrderError, xT_OrderError, xX_OrderError⟩ := raise_OrderError (P := P) (w := w) (base := base) e
  obtain ⟨zC_OrderError, zM_OrderError, zT_OrderError⟩ := e.z_OrderError
  refine fnP_mk (k := 5) (N := ["given", "caught", "e"]) F hm (F.binds (ps := ["given"]) fun _ _ _ _ _ _ us hl => match us, hl with | [_], _ => rfl) sc__law_base_right rfl rfl fun cdv A outer s H E hr => ?_
  exact (dss_cons (ds_set (i := 1) sc__law_base_right.nd rfl (by first | exact Or.inl rfl | exact Or.inr rfl) dp_none)
      (dss_cons (ds_tryK (i := 2) (j := 1) rfl rfl rfl sc__law_base_right.nd rfl rfl rfl (by first | exact Or.inl rfl | exact Or.inr rfl) (by first | exact Or.inl rfl | exact Or.inr (Or.inl rfl) | exact Or.inr (Or.inr rfl)) (by decide) (fun pn xe po => (dss_one (ds_raiseK rfl xKE_OrderError xKP_OrderError (hr.mono (by omega)) (by rfl) (dp_esc (zv 0))))) ⟨by rfl, by decide, .inl zM_OrderError⟩ zT_OrderError)
      (dss_cons (ds_if (dt_w (dw_or (dt_not (dt_val (dp_isEB (by rfl) e.b_isinstance (zv 1) (by rfl) e.b_ValueError (by rfl) e.yb_ValueError))) (dw_or1 (dt_cmp (or_in hr.units) (dv_of dp_bool) (dv_of (dp_ofR (dr_fn ((fn__law_kinds e).mono (by omega)) hr (by rfl) (dvs_cons (zv 1) dvs_nil)))) (by rfl))))) (dss_one (ds_ret dp_bool)) dss_nil)
      (dss_one (ds_ret (dp_and (dp_ofR (dr_fn ((fn__law_same e 4).mono (by omega)) hr (by rfl) (dvs_cons (dv_of (dp_eValL e.vl (zv 1))) (dvs_cons (zv 0) dvs_nil)))) (dp_one (dp_ofR (dr_fn ((fn__law_same e 4).mono (by omega)) hr (by rfl) (dvs_cons (dv_of (dp_eValL e.vl (dv_of (dp_mkE xE_OrderError xP_OrderError e.n_OrderError (hr.mono (by omega)) (by rfl) (dp_esc (zv 0)))))) (dvs_cons (zv 0) dvs_nil)))))))))))
theorem sc_law : FnScope ["script", "first", "second", "k", "deck", "which", "named", "given", "other", "e"] ["script"] (defScope s_law) := ⟨rfl, rfl, rfl, by decide +kernel, rfl, by decide +kernel, by decide +kernel⟩
theorem fn_law (e : EnvOk mg K) : FnP P w K mg base "law" s_law 7 ["script"] [.v] φ_law := by
  obtain ⟨f, fd, F, hm⟩ := e.f_law
  obtain ⟨zC_OrderError, zM_OrderError, zT_OrderError⟩ := e.z_OrderError
  refine fnP_mk (k := 6) (N := ["script", "first", "second", "k", "deck", "which", "named", "given", "other", "e"]) F hm (F.binds (ps := ["script"]) fun _ _ _ _ _ _ us hl => match us, hl with | [_], _ => rfl) sc_law rfl rfl fun cdv A outer s H E hr => ?_
  exact (dss_cons (ds_parG rfl sc_law.nd (.cons (i := 1) rfl (by first | exact Or.inl rfl | exact Or.inr rfl) (.inl rfl) rfl (.cons (i := 2) rfl (by first | exact Or.inl rfl | exact Or.inr rfl) (.inl rfl) rfl .nil)) (dms_d dp_none (dms_d dp_none dms_nil)) (by decide))
      (dss_cons (ds_for [3, 4, 5, 6, 7, 8] passX rfl (di_range1 (by rfl) e.b_range (dvs_cons (dv_of (dp_callB (cd_max rfl) (by rfl) e.b_max boot_max (dvs_cons (dv_of dp_int) (dvs_cons (dv_of (dp_callB (cd_min rfl) (by rfl) e.b_min boot_min (dvs_cons (dv_of (dp_callB cd_len (by rfl) e.b_len boot_len (dvs_cons (zv 0) dvs_nil))) (dvs_cons (dv_of dp_int) dvs_nil)))) dvs_nil)))) dvs_nil)) (dgb_any (dg_name (i := 3) sc_law.nd rfl (by first | exact Or.inl rfl | exact Or.inr rfl))) (dss_cons (ds_setR (i := 4) sc_law.nd rfl (by first | exact Or.inl rfl | exact Or.inr rfl) (dr_fn ((fn__law_deck e).mono (by omega)) hr (by rfl) (dvs_cons (zv 0) (dvs_cons (zv 3) dvs_nil))))
      (dss_cons (ds_par (i := 5) (j := 6) rfl sc_law.nd rfl rfl (by decide) rfl rfl (dms_r (dr_fn ((fn__law_take e).mono (by omega)) hr (by rfl) (dvs_cons (zv 4) (dvs_cons (dv_of dp_int) dvs_nil))) (dms_d (dp_cmp (or_eq hr.units) (dv_of (dp_ofR (dr_fn ((fn__law_take e).mono (by omega)) hr (by rfl) (dvs_cons (zv 4) (dvs_cons (dv_of dp_int) dvs_nil))))) (dv_of dp_int) (by rfl)) dms_nil)))
      (dss_cons (ds_par (i := 7) (j := 8) rfl sc_law.nd rfl rfl (by decide) rfl rfl (dms_r (dr_fn ((fn__law_given e).mono (by omega)) hr (by rfl) (dvs_cons (zv 4) dvs_nil)) (dms_r (dr_fn ((fn__law_given e).mono (by omega)) hr (by rfl) (dvs_cons (zv 4) dvs_nil)) dms_nil)))
      (dss_cons (ds_if (dt_w (dw_or (dt_not (dt_val (dp_ofR (dr_fn ((fn__law_right e).mono (by omega)) hr (by rfl) (dvs_cons (zv 5) (dvs_cons (dv_of (dp_esc (zv 7))) (dvs_cons (dv_of (dp_esc (zv 6))) dvs_nil))))))) (dw_or (dt_not (dt_val (dp_ofR (dr_fn ((fn__law_right e).mono (by omega)) hr (by rfl) (dvs_cons (zv 5) (dvs_cons (dv_of (dp_esc (zv 8))) (dvs_cons (dv_of (dp_not (dp_esc (zv 6)))) dvs_nil))))))) (dw_or1 (dt_not (dt_val (dp_ofR (dr_fn ((fn__law_base_right e).mono (by omega)) hr (by rfl) (dvs_cons (dv_of (dp_esc (zv 8))) dvs_nil))))))))) (dss_one (ds_ret dp_bool)) dss_nil)
      (dss_cons (ds_tryK (i := 9) (j := 1) rfl rfl rfl sc_law.nd rfl rfl rfl (by first | exact Or.inl rfl | exact Or.inr rfl) (by first | exact Or.inl rfl | exact Or.inr (Or.inl rfl) | exact Or.inr (Or.inr rfl)) (by decide) (fun pn xe po => (dss_one (ds_exprR (dr_fn ((fn__law_raised e).mono (by omega)) hr (by rfl) (dvs_cons (zv 5) (dvs_cons (dv_of (dp_esc (zv 7))) (dvs_cons (dv_of (dp_esc (zv 6))) dvs_nil))))))) ⟨by rfl, by decide, .inl zM_OrderError⟩ zT_OrderError)
      (dss_cons (ds_tryK (i := 9) (j := 2) rfl rfl rfl sc_law.nd rfl rfl rfl (by first | exact Or.inl rfl | exact Or.inr rfl) (by first | exact Or.inl rfl | exact Or.inr (Or.inl rfl) | exact Or.inr (Or.inr rfl)) (by decide) (fun pn xe po => (dss_one (ds_exprR (dr_fn ((fn__law_raised e).mono (by omega)) hr (by rfl) (dvs_cons (zv 5) (dvs_cons (dv_of (dp_esc (zv 8))) (dvs_cons (dv_of (dp_esc (zv 6))) dvs_nil))))))) ⟨by rfl, by decide, .inl zM_OrderError⟩ zT_OrderError)
      (dss_one (ds_if (dt_w (dw_or (dt_not (dt_val (dp_ofR (dr_fn ((fn__law_same e 4).mono (by omega)) hr (by rfl) (dvs_cons (dv_of (dp_eValL e.vl (zv 1))) (dvs_cons (zv 7) dvs_nil)))))) (dw_or1 (dt_not (dt_val (dp_ofR (dr_fn ((fn__law_same e 4).mono (by omega)) hr (by rfl) (dvs_cons (dv_of (dp_eValL e.vl (zv 2))) (dvs_cons (zv 8) dvs_nil))))))))) (dss_one (ds_ret dp_bool)) dss_nil)))))))))
      (dss_cons (ds_for [] passX rfl (di_range1 (by rfl) e.b_range (dvs_cons (dv_of dp_int) dvs_nil)) (dgb_any (dg_name (i := 5) sc_law.nd rfl (by first | exact Or.inl rfl | exact Or.inr rfl))) (dss_one (ds_if (dt_w (dw_or (dt_not (dt_val (dp_ofR (dr_fn ((fn__law_right e).mono (by omega)) hr (by rfl) (dvs_cons (zv 5) (dvs_cons (dv_of (dp_esc (zv 5))) (dvs_cons (dv_of dp_bool) dvs_nil))))))) (dw_or1 (dt_not (dt_val (dp_ofR (dr_fn ((fn__law_right e).mono (by omega)) hr (by rfl) (dvs_cons (zv 5) (dvs_cons (dv_of dp_str) (dvs_cons (dv_of dp_bool) dvs_nil)))))))))) (dss_one (ds_ret dp_bool)) dss_nil)))
      (dss_one (ds_ret dp_bool)))))
end
theorem all_mk {w : World} {K : PySem.W.Frag} {h : Heap} {mg : Str → Option Value} {fa : Addr} (X : K.In h) (G : h.Ns mainGlobals mg) (hfa : mg "law" = some (.ref fa)) (main : ∀ ns : List Int, ns.length ≤ 63 → φ_law [.list (ns.map PyData.int)] = .ret (.d (.bool true)) [])
    {od0 an0 : Option Addr} {f0 : Addr} {sl0 : Array (Option Value)} {oc0 kV0 dc0 pm0 cd0 ct0 : Value} (a0 : PySem.W.nsIn K mainGlobals "_law_deck" = some (some (.ref f0))) (l0 : K.lookup f0 = some ⟨oc0, od0, .func (PySem.W.fnOf "_law_deck" "_law_deck" (defArgs s__law_deck) (defBody s__law_deck) (defScope s__law_deck) .none kV0 dc0 pm0 an0 cd0 ct0), sl0⟩) (c0 : PySem.W.codeIn K cd0 "_law_deck" = true) (k0 : PySem.W.keepIn K (.ref f0) = true)
    {od1 an1 : Option Addr} {f1 : Addr} {sl1 : Array (Option Value)} {oc1 kV1 dc1 pm1 cd1 ct1 : Value} (a1 : PySem.W.nsIn K mainGlobals "_law_take" = some (some (.ref f1))) (l1 : K.lookup f1 = some ⟨oc1, od1, .func (PySem.W.fnOf "_law_take" "_law_take" (defArgs s__law_take) (defBody s__law_take) (defScope s__law_take) .none kV1 dc1 pm1 an1 cd1 ct1), sl1⟩) (c1 : PySem.W.codeIn K cd1 "_law_take" = true) (k1 : PySem.W.keepIn K (.ref f1) = true)
    {od2 an2 : Option Addr} {f2 : Addr} {sl2 : Array (Option Value)} {oc2 kV2 dc2 pm2 cd2 ct2 : Value} (a2 : PySem.W.nsIn K mainGlobals "_law_same" = some (some (.ref f2))) (l2 : K.lookup f2 = some ⟨oc2, od2, .func (PySem.W.fnOf "_law_same" "_law_same" (defArgs s__law_same) (defBody s__law_same) (defScope s__law_same) .none kV2 dc2 pm2 an2 cd2 ct2), sl2⟩) (c2 : PySem.W.codeIn K cd2 "_law_same" = true) (k2 : PySem.W.keepIn K (.ref f2) = true)
    {od3 an3 : Option Addr} {f3 : Addr} {sl3 : Array (Option Value)} {oc3 kV3 dc3 pm3 cd3 ct3 : Value} (a3 : PySem.W.nsIn K mainGlobals "_law_raise_first" = some (some (.ref f3))) (l3 : K.lookup f3 = some ⟨oc3, od3, .func (PySem.W.fnOf "_law_raise_first" "_law_raise_first" (defArgs s__law_raise_first) (defBody s__law_raise_first) (defScope s__law_raise_first) .none kV3 dc3 pm3 an3 cd3 ct3), sl3⟩) (c3 : PySem.W.codeIn K cd3 "_law_raise_first" = true) (k3 : PySem.W.keepIn K (.ref f3) = true)
    {od4 an4 : Option Addr} {f4 : Addr} {sl4 : Array (Option Value)} {oc4 kV4 dc4 pm4 cd4 ct4 : Value} (a4 : PySem.W.nsIn K mainGlobals "_law_raise_second" = some (some (.ref f4))) (l4 : K.lookup f4 = some ⟨oc4, od4, .func (PySem.W.fnOf "_law_raise_second" "_law_raise_second" (defArgs s__law_raise_second) (defBody s__law_raise_second) (defScope s__law_raise_second) .none kV4 dc4 pm4 an4 cd4 ct4), sl4⟩) (c4 : PySem.W.codeIn K cd4 "_law_raise_second" = true) (k4 : PySem.W.keepIn K (.ref f4) = true)
    {od5 an5 : Option Addr} {f5 : Addr} {sl5 : Array (Option Value)} {oc5 kV5 dc5 pm5 cd5 ct5 : Value} (a5 : PySem.W.nsIn K mainGlobals "_law_raise_named_first" = some (some (.ref f5))) (l5 : K.lookup f5 = some ⟨oc5, od5, .func (PySem.W.fnOf "_law_raise_named_first" "_law_raise_named_first" (defArgs s__law_raise_named_first) (defBody s__law_raise_named_first) (defScope s__law_raise_named_first) .none kV5 dc5 pm5 an5 cd5 ct5), sl5⟩) (c5 : PySem.W.codeIn K cd5 "_law_raise_named_first" = true) (k5 : PySem.W.keepIn K (.ref f5) = true)
    {od6 an6 : Option Addr} {f6 : Addr} {sl6 : Array (Option Value)} {oc6 kV6 dc6 pm6 cd6 ct6 : Value} (a6 : PySem.W.nsIn K mainGlobals "_law_raise_named_second" = some (some (.ref f6))) (l6 : K.lookup f6 = some ⟨oc6, od6, .func (PySem.W.fnOf "_law_raise_named_second" "_law_raise_named_second" (defArgs s__law_raise_named_second) (defBody s__law_raise_named_second) (defScope s__law_raise_named_second) .none kV6 dc6 pm6 an6 cd6 ct6), sl6⟩) (c6 : PySem.W.codeIn K cd6 "_law_raise_named_second" = true) (k6 : PySem.W.keepIn K (.ref f6) = true)
    {od7 an7 : Option Addr} {f7 : Addr} {sl7 : Array (Option Value)} {oc7 kV7 dc7 pm7 cd7 ct7 : Value} (a7 : PySem.W.nsIn K mainGlobals "_law_raised" = some (some (.ref f7))) (l7 : K.lookup f7 = some ⟨oc7, od7, .func (PySem.W.fnOf "_law_raised" "_law_raised" (defArgs s__law_raised) (defBody s__law_raised) (defScope s__law_raised) .none kV7 dc7 pm7 an7 cd7 ct7), sl7⟩) (c7 : PySem.W.codeIn K cd7 "_law_raised" = true) (k7 : PySem.W.keepIn K (.ref f7) = true)
    {od8 an8 : Option Addr} {f8 : Addr} {sl8 : Array (Option Value)} {oc8 kV8 dc8 pm8 cd8 ct8 : Value} (a8 : PySem.W.nsIn K mainGlobals "_law_kinds" = some (some (.ref f8))) (l8 : K.lookup f8 = some ⟨oc8, od8, .func (PySem.W.fnOf "_law_kinds" "_law_kinds" (defArgs s__law_kinds) (defBody s__law_kinds) (defScope s__law_kinds) .none kV8 dc8 pm8 an8 cd8 ct8), sl8⟩) (c8 : PySem.W.codeIn K cd8 "_law_kinds" = true) (k8 : PySem.W.keepIn K (.ref f8) = true)
    {od9 an9 : Option Addr} {f9 : Addr} {sl9 : Array (Option Value)} {oc9 kV9 dc9 pm9 cd9 ct9 : Value} (a9 : PySem.W.nsIn K mainGlobals "_law_given" = some (some (.ref f9))) (l9 : K.lookup f9 = some ⟨oc9, od9, .func (PySem.W.fnOf "_law_given" "_law_given" (defArgs s__law_given) (defBody s__law_given) (defScope s__law_given) .none kV9 dc9 pm9 an9 cd9 ct9), sl9⟩) (c9 : PySem.W.codeIn K cd9 "_law_given" = true) (k9 : PySem.W.keepIn K (.ref f9) = true)
    {od10 an10 : Option Addr} {f10 : Addr} {sl10 : Array (Option Value)} {oc10 kV10 dc10 pm10 cd10 ct10 : Value} (a10 : PySem.W.nsIn K mainGlobals "_law_right" = some (some (.ref f10))) (l10 : K.lookup f10 = some ⟨oc10, od10, .func (PySem.W.fnOf "_law_right" "_law_right" (defArgs s__law_right) (defBody s__law_right) (defScope s__law_right) .none kV10 dc10 pm10 an10 cd10 ct10), sl10⟩) (c10 : PySem.W.codeIn K cd10 "_law_right" = true) (k10 : PySem.W.keepIn K (.ref f10) = true)
    {od11 an11 : Option Addr} {f11 : Addr} {sl11 : Array (Option Value)} {oc11 kV11 dc11 pm11 cd11 ct11 : Value} (a11 : PySem.W.nsIn K mainGlobals "_law_base_right" = some (some (.ref f11))) (l11 : K.lookup f11 = some ⟨oc11, od11, .func (PySem.W.fnOf "_law_base_right" "_law_base_right" (defArgs s__law_base_right) (defBody s__law_base_right) (defScope s__law_base_right) .none kV11 dc11 pm11 an11 cd11 ct11), sl11⟩) (c11 : PySem.W.codeIn K cd11 "_law_base_right" = true) (k11 : PySem.W.keepIn K (.ref f11) = true)
    {od12 an12 : Option Addr} {f12 : Addr} {sl12 : Array (Option Value)} {oc12 kV12 dc12 pm12 cd12 ct12 : Value} (a12 : PySem.W.nsIn K mainGlobals "law" = some (some (.ref f12))) (l12 : K.lookup f12 = some ⟨oc12, od12, .func (PySem.W.fnOf "law" "law" (defArgs s_law) (defBody s_law) (defScope s_law) .none kV12 dc12 pm12 an12 cd12 ct12), sl12⟩) (c12 : PySem.W.codeIn K cd12 "law" = true) (k12 : PySem.W.keepIn K (.ref f12) = true)
    (z0 : PySem.W.nsIn K mainGlobals "ValueError" = some none)
    (z1 : PySem.W.nsIn K mainGlobals "bool" = some none)
    (z2 : PySem.W.nsIn K mainGlobals "int" = some none)
    (z3 : PySem.W.nsIn K mainGlobals "isinstance" = some none)
    (z4 : PySem.W.nsIn K mainGlobals "len" = some none)
    (z5 : PySem.W.nsIn K mainGlobals "list" = some none)
    (z6 : PySem.W.nsIn K mainGlobals "max" = some none)
    (z7 : PySem.W.nsIn K mainGlobals "min" = some none)
    (z8 : PySem.W.nsIn K mainGlobals "range" = some none)
    (z9 : PySem.W.nsIn K mainGlobals "str" = some none)
    (z10 : PySem.W.nsIn K mainGlobals "tuple" = some none)
    {xC0 xO0 xI0 : Addr} {xq0 xn0 xz0 : Str} {xN0 : Addr} {xb0 : List Value} {xs0 : List Str} {xu0 : List Value} {xv0 : Bool} {xw0 : Option Bool} {xd0 : Option Addr} {xm0_0 xm1_0 xm2_0 xm3_0 xm5_0 : Option Value} {xod0 xan0 : Option Addr} {xsl0 : Array (Option Value)} {xoc0 xkV0 xdc0 xpm0 xcd0 xct0 : Value}
    (xaC0 : PySem.W.nsIn K mainGlobals "InvalidOrder" = some (some (.ref xC0)))
    (xL0 : K.lookup xC0 = some (excClassObj xn0 xz0 xC0 xN0 xb0 [.ref xO0, .type "ValueError", .type "Exception", .type "BaseException", .type "object"] true xs0 xu0 xv0 xw0 xd0 xm0_0 xm1_0 xm2_0 xm3_0 xm5_0 "ValueError.__new__"))
    (xsa0 : PySem.W.findIn K (.ref xC0) "__setattr__" = some (some (.builtin "object.__setattr__"))) (xga0 : PySem.W.findIn K (.ref xC0) "__getattribute__" = some (some (.builtin "BaseException.__getattribute__"))) (xgg0 : PySem.W.findIn K (.ref xC0) "__getattr__" = some none) (xnb0 : PySem.W.findIn K (.ref xC0) "value" = some none)
    (xa10 : PySem.W.findIn K (.ref xC0) "__init__" = some (some (.ref xI0))) (xt10 : PySem.W.typeIn K (.ref xI0) = some (.type "function"))
    (xl10 : K.lookup xI0 = some ⟨xoc0, xod0, .func (PySem.W.fnOf "__init__" xq0 (defArgs s__init) (defBody s__init) (defScope s__init) .none xkV0 xdc0 xpm0 xan0 xcd0 xct0), xsl0⟩) (xc10 : PySem.W.codeIn K xcd0 xq0 = true) (xk10 : PySem.W.keepIn K (.ref xI0) = true)
    (xkC0 : PySem.W.keepIn K (.ref xC0) = true) (xeC0 : PySem.W.subIn K (.ref xC0) (.type "BaseException") = some true) (xtC0 : PySem.W.typeIn K (.ref xC0) = some (.type "type")) (xhC0 : PySem.W.hasDictIn K xC0 = true) (xiC0 : PySem.W.isClsIn K xC0 = true) (xsC0 : PySem.W.subIn K (.ref xC0) (.ref xC0) = some true)
    (xvV0 : PySem.W.findCls K (.type "ValueError") (.type "type") "__init__" = some (.val (.builtin "ValueError.__init__")))
    {xC1 xO1 xI1 : Addr} {xq1 xn1 xz1 : Str} {xN1 : Addr} {xb1 : List Value} {xs1 : List Str} {xu1 : List Value} {xv1 : Bool} {xw1 : Option Bool} {xd1 : Option Addr} {xm0_1 xm1_1 xm2_1 xm3_1 xm5_1 : Option Value} {xod1 xan1 : Option Addr} {xsl1 : Array (Option Value)} {xoc1 xkV1 xdc1 xpm1 xcd1 xct1 : Value}
    (xaC1 : PySem.W.nsIn K mainGlobals "InvalidPattern" = some (some (.ref xC1)))
    (xL1 : K.lookup xC1 = some (excClassObj xn1 xz1 xC1 xN1 xb1 [.ref xO1, .type "ValueError", .type "Exception", .type "BaseException", .type "object"] true xs1 xu1 xv1 xw1 xd1 xm0_1 xm1_1 xm2_1 xm3_1 xm5_1 "ValueError.__new__"))
    (xsa1 : PySem.W.findIn K (.ref xC1) "__setattr__" = some (some (.builtin "object.__setattr__"))) (xga1 : PySem.W.findIn K (.ref xC1) "__getattribute__" = some (some (.builtin "BaseException.__getattribute__"))) (xgg1 : PySem.W.findIn K (.ref xC1) "__getattr__" = some none) (xnb1 : PySem.W.findIn K (.ref xC1) "value" = some none)
    (xa11 : PySem.W.findIn K (.ref xC1) "__init__" = some (some (.ref xI1))) (xt11 : PySem.W.typeIn K (.ref xI1) = some (.type "function"))
    (xl11 : K.lookup xI1 = some ⟨xoc1, xod1, .func (PySem.W.fnOf "__init__" xq1 (defArgs s__init) (defBody s__init) (defScope s__init) .none xkV1 xdc1 xpm1 xan1 xcd1 xct1), xsl1⟩) (xc11 : PySem.W.codeIn K xcd1 xq1 = true) (xk11 : PySem.W.keepIn K (.ref xI1) = true)
    (xkC1 : PySem.W.keepIn K (.ref xC1) = true) (xeC1 : PySem.W.subIn K (.ref xC1) (.type "BaseException") = some true) (xtC1 : PySem.W.typeIn K (.ref xC1) = some (.type "type")) (xhC1 : PySem.W.hasDictIn K xC1 = true) (xiC1 : PySem.W.isClsIn K xC1 = true) (xsC1 : PySem.W.subIn K (.ref xC1) (.ref xC1) = some true)
    (xvV1 : PySem.W.findCls K (.type "ValueError") (.type "type") "__init__" = some (.val (.builtin "ValueError.__init__")))
    {xC2 xO2 xI2 : Addr} {xq2 xn2 xz2 : Str} {xN2 : Addr} {xb2 : List Value} {xs2 : List Str} {xu2 : List Value} {xv2 : Bool} {xw2 : Option Bool} {xd2 : Option Addr} {xm0_2 xm1_2 xm2_2 xm3_2 xm5_2 : Option Value} {xod2 xan2 : Option Addr} {xsl2 : Array (Option Value)} {xoc2 xkV2 xdc2 xpm2 xcd2 xct2 : Value}
    (xaC2 : PySem.W.nsIn K mainGlobals "InvalidList" = some (some (.ref xC2)))
    (xL2 : K.lookup xC2 = some (excClassObj xn2 xz2 xC2 xN2 xb2 [.ref xO2, .type "ValueError", .type "Exception", .type "BaseException", .type "object"] true xs2 xu2 xv2 xw2 xd2 xm0_2 xm1_2 xm2_2 xm3_2 xm5_2 "ValueError.__new__"))
    (xsa2 : PySem.W.findIn K (.ref xC2) "__setattr__" = some (some (.builtin "object.__setattr__"))) (xga2 : PySem.W.findIn K (.ref xC2) "__getattribute__" = some (some (.builtin "BaseException.__getattribute__"))) (xgg2 : PySem.W.findIn K (.ref xC2) "__getattr__" = some none) (xnb2 : PySem.W.findIn K (.ref xC2) "value" = some none)
    (xa12 : PySem.W.findIn K (.ref xC2) "__init__" = some (some (.ref xI2))) (xt12 : PySem.W.typeIn K (.ref xI2) = some (.type "function"))
    (xl12 : K.lookup xI2 = some ⟨xoc2, xod2, .func (PySem.W.fnOf "__init__" xq2 (defArgs s__init) (defBody s__init) (defScope s__init) .none xkV2 xdc2 xpm2 xan2 xcd2 xct2), xsl2⟩) (xc12 : PySem.W.codeIn K xcd2 xq2 = true) (xk12 : PySem.W.keepIn K (.ref xI2) = true)
    (xkC2 : PySem.W.keepIn K (.ref xC2) = true) (xeC2 : PySem.W.subIn K (.ref xC2) (.type "BaseException") = some true) (xtC2 : PySem.W.typeIn K (.ref xC2) = some (.type "type")) (xhC2 : PySem.W.hasDictIn K xC2 = true) (xiC2 : PySem.W.isClsIn K xC2 = true) (xsC2 : PySem.W.subIn K (.ref xC2) (.ref xC2) = some true)
    (xvV2 : PySem.W.findCls K (.type "ValueError") (.type "type") "__init__" = some (.val (.builtin "ValueError.__init__")))
    {xC3 xO3 xI3 : Addr} {xq3 xn3 xz3 : Str} {xN3 : Addr} {xb3 : List Value} {xs3 : List Str} {xu3 : List Value} {xv3 : Bool} {xw3 : Option Bool} {xd3 : Option Addr} {xm0_3 xm1_3 xm2_3 xm3_3 xm5_3 : Option Value} {xod3 xan3 : Option Addr} {xsl3 : Array (Option Value)} {xoc3 xkV3 xdc3 xpm3 xcd3 xct3 : Value}
    (xaC3 : PySem.W.nsIn K mainGlobals "InvalidForm" = some (some (.ref xC3)))
    (xL3 : K.lookup xC3 = some (excClassObj xn3 xz3 xC3 xN3 xb3 [.ref xO3, .type "ValueError", .type "Exception", .type "BaseException", .type "object"] true xs3 xu3 xv3 xw3 xd3 xm0_3 xm1_3 xm2_3 xm3_3 xm5_3 "ValueError.__new__"))
    (xsa3 : PySem.W.findIn K (.ref xC3) "__setattr__" = some (some (.builtin "object.__setattr__"))) (xga3 : PySem.W.findIn K (.ref xC3) "__getattribute__" = some (some (.builtin "BaseException.__getattribute__"))) (xgg3 : PySem.W.findIn K (.ref xC3) "__getattr__" = some none) (xnb3 : PySem.W.findIn K (.ref xC3) "value" = some none)
    (xa13 : PySem.W.findIn K (.ref xC3) "__init__" = some (some (.ref xI3))) (xt13 : PySem.W.typeIn K (.ref xI3) = some (.type "function"))
    (xl13 : K.lookup xI3 = some ⟨xoc3, xod3, .func (PySem.W.fnOf "__init__" xq3 (defArgs s__init) (defBody s__init) (defScope s__init) .none xkV3 xdc3 xpm3 xan3 xcd3 xct3), xsl3⟩) (xc13 : PySem.W.codeIn K xcd3 xq3 = true) (xk13 : PySem.W.keepIn K (.ref xI3) = true)
    (xkC3 : PySem.W.keepIn K (.ref xC3) = true) (xeC3 : PySem.W.subIn K (.ref xC3) (.type "BaseException") = some true) (xtC3 : PySem.W.typeIn K (.ref xC3) = some (.type "type")) (xhC3 : PySem.W.hasDictIn K xC3 = true) (xiC3 : PySem.W.isClsIn K xC3 = true) (xsC3 : PySem.W.subIn K (.ref xC3) (.ref xC3) = some true)
    (xvV3 : PySem.W.findCls K (.type "ValueError") (.type "type") "__init__" = some (.val (.builtin "ValueError.__init__")))
    {xC4 xO4 xI4 : Addr} {xq4 xn4 xz4 : Str} {xN4 : Addr} {xb4 : List Value} {xs4 : List Str} {xu4 : List Value} {xv4 : Bool} {xw4 : Option Bool} {xd4 : Option Addr} {xm0_4 xm1_4 xm2_4 xm3_4 xm5_4 : Option Value} {xod4 xan4 : Option Addr} {xsl4 : Array (Option Value)} {xoc4 xkV4 xdc4 xpm4 xcd4 xct4 : Value}
    (xaC4 : PySem.W.nsIn K mainGlobals "InvalidLetter" = some (some (.ref xC4)))
    (xL4 : K.lookup xC4 = some (excClassObj xn4 xz4 xC4 xN4 xb4 [.ref xO4, .type "ValueError", .type "Exception", .type "BaseException", .type "object"] true xs4 xu4 xv4 xw4 xd4 xm0_4 xm1_4 xm2_4 xm3_4 xm5_4 "ValueError.__new__"))
    (xsa4 : PySem.W.findIn K (.ref xC4) "__setattr__" = some (some (.builtin "object.__setattr__"))) (xga4 : PySem.W.findIn K (.ref xC4) "__getattribute__" = some (some (.builtin "BaseException.__getattribute__"))) (xgg4 : PySem.W.findIn K (.ref xC4) "__getattr__" = some none) (xnb4 : PySem.W.findIn K (.ref xC4) "value" = some none)
    (xa14 : PySem.W.findIn K (.ref xC4) "__init__" = some (some (.ref xI4))) (xt14 : PySem.W.typeIn K (.ref xI4) = some (.type "function"))
    (xl14 : K.lookup xI4 = some ⟨xoc4, xod4, .func (PySem.W.fnOf "__init__" xq4 (defArgs s__init) (defBody s__init) (defScope s__init) .none xkV4 xdc4 xpm4 xan4 xcd4 xct4), xsl4⟩) (xc14 : PySem.W.codeIn K xcd4 xq4 = true) (xk14 : PySem.W.keepIn K (.ref xI4) = true)
    (xkC4 : PySem.W.keepIn K (.ref xC4) = true) (xeC4 : PySem.W.subIn K (.ref xC4) (.type "BaseException") = some true) (xtC4 : PySem.W.typeIn K (.ref xC4) = some (.type "type")) (xhC4 : PySem.W.hasDictIn K xC4 = true) (xiC4 : PySem.W.isClsIn K xC4 = true) (xsC4 : PySem.W.subIn K (.ref xC4) (.ref xC4) = some true)
    (xvV4 : PySem.W.findCls K (.type "ValueError") (.type "type") "__init__" = some (.val (.builtin "ValueError.__init__")))
    {xC5 xO5 xI5 : Addr} {xq5 xn5 xz5 : Str} {xN5 : Addr} {xb5 : List Value} {xs5 : List Str} {xu5 : List Value} {xv5 : Bool} {xw5 : Option Bool} {xd5 : Option Addr} {xm0_5 xm1_5 xm2_5 xm3_5 xm5_5 : Option Value} {xod5 xan5 : Option Addr} {xsl5 : Array (Option Value)} {xoc5 xkV5 xdc5 xpm5 xcd5 xct5 : Value}
    (xaC5 : PySem.W.nsIn K mainGlobals "InvalidWord" = some (some (.ref xC5)))
    (xL5 : K.lookup xC5 = some (excClassObj xn5 xz5 xC5 xN5 xb5 [.ref xO5, .type "ValueError", .type "Exception", .type "BaseException", .type "object"] true xs5 xu5 xv5 xw5 xd5 xm0_5 xm1_5 xm2_5 xm3_5 xm5_5 "ValueError.__new__"))
    (xsa5 : PySem.W.findIn K (.ref xC5) "__setattr__" = some (some (.builtin "object.__setattr__"))) (xga5 : PySem.W.findIn K (.ref xC5) "__getattribute__" = some (some (.builtin "BaseException.__getattribute__"))) (xgg5 : PySem.W.findIn K (.ref xC5) "__getattr__" = some none) (xnb5 : PySem.W.findIn K (.ref xC5) "value" = some none)
    (xa15 : PySem.W.findIn K (.ref xC5) "__init__" = some (some (.ref xI5))) (xt15 : PySem.W.typeIn K (.ref xI5) = some (.type "function"))
    (xl15 : K.lookup xI5 = some ⟨xoc5, xod5, .func (PySem.W.fnOf "__init__" xq5 (defArgs s__init) (defBody s__init) (defScope s__init) .none xkV5 xdc5 xpm5 xan5 xcd5 xct5), xsl5⟩) (xc15 : PySem.W.codeIn K xcd5 xq5 = true) (xk15 : PySem.W.keepIn K (.ref xI5) = true)
    (xkC5 : PySem.W.keepIn K (.ref xC5) = true) (xeC5 : PySem.W.subIn K (.ref xC5) (.type "BaseException") = some true) (xtC5 : PySem.W.typeIn K (.ref xC5) = some (.type "type")) (xhC5 : PySem.W.hasDictIn K xC5 = true) (xiC5 : PySem.W.isClsIn K xC5 = true) (xsC5 : PySem.W.subIn K (.ref xC5) (.ref xC5) = some true)
    (xvV5 : PySem.W.findCls K (.type "ValueError") (.type "type") "__init__" = some (.val (.builtin "ValueError.__init__")))
    {xC6 xO6 xI6 : Addr} {xq6 xn6 xz6 : Str} {xN6 : Addr} {xb6 : List Value} {xs6 : List Str} {xu6 : List Value} {xv6 : Bool} {xw6 : Option Bool} {xd6 : Option Addr} {xm0_6 xm1_6 xm2_6 xm3_6 xm5_6 : Option Value} {xod6 xan6 : Option Addr} {xsl6 : Array (Option Value)} {xoc6 xkV6 xdc6 xpm6 xcd6 xct6 : Value}
    (xaC6 : PySem.W.nsIn K mainGlobals "InvalidKind" = some (some (.ref xC6)))
    (xL6 : K.lookup xC6 = some (excClassObj xn6 xz6 xC6 xN6 xb6 [.ref xO6, .type "ValueError", .type "Exception", .type "BaseException", .type "object"] true xs6 xu6 xv6 xw6 xd6 xm0_6 xm1_6 xm2_6 xm3_6 xm5_6 "ValueError.__new__"))
    (xsa6 : PySem.W.findIn K (.ref xC6) "__setattr__" = some (some (.builtin "object.__setattr__"))) (xga6 : PySem.W.findIn K (.ref xC6) "__getattribute__" = some (some (.builtin "BaseException.__getattribute__"))) (xgg6 : PySem.W.findIn K (.ref xC6) "__getattr__" = some none) (xnb6 : PySem.W.findIn K (.ref xC6) "value" = some none)
    (xa16 : PySem.W.findIn K (.ref xC6) "__init__" = some (some (.ref xI6))) (xt16 : PySem.W.typeIn K (.ref xI6) = some (.type "function"))
    (xl16 : K.lookup xI6 = some ⟨xoc6, xod6, .func (PySem.W.fnOf "__init__" xq6 (defArgs s__init) (defBody s__init) (defScope s__init) .none xkV6 xdc6 xpm6 xan6 xcd6 xct6), xsl6⟩) (xc16 : PySem.W.codeIn K xcd6 xq6 = true) (xk16 : PySem.W.keepIn K (.ref xI6) = true)
    (xkC6 : PySem.W.keepIn K (.ref xC6) = true) (xeC6 : PySem.W.subIn K (.ref xC6) (.type "BaseException") = some true) (xtC6 : PySem.W.typeIn K (.ref xC6) = some (.type "type")) (xhC6 : PySem.W.hasDictIn K xC6 = true) (xiC6 : PySem.W.isClsIn K xC6 = true) (xsC6 : PySem.W.subIn K (.ref xC6) (.ref xC6) = some true)
    (xvV6 : PySem.W.findCls K (.type "ValueError") (.type "type") "__init__" = some (.val (.builtin "ValueError.__init__")))
    {xC7 xO7 xI7 : Addr} {xq7 xn7 xz7 : Str} {xN7 : Addr} {xb7 : List Value} {xs7 : List Str} {xu7 : List Value} {xv7 : Bool} {xw7 : Option Bool} {xd7 : Option Addr} {xm0_7 xm1_7 xm2_7 xm3_7 xm5_7 : Option Value} {xod7 xan7 : Option Addr} {xsl7 : Array (Option Value)} {xoc7 xkV7 xdc7 xpm7 xcd7 xct7 : Value}
    (xaC7 : PySem.W.nsIn K mainGlobals "InvalidNumber" = some (some (.ref xC7)))
    (xL7 : K.lookup xC7 = some (excClassObj xn7 xz7 xC7 xN7 xb7 [.ref xO7, .type "ValueError", .type "Exception", .type "BaseException", .type "object"] true xs7 xu7 xv7 xw7 xd7 xm0_7 xm1_7 xm2_7 xm3_7 xm5_7 "ValueError.__new__"))
    (xsa7 : PySem.W.findIn K (.ref xC7) "__setattr__" = some (some (.builtin "object.__setattr__"))) (xga7 : PySem.W.findIn K (.ref xC7) "__getattribute__" = some (some (.builtin "BaseException.__getattribute__"))) (xgg7 : PySem.W.findIn K (.ref xC7) "__getattr__" = some none) (xnb7 : PySem.W.findIn K (.ref xC7) "value" = some none)
    (xa17 : PySem.W.findIn K (.ref xC7) "__init__" = some (some (.ref xI7))) (xt17 : PySem.W.typeIn K (.ref xI7) = some (.type "function"))
    (xl17 : K.lookup xI7 = some ⟨xoc7, xod7, .func (PySem.W.fnOf "__init__" xq7 (defArgs s__init) (defBody s__init) (defScope s__init) .none xkV7 xdc7 xpm7 xan7 xcd7 xct7), xsl7⟩) (xc17 : PySem.W.codeIn K xcd7 xq7 = true) (xk17 : PySem.W.keepIn K (.ref xI7) = true)
    (xkC7 : PySem.W.keepIn K (.ref xC7) = true) (xeC7 : PySem.W.subIn K (.ref xC7) (.type "BaseException") = some true) (xtC7 : PySem.W.typeIn K (.ref xC7) = some (.type "type")) (xhC7 : PySem.W.hasDictIn K xC7 = true) (xiC7 : PySem.W.isClsIn K xC7 = true) (xsC7 : PySem.W.subIn K (.ref xC7) (.ref xC7) = some true)
    (xvV7 : PySem.W.findCls K (.type "ValueError") (.type "type") "__init__" = some (.val (.builtin "ValueError.__init__")))
    {xC8 xO8 xI8 : Addr} {xq8 xn8 xz8 : Str} {xN8 : Addr} {xb8 : List Value} {xs8 : List Str} {xu8 : List Value} {xv8 : Bool} {xw8 : Option Bool} {xd8 : Option Addr} {xm0_8 xm1_8 xm2_8 xm3_8 xm5_8 : Option Value} {xod8 xan8 : Option Addr} {xsl8 : Array (Option Value)} {xoc8 xkV8 xdc8 xpm8 xcd8 xct8 : Value}
    (xaC8 : PySem.W.nsIn K mainGlobals "InvalidPair" = some (some (.ref xC8)))
    (xL8 : K.lookup xC8 = some (excClassObj xn8 xz8 xC8 xN8 xb8 [.ref xO8, .type "ValueError", .type "Exception", .type "BaseException", .type "object"] true xs8 xu8 xv8 xw8 xd8 xm0_8 xm1_8 xm2_8 xm3_8 xm5_8 "ValueError.__new__"))
    (xsa8 : PySem.W.findIn K (.ref xC8) "__setattr__" = some (some (.builtin "object.__setattr__"))) (xga8 : PySem.W.findIn K (.ref xC8) "__getattribute__" = some (some (.builtin "BaseException.__getattribute__"))) (xgg8 : PySem.W.findIn K (.ref xC8) "__getattr__" = some none) (xnb8 : PySem.W.findIn K (.ref xC8) "value" = some none)
    (xa18 : PySem.W.findIn K (.ref xC8) "__init__" = some (some (.ref xI8))) (xt18 : PySem.W.typeIn K (.ref xI8) = some (.type "function"))
    (xl18 : K.lookup xI8 = some ⟨xoc8, xod8, .func (PySem.W.fnOf "__init__" xq8 (defArgs s__init) (defBody s__init) (defScope s__init) .none xkV8 xdc8 xpm8 xan8 xcd8 xct8), xsl8⟩) (xc18 : PySem.W.codeIn K xcd8 xq8 = true) (xk18 : PySem.W.keepIn K (.ref xI8) = true)
    (xkC8 : PySem.W.keepIn K (.ref xC8) = true) (xeC8 : PySem.W.subIn K (.ref xC8) (.type "BaseException") = some true) (xtC8 : PySem.W.typeIn K (.ref xC8) = some (.type "type")) (xhC8 : PySem.W.hasDictIn K xC8 = true) (xiC8 : PySem.W.isClsIn K xC8 = true) (xsC8 : PySem.W.subIn K (.ref xC8) (.ref xC8) = some true)
    (xvV8 : PySem.W.findCls K (.type "ValueError") (.type "type") "__init__" = some (.val (.builtin "ValueError.__init__")))
    {xC9 xO9 xI9 : Addr} {xq9 xn9 xz9 : Str} {xN9 : Addr} {xb9 : List Value} {xs9 : List Str} {xu9 : List Value} {xv9 : Bool} {xw9 : Option Bool} {xd9 : Option Addr} {xm0_9 xm1_9 xm2_9 xm3_9 xm5_9 : Option Value} {xod9 xan9 : Option Addr} {xsl9 : Array (Option Value)} {xoc9 xkV9 xdc9 xpm9 xcd9 xct9 : Value}
    (xaC9 : PySem.W.nsIn K mainGlobals "InvalidMachine" = some (some (.ref xC9)))
    (xL9 : K.lookup xC9 = some (excClassObj xn9 xz9 xC9 xN9 xb9 [.ref xO9, .type "ValueError", .type "Exception", .type "BaseException", .type "object"] true xs9 xu9 xv9 xw9 xd9 xm0_9 xm1_9 xm2_9 xm3_9 xm5_9 "ValueError.__new__"))
    (xsa9 : PySem.W.findIn K (.ref xC9) "__setattr__" = some (some (.builtin "object.__setattr__"))) (xga9 : PySem.W.findIn K (.ref xC9) "__getattribute__" = some (some (.builtin "BaseException.__getattribute__"))) (xgg9 : PySem.W.findIn K (.ref xC9) "__getattr__" = some none) (xnb9 : PySem.W.findIn K (.ref xC9) "value" = some none)
    (xa19 : PySem.W.findIn K (.ref xC9) "__init__" = some (some (.ref xI9))) (xt19 : PySem.W.typeIn K (.ref xI9) = some (.type "function"))
    (xl19 : K.lookup xI9 = some ⟨xoc9, xod9, .func (PySem.W.fnOf "__init__" xq9 (defArgs s__init) (defBody s__init) (defScope s__init) .none xkV9 xdc9 xpm9 xan9 xcd9 xct9), xsl9⟩) (xc19 : PySem.W.codeIn K xcd9 xq9 = true) (xk19 : PySem.W.keepIn K (.ref xI9) = true)
    (xkC9 : PySem.W.keepIn K (.ref xC9) = true) (xeC9 : PySem.W.subIn K (.ref xC9) (.type "BaseException") = some true) (xtC9 : PySem.W.typeIn K (.ref xC9) = some (.type "type")) (xhC9 : PySem.W.hasDictIn K xC9 = true) (xiC9 : PySem.W.isClsIn K xC9 = true) (xsC9 : PySem.W.subIn K (.ref xC9) (.ref xC9) = some true)
    (xvV9 : PySem.W.findCls K (.type "ValueError") (.type "type") "__init__" = some (.val (.builtin "ValueError.__init__")))
    {xC10 xO10 xI10 : Addr} {xq10 xn10 xz10 : Str} {xN10 : Addr} {xb10 : List Value} {xs10 : List Str} {xu10 : List Value} {xv10 : Bool} {xw10 : Option Bool} {xd10 : Option Addr} {xm0_10 xm1_10 xm2_10 xm3_10 xm5_10 : Option Value} {xod10 xan10 : Option Addr} {xsl10 : Array (Option Value)} {xoc10 xkV10 xdc10 xpm10 xcd10 xct10 : Value}
    (xaC10 : PySem.W.nsIn K mainGlobals "NoMachine" = some (some (.ref xC10)))
    (xL10 : K.lookup xC10 = some (excClassObj xn10 xz10 xC10 xN10 xb10 [.ref xO10, .type "ValueError", .type "Exception", .type "BaseException", .type "object"] true xs10 xu10 xv10 xw10 xd10 xm0_10 xm1_10 xm2_10 xm3_10 xm5_10 "ValueError.__new__"))
    (xsa10 : PySem.W.findIn K (.ref xC10) "__setattr__" = some (some (.builtin "object.__setattr__"))) (xga10 : PySem.W.findIn K (.ref xC10) "__getattribute__" = some (some (.builtin "BaseException.__getattribute__"))) (xgg10 : PySem.W.findIn K (.ref xC10) "__getattr__" = some none) (xnb10 : PySem.W.findIn K (.ref xC10) "value" = some none)
    (xa110 : PySem.W.findIn K (.ref xC10) "__init__" = some (some (.ref xI10))) (xt110 : PySem.W.typeIn K (.ref xI10) = some (.type "function"))
    (xl110 : K.lookup xI10 = some ⟨xoc10, xod10, .func (PySem.W.fnOf "__init__" xq10 (defArgs s__init) (defBody s__init) (defScope s__init) .none xkV10 xdc10 xpm10 xan10 xcd10 xct10), xsl10⟩) (xc110 : PySem.W.codeIn K xcd10 xq10 = true) (xk110 : PySem.W.keepIn K (.ref xI10) = true)
    (xkC10 : PySem.W.keepIn K (.ref xC10) = true) (xeC10 : PySem.W.subIn K (.ref xC10) (.type "BaseException") = some true) (xtC10 : PySem.W.typeIn K (.ref xC10) = some (.type "type")) (xhC10 : PySem.W.hasDictIn K xC10 = true) (xiC10 : PySem.W.isClsIn K xC10 = true) (xsC10 : PySem.W.subIn K (.ref xC10) (.ref xC10) = some true)
    (xvV10 : PySem.W.findCls K (.type "ValueError") (.type "type") "__init__" = some (.val (.builtin "ValueError.__init__")))
    {xC11 xO11 xI11 : Addr} {xq11 xn11 xz11 : Str} {xN11 : Addr} {xb11 : List Value} {xs11 : List Str} {xu11 : List Value} {xv11 : Bool} {xw11 : Option Bool} {xd11 : Option Addr} {xm0_11 xm1_11 xm2_11 xm3_11 xm5_11 : Option Value} {xod11 xan11 : Option Addr} {xsl11 : Array (Option Value)} {xoc11 xkV11 xdc11 xpm11 xcd11 xct11 : Value}
    (xaC11 : PySem.W.nsIn K mainGlobals "InvalidTape" = some (some (.ref xC11)))
    (xL11 : K.lookup xC11 = some (excClassObj xn11 xz11 xC11 xN11 xb11 [.ref xO11, .type "ValueError", .type "Exception", .type "BaseException", .type "object"] true xs11 xu11 xv11 xw11 xd11 xm0_11 xm1_11 xm2_11 xm3_11 xm5_11 "ValueError.__new__"))
    (xsa11 : PySem.W.findIn K (.ref xC11) "__setattr__" = some (some (.builtin "object.__setattr__"))) (xga11 : PySem.W.findIn K (.ref xC11) "__getattribute__" = some (some (.builtin "BaseException.__getattribute__"))) (xgg11 : PySem.W.findIn K (.ref xC11) "__getattr__" = some none) (xnb11 : PySem.W.findIn K (.ref xC11) "value" = some none)
    (xa111 : PySem.W.findIn K (.ref xC11) "__init__" = some (some (.ref xI11))) (xt111 : PySem.W.typeIn K (.ref xI11) = some (.type "function"))
    (xl111 : K.lookup xI11 = some ⟨xoc11, xod11, .func (PySem.W.fnOf "__init__" xq11 (defArgs s__init) (defBody s__init) (defScope s__init) .none xkV11 xdc11 xpm11 xan11 xcd11 xct11), xsl11⟩) (xc111 : PySem.W.codeIn K xcd11 xq11 = true) (xk111 : PySem.W.keepIn K (.ref xI11) = true)
    (xkC11 : PySem.W.keepIn K (.ref xC11) = true) (xeC11 : PySem.W.subIn K (.ref xC11) (.type "BaseException") = some true) (xtC11 : PySem.W.typeIn K (.ref xC11) = some (.type "type")) (xhC11 : PySem.W.hasDictIn K xC11 = true) (xiC11 : PySem.W.isClsIn K xC11 = true) (xsC11 : PySem.W.subIn K (.ref xC11) (.ref xC11) = some true)
    (xvV11 : PySem.W.findCls K (.type "ValueError") (.type "type") "__init__" = some (.val (.builtin "ValueError.__init__")))
    {xC12 xO12 xI12 : Addr} {xq12 xn12 xz12 : Str} {xN12 : Addr} {xb12 : List Value} {xs12 : List Str} {xu12 : List Value} {xv12 : Bool} {xw12 : Option Bool} {xd12 : Option Addr} {xm0_12 xm1_12 xm2_12 xm3_12 xm5_12 : Option Value} {xod12 xan12 : Option Addr} {xsl12 : Array (Option Value)} {xoc12 xkV12 xdc12 xpm12 xcd12 xct12 : Value}
    (xaC12 : PySem.W.nsIn K mainGlobals "InvalidSorter" = some (some (.ref xC12)))
    (xL12 : K.lookup xC12 = some (excClassObj xn12 xz12 xC12 xN12 xb12 [.ref xO12, .type "ValueError", .type "Exception", .type "BaseException", .type "object"] true xs12 xu12 xv12 xw12 xd12 xm0_12 xm1_12 xm2_12 xm3_12 xm5_12 "ValueError.__new__"))
    (xsa12 : PySem.W.findIn K (.ref xC12) "__setattr__" = some (some (.builtin "object.__setattr__"))) (xga12 : PySem.W.findIn K (.ref xC12) "__getattribute__" = some (some (.builtin "BaseException.__getattribute__"))) (xgg12 : PySem.W.findIn K (.ref xC12) "__getattr__" = some none) (xnb12 : PySem.W.findIn K (.ref xC12) "value" = some none)
    (xa112 : PySem.W.findIn K (.ref xC12) "__init__" = some (some (.ref xI12))) (xt112 : PySem.W.typeIn K (.ref xI12) = some (.type "function"))
    (xl112 : K.lookup xI12 = some ⟨xoc12, xod12, .func (PySem.W.fnOf "__init__" xq12 (defArgs s__init) (defBody s__init) (defScope s__init) .none xkV12 xdc12 xpm12 xan12 xcd12 xct12), xsl12⟩) (xc112 : PySem.W.codeIn K xcd12 xq12 = true) (xk112 : PySem.W.keepIn K (.ref xI12) = true)
    (xkC12 : PySem.W.keepIn K (.ref xC12) = true) (xeC12 : PySem.W.subIn K (.ref xC12) (.type "BaseException") = some true) (xtC12 : PySem.W.typeIn K (.ref xC12) = some (.type "type")) (xhC12 : PySem.W.hasDictIn K xC12 = true) (xiC12 : PySem.W.isClsIn K xC12 = true) (xsC12 : PySem.W.subIn K (.ref xC12) (.ref xC12) = some true)
    (xvV12 : PySem.W.findCls K (.type "ValueError") (.type "type") "__init__" = some (.val (.builtin "ValueError.__init__")))
    {xC13 xO13 xI13 : Addr} {xq13 xn13 xz13 : Str} {xN13 : Addr} {xb13 : List Value} {xs13 : List Str} {xu13 : List Value} {xv13 : Bool} {xw13 : Option Bool} {xd13 : Option Addr} {xm0_13 xm1_13 xm2_13 xm3_13 xm5_13 : Option Value} {xod13 xan13 : Option Addr} {xsl13 : Array (Option Value)} {xoc13 xkV13 xdc13 xpm13 xcd13 xct13 : Value}
    (xaC13 : PySem.W.nsIn K mainGlobals "InvalidSaying" = some (some (.ref xC13)))
    (xL13 : K.lookup xC13 = some (excClassObj xn13 xz13 xC13 xN13 xb13 [.ref xO13, .type "ValueError", .type "Exception", .type "BaseException", .type "object"] true xs13 xu13 xv13 xw13 xd13 xm0_13 xm1_13 xm2_13 xm3_13 xm5_13 "ValueError.__new__"))
    (xsa13 : PySem.W.findIn K (.ref xC13) "__setattr__" = some (some (.builtin "object.__setattr__"))) (xga13 : PySem.W.findIn K (.ref xC13) "__getattribute__" = some (some (.builtin "BaseException.__getattribute__"))) (xgg13 : PySem.W.findIn K (.ref xC13) "__getattr__" = some none) (xnb13 : PySem.W.findIn K (.ref xC13) "value" = some none)
    (xa113 : PySem.W.findIn K (.ref xC13) "__init__" = some (some (.ref xI13))) (xt113 : PySem.W.typeIn K (.ref xI13) = some (.type "function"))
    (xl113 : K.lookup xI13 = some ⟨xoc13, xod13, .func (PySem.W.fnOf "__init__" xq13 (defArgs s__init) (defBody s__init) (defScope s__init) .none xkV13 xdc13 xpm13 xan13 xcd13 xct13), xsl13⟩) (xc113 : PySem.W.codeIn K xcd13 xq13 = true) (xk113 : PySem.W.keepIn K (.ref xI13) = true)
    (xkC13 : PySem.W.keepIn K (.ref xC13) = true) (xeC13 : PySem.W.subIn K (.ref xC13) (.type "BaseException") = some true) (xtC13 : PySem.W.typeIn K (.ref xC13) = some (.type "type")) (xhC13 : PySem.W.hasDictIn K xC13 = true) (xiC13 : PySem.W.isClsIn K xC13 = true) (xsC13 : PySem.W.subIn K (.ref xC13) (.ref xC13) = some true)
    (xvV13 : PySem.W.findCls K (.type "ValueError") (.type "type") "__init__" = some (.val (.builtin "ValueError.__init__")))
    {xC14 xO14 xI14 : Addr} {xq14 xn14 xz14 : Str} {xN14 : Addr} {xb14 : List Value} {xs14 : List Str} {xu14 : List Value} {xv14 : Bool} {xw14 : Option Bool} {xd14 : Option Addr} {xm0_14 xm1_14 xm2_14 xm3_14 xm5_14 : Option Value} {xod14 xan14 : Option Addr} {xsl14 : Array (Option Value)} {xoc14 xkV14 xdc14 xpm14 xcd14 xct14 : Value}
    (xaC14 : PySem.W.nsIn K mainGlobals "InvalidName" = some (some (.ref xC14)))
    (xL14 : K.lookup xC14 = some (excClassObj xn14 xz14 xC14 xN14 xb14 [.ref xO14, .type "ValueError", .type "Exception", .type "BaseException", .type "object"] true xs14 xu14 xv14 xw14 xd14 xm0_14 xm1_14 xm2_14 xm3_14 xm5_14 "ValueError.__new__"))
    (xsa14 : PySem.W.findIn K (.ref xC14) "__setattr__" = some (some (.builtin "object.__setattr__"))) (xga14 : PySem.W.findIn K (.ref xC14) "__getattribute__" = some (some (.builtin "BaseException.__getattribute__"))) (xgg14 : PySem.W.findIn K (.ref xC14) "__getattr__" = some none) (xnb14 : PySem.W.findIn K (.ref xC14) "value" = some none)
    (xa114 : PySem.W.findIn K (.ref xC14) "__init__" = some (some (.ref xI14))) (xt114 : PySem.W.typeIn K (.ref xI14) = some (.type "function"))
    (xl114 : K.lookup xI14 = some ⟨xoc14, xod14, .func (PySem.W.fnOf "__init__" xq14 (defArgs s__init) (defBody s__init) (defScope s__init) .none xkV14 xdc14 xpm14 xan14 xcd14 xct14), xsl14⟩) (xc114 : PySem.W.codeIn K xcd14 xq14 = true) (xk114 : PySem.W.keepIn K (.ref xI14) = true)
    (xkC14 : PySem.W.keepIn K (.ref xC14) = true) (xeC14 : PySem.W.subIn K (.ref xC14) (.type "BaseException") = some true) (xtC14 : PySem.W.typeIn K (.ref xC14) = some (.type "type")) (xhC14 : PySem.W.hasDictIn K xC14 = true) (xiC14 : PySem.W.isClsIn K xC14 = true) (xsC14 : PySem.W.subIn K (.ref xC14) (.ref xC14) = some true)
    (xvV14 : PySem.W.findCls K (.type "ValueError") (.type "type") "__init__" = some (.val (.builtin "ValueError.__init__")))
    {xC15 xO15 xI15 : Addr} {xq15 xn15 xz15 : Str} {xN15 : Addr} {xb15 : List Value} {xs15 : List Str} {xu15 : List Value} {xv15 : Bool} {xw15 : Option Bool} {xd15 : Option Addr} {xm0_15 xm1_15 xm2_15 xm3_15 xm5_15 : Option Value} {xod15 xan15 : Option Addr} {xsl15 : Array (Option Value)} {xoc15 xkV15 xdc15 xpm15 xcd15 xct15 : Value}
    (xaC15 : PySem.W.nsIn K mainGlobals "NotLet" = some (some (.ref xC15)))
    (xL15 : K.lookup xC15 = some (excClassObj xn15 xz15 xC15 xN15 xb15 [.ref xO15, .type "ValueError", .type "Exception", .type "BaseException", .type "object"] true xs15 xu15 xv15 xw15 xd15 xm0_15 xm1_15 xm2_15 xm3_15 xm5_15 "ValueError.__new__"))
    (xsa15 : PySem.W.findIn K (.ref xC15) "__setattr__" = some (some (.builtin "object.__setattr__"))) (xga15 : PySem.W.findIn K (.ref xC15) "__getattribute__" = some (some (.builtin "BaseException.__getattribute__"))) (xgg15 : PySem.W.findIn K (.ref xC15) "__getattr__" = some none) (xnb15 : PySem.W.findIn K (.ref xC15) "value" = some none)
    (xa115 : PySem.W.findIn K (.ref xC15) "__init__" = some (some (.ref xI15))) (xt115 : PySem.W.typeIn K (.ref xI15) = some (.type "function"))
    (xl115 : K.lookup xI15 = some ⟨xoc15, xod15, .func (PySem.W.fnOf "__init__" xq15 (defArgs s__init) (defBody s__init) (defScope s__init) .none xkV15 xdc15 xpm15 xan15 xcd15 xct15), xsl15⟩) (xc115 : PySem.W.codeIn K xcd15 xq15 = true) (xk115 : PySem.W.keepIn K (.ref xI15) = true)
    (xkC15 : PySem.W.keepIn K (.ref xC15) = true) (xeC15 : PySem.W.subIn K (.ref xC15) (.type "BaseException") = some true) (xtC15 : PySem.W.typeIn K (.ref xC15) = some (.type "type")) (xhC15 : PySem.W.hasDictIn K xC15 = true) (xiC15 : PySem.W.isClsIn K xC15 = true) (xsC15 : PySem.W.subIn K (.ref xC15) (.ref xC15) = some true)
    (xvV15 : PySem.W.findCls K (.type "ValueError") (.type "type") "__init__" = some (.val (.builtin "ValueError.__init__")))
    {xC16 xO16 xI16 : Addr} {xq16 xn16 xz16 : Str} {xN16 : Addr} {xb16 : List Value} {xs16 : List Str} {xu16 : List Value} {xv16 : Bool} {xw16 : Option Bool} {xd16 : Option Addr} {xm0_16 xm1_16 xm2_16 xm3_16 xm5_16 : Option Value} {xod16 xan16 : Option Addr} {xsl16 : Array (Option Value)} {xoc16 xkV16 xdc16 xpm16 xcd16 xct16 : Value}
    (xaC16 : PySem.W.nsIn K mainGlobals "UnknownName" = some (some (.ref xC16)))
    (xL16 : K.lookup xC16 = some (excClassObj xn16 xz16 xC16 xN16 xb16 [.ref xO16, .type "ValueError", .type "Exception", .type "BaseException", .type "object"] true xs16 xu16 xv16 xw16 xd16 xm0_16 xm1_16 xm2_16 xm3_16 xm5_16 "ValueError.__new__"))
    (xsa16 : PySem.W.findIn K (.ref xC16) "__setattr__" = some (some (.builtin "object.__setattr__"))) (xga16 : PySem.W.findIn K (.ref xC16) "__getattribute__" = some (some (.builtin "BaseException.__getattribute__"))) (xgg16 : PySem.W.findIn K (.ref xC16) "__getattr__" = some none) (xnb16 : PySem.W.findIn K (.ref xC16) "value" = some none)
    (xa116 : PySem.W.findIn K (.ref xC16) "__init__" = some (some (.ref xI16))) (xt116 : PySem.W.typeIn K (.ref xI16) = some (.type "function"))
    (xl116 : K.lookup xI16 = some ⟨xoc16, xod16, .func (PySem.W.fnOf "__init__" xq16 (defArgs s__init) (defBody s__init) (defScope s__init) .none xkV16 xdc16 xpm16 xan16 xcd16 xct16), xsl16⟩) (xc116 : PySem.W.codeIn K xcd16 xq16 = true) (xk116 : PySem.W.keepIn K (.ref xI16) = true)
    (xkC16 : PySem.W.keepIn K (.ref xC16) = true) (xeC16 : PySem.W.subIn K (.ref xC16) (.type "BaseException") = some true) (xtC16 : PySem.W.typeIn K (.ref xC16) = some (.type "type")) (xhC16 : PySem.W.hasDictIn K xC16 = true) (xiC16 : PySem.W.isClsIn K xC16 = true) (xsC16 : PySem.W.subIn K (.ref xC16) (.ref xC16) = some true)
    (xvV16 : PySem.W.findCls K (.type "ValueError") (.type "type") "__init__" = some (.val (.builtin "ValueError.__init__")))
    {xC17 xO17 xI17 : Addr} {xq17 xn17 xz17 : Str} {xN17 : Addr} {xb17 : List Value} {xs17 : List Str} {xu17 : List Value} {xv17 : Bool} {xw17 : Option Bool} {xd17 : Option Addr} {xm0_17 xm1_17 xm2_17 xm3_17 xm5_17 : Option Value} {xod17 xan17 : Option Addr} {xsl17 : Array (Option Value)} {xoc17 xkV17 xdc17 xpm17 xcd17 xct17 : Value}
    (xaC17 : PySem.W.nsIn K mainGlobals "NothingToUndo" = some (some (.ref xC17)))
    (xL17 : K.lookup xC17 = some (excClassObj xn17 xz17 xC17 xN17 xb17 [.ref xO17, .type "ValueError", .type "Exception", .type "BaseException", .type "object"] true xs17 xu17 xv17 xw17 xd17 xm0_17 xm1_17 xm2_17 xm3_17 xm5_17 "ValueError.__new__"))
    (xsa17 : PySem.W.findIn K (.ref xC17) "__setattr__" = some (some (.builtin "object.__setattr__"))) (xga17 : PySem.W.findIn K (.ref xC17) "__getattribute__" = some (some (.builtin "BaseException.__getattribute__"))) (xgg17 : PySem.W.findIn K (.ref xC17) "__getattr__" = some none) (xnb17 : PySem.W.findIn K (.ref xC17) "value" = some none)
    (xa117 : PySem.W.findIn K (.ref xC17) "__init__" = some (some (.ref xI17))) (xt117 : PySem.W.typeIn K (.ref xI17) = some (.type "function"))
    (xl117 : K.lookup xI17 = some ⟨xoc17, xod17, .func (PySem.W.fnOf "__init__" xq17 (defArgs s__init) (defBody s__init) (defScope s__init) .none xkV17 xdc17 xpm17 xan17 xcd17 xct17), xsl17⟩) (xc117 : PySem.W.codeIn K xcd17 xq17 = true) (xk117 : PySem.W.keepIn K (.ref xI17) = true)
    (xkC17 : PySem.W.keepIn K (.ref xC17) = true) (xeC17 : PySem.W.subIn K (.ref xC17) (.type "BaseException") = some true) (xtC17 : PySem.W.typeIn K (.ref xC17) = some (.type "type")) (xhC17 : PySem.W.hasDictIn K xC17 = true) (xiC17 : PySem.W.isClsIn K xC17 = true) (xsC17 : PySem.W.subIn K (.ref xC17) (.ref xC17) = some true)
    (xvV17 : PySem.W.findCls K (.type "ValueError") (.type "type") "__init__" = some (.val (.builtin "ValueError.__init__")))
    {xC18 xO18 xI18 : Addr} {xq18 xn18 xz18 : Str} {xN18 : Addr} {xb18 : List Value} {xs18 : List Str} {xu18 : List Value} {xv18 : Bool} {xw18 : Option Bool} {xd18 : Option Addr} {xm0_18 xm1_18 xm2_18 xm3_18 xm5_18 : Option Value} {xod18 xan18 : Option Addr} {xsl18 : Array (Option Value)} {xoc18 xkV18 xdc18 xpm18 xcd18 xct18 : Value}
    (xaC18 : PySem.W.nsIn K mainGlobals "Unreadable" = some (some (.ref xC18)))
    (xL18 : K.lookup xC18 = some (excClassObj xn18 xz18 xC18 xN18 xb18 [.ref xO18, .type "ValueError", .type "Exception", .type "BaseException", .type "object"] true xs18 xu18 xv18 xw18 xd18 xm0_18 xm1_18 xm2_18 xm3_18 xm5_18 "ValueError.__new__"))
    (xsa18 : PySem.W.findIn K (.ref xC18) "__setattr__" = some (some (.builtin "object.__setattr__"))) (xga18 : PySem.W.findIn K (.ref xC18) "__getattribute__" = some (some (.builtin "BaseException.__getattribute__"))) (xgg18 : PySem.W.findIn K (.ref xC18) "__getattr__" = some none) (xnb18 : PySem.W.findIn K (.ref xC18) "value" = some none)
    (xa118 : PySem.W.findIn K (.ref xC18) "__init__" = some (some (.ref xI18))) (xt118 : PySem.W.typeIn K (.ref xI18) = some (.type "function"))
    (xl118 : K.lookup xI18 = some ⟨xoc18, xod18, .func (PySem.W.fnOf "__init__" xq18 (defArgs s__init) (defBody s__init) (defScope s__init) .none xkV18 xdc18 xpm18 xan18 xcd18 xct18), xsl18⟩) (xc118 : PySem.W.codeIn K xcd18 xq18 = true) (xk118 : PySem.W.keepIn K (.ref xI18) = true)
    (xkC18 : PySem.W.keepIn K (.ref xC18) = true) (xeC18 : PySem.W.subIn K (.ref xC18) (.type "BaseException") = some true) (xtC18 : PySem.W.typeIn K (.ref xC18) = some (.type "type")) (xhC18 : PySem.W.hasDictIn K xC18 = true) (xiC18 : PySem.W.isClsIn K xC18 = true) (xsC18 : PySem.W.subIn K (.ref xC18) (.ref xC18) = some true)
    (xvV18 : PySem.W.findCls K (.type "ValueError") (.type "type") "__init__" = some (.val (.builtin "ValueError.__init__")))
    {xC19 xO19 xI19 : Addr} {xq19 xn19 xz19 : Str} {xN19 : Addr} {xb19 : List Value} {xs19 : List Str} {xu19 : List Value} {xv19 : Bool} {xw19 : Option Bool} {xd19 : Option Addr} {xm0_19 xm1_19 xm2_19 xm3_19 xm5_19 : Option Value} {xod19 xan19 : Option Addr} {xsl19 : Array (Option Value)} {xoc19 xkV19 xdc19 xpm19 xcd19 xct19 : Value}
    (xaC19 : PySem.W.nsIn K mainGlobals "Unorderly" = some (some (.ref xC19)))
    (xL19 : K.lookup xC19 = some (excClassObj xn19 xz19 xC19 xN19 xb19 [.ref xO19, .type "ValueError", .type "Exception", .type "BaseException", .type "object"] true xs19 xu19 xv19 xw19 xd19 xm0_19 xm1_19 xm2_19 xm3_19 xm5_19 "ValueError.__new__"))
    (xsa19 : PySem.W.findIn K (.ref xC19) "__setattr__" = some (some (.builtin "object.__setattr__"))) (xga19 : PySem.W.findIn K (.ref xC19) "__getattribute__" = some (some (.builtin "BaseException.__getattribute__"))) (xgg19 : PySem.W.findIn K (.ref xC19) "__getattr__" = some none) (xnb19 : PySem.W.findIn K (.ref xC19) "value" = some none)
    (xa119 : PySem.W.findIn K (.ref xC19) "__init__" = some (some (.ref xI19))) (xt119 : PySem.W.typeIn K (.ref xI19) = some (.type "function"))
    (xl119 : K.lookup xI19 = some ⟨xoc19, xod19, .func (PySem.W.fnOf "__init__" xq19 (defArgs s__init) (defBody s__init) (defScope s__init) .none xkV19 xdc19 xpm19 xan19 xcd19 xct19), xsl19⟩) (xc119 : PySem.W.codeIn K xcd19 xq19 = true) (xk119 : PySem.W.keepIn K (.ref xI19) = true)
    (xkC19 : PySem.W.keepIn K (.ref xC19) = true) (xeC19 : PySem.W.subIn K (.ref xC19) (.type "BaseException") = some true) (xtC19 : PySem.W.typeIn K (.ref xC19) = some (.type "type")) (xhC19 : PySem.W.hasDictIn K xC19 = true) (xiC19 : PySem.W.isClsIn K xC19 = true) (xsC19 : PySem.W.subIn K (.ref xC19) (.ref xC19) = some true)
    (xvV19 : PySem.W.findCls K (.type "ValueError") (.type "type") "__init__" = some (.val (.builtin "ValueError.__init__")))
    {xC20 xI20 : Addr} {xq20 xn20 xz20 : Str} {xN20 : Addr} {xb20 : List Value} {xs20 : List Str} {xu20 : List Value} {xv20 : Bool} {xw20 : Option Bool} {xd20 : Option Addr} {xm0_20 xm1_20 xm2_20 xm3_20 xm5_20 : Option Value} {xod20 xan20 : Option Addr} {xsl20 : Array (Option Value)} {xoc20 xkV20 xdc20 xpm20 xcd20 xct20 : Value}
    (xaC20 : PySem.W.nsIn K mainGlobals "OrderError" = some (some (.ref xC20)))
    (xL20 : K.lookup xC20 = some (excClassObj xn20 xz20 xC20 xN20 xb20 [.type "ValueError", .type "Exception", .type "BaseException", .type "object"] true xs20 xu20 xv20 xw20 xd20 xm0_20 xm1_20 xm2_20 xm3_20 xm5_20 "ValueError.__new__"))
    (xsa20 : PySem.W.findIn K (.ref xC20) "__setattr__" = some (some (.builtin "object.__setattr__"))) (xga20 : PySem.W.findIn K (.ref xC20) "__getattribute__" = some (some (.builtin "BaseException.__getattribute__"))) (xgg20 : PySem.W.findIn K (.ref xC20) "__getattr__" = some none) (xnb20 : PySem.W.findIn K (.ref xC20) "value" = some none)
    (xa120 : PySem.W.findIn K (.ref xC20) "__init__" = some (some (.ref xI20))) (xt120 : PySem.W.typeIn K (.ref xI20) = some (.type "function"))
    (xl120 : K.lookup xI20 = some ⟨xoc20, xod20, .func (PySem.W.fnOf "__init__" xq20 (defArgs s__init) (defBody s__init) (defScope s__init) .none xkV20 xdc20 xpm20 xan20 xcd20 xct20), xsl20⟩) (xc120 : PySem.W.codeIn K xcd20 xq20 = true) (xk120 : PySem.W.keepIn K (.ref xI20) = true)
    (xkC20 : PySem.W.keepIn K (.ref xC20) = true) (xeC20 : PySem.W.subIn K (.ref xC20) (.type "BaseException") = some true) (xtC20 : PySem.W.typeIn K (.ref xC20) = some (.type "type")) (xhC20 : PySem.W.hasDictIn K xC20 = true) (xiC20 : PySem.W.isClsIn K xC20 = true) (xsC20 : PySem.W.subIn K (.ref xC20) (.ref xC20) = some true)
    (xvV20 : PySem.W.findCls K (.type "ValueError") (.type "type") "__init__" = some (.val (.builtin "ValueError.__init__")))
    (xgn : PySem.W.specialIn K (.builtin "object.__class__") "__get__" = some (some (.builtin "getset_descriptor.__get__"))) (xtk : PySem.W.takesIn K (.builtin "object.__class__") = some true)
    {yC0 : Addr} (ya0 : PySem.W.nsIn K mainGlobals "InvalidForm" = some (some (.ref yC0))) (yi0 : PySem.W.isClsIn K yC0 = true) (yt0 : PySem.W.typeIn K (.ref yC0) = some (.type "type")) (ys0 : PySem.W.subIn K (.ref yC0) (.ref yC0) = some true) (ye0 : PySem.W.subIn K (.ref yC0) (.type "BaseException") = some true)
    {yC1 : Addr} (ya1 : PySem.W.nsIn K mainGlobals "InvalidKind" = some (some (.ref yC1))) (yi1 : PySem.W.isClsIn K yC1 = true) (yt1 : PySem.W.typeIn K (.ref yC1) = some (.type "type")) (ys1 : PySem.W.subIn K (.ref yC1) (.ref yC1) = some true) (ye1 : PySem.W.subIn K (.ref yC1) (.type "BaseException") = some true)
    {yC2 : Addr} (ya2 : PySem.W.nsIn K mainGlobals "InvalidLetter" = some (some (.ref yC2))) (yi2 : PySem.W.isClsIn K yC2 = true) (yt2 : PySem.W.typeIn K (.ref yC2) = some (.type "type")) (ys2 : PySem.W.subIn K (.ref yC2) (.ref yC2) = some true) (ye2 : PySem.W.subIn K (.ref yC2) (.type "BaseException") = some true)
    {yC3 : Addr} (ya3 : PySem.W.nsIn K mainGlobals "InvalidList" = some (some (.ref yC3))) (yi3 : PySem.W.isClsIn K yC3 = true) (yt3 : PySem.W.typeIn K (.ref yC3) = some (.type "type")) (ys3 : PySem.W.subIn K (.ref yC3) (.ref yC3) = some true) (ye3 : PySem.W.subIn K (.ref yC3) (.type "BaseException") = some true)
    {yC4 : Addr} (ya4 : PySem.W.nsIn K mainGlobals "InvalidMachine" = some (some (.ref yC4))) (yi4 : PySem.W.isClsIn K yC4 = true) (yt4 : PySem.W.typeIn K (.ref yC4) = some (.type "type")) (ys4 : PySem.W.subIn K (.ref yC4) (.ref yC4) = some true) (ye4 : PySem.W.subIn K (.ref yC4) (.type "BaseException") = some true)
    {yC5 : Addr} (ya5 : PySem.W.nsIn K mainGlobals "InvalidName" = some (some (.ref yC5))) (yi5 : PySem.W.isClsIn K yC5 = true) (yt5 : PySem.W.typeIn K (.ref yC5) = some (.type "type")) (ys5 : PySem.W.subIn K (.ref yC5) (.ref yC5) = some true) (ye5 : PySem.W.subIn K (.ref yC5) (.type "BaseException") = some true)
    {yC6 : Addr} (ya6 : PySem.W.nsIn K mainGlobals "InvalidNumber" = some (some (.ref yC6))) (yi6 : PySem.W.isClsIn K yC6 = true) (yt6 : PySem.W.typeIn K (.ref yC6) = some (.type "type")) (ys6 : PySem.W.subIn K (.ref yC6) (.ref yC6) = some true) (ye6 : PySem.W.subIn K (.ref yC6) (.type "BaseException") = some true)
    {yC7 : Addr} (ya7 : PySem.W.nsIn K mainGlobals "InvalidOrder" = some (some (.ref yC7))) (yi7 : PySem.W.isClsIn K yC7 = true) (yt7 : PySem.W.typeIn K (.ref yC7) = some (.type "type")) (ys7 : PySem.W.subIn K (.ref yC7) (.ref yC7) = some true) (ye7 : PySem.W.subIn K (.ref yC7) (.type "BaseException") = some true)
    {yC8 : Addr} (ya8 : PySem.W.nsIn K mainGlobals "InvalidPair" = some (some (.ref yC8))) (yi8 : PySem.W.isClsIn K yC8 = true) (yt8 : PySem.W.typeIn K (.ref yC8) = some (.type "type")) (ys8 : PySem.W.subIn K (.ref yC8) (.ref yC8) = some true) (ye8 : PySem.W.subIn K (.ref yC8) (.type "BaseException") = some true)
    {yC9 : Addr} (ya9 : PySem.W.nsIn K mainGlobals "InvalidPattern" = some (some (.ref yC9))) (yi9 : PySem.W.isClsIn K yC9 = true) (yt9 : PySem.W.typeIn K (.ref yC9) = some (.type "type")) (ys9 : PySem.W.subIn K (.ref yC9) (.ref yC9) = some true) (ye9 : PySem.W.subIn K (.ref yC9) (.type "BaseException") = some true)
    {yC10 : Addr} (ya10 : PySem.W.nsIn K mainGlobals "InvalidSaying" = some (some (.ref yC10))) (yi10 : PySem.W.isClsIn K yC10 = true) (yt10 : PySem.W.typeIn K (.ref yC10) = some (.type "type")) (ys10 : PySem.W.subIn K (.ref yC10) (.ref yC10) = some true) (ye10 : PySem.W.subIn K (.ref yC10) (.type "BaseException") = some true)
    {yC11 : Addr} (ya11 : PySem.W.nsIn K mainGlobals "InvalidSorter" = some (some (.ref yC11))) (yi11 : PySem.W.isClsIn K yC11 = true) (yt11 : PySem.W.typeIn K (.ref yC11) = some (.type "type")) (ys11 : PySem.W.subIn K (.ref yC11) (.ref yC11) = some true) (ye11 : PySem.W.subIn K (.ref yC11) (.type "BaseException") = some true)
    {yC12 : Addr} (ya12 : PySem.W.nsIn K mainGlobals "InvalidTape" = some (some (.ref yC12))) (yi12 : PySem.W.isClsIn K yC12 = true) (yt12 : PySem.W.typeIn K (.ref yC12) = some (.type "type")) (ys12 : PySem.W.subIn K (.ref yC12) (.ref yC12) = some true) (ye12 : PySem.W.subIn K (.ref yC12) (.type "BaseException") = some true)
    {yC13 : Addr} (ya13 : PySem.W.nsIn K mainGlobals "InvalidWord" = some (some (.ref yC13))) (yi13 : PySem.W.isClsIn K yC13 = true) (yt13 : PySem.W.typeIn K (.ref yC13) = some (.type "type")) (ys13 : PySem.W.subIn K (.ref yC13) (.ref yC13) = some true) (ye13 : PySem.W.subIn K (.ref yC13) (.type "BaseException") = some true)
    {yC14 : Addr} (ya14 : PySem.W.nsIn K mainGlobals "NoMachine" = some (some (.ref yC14))) (yi14 : PySem.W.isClsIn K yC14 = true) (yt14 : PySem.W.typeIn K (.ref yC14) = some (.type "type")) (ys14 : PySem.W.subIn K (.ref yC14) (.ref yC14) = some true) (ye14 : PySem.W.subIn K (.ref yC14) (.type "BaseException") = some true)
    {yC15 : Addr} (ya15 : PySem.W.nsIn K mainGlobals "NotLet" = some (some (.ref yC15))) (yi15 : PySem.W.isClsIn K yC15 = true) (yt15 : PySem.W.typeIn K (.ref yC15) = some (.type "type")) (ys15 : PySem.W.subIn K (.ref yC15) (.ref yC15) = some true) (ye15 : PySem.W.subIn K (.ref yC15) (.type "BaseException") = some true)
    {yC16 : Addr} (ya16 : PySem.W.nsIn K mainGlobals "NothingToUndo" = some (some (.ref yC16))) (yi16 : PySem.W.isClsIn K yC16 = true) (yt16 : PySem.W.typeIn K (.ref yC16) = some (.type "type")) (ys16 : PySem.W.subIn K (.ref yC16) (.ref yC16) = some true) (ye16 : PySem.W.subIn K (.ref yC16) (.type "BaseException") = some true)
    {yC17 : Addr} (ya17 : PySem.W.nsIn K mainGlobals "OrderError" = some (some (.ref yC17))) (yi17 : PySem.W.isClsIn K yC17 = true) (yt17 : PySem.W.typeIn K (.ref yC17) = some (.type "type")) (ys17 : PySem.W.subIn K (.ref yC17) (.ref yC17) = some true) (ye17 : PySem.W.subIn K (.ref yC17) (.type "BaseException") = some true)
    {yC18 : Addr} (ya18 : PySem.W.nsIn K mainGlobals "UnknownName" = some (some (.ref yC18))) (yi18 : PySem.W.isClsIn K yC18 = true) (yt18 : PySem.W.typeIn K (.ref yC18) = some (.type "type")) (ys18 : PySem.W.subIn K (.ref yC18) (.ref yC18) = some true) (ye18 : PySem.W.subIn K (.ref yC18) (.type "BaseException") = some true)
    {yC19 : Addr} (ya19 : PySem.W.nsIn K mainGlobals "Unorderly" = some (some (.ref yC19))) (yi19 : PySem.W.isClsIn K yC19 = true) (yt19 : PySem.W.typeIn K (.ref yC19) = some (.type "type")) (ys19 : PySem.W.subIn K (.ref yC19) (.ref yC19) = some true) (ye19 : PySem.W.subIn K (.ref yC19) (.type "BaseException") = some true)
    {yC20 : Addr} (ya20 : PySem.W.nsIn K mainGlobals "Unreadable" = some (some (.ref yC20))) (yi20 : PySem.W.isClsIn K yC20 = true) (yt20 : PySem.W.typeIn K (.ref yC20) = some (.type "type")) (ys20 : PySem.W.subIn K (.ref yC20) (.ref yC20) = some true) (ye20 : PySem.W.subIn K (.ref yC20) (.type "BaseException") = some true)
    (xcl0 : PySem.W.findIn K (.ref xC0) "__class__" = some (some (.builtin "object.__class__"))) (xmo0 : PySem.W.subIn K (.ref xC0) (.type "object") = some true)
    (xyb0_ValueError : PySem.W.subIn K (.ref xC0) (.type "ValueError") = some true)
    (xyp0_0 : PySem.W.subIn K (.ref xC0) (.ref yC0) = some false)
    (xyp0_1 : PySem.W.subIn K (.ref xC0) (.ref yC1) = some false)
    (xyp0_2 : PySem.W.subIn K (.ref xC0) (.ref yC2) = some false)
    (xyp0_3 : PySem.W.subIn K (.ref xC0) (.ref yC3) = some false)
    (xyp0_4 : PySem.W.subIn K (.ref xC0) (.ref yC4) = some false)
    (xyp0_5 : PySem.W.subIn K (.ref xC0) (.ref yC5) = some false)
    (xyp0_6 : PySem.W.subIn K (.ref xC0) (.ref yC6) = some false)
    (xyp0_7 : PySem.W.subIn K (.ref xC0) (.ref yC7) = some true)
    (xyp0_8 : PySem.W.subIn K (.ref xC0) (.ref yC8) = some false)
    (xyp0_9 : PySem.W.subIn K (.ref xC0) (.ref yC9) = some false)
    (xyp0_10 : PySem.W.subIn K (.ref xC0) (.ref yC10) = some false)
    (xyp0_11 : PySem.W.subIn K (.ref xC0) (.ref yC11) = some false)
    (xyp0_12 : PySem.W.subIn K (.ref xC0) (.ref yC12) = some false)
    (xyp0_13 : PySem.W.subIn K (.ref xC0) (.ref yC13) = some false)
    (xyp0_14 : PySem.W.subIn K (.ref xC0) (.ref yC14) = some false)
    (xyp0_15 : PySem.W.subIn K (.ref xC0) (.ref yC15) = some false)
    (xyp0_16 : PySem.W.subIn K (.ref xC0) (.ref yC16) = some false)
    (xyp0_17 : PySem.W.subIn K (.ref xC0) (.ref yC17) = some true)
    (xyp0_18 : PySem.W.subIn K (.ref xC0) (.ref yC18) = some false)
    (xyp0_19 : PySem.W.subIn K (.ref xC0) (.ref yC19) = some false)
    (xyp0_20 : PySem.W.subIn K (.ref xC0) (.ref yC20) = some false)
    (xcl1 : PySem.W.findIn K (.ref xC1) "__class__" = some (some (.builtin "object.__class__"))) (xmo1 : PySem.W.subIn K (.ref xC1) (.type "object") = some true)
    (xyb1_ValueError : PySem.W.subIn K (.ref xC1) (.type "ValueError") = some true)
    (xyp1_0 : PySem.W.subIn K (.ref xC1) (.ref yC0) = some false)
    (xyp1_1 : PySem.W.subIn K (.ref xC1) (.ref yC1) = some false)
    (xyp1_2 : PySem.W.subIn K (.ref xC1) (.ref yC2) = some false)
    (xyp1_3 : PySem.W.subIn K (.ref xC1) (.ref yC3) = some false)
    (xyp1_4 : PySem.W.subIn K (.ref xC1) (.ref yC4) = some false)
    (xyp1_5 : PySem.W.subIn K (.ref xC1) (.ref yC5) = some false)
    (xyp1_6 : PySem.W.subIn K (.ref xC1) (.ref yC6) = some false)
    (xyp1_7 : PySem.W.subIn K (.ref xC1) (.ref yC7) = some false)
    (xyp1_8 : PySem.W.subIn K (.ref xC1) (.ref yC8) = some false)
    (xyp1_9 : PySem.W.subIn K (.ref xC1) (.ref yC9) = some true)
    (xyp1_10 : PySem.W.subIn K (.ref xC1) (.ref yC10) = some false)
    (xyp1_11 : PySem.W.subIn K (.ref xC1) (.ref yC11) = some false)
    (xyp1_12 : PySem.W.subIn K (.ref xC1) (.ref yC12) = some false)
    (xyp1_13 : PySem.W.subIn K (.ref xC1) (.ref yC13) = some false)
    (xyp1_14 : PySem.W.subIn K (.ref xC1) (.ref yC14) = some false)
    (xyp1_15 : PySem.W.subIn K (.ref xC1) (.ref yC15) = some false)
    (xyp1_16 : PySem.W.subIn K (.ref xC1) (.ref yC16) = some false)
    (xyp1_17 : PySem.W.subIn K (.ref xC1) (.ref yC17) = some true)
    (xyp1_18 : PySem.W.subIn K (.ref xC1) (.ref yC18) = some false)
    (xyp1_19 : PySem.W.subIn K (.ref xC1) (.ref yC19) = some false)
    (xyp1_20 : PySem.W.subIn K (.ref xC1) (.ref yC20) = some false)
    (xcl2 : PySem.W.findIn K (.ref xC2) "__class__" = some (some (.builtin "object.__class__"))) (xmo2 : PySem.W.subIn K (.ref xC2) (.type "object") = some true)
    (xyb2_ValueError : PySem.W.subIn K (.ref xC2) (.type "ValueError") = some true)
    (xyp2_0 : PySem.W.subIn K (.ref xC2) (.ref yC0) = some false)
    (xyp2_1 : PySem.W.subIn K (.ref xC2) (.ref yC1) = some false)
    (xyp2_2 : PySem.W.subIn K (.ref xC2) (.ref yC2) = some false)
    (xyp2_3 : PySem.W.subIn K (.ref xC2) (.ref yC3) = some true)
    (xyp2_4 : PySem.W.subIn K (.ref xC2) (.ref yC4) = some false)
    (xyp2_5 : PySem.W.subIn K (.ref xC2) (.ref yC5) = some false)
    (xyp2_6 : PySem.W.subIn K (.ref xC2) (.ref yC6) = some false)
    (xyp2_7 : PySem.W.subIn K (.ref xC2) (.ref yC7) = some false)
    (xyp2_8 : PySem.W.subIn K (.ref xC2) (.ref yC8) = some false)
    (xyp2_9 : PySem.W.subIn K (.ref xC2) (.ref yC9) = some false)
    (xyp2_10 : PySem.W.subIn K (.ref xC2) (.ref yC10) = some false)
    (xyp2_11 : PySem.W.subIn K (.ref xC2) (.ref yC11) = some false)
    (xyp2_12 : PySem.W.subIn K (.ref xC2) (.ref yC12) = some false)
    (xyp2_13 : PySem.W.subIn K (.ref xC2) (.ref yC13) = some false)
    (xyp2_14 : PySem.W.subIn K (.ref xC2) (.ref yC14) = some false)
    (xyp2_15 : PySem.W.subIn K (.ref xC2) (.ref yC15) = some false)
    (xyp2_16 : PySem.W.subIn K (.ref xC2) (.ref yC16) = some false)
    (xyp2_17 : PySem.W.subIn K (.ref xC2) (.ref yC17) = some true)
    (xyp2_18 : PySem.W.subIn K (.ref xC2) (.ref yC18) = some false)
    (xyp2_19 : PySem.W.subIn K (.ref xC2) (.ref yC19) = some false)
    (xyp2_20 : PySem.W.subIn K (.ref xC2) (.ref yC20) = some false)
    (xcl3 : PySem.W.findIn K (.ref xC3) "__class__" = some (some (.builtin "object.__class__"))) (xmo3 : PySem.W.subIn K (.ref xC3) (.type "object") = some true)
    (xyb3_ValueError : PySem.W.subIn K (.ref xC3) (.type "ValueError") = some true)
    (xyp3_0 : PySem.W.subIn K (.ref xC3) (.ref yC0) = some true)
    (xyp3_1 : PySem.W.subIn K (.ref xC3) (.ref yC1) = some false)
    (xyp3_2 : PySem.W.subIn K (.ref xC3) (.ref yC2) = some false)
    (xyp3_3 : PySem.W.subIn K (.ref xC3) (.ref yC3) = some false)
    (xyp3_4 : PySem.W.subIn K (.ref xC3) (.ref yC4) = some false)
    (xyp3_5 : PySem.W.subIn K (.ref xC3) (.ref yC5) = some false)
    (xyp3_6 : PySem.W.subIn K (.ref xC3) (.ref yC6) = some false)
    (xyp3_7 : PySem.W.subIn K (.ref xC3) (.ref yC7) = some false)
    (xyp3_8 : PySem.W.subIn K (.ref xC3) (.ref yC8) = some false)
    (xyp3_9 : PySem.W.subIn K (.ref xC3) (.ref yC9) = some false)
    (xyp3_10 : PySem.W.subIn K (.ref xC3) (.ref yC10) = some false)
    (xyp3_11 : PySem.W.subIn K (.ref xC3) (.ref yC11) = some false)
    (xyp3_12 : PySem.W.subIn K (.ref xC3) (.ref yC12) = some false)
    (xyp3_13 : PySem.W.subIn K (.ref xC3) (.ref yC13) = some false)
    (xyp3_14 : PySem.W.subIn K (.ref xC3) (.ref yC14) = some false)
    (xyp3_15 : PySem.W.subIn K (.ref xC3) (.ref yC15) = some false)
    (xyp3_16 : PySem.W.subIn K (.ref xC3) (.ref yC16) = some false)
    (xyp3_17 : PySem.W.subIn K (.ref xC3) (.ref yC17) = some true)
    (xyp3_18 : PySem.W.subIn K (.ref xC3) (.ref yC18) = some false)
    (xyp3_19 : PySem.W.subIn K (.ref xC3) (.ref yC19) = some false)
    (xyp3_20 : PySem.W.subIn K (.ref xC3) (.ref yC20) = some false)
    (xcl4 : PySem.W.findIn K (.ref xC4) "__class__" = some (some (.builtin "object.__class__"))) (xmo4 : PySem.W.subIn K (.ref xC4) (.type "object") = some true)
    (xyb4_ValueError : PySem.W.subIn K (.ref xC4) (.type "ValueError") = some true)
    (xyp4_0 : PySem.W.subIn K (.ref xC4) (.ref yC0) = some false)
    (xyp4_1 : PySem.W.subIn K (.ref xC4) (.ref yC1) = some false)
    (xyp4_2 : PySem.W.subIn K (.ref xC4) (.ref yC2) = some true)
    (xyp4_3 : PySem.W.subIn K (.ref xC4) (.ref yC3) = some false)
    (xyp4_4 : PySem.W.subIn K (.ref xC4) (.ref yC4) = some false)
    (xyp4_5 : PySem.W.subIn K (.ref xC4) (.ref yC5) = some false)
    (xyp4_6 : PySem.W.subIn K (.ref xC4) (.ref yC6) = some false)
    (xyp4_7 : PySem.W.subIn K (.ref xC4) (.ref yC7) = some false)
    (xyp4_8 : PySem.W.subIn K (.ref xC4) (.ref yC8) = some false)
    (xyp4_9 : PySem.W.subIn K (.ref xC4) (.ref yC9) = some false)
    (xyp4_10 : PySem.W.subIn K (.ref xC4) (.ref yC10) = some false)
    (xyp4_11 : PySem.W.subIn K (.ref xC4) (.ref yC11) = some false)
    (xyp4_12 : PySem.W.subIn K (.ref xC4) (.ref yC12) = some false)
    (xyp4_13 : PySem.W.subIn K (.ref xC4) (.ref yC13) = some false)
    (xyp4_14 : PySem.W.subIn K (.ref xC4) (.ref yC14) = some false)
    (xyp4_15 : PySem.W.subIn K (.ref xC4) (.ref yC15) = some false)
    (xyp4_16 : PySem.W.subIn K (.ref xC4) (.ref yC16) = some false)
    (xyp4_17 : PySem.W.subIn K (.ref xC4) (.ref yC17) = some true)
    (xyp4_18 : PySem.W.subIn K (.ref xC4) (.ref yC18) = some false)
    (xyp4_19 : PySem.W.subIn K (.ref xC4) (.ref yC19) = some false)
    (xyp4_20 : PySem.W.subIn K (.ref xC4) (.ref yC20) = some false)
    (xcl5 : PySem.W.findIn K (.ref xC5) "__class__" = some (some (.builtin "object.__class__"))) (xmo5 : PySem.W.subIn K (.ref xC5) (.type "object") = some true)
    (xyb5_ValueError : PySem.W.subIn K (.ref xC5) (.type "ValueError") = some true)
    (xyp5_0 : PySem.W.subIn K (.ref xC5) (.ref yC0) = some false)
    (xyp5_1 : PySem.W.subIn K (.ref xC5) (.ref yC1) = some false)
    (xyp5_2 : PySem.W.subIn K (.ref xC5) (.ref yC2) = some false)
    (xyp5_3 : PySem.W.subIn K (.ref xC5) (.ref yC3) = some false)
    (xyp5_4 : PySem.W.subIn K (.ref xC5) (.ref yC4) = some false)
    (xyp5_5 : PySem.W.subIn K (.ref xC5) (.ref yC5) = some false)
    (xyp5_6 : PySem.W.subIn K (.ref xC5) (.ref yC6) = some false)
    (xyp5_7 : PySem.W.subIn K (.ref xC5) (.ref yC7) = some false)
    (xyp5_8 : PySem.W.subIn K (.ref xC5) (.ref yC8) = some false)
    (xyp5_9 : PySem.W.subIn K (.ref xC5) (.ref yC9) = some false)
    (xyp5_10 : PySem.W.subIn K (.ref xC5) (.ref yC10) = some false)
    (xyp5_11 : PySem.W.subIn K (.ref xC5) (.ref yC11) = some false)
    (xyp5_12 : PySem.W.subIn K (.ref xC5) (.ref yC12) = some false)
    (xyp5_13 : PySem.W.subIn K (.ref xC5) (.ref yC13) = some true)
    (xyp5_14 : PySem.W.subIn K (.ref xC5) (.ref yC14) = some false)
    (xyp5_15 : PySem.W.subIn K (.ref xC5) (.ref yC15) = some false)
    (xyp5_16 : PySem.W.subIn K (.ref xC5) (.ref yC16) = some false)
    (xyp5_17 : PySem.W.subIn K (.ref xC5) (.ref yC17) = some true)
    (xyp5_18 : PySem.W.subIn K (.ref xC5) (.ref yC18) = some false)
    (xyp5_19 : PySem.W.subIn K (.ref xC5) (.ref yC19) = some false)
    (xyp5_20 : PySem.W.subIn K (.ref xC5) (.ref yC20) = some false)
    (xcl6 : PySem.W.findIn K (.ref xC6) "__class__" = some (some (.builtin "object.__class__"))) (xmo6 : PySem.W.subIn K (.ref xC6) (.type "object") = some true)
    (xyb6_ValueError : PySem.W.subIn K (.ref xC6) (.type "ValueError") = some true)
    (xyp6_0 : PySem.W.subIn K (.ref xC6) (.ref yC0) = some false)
    (xyp6_1 : PySem.W.subIn K (.ref xC6) (.ref yC1) = some true)
    (xyp6_2 : PySem.W.subIn K (.ref xC6) (.ref yC2) = some false)
    (xyp6_3 : PySem.W.subIn K (.ref xC6) (.ref yC3) = some false)
    (xyp6_4 : PySem.W.subIn K (.ref xC6) (.ref yC4) = some false)
    (xyp6_5 : PySem.W.subIn K (.ref xC6) (.ref yC5) = some false)
    (xyp6_6 : PySem.W.subIn K (.ref xC6) (.ref yC6) = some false)
    (xyp6_7 : PySem.W.subIn K (.ref xC6) (.ref yC7) = some false)
    (xyp6_8 : PySem.W.subIn K (.ref xC6) (.ref yC8) = some false)
    (xyp6_9 : PySem.W.subIn K (.ref xC6) (.ref yC9) = some false)
    (xyp6_10 : PySem.W.subIn K (.ref xC6) (.ref yC10) = some false)
    (xyp6_11 : PySem.W.subIn K (.ref xC6) (.ref yC11) = some false)
    (xyp6_12 : PySem.W.subIn K (.ref xC6) (.ref yC12) = some false)
    (xyp6_13 : PySem.W.subIn K (.ref xC6) (.ref yC13) = some false)
    (xyp6_14 : PySem.W.subIn K (.ref xC6) (.ref yC14) = some false)
    (xyp6_15 : PySem.W.subIn K (.ref xC6) (.ref yC15) = some false)
    (xyp6_16 : PySem.W.subIn K (.ref xC6) (.ref yC16) = some false)
    (xyp6_17 : PySem.W.subIn K (.ref xC6) (.ref yC17) = some true)
    (xyp6_18 : PySem.W.subIn K (.ref xC6) (.ref yC18) = some false)
    (xyp6_19 : PySem.W.subIn K (.ref xC6) (.ref yC19) = some false)
    (xyp6_20 : PySem.W.subIn K (.ref xC6) (.ref yC20) = some false)
    (xcl7 : PySem.W.findIn K (.ref xC7) "__class__" = some (some (.builtin "object.__class__"))) (xmo7 : PySem.W.subIn K (.ref xC7) (.type "object") = some true)
    (xyb7_ValueError : PySem.W.subIn K (.ref xC7) (.type "ValueError") = some true)
    (xyp7_0 : PySem.W.subIn K (.ref xC7) (.ref yC0) = some false)
    (xyp7_1 : PySem.W.subIn K (.ref xC7) (.ref yC1) = some false)
    (xyp7_2 : PySem.W.subIn K (.ref xC7) (.ref yC2) = some false)
    (xyp7_3 : PySem.W.subIn K (.ref xC7) (.ref yC3) = some false)
    (xyp7_4 : PySem.W.subIn K (.ref xC7) (.ref yC4) = some false)
    (xyp7_5 : PySem.W.subIn K (.ref xC7) (.ref yC5) = some false)
    (xyp7_6 : PySem.W.subIn K (.ref xC7) (.ref yC6) = some true)
    (xyp7_7 : PySem.W.subIn K (.ref xC7) (.ref yC7) = some false)
    (xyp7_8 : PySem.W.subIn K (.ref xC7) (.ref yC8) = some false)
    (xyp7_9 : PySem.W.subIn K (.ref xC7) (.ref yC9) = some false)
    (xyp7_10 : PySem.W.subIn K (.ref xC7) (.ref yC10) = some false)
    (xyp7_11 : PySem.W.subIn K (.ref xC7) (.ref yC11) = some false)
    (xyp7_12 : PySem.W.subIn K (.ref xC7) (.ref yC12) = some false)
    (xyp7_13 : PySem.W.subIn K (.ref xC7) (.ref yC13) = some false)
    (xyp7_14 : PySem.W.subIn K (.ref xC7) (.ref yC14) = some false)
    (xyp7_15 : PySem.W.subIn K (.ref xC7) (.ref yC15) = some false)
    (xyp7_16 : PySem.W.subIn K (.ref xC7) (.ref yC16) = some false)
    (xyp7_17 : PySem.W.subIn K (.ref xC7) (.ref yC17) = some true)
    (xyp7_18 : PySem.W.subIn K (.ref xC7) (.ref yC18) = some false)
    (xyp7_19 : PySem.W.subIn K (.ref xC7) (.ref yC19) = some false)
    (xyp7_20 : PySem.W.subIn K (.ref xC7) (.ref yC20) = some false)
    (xcl8 : PySem.W.findIn K (.ref xC8) "__class__" = some (some (.builtin "object.__class__"))) (xmo8 : PySem.W.subIn K (.ref xC8) (.type "object") = some true)
    (xyb8_ValueError : PySem.W.subIn K (.ref xC8) (.type "ValueError") = some true)
    (xyp8_0 : PySem.W.subIn K (.ref xC8) (.ref yC0) = some false)
    (xyp8_1 : PySem.W.subIn K (.ref xC8) (.ref yC1) = some false)
    (xyp8_2 : PySem.W.subIn K (.ref xC8) (.ref yC2) = some false)
    (xyp8_3 : PySem.W.subIn K (.ref xC8) (.ref yC3) = some false)
    (xyp8_4 : PySem.W.subIn K (.ref xC8) (.ref yC4) = some false)
    (xyp8_5 : PySem.W.subIn K (.ref xC8) (.ref yC5) = some false)
    (xyp8_6 : PySem.W.subIn K (.ref xC8) (.ref yC6) = some false)
    (xyp8_7 : PySem.W.subIn K (.ref xC8) (.ref yC7) = some false)
    (xyp8_8 : PySem.W.subIn K (.ref xC8) (.ref yC8) = some true)
    (xyp8_9 : PySem.W.subIn K (.ref xC8) (.ref yC9) = some false)
    (xyp8_10 : PySem.W.subIn K (.ref xC8) (.ref yC10) = some false)
    (xyp8_11 : PySem.W.subIn K (.ref xC8) (.ref yC11) = some false)
    (xyp8_12 : PySem.W.subIn K (.ref xC8) (.ref yC12) = some false)
    (xyp8_13 : PySem.W.subIn K (.ref xC8) (.ref yC13) = some false)
    (xyp8_14 : PySem.W.subIn K (.ref xC8) (.ref yC14) = some false)
    (xyp8_15 : PySem.W.subIn K (.ref xC8) (.ref yC15) = some false)
    (xyp8_16 : PySem.W.subIn K (.ref xC8) (.ref yC16) = some false)
    (xyp8_17 : PySem.W.subIn K (.ref xC8) (.ref yC17) = some true)
    (xyp8_18 : PySem.W.subIn K (.ref xC8) (.ref yC18) = some false)
    (xyp8_19 : PySem.W.subIn K (.ref xC8) (.ref yC19) = some false)
    (xyp8_20 : PySem.W.subIn K (.ref xC8) (.ref yC20) = some false)
    (xcl9 : PySem.W.findIn K (.ref xC9) "__class__" = some (some (.builtin "object.__class__"))) (xmo9 : PySem.W.subIn K (.ref xC9) (.type "object") = some true)
    (xyb9_ValueError : PySem.W.subIn K (.ref xC9) (.type "ValueError") = some true)
    (xyp9_0 : PySem.W.subIn K (.ref xC9) (.ref yC0) = some false)
    (xyp9_1 : PySem.W.subIn K (.ref xC9) (.ref yC1) = some false)
    (xyp9_2 : PySem.W.subIn K (.ref xC9) (.ref yC2) = some false)
    (xyp9_3 : PySem.W.subIn K (.ref xC9) (.ref yC3) = some false)
    (xyp9_4 : PySem.W.subIn K (.ref xC9) (.ref yC4) = some true)
    (xyp9_5 : PySem.W.subIn K (.ref xC9) (.ref yC5) = some false)
    (xyp9_6 : PySem.W.subIn K (.ref xC9) (.ref yC6) = some false)
    (xyp9_7 : PySem.W.subIn K (.ref xC9) (.ref yC7) = some false)
    (xyp9_8 : PySem.W.subIn K (.ref xC9) (.ref yC8) = some false)
    (xyp9_9 : PySem.W.subIn K (.ref xC9) (.ref yC9) = some false)
    (xyp9_10 : PySem.W.subIn K (.ref xC9) (.ref yC10) = some false)
    (xyp9_11 : PySem.W.subIn K (.ref xC9) (.ref yC11) = some false)
    (xyp9_12 : PySem.W.subIn K (.ref xC9) (.ref yC12) = some false)
    (xyp9_13 : PySem.W.subIn K (.ref xC9) (.ref yC13) = some false)
    (xyp9_14 : PySem.W.subIn K (.ref xC9) (.ref yC14) = some false)
    (xyp9_15 : PySem.W.subIn K (.ref xC9) (.ref yC15) = some false)
    (xyp9_16 : PySem.W.subIn K (.ref xC9) (.ref yC16) = some false)
    (xyp9_17 : PySem.W.subIn K (.ref xC9) (.ref yC17) = some true)
    (xyp9_18 : PySem.W.subIn K (.ref xC9) (.ref yC18) = some false)
    (xyp9_19 : PySem.W.subIn K (.ref xC9) (.ref yC19) = some false)
    (xyp9_20 : PySem.W.subIn K (.ref xC9) (.ref yC20) = some false)
    (xcl10 : PySem.W.findIn K (.ref xC10) "__class__" = some (some (.builtin "object.__class__"))) (xmo10 : PySem.W.subIn K (.ref xC10) (.type "object") = some true)
    (xyb10_ValueError : PySem.W.subIn K (.ref xC10) (.type "ValueError") = some true)
    (xyp10_0 : PySem.W.subIn K (.ref xC10) (.ref yC0) = some false)
    (xyp10_1 : PySem.W.subIn K (.ref xC10) (.ref yC1) = some false)
    (xyp10_2 : PySem.W.subIn K (.ref xC10) (.ref yC2) = some false)
    (xyp10_3 : PySem.W.subIn K (.ref xC10) (.ref yC3) = some false)
    (xyp10_4 : PySem.W.subIn K (.ref xC10) (.ref yC4) = some false)
    (xyp10_5 : PySem.W.subIn K (.ref xC10) (.ref yC5) = some false)
    (xyp10_6 : PySem.W.subIn K (.ref xC10) (.ref yC6) = some false)
    (xyp10_7 : PySem.W.subIn K (.ref xC10) (.ref yC7) = some false)
    (xyp10_8 : PySem.W.subIn K (.ref xC10) (.ref yC8) = some false)
    (xyp10_9 : PySem.W.subIn K (.ref xC10) (.ref yC9) = some false)
    (xyp10_10 : PySem.W.subIn K (.ref xC10) (.ref yC10) = some false)
    (xyp10_11 : PySem.W.subIn K (.ref xC10) (.ref yC11) = some false)
    (xyp10_12 : PySem.W.subIn K (.ref xC10) (.ref yC12) = some false)
    (xyp10_13 : PySem.W.subIn K (.ref xC10) (.ref yC13) = some false)
    (xyp10_14 : PySem.W.subIn K (.ref xC10) (.ref yC14) = some true)
    (xyp10_15 : PySem.W.subIn K (.ref xC10) (.ref yC15) = some false)
    (xyp10_16 : PySem.W.subIn K (.ref xC10) (.ref yC16) = some false)
    (xyp10_17 : PySem.W.subIn K (.ref xC10) (.ref yC17) = some true)
    (xyp10_18 : PySem.W.subIn K (.ref xC10) (.ref yC18) = some false)
    (xyp10_19 : PySem.W.subIn K (.ref xC10) (.ref yC19) = some false)
    (xyp10_20 : PySem.W.subIn K (.ref xC10) (.ref yC20) = some false)
    (xcl11 : PySem.W.findIn K (.ref xC11) "__class__" = some (some (.builtin "object.__class__"))) (xmo11 : PySem.W.subIn K (.ref xC11) (.type "object") = some true)
    (xyb11_ValueError : PySem.W.subIn K (.ref xC11) (.type "ValueError") = some true)
    (xyp11_0 : PySem.W.subIn K (.ref xC11) (.ref yC0) = some false)
    (xyp11_1 : PySem.W.subIn K (.ref xC11) (.ref yC1) = some false)
    (xyp11_2 : PySem.W.subIn K (.ref xC11) (.ref yC2) = some false)
    (xyp11_3 : PySem.W.subIn K (.ref xC11) (.ref yC3) = some false)
    (xyp11_4 : PySem.W.subIn K (.ref xC11) (.ref yC4) = some false)
    (xyp11_5 : PySem.W.subIn K (.ref xC11) (.ref yC5) = some false)
    (xyp11_6 : PySem.W.subIn K (.ref xC11) (.ref yC6) = some false)
    (xyp11_7 : PySem.W.subIn K (.ref xC11) (.ref yC7) = some false)
    (xyp11_8 : PySem.W.subIn K (.ref xC11) (.ref yC8) = some false)
    (xyp11_9 : PySem.W.subIn K (.ref xC11) (.ref yC9) = some false)
    (xyp11_10 : PySem.W.subIn K (.ref xC11) (.ref yC10) = some false)
    (xyp11_11 : PySem.W.subIn K (.ref xC11) (.ref yC11) = some false)
    (xyp11_12 : PySem.W.subIn K (.ref xC11) (.ref yC12) = some true)
    (xyp11_13 : PySem.W.subIn K (.ref xC11) (.ref yC13) = some false)
    (xyp11_14 : PySem.W.subIn K (.ref xC11) (.ref yC14) = some false)
    (xyp11_15 : PySem.W.subIn K (.ref xC11) (.ref yC15) = some false)
    (xyp11_16 : PySem.W.subIn K (.ref xC11) (.ref yC16) = some false)
    (xyp11_17 : PySem.W.subIn K (.ref xC11) (.ref yC17) = some true)
    (xyp11_18 : PySem.W.subIn K (.ref xC11) (.ref yC18) = some false)
    (xyp11_19 : PySem.W.subIn K (.ref xC11) (.ref yC19) = some false)
    (xyp11_20 : PySem.W.subIn K (.ref xC11) (.ref yC20) = some false)
    (xcl12 : PySem.W.findIn K (.ref xC12) "__class__" = some (some (.builtin "object.__class__"))) (xmo12 : PySem.W.subIn K (.ref xC12) (.type "object") = some true)
    (xyb12_ValueError : PySem.W.subIn K (.ref xC12) (.type "ValueError") = some true)
    (xyp12_0 : PySem.W.subIn K (.ref xC12) (.ref yC0) = some false)
    (xyp12_1 : PySem.W.subIn K (.ref xC12) (.ref yC1) = some false)
    (xyp12_2 : PySem.W.subIn K (.ref xC12) (.ref yC2) = some false)
    (xyp12_3 : PySem.W.subIn K (.ref xC12) (.ref yC3) = some false)
    (xyp12_4 : PySem.W.subIn K (.ref xC12) (.ref yC4) = some false)
    (xyp12_5 : PySem.W.subIn K (.ref xC12) (.ref yC5) = some false)
    (xyp12_6 : PySem.W.subIn K (.ref xC12) (.ref yC6) = some false)
    (xyp12_7 : PySem.W.subIn K (.ref xC12) (.ref yC7) = some false)
    (xyp12_8 : PySem.W.subIn K (.ref xC12) (.ref yC8) = some false)
    (xyp12_9 : PySem.W.subIn K (.ref xC12) (.ref yC9) = some false)
    (xyp12_10 : PySem.W.subIn K (.ref xC12) (.ref yC10) = some false)
    (xyp12_11 : PySem.W.subIn K (.ref xC12) (.ref yC11) = some true)
    (xyp12_12 : PySem.W.subIn K (.ref xC12) (.ref yC12) = some false)
    (xyp12_13 : PySem.W.subIn K (.ref xC12) (.ref yC13) = some false)
    (xyp12_14 : PySem.W.subIn K (.ref xC12) (.ref yC14) = some false)
    (xyp12_15 : PySem.W.subIn K (.ref xC12) (.ref yC15) = some false)
    (xyp12_16 : PySem.W.subIn K (.ref xC12) (.ref yC16) = some false)
    (xyp12_17 : PySem.W.subIn K (.ref xC12) (.ref yC17) = some true)
    (xyp12_18 : PySem.W.subIn K (.ref xC12) (.ref yC18) = some false)
    (xyp12_19 : PySem.W.subIn K (.ref xC12) (.ref yC19) = some false)
    (xyp12_20 : PySem.W.subIn K (.ref xC12) (.ref yC20) = some false)
    (xcl13 : PySem.W.findIn K (.ref xC13) "__class__" = some (some (.builtin "object.__class__"))) (xmo13 : PySem.W.subIn K (.ref xC13) (.type "object") = some true)
    (xyb13_ValueError : PySem.W.subIn K (.ref xC13) (.type "ValueError") = some true)
    (xyp13_0 : PySem.W.subIn K (.ref xC13) (.ref yC0) = some false)
    (xyp13_1 : PySem.W.subIn K (.ref xC13) (.ref yC1) = some false)
    (xyp13_2 : PySem.W.subIn K (.ref xC13) (.ref yC2) = some false)
    (xyp13_3 : PySem.W.subIn K (.ref xC13) (.ref yC3) = some false)
    (xyp13_4 : PySem.W.subIn K (.ref xC13) (.ref yC4) = some false)
    (xyp13_5 : PySem.W.subIn K (.ref xC13) (.ref yC5) = some false)
    (xyp13_6 : PySem.W.subIn K (.ref xC13) (.ref yC6) = some false)
    (xyp13_7 : PySem.W.subIn K (.ref xC13) (.ref yC7) = some false)
    (xyp13_8 : PySem.W.subIn K (.ref xC13) (.ref yC8) = some false)
    (xyp13_9 : PySem.W.subIn K (.ref xC13) (.ref yC9) = some false)
    (xyp13_10 : PySem.W.subIn K (.ref xC13) (.ref yC10) = some true)
    (xyp13_11 : PySem.W.subIn K (.ref xC13) (.ref yC11) = some false)
    (xyp13_12 : PySem.W.subIn K (.ref xC13) (.ref yC12) = some false)
    (xyp13_13 : PySem.W.subIn K (.ref xC13) (.ref yC13) = some false)
    (xyp13_14 : PySem.W.subIn K (.ref xC13) (.ref yC14) = some false)
    (xyp13_15 : PySem.W.subIn K (.ref xC13) (.ref yC15) = some false)
    (xyp13_16 : PySem.W.subIn K (.ref xC13) (.ref yC16) = some false)
    (xyp13_17 : PySem.W.subIn K (.ref xC13) (.ref yC17) = some true)
    (xyp13_18 : PySem.W.subIn K (.ref xC13) (.ref yC18) = some false)
    (xyp13_19 : PySem.W.subIn K (.ref xC13) (.ref yC19) = some false)
    (xyp13_20 : PySem.W.subIn K (.ref xC13) (.ref yC20) = some false)
    (xcl14 : PySem.W.findIn K (.ref xC14) "__class__" = some (some (.builtin "object.__class__"))) (xmo14 : PySem.W.subIn K (.ref xC14) (.type "object") = some true)
    (xyb14_ValueError : PySem.W.subIn K (.ref xC14) (.type "ValueError") = some true)
    (xyp14_0 : PySem.W.subIn K (.ref xC14) (.ref yC0) = some false)
    (xyp14_1 : PySem.W.subIn K (.ref xC14) (.ref yC1) = some false)
    (xyp14_2 : PySem.W.subIn K (.ref xC14) (.ref yC2) = some false)
    (xyp14_3 : PySem.W.subIn K (.ref xC14) (.ref yC3) = some false)
    (xyp14_4 : PySem.W.subIn K (.ref xC14) (.ref yC4) = some false)
    (xyp14_5 : PySem.W.subIn K (.ref xC14) (.ref yC5) = some true)
    (xyp14_6 : PySem.W.subIn K (.ref xC14) (.ref yC6) = some false)
    (xyp14_7 : PySem.W.subIn K (.ref xC14) (.ref yC7) = some false)
    (xyp14_8 : PySem.W.subIn K (.ref xC14) (.ref yC8) = some false)
    (xyp14_9 : PySem.W.subIn K (.ref xC14) (.ref yC9) = some false)
    (xyp14_10 : PySem.W.subIn K (.ref xC14) (.ref yC10) = some false)
    (xyp14_11 : PySem.W.subIn K (.ref xC14) (.ref yC11) = some false)
    (xyp14_12 : PySem.W.subIn K (.ref xC14) (.ref yC12) = some false)
    (xyp14_13 : PySem.W.subIn K (.ref xC14) (.ref yC13) = some false)
    (xyp14_14 : PySem.W.subIn K (.ref xC14) (.ref yC14) = some false)
    (xyp14_15 : PySem.W.subIn K (.ref xC14) (.ref yC15) = some false)
    (xyp14_16 : PySem.W.subIn K (.ref xC14) (.ref yC16) = some false)
    (xyp14_17 : PySem.W.subIn K (.ref xC14) (.ref yC17) = some true)
    (xyp14_18 : PySem.W.subIn K (.ref xC14) (.ref yC18) = some false)
    (xyp14_19 : PySem.W.subIn K (.ref xC14) (.ref yC19) = some false)
    (xyp14_20 : PySem.W.subIn K (.ref xC14) (.ref yC20) = some false)
    (xcl15 : PySem.W.findIn K (.ref xC15) "__class__" = some (some (.builtin "object.__class__"))) (xmo15 : PySem.W.subIn K (.ref xC15) (.type "object") = some true)
    (xyb15_ValueError : PySem.W.subIn K (.ref xC15) (.type "ValueError") = some true)
    (xyp15_0 : PySem.W.subIn K (.ref xC15) (.ref yC0) = some false)
    (xyp15_1 : PySem.W.subIn K (.ref xC15) (.ref yC1) = some false)
    (xyp15_2 : PySem.W.subIn K (.ref xC15) (.ref yC2) = some false)
    (xyp15_3 : PySem.W.subIn K (.ref xC15) (.ref yC3) = some false)
    (xyp15_4 : PySem.W.subIn K (.ref xC15) (.ref yC4) = some false)
    (xyp15_5 : PySem.W.subIn K (.ref xC15) (.ref yC5) = some false)
    (xyp15_6 : PySem.W.subIn K (.ref xC15) (.ref yC6) = some false)
    (xyp15_7 : PySem.W.subIn K (.ref xC15) (.ref yC7) = some false)
    (xyp15_8 : PySem.W.subIn K (.ref xC15) (.ref yC8) = some false)
    (xyp15_9 : PySem.W.subIn K (.ref xC15) (.ref yC9) = some false)
    (xyp15_10 : PySem.W.subIn K (.ref xC15) (.ref yC10) = some false)
    (xyp15_11 : PySem.W.subIn K (.ref xC15) (.ref yC11) = some false)
    (xyp15_12 : PySem.W.subIn K (.ref xC15) (.ref yC12) = some false)
    (xyp15_13 : PySem.W.subIn K (.ref xC15) (.ref yC13) = some false)
    (xyp15_14 : PySem.W.subIn K (.ref xC15) (.ref yC14) = some false)
    (xyp15_15 : PySem.W.subIn K (.ref xC15) (.ref yC15) = some true)
    (xyp15_16 : PySem.W.subIn K (.ref xC15) (.ref yC16) = some false)
    (xyp15_17 : PySem.W.subIn K (.ref xC15) (.ref yC17) = some true)
    (xyp15_18 : PySem.W.subIn K (.ref xC15) (.ref yC18) = some false)
    (xyp15_19 : PySem.W.subIn K (.ref xC15) (.ref yC19) = some false)
    (xyp15_20 : PySem.W.subIn K (.ref xC15) (.ref yC20) = some false)
    (xcl16 : PySem.W.findIn K (.ref xC16) "__class__" = some (some (.builtin "object.__class__"))) (xmo16 : PySem.W.subIn K (.ref xC16) (.type "object") = some true)
    (xyb16_ValueError : PySem.W.subIn K (.ref xC16) (.type "ValueError") = some true)
    (xyp16_0 : PySem.W.subIn K (.ref xC16) (.ref yC0) = some false)
    (xyp16_1 : PySem.W.subIn K (.ref xC16) (.ref yC1) = some false)
    (xyp16_2 : PySem.W.subIn K (.ref xC16) (.ref yC2) = some false)
    (xyp16_3 : PySem.W.subIn K (.ref xC16) (.ref yC3) = some false)
    (xyp16_4 : PySem.W.subIn K (.ref xC16) (.ref yC4) = some false)
    (xyp16_5 : PySem.W.subIn K (.ref xC16) (.ref yC5) = some false)
    (xyp16_6 : PySem.W.subIn K (.ref xC16) (.ref yC6) = some false)
    (xyp16_7 : PySem.W.subIn K (.ref xC16) (.ref yC7) = some false)
    (xyp16_8 : PySem.W.subIn K (.ref xC16) (.ref yC8) = some false)
    (xyp16_9 : PySem.W.subIn K (.ref xC16) (.ref yC9) = some false)
    (xyp16_10 : PySem.W.subIn K (.ref xC16) (.ref yC10) = some false)
    (xyp16_11 : PySem.W.subIn K (.ref xC16) (.ref yC11) = some false)
    (xyp16_12 : PySem.W.subIn K (.ref xC16) (.ref yC12) = some false)
    (xyp16_13 : PySem.W.subIn K (.ref xC16) (.ref yC13) = some false)
    (xyp16_14 : PySem.W.subIn K (.ref xC16) (.ref yC14) = some false)
    (xyp16_15 : PySem.W.subIn K (.ref xC16) (.ref yC15) = some false)
    (xyp16_16 : PySem.W.subIn K (.ref xC16) (.ref yC16) = some false)
    (xyp16_17 : PySem.W.subIn K (.ref xC16) (.ref yC17) = some true)
    (xyp16_18 : PySem.W.subIn K (.ref xC16) (.ref yC18) = some true)
    (xyp16_19 : PySem.W.subIn K (.ref xC16) (.ref yC19) = some false)
    (xyp16_20 : PySem.W.subIn K (.ref xC16) (.ref yC20) = some false)
    (xcl17 : PySem.W.findIn K (.ref xC17) "__class__" = some (some (.builtin "object.__class__"))) (xmo17 : PySem.W.subIn K (.ref xC17) (.type "object") = some true)
    (xyb17_ValueError : PySem.W.subIn K (.ref xC17) (.type "ValueError") = some true)
    (xyp17_0 : PySem.W.subIn K (.ref xC17) (.ref yC0) = some false)
    (xyp17_1 : PySem.W.subIn K (.ref xC17) (.ref yC1) = some false)
    (xyp17_2 : PySem.W.subIn K (.ref xC17) (.ref yC2) = some false)
    (xyp17_3 : PySem.W.subIn K (.ref xC17) (.ref yC3) = some false)
    (xyp17_4 : PySem.W.subIn K (.ref xC17) (.ref yC4) = some false)
    (xyp17_5 : PySem.W.subIn K (.ref xC17) (.ref yC5) = some false)
    (xyp17_6 : PySem.W.subIn K (.ref xC17) (.ref yC6) = some false)
    (xyp17_7 : PySem.W.subIn K (.ref xC17) (.ref yC7) = some false)
    (xyp17_8 : PySem.W.subIn K (.ref xC17) (.ref yC8) = some false)
    (xyp17_9 : PySem.W.subIn K (.ref xC17) (.ref yC9) = some false)
    (xyp17_10 : PySem.W.subIn K (.ref xC17) (.ref yC10) = some false)
    (xyp17_11 : PySem.W.subIn K (.ref xC17) (.ref yC11) = some false)
    (xyp17_12 : PySem.W.subIn K (.ref xC17) (.ref yC12) = some false)
    (xyp17_13 : PySem.W.subIn K (.ref xC17) (.ref yC13) = some false)
    (xyp17_14 : PySem.W.subIn K (.ref xC17) (.ref yC14) = some false)
    (xyp17_15 : PySem.W.subIn K (.ref xC17) (.ref yC15) = some false)
    (xyp17_16 : PySem.W.subIn K (.ref xC17) (.ref yC16) = some true)
    (xyp17_17 : PySem.W.subIn K (.ref xC17) (.ref yC17) = some true)
    (xyp17_18 : PySem.W.subIn K (.ref xC17) (.ref yC18) = some false)
    (xyp17_19 : PySem.W.subIn K (.ref xC17) (.ref yC19) = some false)
    (xyp17_20 : PySem.W.subIn K (.ref xC17) (.ref yC20) = some false)
    (xcl18 : PySem.W.findIn K (.ref xC18) "__class__" = some (some (.builtin "object.__class__"))) (xmo18 : PySem.W.subIn K (.ref xC18) (.type "object") = some true)
    (xyb18_ValueError : PySem.W.subIn K (.ref xC18) (.type "ValueError") = some true)
    (xyp18_0 : PySem.W.subIn K (.ref xC18) (.ref yC0) = some false)
    (xyp18_1 : PySem.W.subIn K (.ref xC18) (.ref yC1) = some false)
    (xyp18_2 : PySem.W.subIn K (.ref xC18) (.ref yC2) = some false)
    (xyp18_3 : PySem.W.subIn K (.ref xC18) (.ref yC3) = some false)
    (xyp18_4 : PySem.W.subIn K (.ref xC18) (.ref yC4) = some false)
    (xyp18_5 : PySem.W.subIn K (.ref xC18) (.ref yC5) = some false)
    (xyp18_6 : PySem.W.subIn K (.ref xC18) (.ref yC6) = some false)
    (xyp18_7 : PySem.W.subIn K (.ref xC18) (.ref yC7) = some false)
    (xyp18_8 : PySem.W.subIn K (.ref xC18) (.ref yC8) = some false)
    (xyp18_9 : PySem.W.subIn K (.ref xC18) (.ref yC9) = some false)
    (xyp18_10 : PySem.W.subIn K (.ref xC18) (.ref yC10) = some false)
    (xyp18_11 : PySem.W.subIn K (.ref xC18) (.ref yC11) = some false)
    (xyp18_12 : PySem.W.subIn K (.ref xC18) (.ref yC12) = some false)
    (xyp18_13 : PySem.W.subIn K (.ref xC18) (.ref yC13) = some false)
    (xyp18_14 : PySem.W.subIn K (.ref xC18) (.ref yC14) = some false)
    (xyp18_15 : PySem.W.subIn K (.ref xC18) (.ref yC15) = some false)
    (xyp18_16 : PySem.W.subIn K (.ref xC18) (.ref yC16) = some false)
    (xyp18_17 : PySem.W.subIn K (.ref xC18) (.ref yC17) = some true)
    (xyp18_18 : PySem.W.subIn K (.ref xC18) (.ref yC18) = some false)
    (xyp18_19 : PySem.W.subIn K (.ref xC18) (.ref yC19) = some false)
    (xyp18_20 : PySem.W.subIn K (.ref xC18) (.ref yC20) = some true)
    (xcl19 : PySem.W.findIn K (.ref xC19) "__class__" = some (some (.builtin "object.__class__"))) (xmo19 : PySem.W.subIn K (.ref xC19) (.type "object") = some true)
    (xyb19_ValueError : PySem.W.subIn K (.ref xC19) (.type "ValueError") = some true)
    (xyp19_0 : PySem.W.subIn K (.ref xC19) (.ref yC0) = some false)
    (xyp19_1 : PySem.W.subIn K (.ref xC19) (.ref yC1) = some false)
    (xyp19_2 : PySem.W.subIn K (.ref xC19) (.ref yC2) = some false)
    (xyp19_3 : PySem.W.subIn K (.ref xC19) (.ref yC3) = some false)
    (xyp19_4 : PySem.W.subIn K (.ref xC19) (.ref yC4) = some false)
    (xyp19_5 : PySem.W.subIn K (.ref xC19) (.ref yC5) = some false)
    (xyp19_6 : PySem.W.subIn K (.ref xC19) (.ref yC6) = some false)
    (xyp19_7 : PySem.W.subIn K (.ref xC19) (.ref yC7) = some false)
    (xyp19_8 : PySem.W.subIn K (.ref xC19) (.ref yC8) = some false)
    (xyp19_9 : PySem.W.subIn K (.ref xC19) (.ref yC9) = some false)
    (xyp19_10 : PySem.W.subIn K (.ref xC19) (.ref yC10) = some false)
    (xyp19_11 : PySem.W.subIn K (.ref xC19) (.ref yC11) = some false)
    (xyp19_12 : PySem.W.subIn K (.ref xC19) (.ref yC12) = some false)
    (xyp19_13 : PySem.W.subIn K (.ref xC19) (.ref yC13) = some false)
    (xyp19_14 : PySem.W.subIn K (.ref xC19) (.ref yC14) = some false)
    (xyp19_15 : PySem.W.subIn K (.ref xC19) (.ref yC15) = some false)
    (xyp19_16 : PySem.W.subIn K (.ref xC19) (.ref yC16) = some false)
    (xyp19_17 : PySem.W.subIn K (.ref xC19) (.ref yC17) = some true)
    (xyp19_18 : PySem.W.subIn K (.ref xC19) (.ref yC18) = some false)
    (xyp19_19 : PySem.W.subIn K (.ref xC19) (.ref yC19) = some true)
    (xyp19_20 : PySem.W.subIn K (.ref xC19) (.ref yC20) = some false)
    (xcl20 : PySem.W.findIn K (.ref xC20) "__class__" = some (some (.builtin "object.__class__"))) (xmo20 : PySem.W.subIn K (.ref xC20) (.type "object") = some true)
    (xyb20_ValueError : PySem.W.subIn K (.ref xC20) (.type "ValueError") = some true)
    (xyp20_0 : PySem.W.subIn K (.ref xC20) (.ref yC0) = some false)
    (xyp20_1 : PySem.W.subIn K (.ref xC20) (.ref yC1) = some false)
    (xyp20_2 : PySem.W.subIn K (.ref xC20) (.ref yC2) = some false)
    (xyp20_3 : PySem.W.subIn K (.ref xC20) (.ref yC3) = some false)
    (xyp20_4 : PySem.W.subIn K (.ref xC20) (.ref yC4) = some false)
    (xyp20_5 : PySem.W.subIn K (.ref xC20) (.ref yC5) = some false)
    (xyp20_6 : PySem.W.subIn K (.ref xC20) (.ref yC6) = some false)
    (xyp20_7 : PySem.W.subIn K (.ref xC20) (.ref yC7) = some false)
    (xyp20_8 : PySem.W.subIn K (.ref xC20) (.ref yC8) = some false)
    (xyp20_9 : PySem.W.subIn K (.ref xC20) (.ref yC9) = some false)
    (xyp20_10 : PySem.W.subIn K (.ref xC20) (.ref yC10) = some false)
    (xyp20_11 : PySem.W.subIn K (.ref xC20) (.ref yC11) = some false)
    (xyp20_12 : PySem.W.subIn K (.ref xC20) (.ref yC12) = some false)
    (xyp20_13 : PySem.W.subIn K (.ref xC20) (.ref yC13) = some false)
    (xyp20_14 : PySem.W.subIn K (.ref xC20) (.ref yC14) = some false)
    (xyp20_15 : PySem.W.subIn K (.ref xC20) (.ref yC15) = some false)
    (xyp20_16 : PySem.W.subIn K (.ref xC20) (.ref yC16) = some false)
    (xyp20_17 : PySem.W.subIn K (.ref xC20) (.ref yC17) = some true)
    (xyp20_18 : PySem.W.subIn K (.ref xC20) (.ref yC18) = some false)
    (xyp20_19 : PySem.W.subIn K (.ref xC20) (.ref yC19) = some false)
    (xyp20_20 : PySem.W.subIn K (.ref xC20) (.ref yC20) = some false) :
    ∃ fd : FuncData, (∀ (s : Shared) (v : Value), BindsTo s fd ⟨[v], []⟩ [("script", v)]) ∧ ∀ base : Heap, K.In base → base.Ns mainGlobals mg → FnOk PySem.Challenge.pw_wholeorders_k00_errors w K mg base (L2.CX PySem.Challenge.pw_wholeorders_k00_errors w) 7 fa fd ["script"] (Z.spLaw K) := by
  have e := hfa.symm.trans (PySem.W.mg_of X G a12)
  cases e
  have en : EnvOk mg K := ⟨⟨_, _, fun_mk (st := s__law_deck) l0 c0 k0, PySem.W.mg_of X G a0⟩,
    ⟨_, _, fun_mk (st := s__law_take) l1 c1 k1, PySem.W.mg_of X G a1⟩,
    ⟨_, _, fun_mk (st := s__law_same) l2 c2 k2, PySem.W.mg_of X G a2⟩,
    ⟨_, _, fun_mk (st := s__law_raise_first) l3 c3 k3, PySem.W.mg_of X G a3⟩,
    ⟨_, _, fun_mk (st := s__law_raise_second) l4 c4 k4, PySem.W.mg_of X G a4⟩,
    ⟨_, _, fun_mk (st := s__law_raise_named_first) l5 c5 k5, PySem.W.mg_of X G a5⟩,
    ⟨_, _, fun_mk (st := s__law_raise_named_second) l6 c6 k6, PySem.W.mg_of X G a6⟩,
    ⟨_, _, fun_mk (st := s__law_raised) l7 c7 k7, PySem.W.mg_of X G a7⟩,
    ⟨_, _, fun_mk (st := s__law_kinds) l8 c8 k8, PySem.W.mg_of X G a8⟩,
    ⟨_, _, fun_mk (st := s__law_given) l9 c9 k9, PySem.W.mg_of X G a9⟩,
    ⟨_, _, fun_mk (st := s__law_right) l10 c10 k10, PySem.W.mg_of X G a10⟩,
    ⟨_, _, fun_mk (st := s__law_base_right) l11 c11 k11, PySem.W.mg_of X G a11⟩,
    ⟨_, _, fun_mk (st := s_law) l12 c12 k12, PySem.W.mg_of X G a12⟩,
    PySem.W.mg_none_of X G z0,
    PySem.W.mg_none_of X G z1,
    PySem.W.mg_none_of X G z2,
    PySem.W.mg_none_of X G z3,
    PySem.W.mg_none_of X G z4,
    PySem.W.mg_none_of X G z5,
    PySem.W.mg_none_of X G z6,
    PySem.W.mg_none_of X G z7,
    PySem.W.mg_none_of X G z8,
    PySem.W.mg_none_of X G z9,
    PySem.W.mg_none_of X G z10,
    excMk X G xaC0 xL0 xsa0 xga0 xgg0 xnb0 xa10 xt10 xl10 xc10 xk10 xkC0 xeC0 xtC0 xhC0 xiC0 xsC0 xvV0,
    excMk X G xaC1 xL1 xsa1 xga1 xgg1 xnb1 xa11 xt11 xl11 xc11 xk11 xkC1 xeC1 xtC1 xhC1 xiC1 xsC1 xvV1,
    excMk X G xaC2 xL2 xsa2 xga2 xgg2 xnb2 xa12 xt12 xl12 xc12 xk12 xkC2 xeC2 xtC2 xhC2 xiC2 xsC2 xvV2,
    excMk X G xaC3 xL3 xsa3 xga3 xgg3 xnb3 xa13 xt13 xl13 xc13 xk13 xkC3 xeC3 xtC3 xhC3 xiC3 xsC3 xvV3,
    excMk X G xaC4 xL4 xsa4 xga4 xgg4 xnb4 xa14 xt14 xl14 xc14 xk14 xkC4 xeC4 xtC4 xhC4 xiC4 xsC4 xvV4,
    excMk X G xaC5 xL5 xsa5 xga5 xgg5 xnb5 xa15 xt15 xl15 xc15 xk15 xkC5 xeC5 xtC5 xhC5 xiC5 xsC5 xvV5,
    excMk X G xaC6 xL6 xsa6 xga6 xgg6 xnb6 xa16 xt16 xl16 xc16 xk16 xkC6 xeC6 xtC6 xhC6 xiC6 xsC6 xvV6,
    excMk X G xaC7 xL7 xsa7 xga7 xgg7 xnb7 xa17 xt17 xl17 xc17 xk17 xkC7 xeC7 xtC7 xhC7 xiC7 xsC7 xvV7,
    excMk X G xaC8 xL8 xsa8 xga8 xgg8 xnb8 xa18 xt18 xl18 xc18 xk18 xkC8 xeC8 xtC8 xhC8 xiC8 xsC8 xvV8,
    excMk X G xaC9 xL9 xsa9 xga9 xgg9 xnb9 xa19 xt19 xl19 xc19 xk19 xkC9 xeC9 xtC9 xhC9 xiC9 xsC9 xvV9,
    excMk X G xaC10 xL10 xsa10 xga10 xgg10 xnb10 xa110 xt110 xl110 xc110 xk110 xkC10 xeC10 xtC10 xhC10 xiC10 xsC10 xvV10,
    excMk X G xaC11 xL11 xsa11 xga11 xgg11 xnb11 xa111 xt111 xl111 xc111 xk111 xkC11 xeC11 xtC11 xhC11 xiC11 xsC11 xvV11,
    excMk X G xaC12 xL12 xsa12 xga12 xgg12 xnb12 xa112 xt112 xl112 xc112 xk112 xkC12 xeC12 xtC12 xhC12 xiC12 xsC12 xvV12,
    excMk X G xaC13 xL13 xsa13 xga13 xgg13 xnb13 xa113 xt113 xl113 xc113 xk113 xkC13 xeC13 xtC13 xhC13 xiC13 xsC13 xvV13,
    excMk X G xaC14 xL14 xsa14 xga14 xgg14 xnb14 xa114 xt114 xl114 xc114 xk114 xkC14 xeC14 xtC14 xhC14 xiC14 xsC14 xvV14,
    excMk X G xaC15 xL15 xsa15 xga15 xgg15 xnb15 xa115 xt115 xl115 xc115 xk115 xkC15 xeC15 xtC15 xhC15 xiC15 xsC15 xvV15,
    excMk X G xaC16 xL16 xsa16 xga16 xgg16 xnb16 xa116 xt116 xl116 xc116 xk116 xkC16 xeC16 xtC16 xhC16 xiC16 xsC16 xvV16,
    excMk X G xaC17 xL17 xsa17 xga17 xgg17 xnb17 xa117 xt117 xl117 xc117 xk117 xkC17 xeC17 xtC17 xhC17 xiC17 xsC17 xvV17,
    excMk X G xaC18 xL18 xsa18 xga18 xgg18 xnb18 xa118 xt118 xl118 xc118 xk118 xkC18 xeC18 xtC18 xhC18 xiC18 xsC18 xvV18,
    excMk X G xaC19 xL19 xsa19 xga19 xgg19 xnb19 xa119 xt119 xl119 xc119 xk119 xkC19 xeC19 xtC19 xhC19 xiC19 xsC19 xvV19,
    excMk0 X G xaC20 xL20 xsa20 xga20 xgg20 xnb20 xa120 xt120 xl120 xc120 xk120 xkC20 xeC20 xtC20 xhC20 xiC20 xsC20 xvV20,
    ⟨yC0, PySem.W.mg_of X G ya0, (isT_cons xaC0 ⟨xga0, xgg0, xeC0, xhC0, xcl0, xgn, xtk, xmo0⟩ (kit_own yi0 yt0 ys0 xyp0_0) (isT_cons xaC1 ⟨xga1, xgg1, xeC1, xhC1, xcl1, xgn, xtk, xmo1⟩ (kit_own yi0 yt0 ys0 xyp1_0) (isT_cons xaC2 ⟨xga2, xgg2, xeC2, xhC2, xcl2, xgn, xtk, xmo2⟩ (kit_own yi0 yt0 ys0 xyp2_0) (isT_cons xaC3 ⟨xga3, xgg3, xeC3, xhC3, xcl3, xgn, xtk, xmo3⟩ (kit_own yi0 yt0 ys0 xyp3_0) (isT_cons xaC4 ⟨xga4, xgg4, xeC4, xhC4, xcl4, xgn, xtk, xmo4⟩ (kit_own yi0 yt0 ys0 xyp4_0) (isT_cons xaC5 ⟨xga5, xgg5, xeC5, xhC5, xcl5, xgn, xtk, xmo5⟩ (kit_own yi0 yt0 ys0 xyp5_0) (isT_cons xaC6 ⟨xga6, xgg6, xeC6, xhC6, xcl6, xgn, xtk, xmo6⟩ (kit_own yi0 yt0 ys0 xyp6_0) (isT_cons xaC7 ⟨xga7, xgg7, xeC7, xhC7, xcl7, xgn, xtk, xmo7⟩ (kit_own yi0 yt0 ys0 xyp7_0) (isT_cons xaC8 ⟨xga8, xgg8, xeC8, xhC8, xcl8, xgn, xtk, xmo8⟩ (kit_own yi0 yt0 ys0 xyp8_0) (isT_cons xaC9 ⟨xga9, xgg9, xeC9, xhC9, xcl9, xgn, xtk, xmo9⟩ (kit_own yi0 yt0 ys0 xyp9_0) (isT_cons xaC10 ⟨xga10, xgg10, xeC10, xhC10, xcl10, xgn, xtk, xmo10⟩ (kit_own yi0 yt0 ys0 xyp10_0) (isT_cons xaC11 ⟨xga11, xgg11, xeC11, xhC11, xcl11, xgn, xtk, xmo11⟩ (kit_own yi0 yt0 ys0 xyp11_0) (isT_cons xaC12 ⟨xga12, xgg12, xeC12, xhC12, xcl12, xgn, xtk, xmo12⟩ (kit_own yi0 yt0 ys0 xyp12_0) (isT_cons xaC13 ⟨xga13, xgg13, xeC13, xhC13, xcl13, xgn, xtk, xmo13⟩ (kit_own yi0 yt0 ys0 xyp13_0) (isT_cons xaC14 ⟨xga14, xgg14, xeC14, xhC14, xcl14, xgn, xtk, xmo14⟩ (kit_own yi0 yt0 ys0 xyp14_0) (isT_cons xaC15 ⟨xga15, xgg15, xeC15, xhC15, xcl15, xgn, xtk, xmo15⟩ (kit_own yi0 yt0 ys0 xyp15_0) (isT_cons xaC16 ⟨xga16, xgg16, xeC16, xhC16, xcl16, xgn, xtk, xmo16⟩ (kit_own yi0 yt0 ys0 xyp16_0) (isT_cons xaC17 ⟨xga17, xgg17, xeC17, xhC17, xcl17, xgn, xtk, xmo17⟩ (kit_own yi0 yt0 ys0 xyp17_0) (isT_cons xaC18 ⟨xga18, xgg18, xeC18, xhC18, xcl18, xgn, xtk, xmo18⟩ (kit_own yi0 yt0 ys0 xyp18_0) (isT_cons xaC19 ⟨xga19, xgg19, xeC19, xhC19, xcl19, xgn, xtk, xmo19⟩ (kit_own yi0 yt0 ys0 xyp19_0) (isT_cons xaC20 ⟨xga20, xgg20, xeC20, xhC20, xcl20, xgn, xtk, xmo20⟩ (kit_own yi0 yt0 ys0 xyp20_0) isT_nil)))))))))))))))))))))⟩,
    ⟨yC1, PySem.W.mg_of X G ya1, (isT_cons xaC0 ⟨xga0, xgg0, xeC0, xhC0, xcl0, xgn, xtk, xmo0⟩ (kit_own yi1 yt1 ys1 xyp0_1) (isT_cons xaC1 ⟨xga1, xgg1, xeC1, xhC1, xcl1, xgn, xtk, xmo1⟩ (kit_own yi1 yt1 ys1 xyp1_1) (isT_cons xaC2 ⟨xga2, xgg2, xeC2, xhC2, xcl2, xgn, xtk, xmo2⟩ (kit_own yi1 yt1 ys1 xyp2_1) (isT_cons xaC3 ⟨xga3, xgg3, xeC3, xhC3, xcl3, xgn, xtk, xmo3⟩ (kit_own yi1 yt1 ys1 xyp3_1) (isT_cons xaC4 ⟨xga4, xgg4, xeC4, xhC4, xcl4, xgn, xtk, xmo4⟩ (kit_own yi1 yt1 ys1 xyp4_1) (isT_cons xaC5 ⟨xga5, xgg5, xeC5, xhC5, xcl5, xgn, xtk, xmo5⟩ (kit_own yi1 yt1 ys1 xyp5_1) (isT_cons xaC6 ⟨xga6, xgg6, xeC6, xhC6, xcl6, xgn, xtk, xmo6⟩ (kit_own yi1 yt1 ys1 xyp6_1) (isT_cons xaC7 ⟨xga7, xgg7, xeC7, xhC7, xcl7, xgn, xtk, xmo7⟩ (kit_own yi1 yt1 ys1 xyp7_1) (isT_cons xaC8 ⟨xga8, xgg8, xeC8, xhC8, xcl8, xgn, xtk, xmo8⟩ (kit_own yi1 yt1 ys1 xyp8_1) (isT_cons xaC9 ⟨xga9, xgg9, xeC9, xhC9, xcl9, xgn, xtk, xmo9⟩ (kit_own yi1 yt1 ys1 xyp9_1) (isT_cons xaC10 ⟨xga10, xgg10, xeC10, xhC10, xcl10, xgn, xtk, xmo10⟩ (kit_own yi1 yt1 ys1 xyp10_1) (isT_cons xaC11 ⟨xga11, xgg11, xeC11, xhC11, xcl11, xgn, xtk, xmo11⟩ (kit_own yi1 yt1 ys1 xyp11_1) (isT_cons xaC12 ⟨xga12, xgg12, xeC12, xhC12, xcl12, xgn, xtk, xmo12⟩ (kit_own yi1 yt1 ys1 xyp12_1) (isT_cons xaC13 ⟨xga13, xgg13, xeC13, xhC13, xcl13, xgn, xtk, xmo13⟩ (kit_own yi1 yt1 ys1 xyp13_1) (isT_cons xaC14 ⟨xga14, xgg14, xeC14, xhC14, xcl14, xgn, xtk, xmo14⟩ (kit_own yi1 yt1 ys1 xyp14_1) (isT_cons xaC15 ⟨xga15, xgg15, xeC15, xhC15, xcl15, xgn, xtk, xmo15⟩ (kit_own yi1 yt1 ys1 xyp15_1) (isT_cons xaC16 ⟨xga16, xgg16, xeC16, xhC16, xcl16, xgn, xtk, xmo16⟩ (kit_own yi1 yt1 ys1 xyp16_1) (isT_cons xaC17 ⟨xga17, xgg17, xeC17, xhC17, xcl17, xgn, xtk, xmo17⟩ (kit_own yi1 yt1 ys1 xyp17_1) (isT_cons xaC18 ⟨xga18, xgg18, xeC18, xhC18, xcl18, xgn, xtk, xmo18⟩ (kit_own yi1 yt1 ys1 xyp18_1) (isT_cons xaC19 ⟨xga19, xgg19, xeC19, xhC19, xcl19, xgn, xtk, xmo19⟩ (kit_own yi1 yt1 ys1 xyp19_1) (isT_cons xaC20 ⟨xga20, xgg20, xeC20, xhC20, xcl20, xgn, xtk, xmo20⟩ (kit_own yi1 yt1 ys1 xyp20_1) isT_nil)))))))))))))))))))))⟩,
    ⟨yC2, PySem.W.mg_of X G ya2, (isT_cons xaC0 ⟨xga0, xgg0, xeC0, xhC0, xcl0, xgn, xtk, xmo0⟩ (kit_own yi2 yt2 ys2 xyp0_2) (isT_cons xaC1 ⟨xga1, xgg1, xeC1, xhC1, xcl1, xgn, xtk, xmo1⟩ (kit_own yi2 yt2 ys2 xyp1_2) (isT_cons xaC2 ⟨xga2, xgg2, xeC2, xhC2, xcl2, xgn, xtk, xmo2⟩ (kit_own yi2 yt2 ys2 xyp2_2) (isT_cons xaC3 ⟨xga3, xgg3, xeC3, xhC3, xcl3, xgn, xtk, xmo3⟩ (kit_own yi2 yt2 ys2 xyp3_2) (isT_cons xaC4 ⟨xga4, xgg4, xeC4, xhC4, xcl4, xgn, xtk, xmo4⟩ (kit_own yi2 yt2 ys2 xyp4_2) (isT_cons xaC5 ⟨xga5, xgg5, xeC5, xhC5, xcl5, xgn, xtk, xmo5⟩ (kit_own yi2 yt2 ys2 xyp5_2) (isT_cons xaC6 ⟨xga6, xgg6, xeC6, xhC6, xcl6, xgn, xtk, xmo6⟩ (kit_own yi2 yt2 ys2 xyp6_2) (isT_cons xaC7 ⟨xga7, xgg7, xeC7, xhC7, xcl7, xgn, xtk, xmo7⟩ (kit_own yi2 yt2 ys2 xyp7_2) (isT_cons xaC8 ⟨xga8, xgg8, xeC8, xhC8, xcl8, xgn, xtk, xmo8⟩ (kit_own yi2 yt2 ys2 xyp8_2) (isT_cons xaC9 ⟨xga9, xgg9, xeC9, xhC9, xcl9, xgn, xtk, xmo9⟩ (kit_own yi2 yt2 ys2 xyp9_2) (isT_cons xaC10 ⟨xga10, xgg10, xeC10, xhC10, xcl10, xgn, xtk, xmo10⟩ (kit_own yi2 yt2 ys2 xyp10_2) (isT_cons xaC11 ⟨xga11, xgg11, xeC11, xhC11, xcl11, xgn, xtk, xmo11⟩ (kit_own yi2 yt2 ys2 xyp11_2) (isT_cons xaC12 ⟨xga12, xgg12, xeC12, xhC12, xcl12, xgn, xtk, xmo12⟩ (kit_own yi2 yt2 ys2 xyp12_2) (isT_cons xaC13 ⟨xga13, xgg13, xeC13, xhC13, xcl13, xgn, xtk, xmo13⟩ (kit_own yi2 yt2 ys2 xyp13_2) (isT_cons xaC14 ⟨xga14, xgg14, xeC14, xhC14, xcl14, xgn, xtk, xmo14⟩ (kit_own yi2 yt2 ys2 xyp14_2) (isT_cons xaC15 ⟨xga15, xgg15, xeC15, xhC15, xcl15, xgn, xtk, xmo15⟩ (kit_own yi2 yt2 ys2 xyp15_2) (isT_cons xaC16 ⟨xga16, xgg16, xeC16, xhC16, xcl16, xgn, xtk, xmo16⟩ (kit_own yi2 yt2 ys2 xyp16_2) (isT_cons xaC17 ⟨xga17, xgg17, xeC17, xhC17, xcl17, xgn, xtk, xmo17⟩ (kit_own yi2 yt2 ys2 xyp17_2) (isT_cons xaC18 ⟨xga18, xgg18, xeC18, xhC18, xcl18, xgn, xtk, xmo18⟩ (kit_own yi2 yt2 ys2 xyp18_2) (isT_cons xaC19 ⟨xga19, xgg19, xeC19, xhC19, xcl19, xgn, xtk, xmo19⟩ (kit_own yi2 yt2 ys2 xyp19_2) (isT_cons xaC20 ⟨xga20, xgg20, xeC20, xhC20, xcl20, xgn, xtk, xmo20⟩ (kit_own yi2 yt2 ys2 xyp20_2) isT_nil)))))))))))))))))))))⟩,
    ⟨yC3, PySem.W.mg_of X G ya3, (isT_cons xaC0 ⟨xga0, xgg0, xeC0, xhC0, xcl0, xgn, xtk, xmo0⟩ (kit_own yi3 yt3 ys3 xyp0_3) (isT_cons xaC1 ⟨xga1, xgg1, xeC1, xhC1, xcl1, xgn, xtk, xmo1⟩ (kit_own yi3 yt3 ys3 xyp1_3) (isT_cons xaC2 ⟨xga2, xgg2, xeC2, xhC2, xcl2, xgn, xtk, xmo2⟩ (kit_own yi3 yt3 ys3 xyp2_3) (isT_cons xaC3 ⟨xga3, xgg3, xeC3, xhC3, xcl3, xgn, xtk, xmo3⟩ (kit_own yi3 yt3 ys3 xyp3_3) (isT_cons xaC4 ⟨xga4, xgg4, xeC4, xhC4, xcl4, xgn, xtk, xmo4⟩ (kit_own yi3 yt3 ys3 xyp4_3) (isT_cons xaC5 ⟨xga5, xgg5, xeC5, xhC5, xcl5, xgn, xtk, xmo5⟩ (kit_own yi3 yt3 ys3 xyp5_3) (isT_cons xaC6 ⟨xga6, xgg6, xeC6, xhC6, xcl6, xgn, xtk, xmo6⟩ (kit_own yi3 yt3 ys3 xyp6_3) (isT_cons xaC7 ⟨xga7, xgg7, xeC7, xhC7, xcl7, xgn, xtk, xmo7⟩ (kit_own yi3 yt3 ys3 xyp7_3) (isT_cons xaC8 ⟨xga8, xgg8, xeC8, xhC8, xcl8, xgn, xtk, xmo8⟩ (kit_own yi3 yt3 ys3 xyp8_3) (isT_cons xaC9 ⟨xga9, xgg9, xeC9, xhC9, xcl9, xgn, xtk, xmo9⟩ (kit_own yi3 yt3 ys3 xyp9_3) (isT_cons xaC10 ⟨xga10, xgg10, xeC10, xhC10, xcl10, xgn, xtk, xmo10⟩ (kit_own yi3 yt3 ys3 xyp10_3) (isT_cons xaC11 ⟨xga11, xgg11, xeC11, xhC11, xcl11, xgn, xtk, xmo11⟩ (kit_own yi3 yt3 ys3 xyp11_3) (isT_cons xaC12 ⟨xga12, xgg12, xeC12, xhC12, xcl12, xgn, xtk, xmo12⟩ (kit_own yi3 yt3 ys3 xyp12_3) (isT_cons xaC13 ⟨xga13, xgg13, xeC13, xhC13, xcl13, xgn, xtk, xmo13⟩ (kit_own yi3 yt3 ys3 xyp13_3) (isT_cons xaC14 ⟨xga14, xgg14, xeC14, xhC14, xcl14, xgn, xtk, xmo14⟩ (kit_own yi3 yt3 ys3 xyp14_3) (isT_cons xaC15 ⟨xga15, xgg15, xeC15, xhC15, xcl15, xgn, xtk, xmo15⟩ (kit_own yi3 yt3 ys3 xyp15_3) (isT_cons xaC16 ⟨xga16, xgg16, xeC16, xhC16, xcl16, xgn, xtk, xmo16⟩ (kit_own yi3 yt3 ys3 xyp16_3) (isT_cons xaC17 ⟨xga17, xgg17, xeC17, xhC17, xcl17, xgn, xtk, xmo17⟩ (kit_own yi3 yt3 ys3 xyp17_3) (isT_cons xaC18 ⟨xga18, xgg18, xeC18, xhC18, xcl18, xgn, xtk, xmo18⟩ (kit_own yi3 yt3 ys3 xyp18_3) (isT_cons xaC19 ⟨xga19, xgg19, xeC19, xhC19, xcl19, xgn, xtk, xmo19⟩ (kit_own yi3 yt3 ys3 xyp19_3) (isT_cons xaC20 ⟨xga20, xgg20, xeC20, xhC20, xcl20, xgn, xtk, xmo20⟩ (kit_own yi3 yt3 ys3 xyp20_3) isT_nil)))))))))))))))))))))⟩,
    ⟨yC4, PySem.W.mg_of X G ya4, (isT_cons xaC0 ⟨xga0, xgg0, xeC0, xhC0, xcl0, xgn, xtk, xmo0⟩ (kit_own yi4 yt4 ys4 xyp0_4) (isT_cons xaC1 ⟨xga1, xgg1, xeC1, xhC1, xcl1, xgn, xtk, xmo1⟩ (kit_own yi4 yt4 ys4 xyp1_4) (isT_cons xaC2 ⟨xga2, xgg2, xeC2, xhC2, xcl2, xgn, xtk, xmo2⟩ (kit_own yi4 yt4 ys4 xyp2_4) (isT_cons xaC3 ⟨xga3, xgg3, xeC3, xhC3, xcl3, xgn, xtk, xmo3⟩ (kit_own yi4 yt4 ys4 xyp3_4) (isT_cons xaC4 ⟨xga4, xgg4, xeC4, xhC4, xcl4, xgn, xtk, xmo4⟩ (kit_own yi4 yt4 ys4 xyp4_4) (isT_cons xaC5 ⟨xga5, xgg5, xeC5, xhC5, xcl5, xgn, xtk, xmo5⟩ (kit_own yi4 yt4 ys4 xyp5_4) (isT_cons xaC6 ⟨xga6, xgg6, xeC6, xhC6, xcl6, xgn, xtk, xmo6⟩ (kit_own yi4 yt4 ys4 xyp6_4) (isT_cons xaC7 ⟨xga7, xgg7, xeC7, xhC7, xcl7, xgn, xtk, xmo7⟩ (kit_own yi4 yt4 ys4 xyp7_4) (isT_cons xaC8 ⟨xga8, xgg8, xeC8, xhC8, xcl8, xgn, xtk, xmo8⟩ (kit_own yi4 yt4 ys4 xyp8_4) (isT_cons xaC9 ⟨xga9, xgg9, xeC9, xhC9, xcl9, xgn, xtk, xmo9⟩ (kit_own yi4 yt4 ys4 xyp9_4) (isT_cons xaC10 ⟨xga10, xgg10, xeC10, xhC10, xcl10, xgn, xtk, xmo10⟩ (kit_own yi4 yt4 ys4 xyp10_4) (isT_cons xaC11 ⟨xga11, xgg11, xeC11, xhC11, xcl11, xgn, xtk, xmo11⟩ (kit_own yi4 yt4 ys4 xyp11_4) (isT_cons xaC12 ⟨xga12, xgg12, xeC12, xhC12, xcl12, xgn, xtk, xmo12⟩ (kit_own yi4 yt4 ys4 xyp12_4) (isT_cons xaC13 ⟨xga13, xgg13, xeC13, xhC13, xcl13, xgn, xtk, xmo13⟩ (kit_own yi4 yt4 ys4 xyp13_4) (isT_cons xaC14 ⟨xga14, xgg14, xeC14, xhC14, xcl14, xgn, xtk, xmo14⟩ (kit_own yi4 yt4 ys4 xyp14_4) (isT_cons xaC15 ⟨xga15, xgg15, xeC15, xhC15, xcl15, xgn, xtk, xmo15⟩ (kit_own yi4 yt4 ys4 xyp15_4) (isT_cons xaC16 ⟨xga16, xgg16, xeC16, xhC16, xcl16, xgn, xtk, xmo16⟩ (kit_own yi4 yt4 ys4 xyp16_4) (isT_cons xaC17 ⟨xga17, xgg17, xeC17, xhC17, xcl17, xgn, xtk, xmo17⟩ (kit_own yi4 yt4 ys4 xyp17_4) (isT_cons xaC18 ⟨xga18, xgg18, xeC18, xhC18, xcl18, xgn, xtk, xmo18⟩ (kit_own yi4 yt4 ys4 xyp18_4) (isT_cons xaC19 ⟨xga19, xgg19, xeC19, xhC19, xcl19, xgn, xtk, xmo19⟩ (kit_own yi4 yt4 ys4 xyp19_4) (isT_cons xaC20 ⟨xga20, xgg20, xeC20, xhC20, xcl20, xgn, xtk, xmo20⟩ (kit_own yi4 yt4 ys4 xyp20_4) isT_nil)))))))))))))))))))))⟩,
    ⟨yC5, PySem.W.mg_of X G ya5, (isT_cons xaC0 ⟨xga0, xgg0, xeC0, xhC0, xcl0, xgn, xtk, xmo0⟩ (kit_own yi5 yt5 ys5 xyp0_5) (isT_cons xaC1 ⟨xga1, xgg1, xeC1, xhC1, xcl1, xgn, xtk, xmo1⟩ (kit_own yi5 yt5 ys5 xyp1_5) (isT_cons xaC2 ⟨xga2, xgg2, xeC2, xhC2, xcl2, xgn, xtk, xmo2⟩ (kit_own yi5 yt5 ys5 xyp2_5) (isT_cons xaC3 ⟨xga3, xgg3, xeC3, xhC3, xcl3, xgn, xtk, xmo3⟩ (kit_own yi5 yt5 ys5 xyp3_5) (isT_cons xaC4 ⟨xga4, xgg4, xeC4, xhC4, xcl4, xgn, xtk, xmo4⟩ (kit_own yi5 yt5 ys5 xyp4_5) (isT_cons xaC5 ⟨xga5, xgg5, xeC5, xhC5, xcl5, xgn, xtk, xmo5⟩ (kit_own yi5 yt5 ys5 xyp5_5) (isT_cons xaC6 ⟨xga6, xgg6, xeC6, xhC6, xcl6, xgn, xtk, xmo6⟩ (kit_own yi5 yt5 ys5 xyp6_5) (isT_cons xaC7 ⟨xga7, xgg7, xeC7, xhC7, xcl7, xgn, xtk, xmo7⟩ (kit_own yi5 yt5 ys5 xyp7_5) (isT_cons xaC8 ⟨xga8, xgg8, xeC8, xhC8, xcl8, xgn, xtk, xmo8⟩ (kit_own yi5 yt5 ys5 xyp8_5) (isT_cons xaC9 ⟨xga9, xgg9, xeC9, xhC9, xcl9, xgn, xtk, xmo9⟩ (kit_own yi5 yt5 ys5 xyp9_5) (isT_cons xaC10 ⟨xga10, xgg10, xeC10, xhC10, xcl10, xgn, xtk, xmo10⟩ (kit_own yi5 yt5 ys5 xyp10_5) (isT_cons xaC11 ⟨xga11, xgg11, xeC11, xhC11, xcl11, xgn, xtk, xmo11⟩ (kit_own yi5 yt5 ys5 xyp11_5) (isT_cons xaC12 ⟨xga12, xgg12, xeC12, xhC12, xcl12, xgn, xtk, xmo12⟩ (kit_own yi5 yt5 ys5 xyp12_5) (isT_cons xaC13 ⟨xga13, xgg13, xeC13, xhC13, xcl13, xgn, xtk, xmo13⟩ (kit_own yi5 yt5 ys5 xyp13_5) (isT_cons xaC14 ⟨xga14, xgg14, xeC14, xhC14, xcl14, xgn, xtk, xmo14⟩ (kit_own yi5 yt5 ys5 xyp14_5) (isT_cons xaC15 ⟨xga15, xgg15, xeC15, xhC15, xcl15, xgn, xtk, xmo15⟩ (kit_own yi5 yt5 ys5 xyp15_5) (isT_cons xaC16 ⟨xga16, xgg16, xeC16, xhC16, xcl16, xgn, xtk, xmo16⟩ (kit_own yi5 yt5 ys5 xyp16_5) (isT_cons xaC17 ⟨xga17, xgg17, xeC17, xhC17, xcl17, xgn, xtk, xmo17⟩ (kit_own yi5 yt5 ys5 xyp17_5) (isT_cons xaC18 ⟨xga18, xgg18, xeC18, xhC18, xcl18, xgn, xtk, xmo18⟩ (kit_own yi5 yt5 ys5 xyp18_5) (isT_cons xaC19 ⟨xga19, xgg19, xeC19, xhC19, xcl19, xgn, xtk, xmo19⟩ (kit_own yi5 yt5 ys5 xyp19_5) (isT_cons xaC20 ⟨xga20, xgg20, xeC20, xhC20, xcl20, xgn, xtk, xmo20⟩ (kit_own yi5 yt5 ys5 xyp20_5) isT_nil)))))))))))))))))))))⟩,
    ⟨yC6, PySem.W.mg_of X G ya6, (isT_cons xaC0 ⟨xga0, xgg0, xeC0, xhC0, xcl0, xgn, xtk, xmo0⟩ (kit_own yi6 yt6 ys6 xyp0_6) (isT_cons xaC1 ⟨xga1, xgg1, xeC1, xhC1, xcl1, xgn, xtk, xmo1⟩ (kit_own yi6 yt6 ys6 xyp1_6) (isT_cons xaC2 ⟨xga2, xgg2, xeC2, xhC2, xcl2, xgn, xtk, xmo2⟩ (kit_own yi6 yt6 ys6 xyp2_6) (isT_cons xaC3 ⟨xga3, xgg3, xeC3, xhC3, xcl3, xgn, xtk, xmo3⟩ (kit_own yi6 yt6 ys6 xyp3_6) (isT_cons xaC4 ⟨xga4, xgg4, xeC4, xhC4, xcl4, xgn, xtk, xmo4⟩ (kit_own yi6 yt6 ys6 xyp4_6) (isT_cons xaC5 ⟨xga5, xgg5, xeC5, xhC5, xcl5, xgn, xtk, xmo5⟩ (kit_own yi6 yt6 ys6 xyp5_6) (isT_cons xaC6 ⟨xga6, xgg6, xeC6, xhC6, xcl6, xgn, xtk, xmo6⟩ (kit_own yi6 yt6 ys6 xyp6_6) (isT_cons xaC7 ⟨xga7, xgg7, xeC7, xhC7, xcl7, xgn, xtk, xmo7⟩ (kit_own yi6 yt6 ys6 xyp7_6) (isT_cons xaC8 ⟨xga8, xgg8, xeC8, xhC8, xcl8, xgn, xtk, xmo8⟩ (kit_own yi6 yt6 ys6 xyp8_6) (isT_cons xaC9 ⟨xga9, xgg9, xeC9, xhC9, xcl9, xgn, xtk, xmo9⟩ (kit_own yi6 yt6 ys6 xyp9_6) (isT_cons xaC10 ⟨xga10, xgg10, xeC10, xhC10, xcl10, xgn, xtk, xmo10⟩ (kit_own yi6 yt6 ys6 xyp10_6) (isT_cons xaC11 ⟨xga11, xgg11, xeC11, xhC11, xcl11, xgn, xtk, xmo11⟩ (kit_own yi6 yt6 ys6 xyp11_6) (isT_cons xaC12 ⟨xga12, xgg12, xeC12, xhC12, xcl12, xgn, xtk, xmo12⟩ (kit_own yi6 yt6 ys6 xyp12_6) (isT_cons xaC13 ⟨xga13, xgg13, xeC13, xhC13, xcl13, xgn, xtk, xmo13⟩ (kit_own yi6 yt6 ys6 xyp13_6) (isT_cons xaC14 ⟨xga14, xgg14, xeC14, xhC14, xcl14, xgn, xtk, xmo14⟩ (kit_own yi6 yt6 ys6 xyp14_6) (isT_cons xaC15 ⟨xga15, xgg15, xeC15, xhC15, xcl15, xgn, xtk, xmo15⟩ (kit_own yi6 yt6 ys6 xyp15_6) (isT_cons xaC16 ⟨xga16, xgg16, xeC16, xhC16, xcl16, xgn, xtk, xmo16⟩ (kit_own yi6 yt6 ys6 xyp16_6) (isT_cons xaC17 ⟨xga17, xgg17, xeC17, xhC17, xcl17, xgn, xtk, xmo17⟩ (kit_own yi6 yt6 ys6 xyp17_6) (isT_cons xaC18 ⟨xga18, xgg18, xeC18, xhC18, xcl18, xgn, xtk, xmo18⟩ (kit_own yi6 yt6 ys6 xyp18_6) (isT_cons xaC19 ⟨xga19, xgg19, xeC19, xhC19, xcl19, xgn, xtk, xmo19⟩ (kit_own yi6 yt6 ys6 xyp19_6) (isT_cons xaC20 ⟨xga20, xgg20, xeC20, xhC20, xcl20, xgn, xtk, xmo20⟩ (kit_own yi6 yt6 ys6 xyp20_6) isT_nil)))))))))))))))))))))⟩,
    ⟨yC7, PySem.W.mg_of X G ya7, (isT_cons xaC0 ⟨xga0, xgg0, xeC0, xhC0, xcl0, xgn, xtk, xmo0⟩ (kit_own yi7 yt7 ys7 xyp0_7) (isT_cons xaC1 ⟨xga1, xgg1, xeC1, xhC1, xcl1, xgn, xtk, xmo1⟩ (kit_own yi7 yt7 ys7 xyp1_7) (isT_cons xaC2 ⟨xga2, xgg2, xeC2, xhC2, xcl2, xgn, xtk, xmo2⟩ (kit_own yi7 yt7 ys7 xyp2_7) (isT_cons xaC3 ⟨xga3, xgg3, xeC3, xhC3, xcl3, xgn, xtk, xmo3⟩ (kit_own yi7 yt7 ys7 xyp3_7) (isT_cons xaC4 ⟨xga4, xgg4, xeC4, xhC4, xcl4, xgn, xtk, xmo4⟩ (kit_own yi7 yt7 ys7 xyp4_7) (isT_cons xaC5 ⟨xga5, xgg5, xeC5, xhC5, xcl5, xgn, xtk, xmo5⟩ (kit_own yi7 yt7 ys7 xyp5_7) (isT_cons xaC6 ⟨xga6, xgg6, xeC6, xhC6, xcl6, xgn, xtk, xmo6⟩ (kit_own yi7 yt7 ys7 xyp6_7) (isT_cons xaC7 ⟨xga7, xgg7, xeC7, xhC7, xcl7, xgn, xtk, xmo7⟩ (kit_own yi7 yt7 ys7 xyp7_7) (isT_cons xaC8 ⟨xga8, xgg8, xeC8, xhC8, xcl8, xgn, xtk, xmo8⟩ (kit_own yi7 yt7 ys7 xyp8_7) (isT_cons xaC9 ⟨xga9, xgg9, xeC9, xhC9, xcl9, xgn, xtk, xmo9⟩ (kit_own yi7 yt7 ys7 xyp9_7) (isT_cons xaC10 ⟨xga10, xgg10, xeC10, xhC10, xcl10, xgn, xtk, xmo10⟩ (kit_own yi7 yt7 ys7 xyp10_7) (isT_cons xaC11 ⟨xga11, xgg11, xeC11, xhC11, xcl11, xgn, xtk, xmo11⟩ (kit_own yi7 yt7 ys7 xyp11_7) (isT_cons xaC12 ⟨xga12, xgg12, xeC12, xhC12, xcl12, xgn, xtk, xmo12⟩ (kit_own yi7 yt7 ys7 xyp12_7) (isT_cons xaC13 ⟨xga13, xgg13, xeC13, xhC13, xcl13, xgn, xtk, xmo13⟩ (kit_own yi7 yt7 ys7 xyp13_7) (isT_cons xaC14 ⟨xga14, xgg14, xeC14, xhC14, xcl14, xgn, xtk, xmo14⟩ (kit_own yi7 yt7 ys7 xyp14_7) (isT_cons xaC15 ⟨xga15, xgg15, xeC15, xhC15, xcl15, xgn, xtk, xmo15⟩ (kit_own yi7 yt7 ys7 xyp15_7) (isT_cons xaC16 ⟨xga16, xgg16, xeC16, xhC16, xcl16, xgn, xtk, xmo16⟩ (kit_own yi7 yt7 ys7 xyp16_7) (isT_cons xaC17 ⟨xga17, xgg17, xeC17, xhC17, xcl17, xgn, xtk, xmo17⟩ (kit_own yi7 yt7 ys7 xyp17_7) (isT_cons xaC18 ⟨xga18, xgg18, xeC18, xhC18, xcl18, xgn, xtk, xmo18⟩ (kit_own yi7 yt7 ys7 xyp18_7) (isT_cons xaC19 ⟨xga19, xgg19, xeC19, xhC19, xcl19, xgn, xtk, xmo19⟩ (kit_own yi7 yt7 ys7 xyp19_7) (isT_cons xaC20 ⟨xga20, xgg20, xeC20, xhC20, xcl20, xgn, xtk, xmo20⟩ (kit_own yi7 yt7 ys7 xyp20_7) isT_nil)))))))))))))))))))))⟩,
    ⟨yC8, PySem.W.mg_of X G ya8, (isT_cons xaC0 ⟨xga0, xgg0, xeC0, xhC0, xcl0, xgn, xtk, xmo0⟩ (kit_own yi8 yt8 ys8 xyp0_8) (isT_cons xaC1 ⟨xga1, xgg1, xeC1, xhC1, xcl1, xgn, xtk, xmo1⟩ (kit_own yi8 yt8 ys8 xyp1_8) (isT_cons xaC2 ⟨xga2, xgg2, xeC2, xhC2, xcl2, xgn, xtk, xmo2⟩ (kit_own yi8 yt8 ys8 xyp2_8) (isT_cons xaC3 ⟨xga3, xgg3, xeC3, xhC3, xcl3, xgn, xtk, xmo3⟩ (kit_own yi8 yt8 ys8 xyp3_8) (isT_cons xaC4 ⟨xga4, xgg4, xeC4, xhC4, xcl4, xgn, xtk, xmo4⟩ (kit_own yi8 yt8 ys8 xyp4_8) (isT_cons xaC5 ⟨xga5, xgg5, xeC5, xhC5, xcl5, xgn, xtk, xmo5⟩ (kit_own yi8 yt8 ys8 xyp5_8) (isT_cons xaC6 ⟨xga6, xgg6, xeC6, xhC6, xcl6, xgn, xtk, xmo6⟩ (kit_own yi8 yt8 ys8 xyp6_8) (isT_cons xaC7 ⟨xga7, xgg7, xeC7, xhC7, xcl7, xgn, xtk, xmo7⟩ (kit_own yi8 yt8 ys8 xyp7_8) (isT_cons xaC8 ⟨xga8, xgg8, xeC8, xhC8, xcl8, xgn, xtk, xmo8⟩ (kit_own yi8 yt8 ys8 xyp8_8) (isT_cons xaC9 ⟨xga9, xgg9, xeC9, xhC9, xcl9, xgn, xtk, xmo9⟩ (kit_own yi8 yt8 ys8 xyp9_8) (isT_cons xaC10 ⟨xga10, xgg10, xeC10, xhC10, xcl10, xgn, xtk, xmo10⟩ (kit_own yi8 yt8 ys8 xyp10_8) (isT_cons xaC11 ⟨xga11, xgg11, xeC11, xhC11, xcl11, xgn, xtk, xmo11⟩ (kit_own yi8 yt8 ys8 xyp11_8) (isT_cons xaC12 ⟨xga12, xgg12, xeC12, xhC12, xcl12, xgn, xtk, xmo12⟩ (kit_own yi8 yt8 ys8 xyp12_8) (isT_cons xaC13 ⟨xga13, xgg13, xeC13, xhC13, xcl13, xgn, xtk, xmo13⟩ (kit_own yi8 yt8 ys8 xyp13_8) (isT_cons xaC14 ⟨xga14, xgg14, xeC14, xhC14, xcl14, xgn, xtk, xmo14⟩ (kit_own yi8 yt8 ys8 xyp14_8) (isT_cons xaC15 ⟨xga15, xgg15, xeC15, xhC15, xcl15, xgn, xtk, xmo15⟩ (kit_own yi8 yt8 ys8 xyp15_8) (isT_cons xaC16 ⟨xga16, xgg16, xeC16, xhC16, xcl16, xgn, xtk, xmo16⟩ (kit_own yi8 yt8 ys8 xyp16_8) (isT_cons xaC17 ⟨xga17, xgg17, xeC17, xhC17, xcl17, xgn, xtk, xmo17⟩ (kit_own yi8 yt8 ys8 xyp17_8) (isT_cons xaC18 ⟨xga18, xgg18, xeC18, xhC18, xcl18, xgn, xtk, xmo18⟩ (kit_own yi8 yt8 ys8 xyp18_8) (isT_cons xaC19 ⟨xga19, xgg19, xeC19, xhC19, xcl19, xgn, xtk, xmo19⟩ (kit_own yi8 yt8 ys8 xyp19_8) (isT_cons xaC20 ⟨xga20, xgg20, xeC20, xhC20, xcl20, xgn, xtk, xmo20⟩ (kit_own yi8 yt8 ys8 xyp20_8) isT_nil)))))))))))))))))))))⟩,
    ⟨yC9, PySem.W.mg_of X G ya9, (isT_cons xaC0 ⟨xga0, xgg0, xeC0, xhC0, xcl0, xgn, xtk, xmo0⟩ (kit_own yi9 yt9 ys9 xyp0_9) (isT_cons xaC1 ⟨xga1, xgg1, xeC1, xhC1, xcl1, xgn, xtk, xmo1⟩ (kit_own yi9 yt9 ys9 xyp1_9) (isT_cons xaC2 ⟨xga2, xgg2, xeC2, xhC2, xcl2, xgn, xtk, xmo2⟩ (kit_own yi9 yt9 ys9 xyp2_9) (isT_cons xaC3 ⟨xga3, xgg3, xeC3, xhC3, xcl3, xgn, xtk, xmo3⟩ (kit_own yi9 yt9 ys9 xyp3_9) (isT_cons xaC4 ⟨xga4, xgg4, xeC4, xhC4, xcl4, xgn, xtk, xmo4⟩ (kit_own yi9 yt9 ys9 xyp4_9) (isT_cons xaC5 ⟨xga5, xgg5, xeC5, xhC5, xcl5, xgn, xtk, xmo5⟩ (kit_own yi9 yt9 ys9 xyp5_9) (isT_cons xaC6 ⟨xga6, xgg6, xeC6, xhC6, xcl6, xgn, xtk, xmo6⟩ (kit_own yi9 yt9 ys9 xyp6_9) (isT_cons xaC7 ⟨xga7, xgg7, xeC7, xhC7, xcl7, xgn, xtk, xmo7⟩ (kit_own yi9 yt9 ys9 xyp7_9) (isT_cons xaC8 ⟨xga8, xgg8, xeC8, xhC8, xcl8, xgn, xtk, xmo8⟩ (kit_own yi9 yt9 ys9 xyp8_9) (isT_cons xaC9 ⟨xga9, xgg9, xeC9, xhC9, xcl9, xgn, xtk, xmo9⟩ (kit_own yi9 yt9 ys9 xyp9_9) (isT_cons xaC10 ⟨xga10, xgg10, xeC10, xhC10, xcl10, xgn, xtk, xmo10⟩ (kit_own yi9 yt9 ys9 xyp10_9) (isT_cons xaC11 ⟨xga11, xgg11, xeC11, xhC11, xcl11, xgn, xtk, xmo11⟩ (kit_own yi9 yt9 ys9 xyp11_9) (isT_cons xaC12 ⟨xga12, xgg12, xeC12, xhC12, xcl12, xgn, xtk, xmo12⟩ (kit_own yi9 yt9 ys9 xyp12_9) (isT_cons xaC13 ⟨xga13, xgg13, xeC13, xhC13, xcl13, xgn, xtk, xmo13⟩ (kit_own yi9 yt9 ys9 xyp13_9) (isT_cons xaC14 ⟨xga14, xgg14, xeC14, xhC14, xcl14, xgn, xtk, xmo14⟩ (kit_own yi9 yt9 ys9 xyp14_9) (isT_cons xaC15 ⟨xga15, xgg15, xeC15, xhC15, xcl15, xgn, xtk, xmo15⟩ (kit_own yi9 yt9 ys9 xyp15_9) (isT_cons xaC16 ⟨xga16, xgg16, xeC16, xhC16, xcl16, xgn, xtk, xmo16⟩ (kit_own yi9 yt9 ys9 xyp16_9) (isT_cons xaC17 ⟨xga17, xgg17, xeC17, xhC17, xcl17, xgn, xtk, xmo17⟩ (kit_own yi9 yt9 ys9 xyp17_9) (isT_cons xaC18 ⟨xga18, xgg18, xeC18, xhC18, xcl18, xgn, xtk, xmo18⟩ (kit_own yi9 yt9 ys9 xyp18_9) (isT_cons xaC19 ⟨xga19, xgg19, xeC19, xhC19, xcl19, xgn, xtk, xmo19⟩ (kit_own yi9 yt9 ys9 xyp19_9) (isT_cons xaC20 ⟨xga20, xgg20, xeC20, xhC20, xcl20, xgn, xtk, xmo20⟩ (kit_own yi9 yt9 ys9 xyp20_9) isT_nil)))))))))))))))))))))⟩,
    ⟨yC10, PySem.W.mg_of X G ya10, (isT_cons xaC0 ⟨xga0, xgg0, xeC0, xhC0, xcl0, xgn, xtk, xmo0⟩ (kit_own yi10 yt10 ys10 xyp0_10) (isT_cons xaC1 ⟨xga1, xgg1, xeC1, xhC1, xcl1, xgn, xtk, xmo1⟩ (kit_own yi10 yt10 ys10 xyp1_10) (isT_cons xaC2 ⟨xga2, xgg2, xeC2, xhC2, xcl2, xgn, xtk, xmo2⟩ (kit_own yi10 yt10 ys10 xyp2_10) (isT_cons xaC3 ⟨xga3, xgg3, xeC3, xhC3, xcl3, xgn, xtk, xmo3⟩ (kit_own yi10 yt10 ys10 xyp3_10) (isT_cons xaC4 ⟨xga4, xgg4, xeC4, xhC4, xcl4, xgn, xtk, xmo4⟩ (kit_own yi10 yt10 ys10 xyp4_10) (isT_cons xaC5 ⟨xga5, xgg5, xeC5, xhC5, xcl5, xgn, xtk, xmo5⟩ (kit_own yi10 yt10 ys10 xyp5_10) (isT_cons xaC6 ⟨xga6, xgg6, xeC6, xhC6, xcl6, xgn, xtk, xmo6⟩ (kit_own yi10 yt10 ys10 xyp6_10) (isT_cons xaC7 ⟨xga7, xgg7, xeC7, xhC7, xcl7, xgn, xtk, xmo7⟩ (kit_own yi10 yt10 ys10 xyp7_10) (isT_cons xaC8 ⟨xga8, xgg8, xeC8, xhC8, xcl8, xgn, xtk, xmo8⟩ (kit_own yi10 yt10 ys10 xyp8_10) (isT_cons xaC9 ⟨xga9, xgg9, xeC9, xhC9, xcl9, xgn, xtk, xmo9⟩ (kit_own yi10 yt10 ys10 xyp9_10) (isT_cons xaC10 ⟨xga10, xgg10, xeC10, xhC10, xcl10, xgn, xtk, xmo10⟩ (kit_own yi10 yt10 ys10 xyp10_10) (isT_cons xaC11 ⟨xga11, xgg11, xeC11, xhC11, xcl11, xgn, xtk, xmo11⟩ (kit_own yi10 yt10 ys10 xyp11_10) (isT_cons xaC12 ⟨xga12, xgg12, xeC12, xhC12, xcl12, xgn, xtk, xmo12⟩ (kit_own yi10 yt10 ys10 xyp12_10) (isT_cons xaC13 ⟨xga13, xgg13, xeC13, xhC13, xcl13, xgn, xtk, xmo13⟩ (kit_own yi10 yt10 ys10 xyp13_10) (isT_cons xaC14 ⟨xga14, xgg14, xeC14, xhC14, xcl14, xgn, xtk, xmo14⟩ (kit_own yi10 yt10 ys10 xyp14_10) (isT_cons xaC15 ⟨xga15, xgg15, xeC15, xhC15, xcl15, xgn, xtk, xmo15⟩ (kit_own yi10 yt10 ys10 xyp15_10) (isT_cons xaC16 ⟨xga16, xgg16, xeC16, xhC16, xcl16, xgn, xtk, xmo16⟩ (kit_own yi10 yt10 ys10 xyp16_10) (isT_cons xaC17 ⟨xga17, xgg17, xeC17, xhC17, xcl17, xgn, xtk, xmo17⟩ (kit_own yi10 yt10 ys10 xyp17_10) (isT_cons xaC18 ⟨xga18, xgg18, xeC18, xhC18, xcl18, xgn, xtk, xmo18⟩ (kit_own yi10 yt10 ys10 xyp18_10) (isT_cons xaC19 ⟨xga19, xgg19, xeC19, xhC19, xcl19, xgn, xtk, xmo19⟩ (kit_own yi10 yt10 ys10 xyp19_10) (isT_cons xaC20 ⟨xga20, xgg20, xeC20, xhC20, xcl20, xgn, xtk, xmo20⟩ (kit_own yi10 yt10 ys10 xyp20_10) isT_nil)))))))))))))))))))))⟩,
    ⟨yC11, PySem.W.mg_of X G ya11, (isT_cons xaC0 ⟨xga0, xgg0, xeC0, xhC0, xcl0, xgn, xtk, xmo0⟩ (kit_own yi11 yt11 ys11 xyp0_11) (isT_cons xaC1 ⟨xga1, xgg1, xeC1, xhC1, xcl1, xgn, xtk, xmo1⟩ (kit_own yi11 yt11 ys11 xyp1_11) (isT_cons xaC2 ⟨xga2, xgg2, xeC2, xhC2, xcl2, xgn, xtk, xmo2⟩ (kit_own yi11 yt11 ys11 xyp2_11) (isT_cons xaC3 ⟨xga3, xgg3, xeC3, xhC3, xcl3, xgn, xtk, xmo3⟩ (kit_own yi11 yt11 ys11 xyp3_11) (isT_cons xaC4 ⟨xga4, xgg4, xeC4, xhC4, xcl4, xgn, xtk, xmo4⟩ (kit_own yi11 yt11 ys11 xyp4_11) (isT_cons xaC5 ⟨xga5, xgg5, xeC5, xhC5, xcl5, xgn, xtk, xmo5⟩ (kit_own yi11 yt11 ys11 xyp5_11) (isT_cons xaC6 ⟨xga6, xgg6, xeC6, xhC6, xcl6, xgn, xtk, xmo6⟩ (kit_own yi11 yt11 ys11 xyp6_11) (isT_cons xaC7 ⟨xga7, xgg7, xeC7, xhC7, xcl7, xgn, xtk, xmo7⟩ (kit_own yi11 yt11 ys11 xyp7_11) (isT_cons xaC8 ⟨xga8, xgg8, xeC8, xhC8, xcl8, xgn, xtk, xmo8⟩ (kit_own yi11 yt11 ys11 xyp8_11) (isT_cons xaC9 ⟨xga9, xgg9, xeC9, xhC9, xcl9, xgn, xtk, xmo9⟩ (kit_own yi11 yt11 ys11 xyp9_11) (isT_cons xaC10 ⟨xga10, xgg10, xeC10, xhC10, xcl10, xgn, xtk, xmo10⟩ (kit_own yi11 yt11 ys11 xyp10_11) (isT_cons xaC11 ⟨xga11, xgg11, xeC11, xhC11, xcl11, xgn, xtk, xmo11⟩ (kit_own yi11 yt11 ys11 xyp11_11) (isT_cons xaC12 ⟨xga12, xgg12, xeC12, xhC12, xcl12, xgn, xtk, xmo12⟩ (kit_own yi11 yt11 ys11 xyp12_11) (isT_cons xaC13 ⟨xga13, xgg13, xeC13, xhC13, xcl13, xgn, xtk, xmo13⟩ (kit_own yi11 yt11 ys11 xyp13_11) (isT_cons xaC14 ⟨xga14, xgg14, xeC14, xhC14, xcl14, xgn, xtk, xmo14⟩ (kit_own yi11 yt11 ys11 xyp14_11) (isT_cons xaC15 ⟨xga15, xgg15, xeC15, xhC15, xcl15, xgn, xtk, xmo15⟩ (kit_own yi11 yt11 ys11 xyp15_11) (isT_cons xaC16 ⟨xga16, xgg16, xeC16, xhC16, xcl16, xgn, xtk, xmo16⟩ (kit_own yi11 yt11 ys11 xyp16_11) (isT_cons xaC17 ⟨xga17, xgg17, xeC17, xhC17, xcl17, xgn, xtk, xmo17⟩ (kit_own yi11 yt11 ys11 xyp17_11) (isT_cons xaC18 ⟨xga18, xgg18, xeC18, xhC18, xcl18, xgn, xtk, xmo18⟩ (kit_own yi11 yt11 ys11 xyp18_11) (isT_cons xaC19 ⟨xga19, xgg19, xeC19, xhC19, xcl19, xgn, xtk, xmo19⟩ (kit_own yi11 yt11 ys11 xyp19_11) (isT_cons xaC20 ⟨xga20, xgg20, xeC20, xhC20, xcl20, xgn, xtk, xmo20⟩ (kit_own yi11 yt11 ys11 xyp20_11) isT_nil)))))))))))))))))))))⟩,
    ⟨yC12, PySem.W.mg_of X G ya12, (isT_cons xaC0 ⟨xga0, xgg0, xeC0, xhC0, xcl0, xgn, xtk, xmo0⟩ (kit_own yi12 yt12 ys12 xyp0_12) (isT_cons xaC1 ⟨xga1, xgg1, xeC1, xhC1, xcl1, xgn, xtk, xmo1⟩ (kit_own yi12 yt12 ys12 xyp1_12) (isT_cons xaC2 ⟨xga2, xgg2, xeC2, xhC2, xcl2, xgn, xtk, xmo2⟩ (kit_own yi12 yt12 ys12 xyp2_12) (isT_cons xaC3 ⟨xga3, xgg3, xeC3, xhC3, xcl3, xgn, xtk, xmo3⟩ (kit_own yi12 yt12 ys12 xyp3_12) (isT_cons xaC4 ⟨xga4, xgg4, xeC4, xhC4, xcl4, xgn, xtk, xmo4⟩ (kit_own yi12 yt12 ys12 xyp4_12) (isT_cons xaC5 ⟨xga5, xgg5, xeC5, xhC5, xcl5, xgn, xtk, xmo5⟩ (kit_own yi12 yt12 ys12 xyp5_12) (isT_cons xaC6 ⟨xga6, xgg6, xeC6, xhC6, xcl6, xgn, xtk, xmo6⟩ (kit_own yi12 yt12 ys12 xyp6_12) (isT_cons xaC7 ⟨xga7, xgg7, xeC7, xhC7, xcl7, xgn, xtk, xmo7⟩ (kit_own yi12 yt12 ys12 xyp7_12) (isT_cons xaC8 ⟨xga8, xgg8, xeC8, xhC8, xcl8, xgn, xtk, xmo8⟩ (kit_own yi12 yt12 ys12 xyp8_12) (isT_cons xaC9 ⟨xga9, xgg9, xeC9, xhC9, xcl9, xgn, xtk, xmo9⟩ (kit_own yi12 yt12 ys12 xyp9_12) (isT_cons xaC10 ⟨xga10, xgg10, xeC10, xhC10, xcl10, xgn, xtk, xmo10⟩ (kit_own yi12 yt12 ys12 xyp10_12) (isT_cons xaC11 ⟨xga11, xgg11, xeC11, xhC11, xcl11, xgn, xtk, xmo11⟩ (kit_own yi12 yt12 ys12 xyp11_12) (isT_cons xaC12 ⟨xga12, xgg12, xeC12, xhC12, xcl12, xgn, xtk, xmo12⟩ (kit_own yi12 yt12 ys12 xyp12_12) (isT_cons xaC13 ⟨xga13, xgg13, xeC13, xhC13, xcl13, xgn, xtk, xmo13⟩ (kit_own yi12 yt12 ys12 xyp13_12) (isT_cons xaC14 ⟨xga14, xgg14, xeC14, xhC14, xcl14, xgn, xtk, xmo14⟩ (kit_own yi12 yt12 ys12 xyp14_12) (isT_cons xaC15 ⟨xga15, xgg15, xeC15, xhC15, xcl15, xgn, xtk, xmo15⟩ (kit_own yi12 yt12 ys12 xyp15_12) (isT_cons xaC16 ⟨xga16, xgg16, xeC16, xhC16, xcl16, xgn, xtk, xmo16⟩ (kit_own yi12 yt12 ys12 xyp16_12) (isT_cons xaC17 ⟨xga17, xgg17, xeC17, xhC17, xcl17, xgn, xtk, xmo17⟩ (kit_own yi12 yt12 ys12 xyp17_12) (isT_cons xaC18 ⟨xga18, xgg18, xeC18, xhC18, xcl18, xgn, xtk, xmo18⟩ (kit_own yi12 yt12 ys12 xyp18_12) (isT_cons xaC19 ⟨xga19, xgg19, xeC19, xhC19, xcl19, xgn, xtk, xmo19⟩ (kit_own yi12 yt12 ys12 xyp19_12) (isT_cons xaC20 ⟨xga20, xgg20, xeC20, xhC20, xcl20, xgn, xtk, xmo20⟩ (kit_own yi12 yt12 ys12 xyp20_12) isT_nil)))))))))))))))))))))⟩,
    ⟨yC13, PySem.W.mg_of X G ya13, (isT_cons xaC0 ⟨xga0, xgg0, xeC0, xhC0, xcl0, xgn, xtk, xmo0⟩ (kit_own yi13 yt13 ys13 xyp0_13) (isT_cons xaC1 ⟨xga1, xgg1, xeC1, xhC1, xcl1, xgn, xtk, xmo1⟩ (kit_own yi13 yt13 ys13 xyp1_13) (isT_cons xaC2 ⟨xga2, xgg2, xeC2, xhC2, xcl2, xgn, xtk, xmo2⟩ (kit_own yi13 yt13 ys13 xyp2_13) (isT_cons xaC3 ⟨xga3, xgg3, xeC3, xhC3, xcl3, xgn, xtk, xmo3⟩ (kit_own yi13 yt13 ys13 xyp3_13) (isT_cons xaC4 ⟨xga4, xgg4, xeC4, xhC4, xcl4, xgn, xtk, xmo4⟩ (kit_own yi13 yt13 ys13 xyp4_13) (isT_cons xaC5 ⟨xga5, xgg5, xeC5, xhC5, xcl5, xgn, xtk, xmo5⟩ (kit_own yi13 yt13 ys13 xyp5_13) (isT_cons xaC6 ⟨xga6, xgg6, xeC6, xhC6, xcl6, xgn, xtk, xmo6⟩ (kit_own yi13 yt13 ys13 xyp6_13) (isT_cons xaC7 ⟨xga7, xgg7, xeC7, xhC7, xcl7, xgn, xtk, xmo7⟩ (kit_own yi13 yt13 ys13 xyp7_13) (isT_cons xaC8 ⟨xga8, xgg8, xeC8, xhC8, xcl8, xgn, xtk, xmo8⟩ (kit_own yi13 yt13 ys13 xyp8_13) (isT_cons xaC9 ⟨xga9, xgg9, xeC9, xhC9, xcl9, xgn, xtk, xmo9⟩ (kit_own yi13 yt13 ys13 xyp9_13) (isT_cons xaC10 ⟨xga10, xgg10, xeC10, xhC10, xcl10, xgn, xtk, xmo10⟩ (kit_own yi13 yt13 ys13 xyp10_13) (isT_cons xaC11 ⟨xga11, xgg11, xeC11, xhC11, xcl11, xgn, xtk, xmo11⟩ (kit_own yi13 yt13 ys13 xyp11_13) (isT_cons xaC12 ⟨xga12, xgg12, xeC12, xhC12, xcl12, xgn, xtk, xmo12⟩ (kit_own yi13 yt13 ys13 xyp12_13) (isT_cons xaC13 ⟨xga13, xgg13, xeC13, xhC13, xcl13, xgn, xtk, xmo13⟩ (kit_own yi13 yt13 ys13 xyp13_13) (isT_cons xaC14 ⟨xga14, xgg14, xeC14, xhC14, xcl14, xgn, xtk, xmo14⟩ (kit_own yi13 yt13 ys13 xyp14_13) (isT_cons xaC15 ⟨xga15, xgg15, xeC15, xhC15, xcl15, xgn, xtk, xmo15⟩ (kit_own yi13 yt13 ys13 xyp15_13) (isT_cons xaC16 ⟨xga16, xgg16, xeC16, xhC16, xcl16, xgn, xtk, xmo16⟩ (kit_own yi13 yt13 ys13 xyp16_13) (isT_cons xaC17 ⟨xga17, xgg17, xeC17, xhC17, xcl17, xgn, xtk, xmo17⟩ (kit_own yi13 yt13 ys13 xyp17_13) (isT_cons xaC18 ⟨xga18, xgg18, xeC18, xhC18, xcl18, xgn, xtk, xmo18⟩ (kit_own yi13 yt13 ys13 xyp18_13) (isT_cons xaC19 ⟨xga19, xgg19, xeC19, xhC19, xcl19, xgn, xtk, xmo19⟩ (kit_own yi13 yt13 ys13 xyp19_13) (isT_cons xaC20 ⟨xga20, xgg20, xeC20, xhC20, xcl20, xgn, xtk, xmo20⟩ (kit_own yi13 yt13 ys13 xyp20_13) isT_nil)))))))))))))))))))))⟩,
    ⟨yC14, PySem.W.mg_of X G ya14, (isT_cons xaC0 ⟨xga0, xgg0, xeC0, xhC0, xcl0, xgn, xtk, xmo0⟩ (kit_own yi14 yt14 ys14 xyp0_14) (isT_cons xaC1 ⟨xga1, xgg1, xeC1, xhC1, xcl1, xgn, xtk, xmo1⟩ (kit_own yi14 yt14 ys14 xyp1_14) (isT_cons xaC2 ⟨xga2, xgg2, xeC2, xhC2, xcl2, xgn, xtk, xmo2⟩ (kit_own yi14 yt14 ys14 xyp2_14) (isT_cons xaC3 ⟨xga3, xgg3, xeC3, xhC3, xcl3, xgn, xtk, xmo3⟩ (kit_own yi14 yt14 ys14 xyp3_14) (isT_cons xaC4 ⟨xga4, xgg4, xeC4, xhC4, xcl4, xgn, xtk, xmo4⟩ (kit_own yi14 yt14 ys14 xyp4_14) (isT_cons xaC5 ⟨xga5, xgg5, xeC5, xhC5, xcl5, xgn, xtk, xmo5⟩ (kit_own yi14 yt14 ys14 xyp5_14) (isT_cons xaC6 ⟨xga6, xgg6, xeC6, xhC6, xcl6, xgn, xtk, xmo6⟩ (kit_own yi14 yt14 ys14 xyp6_14) (isT_cons xaC7 ⟨xga7, xgg7, xeC7, xhC7, xcl7, xgn, xtk, xmo7⟩ (kit_own yi14 yt14 ys14 xyp7_14) (isT_cons xaC8 ⟨xga8, xgg8, xeC8, xhC8, xcl8, xgn, xtk, xmo8⟩ (kit_own yi14 yt14 ys14 xyp8_14) (isT_cons xaC9 ⟨xga9, xgg9, xeC9, xhC9, xcl9, xgn, xtk, xmo9⟩ (kit_own yi14 yt14 ys14 xyp9_14) (isT_cons xaC10 ⟨xga10, xgg10, xeC10, xhC10, xcl10, xgn, xtk, xmo10⟩ (kit_own yi14 yt14 ys14 xyp10_14) (isT_cons xaC11 ⟨xga11, xgg11, xeC11, xhC11, xcl11, xgn, xtk, xmo11⟩ (kit_own yi14 yt14 ys14 xyp11_14) (isT_cons xaC12 ⟨xga12, xgg12, xeC12, xhC12, xcl12, xgn, xtk, xmo12⟩ (kit_own yi14 yt14 ys14 xyp12_14) (isT_cons xaC13 ⟨xga13, xgg13, xeC13, xhC13, xcl13, xgn, xtk, xmo13⟩ (kit_own yi14 yt14 ys14 xyp13_14) (isT_cons xaC14 ⟨xga14, xgg14, xeC14, xhC14, xcl14, xgn, xtk, xmo14⟩ (kit_own yi14 yt14 ys14 xyp14_14) (isT_cons xaC15 ⟨xga15, xgg15, xeC15, xhC15, xcl15, xgn, xtk, xmo15⟩ (kit_own yi14 yt14 ys14 xyp15_14) (isT_cons xaC16 ⟨xga16, xgg16, xeC16, xhC16, xcl16, xgn, xtk, xmo16⟩ (kit_own yi14 yt14 ys14 xyp16_14) (isT_cons xaC17 ⟨xga17, xgg17, xeC17, xhC17, xcl17, xgn, xtk, xmo17⟩ (kit_own yi14 yt14 ys14 xyp17_14) (isT_cons xaC18 ⟨xga18, xgg18, xeC18, xhC18, xcl18, xgn, xtk, xmo18⟩ (kit_own yi14 yt14 ys14 xyp18_14) (isT_cons xaC19 ⟨xga19, xgg19, xeC19, xhC19, xcl19, xgn, xtk, xmo19⟩ (kit_own yi14 yt14 ys14 xyp19_14) (isT_cons xaC20 ⟨xga20, xgg20, xeC20, xhC20, xcl20, xgn, xtk, xmo20⟩ (kit_own yi14 yt14 ys14 xyp20_14) isT_nil)))))))))))))))))))))⟩,
    ⟨yC15, PySem.W.mg_of X G ya15, (isT_cons xaC0 ⟨xga0, xgg0, xeC0, xhC0, xcl0, xgn, xtk, xmo0⟩ (kit_own yi15 yt15 ys15 xyp0_15) (isT_cons xaC1 ⟨xga1, xgg1, xeC1, xhC1, xcl1, xgn, xtk, xmo1⟩ (kit_own yi15 yt15 ys15 xyp1_15) (isT_cons xaC2 ⟨xga2, xgg2, xeC2, xhC2, xcl2, xgn, xtk, xmo2⟩ (kit_own yi15 yt15 ys15 xyp2_15) (isT_cons xaC3 ⟨xga3, xgg3, xeC3, xhC3, xcl3, xgn, xtk, xmo3⟩ (kit_own yi15 yt15 ys15 xyp3_15) (isT_cons xaC4 ⟨xga4, xgg4, xeC4, xhC4, xcl4, xgn, xtk, xmo4⟩ (kit_own yi15 yt15 ys15 xyp4_15) (isT_cons xaC5 ⟨xga5, xgg5, xeC5, xhC5, xcl5, xgn, xtk, xmo5⟩ (kit_own yi15 yt15 ys15 xyp5_15) (isT_cons xaC6 ⟨xga6, xgg6, xeC6, xhC6, xcl6, xgn, xtk, xmo6⟩ (kit_own yi15 yt15 ys15 xyp6_15) (isT_cons xaC7 ⟨xga7, xgg7, xeC7, xhC7, xcl7, xgn, xtk, xmo7⟩ (kit_own yi15 yt15 ys15 xyp7_15) (isT_cons xaC8 ⟨xga8, xgg8, xeC8, xhC8, xcl8, xgn, xtk, xmo8⟩ (kit_own yi15 yt15 ys15 xyp8_15) (isT_cons xaC9 ⟨xga9, xgg9, xeC9, xhC9, xcl9, xgn, xtk, xmo9⟩ (kit_own yi15 yt15 ys15 xyp9_15) (isT_cons xaC10 ⟨xga10, xgg10, xeC10, xhC10, xcl10, xgn, xtk, xmo10⟩ (kit_own yi15 yt15 ys15 xyp10_15) (isT_cons xaC11 ⟨xga11, xgg11, xeC11, xhC11, xcl11, xgn, xtk, xmo11⟩ (kit_own yi15 yt15 ys15 xyp11_15) (isT_cons xaC12 ⟨xga12, xgg12, xeC12, xhC12, xcl12, xgn, xtk, xmo12⟩ (kit_own yi15 yt15 ys15 xyp12_15) (isT_cons xaC13 ⟨xga13, xgg13, xeC13, xhC13, xcl13, xgn, xtk, xmo13⟩ (kit_own yi15 yt15 ys15 xyp13_15) (isT_cons xaC14 ⟨xga14, xgg14, xeC14, xhC14, xcl14, xgn, xtk, xmo14⟩ (kit_own yi15 yt15 ys15 xyp14_15) (isT_cons xaC15 ⟨xga15, xgg15, xeC15, xhC15, xcl15, xgn, xtk, xmo15⟩ (kit_own yi15 yt15 ys15 xyp15_15) (isT_cons xaC16 ⟨xga16, xgg16, xeC16, xhC16, xcl16, xgn, xtk, xmo16⟩ (kit_own yi15 yt15 ys15 xyp16_15) (isT_cons xaC17 ⟨xga17, xgg17, xeC17, xhC17, xcl17, xgn, xtk, xmo17⟩ (kit_own yi15 yt15 ys15 xyp17_15) (isT_cons xaC18 ⟨xga18, xgg18, xeC18, xhC18, xcl18, xgn, xtk, xmo18⟩ (kit_own yi15 yt15 ys15 xyp18_15) (isT_cons xaC19 ⟨xga19, xgg19, xeC19, xhC19, xcl19, xgn, xtk, xmo19⟩ (kit_own yi15 yt15 ys15 xyp19_15) (isT_cons xaC20 ⟨xga20, xgg20, xeC20, xhC20, xcl20, xgn, xtk, xmo20⟩ (kit_own yi15 yt15 ys15 xyp20_15) isT_nil)))))))))))))))))))))⟩,
    ⟨yC16, PySem.W.mg_of X G ya16, (isT_cons xaC0 ⟨xga0, xgg0, xeC0, xhC0, xcl0, xgn, xtk, xmo0⟩ (kit_own yi16 yt16 ys16 xyp0_16) (isT_cons xaC1 ⟨xga1, xgg1, xeC1, xhC1, xcl1, xgn, xtk, xmo1⟩ (kit_own yi16 yt16 ys16 xyp1_16) (isT_cons xaC2 ⟨xga2, xgg2, xeC2, xhC2, xcl2, xgn, xtk, xmo2⟩ (kit_own yi16 yt16 ys16 xyp2_16) (isT_cons xaC3 ⟨xga3, xgg3, xeC3, xhC3, xcl3, xgn, xtk, xmo3⟩ (kit_own yi16 yt16 ys16 xyp3_16) (isT_cons xaC4 ⟨xga4, xgg4, xeC4, xhC4, xcl4, xgn, xtk, xmo4⟩ (kit_own yi16 yt16 ys16 xyp4_16) (isT_cons xaC5 ⟨xga5, xgg5, xeC5, xhC5, xcl5, xgn, xtk, xmo5⟩ (kit_own yi16 yt16 ys16 xyp5_16) (isT_cons xaC6 ⟨xga6, xgg6, xeC6, xhC6, xcl6, xgn, xtk, xmo6⟩ (kit_own yi16 yt16 ys16 xyp6_16) (isT_cons xaC7 ⟨xga7, xgg7, xeC7, xhC7, xcl7, xgn, xtk, xmo7⟩ (kit_own yi16 yt16 ys16 xyp7_16) (isT_cons xaC8 ⟨xga8, xgg8, xeC8, xhC8, xcl8, xgn, xtk, xmo8⟩ (kit_own yi16 yt16 ys16 xyp8_16) (isT_cons xaC9 ⟨xga9, xgg9, xeC9, xhC9, xcl9, xgn, xtk, xmo9⟩ (kit_own yi16 yt16 ys16 xyp9_16) (isT_cons xaC10 ⟨xga10, xgg10, xeC10, xhC10, xcl10, xgn, xtk, xmo10⟩ (kit_own yi16 yt16 ys16 xyp10_16) (isT_cons xaC11 ⟨xga11, xgg11, xeC11, xhC11, xcl11, xgn, xtk, xmo11⟩ (kit_own yi16 yt16 ys16 xyp11_16) (isT_cons xaC12 ⟨xga12, xgg12, xeC12, xhC12, xcl12, xgn, xtk, xmo12⟩ (kit_own yi16 yt16 ys16 xyp12_16) (isT_cons xaC13 ⟨xga13, xgg13, xeC13, xhC13, xcl13, xgn, xtk, xmo13⟩ (kit_own yi16 yt16 ys16 xyp13_16) (isT_cons xaC14 ⟨xga14, xgg14, xeC14, xhC14, xcl14, xgn, xtk, xmo14⟩ (kit_own yi16 yt16 ys16 xyp14_16) (isT_cons xaC15 ⟨xga15, xgg15, xeC15, xhC15, xcl15, xgn, xtk, xmo15⟩ (kit_own yi16 yt16 ys16 xyp15_16) (isT_cons xaC16 ⟨xga16, xgg16, xeC16, xhC16, xcl16, xgn, xtk, xmo16⟩ (kit_own yi16 yt16 ys16 xyp16_16) (isT_cons xaC17 ⟨xga17, xgg17, xeC17, xhC17, xcl17, xgn, xtk, xmo17⟩ (kit_own yi16 yt16 ys16 xyp17_16) (isT_cons xaC18 ⟨xga18, xgg18, xeC18, xhC18, xcl18, xgn, xtk, xmo18⟩ (kit_own yi16 yt16 ys16 xyp18_16) (isT_cons xaC19 ⟨xga19, xgg19, xeC19, xhC19, xcl19, xgn, xtk, xmo19⟩ (kit_own yi16 yt16 ys16 xyp19_16) (isT_cons xaC20 ⟨xga20, xgg20, xeC20, xhC20, xcl20, xgn, xtk, xmo20⟩ (kit_own yi16 yt16 ys16 xyp20_16) isT_nil)))))))))))))))))))))⟩,
    ⟨yC18, PySem.W.mg_of X G ya18, (isT_cons xaC0 ⟨xga0, xgg0, xeC0, xhC0, xcl0, xgn, xtk, xmo0⟩ (kit_own yi18 yt18 ys18 xyp0_18) (isT_cons xaC1 ⟨xga1, xgg1, xeC1, xhC1, xcl1, xgn, xtk, xmo1⟩ (kit_own yi18 yt18 ys18 xyp1_18) (isT_cons xaC2 ⟨xga2, xgg2, xeC2, xhC2, xcl2, xgn, xtk, xmo2⟩ (kit_own yi18 yt18 ys18 xyp2_18) (isT_cons xaC3 ⟨xga3, xgg3, xeC3, xhC3, xcl3, xgn, xtk, xmo3⟩ (kit_own yi18 yt18 ys18 xyp3_18) (isT_cons xaC4 ⟨xga4, xgg4, xeC4, xhC4, xcl4, xgn, xtk, xmo4⟩ (kit_own yi18 yt18 ys18 xyp4_18) (isT_cons xaC5 ⟨xga5, xgg5, xeC5, xhC5, xcl5, xgn, xtk, xmo5⟩ (kit_own yi18 yt18 ys18 xyp5_18) (isT_cons xaC6 ⟨xga6, xgg6, xeC6, xhC6, xcl6, xgn, xtk, xmo6⟩ (kit_own yi18 yt18 ys18 xyp6_18) (isT_cons xaC7 ⟨xga7, xgg7, xeC7, xhC7, xcl7, xgn, xtk, xmo7⟩ (kit_own yi18 yt18 ys18 xyp7_18) (isT_cons xaC8 ⟨xga8, xgg8, xeC8, xhC8, xcl8, xgn, xtk, xmo8⟩ (kit_own yi18 yt18 ys18 xyp8_18) (isT_cons xaC9 ⟨xga9, xgg9, xeC9, xhC9, xcl9, xgn, xtk, xmo9⟩ (kit_own yi18 yt18 ys18 xyp9_18) (isT_cons xaC10 ⟨xga10, xgg10, xeC10, xhC10, xcl10, xgn, xtk, xmo10⟩ (kit_own yi18 yt18 ys18 xyp10_18) (isT_cons xaC11 ⟨xga11, xgg11, xeC11, xhC11, xcl11, xgn, xtk, xmo11⟩ (kit_own yi18 yt18 ys18 xyp11_18) (isT_cons xaC12 ⟨xga12, xgg12, xeC12, xhC12, xcl12, xgn, xtk, xmo12⟩ (kit_own yi18 yt18 ys18 xyp12_18) (isT_cons xaC13 ⟨xga13, xgg13, xeC13, xhC13, xcl13, xgn, xtk, xmo13⟩ (kit_own yi18 yt18 ys18 xyp13_18) (isT_cons xaC14 ⟨xga14, xgg14, xeC14, xhC14, xcl14, xgn, xtk, xmo14⟩ (kit_own yi18 yt18 ys18 xyp14_18) (isT_cons xaC15 ⟨xga15, xgg15, xeC15, xhC15, xcl15, xgn, xtk, xmo15⟩ (kit_own yi18 yt18 ys18 xyp15_18) (isT_cons xaC16 ⟨xga16, xgg16, xeC16, xhC16, xcl16, xgn, xtk, xmo16⟩ (kit_own yi18 yt18 ys18 xyp16_18) (isT_cons xaC17 ⟨xga17, xgg17, xeC17, xhC17, xcl17, xgn, xtk, xmo17⟩ (kit_own yi18 yt18 ys18 xyp17_18) (isT_cons xaC18 ⟨xga18, xgg18, xeC18, xhC18, xcl18, xgn, xtk, xmo18⟩ (kit_own yi18 yt18 ys18 xyp18_18) (isT_cons xaC19 ⟨xga19, xgg19, xeC19, xhC19, xcl19, xgn, xtk, xmo19⟩ (kit_own yi18 yt18 ys18 xyp19_18) (isT_cons xaC20 ⟨xga20, xgg20, xeC20, xhC20, xcl20, xgn, xtk, xmo20⟩ (kit_own yi18 yt18 ys18 xyp20_18) isT_nil)))))))))))))))))))))⟩,
    ⟨yC19, PySem.W.mg_of X G ya19, (isT_cons xaC0 ⟨xga0, xgg0, xeC0, xhC0, xcl0, xgn, xtk, xmo0⟩ (kit_own yi19 yt19 ys19 xyp0_19) (isT_cons xaC1 ⟨xga1, xgg1, xeC1, xhC1, xcl1, xgn, xtk, xmo1⟩ (kit_own yi19 yt19 ys19 xyp1_19) (isT_cons xaC2 ⟨xga2, xgg2, xeC2, xhC2, xcl2, xgn, xtk, xmo2⟩ (kit_own yi19 yt19 ys19 xyp2_19) (isT_cons xaC3 ⟨xga3, xgg3, xeC3, xhC3, xcl3, xgn, xtk, xmo3⟩ (kit_own yi19 yt19 ys19 xyp3_19) (isT_cons xaC4 ⟨xga4, xgg4, xeC4, xhC4, xcl4, xgn, xtk, xmo4⟩ (kit_own yi19 yt19 ys19 xyp4_19) (isT_cons xaC5 ⟨xga5, xgg5, xeC5, xhC5, xcl5, xgn, xtk, xmo5⟩ (kit_own yi19 yt19 ys19 xyp5_19) (isT_cons xaC6 ⟨xga6, xgg6, xeC6, xhC6, xcl6, xgn, xtk, xmo6⟩ (kit_own yi19 yt19 ys19 xyp6_19) (isT_cons xaC7 ⟨xga7, xgg7, xeC7, xhC7, xcl7, xgn, xtk, xmo7⟩ (kit_own yi19 yt19 ys19 xyp7_19) (isT_cons xaC8 ⟨xga8, xgg8, xeC8, xhC8, xcl8, xgn, xtk, xmo8⟩ (kit_own yi19 yt19 ys19 xyp8_19) (isT_cons xaC9 ⟨xga9, xgg9, xeC9, xhC9, xcl9, xgn, xtk, xmo9⟩ (kit_own yi19 yt19 ys19 xyp9_19) (isT_cons xaC10 ⟨xga10, xgg10, xeC10, xhC10, xcl10, xgn, xtk, xmo10⟩ (kit_own yi19 yt19 ys19 xyp10_19) (isT_cons xaC11 ⟨xga11, xgg11, xeC11, xhC11, xcl11, xgn, xtk, xmo11⟩ (kit_own yi19 yt19 ys19 xyp11_19) (isT_cons xaC12 ⟨xga12, xgg12, xeC12, xhC12, xcl12, xgn, xtk, xmo12⟩ (kit_own yi19 yt19 ys19 xyp12_19) (isT_cons xaC13 ⟨xga13, xgg13, xeC13, xhC13, xcl13, xgn, xtk, xmo13⟩ (kit_own yi19 yt19 ys19 xyp13_19) (isT_cons xaC14 ⟨xga14, xgg14, xeC14, xhC14, xcl14, xgn, xtk, xmo14⟩ (kit_own yi19 yt19 ys19 xyp14_19) (isT_cons xaC15 ⟨xga15, xgg15, xeC15, xhC15, xcl15, xgn, xtk, xmo15⟩ (kit_own yi19 yt19 ys19 xyp15_19) (isT_cons xaC16 ⟨xga16, xgg16, xeC16, xhC16, xcl16, xgn, xtk, xmo16⟩ (kit_own yi19 yt19 ys19 xyp16_19) (isT_cons xaC17 ⟨xga17, xgg17, xeC17, xhC17, xcl17, xgn, xtk, xmo17⟩ (kit_own yi19 yt19 ys19 xyp17_19) (isT_cons xaC18 ⟨xga18, xgg18, xeC18, xhC18, xcl18, xgn, xtk, xmo18⟩ (kit_own yi19 yt19 ys19 xyp18_19) (isT_cons xaC19 ⟨xga19, xgg19, xeC19, xhC19, xcl19, xgn, xtk, xmo19⟩ (kit_own yi19 yt19 ys19 xyp19_19) (isT_cons xaC20 ⟨xga20, xgg20, xeC20, xhC20, xcl20, xgn, xtk, xmo20⟩ (kit_own yi19 yt19 ys19 xyp20_19) isT_nil)))))))))))))))))))))⟩,
    ⟨yC20, PySem.W.mg_of X G ya20, (isT_cons xaC0 ⟨xga0, xgg0, xeC0, xhC0, xcl0, xgn, xtk, xmo0⟩ (kit_own yi20 yt20 ys20 xyp0_20) (isT_cons xaC1 ⟨xga1, xgg1, xeC1, xhC1, xcl1, xgn, xtk, xmo1⟩ (kit_own yi20 yt20 ys20 xyp1_20) (isT_cons xaC2 ⟨xga2, xgg2, xeC2, xhC2, xcl2, xgn, xtk, xmo2⟩ (kit_own yi20 yt20 ys20 xyp2_20) (isT_cons xaC3 ⟨xga3, xgg3, xeC3, xhC3, xcl3, xgn, xtk, xmo3⟩ (kit_own yi20 yt20 ys20 xyp3_20) (isT_cons xaC4 ⟨xga4, xgg4, xeC4, xhC4, xcl4, xgn, xtk, xmo4⟩ (kit_own yi20 yt20 ys20 xyp4_20) (isT_cons xaC5 ⟨xga5, xgg5, xeC5, xhC5, xcl5, xgn, xtk, xmo5⟩ (kit_own yi20 yt20 ys20 xyp5_20) (isT_cons xaC6 ⟨xga6, xgg6, xeC6, xhC6, xcl6, xgn, xtk, xmo6⟩ (kit_own yi20 yt20 ys20 xyp6_20) (isT_cons xaC7 ⟨xga7, xgg7, xeC7, xhC7, xcl7, xgn, xtk, xmo7⟩ (kit_own yi20 yt20 ys20 xyp7_20) (isT_cons xaC8 ⟨xga8, xgg8, xeC8, xhC8, xcl8, xgn, xtk, xmo8⟩ (kit_own yi20 yt20 ys20 xyp8_20) (isT_cons xaC9 ⟨xga9, xgg9, xeC9, xhC9, xcl9, xgn, xtk, xmo9⟩ (kit_own yi20 yt20 ys20 xyp9_20) (isT_cons xaC10 ⟨xga10, xgg10, xeC10, xhC10, xcl10, xgn, xtk, xmo10⟩ (kit_own yi20 yt20 ys20 xyp10_20) (isT_cons xaC11 ⟨xga11, xgg11, xeC11, xhC11, xcl11, xgn, xtk, xmo11⟩ (kit_own yi20 yt20 ys20 xyp11_20) (isT_cons xaC12 ⟨xga12, xgg12, xeC12, xhC12, xcl12, xgn, xtk, xmo12⟩ (kit_own yi20 yt20 ys20 xyp12_20) (isT_cons xaC13 ⟨xga13, xgg13, xeC13, xhC13, xcl13, xgn, xtk, xmo13⟩ (kit_own yi20 yt20 ys20 xyp13_20) (isT_cons xaC14 ⟨xga14, xgg14, xeC14, xhC14, xcl14, xgn, xtk, xmo14⟩ (kit_own yi20 yt20 ys20 xyp14_20) (isT_cons xaC15 ⟨xga15, xgg15, xeC15, xhC15, xcl15, xgn, xtk, xmo15⟩ (kit_own yi20 yt20 ys20 xyp15_20) (isT_cons xaC16 ⟨xga16, xgg16, xeC16, xhC16, xcl16, xgn, xtk, xmo16⟩ (kit_own yi20 yt20 ys20 xyp16_20) (isT_cons xaC17 ⟨xga17, xgg17, xeC17, xhC17, xcl17, xgn, xtk, xmo17⟩ (kit_own yi20 yt20 ys20 xyp17_20) (isT_cons xaC18 ⟨xga18, xgg18, xeC18, xhC18, xcl18, xgn, xtk, xmo18⟩ (kit_own yi20 yt20 ys20 xyp18_20) (isT_cons xaC19 ⟨xga19, xgg19, xeC19, xhC19, xcl19, xgn, xtk, xmo19⟩ (kit_own yi20 yt20 ys20 xyp19_20) (isT_cons xaC20 ⟨xga20, xgg20, xeC20, xhC20, xcl20, xgn, xtk, xmo20⟩ (kit_own yi20 yt20 ys20 xyp20_20) isT_nil)))))))))))))))))))))⟩,
    (isT_cons xaC0 ⟨xga0, xgg0, xeC0, xhC0, xcl0, xgn, xtk, xmo0⟩ (kit_ty xyb0_ValueError) (isT_cons xaC1 ⟨xga1, xgg1, xeC1, xhC1, xcl1, xgn, xtk, xmo1⟩ (kit_ty xyb1_ValueError) (isT_cons xaC2 ⟨xga2, xgg2, xeC2, xhC2, xcl2, xgn, xtk, xmo2⟩ (kit_ty xyb2_ValueError) (isT_cons xaC3 ⟨xga3, xgg3, xeC3, xhC3, xcl3, xgn, xtk, xmo3⟩ (kit_ty xyb3_ValueError) (isT_cons xaC4 ⟨xga4, xgg4, xeC4, xhC4, xcl4, xgn, xtk, xmo4⟩ (kit_ty xyb4_ValueError) (isT_cons xaC5 ⟨xga5, xgg5, xeC5, xhC5, xcl5, xgn, xtk, xmo5⟩ (kit_ty xyb5_ValueError) (isT_cons xaC6 ⟨xga6, xgg6, xeC6, xhC6, xcl6, xgn, xtk, xmo6⟩ (kit_ty xyb6_ValueError) (isT_cons xaC7 ⟨xga7, xgg7, xeC7, xhC7, xcl7, xgn, xtk, xmo7⟩ (kit_ty xyb7_ValueError) (isT_cons xaC8 ⟨xga8, xgg8, xeC8, xhC8, xcl8, xgn, xtk, xmo8⟩ (kit_ty xyb8_ValueError) (isT_cons xaC9 ⟨xga9, xgg9, xeC9, xhC9, xcl9, xgn, xtk, xmo9⟩ (kit_ty xyb9_ValueError) (isT_cons xaC10 ⟨xga10, xgg10, xeC10, xhC10, xcl10, xgn, xtk, xmo10⟩ (kit_ty xyb10_ValueError) (isT_cons xaC11 ⟨xga11, xgg11, xeC11, xhC11, xcl11, xgn, xtk, xmo11⟩ (kit_ty xyb11_ValueError) (isT_cons xaC12 ⟨xga12, xgg12, xeC12, xhC12, xcl12, xgn, xtk, xmo12⟩ (kit_ty xyb12_ValueError) (isT_cons xaC13 ⟨xga13, xgg13, xeC13, xhC13, xcl13, xgn, xtk, xmo13⟩ (kit_ty xyb13_ValueError) (isT_cons xaC14 ⟨xga14, xgg14, xeC14, xhC14, xcl14, xgn, xtk, xmo14⟩ (kit_ty xyb14_ValueError) (isT_cons xaC15 ⟨xga15, xgg15, xeC15, xhC15, xcl15, xgn, xtk, xmo15⟩ (kit_ty xyb15_ValueError) (isT_cons xaC16 ⟨xga16, xgg16, xeC16, xhC16, xcl16, xgn, xtk, xmo16⟩ (kit_ty xyb16_ValueError) (isT_cons xaC17 ⟨xga17, xgg17, xeC17, xhC17, xcl17, xgn, xtk, xmo17⟩ (kit_ty xyb17_ValueError) (isT_cons xaC18 ⟨xga18, xgg18, xeC18, xhC18, xcl18, xgn, xtk, xmo18⟩ (kit_ty xyb18_ValueError) (isT_cons xaC19 ⟨xga19, xgg19, xeC19, xhC19, xcl19, xgn, xtk, xmo19⟩ (kit_ty xyb19_ValueError) (isT_cons xaC20 ⟨xga20, xgg20, xeC20, xhC20, xcl20, xgn, xtk, xmo20⟩ (kit_ty xyb20_ValueError) isT_nil))))))))))))))))))))),
    ⟨yC17, PySem.W.mg_of X G ya17, (exK_cons (PySem.W.mg_of X G xaC0) xaC0 (exm_own ye17 yi17 yt17 xyp0_17) (exK_cons (PySem.W.mg_of X G xaC1) xaC1 (exm_own ye17 yi17 yt17 xyp1_17) (exK_cons (PySem.W.mg_of X G xaC2) xaC2 (exm_own ye17 yi17 yt17 xyp2_17) (exK_cons (PySem.W.mg_of X G xaC3) xaC3 (exm_own ye17 yi17 yt17 xyp3_17) (exK_cons (PySem.W.mg_of X G xaC4) xaC4 (exm_own ye17 yi17 yt17 xyp4_17) (exK_cons (PySem.W.mg_of X G xaC5) xaC5 (exm_own ye17 yi17 yt17 xyp5_17) (exK_cons (PySem.W.mg_of X G xaC6) xaC6 (exm_own ye17 yi17 yt17 xyp6_17) (exK_cons (PySem.W.mg_of X G xaC7) xaC7 (exm_own ye17 yi17 yt17 xyp7_17) (exK_cons (PySem.W.mg_of X G xaC8) xaC8 (exm_own ye17 yi17 yt17 xyp8_17) (exK_cons (PySem.W.mg_of X G xaC9) xaC9 (exm_own ye17 yi17 yt17 xyp9_17) (exK_cons (PySem.W.mg_of X G xaC10) xaC10 (exm_own ye17 yi17 yt17 xyp10_17) (exK_cons (PySem.W.mg_of X G xaC11) xaC11 (exm_own ye17 yi17 yt17 xyp11_17) (exK_cons (PySem.W.mg_of X G xaC12) xaC12 (exm_own ye17 yi17 yt17 xyp12_17) (exK_cons (PySem.W.mg_of X G xaC13) xaC13 (exm_own ye17 yi17 yt17 xyp13_17) (exK_cons (PySem.W.mg_of X G xaC14) xaC14 (exm_own ye17 yi17 yt17 xyp14_17) (exK_cons (PySem.W.mg_of X G xaC15) xaC15 (exm_own ye17 yi17 yt17 xyp15_17) (exK_cons (PySem.W.mg_of X G xaC16) xaC16 (exm_own ye17 yi17 yt17 xyp16_17) (exK_cons (PySem.W.mg_of X G xaC17) xaC17 (exm_own ye17 yi17 yt17 xyp17_17) (exK_cons (PySem.W.mg_of X G xaC18) xaC18 (exm_own ye17 yi17 yt17 xyp18_17) (exK_cons (PySem.W.mg_of X G xaC19) xaC19 (exm_own ye17 yi17 yt17 xyp19_17) (exK_cons (PySem.W.mg_of X G xaC20) xaC20 (exm_own ye17 yi17 yt17 xyp20_17) exK_nil)))))))))))))))))))))⟩,
    ⟨xC20, xaC20, PySem.W.mg_of X G xaC20⟩,
    (vaT_cons xaC0 ⟨xga0, xgg0, xeC0, xhC0⟩ xnb0 (vaT_cons xaC1 ⟨xga1, xgg1, xeC1, xhC1⟩ xnb1 (vaT_cons xaC2 ⟨xga2, xgg2, xeC2, xhC2⟩ xnb2 (vaT_cons xaC3 ⟨xga3, xgg3, xeC3, xhC3⟩ xnb3 (vaT_cons xaC4 ⟨xga4, xgg4, xeC4, xhC4⟩ xnb4 (vaT_cons xaC5 ⟨xga5, xgg5, xeC5, xhC5⟩ xnb5 (vaT_cons xaC6 ⟨xga6, xgg6, xeC6, xhC6⟩ xnb6 (vaT_cons xaC7 ⟨xga7, xgg7, xeC7, xhC7⟩ xnb7 (vaT_cons xaC8 ⟨xga8, xgg8, xeC8, xhC8⟩ xnb8 (vaT_cons xaC9 ⟨xga9, xgg9, xeC9, xhC9⟩ xnb9 (vaT_cons xaC10 ⟨xga10, xgg10, xeC10, xhC10⟩ xnb10 (vaT_cons xaC11 ⟨xga11, xgg11, xeC11, xhC11⟩ xnb11 (vaT_cons xaC12 ⟨xga12, xgg12, xeC12, xhC12⟩ xnb12 (vaT_cons xaC13 ⟨xga13, xgg13, xeC13, xhC13⟩ xnb13 (vaT_cons xaC14 ⟨xga14, xgg14, xeC14, xhC14⟩ xnb14 (vaT_cons xaC15 ⟨xga15, xgg15, xeC15, xhC15⟩ xnb15 (vaT_cons xaC16 ⟨xga16, xgg16, xeC16, xhC16⟩ xnb16 (vaT_cons xaC17 ⟨xga17, xgg17, xeC17, xhC17⟩ xnb17 (vaT_cons xaC18 ⟨xga18, xgg18, xeC18, xhC18⟩ xnb18 (vaT_cons xaC19 ⟨xga19, xgg19, xeC19, xhC19⟩ xnb19 (vaT_cons xaC20 ⟨xga20, xgg20, xeC20, xhC20⟩ xnb20 vaT_nil)))))))))))))))))))))⟩
  exact ⟨PySem.W.fnOf "law" "law" (defArgs s_law) (defBody s_law) (defScope s_law) .none kV12 dc12 pm12 an12 cd12 ct12, fun s v => .of_eq rfl, fun base _ _ => law_fn (fn_law en) hfa ⟨_, _, _, l12⟩ main⟩
end Ck00

set_option Elab.async false
set_option linter.all false
set_option maxRecDepth 100000
set_option autoImplicit false
set_option maxHeartbeats 4000000
namespace Ck00
open PySem PySem.Spec PyProof.Rows L2 Z
local macro_rules
  | `(tactic| simp! only [$xs,*]) => `(tactic| simp only [bnd_at, rt_at, thn_ok, thn_ex, oRo_some, oMap_some, brn_t, brn_f, dName_at, slR_d, slR_a, slR_o, vl_d, vl_s, slV_d, slV_a, slV_o, dv_at, dEsc_at, esc_d, esc_s, escS_d, escS_o, dFz_at, dC_at, dNil_at, dCons_at, vNil_at, vCons_at, op2_at, op2r_at, op1_at, op1o_at, opN_at, opNo_at, vls_nil, vls_cons, cutR_at, oNone_at, oSome_at, dTup_at, dLst_at, dB_at, boolD_b, dNot_at, dAnd_at, dOr_at, dIfE_at, dAndV_at, dOrV_at, dNotV_at, dSeq_at, dsq_nx, dsq_rt, dsq_bk, dsq_ct, dsq_ex, sNx_at, sBk_at, sCt_at, sExpr_at, sRet_at, sRetO_at, sRetN_at, sRetV_at, retS_d, retS_o, sSet_at, sSetO_at, sIf_at, ownV_o, msNil_at, msD_at, msO_at, msR_at, gRo_some, sPar_at, setRs_nil, setRs_d, setRs_o, callP_at, callK_at, argO_some, callM_at, outR_ret, outR_ex, argD_nil, argD_v, argD_p, argD_m, argD_vn, argD_vs, Option.some.injEq, Nat.reduceEqDiff, mIx_m, mIx_v, mIx_p, mIx_nil, putM_none, putM_some, putO_o, call1_at, rD_at, rtD_d, rtD_o, rO_at, rtO_o, sExprR_at, sRetR_at, sSetR_at, setS_d, setS_o, runF_at, outF_nx, outF_rt, mOut_some, muOf_nil, muOf_m, muOf_v, muOf_p, chk_some, sSub_at, subS0, subS1, mutS_some, mutP_some, dMut_at, mixR_at, dChain_at, dRep_at, intD_i, rg1_at, rg2_at, dLstRg_go, rgL_ok, dTupRg_go, rgT_ok, dTupRg3_go, rgT3_ok, rgO1_ok, rgO2_ok, rgO3_ok, sm0, sm1, dIndexT_at, seqS_d, seqS_a, seqS_o, seqD_l, seqD_t, itR_d, itR_s, iV_at, iO_at, iR1_go, iR2_go, iR3_go, iEnV_at, iEnO_at, iZip_at, zipR_at, dcL_at, sSwap_at, c2L_at, sUnp_at, unpR_2, sUnpL_at, unpRL_2, sMove_at, moveV_o, moveV_d, mvR_some, swapR_at, sFor_at, compL_at, fAdd_i, fSub_i, fLt_i, fLe_i, fGt_i, fGe_i, fDiv_33, fPow_64, fPow_33, fPow_18, fNeg_i, fLen_l, fLen_t, fInt_i, fTuple_l, fList_l, fMax_2, fMin_2, fIx_l0, fIx_l1, fIx_l2, fEq_i, start0, svs, svK, svA, List.length_cons, List.length_nil, List.replicate, List.append_nil, List.cons_append, List.nil_append, List.getElem?_cons_zero, List.getElem?_cons_succ, List.set_cons_zero, List.set_cons_succ, Bool.not_true, Bool.not_false, decide_true, decide_false, ne_eq, not_false_eq_true, Nat.reduceAdd, Nat.reduceSub, fMul_take, fMul_7919, fMul_31, Nat.reduceLT, Int.reduceLT, Int.reduceEq, fMod_i, fDiv_i, bdz_ok, setT_nm, fgt_nil, fgt_cons, wipG_nil, wipG_cons, sz1, sz2, sz3, sz4, sz5, Nat.zero_le, fIs_ii, fIs_ib, fIs_is, fIs_itl, fIs_tt, fIs_tl, fIs_ttl, fIs_lt, fIs_ll, fIs_ltl, fAll_b, fSum_i, fBack_t, fBackL_l, $xs,*])
def Deck (l : List D) : Prop := ∃ a b : Int, l = [.int a, .int b]
theorem fPow_20 : fPow (.int 2) (.int 20) = some (.int 1048576) := Eq.trans rfl rfl
theorem fPow_30 : fPow (.int 10) (.int 30) = some (.int 1000000000000000000000000000000) := Eq.trans rfl rfl
theorem fPow_29 : fPow (.int 10) (.int 29) = some (.int 100000000000000000000000000000) := Eq.trans rfl rfl
theorem take_ok {l : List D} (hl : Deck l) (many : Int) (hm : 0 < many) (hs : many.natAbs.log2 < 9000) : ∃ (r : Int) (l' : List D), φ__law_take [.list l, .int many] = .ret (.d (.int r)) l' ∧ Deck l' ∧ 0 ≤ r ∧ r < many := by
  obtain ⟨a, b, rfl⟩ := hl
  have hd := fDiv_w a many hm hs
  have hd2 := fDiv_w b 1048576 (by decide) (by decide)
  by_cases h : 0 < a
  · refine ⟨a % many, [.int (a / many), .int b], ?_, ⟨_, _, rfl⟩, Int.emod_nonneg _ (by omega), Int.emod_lt_of_pos _ hm⟩
    unfold φ__law_take m__law_take
    simp! only [h, hm, hd]
  · refine ⟨(b * 6364136223846793005 + 1442695040888963407) % 18446744073709551616 / 1048576 % many, [.int a, .int ((b * 6364136223846793005 + 1442695040888963407) % 18446744073709551616)], ?_, ⟨_, _, rfl⟩, Int.emod_nonneg _ (by omega), Int.emod_lt_of_pos _ hm⟩
    unfold φ__law_take m__law_take
    simp! only [h, hm, fPow_20]
theorem natAbs_mod61 (x : Int) : (x % 2305843009213693951).natAbs < 18446744073709551616 := by
  have h1 := Int.emod_nonneg x (show (2305843009213693951 : Int) ≠ 0 by decide)
  have h2 := Int.emod_lt_of_pos x (show (0 : Int) < 2305843009213693951 by decide)
  omega
theorem deck_ok (ns : List Int) (k : Nat) : ∃ l' : List D, φ__law_deck [li ns, .int (k : Int)] = .ret (.own l') [] ∧ Deck l' := by
  have main : ∀ (cell : Int) (hc : brn (decide ((k : Int) < ns.length)) (sSet 2 (op2 fIx (dName 0) (dName 1))) sNx [.a (ns.map .int), .d (.int k), .d (.int 0), .u] = .ok .nx [.a (ns.map .int), .d (.int k), .d (.int cell), .u]), ∃ l' : List D, φ__law_deck [li ns, .int (k : Int)] = .ret (.own l') [] ∧ Deck l' := by
    intro cell hc
    obtain ⟨st, hst⟩ : ∃ st, st = (cell + 7919 * (k : Int) + 104729) % 2305843009213693951 := ⟨_, rfl⟩
    have z1 := natAbs_mod61 (cell + 7919 * k + 104729)
    rw [← hst] at z1
    by_cases h : cell < 1000000000000000000
    · refine ⟨[.int 0, .int ((st * st * st + 31 * k + 7) % 2305843009213693951)], ?_, ⟨_, _, rfl⟩⟩
      unfold φ__law_deck m__law_deck
      simp! only [List.length_map, hc, h, ← hst, fMul_r _ _ z1]
    · refine ⟨[.int (cell - 1000000000000000000), .int ((st * st * st + 31 * k + 7) % 2305843009213693951)], ?_, ⟨_, _, rfl⟩⟩
      unfold φ__law_deck m__law_deck
      simp! only [List.length_map, hc, h, ← hst, fMul_r _ _ z1]
  by_cases h : k < ns.length
  · refine main ns[k] ?_
    rw [decide_eq_true (by omega)]
    have hx : (ns.map PyData.int)[k]? = some (.int ns[k]) := by simp [h]
    simp! only [fIx_l hx]
  · refine main 0 ?_
    rw [decide_eq_false (by omega)]
    rfl
/-- data whose sequences are short -/
inductive Sh : Nat → D → Prop where
  | int (n : Nat) (i : Int) : Sh n (.int i)
  | bool (n : Nat) (b : Bool) : Sh n (.bool b)
  | non (n : Nat) : Sh n .none
  | str (n : Nat) (t : Str) (ht : fEq (.str t) (.str t) = some (.bool true)) : Sh n (.str t)
  | tup {n : Nat} {xs : List D} (hl : xs.length ≤ 100000) (h : ∀ x ∈ xs, Sh n x) : Sh (n + 1) (.tuple xs)
  | lst {n : Nat} {xs : List D} (hl : xs.length ≤ 100000) (h : ∀ x ∈ xs, Sh n x) : Sh (n + 1) (.list xs)
theorem same_ok : ∀ (n : Nat) (x : D), Sh n x → ∀ m, n < m → φ__law_same m [x, x] = .ret (.d (.bool true)) []
  | n, x, h, 0, hm => absurd hm (Nat.not_lt_zero _)
  | n, x, h, m + 1, hm => by
    have hf := fEq_li [] []
    rw [decide_eq_true rfl] at hf
    have hf : fEq (.list []) (.list []) = some (.bool true) := hf
    have bt : fNe (.bool true) (.bool true) = some (.bool false) := Eq.trans rfl rfl
    have bf : fNe (.bool false) (.bool false) = some (.bool false) := Eq.trans rfl rfl
    have ii : ∀ k : Int, fNe (.int k) (.int k) = some (.bool false) := fun k => by
      rw [fNe_gd (gd_int 0 k) (gd_int 0 k) (by decide) (by decide), (gd_int 0 k).eqv]
      rfl
    show runF 3 [.v, .v] (m__law_same (φ__law_same m)) [x, x] = _
    cases h with
    | int n i =>
      have e1 : fIsN (.int i) .none = some (.bool false) := Eq.trans rfl rfl
      unfold m__law_same
      simp! only [e1]
    | bool n b =>
      have e1 : fIs [.tuple, .list] (.bool b) = some (.bool false) := Eq.trans rfl rfl
      have e2 : fIsN (.bool b) .none = some (.bool false) := Eq.trans rfl rfl
      have e3 : fIs [.str] (.bool b) = some (.bool false) := Eq.trans rfl rfl
      have e4 : fIs [.bool] (.bool b) = some (.bool true) := Eq.trans rfl rfl
      have e5 : fEq (.bool b) (.bool b) = some (.bool true) := by
        rw [fEq_gd (gd_bool 0 b) (gd_bool 0 b) (by decide) (by decide), (gd_bool 0 b).eqv]
      unfold m__law_same
      simp! only [e1, e2, e3, e4, e5]
    | str n t ht =>
      have e1 : fIs [.tuple, .list] (.str t) = some (.bool false) := Eq.trans rfl rfl
      have e2 : fIsN (.str t) .none = some (.bool false) := Eq.trans rfl rfl
      have e3 : fIs [.str] (.str t) = some (.bool true) := Eq.trans rfl rfl
      unfold m__law_same
      simp! only [e1, e2, e3, ht]
    | non n =>
      have e1 : fIs [.tuple, .list] .none = some (.bool false) := Eq.trans rfl rfl
      have e2 : fIsN .none .none = some (.bool true) := Eq.trans rfl rfl
      unfold m__law_same
      simp! only [e1, e2]
    | tup hl hx =>
      rename_i k xs
      have hc := compB_fil (i := 2) (enc := PyData.int) (f := fun i => .int i) (p := fun _ => false) (mt := dNot (dB (rD (callP [.v, .v] (φ__law_same m) (vCons (dv (op2 fIx (dName 0) (dName 2))) (vCons (dv (op2 fIx (dName 1) (dName 2))) vNil)))))) (me := dEsc (dName 2)) (g := [.d (.tuple xs), .d (.tuple xs), .u]) (irange 0 xs.length) (by rw [irange_len]; omega) rfl fun i hi => by
        have hi' := irange_mem.mp hi
        have hlt : i.toNat < xs.length := by omega
        have hix := fIx_t (List.getElem?_eq_getElem hlt)
        rw [show ((i.toNat : Nat) : Int) = i by omega] at hix
        have := same_ok k _ (hx _ (List.getElem_mem hlt)) m (by omega)
        exact ⟨by simp! only [hix, this], fun z => nomatch z⟩
      rw [show (irange 0 xs.length).filter (fun _ => false) = [] from List.filter_eq_nil_iff.mpr (fun _ _ => Bool.false_ne_true), List.map_nil] at hc
      have hsm : Sm (xs.length : Int) := ⟨by omega, by omega⟩
      unfold m__law_same
      simp! only [bt, bf, ii, hsm, Int.toNat_natCast, hc, hf]
    | lst hl hx =>
      rename_i k xs
      have hc := compB_fil (i := 2) (enc := PyData.int) (f := fun i => .int i) (p := fun _ => false) (mt := dNot (dB (rD (callP [.v, .v] (φ__law_same m) (vCons (dv (op2 fIx (dName 0) (dName 2))) (vCons (dv (op2 fIx (dName 1) (dName 2))) vNil)))))) (me := dEsc (dName 2)) (g := [.a xs, .a xs, .u]) (irange 0 xs.length) (by rw [irange_len]; omega) rfl fun i hi => by
        have hi' := irange_mem.mp hi
        have hlt : i.toNat < xs.length := by omega
        have hix := fIx_l (List.getElem?_eq_getElem hlt)
        rw [show ((i.toNat : Nat) : Int) = i by omega] at hix
        have := same_ok k _ (hx _ (List.getElem_mem hlt)) m (by omega)
        exact ⟨by simp! only [hix, this], fun z => nomatch z⟩
      rw [show (irange 0 xs.length).filter (fun _ => false) = [] from List.filter_eq_nil_iff.mpr (fun _ _ => Bool.false_ne_true), List.map_nil] at hc
      have hsm : Sm (xs.length : Int) := ⟨by omega, by omega⟩
      unfold m__law_same
      simp! only [bt, bf, ii, hsm, Int.toNat_natCast, hc, hf]

theorem fEq_str {a b : Str} (h : PyData.strOk a = true) (k : PyData.strOk b = true) : fEq (.str a) (.str b) = some (.bool (a == b)) := fEq_gd (n := 0) (m := 0) ⟨h, Nat.zero_le _⟩ ⟨k, Nat.zero_le _⟩ (by decide) (by decide)
theorem ok_of (s : String) : PyData.strOk (Str.ofString s) = true := by
  rw [Str.ofString_eq_toList]
  unfold PyData.strOk
  dsimp only
  rw [List.all_toArray, List.all_map]
  refine List.all_eq_true.mpr fun c _ => decide_eq_true ?_
  have := c.valid
  rcases this with h | h
  · exact Nat.lt_trans h (by decide)
  · exact h.2
theorem eq_t (x y : String) (h : (Str.ofString x == Str.ofString y) = true) : fEq (.str (Str.ofString x)) (.str (Str.ofString y)) = some (.bool true) := by rw [fEq_str (ok_of _) (ok_of _), h]
theorem nth14 {P : D → Prop} {xs : List D} (h : ∀ x ∈ xs, P x) (i : Int) (h0 : 0 ≤ i) (h1 : i < xs.length) : ∃ x, fIx (.list xs) (.int i) = some x ∧ P x := by
  have hlt : i.toNat < xs.length := by omega
  have := fIx_l (List.getElem?_eq_getElem hlt)
  rw [show ((i.toNat : Nat) : Int) = i by omega] at this
  exact ⟨_, this, h _ (List.getElem_mem hlt)⟩
theorem sh_nil (n : Nat) : Sh (n + 1) (.tuple []) := .tup (by decide) (fun _ h => nomatch h)
theorem sh_nilL (n : Nat) : Sh (n + 1) (.list []) := .lst (by decide) (fun _ h => nomatch h)
theorem sh_tup2 {n : Nat} {x y : D} (h1 : Sh n x) (h2 : Sh n y) : Sh (n + 1) (.tuple [x, y]) := .tup (by simp) (by simp [h1, h2])
theorem sh_lst2 {n : Nat} {x y : D} (h1 : Sh n x) (h2 : Sh n y) : Sh (n + 1) (.list [x, y]) := .lst (by simp) (by simp [h1, h2])
theorem given_ok {l : List D} (hl : Deck l) : ∃ (x : D) (l' : List D), φ__law_given [.list l] = .ret (.d x) l' ∧ Deck l' ∧ Sh 3 x := by
  obtain ⟨f, l1, e1, d1, _, _⟩ := take_ok hl 1000000000000000000000000000000 (by decide) (by decide +kernel)
  obtain ⟨f2, l2, e2, d2, _, _⟩ := take_ok d1 9 (by decide) (by decide)
  obtain ⟨k, l3, e3, d3, k0, k1⟩ := take_ok d2 14 (by decide) (by decide)
  obtain ⟨far, hf⟩ : ∃ far, far = f - 100000000000000000000000000000 := ⟨_, rfl⟩
  have q1 : fEq (.str "") (.str "") = some (.bool true) := eq_t "" ""  (by decide +kernel)
  have q2 : fEq (.str "a b") (.str "a b") = some (.bool true) := eq_t "a b" "a b" (by decide +kernel)
  have q3 : fEq (.str "x") (.str "x") = some (.bool true) := eq_t "x" "x" (by decide +kernel)
  have q4 : fEq (.str "a") (.str "a") = some (.bool true) := eq_t "a" "a" (by decide +kernel)
  obtain ⟨x, hx, sx⟩ := nth14 (P := Sh 3) (xs := [.int far, .int f2, .str "", .str "a b", .none, .bool true, .bool false, .tuple [], .tuple [.int far, .int 1], .list [.int far, .str "x"], .tuple [.tuple [.int 1, .int 2], .tuple [.str "a", .tuple []]], .list [], .int (-1), .int 0])
    (List.forall_mem_cons.mpr ⟨.int _ _, List.forall_mem_cons.mpr ⟨.int _ _, List.forall_mem_cons.mpr ⟨.str _ _ q1, List.forall_mem_cons.mpr ⟨.str _ _ q2, List.forall_mem_cons.mpr ⟨.non _, List.forall_mem_cons.mpr ⟨.bool _ _, List.forall_mem_cons.mpr ⟨.bool _ _, List.forall_mem_cons.mpr ⟨sh_nil _, List.forall_mem_cons.mpr ⟨sh_tup2 (.int _ _) (.int _ _), List.forall_mem_cons.mpr ⟨sh_lst2 (.int _ _) (.str _ _ q3),
      List.forall_mem_cons.mpr ⟨sh_tup2 (sh_tup2 (.int _ _) (.int _ _)) (sh_tup2 (.str _ _ q4) (sh_nil _)), List.forall_mem_cons.mpr ⟨sh_nilL _, List.forall_mem_cons.mpr ⟨.int _ _, List.forall_mem_cons.mpr ⟨.int _ _, fun _ h => nomatch h⟩⟩⟩⟩⟩⟩⟩⟩⟩⟩⟩⟩⟩⟩) k k0 k1
  refine ⟨x, l3, ?_, d3, sx⟩
  have s14 : 14 ≤ sizeLine := by rw [sizeLine_eq]; decide
  unfold φ__law_given m__law_given
  simp! only [s14, fPow_30, fPow_29, e1, e2, e3, ← hf, hx]
theorem sRaise_at (c : Str) (m : M D) (g : En) : sRaise c m g = (m g).thn (c := ⟨fun x g1 => .ex c x g1⟩) := Eq.trans rfl rfl
theorem outF_ex (ks : List Pk) (g : En) (c : Str) (x : D) (ms : List D) (h : muOf ks g = some ms) : outF ks (.ex c x g) = .ex c x ms := by
  unfold outF
  dsimp only
  rw [h]
theorem fAdd_ll (xs ys : List D) : fAdd (.list xs) (.list ys) = none := Eq.trans rfl rfl
theorem fCat_ok (xs ys : List D) (h : xs.length + ys.length ≤ 100000) : fCat (.list xs) (.list ys) = some (xs ++ ys) := if_pos (sz_le h)
theorem pick0 (r : Rs) : pick [0] [r] = [r] := Eq.trans rfl rfl
theorem same_arg (x : D) (h : Sh 3 x) : φ__law_same 4 [x, x] = .ret (.d (.bool true)) [] := same_ok 3 x h 4 (by decide)
inductive Cl : Int → Str → Prop
  | c0 : Cl 0 "InvalidOrder"
  | c1 : Cl 1 "InvalidPattern"
  | c2 : Cl 2 "InvalidList"
  | c3 : Cl 3 "InvalidForm"
  | c4 : Cl 4 "InvalidLetter"
  | c5 : Cl 5 "InvalidWord"
  | c6 : Cl 6 "InvalidKind"
  | c7 : Cl 7 "InvalidNumber"
  | c8 : Cl 8 "InvalidPair"
  | c9 : Cl 9 "InvalidMachine"
  | c10 : Cl 10 "NoMachine"
  | c11 : Cl 11 "InvalidTape"
  | c12 : Cl 12 "InvalidSorter"
  | c13 : Cl 13 "InvalidSaying"
  | c14 : Cl 14 "InvalidName"
  | c15 : Cl 15 "NotLet"
  | c16 : Cl 16 "UnknownName"
  | c17 : Cl 17 "NothingToUndo"
  | c18 : Cl 18 "Unreadable"
  | c19 : Cl 19 "Unorderly"
theorem cl_all (i : Int) (h0 : 0 ≤ i) (h1 : i < 20) : ∃ c, Cl i c := by
  have : i = 0 ∨ i = 1 ∨ i = 2 ∨ i = 3 ∨ i = 4 ∨ i = 5 ∨ i = 6 ∨ i = 7 ∨ i = 8 ∨ i = 9 ∨ i = 10 ∨ i = 11 ∨ i = 12 ∨ i = 13 ∨ i = 14 ∨ i = 15 ∨ i = 16 ∨ i = 17 ∨ i = 18 ∨ i = 19 := by omega
  rcases this with rfl | rfl | rfl | rfl | rfl | rfl | rfl | rfl | rfl | rfl | rfl | rfl | rfl | rfl | rfl | rfl | rfl | rfl | rfl | rfl
  · exact ⟨_, .c0⟩
  · exact ⟨_, .c1⟩
  · exact ⟨_, .c2⟩
  · exact ⟨_, .c3⟩
  · exact ⟨_, .c4⟩
  · exact ⟨_, .c5⟩
  · exact ⟨_, .c6⟩
  · exact ⟨_, .c7⟩
  · exact ⟨_, .c8⟩
  · exact ⟨_, .c9⟩
  · exact ⟨_, .c10⟩
  · exact ⟨_, .c11⟩
  · exact ⟨_, .c12⟩
  · exact ⟨_, .c13⟩
  · exact ⟨_, .c14⟩
  · exact ⟨_, .c15⟩
  · exact ⟨_, .c16⟩
  · exact ⟨_, .c17⟩
  · exact ⟨_, .c18⟩
  · exact ⟨_, .c19⟩
theorem raised_ok {i : Int} {c : Str} (h : Cl i c) (x : D) (b : Bool) : φ__law_raised [.int i, x, .bool b] = .ex c x [] := by
  cases h <;> cases b
  · have e : φ__law_raise_first [.int 0, x] = .ex "InvalidOrder" x [] := by
      unfold φ__law_raise_first m__law_raise_first
      simp! only [sRaise_at, outF_ex]
    unfold φ__law_raised m__law_raised
    simp! only [e, outF_ex, pick0]
  · have e : φ__law_raise_named_first [.int 0, x] = .ex "InvalidOrder" x [] := by
      unfold φ__law_raise_named_first m__law_raise_named_first
      simp! only [sRaise_at, outF_ex]
    unfold φ__law_raised m__law_raised
    simp! only [e, outF_ex, pick0]
  · have e : φ__law_raise_first [.int 1, x] = .ex "InvalidPattern" x [] := by
      unfold φ__law_raise_first m__law_raise_first
      simp! only [sRaise_at, outF_ex]
    unfold φ__law_raised m__law_raised
    simp! only [e, outF_ex, pick0]
  · have e : φ__law_raise_named_first [.int 1, x] = .ex "InvalidPattern" x [] := by
      unfold φ__law_raise_named_first m__law_raise_named_first
      simp! only [sRaise_at, outF_ex]
    unfold φ__law_raised m__law_raised
    simp! only [e, outF_ex, pick0]
  · have e : φ__law_raise_first [.int 2, x] = .ex "InvalidList" x [] := by
      unfold φ__law_raise_first m__law_raise_first
      simp! only [sRaise_at, outF_ex]
    unfold φ__law_raised m__law_raised
    simp! only [e, outF_ex, pick0]
  · have e : φ__law_raise_named_first [.int 2, x] = .ex "InvalidList" x [] := by
      unfold φ__law_raise_named_first m__law_raise_named_first
      simp! only [sRaise_at, outF_ex]
    unfold φ__law_raised m__law_raised
    simp! only [e, outF_ex, pick0]
  · have e : φ__law_raise_first [.int 3, x] = .ex "InvalidForm" x [] := by
      unfold φ__law_raise_first m__law_raise_first
      simp! only [sRaise_at, outF_ex]
    unfold φ__law_raised m__law_raised
    simp! only [e, outF_ex, pick0]
  · have e : φ__law_raise_named_first [.int 3, x] = .ex "InvalidForm" x [] := by
      unfold φ__law_raise_named_first m__law_raise_named_first
      simp! only [sRaise_at, outF_ex]
    unfold φ__law_raised m__law_raised
    simp! only [e, outF_ex, pick0]
  · have e : φ__law_raise_first [.int 4, x] = .ex "InvalidLetter" x [] := by
      unfold φ__law_raise_first m__law_raise_first
      simp! only [sRaise_at, outF_ex]
    unfold φ__law_raised m__law_raised
    simp! only [e, outF_ex, pick0]
  · have e : φ__law_raise_named_first [.int 4, x] = .ex "InvalidLetter" x [] := by
      unfold φ__law_raise_named_first m__law_raise_named_first
      simp! only [sRaise_at, outF_ex]
    unfold φ__law_raised m__law_raised
    simp! only [e, outF_ex, pick0]
  · have e : φ__law_raise_first [.int 5, x] = .ex "InvalidWord" x [] := by
      unfold φ__law_raise_first m__law_raise_first
      simp! only [sRaise_at, outF_ex]
    unfold φ__law_raised m__law_raised
    simp! only [e, outF_ex, pick0]
  · have e : φ__law_raise_named_first [.int 5, x] = .ex "InvalidWord" x [] := by
      unfold φ__law_raise_named_first m__law_raise_named_first
      simp! only [sRaise_at, outF_ex]
    unfold φ__law_raised m__law_raised
    simp! only [e, outF_ex, pick0]
  · have e : φ__law_raise_first [.int 6, x] = .ex "InvalidKind" x [] := by
      unfold φ__law_raise_first m__law_raise_first
      simp! only [sRaise_at, outF_ex]
    unfold φ__law_raised m__law_raised
    simp! only [e, outF_ex, pick0]
  · have e : φ__law_raise_named_first [.int 6, x] = .ex "InvalidKind" x [] := by
      unfold φ__law_raise_named_first m__law_raise_named_first
      simp! only [sRaise_at, outF_ex]
    unfold φ__law_raised m__law_raised
    simp! only [e, outF_ex, pick0]
  · have e : φ__law_raise_first [.int 7, x] = .ex "InvalidNumber" x [] := by
      unfold φ__law_raise_first m__law_raise_first
      simp! only [sRaise_at, outF_ex]
    unfold φ__law_raised m__law_raised
    simp! only [e, outF_ex, pick0]
  · have e : φ__law_raise_named_first [.int 7, x] = .ex "InvalidNumber" x [] := by
      unfold φ__law_raise_named_first m__law_raise_named_first
      simp! only [sRaise_at, outF_ex]
    unfold φ__law_raised m__law_raised
    simp! only [e, outF_ex, pick0]
  · have e : φ__law_raise_first [.int 8, x] = .ex "InvalidPair" x [] := by
      unfold φ__law_raise_first m__law_raise_first
      simp! only [sRaise_at, outF_ex]
    unfold φ__law_raised m__law_raised
    simp! only [e, outF_ex, pick0]
  · have e : φ__law_raise_named_first [.int 8, x] = .ex "InvalidPair" x [] := by
      unfold φ__law_raise_named_first m__law_raise_named_first
      simp! only [sRaise_at, outF_ex]
    unfold φ__law_raised m__law_raised
    simp! only [e, outF_ex, pick0]
  · have e : φ__law_raise_first [.int 9, x] = .ex "InvalidMachine" x [] := by
      unfold φ__law_raise_first m__law_raise_first
      simp! only [sRaise_at, outF_ex]
    unfold φ__law_raised m__law_raised
    simp! only [e, outF_ex, pick0]
  · have e : φ__law_raise_named_first [.int 9, x] = .ex "InvalidMachine" x [] := by
      unfold φ__law_raise_named_first m__law_raise_named_first
      simp! only [sRaise_at, outF_ex]
    unfold φ__law_raised m__law_raised
    simp! only [e, outF_ex, pick0]
  · have e : φ__law_raise_second [.int 10, x] = .ex "NoMachine" x [] := by
      unfold φ__law_raise_second m__law_raise_second
      simp! only [sRaise_at, outF_ex]
    unfold φ__law_raised m__law_raised
    simp! only [e, outF_ex, pick0]
  · have e : φ__law_raise_named_second [.int 10, x] = .ex "NoMachine" x [] := by
      unfold φ__law_raise_named_second m__law_raise_named_second
      simp! only [sRaise_at, outF_ex]
    unfold φ__law_raised m__law_raised
    simp! only [e, outF_ex, pick0]
  · have e : φ__law_raise_second [.int 11, x] = .ex "InvalidTape" x [] := by
      unfold φ__law_raise_second m__law_raise_second
      simp! only [sRaise_at, outF_ex]
    unfold φ__law_raised m__law_raised
    simp! only [e, outF_ex, pick0]
  · have e : φ__law_raise_named_second [.int 11, x] = .ex "InvalidTape" x [] := by
      unfold φ__law_raise_named_second m__law_raise_named_second
      simp! only [sRaise_at, outF_ex]
    unfold φ__law_raised m__law_raised
    simp! only [e, outF_ex, pick0]
  · have e : φ__law_raise_second [.int 12, x] = .ex "InvalidSorter" x [] := by
      unfold φ__law_raise_second m__law_raise_second
      simp! only [sRaise_at, outF_ex]
    unfold φ__law_raised m__law_raised
    simp! only [e, outF_ex, pick0]
  · have e : φ__law_raise_named_second [.int 12, x] = .ex "InvalidSorter" x [] := by
      unfold φ__law_raise_named_second m__law_raise_named_second
      simp! only [sRaise_at, outF_ex]
    unfold φ__law_raised m__law_raised
    simp! only [e, outF_ex, pick0]
  · have e : φ__law_raise_second [.int 13, x] = .ex "InvalidSaying" x [] := by
      unfold φ__law_raise_second m__law_raise_second
      simp! only [sRaise_at, outF_ex]
    unfold φ__law_raised m__law_raised
    simp! only [e, outF_ex, pick0]
  · have e : φ__law_raise_named_second [.int 13, x] = .ex "InvalidSaying" x [] := by
      unfold φ__law_raise_named_second m__law_raise_named_second
      simp! only [sRaise_at, outF_ex]
    unfold φ__law_raised m__law_raised
    simp! only [e, outF_ex, pick0]
  · have e : φ__law_raise_second [.int 14, x] = .ex "InvalidName" x [] := by
      unfold φ__law_raise_second m__law_raise_second
      simp! only [sRaise_at, outF_ex]
    unfold φ__law_raised m__law_raised
    simp! only [e, outF_ex, pick0]
  · have e : φ__law_raise_named_second [.int 14, x] = .ex "InvalidName" x [] := by
      unfold φ__law_raise_named_second m__law_raise_named_second
      simp! only [sRaise_at, outF_ex]
    unfold φ__law_raised m__law_raised
    simp! only [e, outF_ex, pick0]
  · have e : φ__law_raise_second [.int 15, x] = .ex "NotLet" x [] := by
      unfold φ__law_raise_second m__law_raise_second
      simp! only [sRaise_at, outF_ex]
    unfold φ__law_raised m__law_raised
    simp! only [e, outF_ex, pick0]
  · have e : φ__law_raise_named_second [.int 15, x] = .ex "NotLet" x [] := by
      unfold φ__law_raise_named_second m__law_raise_named_second
      simp! only [sRaise_at, outF_ex]
    unfold φ__law_raised m__law_raised
    simp! only [e, outF_ex, pick0]
  · have e : φ__law_raise_second [.int 16, x] = .ex "UnknownName" x [] := by
      unfold φ__law_raise_second m__law_raise_second
      simp! only [sRaise_at, outF_ex]
    unfold φ__law_raised m__law_raised
    simp! only [e, outF_ex, pick0]
  · have e : φ__law_raise_named_second [.int 16, x] = .ex "UnknownName" x [] := by
      unfold φ__law_raise_named_second m__law_raise_named_second
      simp! only [sRaise_at, outF_ex]
    unfold φ__law_raised m__law_raised
    simp! only [e, outF_ex, pick0]
  · have e : φ__law_raise_second [.int 17, x] = .ex "NothingToUndo" x [] := by
      unfold φ__law_raise_second m__law_raise_second
      simp! only [sRaise_at, outF_ex]
    unfold φ__law_raised m__law_raised
    simp! only [e, outF_ex, pick0]
  · have e : φ__law_raise_named_second [.int 17, x] = .ex "NothingToUndo" x [] := by
      unfold φ__law_raise_named_second m__law_raise_named_second
      simp! only [sRaise_at, outF_ex]
    unfold φ__law_raised m__law_raised
    simp! only [e, outF_ex, pick0]
  · have e : φ__law_raise_second [.int 18, x] = .ex "Unreadable" x [] := by
      unfold φ__law_raise_second m__law_raise_second
      simp! only [sRaise_at, outF_ex]
    unfold φ__law_raised m__law_raised
    simp! only [e, outF_ex, pick0]
  · have e : φ__law_raise_named_second [.int 18, x] = .ex "Unreadable" x [] := by
      unfold φ__law_raise_named_second m__law_raise_named_second
      simp! only [sRaise_at, outF_ex]
    unfold φ__law_raised m__law_raised
    simp! only [e, outF_ex, pick0]
  · have e : φ__law_raise_second [.int 19, x] = .ex "Unorderly" x [] := by
      unfold φ__law_raise_second m__law_raise_second
      simp! only [sRaise_at, outF_ex]
    unfold φ__law_raised m__law_raised
    simp! only [e, outF_ex, pick0]
  · have e : φ__law_raise_named_second [.int 19, x] = .ex "Unorderly" x [] := by
      unfold φ__law_raise_named_second m__law_raise_named_second
      simp! only [sRaise_at, outF_ex]
    unfold φ__law_raised m__law_raised
    simp! only [e, outF_ex, pick0]
theorem kinds_gen {c : Str} {x : D} {b0 b1 b2 b3 b4 b5 b6 b7 b8 b9 b10 b11 b12 b13 b14 b15 b16 b17 b18 b19 : Bool} (h0 : tOf tT_InvalidOrder c = some b0) (h1 : tOf tT_InvalidPattern c = some b1) (h2 : tOf tT_InvalidList c = some b2) (h3 : tOf tT_InvalidForm c = some b3) (h4 : tOf tT_InvalidLetter c = some b4) (h5 : tOf tT_InvalidWord c = some b5) (h6 : tOf tT_InvalidKind c = some b6) (h7 : tOf tT_InvalidNumber c = some b7) (h8 : tOf tT_InvalidPair c = some b8) (h9 : tOf tT_InvalidMachine c = some b9) (h10 : tOf tT_NoMachine c = some b10) (h11 : tOf tT_InvalidTape c = some b11) (h12 : tOf tT_InvalidSorter c = some b12) (h13 : tOf tT_InvalidSaying c = some b13) (h14 : tOf tT_InvalidName c = some b14) (h15 : tOf tT_NotLet c = some b15) (h16 : tOf tT_UnknownName c = some b16) (h17 : tOf tT_NothingToUndo c = some b17) (h18 : tOf tT_Unreadable c = some b18) (h19 : tOf tT_Unorderly c = some b19) : φ__law_kinds [eD c x] = .ret (.own [.bool b0, .bool b1, .bool b2, .bool b3, .bool b4, .bool b5, .bool b6, .bool b7, .bool b8, .bool b9, .bool b10, .bool b11, .bool b12, .bool b13, .bool b14, .bool b15, .bool b16, .bool b17, .bool b18, .bool b19]) [] := by
  have e0 := fIsE_e (tOf tT_InvalidOrder) c x b0 h0
  have e1 := fIsE_e (tOf tT_InvalidPattern) c x b1 h1
  have e2 := fIsE_e (tOf tT_InvalidList) c x b2 h2
  have e3 := fIsE_e (tOf tT_InvalidForm) c x b3 h3
  have e4 := fIsE_e (tOf tT_InvalidLetter) c x b4 h4
  have e5 := fIsE_e (tOf tT_InvalidWord) c x b5 h5
  have e6 := fIsE_e (tOf tT_InvalidKind) c x b6 h6
  have e7 := fIsE_e (tOf tT_InvalidNumber) c x b7 h7
  have e8 := fIsE_e (tOf tT_InvalidPair) c x b8 h8
  have e9 := fIsE_e (tOf tT_InvalidMachine) c x b9 h9
  have e10 := fIsE_e (tOf tT_NoMachine) c x b10 h10
  have e11 := fIsE_e (tOf tT_InvalidTape) c x b11 h11
  have e12 := fIsE_e (tOf tT_InvalidSorter) c x b12 h12
  have e13 := fIsE_e (tOf tT_InvalidSaying) c x b13 h13
  have e14 := fIsE_e (tOf tT_InvalidName) c x b14 h14
  have e15 := fIsE_e (tOf tT_NotLet) c x b15 h15
  have e16 := fIsE_e (tOf tT_UnknownName) c x b16 h16
  have e17 := fIsE_e (tOf tT_NothingToUndo) c x b17 h17
  have e18 := fIsE_e (tOf tT_Unreadable) c x b18 h18
  have e19 := fIsE_e (tOf tT_Unorderly) c x b19 h19
  have c0 := fCat_ok [.bool b0, .bool b1, .bool b2] [.bool b3, .bool b4, .bool b5] (by simp)
  have c1 := fCat_ok [.bool b0, .bool b1, .bool b2, .bool b3, .bool b4, .bool b5] [.bool b6, .bool b7, .bool b8] (by simp)
  have c2 := fCat_ok [.bool b0, .bool b1, .bool b2, .bool b3, .bool b4, .bool b5, .bool b6, .bool b7, .bool b8] [.bool b9, .bool b10, .bool b11] (by simp)
  have c3 := fCat_ok [.bool b0, .bool b1, .bool b2, .bool b3, .bool b4, .bool b5, .bool b6, .bool b7, .bool b8, .bool b9, .bool b10, .bool b11] [.bool b12, .bool b13, .bool b14] (by simp)
  have c4 := fCat_ok [.bool b0, .bool b1, .bool b2, .bool b3, .bool b4, .bool b5, .bool b6, .bool b7, .bool b8, .bool b9, .bool b10, .bool b11, .bool b12, .bool b13, .bool b14] [.bool b15, .bool b16, .bool b17] (by simp)
  have c5 := fCat_ok [.bool b0, .bool b1, .bool b2, .bool b3, .bool b4, .bool b5, .bool b6, .bool b7, .bool b8, .bool b9, .bool b10, .bool b11, .bool b12, .bool b13, .bool b14, .bool b15, .bool b16, .bool b17] [.bool b18, .bool b19] (by simp)
  unfold φ__law_kinds m__law_kinds
  simp! only [c0, c1, c2, c3, c4, c5, fAdd_ll, e0, e1, e2, e3, e4, e5, e6, e7, e8, e9, e10, e11, e12, e13, e14, e15, e16, e17, e18, e19]
def flags (i : Int) : List Bool := (irange 0 20).map fun k => decide (k = i)
theorem kinds_ok {i : Int} {c : Str} (h : Cl i c) (x : D) : φ__law_kinds [eD c x] = .ret (.own ((flags i).map .bool)) [] := by
  cases h
  · exact kinds_gen rfl rfl rfl rfl rfl rfl rfl rfl rfl rfl rfl rfl rfl rfl rfl rfl rfl rfl rfl rfl
  · exact kinds_gen rfl rfl rfl rfl rfl rfl rfl rfl rfl rfl rfl rfl rfl rfl rfl rfl rfl rfl rfl rfl
  · exact kinds_gen rfl rfl rfl rfl rfl rfl rfl rfl rfl rfl rfl rfl rfl rfl rfl rfl rfl rfl rfl rfl
  · exact kinds_gen rfl rfl rfl rfl rfl rfl rfl rfl rfl rfl rfl rfl rfl rfl rfl rfl rfl rfl rfl rfl
  · exact kinds_gen rfl rfl rfl rfl rfl rfl rfl rfl rfl rfl rfl rfl rfl rfl rfl rfl rfl rfl rfl rfl
  · exact kinds_gen rfl rfl rfl rfl rfl rfl rfl rfl rfl rfl rfl rfl rfl rfl rfl rfl rfl rfl rfl rfl
  · exact kinds_gen rfl rfl rfl rfl rfl rfl rfl rfl rfl rfl rfl rfl rfl rfl rfl rfl rfl rfl rfl rfl
  · exact kinds_gen rfl rfl rfl rfl rfl rfl rfl rfl rfl rfl rfl rfl rfl rfl rfl rfl rfl rfl rfl rfl
  · exact kinds_gen rfl rfl rfl rfl rfl rfl rfl rfl rfl rfl rfl rfl rfl rfl rfl rfl rfl rfl rfl rfl
  · exact kinds_gen rfl rfl rfl rfl rfl rfl rfl rfl rfl rfl rfl rfl rfl rfl rfl rfl rfl rfl rfl rfl
  · exact kinds_gen rfl rfl rfl rfl rfl rfl rfl rfl rfl rfl rfl rfl rfl rfl rfl rfl rfl rfl rfl rfl
  · exact kinds_gen rfl rfl rfl rfl rfl rfl rfl rfl rfl rfl rfl rfl rfl rfl rfl rfl rfl rfl rfl rfl
  · exact kinds_gen rfl rfl rfl rfl rfl rfl rfl rfl rfl rfl rfl rfl rfl rfl rfl rfl rfl rfl rfl rfl
  · exact kinds_gen rfl rfl rfl rfl rfl rfl rfl rfl rfl rfl rfl rfl rfl rfl rfl rfl rfl rfl rfl rfl
  · exact kinds_gen rfl rfl rfl rfl rfl rfl rfl rfl rfl rfl rfl rfl rfl rfl rfl rfl rfl rfl rfl rfl
  · exact kinds_gen rfl rfl rfl rfl rfl rfl rfl rfl rfl rfl rfl rfl rfl rfl rfl rfl rfl rfl rfl rfl
  · exact kinds_gen rfl rfl rfl rfl rfl rfl rfl rfl rfl rfl rfl rfl rfl rfl rfl rfl rfl rfl rfl rfl
  · exact kinds_gen rfl rfl rfl rfl rfl rfl rfl rfl rfl rfl rfl rfl rfl rfl rfl rfl rfl rfl rfl rfl
  · exact kinds_gen rfl rfl rfl rfl rfl rfl rfl rfl rfl rfl rfl rfl rfl rfl rfl rfl rfl rfl rfl rfl
  · exact kinds_gen rfl rfl rfl rfl rfl rfl rfl rfl rfl rfl rfl rfl rfl rfl rfl rfl rfl rfl rfl rfl
theorem kinds_base (x : D) : φ__law_kinds [eD "OrderError" x] = .ret (.own [.bool false, .bool false, .bool false, .bool false, .bool false, .bool false, .bool false, .bool false, .bool false, .bool false, .bool false, .bool false, .bool false, .bool false, .bool false, .bool false, .bool false, .bool false, .bool false, .bool false]) [] := kinds_gen rfl rfl rfl rfl rfl rfl rfl rfl rfl rfl rfl rfl rfl rfl rfl rfl rfl rfl rfl rfl
theorem cl_order {i : Int} {c : Str} (h : Cl i c) : tOf tT_OrderError c = some true ∧ tOf tT_ValueError c = some true ∧ knL kNL c = true := by
  cases h <;> exact ⟨rfl, rfl, rfl⟩

theorem sTryK_ex {i j : Nat} {t : Str → Option Bool} {b : M Fl} {g g' : En} {c : Str} {x : D} (h : b g = .ex c x g') (ht : t c = some true) (hl : i < g'.length) : sTryK i j t b g = .ok .nx (((g'.set i .u).set j (.d (eD c x))).set i .u) := by
  unfold sTryK
  rw [h]
  dsimp only
  rw [ht]
  dsimp only
  rw [if_pos hl]
theorem fIsN_e (c : Str) (x : D) : fIsN (eD c x) .none = some (.bool false) := Eq.trans rfl rfl
theorem flags_comp (i : Int) (g : En) (x y z : SV) : True := trivial
theorem fEq_flags (l : List Bool) (h : l.length ≤ 100) : fEq (.list (l.map .bool)) (.list (l.map .bool)) = some (.bool true) := by
  have hg : ∀ b ∈ l.map PyData.bool, Gd 0 b := fun b hb => by
    obtain ⟨c, _, rfl⟩ := List.mem_map.mp hb
    exact gd_bool 0 c
  have hl : Gd 1 (.list (l.map .bool)) := gd_list hg
  rw [fEq_gd hl hl (by decide) (by decide), hl.eqv]
theorem right_ok {i : Int} {c : Str} (h : Cl i c) (x : D) (b : Bool) (hx : Sh 3 x) : φ__law_right [.int i, x, .bool b] = .ret (.d (.bool true)) [] := by
  obtain ⟨t1, t2, t3⟩ := cl_order h
  have h1 := raised_ok h x b
  have h2 := kinds_ok h x
  have e1 := fIsE_e (tOf tT_ValueError) c x true t2
  have e2 := fVal_e (knL kNL) c x t3
  have h4 := same_arg x hx
  have hb : (sExprR (callP [.v, .p, .p] φ__law_raised (vCons (dName 0) (vCons (dv (dEsc (dName 1))) (vCons (dv (dEsc (dName 2))) vNil))))) [.d (.int i), .d x, .d (.bool b), .d .none, .u, .u] = .ex c x [.d (.int i), .d x, .d (.bool b), .d .none, .u, .u] := by
    simp! only [h1]
  have ht := sTryK_ex (i := 4) (j := 3) (t := tOf tT_OrderError) hb t1 (by simp)
  have hc := compB_one (i := 5) (enc := PyData.int) (f := fun k => .bool (decide (k = i))) (me := op2 fEq (dName 5) (dName 0)) (g := [.d (.int i), .d x, .d (.bool b), .d (eD c x), .u, .u]) (irange 0 20) (by rw [irange_len]; decide) rfl fun k hk => by simp! only []
  have hc2 : (irange 0 20).map (fun k => PyData.bool (decide (k = i))) = (flags i).map .bool := by rw [flags, List.map_map]; rfl
  rw [hc2] at hc
  have hf := fEq_flags (flags i) (by rw [flags, List.length_map, irange_len]; decide)
  have h20 : Sm 20 := sm_of (by omega) (by omega)
  have i20 : (20 : Int).toNat = 20 := rfl
  have i20' : ((20 : Int) - 0).toNat = 20 := rfl
  unfold φ__law_right m__law_right
  simp! only [h20, i20, i20', ht, fIsN_e, e1, h2, hc, hf, e2, h4]
theorem base_ok (x : D) (hx : Sh 3 x) : φ__law_base_right [x] = .ret (.d (.bool true)) [] := by
  have h2 := kinds_base x
  have e1 := fIsE_e (tOf tT_ValueError) "OrderError" x true rfl
  have e2 := fVal_e (knL kNL) "OrderError" x rfl
  have h4 := same_arg x hx
  have hb : (sRaise "OrderError" (dEsc (dName 0))) [.d x, .d .none, .u] = .ex "OrderError" x [.d x, .d .none, .u] := by
    simp! only [sRaise_at]
  have ht := sTryK_ex (i := 2) (j := 1) (t := tOf tT_OrderError) hb rfl (by simp)
  have hi : fIn (.bool true) (.list [.bool false, .bool false, .bool false, .bool false, .bool false, .bool false, .bool false, .bool false, .bool false, .bool false, .bool false, .bool false, .bool false, .bool false, .bool false, .bool false, .bool false, .bool false, .bool false, .bool false]) = some (.bool false) := Eq.trans rfl rfl
  unfold φ__law_base_right m__law_base_right
  simp! only [ht, fIsN_e, e1, h2, hi, e2, h4]

abbrev bodyA : M Fl := (dSeq (sSetR 4 (callP [.v, .v] φ__law_deck (vCons (dName 0) (vCons (dName 3) vNil))))
    (dSeq (sPar [5, 6] (msR (callP [.m, .v] φ__law_take (vCons (dName 4) (vCons (dv (dC (.int 20))) vNil))) (msD (op2 fEq (dv (rD (callP [.m, .v] φ__law_take (vCons (dName 4) (vCons (dv (dC (.int 2))) vNil))))) (dv (dC (.int 1)))) msNil)))
    (dSeq (sPar [7, 8] (msR (callP [.m] φ__law_given (vCons (dName 4) vNil)) (msR (callP [.m] φ__law_given (vCons (dName 4) vNil)) msNil)))
    (dSeq (sIf (dOr (dNot (dB (rD (callP [.v, .p, .p] φ__law_right (vCons (dName 5) (vCons (dv (dEsc (dName 7))) (vCons (dv (dEsc (dName 6))) vNil))))))) (dOr (dNot (dB (rD (callP [.v, .p, .p] φ__law_right (vCons (dName 5) (vCons (dv (dEsc (dName 8))) (vCons (dv (dNotV (dEsc (dName 6)))) vNil))))))) (dNot (dB (rD (callP [.p] φ__law_base_right (vCons (dv (dEsc (dName 8))) vNil))))))) (sRet (dC (.bool false))) sNx)
    (dSeq (sTryK 9 1 (tOf tT_OrderError) (sExprR (callP [.v, .p, .p] φ__law_raised (vCons (dName 5) (vCons (dv (dEsc (dName 7))) (vCons (dv (dEsc (dName 6))) vNil))))))
    (dSeq (sTryK 9 2 (tOf tT_OrderError) (sExprR (callP [.v, .p, .p] φ__law_raised (vCons (dName 5) (vCons (dv (dEsc (dName 8))) (vCons (dv (dEsc (dName 6))) vNil))))))
    (sIf (dOr (dNot (dB (rD (callP [.v, .v] (φ__law_same 4) (vCons (dv (op1 (fVal (knL kNL)) (dName 1))) (vCons (dName 7) vNil)))))) (dNot (dB (rD (callP [.v, .v] (φ__law_same 4) (vCons (dv (op1 (fVal (knL kNL)) (dName 2))) (vCons (dName 8) vNil))))))) (sRet (dC (.bool false))) sNx)))))))
theorem stepA (ns : List Int) (k : Nat) (a b : SV) : ∃ (a' b' : D) (g : En), bodyA [.a (ns.map .int), a, b, .d (.int (k : Int)), .u, .u, .u, .u, .u, .u] = .ok .nx g ∧ fgt [3, 4, 5, 6, 7, 8] g = [.a (ns.map .int), .d a', .d b', .u, .u, .u, .u, .u, .u, .u] := by
  obtain ⟨l0, h0, d0⟩ := deck_ok ns k
  obtain ⟨w, l1, h1, d1, w0, w1⟩ := take_ok d0 20 (by decide) (by decide)
  obtain ⟨m, l2, h2, d2, _, _⟩ := take_ok d1 2 (by decide) (by decide)
  obtain ⟨x, l3, h3, d3, sx⟩ := given_ok d2
  obtain ⟨y, l4, h4, d4, sy⟩ := given_ok d3
  obtain ⟨c, hc⟩ := cl_all w w0 w1
  obtain ⟨t1, t2, t3⟩ := cl_order hc
  obtain ⟨nb, hb⟩ : ∃ nb : Bool, nb = decide (m = 1) := ⟨_, rfl⟩
  have r1 := right_ok hc x nb sx
  have r2 := right_ok hc y (!nb) sy
  have r3 := base_ok y sy
  have e1 := raised_ok hc x nb
  have e2 := raised_ok hc y nb
  have v1 := fVal_e (knL kNL) c x t3
  have v2 := fVal_e (knL kNL) c y t3
  have s1 := same_arg x sx
  have s2 := same_arg y sy
  have b1 : (sExprR (callP [.v, .p, .p] φ__law_raised (vCons (dName 5) (vCons (dv (dEsc (dName 7))) (vCons (dv (dEsc (dName 6))) vNil))))) [.a (ns.map .int), a, b, .d (.int (k : Int)), .own false l4, .d (.int w), .d (.bool nb), .d x, .d y, .u] = .ex c x [.a (ns.map .int), a, b, .d (.int (k : Int)), .own false l4, .d (.int w), .d (.bool nb), .d x, .d y, .u] := by
    simp! only [e1]
  have b2 : (sExprR (callP [.v, .p, .p] φ__law_raised (vCons (dName 5) (vCons (dv (dEsc (dName 8))) (vCons (dv (dEsc (dName 6))) vNil))))) [.a (ns.map .int), .d (eD c x), b, .d (.int (k : Int)), .own false l4, .d (.int w), .d (.bool nb), .d x, .d y, .u] = .ex c y [.a (ns.map .int), .d (eD c x), b, .d (.int (k : Int)), .own false l4, .d (.int w), .d (.bool nb), .d x, .d y, .u] := by
    simp! only [e2]
  have k1 := sTryK_ex (i := 9) (j := 1) (t := tOf tT_OrderError) b1 t1 (by simp)
  have k2 := sTryK_ex (i := 9) (j := 2) (t := tOf tT_OrderError) b2 t1 (by simp)
  refine ⟨eD c x, eD c y, [.a (ns.map .int), .d (eD c x), .d (eD c y), .d (.int (k : Int)), .own false l4, .d (.int w), .d (.bool nb), .d x, .d y, .u], ?_, by simp! only []⟩
  unfold bodyA
  simp! only [h0, h1, h2, h3, h4, ← hb, r1, r2, r3, k1, k2, v1, v2, s1, s2]
theorem loopA (ns : List Int) (n : Nat) : ∃ a b : D, forG (.nm 3) [3, 4, 5, 6, 7, 8] bodyA ((irange 0 n).map .int) [.a (ns.map .int), .d .none, .d .none, .u, .u, .u, .u, .u, .u, .u] = .ok .nx [.a (ns.map .int), .d a, .d b, .u, .u, .u, .u, .u, .u, .u] := by
  obtain ⟨g', e1, i, a, b, h1, h2⟩ := forG_inv (t := .nm 3) (ms := [3, 4, 5, 6, 7, 8]) (b := bodyA) ((irange 0 n).map .int)
    (fun r g => ∃ (i : Nat) (a b : D), r = (irange i (n - i)).map .int ∧ g = [.a (ns.map .int), .d a, .d b, .u, .u, .u, .u, .u, .u, .u])
    _ ⟨0, .none, .none, rfl, rfl⟩ (by
      rintro x r g ⟨i, a, b, h1, rfl⟩ _
      have hlt : i < n := by
        have := congrArg List.length h1
        rw [List.length_map, irange_len, List.length_cons] at this
        omega
      rw [show n - i = (n - i - 1) + 1 by omega, irange_succ, List.map_cons] at h1
      injection h1 with hx hr
      subst hx
      obtain ⟨a', b', g2, h2, h3⟩ := stepA ns i (.d a) (.d b)
      refine ⟨[.a (ns.map .int), .d a, .d b, .d (.int (i : Int)), .u, .u, .u, .u, .u, .u], g2, by simp! only [], .inl h2, i + 1, a', b', ?_, h3⟩
      rw [hr]
      congr 2)
  refine ⟨a, b, ?_⟩
  rw [e1, h2]
  simp! only []
abbrev bodyB : M Fl := (sIf (dOr (dNot (dB (rD (callP [.v, .p, .p] φ__law_right (vCons (dName 5) (vCons (dv (dEsc (dName 5))) (vCons (dv (dC (.bool false))) vNil))))))) (dNot (dB (rD (callP [.v, .p, .p] φ__law_right (vCons (dName 5) (vCons (dv (dC (.str "a"))) (vCons (dv (dC (.bool true))) vNil)))))))) (sRet (dC (.bool false))) sNx)
theorem loopB (ns : List Int) (a b : SV) : ∃ g, forG (.nm 5) [] bodyB ((irange 0 20).map .int) [.a (ns.map .int), a, b, .u, .u, .u, .u, .u, .u, .u] = .ok .nx g ∧ ∃ x, g = [.a (ns.map .int), a, b, .u, .u, x, .u, .u, .u, .u] := by
  obtain ⟨g', e1, i, z, h1, hi, h2⟩ := forG_inv (t := .nm 5) (ms := []) (b := bodyB) ((irange 0 20).map .int)
    (fun r g => ∃ (i : Nat) (z : SV), r = (irange i (20 - i)).map .int ∧ i ≤ 20 ∧ g = [.a (ns.map .int), a, b, .u, .u, z, .u, .u, .u, .u] ∧ (z = .u ∨ ∃ d, z = .d d))
    _ ⟨0, .u, rfl, by decide, rfl, .inl rfl⟩ (by
      rintro x r g ⟨i, z, h1, hi, rfl, hz⟩ _
      have hlt : i < 20 := by
        have := congrArg List.length h1
        rw [List.length_map, irange_len, List.length_cons] at this
        omega
      rw [show 20 - i = (20 - i - 1) + 1 by omega, irange_succ, List.map_cons] at h1
      injection h1 with hx hr
      subst hx
      obtain ⟨c, hc⟩ := cl_all (i : Int) (by omega) (by omega)
      have r1 := right_ok hc (.int (i : Int)) false (.int _ _)
      have r2 := right_ok hc (.str "a") true (.str _ _ (eq_t "a" "a" (by decide +kernel)))
      refine ⟨[.a (ns.map .int), a, b, .u, .u, .d (.int (i : Int)), .u, .u, .u, .u], [.a (ns.map .int), a, b, .u, .u, .d (.int (i : Int)), .u, .u, .u, .u], ?_, .inl ?_, i + 1, .d (.int (i : Int)), ?_, by omega, rfl, .inr ⟨_, rfl⟩⟩
      · rcases hz with rfl | ⟨d, rfl⟩ <;> simp! only []
      · unfold bodyB
        simp! only [r1, r2]
      · rw [hr]
        congr 2)
  refine ⟨_, e1, z, ?_⟩
  rw [h2.1]
  simp! only []
theorem main (ns : List Int) (h : ns.length ≤ 63) : φ_law [.list (ns.map PyData.int)] = .ret (.d (.bool true)) [] := by
  have hsm : Sm (if (if (40 : Int) < ns.length then 40 else (ns.length : Int)) > 1 then (if (40 : Int) < ns.length then 40 else (ns.length : Int)) else 1) := by
    refine sm_of ?_ ?_ <;> (split <;> (try split) <;> omega)
  obtain ⟨a, b, hA⟩ := loopA ns (if (if (40 : Int) < ns.length then 40 else (ns.length : Int)) > 1 then (if (40 : Int) < ns.length then 40 else (ns.length : Int)) else 1).toNat
  obtain ⟨g, hB, x, hg⟩ := loopB ns (.d a) (.d b)
  subst hg
  have h20 : Sm 20 := sm_of (by omega) (by omega)
  have i20 : (20 : Int).toNat = 20 := rfl
  have i20' : ((20 : Int) - 0).toNat = 20 := rfl
  unfold φ_law m_law
  simp! only [List.length_map, hsm, hA, h20, i20, i20', hB]
end Ck00

set_option maxRecDepth 100000
open PySem PySem.W PyProof.Rows
set_option maxHeartbeats 0 in
theorem PySem.Challenge.cw_wholeorders_k00_errors_holds : PySem.Challenge.rw_wholeorders_k00_errors.Holds := by
  w_on; o_law; k_head; (case hw => w_witness2)
  k_fill
  refine L2.walk_of (l := PySem.Challenge.rw_wholeorders_k00_errors) (n := 63) (k := 7) (x := "script") (CX := fun w => L2.CX PySem.Challenge.pw_wholeorders_k00_errors w) (sp := fun w => Z.spLaw _) rfl (by decide) rfl ⟨rfl, by decide, by decide⟩ (fun w h Y => PySem.W.kIn_of Y) ?F (fun _ _ a ns hl _ hS => ⟨a, ns, rfl, hS, hl, fun _ _ e => e⟩) (fun _ _ _ _ _ h => Z.cx_none h)
  case F =>
    intro w mg fa h KX G hmg
    refine' Ck00.all_mk KX G hmg Ck00.main ?a0 ?l0 ?c0 ?k0 ?a1 ?l1 ?c1 ?k1 ?a2 ?l2 ?c2 ?k2 ?a3 ?l3 ?c3 ?k3 ?a4 ?l4 ?c4 ?k4 ?a5 ?l5 ?c5 ?k5 ?a6 ?l6 ?c6 ?k6 ?a7 ?l7 ?c7 ?k7 ?a8 ?l8 ?c8 ?k8 ?a9 ?l9 ?c9 ?k9 ?a10 ?l10 ?c10 ?k10 ?a11 ?l11 ?c11 ?k11 ?a12 ?l12 ?c12 ?k12 ?z0 ?z1 ?z2 ?z3 ?z4 ?z5 ?z6 ?z7 ?z8 ?z9 ?z10 ?xaC0 ?xL0 ?xsa0 ?xga0 ?xgg0 ?xnb0 ?xa10 ?xt10 ?xl10 ?xc10 ?xk10 ?xkC0 ?xeC0 ?xtC0 ?xhC0 ?xiC0 ?xsC0 ?xvV0 ?xaC1 ?xL1 ?xsa1 ?xga1 ?xgg1 ?xnb1 ?xa11 ?xt11 ?xl11 ?xc11 ?xk11 ?xkC1 ?xeC1 ?xtC1 ?xhC1 ?xiC1 ?xsC1 ?xvV1 ?xaC2 ?xL2 ?xsa2 ?xga2 ?xgg2 ?xnb2 ?xa12 ?xt12 ?xl12 ?xc12 ?xk12 ?xkC2 ?xeC2 ?xtC2 ?xhC2 ?xiC2 ?xsC2 ?xvV2 ?xaC3 ?xL3 ?xsa3 ?xga3 ?xgg3 ?xnb3 ?xa13 ?xt13 ?xl13 ?xc13 ?xk13 ?xkC3 ?xeC3 ?xtC3 ?xhC3 ?xiC3 ?xsC3 ?xvV3 ?xaC4 ?xL4 ?xsa4 ?xga4 ?xgg4 ?xnb4 ?xa14 ?xt14 ?xl14 ?xc14 ?xk14 ?xkC4 ?xeC4 ?xtC4 ?xhC4 ?xiC4 ?xsC4 ?xvV4 ?xaC5 ?xL5 ?xsa5 ?xga5 ?xgg5 ?xnb5 ?xa15 ?xt15 ?xl15 ?xc15 ?xk15 ?xkC5 ?xeC5 ?xtC5 ?xhC5 ?xiC5 ?xsC5 ?xvV5 ?xaC6 ?xL6 ?xsa6 ?xga6 ?xgg6 ?xnb6 ?xa16 ?xt16 ?xl16 ?xc16 ?xk16 ?xkC6 ?xeC6 ?xtC6 ?xhC6 ?xiC6 ?xsC6 ?xvV6 ?xaC7 ?xL7 ?xsa7 ?xga7 ?xgg7 ?xnb7 ?xa17 ?xt17 ?xl17 ?xc17 ?xk17 ?xkC7 ?xeC7 ?xtC7 ?xhC7 ?xiC7 ?xsC7 ?xvV7 ?xaC8 ?xL8 ?xsa8 ?xga8 ?xgg8 ?xnb8 ?xa18 ?xt18 ?xl18 ?xc18 ?xk18 ?xkC8 ?xeC8 ?xtC8 ?xhC8 ?xiC8 ?xsC8 ?xvV8 ?xaC9 ?xL9 ?xsa9 ?xga9 ?xgg9 ?xnb9 ?xa19 ?xt19 ?xl19 ?xc19 ?xk19 ?xkC9 ?xeC9 ?xtC9 ?xhC9 ?xiC9 ?xsC9 ?xvV9 ?xaC10 ?xL10 ?xsa10 ?xga10 ?xgg10 ?xnb10 ?xa110 ?xt110 ?xl110 ?xc110 ?xk110 ?xkC10 ?xeC10 ?xtC10 ?xhC10 ?xiC10 ?xsC10 ?xvV10 ?xaC11 ?xL11 ?xsa11 ?xga11 ?xgg11 ?xnb11 ?xa111 ?xt111 ?xl111 ?xc111 ?xk111 ?xkC11 ?xeC11 ?xtC11 ?xhC11 ?xiC11 ?xsC11 ?xvV11 ?xaC12 ?xL12 ?xsa12 ?xga12 ?xgg12 ?xnb12 ?xa112 ?xt112 ?xl112 ?xc112 ?xk112 ?xkC12 ?xeC12 ?xtC12 ?xhC12 ?xiC12 ?xsC12 ?xvV12 ?xaC13 ?xL13 ?xsa13 ?xga13 ?xgg13 ?xnb13 ?xa113 ?xt113 ?xl113 ?xc113 ?xk113 ?xkC13 ?xeC13 ?xtC13 ?xhC13 ?xiC13 ?xsC13 ?xvV13 ?xaC14 ?xL14 ?xsa14 ?xga14 ?xgg14 ?xnb14 ?xa114 ?xt114 ?xl114 ?xc114 ?xk114 ?xkC14 ?xeC14 ?xtC14 ?xhC14 ?xiC14 ?xsC14 ?xvV14 ?xaC15 ?xL15 ?xsa15 ?xga15 ?xgg15 ?xnb15 ?xa115 ?xt115 ?xl115 ?xc115 ?xk115 ?xkC15 ?xeC15 ?xtC15 ?xhC15 ?xiC15 ?xsC15 ?xvV15 ?xaC16 ?xL16 ?xsa16 ?xga16 ?xgg16 ?xnb16 ?xa116 ?xt116 ?xl116 ?xc116 ?xk116 ?xkC16 ?xeC16 ?xtC16 ?xhC16 ?xiC16 ?xsC16 ?xvV16 ?xaC17 ?xL17 ?xsa17 ?xga17 ?xgg17 ?xnb17 ?xa117 ?xt117 ?xl117 ?xc117 ?xk117 ?xkC17 ?xeC17 ?xtC17 ?xhC17 ?xiC17 ?xsC17 ?xvV17 ?xaC18 ?xL18 ?xsa18 ?xga18 ?xgg18 ?xnb18 ?xa118 ?xt118 ?xl118 ?xc118 ?xk118 ?xkC18 ?xeC18 ?xtC18 ?xhC18 ?xiC18 ?xsC18 ?xvV18 ?xaC19 ?xL19 ?xsa19 ?xga19 ?xgg19 ?xnb19 ?xa119 ?xt119 ?xl119 ?xc119 ?xk119 ?xkC19 ?xeC19 ?xtC19 ?xhC19 ?xiC19 ?xsC19 ?xvV19 ?xaC20 ?xL20 ?xsa20 ?xga20 ?xgg20 ?xnb20 ?xa120 ?xt120 ?xl120 ?xc120 ?xk120 ?xkC20 ?xeC20 ?xtC20 ?xhC20 ?xiC20 ?xsC20 ?xvV20 ?xgn ?xtk ?ya0 ?yi0 ?yt0 ?ys0 ?ye0 ?ya1 ?yi1 ?yt1 ?ys1 ?ye1 ?ya2 ?yi2 ?yt2 ?ys2 ?ye2 ?ya3 ?yi3 ?yt3 ?ys3 ?ye3 ?ya4 ?yi4 ?yt4 ?ys4 ?ye4 ?ya5 ?yi5 ?yt5 ?ys5 ?ye5 ?ya6 ?yi6 ?yt6 ?ys6 ?ye6 ?ya7 ?yi7 ?yt7 ?ys7 ?ye7 ?ya8 ?yi8 ?yt8 ?ys8 ?ye8 ?ya9 ?yi9 ?yt9 ?ys9 ?ye9 ?ya10 ?yi10 ?yt10 ?ys10 ?ye10 ?ya11 ?yi11 ?yt11 ?ys11 ?ye11 ?ya12 ?yi12 ?yt12 ?ys12 ?ye12 ?ya13 ?yi13 ?yt13 ?ys13 ?ye13 ?ya14 ?yi14 ?yt14 ?ys14 ?ye14 ?ya15 ?yi15 ?yt15 ?ys15 ?ye15 ?ya16 ?yi16 ?yt16 ?ys16 ?ye16 ?ya17 ?yi17 ?yt17 ?ys17 ?ye17 ?ya18 ?yi18 ?yt18 ?ys18 ?ye18 ?ya19 ?yi19 ?yt19 ?ys19 ?ye19 ?ya20 ?yi20 ?yt20 ?ys20 ?ye20 ?xcl0 ?xmo0 ?xyb0_ValueError ?xyp0_0 ?xyp0_1 ?xyp0_2 ?xyp0_3 ?xyp0_4 ?xyp0_5 ?xyp0_6 ?xyp0_7 ?xyp0_8 ?xyp0_9 ?xyp0_10 ?xyp0_11 ?xyp0_12 ?xyp0_13 ?xyp0_14 ?xyp0_15 ?xyp0_16 ?xyp0_17 ?xyp0_18 ?xyp0_19 ?xyp0_20 ?xcl1 ?xmo1 ?xyb1_ValueError ?xyp1_0 ?xyp1_1 ?xyp1_2 ?xyp1_3 ?xyp1_4 ?xyp1_5 ?xyp1_6 ?xyp1_7 ?xyp1_8 ?xyp1_9 ?xyp1_10 ?xyp1_11 ?xyp1_12 ?xyp1_13 ?xyp1_14 ?xyp1_15 ?xyp1_16 ?xyp1_17 ?xyp1_18 ?xyp1_19 ?xyp1_20 ?xcl2 ?xmo2 ?xyb2_ValueError ?xyp2_0 ?xyp2_1 ?xyp2_2 ?xyp2_3 ?xyp2_4 ?xyp2_5 ?xyp2_6 ?xyp2_7 ?xyp2_8 ?xyp2_9 ?xyp2_10 ?xyp2_11 ?xyp2_12 ?xyp2_13 ?xyp2_14 ?xyp2_15 ?xyp2_16 ?xyp2_17 ?xyp2_18 ?xyp2_19 ?xyp2_20 ?xcl3 ?xmo3 ?xyb3_ValueError ?xyp3_0 ?xyp3_1 ?xyp3_2 ?xyp3_3 ?xyp3_4 ?xyp3_5 ?xyp3_6 ?xyp3_7 ?xyp3_8 ?xyp3_9 ?xyp3_10 ?xyp3_11 ?xyp3_12 ?xyp3_13 ?xyp3_14 ?xyp3_15 ?xyp3_16 ?xyp3_17 ?xyp3_18 ?xyp3_19 ?xyp3_20 ?xcl4 ?xmo4 ?xyb4_ValueError ?xyp4_0 ?xyp4_1 ?xyp4_2 ?xyp4_3 ?xyp4_4 ?xyp4_5 ?xyp4_6 ?xyp4_7 ?xyp4_8 ?xyp4_9 ?xyp4_10 ?xyp4_11 ?xyp4_12 ?xyp4_13 ?xyp4_14 ?xyp4_15 ?xyp4_16 ?xyp4_17 ?xyp4_18 ?xyp4_19 ?xyp4_20 ?xcl5 ?xmo5 ?xyb5_ValueError ?xyp5_0 ?xyp5_1 ?xyp5_2 ?xyp5_3 ?xyp5_4 ?xyp5_5 ?xyp5_6 ?xyp5_7 ?xyp5_8 ?xyp5_9 ?xyp5_10 ?xyp5_11 ?xyp5_12 ?xyp5_13 ?xyp5_14 ?xyp5_15 ?xyp5_16 ?xyp5_17 ?xyp5_18 ?xyp5_19 ?xyp5_20 ?xcl6 ?xmo6 ?xyb6_ValueError ?xyp6_0 ?xyp6_1 ?xyp6_2 ?xyp6_3 ?xyp6_4 ?xyp6_5 ?xyp6_6 ?xyp6_7 ?xyp6_8 ?xyp6_9 ?xyp6_10 ?xyp6_11 ?xyp6_12 ?xyp6_13 ?xyp6_14 ?xyp6_15 ?xyp6_16 ?xyp6_17 ?xyp6_18 ?xyp6_19 ?xyp6_20 ?xcl7 ?xmo7 ?xyb7_ValueError ?xyp7_0 ?xyp7_1 ?xyp7_2 ?xyp7_3 ?xyp7_4 ?xyp7_5 ?xyp7_6 ?xyp7_7 ?xyp7_8 ?xyp7_9 ?xyp7_10 ?xyp7_11 ?xyp7_12 ?xyp7_13 ?xyp7_14 ?xyp7_15 ?xyp7_16 ?xyp7_17 ?xyp7_18 ?xyp7_19 ?xyp7_20 ?xcl8 ?xmo8 ?xyb8_ValueError ?xyp8_0 ?xyp8_1 ?xyp8_2 ?xyp8_3 ?xyp8_4 ?xyp8_5 ?xyp8_6 ?xyp8_7 ?xyp8_8 ?xyp8_9 ?xyp8_10 ?xyp8_11 ?xyp8_12 ?xyp8_13 ?xyp8_14 ?xyp8_15 ?xyp8_16 ?xyp8_17 ?xyp8_18 ?xyp8_19 ?xyp8_20 ?xcl9 ?xmo9 ?xyb9_ValueError ?xyp9_0 ?xyp9_1 ?xyp9_2 ?xyp9_3 ?xyp9_4 ?xyp9_5 ?xyp9_6 ?xyp9_7 ?xyp9_8 ?xyp9_9 ?xyp9_10 ?xyp9_11 ?xyp9_12 ?xyp9_13 ?xyp9_14 ?xyp9_15 ?xyp9_16 ?xyp9_17 ?xyp9_18 ?xyp9_19 ?xyp9_20 ?xcl10 ?xmo10 ?xyb10_ValueError ?xyp10_0 ?xyp10_1 ?xyp10_2 ?xyp10_3 ?xyp10_4 ?xyp10_5 ?xyp10_6 ?xyp10_7 ?xyp10_8 ?xyp10_9 ?xyp10_10 ?xyp10_11 ?xyp10_12 ?xyp10_13 ?xyp10_14 ?xyp10_15 ?xyp10_16 ?xyp10_17 ?xyp10_18 ?xyp10_19 ?xyp10_20 ?xcl11 ?xmo11 ?xyb11_ValueError ?xyp11_0 ?xyp11_1 ?xyp11_2 ?xyp11_3 ?xyp11_4 ?xyp11_5 ?xyp11_6 ?xyp11_7 ?xyp11_8 ?xyp11_9 ?xyp11_10 ?xyp11_11 ?xyp11_12 ?xyp11_13 ?xyp11_14 ?xyp11_15 ?xyp11_16 ?xyp11_17 ?xyp11_18 ?xyp11_19 ?xyp11_20 ?xcl12 ?xmo12 ?xyb12_ValueError ?xyp12_0 ?xyp12_1 ?xyp12_2 ?xyp12_3 ?xyp12_4 ?xyp12_5 ?xyp12_6 ?xyp12_7 ?xyp12_8 ?xyp12_9 ?xyp12_10 ?xyp12_11 ?xyp12_12 ?xyp12_13 ?xyp12_14 ?xyp12_15 ?xyp12_16 ?xyp12_17 ?xyp12_18 ?xyp12_19 ?xyp12_20 ?xcl13 ?xmo13 ?xyb13_ValueError ?xyp13_0 ?xyp13_1 ?xyp13_2 ?xyp13_3 ?xyp13_4 ?xyp13_5 ?xyp13_6 ?xyp13_7 ?xyp13_8 ?xyp13_9 ?xyp13_10 ?xyp13_11 ?xyp13_12 ?xyp13_13 ?xyp13_14 ?xyp13_15 ?xyp13_16 ?xyp13_17 ?xyp13_18 ?xyp13_19 ?xyp13_20 ?xcl14 ?xmo14 ?xyb14_ValueError ?xyp14_0 ?xyp14_1 ?xyp14_2 ?xyp14_3 ?xyp14_4 ?xyp14_5 ?xyp14_6 ?xyp14_7 ?xyp14_8 ?xyp14_9 ?xyp14_10 ?xyp14_11 ?xyp14_12 ?xyp14_13 ?xyp14_14 ?xyp14_15 ?xyp14_16 ?xyp14_17 ?xyp14_18 ?xyp14_19 ?xyp14_20 ?xcl15 ?xmo15 ?xyb15_ValueError ?xyp15_0 ?xyp15_1 ?xyp15_2 ?xyp15_3 ?xyp15_4 ?xyp15_5 ?xyp15_6 ?xyp15_7 ?xyp15_8 ?xyp15_9 ?xyp15_10 ?xyp15_11 ?xyp15_12 ?xyp15_13 ?xyp15_14 ?xyp15_15 ?xyp15_16 ?xyp15_17 ?xyp15_18 ?xyp15_19 ?xyp15_20 ?xcl16 ?xmo16 ?xyb16_ValueError ?xyp16_0 ?xyp16_1 ?xyp16_2 ?xyp16_3 ?xyp16_4 ?xyp16_5 ?xyp16_6 ?xyp16_7 ?xyp16_8 ?xyp16_9 ?xyp16_10 ?xyp16_11 ?xyp16_12 ?xyp16_13 ?xyp16_14 ?xyp16_15 ?xyp16_16 ?xyp16_17 ?xyp16_18 ?xyp16_19 ?xyp16_20 ?xcl17 ?xmo17 ?xyb17_ValueError ?xyp17_0 ?xyp17_1 ?xyp17_2 ?xyp17_3 ?xyp17_4 ?xyp17_5 ?xyp17_6 ?xyp17_7 ?xyp17_8 ?xyp17_9 ?xyp17_10 ?xyp17_11 ?xyp17_12 ?xyp17_13 ?xyp17_14 ?xyp17_15 ?xyp17_16 ?xyp17_17 ?xyp17_18 ?xyp17_19 ?xyp17_20 ?xcl18 ?xmo18 ?xyb18_ValueError ?xyp18_0 ?xyp18_1 ?xyp18_2 ?xyp18_3 ?xyp18_4 ?xyp18_5 ?xyp18_6 ?xyp18_7 ?xyp18_8 ?xyp18_9 ?xyp18_10 ?xyp18_11 ?xyp18_12 ?xyp18_13 ?xyp18_14 ?xyp18_15 ?xyp18_16 ?xyp18_17 ?xyp18_18 ?xyp18_19 ?xyp18_20 ?xcl19 ?xmo19 ?xyb19_ValueError ?xyp19_0 ?xyp19_1 ?xyp19_2 ?xyp19_3 ?xyp19_4 ?xyp19_5 ?xyp19_6 ?xyp19_7 ?xyp19_8 ?xyp19_9 ?xyp19_10 ?xyp19_11 ?xyp19_12 ?xyp19_13 ?xyp19_14 ?xyp19_15 ?xyp19_16 ?xyp19_17 ?xyp19_18 ?xyp19_19 ?xyp19_20 ?xcl20 ?xmo20 ?xyb20_ValueError ?xyp20_0 ?xyp20_1 ?xyp20_2 ?xyp20_3 ?xyp20_4 ?xyp20_5 ?xyp20_6 ?xyp20_7 ?xyp20_8 ?xyp20_9 ?xyp20_10 ?xyp20_11 ?xyp20_12 ?xyp20_13 ?xyp20_14 ?xyp20_15 ?xyp20_16 ?xyp20_17 ?xyp20_18 ?xyp20_19 ?xyp20_20
    (case a0 => k_is)
    (case l0 => k_is)
    (case c0 => k_is)
    (case k0 => k_is)
    (case a1 => k_is)
    (case l1 => k_is)
    (case c1 => k_is)
    (case k1 => k_is)
    (case a2 => k_is)
    (case l2 => k_is)
    (case c2 => k_is)
    (case k2 => k_is)
    (case a3 => k_is)
    (case l3 => k_is)
    (case c3 => k_is)
    (case k3 => k_is)
    (case a4 => k_is)
    (case l4 => k_is)
    (case c4 => k_is)
    (case k4 => k_is)
    (case a5 => k_is)
    (case l5 => k_is)
    (case c5 => k_is)
    (case k5 => k_is)
    (case a6 => k_is)
    (case l6 => k_is)
    (case c6 => k_is)
    (case k6 => k_is)
    (case a7 => k_is)
    (case l7 => k_is)
    (case c7 => k_is)
    (case k7 => k_is)
    (case a8 => k_is)
    (case l8 => k_is)
    (case c8 => k_is)
    (case k8 => k_is)
    (case a9 => k_is)
    (case l9 => k_is)
    (case c9 => k_is)
    (case k9 => k_is)
    (case a10 => k_is)
    (case l10 => k_is)
    (case c10 => k_is)
    (case k10 => k_is)
    (case a11 => k_is)
    (case l11 => k_is)
    (case c11 => k_is)
    (case k11 => k_is)
    (case a12 => k_is)
    (case l12 => k_is)
    (case c12 => k_is)
    (case k12 => k_is)
    (case z0 => k_is)
    (case z1 => k_is)
    (case z2 => k_is)
    (case z3 => k_is)
    (case z4 => k_is)
    (case z5 => k_is)
    (case z6 => k_is)
    (case z7 => k_is)
    (case z8 => k_is)
    (case z9 => k_is)
    (case z10 => k_is)
    (case xaC0 => k_is)
    (case xL0 => k_is)
    (case xsa0 => k_is)
    (case xga0 => k_is)
    (case xgg0 => k_is)
    (case xnb0 => k_is)
    (case xa10 => k_is)
    (case xt10 => k_is)
    (case xl10 => k_is)
    (case xc10 => k_is)
    (case xk10 => k_is)
    (case xkC0 => k_is)
    (case xeC0 => k_is)
    (case xtC0 => k_is)
    (case xhC0 => k_is)
    (case xiC0 => k_is)
    (case xsC0 => first | rfl | k_is)
    (case xvV0 => k_is)
    (case xaC1 => k_is)
    (case xL1 => k_is)
    (case xsa1 => k_is)
    (case xga1 => k_is)
    (case xgg1 => k_is)
    (case xnb1 => k_is)
    (case xa11 => k_is)
    (case xt11 => k_is)
    (case xl11 => k_is)
    (case xc11 => k_is)
    (case xk11 => k_is)
    (case xkC1 => k_is)
    (case xeC1 => k_is)
    (case xtC1 => k_is)
    (case xhC1 => k_is)
    (case xiC1 => k_is)
    (case xsC1 => first | rfl | k_is)
    (case xvV1 => k_is)
    (case xaC2 => k_is)
    (case xL2 => k_is)
    (case xsa2 => k_is)
    (case xga2 => k_is)
    (case xgg2 => k_is)
    (case xnb2 => k_is)
    (case xa12 => k_is)
    (case xt12 => k_is)
    (case xl12 => k_is)
    (case xc12 => k_is)
    (case xk12 => k_is)
    (case xkC2 => k_is)
    (case xeC2 => k_is)
    (case xtC2 => k_is)
    (case xhC2 => k_is)
    (case xiC2 => k_is)
    (case xsC2 => first | rfl | k_is)
    (case xvV2 => k_is)
    (case xaC3 => k_is)
    (case xL3 => k_is)
    (case xsa3 => k_is)
    (case xga3 => k_is)
    (case xgg3 => k_is)
    (case xnb3 => k_is)
    (case xa13 => k_is)
    (case xt13 => k_is)
    (case xl13 => k_is)
    (case xc13 => k_is)
    (case xk13 => k_is)
    (case xkC3 => k_is)
    (case xeC3 => k_is)
    (case xtC3 => k_is)
    (case xhC3 => k_is)
    (case xiC3 => k_is)
    (case xsC3 => first | rfl | k_is)
    (case xvV3 => k_is)
    (case xaC4 => k_is)
    (case xL4 => k_is)
    (case xsa4 => k_is)
    (case xga4 => k_is)
    (case xgg4 => k_is)
    (case xnb4 => k_is)
    (case xa14 => k_is)
    (case xt14 => k_is)
    (case xl14 => k_is)
    (case xc14 => k_is)
    (case xk14 => k_is)
    (case xkC4 => k_is)
    (case xeC4 => k_is)
    (case xtC4 => k_is)
    (case xhC4 => k_is)
    (case xiC4 => k_is)
    (case xsC4 => first | rfl | k_is)
    (case xvV4 => k_is)
    (case xaC5 => k_is)
    (case xL5 => k_is)
    (case xsa5 => k_is)
    (case xga5 => k_is)
    (case xgg5 => k_is)
    (case xnb5 => k_is)
    (case xa15 => k_is)
    (case xt15 => k_is)
    (case xl15 => k_is)
    (case xc15 => k_is)
    (case xk15 => k_is)
    (case xkC5 => k_is)
    (case xeC5 => k_is)
    (case xtC5 => k_is)
    (case xhC5 => k_is)
    (case xiC5 => k_is)
    (case xsC5 => first | rfl | k_is)
    (case xvV5 => k_is)
    (case xaC6 => k_is)
    (case xL6 => k_is)
    (case xsa6 => k_is)
    (case xga6 => k_is)
    (case xgg6 => k_is)
    (case xnb6 => k_is)
    (case xa16 => k_is)
    (case xt16 => k_is)
    (case xl16 => k_is)
    (case xc16 => k_is)
    (case xk16 => k_is)
    (case xkC6 => k_is)
    (case xeC6 => k_is)
    (case xtC6 => k_is)
    (case xhC6 => k_is)
    (case xiC6 => k_is)
    (case xsC6 => first | rfl | k_is)
    (case xvV6 => k_is)
    (case xaC7 => k_is)
    (case xL7 => k_is)
    (case xsa7 => k_is)
    (case xga7 => k_is)
    (case xgg7 => k_is)
    (case xnb7 => k_is)
    (case xa17 => k_is)
    (case xt17 => k_is)
    (case xl17 => k_is)
    (case xc17 => k_is)
    (case xk17 => k_is)
    (case xkC7 => k_is)
    (case xeC7 => k_is)
    (case xtC7 => k_is)
    (case xhC7 => k_is)
    (case xiC7 => k_is)
    (case xsC7 => first | rfl | k_is)
    (case xvV7 => k_is)
    (case xaC8 => k_is)
    (case xL8 => k_is)
    (case xsa8 => k_is)
    (case xga8 => k_is)
    (case xgg8 => k_is)
    (case xnb8 => k_is)
    (case xa18 => k_is)
    (case xt18 => k_is)
    (case xl18 => k_is)
    (case xc18 => k_is)
    (case xk18 => k_is)
    (case xkC8 => k_is)
    (case xeC8 => k_is)
    (case xtC8 => k_is)
    (case xhC8 => k_is)
    (case xiC8 => k_is)
    (case xsC8 => first | rfl | k_is)
    (case xvV8 => k_is)
    (case xaC9 => k_is)
    (case xL9 => k_is)
    (case xsa9 => k_is)
    (case xga9 => k_is)
    (case xgg9 => k_is)
    (case xnb9 => k_is)
    (case xa19 => k_is)
    (case xt19 => k_is)
    (case xl19 => k_is)
    (case xc19 => k_is)
    (case xk19 => k_is)
    (case xkC9 => k_is)
    (case xeC9 => k_is)
    (case xtC9 => k_is)
    (case xhC9 => k_is)
    (case xiC9 => k_is)
    (case xsC9 => first | rfl | k_is)
    (case xvV9 => k_is)
    (case xaC10 => k_is)
    (case xL10 => k_is)
    (case xsa10 => k_is)
    (case xga10 => k_is)
    (case xgg10 => k_is)
    (case xnb10 => k_is)
    (case xa110 => k_is)
    (case xt110 => k_is)
    (case xl110 => k_is)
    (case xc110 => k_is)
    (case xk110 => k_is)
    (case xkC10 => k_is)
    (case xeC10 => k_is)
    (case xtC10 => k_is)
    (case xhC10 => k_is)
    (case xiC10 => k_is)
    (case xsC10 => first | rfl | k_is)
    (case xvV10 => k_is)
    (case xaC11 => k_is)
    (case xL11 => k_is)
    (case xsa11 => k_is)
    (case xga11 => k_is)
    (case xgg11 => k_is)
    (case xnb11 => k_is)
    (case xa111 => k_is)
    (case xt111 => k_is)
    (case xl111 => k_is)
    (case xc111 => k_is)
    (case xk111 => k_is)
    (case xkC11 => k_is)
    (case xeC11 => k_is)
    (case xtC11 => k_is)
    (case xhC11 => k_is)
    (case xiC11 => k_is)
    (case xsC11 => first | rfl | k_is)
    (case xvV11 => k_is)
    (case xaC12 => k_is)
    (case xL12 => k_is)
    (case xsa12 => k_is)
    (case xga12 => k_is)
    (case xgg12 => k_is)
    (case xnb12 => k_is)
    (case xa112 => k_is)
    (case xt112 => k_is)
    (case xl112 => k_is)
    (case xc112 => k_is)
    (case xk112 => k_is)
    (case xkC12 => k_is)
    (case xeC12 => k_is)
    (case xtC12 => k_is)
    (case xhC12 => k_is)
    (case xiC12 => k_is)
    (case xsC12 => first | rfl | k_is)
    (case xvV12 => k_is)
    (case xaC13 => k_is)
    (case xL13 => k_is)
    (case xsa13 => k_is)
    (case xga13 => k_is)
    (case xgg13 => k_is)
    (case xnb13 => k_is)
    (case xa113 => k_is)
    (case xt113 => k_is)
    (case xl113 => k_is)
    (case xc113 => k_is)
    (case xk113 => k_is)
    (case xkC13 => k_is)
    (case xeC13 => k_is)
    (case xtC13 => k_is)
    (case xhC13 => k_is)
    (case xiC13 => k_is)
    (case xsC13 => first | rfl | k_is)
    (case xvV13 => k_is)
    (case xaC14 => k_is)
    (case xL14 => k_is)
    (case xsa14 => k_is)
    (case xga14 => k_is)
    (case xgg14 => k_is)
    (case xnb14 => k_is)
    (case xa114 => k_is)
    (case xt114 => k_is)
    (case xl114 => k_is)
    (case xc114 => k_is)
    (case xk114 => k_is)
    (case xkC14 => k_is)
    (case xeC14 => k_is)
    (case xtC14 => k_is)
    (case xhC14 => k_is)
    (case xiC14 => k_is)
    (case xsC14 => first | rfl | k_is)
    (case xvV14 => k_is)
    (case xaC15 => k_is)
    (case xL15 => k_is)
    (case xsa15 => k_is)
    (case xga15 => k_is)
    (case xgg15 => k_is)
    (case xnb15 => k_is)
    (case xa115 => k_is)
    (case xt115 => k_is)
    (case xl115 => k_is)
    (case xc115 => k_is)
    (case xk115 => k_is)
    (case xkC15 => k_is)
    (case xeC15 => k_is)
    (case xtC15 => k_is)
    (case xhC15 => k_is)
    (case xiC15 => k_is)
    (case xsC15 => first | rfl | k_is)
    (case xvV15 => k_is)
    (case xaC16 => k_is)
    (case xL16 => k_is)
    (case xsa16 => k_is)
    (case xga16 => k_is)
    (case xgg16 => k_is)
    (case xnb16 => k_is)
    (case xa116 => k_is)
    (case xt116 => k_is)
    (case xl116 => k_is)
    (case xc116 => k_is)
    (case xk116 => k_is)
    (case xkC16 => k_is)
    (case xeC16 => k_is)
    (case xtC16 => k_is)
    (case xhC16 => k_is)
    (case xiC16 => k_is)
    (case xsC16 => first | rfl | k_is)
    (case xvV16 => k_is)
    (case xaC17 => k_is)
    (case xL17 => k_is)
    (case xsa17 => k_is)
    (case xga17 => k_is)
    (case xgg17 => k_is)
    (case xnb17 => k_is)
    (case xa117 => k_is)
    (case xt117 => k_is)
    (case xl117 => k_is)
    (case xc117 => k_is)
    (case xk117 => k_is)
    (case xkC17 => k_is)
    (case xeC17 => k_is)
    (case xtC17 => k_is)
    (case xhC17 => k_is)
    (case xiC17 => k_is)
    (case xsC17 => first | rfl | k_is)
    (case xvV17 => k_is)
    (case xaC18 => k_is)
    (case xL18 => k_is)
    (case xsa18 => k_is)
    (case xga18 => k_is)
    (case xgg18 => k_is)
    (case xnb18 => k_is)
    (case xa118 => k_is)
    (case xt118 => k_is)
    (case xl118 => k_is)
    (case xc118 => k_is)
    (case xk118 => k_is)
    (case xkC18 => k_is)
    (case xeC18 => k_is)
    (case xtC18 => k_is)
    (case xhC18 => k_is)
    (case xiC18 => k_is)
    (case xsC18 => first | rfl | k_is)
    (case xvV18 => k_is)
    (case xaC19 => k_is)
    (case xL19 => k_is)
    (case xsa19 => k_is)
    (case xga19 => k_is)
    (case xgg19 => k_is)
    (case xnb19 => k_is)
    (case xa119 => k_is)
    (case xt119 => k_is)
    (case xl119 => k_is)
    (case xc119 => k_is)
    (case xk119 => k_is)
    (case xkC19 => k_is)
    (case xeC19 => k_is)
    (case xtC19 => k_is)
    (case xhC19 => k_is)
    (case xiC19 => k_is)
    (case xsC19 => first | rfl | k_is)
    (case xvV19 => k_is)
    (case xaC20 => k_is)
    (case xL20 => k_is)
    (case xsa20 => k_is)
    (case xga20 => k_is)
    (case xgg20 => k_is)
    (case xnb20 => k_is)
    (case xa120 => k_is)
    (case xt120 => k_is)
    (case xl120 => k_is)
    (case xc120 => k_is)
    (case xk120 => k_is)
    (case xkC20 => k_is)
    (case xeC20 => k_is)
    (case xtC20 => k_is)
    (case xhC20 => k_is)
    (case xiC20 => k_is)
    (case xsC20 => first | rfl | k_is)
    (case xvV20 => k_is)
    (case xgn => k_is)
    (case xtk => k_is)
    (case ya0 => k_is)
    (case yi0 => k_is)
    (case yt0 => k_is)
    (case ys0 => first | rfl | k_is)
    (case ye0 => k_is)
    (case ya1 => k_is)
    (case yi1 => k_is)
    (case yt1 => k_is)
    (case ys1 => first | rfl | k_is)
    (case ye1 => k_is)
    (case ya2 => k_is)
    (case yi2 => k_is)
    (case yt2 => k_is)
    (case ys2 => first | rfl | k_is)
    (case ye2 => k_is)
    (case ya3 => k_is)
    (case yi3 => k_is)
    (case yt3 => k_is)
    (case ys3 => first | rfl | k_is)
    (case ye3 => k_is)
    (case ya4 => k_is)
    (case yi4 => k_is)
    (case yt4 => k_is)
    (case ys4 => first | rfl | k_is)
    (case ye4 => k_is)
    (case ya5 => k_is)
    (case yi5 => k_is)
    (case yt5 => k_is)
    (case ys5 => first | rfl | k_is)
    (case ye5 => k_is)
    (case ya6 => k_is)
    (case yi6 => k_is)
    (case yt6 => k_is)
    (case ys6 => first | rfl | k_is)
    (case ye6 => k_is)
    (case ya7 => k_is)
    (case yi7 => k_is)
    (case yt7 => k_is)
    (case ys7 => first | rfl | k_is)
    (case ye7 => k_is)
    (case ya8 => k_is)
    (case yi8 => k_is)
    (case yt8 => k_is)
    (case ys8 => first | rfl | k_is)
    (case ye8 => k_is)
    (case ya9 => k_is)
    (case yi9 => k_is)
    (case yt9 => k_is)
    (case ys9 => first | rfl | k_is)
    (case ye9 => k_is)
    (case ya10 => k_is)
    (case yi10 => k_is)
    (case yt10 => k_is)
    (case ys10 => first | rfl | k_is)
    (case ye10 => k_is)
    (case ya11 => k_is)
    (case yi11 => k_is)
    (case yt11 => k_is)
    (case ys11 => first | rfl | k_is)
    (case ye11 => k_is)
    (case ya12 => k_is)
    (case yi12 => k_is)
    (case yt12 => k_is)
    (case ys12 => first | rfl | k_is)
    (case ye12 => k_is)
    (case ya13 => k_is)
    (case yi13 => k_is)
    (case yt13 => k_is)
    (case ys13 => first | rfl | k_is)
    (case ye13 => k_is)
    (case ya14 => k_is)
    (case yi14 => k_is)
    (case yt14 => k_is)
    (case ys14 => first | rfl | k_is)
    (case ye14 => k_is)
    (case ya15 => k_is)
    (case yi15 => k_is)
    (case yt15 => k_is)
    (case ys15 => first | rfl | k_is)
    (case ye15 => k_is)
    (case ya16 => k_is)
    (case yi16 => k_is)
    (case yt16 => k_is)
    (case ys16 => first | rfl | k_is)
    (case ye16 => k_is)
    (case ya17 => k_is)
    (case yi17 => k_is)
    (case yt17 => k_is)
    (case ys17 => first | rfl | k_is)
    (case ye17 => k_is)
    (case ya18 => k_is)
    (case yi18 => k_is)
    (case yt18 => k_is)
    (case ys18 => first | rfl | k_is)
    (case ye18 => k_is)
    (case ya19 => k_is)
    (case yi19 => k_is)
    (case yt19 => k_is)
    (case ys19 => first | rfl | k_is)
    (case ye19 => k_is)
    (case ya20 => k_is)
    (case yi20 => k_is)
    (case yt20 => k_is)
    (case ys20 => first | rfl | k_is)
    (case ye20 => k_is)
    (case xcl0 => k_is)
    (case xmo0 => k_is)
    (case xyb0_ValueError => k_is)
    (case xyp0_0 => first | rfl | k_is)
    (case xyp0_1 => first | rfl | k_is)
    (case xyp0_2 => first | rfl | k_is)
    (case xyp0_3 => first | rfl | k_is)
    (case xyp0_4 => first | rfl | k_is)
    (case xyp0_5 => first | rfl | k_is)
    (case xyp0_6 => first | rfl | k_is)
    (case xyp0_7 => first | rfl | k_is)
    (case xyp0_8 => first | rfl | k_is)
    (case xyp0_9 => first | rfl | k_is)
    (case xyp0_10 => first | rfl | k_is)
    (case xyp0_11 => first | rfl | k_is)
    (case xyp0_12 => first | rfl | k_is)
    (case xyp0_13 => first | rfl | k_is)
    (case xyp0_14 => first | rfl | k_is)
    (case xyp0_15 => first | rfl | k_is)
    (case xyp0_16 => first | rfl | k_is)
    (case xyp0_17 => first | rfl | k_is)
    (case xyp0_18 => first | rfl | k_is)
    (case xyp0_19 => first | rfl | k_is)
    (case xyp0_20 => first | rfl | k_is)
    (case xcl1 => k_is)
    (case xmo1 => k_is)
    (case xyb1_ValueError => k_is)
    (case xyp1_0 => first | rfl | k_is)
    (case xyp1_1 => first | rfl | k_is)
    (case xyp1_2 => first | rfl | k_is)
    (case xyp1_3 => first | rfl | k_is)
    (case xyp1_4 => first | rfl | k_is)
    (case xyp1_5 => first | rfl | k_is)
    (case xyp1_6 => first | rfl | k_is)
    (case xyp1_7 => first | rfl | k_is)
    (case xyp1_8 => first | rfl | k_is)
    (case xyp1_9 => first | rfl | k_is)
    (case xyp1_10 => first | rfl | k_is)
    (case xyp1_11 => first | rfl | k_is)
    (case xyp1_12 => first | rfl | k_is)
    (case xyp1_13 => first | rfl | k_is)
    (case xyp1_14 => first | rfl | k_is)
    (case xyp1_15 => first | rfl | k_is)
    (case xyp1_16 => first | rfl | k_is)
    (case xyp1_17 => first | rfl | k_is)
    (case xyp1_18 => first | rfl | k_is)
    (case xyp1_19 => first | rfl | k_is)
    (case xyp1_20 => first | rfl | k_is)
    (case xcl2 => k_is)
    (case xmo2 => k_is)
    (case xyb2_ValueError => k_is)
    (case xyp2_0 => first | rfl | k_is)
    (case xyp2_1 => first | rfl | k_is)
    (case xyp2_2 => first | rfl | k_is)
    (case xyp2_3 => first | rfl | k_is)
    (case xyp2_4 => first | rfl | k_is)
    (case xyp2_5 => first | rfl | k_is)
    (case xyp2_6 => first | rfl | k_is)
    (case xyp2_7 => first | rfl | k_is)
    (case xyp2_8 => first | rfl | k_is)
    (case xyp2_9 => first | rfl | k_is)
    (case xyp2_10 => first | rfl | k_is)
    (case xyp2_11 => first | rfl | k_is)
    (case xyp2_12 => first | rfl | k_is)
    (case xyp2_13 => first | rfl | k_is)
    (case xyp2_14 => first | rfl | k_is)
    (case xyp2_15 => first | rfl | k_is)
    (case xyp2_16 => first | rfl | k_is)
    (case xyp2_17 => first | rfl | k_is)
    (case xyp2_18 => first | rfl | k_is)
    (case xyp2_19 => first | rfl | k_is)
    (case xyp2_20 => first | rfl | k_is)
    (case xcl3 => k_is)
    (case xmo3 => k_is)
    (case xyb3_ValueError => k_is)
    (case xyp3_0 => first | rfl | k_is)
    (case xyp3_1 => first | rfl | k_is)
    (case xyp3_2 => first | rfl | k_is)
    (case xyp3_3 => first | rfl | k_is)
    (case xyp3_4 => first | rfl | k_is)
    (case xyp3_5 => first | rfl | k_is)
    (case xyp3_6 => first | rfl | k_is)
    (case xyp3_7 => first | rfl | k_is)
    (case xyp3_8 => first | rfl | k_is)
    (case xyp3_9 => first | rfl | k_is)
    (case xyp3_10 => first | rfl | k_is)
    (case xyp3_11 => first | rfl | k_is)
    (case xyp3_12 => first | rfl | k_is)
    (case xyp3_13 => first | rfl | k_is)
    (case xyp3_14 => first | rfl | k_is)
    (case xyp3_15 => first | rfl | k_is)
    (case xyp3_16 => first | rfl | k_is)
    (case xyp3_17 => first | rfl | k_is)
    (case xyp3_18 => first | rfl | k_is)
    (case xyp3_19 => first | rfl | k_is)
    (case xyp3_20 => first | rfl | k_is)
    (case xcl4 => k_is)
    (case xmo4 => k_is)
    (case xyb4_ValueError => k_is)
    (case xyp4_0 => first | rfl | k_is)
    (case xyp4_1 => first | rfl | k_is)
    (case xyp4_2 => first | rfl | k_is)
    (case xyp4_3 => first | rfl | k_is)
    (case xyp4_4 => first | rfl | k_is)
    (case xyp4_5 => first | rfl | k_is)
    (case xyp4_6 => first | rfl | k_is)
    (case xyp4_7 => first | rfl | k_is)
    (case xyp4_8 => first | rfl | k_is)
    (case xyp4_9 => first | rfl | k_is)
    (case xyp4_10 => first | rfl | k_is)
    (case xyp4_11 => first | rfl | k_is)
    (case xyp4_12 => first | rfl | k_is)
    (case xyp4_13 => first | rfl | k_is)
    (case xyp4_14 => first | rfl | k_is)
    (case xyp4_15 => first | rfl | k_is)
    (case xyp4_16 => first | rfl | k_is)
    (case xyp4_17 => first | rfl | k_is)
    (case xyp4_18 => first | rfl | k_is)
    (case xyp4_19 => first | rfl | k_is)
    (case xyp4_20 => first | rfl | k_is)
    (case xcl5 => k_is)
    (case xmo5 => k_is)
    (case xyb5_ValueError => k_is)
    (case xyp5_0 => first | rfl | k_is)
    (case xyp5_1 => first | rfl | k_is)
    (case xyp5_2 => first | rfl | k_is)
    (case xyp5_3 => first | rfl | k_is)
    (case xyp5_4 => first | rfl | k_is)
    (case xyp5_5 => first | rfl | k_is)
    (case xyp5_6 => first | rfl | k_is)
    (case xyp5_7 => first | rfl | k_is)
    (case xyp5_8 => first | rfl | k_is)
    (case xyp5_9 => first | rfl | k_is)
    (case xyp5_10 => first | rfl | k_is)
    (case xyp5_11 => first | rfl | k_is)
    (case xyp5_12 => first | rfl | k_is)
    (case xyp5_13 => first | rfl | k_is)
    (case xyp5_14 => first | rfl | k_is)
    (case xyp5_15 => first | rfl | k_is)
    (case xyp5_16 => first | rfl | k_is)
    (case xyp5_17 => first | rfl | k_is)
    (case xyp5_18 => first | rfl | k_is)
    (case xyp5_19 => first | rfl | k_is)
    (case xyp5_20 => first | rfl | k_is)
    (case xcl6 => k_is)
    (case xmo6 => k_is)
    (case xyb6_ValueError => k_is)
    (case xyp6_0 => first | rfl | k_is)
    (case xyp6_1 => first | rfl | k_is)
    (case xyp6_2 => first | rfl | k_is)
    (case xyp6_3 => first | rfl | k_is)
    (case xyp6_4 => first | rfl | k_is)
    (case xyp6_5 => first | rfl | k_is)
    (case xyp6_6 => first | rfl | k_is)
    (case xyp6_7 => first | rfl | k_is)
    (case xyp6_8 => first | rfl | k_is)
    (case xyp6_9 => first | rfl | k_is)
    (case xyp6_10 => first | rfl | k_is)
    (case xyp6_11 => first | rfl | k_is)
    (case xyp6_12 => first | rfl | k_is)
    (case xyp6_13 => first | rfl | k_is)
    (case xyp6_14 => first | rfl | k_is)
    (case xyp6_15 => first | rfl | k_is)
    (case xyp6_16 => first | rfl | k_is)
    (case xyp6_17 => first | rfl | k_is)
    (case xyp6_18 => first | rfl | k_is)
    (case xyp6_19 => first | rfl | k_is)
    (case xyp6_20 => first | rfl | k_is)
    (case xcl7 => k_is)
    (case xmo7 => k_is)
    (case xyb7_ValueError => k_is)
    (case xyp7_0 => first | rfl | k_is)
    (case xyp7_1 => first | rfl | k_is)
    (case xyp7_2 => first | rfl | k_is)
    (case xyp7_3 => first | rfl | k_is)
    (case xyp7_4 => first | rfl | k_is)
    (case xyp7_5 => first | rfl | k_is)
    (case xyp7_6 => first | rfl | k_is)
    (case xyp7_7 => first | rfl | k_is)
    (case xyp7_8 => first | rfl | k_is)
    (case xyp7_9 => first | rfl | k_is)
    (case xyp7_10 => first | rfl | k_is)
    (case xyp7_11 => first | rfl | k_is)
    (case xyp7_12 => first | rfl | k_is)
    (case xyp7_13 => first | rfl | k_is)
    (case xyp7_14 => first | rfl | k_is)
    (case xyp7_15 => first | rfl | k_is)
    (case xyp7_16 => first | rfl | k_is)
    (case xyp7_17 => first | rfl | k_is)
    (case xyp7_18 => first | rfl | k_is)
    (case xyp7_19 => first | rfl | k_is)
    (case xyp7_20 => first | rfl | k_is)
    (case xcl8 => k_is)
    (case xmo8 => k_is)
    (case xyb8_ValueError => k_is)
    (case xyp8_0 => first | rfl | k_is)
    (case xyp8_1 => first | rfl | k_is)
    (case xyp8_2 => first | rfl | k_is)
    (case xyp8_3 => first | rfl | k_is)
    (case xyp8_4 => first | rfl | k_is)
    (case xyp8_5 => first | rfl | k_is)
    (case xyp8_6 => first | rfl | k_is)
    (case xyp8_7 => first | rfl | k_is)
    (case xyp8_8 => first | rfl | k_is)
    (case xyp8_9 => first | rfl | k_is)
    (case xyp8_10 => first | rfl | k_is)
    (case xyp8_11 => first | rfl | k_is)
    (case xyp8_12 => first | rfl | k_is)
    (case xyp8_13 => first | rfl | k_is)
    (case xyp8_14 => first | rfl | k_is)
    (case xyp8_15 => first | rfl | k_is)
    (case xyp8_16 => first | rfl | k_is)
    (case xyp8_17 => first | rfl | k_is)
    (case xyp8_18 => first | rfl | k_is)
    (case xyp8_19 => first | rfl | k_is)
    (case xyp8_20 => first | rfl | k_is)
    (case xcl9 => k_is)
    (case xmo9 => k_is)
    (case xyb9_ValueError => k_is)
    (case xyp9_0 => first | rfl | k_is)
    (case xyp9_1 => first | rfl | k_is)
    (case xyp9_2 => first | rfl | k_is)
    (case xyp9_3 => first | rfl | k_is)
    (case xyp9_4 => first | rfl | k_is)
    (case xyp9_5 => first | rfl | k_is)
    (case xyp9_6 => first | rfl | k_is)
    (case xyp9_7 => first | rfl | k_is)
    (case xyp9_8 => first | rfl | k_is)
    (case xyp9_9 => first | rfl | k_is)
    (case xyp9_10 => first | rfl | k_is)
    (case xyp9_11 => first | rfl | k_is)
    (case xyp9_12 => first | rfl | k_is)
    (case xyp9_13 => first | rfl | k_is)
    (case xyp9_14 => first | rfl | k_is)
    (case xyp9_15 => first | rfl | k_is)
    (case xyp9_16 => first | rfl | k_is)
    (case xyp9_17 => first | rfl | k_is)
    (case xyp9_18 => first | rfl | k_is)
    (case xyp9_19 => first | rfl | k_is)
    (case xyp9_20 => first | rfl | k_is)
    (case xcl10 => k_is)
    (case xmo10 => k_is)
    (case xyb10_ValueError => k_is)
    (case xyp10_0 => first | rfl | k_is)
    (case xyp10_1 => first | rfl | k_is)
    (case xyp10_2 => first | rfl | k_is)
    (case xyp10_3 => first | rfl | k_is)
    (case xyp10_4 => first | rfl | k_is)
    (case xyp10_5 => first | rfl | k_is)
    (case xyp10_6 => first | rfl | k_is)
    (case xyp10_7 => first | rfl | k_is)
    (case xyp10_8 => first | rfl | k_is)
    (case xyp10_9 => first | rfl | k_is)
    (case xyp10_10 => first | rfl | k_is)
    (case xyp10_11 => first | rfl | k_is)
    (case xyp10_12 => first | rfl | k_is)
    (case xyp10_13 => first | rfl | k_is)
    (case xyp10_14 => first | rfl | k_is)
    (case xyp10_15 => first | rfl | k_is)
    (case xyp10_16 => first | rfl | k_is)
    (case xyp10_17 => first | rfl | k_is)
    (case xyp10_18 => first | rfl | k_is)
    (case xyp10_19 => first | rfl | k_is)
    (case xyp10_20 => first | rfl | k_is)
    (case xcl11 => k_is)
    (case xmo11 => k_is)
    (case xyb11_ValueError => k_is)
    (case xyp11_0 => first | rfl | k_is)
    (case xyp11_1 => first | rfl | k_is)
    (case xyp11_2 => first | rfl | k_is)
    (case xyp11_3 => first | rfl | k_is)
    (case xyp11_4 => first | rfl | k_is)
    (case xyp11_5 => first | rfl | k_is)
    (case xyp11_6 => first | rfl | k_is)
    (case xyp11_7 => first | rfl | k_is)
    (case xyp11_8 => first | rfl | k_is)
    (case xyp11_9 => first | rfl | k_is)
    (case xyp11_10 => first | rfl | k_is)
    (case xyp11_11 => first | rfl | k_is)
    (case xyp11_12 => first | rfl | k_is)
    (case xyp11_13 => first | rfl | k_is)
    (case xyp11_14 => first | rfl | k_is)
    (case xyp11_15 => first | rfl | k_is)
    (case xyp11_16 => first | rfl | k_is)
    (case xyp11_17 => first | rfl | k_is)
    (case xyp11_18 => first | rfl | k_is)
    (case xyp11_19 => first | rfl | k_is)
    (case xyp11_20 => first | rfl | k_is)
    (case xcl12 => k_is)
    (case xmo12 => k_is)
    (case xyb12_ValueError => k_is)
    (case xyp12_0 => first | rfl | k_is)
    (case xyp12_1 => first | rfl | k_is)
    (case xyp12_2 => first | rfl | k_is)
    (case xyp12_3 => first | rfl | k_is)
    (case xyp12_4 => first | rfl | k_is)
    (case xyp12_5 => first | rfl | k_is)
    (case xyp12_6 => first | rfl | k_is)
    (case xyp12_7 => first | rfl | k_is)
    (case xyp12_8 => first | rfl | k_is)
    (case xyp12_9 => first | rfl | k_is)
    (case xyp12_10 => first | rfl | k_is)
    (case xyp12_11 => first | rfl | k_is)
    (case xyp12_12 => first | rfl | k_is)
    (case xyp12_13 => first | rfl | k_is)
    (case xyp12_14 => first | rfl | k_is)
    (case xyp12_15 => first | rfl | k_is)
    (case xyp12_16 => first | rfl | k_is)
    (case xyp12_17 => first | rfl | k_is)
    (case xyp12_18 => first | rfl | k_is)
    (case xyp12_19 => first | rfl | k_is)
    (case xyp12_20 => first | rfl | k_is)
    (case xcl13 => k_is)
    (case xmo13 => k_is)
    (case xyb13_ValueError => k_is)
    (case xyp13_0 => first | rfl | k_is)
    (case xyp13_1 => first | rfl | k_is)
    (case xyp13_2 => first | rfl | k_is)
    (case xyp13_3 => first | rfl | k_is)
    (case xyp13_4 => first | rfl | k_is)
    (case xyp13_5 => first | rfl | k_is)
    (case xyp13_6 => first | rfl | k_is)
    (case xyp13_7 => first | rfl | k_is)
    (case xyp13_8 => first | rfl | k_is)
    (case xyp13_9 => first | rfl | k_is)
    (case xyp13_10 => first | rfl | k_is)
    (case xyp13_11 => first | rfl | k_is)
    (case xyp13_12 => first | rfl | k_is)
    (case xyp13_13 => first | rfl | k_is)
    (case xyp13_14 => first | rfl | k_is)
    (case xyp13_15 => first | rfl | k_is)
    (case xyp13_16 => first | rfl | k_is)
    (case xyp13_17 => first | rfl | k_is)
    (case xyp13_18 => first | rfl | k_is)
    (case xyp13_19 => first | rfl | k_is)
    (case xyp13_20 => first | rfl | k_is)
    (case xcl14 => k_is)
    (case xmo14 => k_is)
    (case xyb14_ValueError => k_is)
    (case xyp14_0 => first | rfl | k_is)
    (case xyp14_1 => first | rfl | k_is)
    (case xyp14_2 => first | rfl | k_is)
    (case xyp14_3 => first | rfl | k_is)
    (case xyp14_4 => first | rfl | k_is)
    (case xyp14_5 => first | rfl | k_is)
    (case xyp14_6 => first | rfl | k_is)
    (case xyp14_7 => first | rfl | k_is)
    (case xyp14_8 => first | rfl | k_is)
    (case xyp14_9 => first | rfl | k_is)
    (case xyp14_10 => first | rfl | k_is)
    (case xyp14_11 => first | rfl | k_is)
    (case xyp14_12 => first | rfl | k_is)
    (case xyp14_13 => first | rfl | k_is)
    (case xyp14_14 => first | rfl | k_is)
    (case xyp14_15 => first | rfl | k_is)
    (case xyp14_16 => first | rfl | k_is)
    (case xyp14_17 => first | rfl | k_is)
    (case xyp14_18 => first | rfl | k_is)
    (case xyp14_19 => first | rfl | k_is)
    (case xyp14_20 => first | rfl | k_is)
    (case xcl15 => k_is)
    (case xmo15 => k_is)
    (case xyb15_ValueError => k_is)
    (case xyp15_0 => first | rfl | k_is)
    (case xyp15_1 => first | rfl | k_is)
    (case xyp15_2 => first | rfl | k_is)
    (case xyp15_3 => first | rfl | k_is)
    (case xyp15_4 => first | rfl | k_is)
    (case xyp15_5 => first | rfl | k_is)
    (case xyp15_6 => first | rfl | k_is)
    (case xyp15_7 => first | rfl | k_is)
    (case xyp15_8 => first | rfl | k_is)
    (case xyp15_9 => first | rfl | k_is)
    (case xyp15_10 => first | rfl | k_is)
    (case xyp15_11 => first | rfl | k_is)
    (case xyp15_12 => first | rfl | k_is)
    (case xyp15_13 => first | rfl | k_is)
    (case xyp15_14 => first | rfl | k_is)
    (case xyp15_15 => first | rfl | k_is)
    (case xyp15_16 => first | rfl | k_is)
    (case xyp15_17 => first | rfl | k_is)
    (case xyp15_18 => first | rfl | k_is)
    (case xyp15_19 => first | rfl | k_is)
    (case xyp15_20 => first | rfl | k_is)
    (case xcl16 => k_is)
    (case xmo16 => k_is)
    (case xyb16_ValueError => k_is)
    (case xyp16_0 => first | rfl | k_is)
    (case xyp16_1 => first | rfl | k_is)
    (case xyp16_2 => first | rfl | k_is)
    (case xyp16_3 => first | rfl | k_is)
    (case xyp16_4 => first | rfl | k_is)
    (case xyp16_5 => first | rfl | k_is)
    (case xyp16_6 => first | rfl | k_is)
    (case xyp16_7 => first | rfl | k_is)
    (case xyp16_8 => first | rfl | k_is)
    (case xyp16_9 => first | rfl | k_is)
    (case xyp16_10 => first | rfl | k_is)
    (case xyp16_11 => first | rfl | k_is)
    (case xyp16_12 => first | rfl | k_is)
    (case xyp16_13 => first | rfl | k_is)
    (case xyp16_14 => first | rfl | k_is)
    (case xyp16_15 => first | rfl | k_is)
    (case xyp16_16 => first | rfl | k_is)
    (case xyp16_17 => first | rfl | k_is)
    (case xyp16_18 => first | rfl | k_is)
    (case xyp16_19 => first | rfl | k_is)
    (case xyp16_20 => first | rfl | k_is)
    (case xcl17 => k_is)
    (case xmo17 => k_is)
    (case xyb17_ValueError => k_is)
    (case xyp17_0 => first | rfl | k_is)
    (case xyp17_1 => first | rfl | k_is)
    (case xyp17_2 => first | rfl | k_is)
    (case xyp17_3 => first | rfl | k_is)
    (case xyp17_4 => first | rfl | k_is)
    (case xyp17_5 => first | rfl | k_is)
    (case xyp17_6 => first | rfl | k_is)
    (case xyp17_7 => first | rfl | k_is)
    (case xyp17_8 => first | rfl | k_is)
    (case xyp17_9 => first | rfl | k_is)
    (case xyp17_10 => first | rfl | k_is)
    (case xyp17_11 => first | rfl | k_is)
    (case xyp17_12 => first | rfl | k_is)
    (case xyp17_13 => first | rfl | k_is)
    (case xyp17_14 => first | rfl | k_is)
    (case xyp17_15 => first | rfl | k_is)
    (case xyp17_16 => first | rfl | k_is)
    (case xyp17_17 => first | rfl | k_is)
    (case xyp17_18 => first | rfl | k_is)
    (case xyp17_19 => first | rfl | k_is)
    (case xyp17_20 => first | rfl | k_is)
    (case xcl18 => k_is)
    (case xmo18 => k_is)
    (case xyb18_ValueError => k_is)
    (case xyp18_0 => first | rfl | k_is)
    (case xyp18_1 => first | rfl | k_is)
    (case xyp18_2 => first | rfl | k_is)
    (case xyp18_3 => first | rfl | k_is)
    (case xyp18_4 => first | rfl | k_is)
    (case xyp18_5 => first | rfl | k_is)
    (case xyp18_6 => first | rfl | k_is)
    (case xyp18_7 => first | rfl | k_is)
    (case xyp18_8 => first | rfl | k_is)
    (case xyp18_9 => first | rfl | k_is)
    (case xyp18_10 => first | rfl | k_is)
    (case xyp18_11 => first | rfl | k_is)
    (case xyp18_12 => first | rfl | k_is)
    (case xyp18_13 => first | rfl | k_is)
    (case xyp18_14 => first | rfl | k_is)
    (case xyp18_15 => first | rfl | k_is)
    (case xyp18_16 => first | rfl | k_is)
    (case xyp18_17 => first | rfl | k_is)
    (case xyp18_18 => first | rfl | k_is)
    (case xyp18_19 => first | rfl | k_is)
    (case xyp18_20 => first | rfl | k_is)
    (case xcl19 => k_is)
    (case xmo19 => k_is)
    (case xyb19_ValueError => k_is)
    (case xyp19_0 => first | rfl | k_is)
    (case xyp19_1 => first | rfl | k_is)
    (case xyp19_2 => first | rfl | k_is)
    (case xyp19_3 => first | rfl | k_is)
    (case xyp19_4 => first | rfl | k_is)
    (case xyp19_5 => first | rfl | k_is)
    (case xyp19_6 => first | rfl | k_is)
    (case xyp19_7 => first | rfl | k_is)
    (case xyp19_8 => first | rfl | k_is)
    (case xyp19_9 => first | rfl | k_is)
    (case xyp19_10 => first | rfl | k_is)
    (case xyp19_11 => first | rfl | k_is)
    (case xyp19_12 => first | rfl | k_is)
    (case xyp19_13 => first | rfl | k_is)
    (case xyp19_14 => first | rfl | k_is)
    (case xyp19_15 => first | rfl | k_is)
    (case xyp19_16 => first | rfl | k_is)
    (case xyp19_17 => first | rfl | k_is)
    (case xyp19_18 => first | rfl | k_is)
    (case xyp19_19 => first | rfl | k_is)
    (case xyp19_20 => first | rfl | k_is)
    (case xcl20 => k_is)
    (case xmo20 => k_is)
    (case xyb20_ValueError => k_is)
    (case xyp20_0 => first | rfl | k_is)
    (case xyp20_1 => first | rfl | k_is)
    (case xyp20_2 => first | rfl | k_is)
    (case xyp20_3 => first | rfl | k_is)
    (case xyp20_4 => first | rfl | k_is)
    (case xyp20_5 => first | rfl | k_is)
    (case xyp20_6 => first | rfl | k_is)
    (case xyp20_7 => first | rfl | k_is)
    (case xyp20_8 => first | rfl | k_is)
    (case xyp20_9 => first | rfl | k_is)
    (case xyp20_10 => first | rfl | k_is)
    (case xyp20_11 => first | rfl | k_is)
    (case xyp20_12 => first | rfl | k_is)
    (case xyp20_13 => first | rfl | k_is)
    (case xyp20_14 => first | rfl | k_is)
    (case xyp20_15 => first | rfl | k_is)
    (case xyp20_16 => first | rfl | k_is)
    (case xyp20_17 => first | rfl | k_is)
    (case xyp20_18 => first | rfl | k_is)
    (case xyp20_19 => first | rfl | k_is)
    (case xyp20_20 => first | rfl | k_is)
