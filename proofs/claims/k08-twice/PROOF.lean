import PyProof.Rows.All
import Wide.All
import OpenK.AllK
import Wide.FinOn
import HandS.ForMost
import HandS.TupAny
import HandS.IsInst
import HandS.Wide
import HandS.WordsDict
import HandS.Zip
import HandS.Flow
import HandS.Exc
import HandS.SortKw
import HandS.More
import HandS.Text
import HandS.Style
import HandS.DictComp
import KE.GoesMore
import HandS.HeadHook3
import HandS.SortInts
import HandS.TryMany
import HandS.TryOnly
import HandS.ExcOwn
import HandS.ExcIs
import HandS.WordsExc
import HandS.ExcField
import KE.KExcIs
import KE.KExcSuper
import HandS.ExcInit
import PyProof.AutoSeq1
import HandS.Spec
import PySem.Challenge.RW_differwithin_k08_twice_claims
set_option Elab.async false
set_option linter.all false
set_option maxRecDepth 100000
set_option maxHeartbeats 1000000
/-! MP: a small semantics of plain data over the hand layer -/
namespace MP
open PySem L2 PyProof.Rows

/-- deep data: fl, fd are lists and dicts that nobody changes any more, ref a place of the small heap, ro a list that is locked or written -/
inductive D where
  | non | bl (b : Bool) | int (i : Int) | str (x : Str)
  | tup (xs : List D) | fl (xs : List D) | ro (xs : List D) | fd (ks : List Key) (xs : List D) | ref (n : Nat)
  deriving Inhabited
/-- what stands in the small heap -/
inductive MO where
  | lst (xs : List D) | dk (kvs : List (Key × D))
/-- an exception: its class's name, its own attributes -/
structure Xn where
  cls : Str
  fs : List (Str × D)
inductive R (α : Type) where
  | ok (a : α) (mu : List MO) | exc (x : Xn) (mu : List MO) | bad
def M (α : Type) := List MO → R α
def M.pure {α : Type} (a : α) : M α := fun mu => .ok a mu
def M.bind {α β : Type} (c : M α) (f : α → M β) : M β := fun mu => match c mu with
  | .ok a mu' => f a mu'
  | .exc x mu' => .exc x mu'
  | .bad => .bad
instance : Monad M where
  pure := M.pure
  bind := M.bind
def bad {α : Type} : M α := fun _ => .bad
def raise {α : Type} (x : Xn) : M α := fun mu => .exc x mu
theorem M.bind_ok {α β : Type} {c : M α} {f : α → M β} {mu mu' : List MO} {a : α} (h : c mu = .ok a mu') : (c >>= f) mu = f a mu' := by
  show M.bind c f mu = _
  unfold M.bind
  rw [h]
theorem M.bind_def {α β : Type} {c : M α} {f : α → M β} {mu : List MO} : (c >>= f) mu = match c mu with
  | .ok a mu' => f a mu'
  | .exc x mu' => .exc x mu'
  | .bad => .bad := rfl
theorem M.pure_def {α : Type} {a : α} {mu : List MO} : (Pure.pure a : M α) mu = .ok a mu := rfl

/-- where the small heap's places stand; further places that no datum may name -/
structure Mp where
  ad : List Addr
  no : List Addr
def Mp.Out (m : Mp) (a : Addr) : Prop := a ∉ m.ad ∧ a ∉ m.no
def Mp.add (m : Mp) (a : Addr) : Mp := ⟨m.ad ++ [a], m.no⟩
def Mp.shut (m : Mp) (a : Addr) : Mp := ⟨m.ad, m.no ++ [a]⟩
/-- a list of the written part; a list that is locked or written -/
def KL (K : PySem.W.Frag) (a : Addr) (xs : List V) : Prop := ∃ (o : Obj) (its : Array Value) (n : Nat), K.lookup a = some o ∧ o.cls = .type "list" ∧ o.dict = none ∧ o.data = .seq its n ∧ its.size ≤ sizeLine ∧ Vals xs its.toList
def RoAt (K : PySem.W.Frag) (H : Hp) (a : Addr) (xs : List V) : Prop := (∃ o, H a = some (.frz o (.lst xs))) ∨ KL K a xs
theorem RoAt.sqL {K : PySem.W.Frag} {H : Hp} {a : Addr} {xs : List V} (h : RoAt K H a xs) : SqL K H a xs := by
  rcases h with ⟨o, h⟩ | h
  · exact .inl (.inr ⟨o, h⟩)
  · exact .inr h
section
variable (K : PySem.W.Frag) (m : Mp) (H : Hp)
mutual
def Rep : D → V → Prop
  | .non, v => v = .non
  | .bl b, v => v = .bl b
  | .int i, v => v = .int i
  | .str x, v => v = .str x
  | .tup ds, v => ∃ a vs, v = .ref a ∧ SqT K H a vs ∧ Reps ds vs
  | .fl ds, v => ∃ a vs, v = .ref a ∧ H a = some (.lst vs) ∧ m.Out a ∧ Reps ds vs
  | .ro ds, v => ∃ a vs, v = .ref a ∧ RoAt K H a vs ∧ Reps ds vs
  | .fd ks ds, v => ∃ a vs, v = .ref a ∧ H a = some (.dK (ks.zip vs)) ∧ m.Out a ∧ ks.length = ds.length ∧ Reps ds vs
  | .ref n, v => ∃ a, v = .ref a ∧ m.ad[n]? = some a
def Reps : List D → List V → Prop
  | [], vs => vs = []
  | d :: ds, vs => ∃ v r, vs = v :: r ∧ Rep d v ∧ Reps ds r
end
def RepO (a : Addr) : MO → Prop
  | .lst ds => ∃ vs, H a = some (.lst vs) ∧ Reps K m H ds vs
  | .dk kvs => ∃ vs, H a = some (.dK ((kvs.map (·.1)).zip vs)) ∧ Reps K m H (kvs.map (·.2)) vs
end

/-- the heap grows: new places, what stands outside of m stays -/
structure Grow (m m' : Mp) (H H' : Hp) : Prop where
  ext : ∃ l k, m'.ad = m.ad ++ l ∧ m'.no = m.no ++ k ∧ (∀ a ∈ l, H a = none) ∧ ∀ a ∈ k, H a = none
  oth : ∀ a o, H a = some o → a ∉ m.ad → H' a = some o
  tups : ∀ a xs, H a = some (.tup xs) → H' a = some (.tup xs)
  frzs : ∀ a o u, H a = some (.frz o u) → H' a = some (.frz o u)
  trk : ∀ a o, H a = some o → ∃ o', H' a = some o'
theorem nodup_ix' {N : List Addr} (hN : N.Nodup) {i j : Nat} {x : Addr} (a : N[i]? = some x) (b : N[j]? = some x) : i = j := by
  obtain ⟨h1, e1⟩ := List.getElem?_eq_some_iff.mp a
  obtain ⟨h2, e2⟩ := List.getElem?_eq_some_iff.mp b
  exact (List.getElem_inj hN).mp (by rw [e1, e2])
theorem Grow.refl {m : Mp} {H : Hp} : Grow m m H H := ⟨⟨[], [], by simp, by simp, by simp, by simp⟩, fun _ _ h _ => h, fun _ _ h => h, fun _ _ _ h => h, fun _ o h => ⟨o, h⟩⟩
theorem Grow.notin {m m' : Mp} {H H' : Hp} (g : Grow m m' H H') {a : Addr} {o : HO} (h : H a = some o) (n : a ∉ m.ad) : a ∉ m'.ad := by
  obtain ⟨l, k, e, _, hl, _⟩ := g.ext
  rw [e]
  intro hm
  rcases List.mem_append.mp hm with z | z
  · exact n z
  · rw [hl a z] at h; cases h
theorem Grow.out {m m' : Mp} {H H' : Hp} (g : Grow m m' H H') {a : Addr} {o : HO} (h : H a = some o) (n : m.Out a) : m'.Out a := by
  refine ⟨g.notin h n.1, ?_⟩
  obtain ⟨l, k, _, e, _, hk⟩ := g.ext
  rw [e]
  intro hm
  rcases List.mem_append.mp hm with z | z
  · exact n.2 z
  · rw [hk a z] at h; cases h
theorem Grow.trans {m m1 m2 : Mp} {H H1 H2 : Hp} (g : Grow m m1 H H1) (g' : Grow m1 m2 H1 H2) : Grow m m2 H H2 := by
  have back : ∀ a, H1 a = none → H a = none := fun a h => by
    cases e : H a with
    | none => rfl
    | some o =>
      obtain ⟨o', h'⟩ := g.trk a o e
      rw [h] at h'; cases h'
  refine ⟨?_, fun a o h n => g'.oth a o (g.oth a o h n) (g.notin h n), fun a xs h => g'.tups a xs (g.tups a xs h), fun a o u h => g'.frzs a o u (g.frzs a o u h), fun a o h => ?_⟩
  · obtain ⟨l, k, e1, e2, hl, hk⟩ := g.ext
    obtain ⟨l', k', e1', e2', hl', hk'⟩ := g'.ext
    refine ⟨l ++ l', k ++ k', by rw [e1', e1, List.append_assoc], by rw [e2', e2, List.append_assoc], fun a ha => ?_, fun a ha => ?_⟩
    · rcases List.mem_append.mp ha with z | z
      · exact hl a z
      · exact back a (hl' a z)
    · rcases List.mem_append.mp ha with z | z
      · exact hk a z
      · exact back a (hk' a z)
  · obtain ⟨o1, h1⟩ := g.trk a o h
    exact g'.trk a o1 h1
theorem Grow.get {m m' : Mp} {H H' : Hp} (g : Grow m m' H H') {n : Nat} {a : Addr} (h : m.ad[n]? = some a) : m'.ad[n]? = some a := by
  obtain ⟨l, k, e, _⟩ := g.ext
  rw [e, List.getElem?_append_left (List.getElem?_eq_some_iff.mp h).1]; exact h
theorem Grow.sqT {K : PySem.W.Frag} {m m' : Mp} {H H' : Hp} (g : Grow m m' H H') {a : Addr} {xs : List V} (h : SqT K H a xs) : SqT K H' a xs := by
  rcases h with (h | ⟨o, h⟩) | h
  · exact .inl (.inl (g.tups a xs h))
  · exact .inl (.inr ⟨o, g.frzs a o _ h⟩)
  · exact .inr h
theorem Grow.roAt {K : PySem.W.Frag} {m m' : Mp} {H H' : Hp} (g : Grow m m' H H') {a : Addr} {xs : List V} (h : RoAt K H a xs) : RoAt K H' a xs := by
  rcases h with ⟨o, h⟩ | h
  · exact .inl ⟨o, g.frzs a o _ h⟩
  · exact .inr h
section
variable {K : PySem.W.Frag} {m m' : Mp} {H H' : Hp}
/-- what the data lean on stays -/
structure Keep (m m' : Mp) (H H' : Hp) : Prop where
  get : ∀ (n : Nat) (a : Addr), m.ad[n]? = some a → m'.ad[n]? = some a
  fl : ∀ a o, H a = some o → m.Out a → H' a = some o ∧ m'.Out a
  tups : ∀ a xs, H a = some (.tup xs) → H' a = some (.tup xs)
  frzs : ∀ a o u, H a = some (.frz o u) → H' a = some (.frz o u)
theorem Grow.keep (g : Grow m m' H H') : Keep m m' H H' := ⟨fun _ _ h => g.get h, fun a o h n => ⟨g.oth a o h n.1, g.out h n⟩, g.tups, g.frzs⟩
theorem Keep.sqT (g : Keep m m' H H') {a : Addr} {xs : List V} (h : SqT K H a xs) : SqT K H' a xs := by
  rcases h with (h | ⟨o, h⟩) | h
  · exact .inl (.inl (g.tups a xs h))
  · exact .inl (.inr ⟨o, g.frzs a o _ h⟩)
  · exact .inr h
theorem Keep.roAt (g : Keep m m' H H') {a : Addr} {xs : List V} (h : RoAt K H a xs) : RoAt K H' a xs := by
  rcases h with ⟨o, h⟩ | h
  · exact .inl ⟨o, g.frzs a o _ h⟩
  · exact .inr h
mutual
theorem Rep.keep (g : Keep m m' H H') : ∀ (d : D) (v : V), Rep K m H d v → Rep K m' H' d v
  | .non, v, h => by simp only [Rep] at h ⊢; exact h
  | .bl b, v, h => by simp only [Rep] at h ⊢; exact h
  | .int i, v, h => by simp only [Rep] at h ⊢; exact h
  | .str x, v, h => by simp only [Rep] at h ⊢; exact h
  | .tup ds, v, h => by
    simp only [Rep] at h ⊢
    obtain ⟨a, vs, e, hs, hr⟩ := h
    exact ⟨a, vs, e, g.sqT hs, Reps.keep g ds vs hr⟩
  | .fl ds, v, h => by
    simp only [Rep] at h ⊢
    obtain ⟨a, vs, e, hs, hn, hr⟩ := h
    exact ⟨a, vs, e, (g.fl a _ hs hn).1, (g.fl a _ hs hn).2, Reps.keep g ds vs hr⟩
  | .ro ds, v, h => by
    simp only [Rep] at h ⊢
    obtain ⟨a, vs, e, hs, hr⟩ := h
    exact ⟨a, vs, e, g.roAt hs, Reps.keep g ds vs hr⟩
  | .fd ks ds, v, h => by
    simp only [Rep] at h ⊢
    obtain ⟨a, vs, e, hs, hn, hl, hr⟩ := h
    exact ⟨a, vs, e, (g.fl a _ hs hn).1, (g.fl a _ hs hn).2, hl, Reps.keep g ds vs hr⟩
  | .ref n, v, h => by
    simp only [Rep] at h ⊢
    obtain ⟨a, e, hm⟩ := h
    exact ⟨a, e, g.get n a hm⟩
theorem Reps.keep (g : Keep m m' H H') : ∀ (ds : List D) (vs : List V), Reps K m H ds vs → Reps K m' H' ds vs
  | [], vs, h => by simp only [Reps] at h ⊢; exact h
  | d :: ds, vs, h => by
    simp only [Reps] at h ⊢
    obtain ⟨v, r, e, h1, h2⟩ := h
    exact ⟨v, r, e, Rep.keep g d v h1, Reps.keep g ds r h2⟩
end
theorem Rep.grow (g : Grow m m' H H') (d : D) (v : V) (h : Rep K m H d v) : Rep K m' H' d v := Rep.keep g.keep d v h
theorem Reps.grow (g : Grow m m' H H') (ds : List D) (vs : List V) (h : Reps K m H ds vs) : Reps K m' H' ds vs := Reps.keep g.keep ds vs h
theorem Reps.nil_iff {vs : List V} : Reps K m H [] vs ↔ vs = [] := by simp only [Reps]
theorem Reps.cons_iff {d : D} {ds : List D} {vs : List V} : Reps K m H (d :: ds) vs ↔ ∃ v r, vs = v :: r ∧ Rep K m H d v ∧ Reps K m H ds r := by simp only [Reps]
theorem Reps.length : ∀ {ds : List D} {vs : List V}, Reps K m H ds vs → ds.length = vs.length
  | [], vs, h => by rw [Reps.nil_iff] at h; subst h; rfl
  | d :: ds, vs, h => by
    obtain ⟨v, r, e, _, h2⟩ := Reps.cons_iff.mp h
    subst e
    rw [List.length_cons, List.length_cons, Reps.length h2]
theorem Reps.get : ∀ {ds : List D} {vs : List V} {i : Nat} {d : D}, Reps K m H ds vs → ds[i]? = some d → ∃ v, vs[i]? = some v ∧ Rep K m H d v
  | [], vs, i, d, _, e => by simp at e
  | d' :: ds, vs, i, d, h, e => by
    obtain ⟨v, r, ev, h1, h2⟩ := Reps.cons_iff.mp h
    subst ev
    cases i with
    | zero => simp at e; subst e; exact ⟨v, rfl, h1⟩
    | succ i =>
      obtain ⟨w, hw, rw'⟩ := Reps.get (i := i) (d := d) h2 (by simpa using e)
      exact ⟨w, by simpa using hw, rw'⟩
theorem Reps.append : ∀ {ds es : List D} {vs ws : List V}, Reps K m H ds vs → Reps K m H es ws → Reps K m H (ds ++ es) (vs ++ ws)
  | [], es, vs, ws, h, h' => by rw [Reps.nil_iff] at h; subst h; exact h'
  | d :: ds, es, vs, ws, h, h' => by
    obtain ⟨v, r, ev, h1, h2⟩ := Reps.cons_iff.mp h
    subst ev
    exact Reps.cons_iff.mpr ⟨v, r ++ ws, rfl, h1, Reps.append h2 h'⟩
theorem Reps.one {d : D} {v : V} (h : Rep K m H d v) : Reps K m H [d] [v] := Reps.cons_iff.mpr ⟨v, [], rfl, h, Reps.nil_iff.mpr rfl⟩
theorem Reps.take (n : Nat) : ∀ {ds : List D} {vs : List V}, Reps K m H ds vs → Reps K m H (ds.take n) (vs.take n) := by
  induction n with
  | zero => intro ds vs _; exact Reps.nil_iff.mpr rfl
  | succ n ih =>
    intro ds vs h
    cases ds with
    | nil => rw [Reps.nil_iff] at h; subst h; exact Reps.nil_iff.mpr rfl
    | cons d ds =>
      obtain ⟨v, r, ev, h1, h2⟩ := Reps.cons_iff.mp h
      subst ev
      exact Reps.cons_iff.mpr ⟨v, r.take n, rfl, h1, ih h2⟩
theorem Reps.drop (n : Nat) : ∀ {ds : List D} {vs : List V}, Reps K m H ds vs → Reps K m H (ds.drop n) (vs.drop n) := by
  induction n with
  | zero => intro ds vs h; exact h
  | succ n ih =>
    intro ds vs h
    cases ds with
    | nil => rw [Reps.nil_iff] at h; subst h; exact Reps.nil_iff.mpr rfl
    | cons d ds =>
      obtain ⟨v, r, ev, h1, h2⟩ := Reps.cons_iff.mp h
      subst ev
      exact ih h2
theorem Reps.set {d : D} {v : V} (hd : Rep K m H d v) : ∀ {ds : List D} {vs : List V} (i : Nat), Reps K m H ds vs → Reps K m H (ds.set i d) (vs.set i v)
  | [], vs, i, h => by rw [Reps.nil_iff] at h; subst h; exact Reps.nil_iff.mpr rfl
  | e :: ds, vs, i, h => by
    obtain ⟨w, r, ev, h1, h2⟩ := Reps.cons_iff.mp h
    subst ev
    cases i with
    | zero => exact Reps.cons_iff.mpr ⟨v, r, rfl, hd, h2⟩
    | succ i => exact Reps.cons_iff.mpr ⟨w, r.set i v, rfl, h1, Reps.set hd i h2⟩
theorem Reps.of_ints : ∀ {ns : List Int} {vs : List V}, Reps K m H (ns.map D.int) vs ↔ vs = ns.map V.int
  | [], vs => Reps.nil_iff
  | n :: ns, vs => by
    rw [List.map_cons, Reps.cons_iff, List.map_cons]
    constructor
    · rintro ⟨v, r, e, h1, h2⟩
      simp only [Rep] at h1
      rw [e, h1, Reps.of_ints.mp h2]
    · rintro rfl
      exact ⟨_, _, rfl, by simp only [Rep], Reps.of_ints.mpr rfl⟩
theorem Reps.of_strs : ∀ {ns : List Str} {vs : List V}, Reps K m H (ns.map D.str) vs ↔ vs = ns.map V.str
  | [], vs => Reps.nil_iff
  | n :: ns, vs => by
    rw [List.map_cons, Reps.cons_iff, List.map_cons]
    constructor
    · rintro ⟨v, r, e, h1, h2⟩
      simp only [Rep] at h1
      rw [e, h1, Reps.of_strs.mp h2]
    · rintro rfl
      exact ⟨_, _, rfl, by simp only [Rep], Reps.of_strs.mpr rfl⟩
theorem Reps.of_bls : ∀ {ns : List Bool} {vs : List V}, Reps K m H (ns.map D.bl) vs ↔ vs = ns.map V.bl
  | [], vs => Reps.nil_iff
  | n :: ns, vs => by
    rw [List.map_cons, Reps.cons_iff, List.map_cons]
    constructor
    · rintro ⟨v, r, e, h1, h2⟩
      simp only [Rep] at h1
      rw [e, h1, Reps.of_bls.mp h2]
    · rintro rfl
      exact ⟨_, _, rfl, by simp only [Rep], Reps.of_bls.mpr rfl⟩
theorem RepO.keep (g : Keep m m' H H') {a : Addr} (hk : ∀ o, H a = some o → H' a = some o) : ∀ {o : MO}, RepO K m H a o → RepO K m' H' a o
  | .lst ds, ⟨vs, h, r⟩ => ⟨vs, hk _ h, Reps.keep g ds vs r⟩
  | .dk kvs, ⟨vs, h, r⟩ => ⟨vs, hk _ h, Reps.keep g _ vs r⟩
theorem RepO.grow (g : Grow m m' H H') {a : Addr} (hk : ∀ o, H a = some o → H' a = some o) : ∀ {o : MO}, RepO K m H a o → RepO K m' H' a o
  | .lst ds, ⟨vs, h, r⟩ => ⟨vs, hk _ h, Reps.grow g ds vs r⟩
  | .dk kvs, ⟨vs, h, r⟩ => ⟨vs, hk _ h, Reps.grow g _ vs r⟩
/-- the small heap stands -/
structure Rel (K : PySem.W.Frag) (m : Mp) (mu : List MO) (H : Hp) : Prop where
  len : m.ad.length = mu.length
  nd : m.ad.Nodup
  nos : ∀ a, a ∈ m.no → ∃ o, H a = some o
  dj : ∀ a, a ∈ m.ad → a ∉ m.no
  obj : ∀ (n : Nat) (o : MO) (a : Addr), mu[n]? = some o → m.ad[n]? = some a → RepO K m H a o
theorem Rel.at {mu : List MO} (r : Rel K m mu H) {n : Nat} {o : MO} (h : mu[n]? = some o) : ∃ a, m.ad[n]? = some a ∧ RepO K m H a o := by
  have hn : n < m.ad.length := by rw [r.len]; exact (List.getElem?_eq_some_iff.mp h).1
  exact ⟨m.ad[n], List.getElem?_eq_getElem hn, r.obj n o _ h (List.getElem?_eq_getElem hn)⟩
theorem Rel.at' {mu : List MO} (r : Rel K m mu H) {n : Nat} {a : Addr} (h : m.ad[n]? = some a) : ∃ o, mu[n]? = some o ∧ RepO K m H a o := by
  have hn : n < mu.length := by rw [← r.len]; exact (List.getElem?_eq_some_iff.mp h).1
  exact ⟨mu[n], List.getElem?_eq_getElem hn, r.obj n _ a (List.getElem?_eq_getElem hn) h⟩
theorem RepO.there {a : Addr} : ∀ {o : MO}, RepO K m H a o → (∃ vs, H a = some (.lst vs)) ∨ ∃ kvs, H a = some (.dK kvs)
  | .lst _, ⟨vs, h, _⟩ => .inl ⟨vs, h⟩
  | .dk _, ⟨_, h, _⟩ => .inr ⟨_, h⟩
theorem Rel.mem {mu : List MO} (r : Rel K m mu H) {a : Addr} (h : a ∈ m.ad) : (∃ vs, H a = some (.lst vs)) ∨ ∃ kvs, H a = some (.dK kvs) := by
  obtain ⟨n, hn⟩ := List.mem_iff_getElem?.mp h
  obtain ⟨o, _, ho⟩ := r.at' hn
  exact ho.there
/-- a place that is free may be taken for an object outside of m -/
theorem Grow.laid {a : Addr} {o : HO} (h : H a = none) : Grow m m H (upd H a o) :=
  ⟨⟨[], [], by simp, by simp, by simp, by simp⟩, fun b u e _ => by rw [upd_ne (ne_of_none e h)]; exact e, fun b u e => by rw [upd_ne (ne_of_none e h)]; exact e, fun b u w e => by rw [upd_ne (ne_of_none e h)]; exact e, fun b u e => ⟨u, by rw [upd_ne (ne_of_none e h)]; exact e⟩⟩
theorem Rel.laid {mu : List MO} {a : Addr} {o : HO} (r : Rel K m mu H) (h : H a = none) : Rel K m mu (upd H a o) :=
  ⟨r.len, r.nd, fun b hb => (Grow.laid (m := m) h).trk b _ (r.nos b hb).choose_spec, r.dj, fun n ob b e e' => (r.obj n ob b e e').grow (.laid h) fun u q => by rw [upd_ne (ne_of_none q h)]; exact q⟩
theorem Rel.free {mu : List MO} {a : Addr} (r : Rel K m mu H) (h : H a = none) : m.Out a := ⟨fun z => by
  rcases r.mem z with ⟨_, q⟩ | ⟨_, q⟩ <;> (rw [h] at q; cases q), fun z => by
  obtain ⟨o, q⟩ := r.nos a z
  rw [h] at q; cases q⟩
/-- an object that is not yet of the small heap is taken into it -/
theorem Grow.adopt {H0 : Hp} {a : Addr} (g : Grow m m' H0 H) (h0 : H0 a = none) : Grow m (m'.add a) H0 H := by
  obtain ⟨l, k, e, e2, hl, hk⟩ := g.ext
  refine ⟨⟨l ++ [a], k, by show m'.ad ++ [a] = _; rw [e, List.append_assoc], e2, fun b hb => ?_, hk⟩, g.oth, g.tups, g.frzs, g.trk⟩
  rcases List.mem_append.mp hb with z | z
  · exact hl b z
  · rw [List.mem_singleton.mp z]; exact h0
/-- an object of the small heap is changed -/
theorem Grow.write {mu : List MO} {n : Nat} {a : Addr} {ho : HO} (r : Rel K m mu H) (hm : m.ad[n]? = some a) : Grow m m H (upd H a ho) := by
  have hmem : a ∈ m.ad := List.mem_of_getElem? hm
  have hin := r.mem hmem
  refine ⟨⟨[], [], by simp, by simp, by simp, by simp⟩, fun b u e nb => ?_, fun b u e => ?_, fun b u w e => ?_, fun b u e => ?_⟩
  · rw [upd_ne (show b ≠ a from fun z => nb (by rw [z]; exact hmem))]; exact e
  · rw [upd_ne (show b ≠ a from fun z => by rw [z] at e; rcases hin with ⟨_, q⟩ | ⟨_, q⟩ <;> (rw [q] at e; cases e))]; exact e
  · rw [upd_ne (show b ≠ a from fun z => by rw [z] at e; rcases hin with ⟨_, q⟩ | ⟨_, q⟩ <;> (rw [q] at e; cases e))]; exact e
  · by_cases z : b = a
    · subst z; exact ⟨ho, upd_same⟩
    · exact ⟨u, by rw [upd_ne z]; exact e⟩
theorem Rel.write {mu : List MO} {n : Nat} {a : Addr} {o : MO} {ho : HO} (r : Rel K m mu H) (hm : m.ad[n]? = some a) (hnew : RepO K m (upd H a ho) a o) : Rel K m (mu.set n o) (upd H a ho) := by
  have g : Grow m m H (upd H a ho) := .write r hm
  refine ⟨by rw [List.length_set]; exact r.len, r.nd, fun b hb => g.trk b _ (r.nos b hb).choose_spec, r.dj, fun k ob b e e' => ?_⟩
  by_cases hk : k = n
  · subst hk
    rw [hm] at e'; cases e'
    rw [List.getElem?_set_self (by rw [← r.len]; exact (List.getElem?_eq_some_iff.mp hm).1)] at e
    cases e
    exact hnew
  · rw [List.getElem?_set_ne (Ne.symm hk)] at e
    have hba : b ≠ a := fun z => hk (nodup_ix' r.nd e' (z ▸ hm))
    exact (r.obj k ob b e e').grow g fun u q => by rw [upd_ne hba]; exact q
end
end MP
namespace MP
open PySem L2 PyProof.Rows

abbrev Env := List (Option D)
structure RepE (K : PySem.W.Frag) (m : Mp) (H : Hp) (env : Env) (σ : L2.St) : Prop where
  len : env.length = σ.length
  get : ∀ (i : Nat) (d : D), env[i]? = some (some d) → ∃ v, σ[i]? = some (some v) ∧ Rep K m H d v
abbrev Wx := Xn → Mp → Hp → Prop
def Post (K : PySem.W.Frag) (W : Wx) (m : Mp) (H : Hp) {α : Type} (r : R α) (Q : α → Mp → List MO → Hp → Prop) : Prop := match r with
  | .ok a mu' => ∀ m' H', Grow m m' H H' → Rel K m' mu' H' → Q a m' mu' H'
  | .exc x mu' => ∀ m' H', Grow m m' H H' → Rel K m' mu' H' → W x m' H'
  | .bad => False
section
variable {K : PySem.W.Frag} {W : Wx} {m m' : Mp} {H H' : Hp} {α β : Type} {env : Env} {σ : L2.St} {mu : List MO}
theorem RepE.grow (r : RepE K m H env σ) (g : Grow m m' H H') : RepE K m' H' env σ :=
  ⟨r.len, fun i d e => let ⟨v, h, q⟩ := r.get i d e; ⟨v, h, Rep.grow g d v q⟩⟩
theorem RepE.keep (r : RepE K m H env σ) (g : Keep m m' H H') : RepE K m' H' env σ :=
  ⟨r.len, fun i d e => let ⟨v, h, q⟩ := r.get i d e; ⟨v, h, Rep.keep g d v q⟩⟩
theorem RepE.set (r : RepE K m H env σ) {i : Nat} {d : D} {v : V} (h : Rep K m H d v) : RepE K m H (env.set i (some d)) (σ.set i (some v)) := by
  refine ⟨by rw [List.length_set, List.length_set, r.len], fun j e he => ?_⟩
  by_cases hj : i = j
  · subst hj
    by_cases hi : i < env.length
    · rw [List.getElem?_set_self hi] at he
      cases he
      exact ⟨v, List.getElem?_set_self (by rw [← r.len]; exact hi), h⟩
    · rw [List.getElem?_eq_none (by rw [List.length_set]; omega)] at he
      cases he
  · rw [List.getElem?_set_ne hj] at he
    obtain ⟨w, hw, q⟩ := r.get j e he
    exact ⟨w, by rw [List.getElem?_set_ne hj]; exact hw, q⟩
/-- slots forgotten -/
def wipeE (env : Env) : List Nat → Env
  | [] => env
  | i :: is => (wipeE env is).set i none
theorem wipeE_length : ∀ (is : List Nat), (wipeE env is).length = env.length
  | [] => rfl
  | i :: is => by unfold wipeE; rw [List.length_set, wipeE_length is]
theorem wipeE_some {i : Nat} {d : D} : ∀ {is : List Nat}, (wipeE env is)[i]? = some (some d) → env[i]? = some (some d) ∧ i ∉ is
  | [], h => ⟨h, by simp⟩
  | j :: is, h => by
    unfold wipeE at h
    by_cases hi : j = i
    · subst hi
      by_cases hv : j < (wipeE env is).length
      · rw [List.getElem?_set_self hv] at h; cases h
      · rw [List.getElem?_eq_none (by simpa using hv)] at h; cases h
    · rw [List.getElem?_set_ne hi] at h
      obtain ⟨h1, h2⟩ := wipeE_some h
      exact ⟨h1, by simp only [List.mem_cons, not_or]; exact ⟨fun e => hi e.symm, h2⟩⟩
theorem RepE.wipeL (r : RepE K m H env σ) (is : List Nat) : RepE K m H (wipeE env is) σ :=
  ⟨by rw [wipeE_length]; exact r.len, fun i d e => r.get i d (wipeE_some e).1⟩
theorem L2wipe_get {i : Nat} : ∀ {is : List Nat}, i ∉ is → (L2.wipe σ is)[i]? = σ[i]?
  | [], _ => rfl
  | j :: is, h => by
    simp only [List.mem_cons, not_or] at h
    unfold L2.wipe
    rw [List.getElem?_set_ne (Ne.symm h.1), L2wipe_get h.2]
theorem RepE.wipe (r : RepE K m H env σ) (is : List Nat) : RepE K m H (wipeE env is) (L2.wipe σ is) :=
  ⟨by rw [wipeE_length, L2.wipe_length]; exact r.len, fun i d e => by
    obtain ⟨h1, h2⟩ := wipeE_some e
    obtain ⟨v, h, q⟩ := r.get i d h1
    exact ⟨v, by rw [L2wipe_get h2]; exact h, q⟩⟩
theorem Post.mono {r : R α} {Q Q' : α → Mp → List MO → Hp → Prop} (h : Post K W m H r Q) (hQ : ∀ a m' mu' H', Grow m m' H H' → Rel K m' mu' H' → Q a m' mu' H' → Q' a m' mu' H') : Post K W m H r Q' := by
  cases r with
  | ok a mu' => exact fun m' H' g rl => hQ a m' mu' H' g rl (h m' H' g rl)
  | exc x mu' => exact h
  | bad => exact h
theorem Post.grow {r : R α} {Q : α → Mp → List MO → Hp → Prop} (h : Post K W m H r Q) (g : Grow m m' H H') : Post K W m' H' r Q := by
  cases r with
  | ok a mu' => exact fun m2 H2 g2 rl => h m2 H2 (g.trans g2) rl
  | exc x mu' => exact fun m2 H2 g2 rl => h m2 H2 (g.trans g2) rl
  | bad => exact h
theorem Post.bind {c : M α} {f : α → M β} {Q : β → Mp → List MO → Hp → Prop} (h : Post K W m H ((c >>= f) mu) Q) : Post K W m H (c mu) (fun a m' mu' H' => Post K W m' H' (f a mu') Q) := by
  rw [M.bind_def] at h
  cases e : c mu with
  | ok a mu' =>
    rw [e] at h
    exact fun m' H' g rl => h.grow g
  | exc x mu' => rw [e] at h; exact h
  | bad => rw [e] at h; exact h
theorem Post.pure {a : α} {Q : α → Mp → List MO → Hp → Prop} (h : Post K W m H ((Pure.pure a : M α) mu) Q) (rl : Rel K m mu H) : Q a m mu H := h m H .refl rl
theorem Post.wx {W' : Wx} {r : R α} {Q : α → Mp → List MO → Hp → Prop} (h : Post K W m H r Q) (hw : ∀ x m H, W x m H → W' x m H) : Post K W' m H r Q := by
  cases r with
  | ok a mu' => exact h
  | exc x mu' => exact fun m' H' g rl => hw _ _ _ (h m' H' g rl)
  | bad => exact h
end

/-! ### readings -/
def tE (K : PySem.W.Frag) (W : Wx) (r : Env → M D) : TE := fun σ H Q => ∃ env m mu, RepE K m H env σ ∧ Rel K m mu H ∧ Post K W m H (r env mu) fun d m' _ H' => ∀ v, Rep K m' H' d v → Q v H'
def tT (K : PySem.W.Frag) (W : Wx) (r : Env → M Bool) : TT := fun σ H Q => ∃ env m mu, RepE K m H env σ ∧ Rel K m mu H ∧ Post K W m H (r env mu) fun b _ _ H' => Q b H'
def tA (K : PySem.W.Frag) (W : Wx) (r : Env → M (List D)) : TA := fun σ H Q => ∃ env m mu, RepE K m H env σ ∧ Rel K m mu H ∧ Post K W m H (r env mu) fun ds m' _ H' => ∀ vs, Reps K m' H' ds vs → Q vs H'
/-- what a def hands back: a datum, or a list that is new -/
inductive Rv where
  | vl (d : D) | fr (ds : List D)
inductive Fl where
  | nx (e : Env) | rt (rv : Rv) | bk (e : Env) | ct (e : Env)
/-- a list that was not there ahead of H, and that nothing else holds -/
def NewL (K : PySem.W.Frag) (H : Hp) (ds : List D) (m' : Mp) (mu' : List MO) (H' : Hp) (Q : VK) : Prop :=
  ∀ a vs, H a = none → H' a = some (.lst vs) → m'.Out a → Reps K m' H' ds vs → Rel K (m'.add a) (mu' ++ [.lst ds]) H' → Q (.ref a) H'
def RvQ (K : PySem.W.Frag) (H : Hp) (rv : Rv) (m' : Mp) (mu' : List MO) (H' : Hp) (Q : VK) : Prop := match rv with
  | .vl d => ∀ v, Rep K m' H' d v → Q v H'
  | .fr ds => NewL K H ds m' mu' H' Q
theorem Grow.none_of {m m1 : Mp} {H H1 : Hp} (g : Grow m m1 H H1) {a : Addr} (h : H1 a = none) : H a = none := by
  cases e : H a with
  | none => rfl
  | some o =>
    obtain ⟨o', h'⟩ := g.trk a o e
    rw [h] at h'; cases h'
theorem NewL.from {K : PySem.W.Frag} {m m1 m' : Mp} {mu' : List MO} {H H1 H' : Hp} {ds : List D} {Q : VK} (h : NewL K H ds m' mu' H' Q) (g : Grow m m1 H H1) : NewL K H1 ds m' mu' H' Q := fun a vs h1 => h a vs (g.none_of h1)
theorem RvQ.from {K : PySem.W.Frag} {m m1 m' : Mp} {mu' : List MO} {H H1 H' : Hp} {rv : Rv} {Q : VK} (h : RvQ K H rv m' mu' H' Q) (g : Grow m m1 H H1) : RvQ K H1 rv m' mu' H' Q := by
  cases rv with
  | vl d => exact h
  | fr ds => exact NewL.from h g
def FlQ (K : PySem.W.Frag) (D : Ends) (H : Hp) (fl : Fl) (m' : Mp) (mu' : List MO) (H' : Hp) : Prop := match fl with
  | .nx e => ∀ σ', RepE K m' H' e σ' → D.nx σ' H'
  | .rt rv => RvQ K H rv m' mu' H' D.rt
  | .bk e => ∀ σ', RepE K m' H' e σ' → D.bk σ' H'
  | .ct e => ∀ σ', RepE K m' H' e σ' → D.ct σ' H'
def tS (K : PySem.W.Frag) (W : Wx) (r : Env → M Fl) : TS := fun D σ H => ∃ env m mu, RepE K m H env σ ∧ Rel K m mu H ∧ Post K W m H (r env mu) fun fl m' mu' H' => FlQ K D H fl m' mu' H'
def tF (K : PySem.W.Frag) (W : Wx) (r : Env → M (List D)) : TE := fun σ H Q => ∃ env m mu, RepE K m H env σ ∧ Rel K m mu H ∧ Post K W m H (r env mu) fun ds m' mu' H' => NewL K H ds m' mu' H' Q
structure ME (X : Cx) (W : Wx) (e : Expr) (r : Env → M D) : Prop where
  pe : PE X e (tE X.K W r)
structure MF (X : Cx) (W : Wx) (e : Expr) (r : Env → M (List D)) : Prop where
  pe : PE X e (tF X.K W r)
structure MT (X : Cx) (W : Wx) (e : Expr) (r : Env → M Bool) : Prop where
  pt : PT X e (tT X.K W r)
structure MA (X : Cx) (W : Wx) (es : List Expr) (r : Env → M (List D)) : Prop where
  pa : PA X es (tA X.K W r)
structure MS (X : Cx) (W : Wx) (st : Stmt) (r : Env → M Fl) : Prop where
  ps : PS X st (tS X.K W r)
structure MSs (X : Cx) (W : Wx) (st : List Stmt) (r : Env → M Fl) : Prop where
  ps : PSs X st (tS X.K W r)
section
variable {X : Cx} {W : Wx} {e a b : Expr} {pos : Pos}
theorem _root_.L2.PE.imp {t t' : TE} (h : PE X e t) (i : ∀ σ H Q, t' σ H Q → t σ H Q) : PE X e t' := ⟨fun pins s σ H Q I q => h.run pins s σ H Q I (i σ H Q q)⟩
theorem _root_.L2.PT.imp {t t' : TT} (h : PT X e t) (i : ∀ σ H Q, t' σ H Q → t σ H Q) : PT X e t' := ⟨fun pins s σ H Q I q => h.run pins s σ H Q I (i σ H Q q)⟩
theorem _root_.L2.PW.imp {t t' : TT} (h : PW X e t) (i : ∀ σ H Q, t' σ H Q → t σ H Q) : PW X e t' := ⟨fun wh pins s σ H Q I q => h.run wh pins s σ H Q I (i σ H Q q)⟩
theorem _root_.L2.PA.imp {es : List Expr} {t t' : TA} (h : PA X es t) (i : ∀ σ H Q, t' σ H Q → t σ H Q) : PA X es t' := ⟨fun p pins s σ H Q I q => h.run p pins s σ H Q I (i σ H Q q)⟩
theorem _root_.L2.PS.imp {st : Stmt} {t t' : TS} (h : PS X st t) (i : ∀ D σ H, t' D σ H → t D σ H) : PS X st t' := ⟨fun pins s σ H D I q => h.run pins s σ H D I (i D σ H q)⟩
theorem _root_.L2.PSs.imp {st : List Stmt} {t t' : TS} (h : PSs X st t) (i : ∀ D σ H, t' D σ H → t D σ H) : PSs X st t' := ⟨fun pins s σ H D I q => h.run pins s σ H D I (i D σ H q)⟩
theorem _root_.L2.PE.or {t t' : TE} (h : PE X e t) (h' : PE X e t') : PE X e (fun σ H Q => t σ H Q ∨ t' σ H Q) := ⟨fun pins s σ H Q I q => q.elim (h.run pins s σ H Q I) (h'.run pins s σ H Q I)⟩
theorem ME.eq {r r' : Env → M D} (h : ME X W e r) (i : ∀ env mu, r' env mu = r env mu) : ME X W e r' := by
  rw [show r' = r from funext fun env => funext fun mu => i env mu]; exact h

/-! ### names, constants -/
def eVar (i : Nat) : Env → M D := fun env => match env[i]? with
  | some (some d) => pure d
  | _ => bad
def eC (d : D) : Env → M D := fun _ => pure d
theorem me_var {i : Nat} {x : Str} (h : PE X (.Name x pos) (tVar i)) : ME X W (.Name x pos) (eVar i) := ⟨h.imp fun σ H Q ⟨env, m, mu, hE, hR, hp⟩ => by
  cases e : env[i]? with
  | none => unfold eVar at hp; rw [e] at hp; exact hp.elim
  | some o =>
    cases o with
    | none => unfold eVar at hp; rw [e] at hp; exact hp.elim
    | some d =>
      unfold eVar at hp
      rw [e] at hp
      obtain ⟨v, hv, rv⟩ := hE.get i d e
      exact ⟨v, hv, Post.pure hp hR v rv⟩⟩
theorem me_c {d : D} {v : V} (h : PE X e (tC v)) (hr : ∀ m H, Rep X.K m H d v) : ME X W e (eC d) := ⟨h.imp fun σ H Q ⟨env, m, mu, hE, hR, hp⟩ => Post.pure hp hR v (hr m H)⟩
theorem me_int {i j} : ME X W (.Constant (.int i) j pos) (eC (.int i)) := me_c pe_int fun m H => by simp only [Rep]
theorem me_bl {i j} : ME X W (.Constant (.bool i) j pos) (eC (.bl i)) := me_c pe_bl fun m H => by simp only [Rep]
theorem me_non {j} : ME X W (.Constant .none j pos) (eC .non) := me_c pe_non fun m H => by simp only [Rep]
theorem me_str {i j} : ME X W (.Constant (.str i) j pos) (eC (.str i)) := me_c pe_str fun m H => by simp only [Rep]

/-! ### operators by values -/
/-- a reading of two values is a function of two data -/
structure OpM (K : PySem.W.Frag) (W : Wx) (r : R2) (g : D → D → M D) : Prop where
  go : ∀ (x y : D) (v w : V) (m : Mp) (mu : List MO) (H : Hp) (Q : VK), Rel K m mu H → Rep K m H x v → Rep K m H y w → Post K W m H (g x y mu) (fun d m' _ H' => ∀ u, Rep K m' H' d u → Q u H') → r v w H Q
def eBin (g : D → D → M D) (ra rb : Env → M D) : Env → M D := fun env => ra env >>= fun x => rb env >>= fun y => g x y
theorem tE_bin {r : R2} {g : D → D → M D} {ra rb : Env → M D} (o : OpM X.K W r g) : ∀ σ H Q, tE X.K W (eBin g ra rb) σ H Q → tOp r (tE X.K W ra) (tE X.K W rb) σ H Q := fun σ H Q ⟨env, m, mu, hE, hR, hp⟩ =>
  ⟨env, m, mu, hE, hR, (Post.bind hp).mono fun x m1 mu1 H1 g1 R1 hp1 v rv => ⟨env, m1, mu1, hE.grow g1, R1, (Post.bind hp1).mono fun y m2 mu2 H2 g2 R2 hp2 w rw' => o.go x y v w m2 mu2 H2 Q R2 (Rep.grow g2 x v rv) rw' hp2⟩⟩
theorem me_bin {op : Operator} {r : R2} {g : D → D → M D} {ra rb : Env → M D} (ho : OpR X (binaryOp op) r) (o : OpM X.K W r g) (ha : ME X W a ra) (hb : ME X W b rb) : ME X W (.BinOp a op b pos) (eBin g ra rb) :=
  ⟨(pe_op ho ha.pe hb.pe).imp (tE_bin o)⟩
theorem me_cmp {op : CmpOp} {r : R2} {g : D → D → M D} {ra rb : Env → M D} (ho : OpR X (compareOp op) r) (o : OpM X.K W r g) (ha : ME X W a ra) (hb : ME X W b rb) (hm : behindInMarks op b = false) : ME X W (.Compare a [op] [b] pos) (eBin g ra rb) :=
  ⟨(pe_cmpR ho ha.pe hb.pe hm).imp (tE_bin o)⟩
def asB : D → M Bool
  | .bl b => pure b
  | _ => bad
def eB (r : Env → M D) : Env → M Bool := fun env => r env >>= asB
theorem tT_of {r : Env → M D} {t : TE} (h : ∀ σ H Q, tE X.K W r σ H Q → t σ H Q) : ∀ σ H Q, tT X.K W (eB r) σ H Q → t σ H (fun x H' => ∃ k, x = .bl k ∧ Q k H') := fun σ H Q ⟨env, m, mu, hE, hR, hp⟩ =>
  h σ H _ ⟨env, m, mu, hE, hR, (Post.bind hp).mono fun x m1 mu1 H1 g1 R1 hp1 v rv => by
    cases x with
    | bl b =>
      simp only [Rep] at rv
      exact ⟨b, rv, Post.pure hp1 R1⟩
    | _ => exact hp1.elim⟩
theorem mt_cmp {op : CmpOp} {r : R2} {g : D → D → M D} {ra rb : Env → M D} (ho : OpR X (compareOp op) r) (o : OpM X.K W r g) (ha : ME X W a ra) (hb : ME X W b rb) (hm : behindInMarks op b = false) : MT X W (.Compare a [op] [b] pos) (eB (eBin g ra rb)) :=
  ⟨(pt_cmpR ho ha.pe hb.pe hm).imp (tT_of (tE_bin o))⟩
/-- any expression that gives True or False -/
theorem mt_val {r : Env → M D} (h : ME X W e r) (he : ∀ whole, isTrue e X.env whole = (do let v ← whole; standAt e.pos; holding [v] (truthy v)) := by intro _; rfl) : MT X W e (eB r) :=
  ⟨(pt_val h.pe he).imp (tT_of fun _ _ _ q => q)⟩
end
end MP
namespace MP
open PySem L2 PyProof.Rows

def b2n (b : Bool) : Int := if b = true then 1 else 0
mutual
/-- == of data -/
def eqD : D → D → Bool
  | .non, .non => true
  | .bl a, .bl b => a == b
  | .bl a, .int j => b2n a == j
  | .int i, .bl b => i == b2n b
  | .int i, .int j => i == j
  | .str x, .str y => x == y
  | .tup xs, .tup ys => eqDs xs ys
  | .fl xs, .fl ys => eqDs xs ys
  | .fl xs, .ro ys => eqDs xs ys
  | .ro xs, .fl ys => eqDs xs ys
  | .ro xs, .ro ys => eqDs xs ys
  | _, _ => false
def eqDs : List D → List D → Bool
  | [], [] => true
  | x :: xs, y :: ys => eqD x y && eqDs xs ys
  | _, _ => false
end
mutual
/-- == is served -/
def okE : D → Bool
  | .ref _ => false
  | .fd _ _ => false
  | .tup xs => okEs xs
  | .fl xs => okEs xs
  | .ro xs => okEs xs
  | _ => true
def okEs : List D → Bool
  | [] => true
  | x :: xs => okE x && okEs xs
end
mutual
def dep : D → Nat
  | .tup xs => deps xs + 1
  | .fl xs => deps xs + 1
  | .ro xs => deps xs + 1
  | _ => 0
def deps : List D → Nat
  | [] => 0
  | x :: xs => max (dep x) (deps xs)
end
theorem eqDs_range : ∀ (xs ys : List D), (((List.range (min xs.length ys.length)).all fun j => eqD (xs.getD j .non) (ys.getD j .non)) && xs.length == ys.length) = eqDs xs ys
  | [], [] => by simp [eqDs]
  | [], _ :: _ => by simp [eqDs]
  | _ :: _, [] => by simp [eqDs]
  | x :: xs, y :: ys => by
    have ih := eqDs_range xs ys
    rw [List.length_cons, List.length_cons, Nat.succ_min_succ, List.range_succ_eq_map, List.all_cons, List.all_map]
    rw [show eqDs (x :: xs) (y :: ys) = (eqD x y && eqDs xs ys) from by simp only [eqDs], ← ih, Bool.and_assoc]
    congr 2
    rw [Bool.eq_iff_iff]; simp
theorem eqDs_len : ∀ {xs ys : List D}, xs.length ≠ ys.length → eqDs xs ys = false
  | [], [], h => absurd rfl h
  | [], _ :: _, _ => by simp only [eqDs]
  | _ :: _, [], _ => by simp only [eqDs]
  | x :: xs, y :: ys, h => by
    simp only [eqDs]
    rw [eqDs_len (xs := xs) (ys := ys) (fun z => h (by rw [List.length_cons, List.length_cons, z])), Bool.and_false]
theorem eqDs_all {xs ys : List D} (h : xs.length = ys.length) : ((List.range xs.length).all fun j => eqD (xs.getD j .non) (ys.getD j .non)) = eqDs xs ys := by
  rw [← eqDs_range, h, Nat.min_self]
  simp
theorem okEs_get : ∀ {xs : List D} {j : Nat} {d : D}, okEs xs = true → xs[j]? = some d → okE d = true
  | [], _, _, _, e => by simp at e
  | x :: xs, 0, d, h, e => by simp only [okEs, Bool.and_eq_true] at h; simp at e; rw [← e]; exact h.1
  | x :: xs, j + 1, d, h, e => by simp only [okEs, Bool.and_eq_true] at h; exact okEs_get h.2 (by simpa using e)
theorem deps_get : ∀ {xs : List D} {j : Nat} {d : D}, xs[j]? = some d → dep d ≤ deps xs
  | [], _, _, e => by simp at e
  | x :: xs, 0, d, e => by simp at e; rw [← e]; simp only [deps]; exact Nat.le_max_left _ _
  | x :: xs, j + 1, d, e => by simp only [deps]; exact Nat.le_trans (deps_get (xs := xs) (j := j) (by simpa using e)) (Nat.le_max_right _ _)

section
variable {X : Cx} {pins : List (Addr × Obj)} {σ : L2.St} {H : Hp} {s : Shared} {m : Mp}
theorem Inv.list_not_tuple (I : Inv X pins σ H s) {a : Addr} {xs ys : List V} (h : SqL X.K H a xs) (h' : SqT X.K H a ys) : False := by
  obtain ⟨its, r, pl, _⟩ := I.list h
  obtain ⟨its', r', pt, _⟩ := I.tuple h'
  exact SeqAt.ne_of_list_tuple pl.isList (show s.heap.IsTuple a its'.toArray from pt) rfl
mutual
/-- one value's data are equal -/
theorem rep_same (I : Inv X pins σ H s) : ∀ (d e : D) (v : V), Rep X.K m H d v → Rep X.K m H e v → okE d = true → okE e = true → eqD d e = true
  | .non, e, v, h, h', _, ok => by
    simp only [Rep] at h; subst h
    cases e <;> simp only [Rep] at h' <;> first | (simp only [eqD]; done) | (cases h' <;> done) | (obtain ⟨_, _, z, _⟩ := h'; cases z; done) | (obtain ⟨_, z, _⟩ := h'; cases z; done) | (cases h'; simp [eqD]; done)
  | .bl b, e, v, h, h', _, ok => by
    simp only [Rep] at h; subst h
    cases e <;> simp only [Rep] at h' <;> first | (simp only [eqD]; done) | (cases h' <;> done) | (obtain ⟨_, _, z, _⟩ := h'; cases z; done) | (obtain ⟨_, z, _⟩ := h'; cases z; done) | (cases h'; simp [eqD]; done)
  | .int i, e, v, h, h', _, ok => by
    simp only [Rep] at h; subst h
    cases e <;> simp only [Rep] at h' <;> first | (simp only [eqD]; done) | (cases h' <;> done) | (obtain ⟨_, _, z, _⟩ := h'; cases z; done) | (obtain ⟨_, z, _⟩ := h'; cases z; done) | (cases h'; simp [eqD]; done)
  | .str x, e, v, h, h', _, ok => by
    simp only [Rep] at h; subst h
    cases e <;> simp only [Rep] at h' <;> first | (simp only [eqD]; done) | (cases h' <;> done) | (obtain ⟨_, _, z, _⟩ := h'; cases z; done) | (obtain ⟨_, z, _⟩ := h'; cases z; done) | (cases h'; simp [eqD]; done)
  | .tup ds, e, v, h, h', ok, ok' => by
    simp only [Rep] at h
    obtain ⟨a, vs, rfl, hs, hr⟩ := h
    cases e <;> simp only [Rep] at h'
    case tup es =>
      obtain ⟨b, ws, eb, hs', hr'⟩ := h'
      cases eb
      rw [I.tuple_inj hs' hs] at hr'
      simp only [eqD]
      exact reps_same I ds es vs hr hr' (by simpa [okE] using ok) (by simpa [okE] using ok')
    case fl es =>
      obtain ⟨b, ws, eb, hs', _⟩ := h'
      cases eb
      exact (Inv.list_not_tuple I (.of hs') hs).elim
    case ro es =>
      obtain ⟨b, ws, eb, hs', _⟩ := h'
      cases eb
      exact (Inv.list_not_tuple I hs'.sqL hs).elim
    all_goals first | (cases h' <;> done) | (simp [okE] at ok'; done)
  | .fl ds, e, v, h, h', ok, ok' => by
    simp only [Rep] at h
    obtain ⟨a, vs, rfl, hs, hn, hr⟩ := h
    cases e <;> simp only [Rep] at h'
    case tup es =>
      obtain ⟨b, ws, eb, hs', hr'⟩ := h'
      cases eb
      exact (Inv.list_not_tuple I (.of hs) hs').elim
    case fl es =>
      obtain ⟨b, ws, eb, hs', _, hr'⟩ := h'
      cases eb
      rw [I.list_inj (.of hs') (.of hs)] at hr'
      simp only [eqD]
      exact reps_same I ds es vs hr hr' (by simpa [okE] using ok) (by simpa [okE] using ok')
    case ro es =>
      obtain ⟨b, ws, eb, hs', hr'⟩ := h'
      cases eb
      rw [I.list_inj hs'.sqL (.of hs)] at hr'
      simp only [eqD]
      exact reps_same I ds es vs hr hr' (by simpa [okE] using ok) (by simpa [okE] using ok')
    all_goals first | (cases h' <;> done) | (simp [okE] at ok'; done)
  | .ro ds, e, v, h, h', ok, ok' => by
    simp only [Rep] at h
    obtain ⟨a, vs, rfl, hs, hr⟩ := h
    cases e <;> simp only [Rep] at h'
    case tup es =>
      obtain ⟨b, ws, eb, hs', hr'⟩ := h'
      cases eb
      exact (Inv.list_not_tuple I hs.sqL hs').elim
    case fl es =>
      obtain ⟨b, ws, eb, hs', _, hr'⟩ := h'
      cases eb
      rw [I.list_inj (.of hs') hs.sqL] at hr'
      simp only [eqD]
      exact reps_same I ds es vs hr hr' (by simpa [okE] using ok) (by simpa [okE] using ok')
    case ro es =>
      obtain ⟨b, ws, eb, hs', hr'⟩ := h'
      cases eb
      rw [I.list_inj hs'.sqL hs.sqL] at hr'
      simp only [eqD]
      exact reps_same I ds es vs hr hr' (by simpa [okE] using ok) (by simpa [okE] using ok')
    all_goals first | (cases h' <;> done) | (simp [okE] at ok'; done)
  | .fd _ _, _, _, _, _, ok, _ => by simp [okE] at ok
  | .ref _, _, _, _, _, ok, _ => by simp [okE] at ok
theorem reps_same (I : Inv X pins σ H s) : ∀ (ds es : List D) (vs : List V), Reps X.K m H ds vs → Reps X.K m H es vs → okEs ds = true → okEs es = true → eqDs ds es = true
  | [], es, vs, h, h', _, _ => by
    rw [Reps.nil_iff] at h; subst h
    cases es with
    | nil => simp only [eqDs]
    | cons e es => obtain ⟨_, _, z, _⟩ := Reps.cons_iff.mp h'; cases z
  | d :: ds, es, vs, h, h', ok, ok' => by
    obtain ⟨v, r, rfl, h1, h2⟩ := Reps.cons_iff.mp h
    cases es with
    | nil => rw [Reps.nil_iff] at h'; cases h'
    | cons e es =>
      obtain ⟨v', r', z, h1', h2'⟩ := Reps.cons_iff.mp h'
      cases z
      simp only [okEs, Bool.and_eq_true] at ok ok'
      simp only [eqDs, Bool.and_eq_true]
      exact ⟨rep_same I d e _ h1 h1' ok.1 ok'.1, reps_same I ds es _ h2 h2' ok.2 ok'.2⟩
end
end
end MP
namespace MP
open PySem L2 PyProof.Rows
open PySem.SeqAt (EqAt RcAt)
theorem in1_units (A : Around) : A.in1.units = A.units + 1 := rfl
section
variable {X : Cx} {pins : List (Addr × Obj)} {σ : L2.St} {H : Hp} {s : Shared} {m : Mp}
theorem vals_at {vs : List V} {its : List Value} (r : Vals vs its) {j : Nat} (h : j < its.toArray.size) : ∃ v, vs[j]? = some v ∧ RelV v (its.toArray[j]) := by
  have hj : j < its.length := by simpa using h
  have hl := r.length
  have e : vs[j]? = some vs[j] := List.getElem?_eq_getElem (by omega)
  obtain ⟨u, hu, ru⟩ := r.get e
  refine ⟨_, e, ?_⟩
  rw [List.getElem?_eq_getElem hj] at hu
  cases hu
  simpa using ru
theorem getD_at {ds : List D} {j : Nat} {d : D} (h : ds[j]? = some d) : ds.getD j .non = d := by rw [List.getD_eq_getElem?_getD, h]; rfl
theorem Reps.at {K : PySem.W.Frag} {ds : List D} {vs : List V} (r : Reps K m H ds vs) {j : Nat} {v : V} (h : vs[j]? = some v) : ∃ d, ds[j]? = some d ∧ Rep K m H d v := by
  have hj : j < ds.length := by rw [r.length]; exact (List.getElem?_eq_some_iff.mp h).1
  obtain ⟨w, hw, q⟩ := r.get (List.getElem?_eq_getElem hj)
  rw [h] at hw; cases hw
  exact ⟨_, List.getElem?_eq_getElem hj, q⟩
/-- items by items, then the lists -/
theorem eq_lists {a b : Addr} {ds es : List D} {vs ws : List V} {A : Around} (I : Inv X pins σ H s) (ha : SqL X.K H a vs) (hb : SqL X.K H b ws) (ra : Reps X.K m H ds vs) (rb : Reps X.K m H es ws) (ok : okEs ds = true) (ok' : okEs es = true) (hu : A.units + (deps ds + 1) < cLine)
    (ih : ∀ (j : Nat) d e v w u u', ds[j]? = some d → es[j]? = some e → Rep X.K m H d v → Rep X.K m H e w → RelV v u → RelV w u' → EqAt A.in1 s u u' (eqD d e)) :
    RcAt A s (.ref a) (.ref b) (eqDs ds es) ∧ EqAt A s (.ref a) (.ref b) (eqDs ds es) := by
  obtain ⟨its, r, pl, _⟩ := I.list ha
  obtain ⟨its', r', pl', _⟩ := I.list hb
  have h1 := ra.length
  have h2 := rb.length
  have h3 := r.length
  have h4 := r'.length
  have rc : RcAt A s (.ref a) (.ref b) (eqDs ds es) := by
    by_cases hsz : its.toArray.size = its'.toArray.size
    · have hl : ds.length = es.length := by simp only [List.size_toArray] at hsz; omega
      rw [← eqDs_all hl]
      have q := RcAt.lists (A := A) (e := fun j => eqD (ds.getD j .non) (es.getD j .non)) pl.isList pl'.isList hsz (by omega) fun j j1 j2 => by
        obtain ⟨v, hv, rv⟩ := vals_at r j1
        obtain ⟨w, hw, rw'⟩ := vals_at r' j2
        obtain ⟨d, hd, qd⟩ := ra.at hv
        obtain ⟨e, he, qe⟩ := rb.at hw
        show EqAt A.in1 s _ _ (eqD (ds.getD j .non) (es.getD j .non))
        rw [getD_at hd, getD_at he]
        exact ih j d e v w _ _ hd he qd qe rv rw'
      rw [show ds.length = its.toArray.size by simp only [List.size_toArray]; omega]
      exact q
    · rw [eqDs_len (by simp only [List.size_toArray] at hsz; omega)]
      exact RcAt.lists_lengths pl.isList pl'.isList (by simpa using hsz) (by omega)
  refine ⟨rc, ?_⟩
  by_cases z : a = b
  · subst z
    rw [I.list_inj hb ha] at rb
    rw [reps_same I ds es vs ra rb ok ok']
    exact EqAt.same _
  · exact EqAt.of_refs z rc
theorem eq_tuples {a b : Addr} {ds es : List D} {vs ws : List V} {A : Around} (I : Inv X pins σ H s) (ha : SqT X.K H a vs) (hb : SqT X.K H b ws) (ra : Reps X.K m H ds vs) (rb : Reps X.K m H es ws) (ok : okEs ds = true) (ok' : okEs es = true) (hu : A.units + (deps ds + 1) < cLine)
    (ih : ∀ (j : Nat) d e v w u u', ds[j]? = some d → es[j]? = some e → Rep X.K m H d v → Rep X.K m H e w → RelV v u → RelV w u' → EqAt A.in1 s u u' (eqD d e)) :
    RcAt A s (.ref a) (.ref b) (eqDs ds es) ∧ EqAt A s (.ref a) (.ref b) (eqDs ds es) := by
  obtain ⟨its, r, pl, _⟩ := I.tuple ha
  obtain ⟨its', r', pl', _⟩ := I.tuple hb
  have h1 := ra.length
  have h2 := rb.length
  have h3 := r.length
  have h4 := r'.length
  have rc : RcAt A s (.ref a) (.ref b) (eqDs ds es) := by
    rw [← eqDs_range]
    have q := RcAt.tuples (A := A) (e := fun j => eqD (ds.getD j .non) (es.getD j .non)) (show s.heap.IsTuple a its.toArray from pl) (show s.heap.IsTuple b its'.toArray from pl') (by omega) fun j j1 j2 => by
      obtain ⟨v, hv, rv⟩ := vals_at r j1
      obtain ⟨w, hw, rw'⟩ := vals_at r' j2
      obtain ⟨d, hd, qd⟩ := ra.at hv
      obtain ⟨e, he, qe⟩ := rb.at hw
      show EqAt A.in1 s _ _ (eqD (ds.getD j .non) (es.getD j .non))
      rw [getD_at hd, getD_at he]
      exact ih j d e v w _ _ hd he qd qe rv rw'
    have e1 : its.toArray.size = ds.length := by simp only [List.size_toArray]; omega
    have e2 : its'.toArray.size = es.length := by simp only [List.size_toArray]; omega
    rw [e1, e2] at q
    exact q
  refine ⟨rc, ?_⟩
  by_cases z : a = b
  · subst z
    rw [I.tuple_inj hb ha] at rb
    rw [reps_same I ds es vs ra rb ok ok']
    exact EqAt.same _
  · exact EqAt.of_refs z rc
theorem list_at (I : Inv X pins σ H s) {a : Addr} {vs : List V} (h : SqL X.K H a vs) : ∃ its, s.heap.IsList a its := by
  obtain ⟨its, _, pl, _⟩ := I.list h
  exact ⟨_, pl.isList⟩
theorem tuple_at (I : Inv X pins σ H s) {a : Addr} {vs : List V} (h : SqT X.K H a vs) : ∃ its, s.heap.IsTuple a its := by
  obtain ⟨its, _, pl, _⟩ := I.tuple h
  exact ⟨its.toArray, pl⟩
/-- what a datum is, for == -/
inductive Kd (K : PySem.W.Frag) (m : Mp) (H : Hp) : D → Value → Prop where
  | non : Kd K m H .non .none
  | bl (b : Bool) : Kd K m H (.bl b) (.bool b)
  | int (i : Int) (t : Tok) : Kd K m H (.int i) (.int i t)
  | str (x : Str) (t : Tok) : Kd K m H (.str x) (.str x t)
  | tup {ds : List D} {a : Addr} {vs : List V} : SqT K H a vs → Reps K m H ds vs → Kd K m H (.tup ds) (.ref a)
  | fl {ds : List D} {a : Addr} {vs : List V} : SqL K H a vs → Reps K m H ds vs → Kd K m H (.fl ds) (.ref a)
  | ro {ds : List D} {a : Addr} {vs : List V} : SqL K H a vs → Reps K m H ds vs → Kd K m H (.ro ds) (.ref a)
theorem kd_of {K : PySem.W.Frag} {d : D} {v : V} {u : Value} (h : Rep K m H d v) (r : RelV v u) (ok : okE d = true) : Kd K m H d u := by
  cases d <;> simp only [Rep] at h
  case non => subst h; cases r; exact .non
  case bl b => subst h; cases r; exact .bl b
  case int i => subst h; obtain ⟨t, rfl⟩ := r; exact .int i t
  case str x => subst h; obtain ⟨t, rfl⟩ := r; exact .str x t
  case tup ds => obtain ⟨a, vs, rfl, hs, hr⟩ := h; cases r; exact .tup hs hr
  case fl ds => obtain ⟨a, vs, rfl, hs, _, hr⟩ := h; cases r; exact .fl (.of hs) hr
  case ro ds => obtain ⟨a, vs, rfl, hs, hr⟩ := h; cases r; exact .ro hs.sqL hr
  all_goals simp [okE] at ok
mutual
theorem eq_at (I : Inv X pins σ H s) : ∀ (d e : D) (u u' : Value) (A : Around), Kd X.K m H d u → Kd X.K m H e u' → okE d = true → okE e = true → A.units + dep d < cLine → RcAt A s u u' (eqD d e) ∧ EqAt A s u u' (eqD d e)
  | .non, e, u, u', A, h, h', ok, ok', hu => by
    cases h
    cases h' <;> simp only [eqD, dep, Nat.add_zero] at hu ⊢
    case non => exact ⟨RcAt.none_none, EqAt.same _⟩
    case bl b => exact ⟨RcAt.none_bool _, EqAt.none_bool _⟩
    case int i t => exact ⟨RcAt.none_int _ _, EqAt.none_int _ _⟩
    case str x t => exact ⟨RcAt.none_str _ _, EqAt.none_str _ _⟩
    case tup hs hr => obtain ⟨_, p⟩ := tuple_at I hs; exact ⟨RcAt.none_tuple p hu, EqAt.none_tuple p hu⟩
    case fl hs hr => obtain ⟨_, p⟩ := list_at I hs; exact ⟨RcAt.none_list p hu, EqAt.none_list p hu⟩
    case ro hs hr => obtain ⟨_, p⟩ := list_at I hs; exact ⟨RcAt.none_list p hu, EqAt.none_list p hu⟩
  | .bl b, e, u, u', A, h, h', ok, ok', hu => by
    cases h
    cases h' <;> simp only [eqD, dep, Nat.add_zero] at hu ⊢
    case non => exact ⟨RcAt.bool_none _, EqAt.bool_none _⟩
    case bl b => exact ⟨RcAt.bool_bool _ _, EqAt.bool_bool _ _⟩
    case int i t => exact ⟨RcAt.bool_int _ _ _, EqAt.bool_int _ _ _⟩
    case str x t => exact ⟨RcAt.bool_str _ _ _, EqAt.bool_str _ _ _⟩
    case tup hs hr => obtain ⟨_, p⟩ := tuple_at I hs; exact ⟨RcAt.bool_tuple _ p hu, EqAt.bool_tuple _ p hu⟩
    case fl hs hr => obtain ⟨_, p⟩ := list_at I hs; exact ⟨RcAt.bool_list _ p hu, EqAt.bool_list _ p hu⟩
    case ro hs hr => obtain ⟨_, p⟩ := list_at I hs; exact ⟨RcAt.bool_list _ p hu, EqAt.bool_list _ p hu⟩
  | .int i, e, u, u', A, h, h', ok, ok', hu => by
    cases h
    cases h' <;> simp only [eqD, dep, Nat.add_zero] at hu ⊢
    case non => exact ⟨RcAt.int_none _ _, EqAt.int_none _ _⟩
    case bl b => exact ⟨RcAt.int_bool _ _ _, EqAt.int_bool _ _ _⟩
    case int i t => exact ⟨RcAt.int_int _ _ _ _, EqAt.int_int _ _ _ _⟩
    case str x t => exact ⟨RcAt.int_str _ _ _ _, EqAt.int_str _ _ _ _⟩
    case tup hs hr => obtain ⟨_, p⟩ := tuple_at I hs; exact ⟨RcAt.int_tuple _ _ p hu, EqAt.int_tuple _ _ p hu⟩
    case fl hs hr => obtain ⟨_, p⟩ := list_at I hs; exact ⟨RcAt.int_list _ _ p hu, EqAt.int_list _ _ p hu⟩
    case ro hs hr => obtain ⟨_, p⟩ := list_at I hs; exact ⟨RcAt.int_list _ _ p hu, EqAt.int_list _ _ p hu⟩
  | .str x, e, u, u', A, h, h', ok, ok', hu => by
    cases h
    cases h' <;> simp only [eqD, dep, Nat.add_zero] at hu ⊢
    case non => exact ⟨RcAt.str_none _ _, EqAt.str_none _ _⟩
    case bl b => exact ⟨RcAt.str_bool _ _ _, EqAt.str_bool _ _ _⟩
    case int i t => exact ⟨RcAt.str_int _ _ _ _, EqAt.str_int _ _ _ _⟩
    case str x t => exact ⟨RcAt.str_str _ _ _ _, EqAt.str_str _ _ _ _⟩
    case tup hs hr => obtain ⟨_, p⟩ := tuple_at I hs; exact ⟨RcAt.str_tuple _ _ p hu, EqAt.str_tuple _ _ p hu⟩
    case fl hs hr => obtain ⟨_, p⟩ := list_at I hs; exact ⟨RcAt.str_list _ _ p hu, EqAt.str_list _ _ p hu⟩
    case ro hs hr => obtain ⟨_, p⟩ := list_at I hs; exact ⟨RcAt.str_list _ _ p hu, EqAt.str_list _ _ p hu⟩
  | .tup ds, e, u, u', A, h, h', ok, ok', hu => by
    cases h with
    | tup hs hr =>
    have hu0 : A.units < cLine := by omega
    cases h' <;> simp only [eqD]
    case non => obtain ⟨_, p⟩ := tuple_at I hs; exact ⟨RcAt.tuple_none p hu0, EqAt.tuple_none p hu0⟩
    case bl b => obtain ⟨_, p⟩ := tuple_at I hs; exact ⟨RcAt.tuple_bool _ p hu0, EqAt.tuple_bool _ p hu0⟩
    case int i t => obtain ⟨_, p⟩ := tuple_at I hs; exact ⟨RcAt.tuple_int _ _ p hu0, EqAt.tuple_int _ _ p hu0⟩
    case str x t => obtain ⟨_, p⟩ := tuple_at I hs; exact ⟨RcAt.tuple_str _ _ p hu0, EqAt.tuple_str _ _ p hu0⟩
    case tup es b ws hs' hr' =>
      simp only [okE] at ok ok'
      simp only [dep] at hu
      exact eq_tuples I hs hs' hr hr' ok ok' hu fun j d e v w u u' hd he qd qe rv rw' => (eq_ats I ds j d hd e u u' A.in1 (kd_of qd rv (okEs_get ok hd)) (kd_of qe rw' (okEs_get ok' he)) ok (okEs_get ok' he) (by rw [in1_units]; omega))
    case fl es b ws hs' hr' => obtain ⟨_, p⟩ := tuple_at I hs; obtain ⟨_, p'⟩ := list_at I hs'; exact ⟨RcAt.tuple_list p p' hu0, EqAt.tuple_list p p' hu0⟩
    case ro es b ws hs' hr' => obtain ⟨_, p⟩ := tuple_at I hs; obtain ⟨_, p'⟩ := list_at I hs'; exact ⟨RcAt.tuple_list p p' hu0, EqAt.tuple_list p p' hu0⟩
  | .fl ds, e, u, u', A, h, h', ok, ok', hu => by
    cases h with
    | fl hs hr =>
    have hu0 : A.units < cLine := by omega
    simp only [dep] at hu
    cases h' <;> simp only [eqD]
    case non => obtain ⟨_, p⟩ := list_at I hs; exact ⟨RcAt.list_none p hu0, EqAt.list_none p hu0⟩
    case bl b => obtain ⟨_, p⟩ := list_at I hs; exact ⟨RcAt.list_bool _ p hu0, EqAt.list_bool _ p hu0⟩
    case int i t => obtain ⟨_, p⟩ := list_at I hs; exact ⟨RcAt.list_int _ _ p hu0, EqAt.list_int _ _ p hu0⟩
    case str x t => obtain ⟨_, p⟩ := list_at I hs; exact ⟨RcAt.list_str _ _ p hu0, EqAt.list_str _ _ p hu0⟩
    case tup es b ws hs' hr' => obtain ⟨_, p⟩ := list_at I hs; obtain ⟨_, p'⟩ := tuple_at I hs'; exact ⟨RcAt.list_tuple p p' hu0, EqAt.list_tuple p p' hu0⟩
    case fl es b ws hs' hr' =>
      simp only [okE] at ok ok'
      exact eq_lists I hs hs' hr hr' ok ok' hu fun j d e v w u u' hd he qd qe rv rw' => (eq_ats I ds j d hd e u u' A.in1 (kd_of qd rv (okEs_get ok hd)) (kd_of qe rw' (okEs_get ok' he)) ok (okEs_get ok' he) (by rw [in1_units]; omega))
    case ro es b ws hs' hr' =>
      simp only [okE] at ok ok'
      exact eq_lists I hs hs' hr hr' ok ok' hu fun j d e v w u u' hd he qd qe rv rw' => (eq_ats I ds j d hd e u u' A.in1 (kd_of qd rv (okEs_get ok hd)) (kd_of qe rw' (okEs_get ok' he)) ok (okEs_get ok' he) (by rw [in1_units]; omega))
  | .ro ds, e, u, u', A, h, h', ok, ok', hu => by
    cases h with
    | ro hs hr =>
    have hu0 : A.units < cLine := by omega
    simp only [dep] at hu
    cases h' <;> simp only [eqD]
    case non => obtain ⟨_, p⟩ := list_at I hs; exact ⟨RcAt.list_none p hu0, EqAt.list_none p hu0⟩
    case bl b => obtain ⟨_, p⟩ := list_at I hs; exact ⟨RcAt.list_bool _ p hu0, EqAt.list_bool _ p hu0⟩
    case int i t => obtain ⟨_, p⟩ := list_at I hs; exact ⟨RcAt.list_int _ _ p hu0, EqAt.list_int _ _ p hu0⟩
    case str x t => obtain ⟨_, p⟩ := list_at I hs; exact ⟨RcAt.list_str _ _ p hu0, EqAt.list_str _ _ p hu0⟩
    case tup es b ws hs' hr' => obtain ⟨_, p⟩ := list_at I hs; obtain ⟨_, p'⟩ := tuple_at I hs'; exact ⟨RcAt.list_tuple p p' hu0, EqAt.list_tuple p p' hu0⟩
    case fl es b ws hs' hr' =>
      simp only [okE] at ok ok'
      exact eq_lists I hs hs' hr hr' ok ok' hu fun j d e v w u u' hd he qd qe rv rw' => (eq_ats I ds j d hd e u u' A.in1 (kd_of qd rv (okEs_get ok hd)) (kd_of qe rw' (okEs_get ok' he)) ok (okEs_get ok' he) (by rw [in1_units]; omega))
    case ro es b ws hs' hr' =>
      simp only [okE] at ok ok'
      exact eq_lists I hs hs' hr hr' ok ok' hu fun j d e v w u u' hd he qd qe rv rw' => (eq_ats I ds j d hd e u u' A.in1 (kd_of qd rv (okEs_get ok hd)) (kd_of qe rw' (okEs_get ok' he)) ok (okEs_get ok' he) (by rw [in1_units]; omega))
  | .fd _ _, _, _, _, _, _, _, ok, _, _ => by simp [okE] at ok
  | .ref _, _, _, _, _, _, _, ok, _, _ => by simp [okE] at ok
theorem eq_ats (I : Inv X pins σ H s) : ∀ (ds : List D) (j : Nat) (d : D), ds[j]? = some d → ∀ (e : D) (u u' : Value) (A : Around), Kd X.K m H d u → Kd X.K m H e u' → okEs ds = true → okE e = true → A.units + deps ds < cLine → EqAt A s u u' (eqD d e)
  | [], _, _, h => by simp at h
  | x :: xs, 0, d, h => fun e u u' A k k' ok ok' hu => by
    simp only [okEs, Bool.and_eq_true] at ok
    simp only [deps] at hu
    have : x = d := by simpa using h
    subst this
    exact (eq_at I x e u u' A k k' ok.1 ok' (by have := Nat.le_max_left (dep x) (deps xs); omega)).2
  | x :: xs, j + 1, d, h => fun e u u' A k k' ok ok' hu => by
    simp only [okEs, Bool.and_eq_true] at ok
    simp only [deps] at hu
    exact eq_ats I xs j d (by simpa using h) e u u' A k k' ok.2 ok' (by have := Nat.le_max_right (dep x) (deps xs); omega)
end
end
end MP
namespace MP
open PySem L2 PyProof.Rows

/-- the list at a place -/
def atL (mu : List MO) (n : Nat) : R (List D) := match mu[n]? with
  | some (.lst xs) => .ok xs mu
  | _ => .bad
theorem atL_lst {mu : List MO} {n : Nat} {xs : List D} (h : mu[n]? = some (.lst xs)) : atL mu n = .ok xs mu := by unfold atL; rw [h]
theorem atL_dk {mu : List MO} {n : Nat} {kvs : List (Key × D)} (h : mu[n]? = some (.dk kvs)) : atL mu n = .bad := by unfold atL; rw [h]
/-- the items of a list, as it stands -/
def rdL : D → M (List D)
  | .fl xs => pure xs
  | .ro xs => pure xs
  | .ref n => fun mu => atL mu n
  | _ => bad
/-- of a list that is not locked -/
def rdM : D → M (List D)
  | .fl xs => pure xs
  | .ref n => fun mu => atL mu n
  | _ => bad
section
variable {K : PySem.W.Frag} {W : Wx} {m m' : Mp} {H H' : Hp} {mu : List MO}
theorem rdL_ok {d : D} {v : V} {Q : List D → Mp → List MO → Hp → Prop} (rl : Rel K m mu H) (h : Rep K m H d v) (hp : Post K W m H (rdL d mu) Q) : ∃ a xs vs, v = .ref a ∧ SqL K H a vs ∧ Reps K m H xs vs ∧ rdL d mu = .ok xs mu ∧ Q xs m mu H := by
  cases d <;> simp only [Rep] at h
  case fl ds => obtain ⟨a, vs, rfl, hs, _, hr⟩ := h; exact ⟨a, ds, vs, rfl, .of hs, hr, rfl, hp m H .refl rl⟩
  case ro ds => obtain ⟨a, vs, rfl, hs, hr⟩ := h; exact ⟨a, ds, vs, rfl, hs.sqL, hr, rfl, hp m H .refl rl⟩
  case ref n =>
    obtain ⟨a, rfl, hm⟩ := h
    obtain ⟨o, ho, hr⟩ := rl.at' hm
    cases o with
    | lst xs =>
      obtain ⟨vs, hH, hr⟩ := hr
      have e : rdL (.ref n) mu = .ok xs mu := atL_lst ho
      rw [e] at hp
      exact ⟨a, xs, vs, rfl, .of hH, hr, e, hp m H .refl rl⟩
    | dk kvs =>
      have e : rdL (.ref n) mu = .bad := atL_dk ho
      rw [e] at hp
      exact hp.elim
  all_goals exact (show False from hp).elim
theorem rdM_ok {d : D} {v : V} {Q : List D → Mp → List MO → Hp → Prop} (rl : Rel K m mu H) (h : Rep K m H d v) (hp : Post K W m H (rdM d mu) Q) : ∃ a xs vs, v = .ref a ∧ H a = some (.lst vs) ∧ Reps K m H xs vs ∧ rdM d mu = .ok xs mu ∧ Q xs m mu H := by
  cases d <;> simp only [Rep] at h
  case fl ds => obtain ⟨a, vs, rfl, hs, _, hr⟩ := h; exact ⟨a, ds, vs, rfl, hs, hr, rfl, hp m H .refl rl⟩
  case ref n =>
    obtain ⟨a, rfl, hm⟩ := h
    obtain ⟨o, ho, hr⟩ := rl.at' hm
    cases o with
    | lst xs =>
      obtain ⟨vs, hH, hr⟩ := hr
      have e : rdM (.ref n) mu = .ok xs mu := atL_lst ho
      rw [e] at hp
      exact ⟨a, xs, vs, rfl, hH, hr, e, hp m H .refl rl⟩
    | dk kvs =>
      have e : rdM (.ref n) mu = .bad := atL_dk ho
      rw [e] at hp
      exact hp.elim
  all_goals exact (show False from hp).elim
theorem Post.ok_of {α : Type} {a : α} {r : R α} {Q : α → Mp → List MO → Hp → Prop} {mu' : List MO} (e : r = .ok a mu') (hp : Post K W m H r Q) (rl : Rel K m mu' H) : Q a m mu' H := by
  rw [e] at hp; exact hp m H .refl rl
/-- a new list outside of the small heap -/
theorem new_fl {ds : List D} {vs : List V} {p : Addr} (rl : Rel K m mu H) (hr : Reps K m H ds vs) (hp : H p = none) : Grow m m H (upd H p (.lst vs)) ∧ Rel K m mu (upd H p (.lst vs)) ∧ Rep K m (upd H p (.lst vs)) (.fl ds) (.ref p) := by
  have g : Grow m m H (upd H p (.lst vs)) := .laid hp
  exact ⟨g, rl.laid hp, by simp only [Rep]; exact ⟨p, vs, rfl, upd_same, rl.free hp, Reps.grow g ds vs hr⟩⟩
theorem new_tup {ds : List D} {vs : List V} {p : Addr} (rl : Rel K m mu H) (hr : Reps K m H ds vs) (hp : H p = none) : Grow m m H (upd H p (.tup vs)) ∧ Rel K m mu (upd H p (.tup vs)) ∧ Rep K m (upd H p (.tup vs)) (.tup ds) (.ref p) := by
  have g : Grow m m H (upd H p (.tup vs)) := .laid hp
  exact ⟨g, rl.laid hp, by simp only [Rep]; exact ⟨p, vs, rfl, .of upd_same, Reps.grow g ds vs hr⟩⟩
end

/-! ### views -/
def toI : D → M Int
  | .int i => pure i
  | _ => bad
def toS : D → M Str
  | .str x => pure x
  | _ => bad
def toT : D → M (List D)
  | .tup xs => pure xs
  | _ => bad
def toB : D → M Bool
  | .bl b => pure b
  | _ => bad
section
variable {K : PySem.W.Frag} {W : Wx} {m m' : Mp} {H H' : Hp} {mu : List MO}
theorem toI_ok {d : D} {v : V} {Q : Int → Mp → List MO → Hp → Prop} (rl : Rel K m mu H) (h : Rep K m H d v) (hp : Post K W m H (toI d mu) Q) : ∃ i, d = .int i ∧ v = .int i ∧ Q i m mu H := by
  cases d
  case int i => simp only [Rep] at h; exact ⟨i, rfl, h, hp m H .refl rl⟩
  all_goals exact (show False from hp).elim
theorem toS_ok {d : D} {v : V} {Q : Str → Mp → List MO → Hp → Prop} (rl : Rel K m mu H) (h : Rep K m H d v) (hp : Post K W m H (toS d mu) Q) : ∃ i, d = .str i ∧ v = .str i ∧ Q i m mu H := by
  cases d
  case str i => simp only [Rep] at h; exact ⟨i, rfl, h, hp m H .refl rl⟩
  all_goals exact (show False from hp).elim
theorem toB_ok {d : D} {v : V} {Q : Bool → Mp → List MO → Hp → Prop} (rl : Rel K m mu H) (h : Rep K m H d v) (hp : Post K W m H (toB d mu) Q) : ∃ i, d = .bl i ∧ v = .bl i ∧ Q i m mu H := by
  cases d
  case bl i => simp only [Rep] at h; exact ⟨i, rfl, h, hp m H .refl rl⟩
  all_goals exact (show False from hp).elim
theorem toT_ok {d : D} {v : V} {Q : List D → Mp → List MO → Hp → Prop} (rl : Rel K m mu H) (h : Rep K m H d v) (hp : Post K W m H (toT d mu) Q) : ∃ xs a vs, d = .tup xs ∧ v = .ref a ∧ SqT K H a vs ∧ Reps K m H xs vs ∧ Q xs m mu H := by
  cases d
  case tup xs => simp only [Rep] at h; obtain ⟨a, vs, e, hs, hr⟩ := h; exact ⟨xs, a, vs, rfl, e, hs, hr, hp m H .refl rl⟩
  all_goals exact (show False from hp).elim
/-- a condition that the data must meet -/
def need (c : Prop) [Decidable c] : M Unit := if c then pure () else bad
theorem need_ok {c : Prop} [Decidable c] {Q : Unit → Mp → List MO → Hp → Prop} (rl : Rel K m mu H) (hp : Post K W m H (need c mu) Q) : c ∧ Q () m mu H := by
  by_cases h : c
  · unfold need at hp
    rw [if_pos h] at hp
    exact ⟨h, hp m H .refl rl⟩
  · unfold need at hp
    rw [if_neg h] at hp
    exact (show False from hp).elim
end

/-! ### arithmetic, +, comparisons -/
def gII (c : Int → Int → Prop) [∀ i j, Decidable (c i j)] (f : Int → Int → D) (x y : D) : M D := do
  let i ← toI x
  let j ← toI y
  need (c i j)
  pure (f i j)
def gCat (x y : D) : M D := do
  let xs ← rdM x
  let ys ← rdM y
  need (xs.length + ys.length ≤ sizeLine)
  pure (.fl (xs ++ ys))
def gAdd : D → D → M D
  | .int i, y => do
    let j ← toI y
    pure (.int (i + j))
  | .str x, y => do
    let z ← toS y
    need (x.length + z.length ≤ sizeLine)
    pure (.str (x ++ z))
  | .tup xs, y => do
    let ys ← toT y
    need (xs.length + ys.length ≤ sizeLine)
    pure (.tup (xs ++ ys))
  | x, y => gCat x y
def cAny (_ _ : Int) : Prop := True
instance (i j : Int) : Decidable (cAny i j) := isTrue trivial
instance (i j : Int) : Decidable (CMulW i j) := inferInstanceAs (Decidable (_ < _))
instance (i j : Int) : Decidable (CDivW i j) := inferInstanceAs (Decidable (_ ∧ _))
instance (i j : Int) : Decidable (CPow i j) := inferInstanceAs (Decidable (_ ∧ _ ∧ _))
def cPos (_ j : Int) : Prop := 0 < j
instance (i j : Int) : Decidable (cPos i j) := inferInstanceAs (Decidable (_ < _))
def gSub : D → D → M D := gII cAny fun i j => .int (i - j)
def cMul (i j : Int) : Prop := CMul i j ∨ CMulW i j
instance (i j : Int) : Decidable (CMul i j) := inferInstanceAs (Decidable ((-(2 ^ 64) < i ∧ i < 2 ^ 64) ∨ (-(2 ^ 64) < j ∧ j < 2 ^ 64)))
instance (i j : Int) : Decidable (cMul i j) := inferInstanceAs (Decidable (CMul i j ∨ CMulW i j))
def gMul : D → D → M D := gII cMul fun i j => .int (i * j)
def gDiv : D → D → M D := gII CDivW fun i j => .int (i / j)
def gMod : D → D → M D := gII cPos fun i j => .int (i % j)
def gPow : D → D → M D := gII CPow fun i j => .int (i ^ j.toNat)
def gCmp (f : Int → Int → Bool) : D → D → M D := gII cAny fun i j => .bl (f i j)
def ltS (x y : Str) : Bool := decide (x.cps.toList < y.cps.toList)
def gLt : D → D → M D
  | .str x, y => do
    let z ← toS y
    pure (.bl (ltS x z))
  | x, y => gCmp (fun i j => decide (i < j)) x y
def gEq (neg : Bool) (x y : D) : M D := do
  need (okE x = true ∧ okE y = true ∧ dep x < 64)
  pure (.bl (eqD x y != neg))
def isN : D → Bool
  | .non => true
  | _ => false
def gIsN (neg : Bool) (x y : D) : M D := do
  need (isN y = true)
  pure (.bl (isN x != neg))
section
variable {X : Cx} {W : Wx}
theorem opm_ii {c : Int → Int → Prop} [∀ i j, Decidable (c i j)] {f : Int → Int → D} {fv : Int → Int → V} (hf : ∀ i j m H, Rep X.K m H (f i j) (fv i j)) : OpM X.K W (rI c fv) (gII c f) := ⟨fun x y v w m mu H Q rl hx hy hp => by
  obtain ⟨i, rfl, rfl, hp⟩ := toI_ok rl hx (Post.bind hp)
  obtain ⟨j, rfl, rfl, hp⟩ := toI_ok rl hy (Post.bind hp)
  obtain ⟨hc, hp⟩ := need_ok rl (Post.bind hp)
  exact ⟨i, j, rfl, rfl, hc, Post.pure hp rl _ (hf i j _ _)⟩⟩
theorem rI0_any {g : Int → Int → V} {x y : V} {H : Hp} {Q : VK} (h : rI cAny g x y H Q) : rI0 g x y H Q := let ⟨i, j, e, e', _, q⟩ := h; ⟨i, j, e, e', q⟩
theorem OpM.imp {K : PySem.W.Frag} {r r' : R2} {g : D → D → M D} (o : OpM K W r g) (h : ∀ x y H Q, r x y H Q → r' x y H Q) : OpM K W r' g := ⟨fun x y v w m mu H Q rl hx hy hp => h _ _ _ _ (o.go x y v w m mu H Q rl hx hy hp)⟩
theorem opm_sub : OpM X.K W (rI0 fun i j => .int (i - j)) gSub := (opm_ii (c := cAny) fun i j m H => by simp only [Rep]).imp fun _ _ _ _ => rI0_any
def rMulM : R2 := fun x y H Q => rI CMul (fun i j => .int (i * j)) x y H Q ∨ rI CMulW (fun i j => .int (i * j)) x y H Q
theorem op_mulM : OpR X (binaryOp .Mult) rMulM := op_mul.or op_mulW
theorem opm_mul : OpM X.K W rMulM gMul := (opm_ii (c := cMul) (fv := fun i j => .int (i * j)) fun i j m H => by simp only [Rep]).imp fun _ _ _ _ ⟨i, j, e, e', c, q⟩ => c.elim (fun c => .inl ⟨i, j, e, e', c, q⟩) (fun c => .inr ⟨i, j, e, e', c, q⟩)
theorem opm_div : OpM X.K W (rI CDivW fun i j => .int (i / j)) gDiv := opm_ii fun i j m H => by simp only [Rep]
theorem opm_mod : OpM X.K W (rI (fun _ j => 0 < j) fun i j => .int (i % j)) gMod := opm_ii (c := cPos) fun i j m H => by simp only [Rep]
theorem opm_pow : OpM X.K W (rI CPow fun i j => .int (i ^ j.toNat)) gPow := opm_ii fun i j m H => by simp only [Rep]
theorem opm_cmp {f : Int → Int → Bool} : OpM X.K W (rI0 fun i j => .bl (f i j)) (gCmp f) := (opm_ii (c := cAny) fun i j m H => by simp only [Rep]).imp fun _ _ _ _ => rI0_any
def rLtM : R2 := fun x y H Q => rI0 (fun i j => .bl (decide (i < j))) x y H Q ∨ ∃ i j, x = .str i ∧ y = .str j ∧ Q (.bl (decide (i.cps.toList < j.cps.toList))) H
theorem op_ltM : OpR X (compareOp .Lt) rLtM := op_lt.or op_lt_str
theorem opm_lt : OpM X.K W rLtM gLt := ⟨fun x y v w m mu H Q rl hx hy hp => by
  cases x
  case str x =>
    obtain ⟨z, rfl, rfl, hp⟩ := toS_ok rl hy (Post.bind hp)
    simp only [Rep] at hx
    exact .inr ⟨x, z, hx, rfl, Post.pure hp rl _ (by simp only [Rep, ltS])⟩
  all_goals exact .inl (opm_cmp.go _ y v w m mu H Q rl hx hy hp)⟩
/-- + of anything -/
def rAddM (K : PySem.W.Frag) : R2 := fun x y H Q => rI0 (fun i j => .int (i + j)) x y H Q ∨ (∃ i j, x = .str i ∧ y = .str j ∧ i.length + j.length ≤ sizeLine ∧ Q (.str (i ++ j)) H) ∨ rCatA K x y H Q ∨ rCat x y H Q
theorem op_addM : OpR X (binaryOp .Add) (rAddM X.K) := op_add.or (op_add_str.or (op_catA.or op_cat))
theorem opm_addL {x y : D} {v w : V} {m : Mp} {mu : List MO} {H : Hp} {Q : VK} (rl : Rel X.K m mu H) (hx : Rep X.K m H x v) (hy : Rep X.K m H y w)
    (hp : Post X.K W m H (gCat x y mu) (fun d m' _ H' => ∀ u, Rep X.K m' H' d u → Q u H')) : rAddM X.K v w H Q := by
  obtain ⟨a, xs, vs, rfl, ha, ra, ea, hp⟩ := rdM_ok rl hx (Post.bind hp)
  obtain ⟨b, ys, ws, rfl, hb, rb, eb, hp⟩ := rdM_ok rl hy (Post.bind hp)
  obtain ⟨c, hp⟩ := need_ok rl (Post.bind hp)
  refine .inr (.inr (.inr ⟨a, b, vs, ws, rfl, rfl, ha, hb, by rw [← ra.length, ← rb.length]; exact c, fun p hn => ?_⟩))
  obtain ⟨g, R', rp⟩ := new_fl rl (ra.append rb) hn
  exact hp m _ g R' _ rp
theorem opm_add : OpM X.K W (rAddM X.K) gAdd := ⟨fun x y v w m mu H Q rl hx hy hp => by
  cases x
  case int i =>
    obtain ⟨j, rfl, rfl, hp⟩ := toI_ok rl hy (Post.bind hp)
    simp only [Rep] at hx
    exact .inl ⟨i, j, hx, rfl, Post.pure hp rl _ (by simp only [Rep])⟩
  case str x =>
    obtain ⟨z, rfl, rfl, hp⟩ := toS_ok rl hy (Post.bind hp)
    obtain ⟨c, hp⟩ := need_ok rl (Post.bind hp)
    simp only [Rep] at hx
    exact .inr (.inl ⟨x, z, hx, rfl, c, Post.pure hp rl _ (by simp only [Rep])⟩)
  case tup xs =>
    obtain ⟨ys, b, ws, rfl, rfl, hb, rb, hp⟩ := toT_ok rl hy (Post.bind hp)
    obtain ⟨c, hp⟩ := need_ok rl (Post.bind hp)
    simp only [Rep] at hx
    obtain ⟨a, vs, rfl, ha, ra⟩ := hx
    refine .inr (.inr (.inl ⟨a, b, vs, ws, rfl, rfl, ha, hb, by rw [← ra.length, ← rb.length]; exact c, fun e => ?_, fun _ e => ?_, fun _ _ p hn => ?_⟩))
    · subst e
      have z : xs = [] := List.eq_nil_of_length_eq_zero (by rw [ra.length]; rfl)
      subst z
      exact Post.pure hp rl _ (by simp only [Rep]; exact ⟨b, ws, rfl, hb, rb⟩)
    · subst e
      have z : ys = [] := List.eq_nil_of_length_eq_zero (by rw [rb.length]; rfl)
      subst z
      rw [List.append_nil] at hp
      exact Post.pure hp rl _ (by simp only [Rep]; exact ⟨a, vs, rfl, ha, ra⟩)
    · obtain ⟨g, R', rp⟩ := new_tup rl (ra.append rb) hn
      exact hp m _ g R' _ rp
  all_goals exact opm_addL rl hx hy hp⟩
/-- ==, != of data -/
def rEqM (neg : Bool) (K : PySem.W.Frag) : R2 := fun x y H Q => ∃ d e m, Rep K m H d x ∧ Rep K m H e y ∧ okE d = true ∧ okE e = true ∧ dep d < 64 ∧ Q (.bl (eqD d e != neg)) H
theorem op_eqM (hu : X.A.units + 64 < cLine) : OpR X (compareOp .Eq) (rEqM false X.K) := by
  intro pins s σ H x y v u Q I rx ry h
  obtain ⟨d, e, m, hd, he, ok, ok', hdep, q⟩ := h
  have z := (eq_at I d e v u X.A (kd_of hd rx ok) (kd_of he ry ok') ok ok' (by omega)).1
  rw [Bool.bne_false] at q
  exact z X.prog X.w _ _ ⟨.bl _, H, I, rfl, q⟩
theorem opm_eq {neg : Bool} : OpM X.K W (rEqM neg X.K) (gEq neg) := ⟨fun x y v w m mu H Q rl hx hy hp => by
  obtain ⟨⟨h1, h2, h3⟩, hp⟩ := need_ok rl (Post.bind hp)
  exact ⟨x, y, m, hx, hy, h1, h2, h3, Post.pure hp rl _ (by simp only [Rep])⟩⟩
def rIsNM (neg : Bool) : R2 := fun x y H Q => y = .non ∧ Q (.bl (decide (x = .non) != neg)) H
theorem op_isNM : OpR X (compareOp .Is) (rIsNM false) := fun pins s σ H x y v u Q I rx ry h => op_isN pins s σ H x y v u Q I rx ry ⟨h.1, by have := h.2; rw [Bool.bne_false] at this; exact this⟩
theorem op_notNM : OpR X (compareOp .IsNot) (rIsNM true) := fun pins s σ H x y v u Q I rx ry h => op_notN pins s σ H x y v u Q I rx ry ⟨h.1, by have := h.2; rw [Bool.bne_true] at this; exact this⟩
theorem isN_eq {K : PySem.W.Frag} {m : Mp} {H : Hp} {d : D} {v : V} (h : Rep K m H d v) : isN d = decide (v = .non) := by
  cases d <;> simp only [Rep] at h
  case non => subst h; rfl
  case bl => subst h; rfl
  case int => subst h; rfl
  case str => subst h; rfl
  all_goals (obtain ⟨a, h⟩ := h)
  case tup => obtain ⟨vs, rfl, _⟩ := h; rfl
  case fl => obtain ⟨vs, rfl, _⟩ := h; rfl
  case ro => obtain ⟨vs, rfl, _⟩ := h; rfl
  case fd => obtain ⟨vs, rfl, _⟩ := h; rfl
  case ref => obtain ⟨rfl, _⟩ := h; rfl
theorem opm_isN {neg : Bool} : OpM X.K W (rIsNM neg) (gIsN neg) := ⟨fun x y v w m mu H Q rl hx hy hp => by
  obtain ⟨h1, hp⟩ := need_ok rl (Post.bind hp)
  rw [isN_eq hy] at h1
  rw [isN_eq hx] at hp
  exact ⟨of_decide_eq_true h1, Post.pure hp rl _ (by simp only [Rep])⟩⟩
end
end MP
namespace MP
open PySem L2 PyProof.Rows
open PySem.SeqAt (EqAt RcAt)
mutual
/-- the one form of equal data -/
def nf : D → D
  | .non => .non
  | .bl b => .int (b2n b)
  | .int i => .int i
  | .str x => .str x
  | .tup xs => .tup (nfs xs)
  | .fl xs => .fl (nfs xs)
  | .ro xs => .fl (nfs xs)
  | .fd ks xs => .fd ks xs
  | .ref n => .ref n
def nfs : List D → List D
  | [] => []
  | x :: xs => nf x :: nfs xs
end
mutual
theorem eqD_nf : ∀ (d e : D), okE d = true → okE e = true → (eqD d e = true ↔ nf d = nf e)
  | .non, e, _, h => by cases e <;> simp [eqD, nf, okE] at h ⊢
  | .bl b, e, _, h => by cases e <;> simp [eqD, nf, okE] at h ⊢ <;> (cases b <;> simp [b2n]) <;> rename_i c <;> cases c <;> simp
  | .int i, e, _, h => by cases e <;> simp [eqD, nf, okE] at h ⊢
  | .str x, e, _, h => by cases e <;> simp [eqD, nf, okE] at h ⊢
  | .tup xs, e, h, h' => by
    simp only [okE] at h
    cases e <;> simp only [eqD, nf, D.tup.injEq, reduceCtorEq, Bool.false_eq_true]
    case tup ys => exact eqDs_nf xs ys h (by simpa [okE] using h')
  | .fl xs, e, h, h' => by
    simp only [okE] at h
    cases e <;> simp only [eqD, nf, D.fl.injEq, reduceCtorEq, Bool.false_eq_true]
    case fl ys => exact eqDs_nf xs ys h (by simpa [okE] using h')
    case ro ys => exact eqDs_nf xs ys h (by simpa [okE] using h')
  | .ro xs, e, h, h' => by
    simp only [okE] at h
    cases e <;> simp only [eqD, nf, D.fl.injEq, reduceCtorEq, Bool.false_eq_true]
    case fl ys => exact eqDs_nf xs ys h (by simpa [okE] using h')
    case ro ys => exact eqDs_nf xs ys h (by simpa [okE] using h')
  | .fd _ _, _, h, _ => by simp [okE] at h
  | .ref _, _, h, _ => by simp [okE] at h
theorem eqDs_nf : ∀ (ds es : List D), okEs ds = true → okEs es = true → (eqDs ds es = true ↔ nfs ds = nfs es)
  | [], [], _, _ => by simp [eqDs, nfs]
  | [], _ :: _, _, _ => by simp [eqDs, nfs]
  | _ :: _, [], _, _ => by simp [eqDs, nfs]
  | d :: ds, e :: es, h, h' => by
    simp only [okEs, Bool.and_eq_true] at h h'
    simp only [eqDs, nfs, Bool.and_eq_true, List.cons.injEq]
    rw [eqD_nf d e h.1 h'.1, eqDs_nf ds es h.2 h'.2]
end
theorem eqD_trans {d e x : D} (hd : okE d = true) (he : okE e = true) (hx : okE x = true) (h : eqD d e = true) : eqD d x = eqD e x := by
  have h1 := (eqD_nf d e hd he).mp h
  rw [Bool.eq_iff_iff, eqD_nf d x hd hx, eqD_nf e x he hx, h1]

/-! ### in -/
def inS (x y : Str) : Bool := !(Builtin.Str.occurrences y x 0 y.length 1).isEmpty
/-- the items of a list or a tuple -/
def rdQ : D → M (List D)
  | .tup xs => pure xs
  | d => rdL d
def gIn (neg : Bool) : D → D → M D
  | x, .str y => do
    let z ← toS x
    pure (.bl (inS z y != neg))
  | x, y => do
    let ys ← rdQ y
    need (okE x = true ∧ okEs ys = true ∧ deps ys < 60)
    pure (.bl ((ys.any fun y => eqD y x) != neg))
section
variable {X : Cx} {W : Wx} {K : PySem.W.Frag} {m m' : Mp} {H H' : Hp} {mu : List MO}
theorem rdQ_ok {d : D} {v : V} {Q : List D → Mp → List MO → Hp → Prop} (rl : Rel K m mu H) (h : Rep K m H d v) (hp : Post K W m H (rdQ d mu) Q) : ∃ a xs vs, v = .ref a ∧ (SqL K H a vs ∨ SqT K H a vs) ∧ Reps K m H xs vs ∧ Q xs m mu H := by
  cases d
  case tup xs =>
    simp only [Rep] at h
    obtain ⟨a, vs, e, hs, hr⟩ := h
    exact ⟨a, xs, vs, e, .inr hs, hr, hp m H .refl rl⟩
  all_goals (
    obtain ⟨a, xs, vs, e, hs, hr, _, q⟩ := rdL_ok rl h hp
    exact ⟨a, xs, vs, e, .inl hs, hr, q⟩)
def rInM (neg : Bool) (K : PySem.W.Frag) : R2 := fun x y H Q => (∃ i j, x = .str i ∧ y = .str j ∧ Q (.bl (inS i j != neg)) H) ∨
  ∃ d p ds vs m, y = .ref p ∧ (SqL K H p vs ∨ SqT K H p vs) ∧ Rep K m H d x ∧ Reps K m H ds vs ∧ okE d = true ∧ okEs ds = true ∧ deps ds < 60 ∧ Q (.bl ((ds.any fun y => eqD y d) != neg)) H
open Classical in
theorem in_fun {pins : List (Addr × Obj)} {σ : L2.St} {s : Shared} {A : Around} (I : Inv X pins σ H s) {d : D} {x : V} {v : Value} {ds : List D} {vs : List V} {its : List Value} (hx : Rep X.K m H d x) (rx : RelV x v) (hr : Reps X.K m H ds vs) (r : Vals vs its)
    (ok : okE d = true) (oks : okEs ds = true) (hu : A.units + deps ds < cLine) : ∃ e : Value → Bool, (∀ u ∈ its, EqAt A s u v (e u)) ∧ its.any e = ds.any fun y => eqD y d := by
  have kx := kd_of hx rx ok
  have hl := hr.length
  have hl' := r.length
  have key : ∀ (i : Nat) (u : Value) (y : D), its[i]? = some u → ds[i]? = some y → Kd X.K m H y u ∧ okE y = true ∧ EqAt A s u v (eqD y d) := fun i u y hi hy => by
    obtain ⟨w, hw, qw⟩ := hr.get hy
    obtain ⟨u', hu', ru⟩ := r.get hw
    rw [hi] at hu'; cases hu'
    have oky := okEs_get oks hy
    have k := kd_of qw ru oky
    exact ⟨k, oky, eq_ats I ds i y hy d u v A k kx oks ok hu⟩
  have uniq : ∀ (i j : Nat) (u : Value) (y z : D), its[i]? = some u → its[j]? = some u → ds[i]? = some y → ds[j]? = some z → eqD y d = eqD z d := fun i j u y z hi hj hy hz => by
    obtain ⟨w, hw, qw⟩ := hr.get hy
    obtain ⟨w', hw', qw'⟩ := hr.get hz
    obtain ⟨u1, hu1, r1⟩ := r.get hw
    obtain ⟨u2, hu2, r2⟩ := r.get hw'
    rw [hi] at hu1; cases hu1
    rw [hj] at hu2; cases hu2
    have ew : w = w' := r1.inj r2
    subst ew
    have oky := okEs_get oks hy
    have okz := okEs_get oks hz
    exact eqD_trans oky okz ok (rep_same I y z w qw qw' oky okz)
  refine ⟨fun u => decide (∃ (i : Nat) (y : D), its[i]? = some u ∧ ds[i]? = some y ∧ eqD y d = true), fun u hm => ?_, ?_⟩
  · obtain ⟨i, hi⟩ := List.mem_iff_getElem?.mp hm
    have hil : i < ds.length := by have := (List.getElem?_eq_some_iff.mp hi).1; omega
    have hy : ds[i]? = some ds[i] := List.getElem?_eq_getElem hil
    have e : decide (∃ (i : Nat) (y : D), its[i]? = some u ∧ ds[i]? = some y ∧ eqD y d = true) = eqD ds[i] d := by
      rw [Bool.eq_iff_iff, decide_eq_true_iff]
      constructor
      · rintro ⟨j, z, hj, hz, q⟩
        rw [uniq i j u _ z hi hj hy hz]; exact q
      · intro q
        exact ⟨i, _, hi, hy, q⟩
    show EqAt A s u v (decide _)
    rw [e]
    exact (key i u _ hi hy).2.2
  · rw [Bool.eq_iff_iff, List.any_eq_true, List.any_eq_true]
    constructor
    · rintro ⟨u, hm, q⟩
      obtain ⟨i, y, hi, hy, q⟩ := of_decide_eq_true q
      exact ⟨y, List.mem_of_getElem? hy, q⟩
    · rintro ⟨y, hm, q⟩
      obtain ⟨i, hy⟩ := List.mem_iff_getElem?.mp hm
      have hil : i < its.length := by have := (List.getElem?_eq_some_iff.mp hy).1; omega
      exact ⟨its[i], List.getElem_mem hil, decide_eq_true ⟨i, y, List.getElem?_eq_getElem hil, hy, q⟩⟩
theorem op_inM (hu : X.A.units + 64 < cLine) : OpR X (compareOp .In) (rInM false X.K) := by
  intro pins s σ H x y v u Q I rx ry h
  rcases h with ⟨i, j, rfl, rfl, q⟩ | ⟨d, p, ds, vs, m, rfl, hq, hx, hr, ok, oks, hd, q⟩
  · rw [Bool.bne_false] at q
    exact op_in_str pins s σ H _ _ v u Q I rx ry ⟨i, j, rfl, rfl, q⟩
  · rw [Bool.bne_false] at q
    cases ry
    rcases hq with hq | hq
    · obtain ⟨its, r, pl, hz⟩ := I.list hq
      obtain ⟨e, he, ha⟩ := in_fun (A := X.A.in1) I hx rx hr r ok oks (by rw [in1_units]; omega)
      refine SeqAt.in_listAt e pl.isList (fun w hw => he w (by simpa using hw)) ⟨.bl _, H, I, rfl, ?_⟩
      rw [show its.toArray.any e = its.any e by simp, ha]
      exact q
    · obtain ⟨its, r, pl, hz⟩ := I.tuple hq
      obtain ⟨e, he, ha⟩ := in_fun (A := X.A.in1) I hx rx hr r ok oks (by rw [in1_units]; omega)
      refine SeqAt.in_tupleAt e pl (fun w hw => he w (by simpa using hw)) ⟨.bl _, H, I, rfl, ?_⟩
      rw [show its.toArray.any e = its.any e by simp, ha]
      exact q
theorem op_notInM (hu : X.A.units + 64 < cLine) : OpR X (compareOp .NotIn) (rInM true X.K) := by
  intro pins s σ H x y v u Q I rx ry h
  rcases h with ⟨i, j, rfl, rfl, q⟩ | ⟨d, p, ds, vs, m, rfl, hq, hx, hr, ok, oks, hd, q⟩
  · rw [Bool.bne_true] at q
    exact L2.op_notIn_str pins s σ H _ _ v u Q I rx ry ⟨i, j, rfl, rfl, q⟩
  · rw [Bool.bne_true] at q
    cases ry
    rcases hq with hq | hq
    · obtain ⟨its, r, pl, hz⟩ := I.list hq
      obtain ⟨e, he, ha⟩ := in_fun (A := X.A.in1) I hx rx hr r ok oks (by rw [in1_units]; omega)
      refine SeqAt.notIn_listAt e pl.isList (fun w hw => he w (by simpa using hw)) ⟨.bl _, H, I, rfl, ?_⟩
      rw [show its.toArray.any e = its.any e by simp, ha]
      exact q
    · obtain ⟨its, r, pl, hz⟩ := I.tuple hq
      obtain ⟨e, he, ha⟩ := in_fun (A := X.A.in1) I hx rx hr r ok oks (by rw [in1_units]; omega)
      refine SeqAt.notIn_tupleAt e pl (fun w hw => he w (by simpa using hw)) ⟨.bl _, H, I, rfl, ?_⟩
      rw [show its.toArray.any e = its.any e by simp, ha]
      exact q
theorem opm_in {neg : Bool} : OpM X.K W (rInM neg X.K) (gIn neg) := ⟨fun x y v w m mu H Q rl hx hy hp => by
  have seq : ∀ y, Rep X.K m H y w → Post X.K W m H ((do let ys ← rdQ y; need (okE x = true ∧ okEs ys = true ∧ deps ys < 60); pure (D.bl ((ys.any fun y => eqD y x) != neg))) mu) (fun d m' _ H' => ∀ u, Rep X.K m' H' d u → Q u H') → rInM neg X.K v w H Q := fun y hy hp => by
    obtain ⟨a, ys, vs, rfl, hs, hr, hp⟩ := rdQ_ok rl hy (Post.bind hp)
    obtain ⟨⟨h1, h2, h3⟩, hp⟩ := need_ok rl (Post.bind hp)
    exact .inr ⟨x, a, ys, vs, m, rfl, hs, hx, hr, h1, h2, h3, Post.pure hp rl _ (by simp only [Rep])⟩
  cases y
  case str y =>
    obtain ⟨z, rfl, rfl, hp⟩ := toS_ok rl hx (Post.bind hp)
    simp only [Rep] at hy
    exact .inl ⟨z, y, rfl, hy, Post.pure hp rl _ (by simp only [Rep])⟩
  all_goals exact seq _ hy hp⟩
open PySem.SeqAt (RcNeAt) in
theorem ne_lists {pins : List (Addr × Obj)} {σ : L2.St} {s : Shared} {a b : Addr} {ds es : List D} {vs ws : List V} {A : Around} (I : Inv X pins σ H s) (ha : SqL X.K H a vs) (hb : SqL X.K H b ws) (ra : Reps X.K m H ds vs) (rb : Reps X.K m H es ws) (ok : okEs ds = true) (hu : A.units + (deps ds + 1) < cLine)
    (ih : ∀ (j : Nat) d e v w u u', ds[j]? = some d → es[j]? = some e → Rep X.K m H d v → Rep X.K m H e w → RelV v u → RelV w u' → EqAt A.in1 s u u' (eqD d e)) : RcNeAt A s (.ref a) (.ref b) (!eqDs ds es) := by
  obtain ⟨its, r, pl, _⟩ := I.list ha
  obtain ⟨its', r', pl', _⟩ := I.list hb
  have h1 := ra.length
  have h2 := rb.length
  have h3 := r.length
  have h4 := r'.length
  by_cases hsz : its.toArray.size = its'.toArray.size
  · have hl : ds.length = es.length := by simp only [List.size_toArray] at hsz; omega
    rw [← eqDs_all hl]
    have q := RcNeAt.lists (A := A) (e := fun j => eqD (ds.getD j .non) (es.getD j .non)) pl.isList pl'.isList hsz (by omega) fun j j1 j2 => by
      obtain ⟨v, hv, rv⟩ := vals_at r j1
      obtain ⟨w, hw, rw'⟩ := vals_at r' j2
      obtain ⟨d, hd, qd⟩ := ra.at hv
      obtain ⟨e, he, qe⟩ := rb.at hw
      show EqAt A.in1 s _ _ (eqD (ds.getD j .non) (es.getD j .non))
      rw [getD_at hd, getD_at he]
      exact ih j d e v w _ _ hd he qd qe rv rw'
    rw [show ds.length = its.toArray.size by simp only [List.size_toArray]; omega]
    exact q
  · rw [eqDs_len (by simp only [List.size_toArray] at hsz; omega)]
    exact RcNeAt.lists_lengths pl.isList pl'.isList (by simpa using hsz) (by omega)
open PySem.SeqAt (RcNeAt) in
theorem ne_tuples {pins : List (Addr × Obj)} {σ : L2.St} {s : Shared} {a b : Addr} {ds es : List D} {vs ws : List V} {A : Around} (I : Inv X pins σ H s) (ha : SqT X.K H a vs) (hb : SqT X.K H b ws) (ra : Reps X.K m H ds vs) (rb : Reps X.K m H es ws) (ok : okEs ds = true) (hu : A.units + (deps ds + 1) < cLine)
    (ih : ∀ (j : Nat) d e v w u u', ds[j]? = some d → es[j]? = some e → Rep X.K m H d v → Rep X.K m H e w → RelV v u → RelV w u' → EqAt A.in1 s u u' (eqD d e)) : RcNeAt A s (.ref a) (.ref b) (!eqDs ds es) := by
  obtain ⟨its, r, pl, _⟩ := I.tuple ha
  obtain ⟨its', r', pl', _⟩ := I.tuple hb
  have h1 := ra.length
  have h2 := rb.length
  have h3 := r.length
  have h4 := r'.length
  rw [← eqDs_range]
  have q := RcNeAt.tuples (A := A) (e := fun j => eqD (ds.getD j .non) (es.getD j .non)) (show s.heap.IsTuple a its.toArray from pl) (show s.heap.IsTuple b its'.toArray from pl') (by omega) fun j j1 j2 => by
    obtain ⟨v, hv, rv⟩ := vals_at r j1
    obtain ⟨w, hw, rw'⟩ := vals_at r' j2
    obtain ⟨d, hd, qd⟩ := ra.at hv
    obtain ⟨e, he, qe⟩ := rb.at hw
    show EqAt A.in1 s _ _ (eqD (ds.getD j .non) (es.getD j .non))
    rw [getD_at hd, getD_at he]
    exact ih j d e v w _ _ hd he qd qe rv rw'
  have e1 : its.toArray.size = ds.length := by simp only [List.size_toArray]; omega
  have e2 : its'.toArray.size = es.length := by simp only [List.size_toArray]; omega
  rw [e1, e2] at q
  exact q
open PySem.SeqAt (RcNeAt) in
theorem ne_at {pins : List (Addr × Obj)} {σ : L2.St} {s : Shared} (I : Inv X pins σ H s) (d e : D) (u u' : Value) (A : Around) (h : Kd X.K m H d u) (h' : Kd X.K m H e u') (ok : okE d = true) (ok' : okE e = true) (hu : A.units + dep d < cLine) : RcNeAt A s u u' (!eqD d e) := by
  have hu0 : A.units < cLine := by omega
  cases h with
  | non =>
    cases h' <;> simp only [eqD, Bool.not_false, Bool.not_true]
    case non => exact RcNeAt.none_none
    case bl c => exact RcNeAt.none_bool _
    case int j t2 => exact RcNeAt.none_int _ _
    case str y t2 => exact RcNeAt.none_str _ _
    case tup es b ws hs' hr' => obtain ⟨_, p⟩ := tuple_at I hs'; exact RcNeAt.none_tuple p hu0
    case fl es b ws hs' hr' => obtain ⟨_, p⟩ := list_at I hs'; exact RcNeAt.none_list p hu0
    case ro es b ws hs' hr' => obtain ⟨_, p⟩ := list_at I hs'; exact RcNeAt.none_list p hu0
  | bl b =>
    cases h' <;> simp only [eqD, Bool.not_false, Bool.not_true]
    case non => exact RcNeAt.bool_none _
    case bl c => exact RcNeAt.bool_bool _ _
    case int j t2 => exact RcNeAt.bool_int _ _ _
    case str y t2 => exact RcNeAt.bool_str _ _ _
    case tup es b ws hs' hr' => obtain ⟨_, p⟩ := tuple_at I hs'; exact RcNeAt.bool_tuple _ p hu0
    case fl es b ws hs' hr' => obtain ⟨_, p⟩ := list_at I hs'; exact RcNeAt.bool_list _ p hu0
    case ro es b ws hs' hr' => obtain ⟨_, p⟩ := list_at I hs'; exact RcNeAt.bool_list _ p hu0
  | int i t =>
    cases h' <;> simp only [eqD, Bool.not_false, Bool.not_true]
    case non => exact RcNeAt.int_none _ _
    case bl c => exact RcNeAt.int_bool _ _ _
    case int j t2 => exact RcNeAt.int_int _ _ _ _
    case str y t2 => exact RcNeAt.int_str _ _ _ _
    case tup es b ws hs' hr' => obtain ⟨_, p⟩ := tuple_at I hs'; exact RcNeAt.int_tuple _ _ p hu0
    case fl es b ws hs' hr' => obtain ⟨_, p⟩ := list_at I hs'; exact RcNeAt.int_list _ _ p hu0
    case ro es b ws hs' hr' => obtain ⟨_, p⟩ := list_at I hs'; exact RcNeAt.int_list _ _ p hu0
  | str x t =>
    cases h' <;> simp only [eqD, Bool.not_false, Bool.not_true]
    case non => exact RcNeAt.str_none _ _
    case bl c => exact RcNeAt.str_bool _ _ _
    case int j t2 => exact RcNeAt.str_int _ _ _ _
    case str y t2 => exact RcNeAt.str_str _ _ _ _
    case tup es b ws hs' hr' => obtain ⟨_, p⟩ := tuple_at I hs'; exact RcNeAt.str_tuple _ _ p hu0
    case fl es b ws hs' hr' => obtain ⟨_, p⟩ := list_at I hs'; exact RcNeAt.str_list _ _ p hu0
    case ro es b ws hs' hr' => obtain ⟨_, p⟩ := list_at I hs'; exact RcNeAt.str_list _ _ p hu0
  | @tup ds a vs hs hr =>
    simp only [okE] at ok
    simp only [dep] at hu
    obtain ⟨_, p⟩ := tuple_at I hs
    cases h' <;> simp only [eqD, Bool.not_false, Bool.not_true]
    case non => exact RcNeAt.tuple_none p hu0
    case bl c => exact RcNeAt.tuple_bool _ p hu0
    case int j t2 => exact RcNeAt.tuple_int _ _ p hu0
    case str y t2 => exact RcNeAt.tuple_str _ _ p hu0
    case tup es b ws hs' hr' => simp only [okE] at ok'; exact ne_tuples I hs hs' hr hr' ok hu fun j d e v w u u' hd he qd qe rv rw' => (eq_ats I ds j d hd e u u' A.in1 (kd_of qd rv (okEs_get ok hd)) (kd_of qe rw' (okEs_get ok' he)) ok (okEs_get ok' he) (by rw [in1_units]; omega))
    case fl es b ws hs' hr' => obtain ⟨_, p'⟩ := list_at I hs'; exact RcNeAt.tuple_list p p' hu0
    case ro es b ws hs' hr' => obtain ⟨_, p'⟩ := list_at I hs'; exact RcNeAt.tuple_list p p' hu0
  | @fl ds a vs hs hr =>
    simp only [okE] at ok
    simp only [dep] at hu
    obtain ⟨_, p⟩ := list_at I hs
    cases h' <;> simp only [eqD, Bool.not_false, Bool.not_true]
    case non => exact RcNeAt.list_none p hu0
    case bl c => exact RcNeAt.list_bool _ p hu0
    case int j t2 => exact RcNeAt.list_int _ _ p hu0
    case str y t2 => exact RcNeAt.list_str _ _ p hu0
    case tup es b ws hs' hr' => obtain ⟨_, p'⟩ := tuple_at I hs'; exact RcNeAt.list_tuple p p' hu0
    case fl es b ws hs' hr' => simp only [okE] at ok'; exact ne_lists I hs hs' hr hr' ok hu fun j d e v w u u' hd he qd qe rv rw' => (eq_ats I ds j d hd e u u' A.in1 (kd_of qd rv (okEs_get ok hd)) (kd_of qe rw' (okEs_get ok' he)) ok (okEs_get ok' he) (by rw [in1_units]; omega))
    case ro es b ws hs' hr' => simp only [okE] at ok'; exact ne_lists I hs hs' hr hr' ok hu fun j d e v w u u' hd he qd qe rv rw' => (eq_ats I ds j d hd e u u' A.in1 (kd_of qd rv (okEs_get ok hd)) (kd_of qe rw' (okEs_get ok' he)) ok (okEs_get ok' he) (by rw [in1_units]; omega))
  | @ro ds a vs hs hr =>
    simp only [okE] at ok
    simp only [dep] at hu
    obtain ⟨_, p⟩ := list_at I hs
    cases h' <;> simp only [eqD, Bool.not_false, Bool.not_true]
    case non => exact RcNeAt.list_none p hu0
    case bl c => exact RcNeAt.list_bool _ p hu0
    case int j t2 => exact RcNeAt.list_int _ _ p hu0
    case str y t2 => exact RcNeAt.list_str _ _ p hu0
    case tup es b ws hs' hr' => obtain ⟨_, p'⟩ := tuple_at I hs'; exact RcNeAt.list_tuple p p' hu0
    case fl es b ws hs' hr' => simp only [okE] at ok'; exact ne_lists I hs hs' hr hr' ok hu fun j d e v w u u' hd he qd qe rv rw' => (eq_ats I ds j d hd e u u' A.in1 (kd_of qd rv (okEs_get ok hd)) (kd_of qe rw' (okEs_get ok' he)) ok (okEs_get ok' he) (by rw [in1_units]; omega))
    case ro es b ws hs' hr' => simp only [okE] at ok'; exact ne_lists I hs hs' hr hr' ok hu fun j d e v w u u' hd he qd qe rv rw' => (eq_ats I ds j d hd e u u' A.in1 (kd_of qd rv (okEs_get ok hd)) (kd_of qe rw' (okEs_get ok' he)) ok (okEs_get ok' he) (by rw [in1_units]; omega))
theorem op_neM (hu : X.A.units + 64 < cLine) : OpR X (compareOp .NotEq) (rEqM true X.K) := by
  intro pins s σ H x y v u Q I rx ry h
  obtain ⟨d, e, m, hd, he, ok, ok', hdep, q⟩ := h
  have z := ne_at I d e v u X.A (kd_of hd rx ok) (kd_of he ry ok') ok ok' (by omega)
  rw [Bool.bne_true] at q
  exact z X.prog X.w _ _ ⟨.bl _, H, I, rfl, q⟩
end
end MP
namespace MP
open PySem L2 PyProof.Rows
/-! ### expressions made of expressions -/
section
variable {X : Cx} {W : Wx} {e a b : Expr} {es : List Expr} {pos : Pos}
def eMap (f : D → M D) (r : Env → M D) : Env → M D := fun env => r env >>= f
def gNeg (x : D) : M D := do
  let i ← toI x
  pure (.int (-i))
theorem me_neg {r : Env → M D} (h : ME X W a r) : ME X W (.UnaryOp .USub a pos) (eMap gNeg r) := ⟨(pe_un un_neg h.pe).imp fun σ H Q ⟨env, m, mu, hE, hR, hp⟩ =>
  ⟨env, m, mu, hE, hR, (Post.bind hp).mono fun x m1 mu1 H1 g1 R1 hp v rv => by
    obtain ⟨i, rfl, rfl, hp⟩ := toI_ok R1 rv (Post.bind hp)
    exact ⟨i, rfl, Post.pure hp R1 _ (by simp only [Rep])⟩⟩⟩
def gNot (x : D) : M D := do
  let b ← toB x
  pure (.bl (!b))
theorem me_not {r : Env → M D} (h : ME X W a r) : ME X W (.UnaryOp .Not a pos) (eMap gNot r) := ⟨(pe_not h.pe).imp fun σ H Q ⟨env, m, mu, hE, hR, hp⟩ =>
  ⟨env, m, mu, hE, hR, (Post.bind hp).mono fun x m1 mu1 H1 g1 R1 hp v rv => by
    obtain ⟨i, rfl, rfl, hp⟩ := toB_ok R1 rv (Post.bind hp)
    exact ⟨i, rfl, Post.pure hp R1 _ (by simp only [Rep])⟩⟩⟩
theorem tT_bind {α : Type} {r : Env → M Bool} {t : TT} {f : Bool → Env → M Bool} (h : ∀ σ H Q, tT X.K W r σ H Q → t σ H Q) {σ : L2.St} {H : Hp} {Q : Bool → Hp → Prop} {Q' : Bool → Hp → Prop}
    (hq : tT X.K W (fun env => r env >>= fun b => f b env) σ H Q) (hn : ∀ b H1, tT X.K W (f b) σ H1 Q → Q' b H1) : t σ H Q' := by
  obtain ⟨env, m, mu, hE, hR, hp⟩ := hq
  exact h σ H _ ⟨env, m, mu, hE, hR, (Post.bind hp).mono fun b m1 mu1 H1 g1 R1 hp => hn b H1 ⟨env, m1, mu1, hE.grow g1, R1, hp⟩⟩
theorem tT_pure {c : Bool} {σ : L2.St} {H : Hp} {Q : Bool → Hp → Prop} (h : tT X.K W (fun _ => pure c) σ H Q) : Q c H := by
  obtain ⟨env, m, mu, hE, hR, hp⟩ := h
  exact Post.pure hp hR
def bNot (r : Env → M Bool) : Env → M Bool := fun env => r env >>= fun b => pure (!b)
def bAnd (r r' : Env → M Bool) : Env → M Bool := fun env => r env >>= fun b => if b = true then r' env else pure false
def bOr (r r' : Env → M Bool) : Env → M Bool := fun env => r env >>= fun b => if b = true then pure true else r' env
theorem mt_not {r : Env → M Bool} (h : MT X W a r) : MT X W (.UnaryOp .Not a pos) (bNot r) :=
  ⟨(pt_not h.pt).imp fun σ H Q hq => tT_bind (α := Bool) (f := fun b _ => pure (!b)) (fun _ _ _ q => q) hq fun b H1 q => tT_pure q⟩
/-- and, or as tests -/
structure MW (X : Cx) (W : Wx) (e : Expr) (r : Env → M Bool) : Prop where
  pw : PW X e (tT X.K W r)
theorem MW.mt {r : Env → M Bool} (h : MW X W e r) : MT X W e r := ⟨h.pw.pt⟩
theorem mw_and1 {r : Env → M Bool} (h : MT X W a r) : MW X W (.BoolOp .And [a] pos) r := ⟨pw_and1 h.pt⟩
theorem mw_or1 {r : Env → M Bool} (h : MT X W a r) : MW X W (.BoolOp .Or [a] pos) r := ⟨pw_or1 h.pt⟩
theorem mw_and {r r' : Env → M Bool} (h : MT X W a r) (h' : MW X W (.BoolOp .And (b :: es) pos) r') : MW X W (.BoolOp .And (a :: b :: es) pos) (bAnd r r') :=
  ⟨(pw_and h.pt h'.pw).imp fun σ H Q hq => tT_bind (α := Bool) (f := fun b env => if b = true then r' env else pure false) (fun _ _ _ q => q) hq fun b H1 q => by
    cases b
    · exact tT_pure q
    · exact q⟩
theorem mw_or {r r' : Env → M Bool} (h : MT X W a r) (h' : MW X W (.BoolOp .Or (b :: es) pos) r') : MW X W (.BoolOp .Or (a :: b :: es) pos) (bOr r r') :=
  ⟨(pw_or h.pt h'.pw).imp fun σ H Q hq => tT_bind (α := Bool) (f := fun b env => if b = true then pure true else r' env) (fun _ _ _ q => q) hq fun b H1 q => by
    cases b
    · exact q
    · exact tT_pure q⟩
/-- .. as values, of bools -/
def eAnd (r r' : Env → M D) : Env → M D := fun env => r env >>= fun x => toB x >>= fun b => if b = true then r' env else pure (.bl false)
def eOr (r r' : Env → M D) : Env → M D := fun env => r env >>= fun x => toB x >>= fun b => if b = true then pure (.bl true) else r' env
theorem me_one {op} {r : Env → M D} (h : ME X W a r) : ME X W (.BoolOp op [a] pos) r := ⟨pe_one h.pe⟩
theorem me_and {r r' : Env → M D} (h : ME X W a r) (h' : ME X W (.BoolOp .And (b :: es) pos) r') : ME X W (.BoolOp .And (a :: b :: es) pos) (eAnd r r') := ⟨(pe_and h.pe h'.pe).imp fun σ H Q ⟨env, m, mu, hE, hR, hp⟩ =>
  ⟨env, m, mu, hE, hR, (Post.bind hp).mono fun x m1 mu1 H1 g1 R1 hp v rv => by
    obtain ⟨c, rfl, rfl, hp⟩ := toB_ok R1 rv (Post.bind hp)
    refine ⟨c, rfl, ?_⟩
    cases c
    · exact Post.pure hp R1 _ (by simp only [Rep])
    · exact ⟨env, m1, mu1, hE.grow g1, R1, hp⟩⟩⟩
theorem me_or {r r' : Env → M D} (h : ME X W a r) (h' : ME X W (.BoolOp .Or (b :: es) pos) r') : ME X W (.BoolOp .Or (a :: b :: es) pos) (eOr r r') := ⟨(pe_or h.pe h'.pe).imp fun σ H Q ⟨env, m, mu, hE, hR, hp⟩ =>
  ⟨env, m, mu, hE, hR, (Post.bind hp).mono fun x m1 mu1 H1 g1 R1 hp v rv => by
    obtain ⟨c, rfl, rfl, hp⟩ := toB_ok R1 rv (Post.bind hp)
    refine ⟨c, rfl, ?_⟩
    cases c
    · exact ⟨env, m1, mu1, hE.grow g1, R1, hp⟩
    · exact Post.pure hp R1 _ (by simp only [Rep])⟩⟩
def eIf {α : Type} (t : Env → M Bool) (r r' : Env → M α) : Env → M α := fun env => t env >>= fun b => if b = true then r env else r' env
theorem me_ifExp {c : Expr} {t : Env → M Bool} {r r' : Env → M D} (hc : MT X W c t) (h : ME X W a r) (h' : ME X W b r') : ME X W (.IfExp c a b pos) (eIf t r r') := ⟨(pe_ifExp hc.pt h.pe h'.pe).imp fun σ H Q ⟨env, m, mu, hE, hR, hp⟩ =>
  ⟨env, m, mu, hE, hR, (Post.bind hp).mono fun b m1 mu1 H1 g1 R1 hp => by
    cases b
    · exact ⟨env, m1, mu1, hE.grow g1, R1, hp⟩
    · exact ⟨env, m1, mu1, hE.grow g1, R1, hp⟩⟩⟩

/-! ### argument lists, displays -/
def aNil : Env → M (List D) := fun _ => pure []
def aCons (r : Env → M D) (rs : Env → M (List D)) : Env → M (List D) := fun env => r env >>= fun x => rs env >>= fun xs => pure (x :: xs)
theorem ma_nil : MA X W [] aNil := ⟨pa_nil.imp fun σ H Q ⟨env, m, mu, hE, hR, hp⟩ => Post.pure hp hR [] (Reps.nil_iff.mpr rfl)⟩
theorem ma_cons {r : Env → M D} {rs : Env → M (List D)} (h : ME X W e r) (hs : MA X W es rs) (he : starEach (e :: es) X.env = (false, eval e X.env) :: starEach es X.env := by rfl) : MA X W (e :: es) (aCons r rs) :=
  ⟨(pa_cons h.pe hs.pa he).imp fun σ H Q ⟨env, m, mu, hE, hR, hp⟩ =>
    ⟨env, m, mu, hE, hR, (Post.bind hp).mono fun x m1 mu1 H1 g1 R1 hp v rv => ⟨env, m1, mu1, hE.grow g1, R1, (Post.bind hp).mono fun xs m2 mu2 H2 g2 R2 hp vs rvs =>
      Post.pure hp R2 (v :: vs) (Reps.cons_iff.mpr ⟨v, vs, rfl, Rep.grow g2 x v rv, rvs⟩)⟩⟩⟩
def gTup (xs : List D) : M D := do
  need (xs.length ≤ sizeLine)
  pure (.tup xs)
def aThen (f : List D → M D) (rs : Env → M (List D)) : Env → M D := fun env => rs env >>= f
theorem me_tup {x1} {rs : Env → M (List D)} (h : MA X W es rs) : ME X W (.Tuple es x1 pos) (aThen gTup rs) := ⟨(pe_tup h.pa).imp fun σ H Q ⟨env, m, mu, hE, hR, hp⟩ =>
  ⟨env, m, mu, hE, hR, (Post.bind hp).mono fun xs m1 mu1 H1 g1 R1 hp vs rv => by
    obtain ⟨c, hp⟩ := need_ok R1 (Post.bind hp)
    refine ⟨by rw [← rv.length]; exact c, fun p hn => ?_⟩
    obtain ⟨g, R', rp⟩ := new_tup R1 rv hn
    exact hp m1 _ g R' _ rp⟩⟩
/-- a new object is taken into the small heap -/
theorem Rel.adopt {K : PySem.W.Frag} {m : Mp} {H H' : Hp} {mu : List MO} (R : Rel K m mu H) {a : Addr} {o : MO} (hn : m.Out a) (hg : Grow m (m.add a) H H') (hk : ∀ b u, H b = some u → H' b = some u) (ho : RepO K (m.add a) H' a o) : Rel K (m.add a) (mu ++ [o]) H' := by
  refine ⟨by show (m.ad ++ [a]).length = _; rw [List.length_append, List.length_append, R.len]; rfl, ?_, fun b hb => hg.trk b _ (R.nos b hb).choose_spec, fun b hb => ?_, fun n ob b h1 h2 => ?_⟩
  · show (m.ad ++ [a]).Nodup
    rw [List.nodup_append]
    refine ⟨R.nd, by simp, fun x hx y hy => ?_⟩
    rw [List.mem_singleton.mp hy]
    rintro rfl
    exact hn.1 hx
  · rcases List.mem_append.mp (show b ∈ m.ad ++ [a] from hb) with z | z
    · exact R.dj b z
    · rw [List.mem_singleton.mp z]; exact hn.2
  · have h2 : (m.ad ++ [a])[n]? = some b := h2
    by_cases h : n < mu.length
    · rw [List.getElem?_append_left h] at h1
      rw [List.getElem?_append_left (by rw [R.len]; exact h)] at h2
      exact (R.obj n ob b h1 h2).grow hg fun u q => hk b u q
    · by_cases hl : n = mu.length
      · subst hl
        rw [List.getElem?_append_right (Nat.le_refl _), Nat.sub_self] at h1
        rw [List.getElem?_append_right (by rw [R.len]; exact Nat.le_refl _), ← R.len, Nat.sub_self] at h2
        cases h1
        cases h2
        exact ho
      · rw [List.getElem?_eq_none (by rw [List.length_append]; simp only [List.length_cons, List.length_nil]; omega)] at h1
        cases h1
theorem add_get {K : PySem.W.Frag} {m : Mp} {H : Hp} {mu : List MO} (R : Rel K m mu H) {a : Addr} : (m.add a).ad[mu.length]? = some a := by
  show (m.ad ++ [a])[mu.length]? = some a
  rw [List.getElem?_append_right (by rw [R.len]; exact Nat.le_refl _), ← R.len, Nat.sub_self]
  rfl
theorem Grow.fresh {m : Mp} {H : Hp} {p : Addr} {o : HO} (hn : H p = none) : Grow m (m.add p) H (upd H p o) :=
  let g : Grow m m H (upd H p o) := .laid hn
  ⟨⟨[p], [], rfl, by simp [Mp.add], fun a ha => by rw [List.mem_singleton.mp ha]; exact hn, by simp⟩, g.oth, g.tups, g.frzs, g.trk⟩
theorem upd_keeps {H : Hp} {p : Addr} {o : HO} (hn : H p = none) : ∀ b u, H b = some u → upd H p o b = some u := fun b u e => by rw [upd_ne (ne_of_none e hn)]; exact e
/-- a new list: from its reading -/
theorem tF_new {K : PySem.W.Frag} {W : Wx} {m m1 : Mp} {H H1 : Hp} {mu1 : List MO} {ds : List D} {vs : List V} {Q : VK} (g : Grow m m1 H H1) (R1 : Rel K m1 mu1 H1) (r : Reps K m1 H1 ds vs) (hp : Post K W m1 H1 ((pure ds : M (List D)) mu1) fun ds m' mu' H' => NewL K H ds m' mu' H' Q) : ∀ p, H1 p = none → Q (.ref p) (upd H1 p (.lst vs)) := fun p hn => by
  have g1 : Grow m1 m1 H1 (upd H1 p (.lst vs)) := .laid hn
  have q := hp m1 _ g1 (R1.laid hn)
  exact q p vs (g.none_of hn) upd_same (R1.free hn) (Reps.grow g1 ds vs r) (R1.adopt (R1.free hn) (.fresh hn) (upd_keeps hn) ⟨vs, upd_same, Reps.grow (.fresh hn) ds vs r⟩)
def aList (rs : Env → M (List D)) : Env → M (List D) := fun env => rs env >>= fun xs => need (xs.length ≤ sizeLine) >>= fun _ => pure xs
theorem mf_lst {rs : Env → M (List D)} (h : MA X W es rs) : MF X W (.List es pos) (aList rs) := ⟨(pe_lst h.pa).imp fun σ H Q ⟨env, m, mu, hE, hR, hp⟩ =>
  ⟨env, m, mu, hE, hR, (Post.bind hp).mono fun xs m1 mu1 H1 g1 R1 hp vs rv => by
    obtain ⟨c, hp⟩ := need_ok R1 (Post.bind hp)
    exact ⟨by rw [← rv.length]; exact c, tF_new g1 R1 rv hp⟩⟩⟩
def eFl (r : Env → M (List D)) : Env → M D := fun env => r env >>= fun xs => pure (.fl xs)
def alloc (o : MO) : M D := fun mu => .ok (.ref mu.length) (mu ++ [o])
def eNew (r : Env → M (List D)) : Env → M D := fun env => r env >>= fun xs => alloc (.lst xs)
/-- a new list, from now on read alone -/
theorem me_fl {r : Env → M (List D)} (h : MF X W e r) : ME X W e (eFl r) := ⟨h.pe.imp fun σ H Q ⟨env, m, mu, hE, hR, hp⟩ =>
  ⟨env, m, mu, hE, hR, (Post.bind hp).mono fun xs m1 mu1 H1 g1 R1 hp a vs h0 h1 hn hr _ => Post.pure hp R1 _ (by simp only [Rep]; exact ⟨a, vs, rfl, h1, hn, hr⟩)⟩⟩
/-- a new list, taken into the small heap -/
theorem me_new {r : Env → M (List D)} (h : MF X W e r) : ME X W e (eNew r) := ⟨h.pe.imp fun σ H Q ⟨env, m, mu, hE, hR, hp⟩ => by
  refine ⟨env, m, mu, hE, hR, ?_⟩
  have e0 : eNew r env mu = M.bind (r env) (fun xs => alloc (.lst xs)) mu := rfl
  rw [e0] at hp
  unfold M.bind at hp
  cases hr : r env mu with
  | ok xs mu1 =>
    rw [hr] at hp
    intro m1 H1 g1 R1 a vs h0 h1 hn hrs ha
    have q := hp (m1.add a) H1 (g1.adopt h0) ha (.ref a)
    exact q (by simp only [Rep]; exact ⟨a, rfl, add_get R1⟩)
  | exc x mu1 => rw [hr] at hp; exact hp
  | bad => rw [hr] at hp; exact hp⟩
/-- {} , taken into the small heap -/
def eNewD : Env → M D := fun _ => alloc (.dk [])
theorem me_dict0 : ME X W (.Dict [] [] pos) eNewD := ⟨pe_dnewK.imp fun σ H Q ⟨env, m, mu, hE, hR, hp⟩ p hn => by
  have q := hp (m.add p) (upd H p (.dK [])) (.fresh hn) (hR.adopt (hR.free hn) (.fresh hn) (upd_keeps hn) ⟨[], upd_same, Reps.nil_iff.mpr rfl⟩) (.ref p)
  exact q (by simp only [Rep]; exact ⟨p, rfl, add_get hR⟩)⟩

/-! ### subscripts -/
def ixD (xs : List D) (i : Int) : M D := match atI xs i with
  | some d => pure d
  | none => bad
def gIx : D → D → M D
  | .str z, y => do
    let i ← toI y
    need (z.length ≤ sizeLine)
    match atI z.cps.toList i with
    | some c => pure (.str ⟨#[c]⟩)
    | none => bad
  | x, y => do
    let xs ← rdQ x
    let i ← toI y
    ixD xs i
theorem ixD_ok {K : PySem.W.Frag} {m : Mp} {H : Hp} {mu : List MO} {xs : List D} {vs : List V} {i : Int} {Q : D → Mp → List MO → Hp → Prop} (R : Rel K m mu H) (r : Reps K m H xs vs) (hp : Post K W m H (ixD xs i mu) Q) : ∃ d v, atI vs i = some v ∧ Rep K m H d v ∧ Q d m mu H := by
  unfold ixD at hp
  cases e : atI xs i with
  | none => rw [e] at hp; exact (show False from hp).elim
  | some d =>
    rw [e] at hp
    unfold atI at e
    rw [r.length] at e
    cases e2 : ixN vs.length i with
    | none => rw [e2] at e; cases e
    | some j =>
      rw [e2] at e
      obtain ⟨v, hv, rv⟩ := r.get (show xs[j]? = some d from e)
      exact ⟨d, v, by unfold atI; rw [e2]; exact hv, rv, Post.pure hp R⟩
theorem opm_ix : OpM X.K W (rIx X.K) gIx := ⟨fun x y v w m mu H Q rl hx hy hp => by
  have seq : ∀ x, Rep X.K m H x v → Post X.K W m H ((do let xs ← rdQ x; let i ← toI y; ixD xs i) mu) (fun d m' _ H' => ∀ u, Rep X.K m' H' d u → Q u H') → rIx X.K v w H Q := fun x hx hp => by
    obtain ⟨a, xs, vs, rfl, hs, hr, hp⟩ := rdQ_ok rl hx (Post.bind hp)
    obtain ⟨i, rfl, rfl, hp⟩ := toI_ok rl hy (Post.bind hp)
    obtain ⟨d, v, hv, rv, hp⟩ := ixD_ok rl hr hp
    rcases hs with hs | hs
    · exact .inl ⟨a, vs, i, v, rfl, rfl, hs, hv, hp v rv⟩
    · exact .inr (.inl ⟨a, vs, i, v, rfl, rfl, hs, hv, hp v rv⟩)
  cases x
  case str z =>
    obtain ⟨i, rfl, rfl, hp⟩ := toI_ok rl hy (Post.bind hp)
    obtain ⟨c, hp⟩ := need_ok rl (Post.bind hp)
    simp only [Rep] at hx
    cases e : atI z.cps.toList i with
    | none => rw [e] at hp; exact (show False from hp).elim
    | some k =>
      rw [e] at hp
      exact .inr (.inr ⟨z, i, k, hx, rfl, c, e, Post.pure hp rl _ (by simp only [Rep])⟩)
  all_goals exact seq _ hx hp⟩
theorem me_ix {ra rb : Env → M D} (ha : ME X W a ra) (hb : ME X W b rb) (hs : PlainIx b := by intro _ _; rfl) : ME X W (.Subscript a b pos) (eBin gIx ra rb) := ⟨(pe_ix ix_seq ha.pe hb.pe hs).imp (tE_bin opm_ix)⟩
/-- keys of a dict -/
def toK : D → M Key
  | .int i => pure (.inl i)
  | .str x => pure (.inr x)
  | _ => bad
theorem toK_ok {K : PySem.W.Frag} {m : Mp} {H : Hp} {mu : List MO} {d : D} {v : V} {Q : Key → Mp → List MO → Hp → Prop} (R : Rel K m mu H) (h : Rep K m H d v) (hp : Post K W m H (toK d mu) Q) : ∃ k, v = kV k ∧ Q k m mu H := by
  cases d
  case int i => simp only [Rep] at h; exact ⟨.inl i, h, hp m H .refl R⟩
  case str i => simp only [Rep] at h; exact ⟨.inr i, h, hp m H .refl R⟩
  all_goals exact (show False from hp).elim
/-- what a dict holds at a key -/
def valD (kvs : List (Key × D)) (k : Key) : Option D := (kvs.find? fun kv => decide (kv.1 = k)).map (·.2)
def atD (mu : List MO) (n : Nat) : R (List (Key × D)) := match mu[n]? with
  | some (.dk kvs) => .ok kvs mu
  | _ => .bad
theorem atD_dk {mu : List MO} {n : Nat} {kvs : List (Key × D)} (h : mu[n]? = some (.dk kvs)) : atD mu n = .ok kvs mu := by unfold atD; rw [h]
theorem atD_lst {mu : List MO} {n : Nat} {xs : List D} (h : mu[n]? = some (.lst xs)) : atD mu n = .bad := by unfold atD; rw [h]
def rdD : D → M (List (Key × D))
  | .fd ks xs => pure (ks.zip xs)
  | .ref n => fun mu => atD mu n
  | _ => bad
theorem zip_keys {α β : Type} : ∀ (kvs : List (α × β)), (kvs.map (·.1)).zip (kvs.map (·.2)) = kvs
  | [] => rfl
  | (k, v) :: r => by rw [List.map_cons, List.map_cons, List.zip_cons_cons, zip_keys r]
theorem valD_rep {K : PySem.W.Frag} {m : Mp} {H : Hp} {k : Key} : ∀ {ks : List Key} {ds : List D} {vs : List V}, Reps K m H ds vs → match valD (ks.zip ds) k with
    | some d => ∃ v, valV (ks.zip vs) k = some v ∧ Rep K m H d v
    | none => valV (ks.zip vs) k = none
  | [], ds, vs, _ => by simp [valD, valV]
  | _ :: _, [], vs, h => by rw [Reps.nil_iff] at h; subst h; simp [valD, valV]
  | j :: ks, d :: ds, vs, h => by
    obtain ⟨v, r, rfl, h1, h2⟩ := Reps.cons_iff.mp h
    have ih := valD_rep (k := k) (ks := ks) h2
    by_cases e : j = k
    · subst e
      simp only [valD, valV, List.zip_cons_cons, List.find?_cons, decide_true, Option.map_some]
      exact ⟨v, rfl, h1⟩
    · simp only [valD, valV, List.zip_cons_cons, List.find?_cons, decide_eq_false e] at ih ⊢
      exact ih
theorem rdD_ok {K : PySem.W.Frag} {m : Mp} {H : Hp} {mu : List MO} {d : D} {v : V} {Q : List (Key × D) → Mp → List MO → Hp → Prop} (R : Rel K m mu H) (h : Rep K m H d v) (hp : Post K W m H (rdD d mu) Q) : ∃ a kvs vs, v = .ref a ∧ H a = some (.dK ((kvs.map (·.1)).zip vs)) ∧ Reps K m H (kvs.map (·.2)) vs ∧ Q kvs m mu H := by
  cases d <;> simp only [Rep] at h
  case fd ks ds =>
    obtain ⟨a, vs, rfl, hs, _, hl, hr⟩ := h
    refine ⟨a, ks.zip ds, vs, rfl, ?_, ?_, hp m H .refl R⟩
    · rw [List.map_fst_zip (by omega)]; exact hs
    · rw [List.map_snd_zip (by omega)]; exact hr
  case ref n =>
    obtain ⟨a, rfl, hm⟩ := h
    obtain ⟨o, ho, hr⟩ := R.at' hm
    cases o with
    | dk kvs =>
      obtain ⟨vs, hH, hr⟩ := hr
      have e : rdD (.ref n) mu = .ok kvs mu := atD_dk ho
      rw [e] at hp
      exact ⟨a, kvs, vs, rfl, hH, hr, hp m H .refl R⟩
    | lst xs =>
      have e : rdD (.ref n) mu = .bad := atD_lst ho
      rw [e] at hp
      exact hp.elim
  all_goals exact (show False from hp).elim
theorem valD_get {K : PySem.W.Frag} {m : Mp} {H : Hp} {kvs : List (Key × D)} {vs : List V} {a : Addr} (k : Key) (hH : H a = some (.dK ((kvs.map (·.1)).zip vs))) (hr : Reps K m H (kvs.map (·.2)) vs) : (∃ d v, valD kvs k = some d ∧ Rep K m H d v ∧ DGet H a (kV k) (some v)) ∨ (valD kvs k = none ∧ DGet H a (kV k) none) := by
  have q := valD_rep (k := k) (ks := kvs.map (·.1)) hr
  rw [zip_keys] at q
  have g := DGet.k (k := k) hH
  cases e : valD kvs k with
  | none =>
    rw [e] at q
    rw [show valV ((kvs.map (·.1)).zip vs) k = none from q] at g
    exact .inr ⟨rfl, g⟩
  | some d =>
    rw [e] at q
    obtain ⟨v, hv, rv⟩ := q
    rw [hv] at g
    exact .inl ⟨d, v, rfl, rv, g⟩
def gDget (x y : D) : M D := do
  let kvs ← rdD x
  let k ← toK y
  match valD kvs k with
  | some d => pure d
  | none => bad
theorem me_dget {ra rb : Env → M D} (hu : X.A.units + 1 < cLine) (ha : ME X W a ra) (hb : ME X W b rb) (hs : NoSl b := by intro _ _; rfl) : ME X W (.Subscript a b pos) (eBin gDget ra rb) := ⟨(pe_dget hu ha.pe hb.pe hs).imp fun σ H Q ⟨env, m, mu, hE, hR, hp⟩ =>
  ⟨env, m, mu, hE, hR, (Post.bind hp).mono fun x m1 mu1 H1 g1 R1 hp1 v rv => ⟨env, m1, mu1, hE.grow g1, R1, (Post.bind hp1).mono fun y m2 mu2 H2 g2 R2 hp w rw' => by
    obtain ⟨p, kvs, vs, rfl, hH, hr, hp⟩ := rdD_ok R2 (Rep.grow g2 x v rv) (Post.bind hp)
    obtain ⟨k, rfl, hp⟩ := toK_ok R2 rw' (Post.bind hp)
    rcases valD_get k hH hr with ⟨d, z, e, rz, g⟩ | ⟨e, g⟩
    · rw [e] at hp
      exact ⟨p, z, rfl, g, Post.pure hp R2 z rz⟩
    · rw [e] at hp
      exact (show False from hp).elim⟩⟩⟩
/-- in a dict -/
def gDin (neg : Bool) (y x : D) : M D := do
  let kvs ← rdD x
  let k ← toK y
  pure (.bl ((valD kvs k).isSome != neg))
theorem din_go {neg : Bool} {σ : L2.St} {ra rb : Env → M D} {H : Hp} {Q : VK} (h : tE X.K W (eBin (gDin neg) ra rb) σ H Q) : (tE X.K W ra) σ H fun y H1 => (tE X.K W rb) σ H1 fun x H2 => ∃ a o, x = .ref a ∧ DGet H2 a y o ∧ Q (.bl (o.isSome != neg)) H2 := by
  obtain ⟨env, m, mu, hE, hR, hp⟩ := h
  exact ⟨env, m, mu, hE, hR, (Post.bind hp).mono fun y m1 mu1 H1 g1 R1 hp1 v rv => ⟨env, m1, mu1, hE.grow g1, R1, (Post.bind hp1).mono fun x m2 mu2 H2 g2 R2 hp w rw' => by
    obtain ⟨p, kvs, vs, rfl, hH, hr, hp⟩ := rdD_ok R2 rw' (Post.bind hp)
    obtain ⟨k, rfl, hp⟩ := toK_ok R2 (Rep.grow g2 y v rv) (Post.bind hp)
    rcases valD_get k hH hr with ⟨d, z, e, rz, g⟩ | ⟨e, g⟩
    · rw [e] at hp
      exact ⟨p, _, rfl, g, Post.pure hp R2 _ (by simp only [Rep, Option.isSome_some])⟩
    · rw [e] at hp
      exact ⟨p, _, rfl, g, Post.pure hp R2 _ (by simp only [Rep, Option.isSome_none])⟩⟩⟩
theorem pc_dinM {ra rb : Env → M D} (hu : X.A.units + 1 < cLine) (ha : ME X W a ra) (hb : ME X W b rb) : PC X .In a b (tE X.K W (eBin (gDin false) ra rb)) := ⟨fun pins s σ H Q I h => (pc_din hu ha.pe hb.pe).run pins s σ H Q I (by
  have q := din_go h
  simp only [Bool.bne_false] at q
  exact q)⟩
theorem pc_dnotinM {ra rb : Env → M D} (hu : X.A.units + 1 < cLine) (ha : ME X W a ra) (hb : ME X W b rb) : PC X .NotIn a b (tE X.K W (eBin (gDin true) ra rb)) := ⟨fun pins s σ H Q I h => (pc_dnotin hu ha.pe hb.pe).run pins s σ H Q I (by
  have q := din_go h
  simp only [Bool.bne_true] at q
  exact q)⟩
theorem me_pc {op : CmpOp} {r : Env → M D} (h : PC X op a b (tE X.K W r)) (h1 : behindInMarks op b = false := by first | exact nobehind _ (by decide) (by decide) | rfl) : ME X W (.Compare a [op] [b] pos) r := ⟨pe_cmp h h1⟩
theorem mt_pc {op : CmpOp} {r : Env → M D} (h : PC X op a b (tE X.K W r)) (h1 : behindInMarks op b = false := by first | exact nobehind _ (by decide) (by decide) | rfl) : MT X W (.Compare a [op] [b] pos) (eB r) := ⟨(pt_cmp h h1).imp (tT_of fun _ _ _ q => q)⟩
end
end MP
namespace MP
open PySem L2 PyProof.Rows
/-! ### slices, built-ins -/
section
variable {X : Cx} {W : Wx} {e a b : Expr} {es : List Expr} {pos p : Pos}
structure MO_ (X : Cx) (W : Wx) (e : Option Expr) (r : Env → M (Option Int)) : Prop where
  po : PO X e fun σ H Q => ∃ env m mu, RepE X.K m H env σ ∧ Rel X.K m mu H ∧ Post X.K W m H (r env mu) fun o _ _ H' => Q o H'
theorem _root_.L2.PO.imp {e : Option Expr} {t t' : TO} (h : PO X e t) (i : ∀ σ H Q, t' σ H Q → t σ H Q) : PO X e t' := ⟨fun pins s σ H Q I q => h.run pins s σ H Q I (i σ H Q q)⟩
def oNone : Env → M (Option Int) := fun _ => pure none
def oSome (r : Env → M D) : Env → M (Option Int) := fun env => r env >>= fun x => toI x >>= fun i => pure (some i)
theorem mo_none : MO_ X W none oNone := ⟨po_none.imp fun σ H Q ⟨env, m, mu, hE, hR, hp⟩ => Post.pure hp hR⟩
theorem mo_some {r : Env → M D} (h : ME X W e r) : MO_ X W (some e) (oSome r) := ⟨(po_some h.pe).imp fun σ H Q ⟨env, m, mu, hE, hR, hp⟩ =>
  ⟨env, m, mu, hE, hR, (Post.bind hp).mono fun x m1 mu1 H1 g1 R1 hp v rv => by
    obtain ⟨i, rfl, rfl, hp⟩ := toI_ok R1 rv (Post.bind hp)
    exact ⟨i, rfl, Post.pure hp R1⟩⟩⟩
def cutD (xs : List D) (lo hi : Option Int) : List D := (xs.drop (HT.sIx xs.length 0 lo)).take (HT.sIx xs.length xs.length hi - HT.sIx xs.length 0 lo)
theorem cut_rep {K : PySem.W.Frag} {m : Mp} {H : Hp} {xs : List D} {vs : List V} {lo hi : Option Int} (h : Reps K m H xs vs) : Reps K m H (cutD xs lo hi) (cutV vs lo hi) := by
  unfold cutD cutV
  rw [h.length]
  exact (h.drop _).take _
def gSl (x : D) (lo hi : Option Int) : M D := match x with
  | .str z => do
    need (z.length ≤ sizeLine)
    pure (.str (cutS z lo hi))
  | .tup xs => pure (.tup (cutD xs lo hi))
  | x => do
    let xs ← rdL x
    pure (.fl (cutD xs lo hi))
def rSlM (K : PySem.W.Frag) : V → Option Int → Option Int → Hp → VK → Prop := fun x lo hi H Q => rSlS x lo hi H Q ∨ rSlA K x lo hi H Q ∨ rSlL K x lo hi H Q
theorem sl_M : SlR X (rSlM X.K) := sl_str.or (sl_tupA.or sl_list)
def eSl (r : Env → M D) (rl rh : Env → M (Option Int)) : Env → M D := fun env => r env >>= fun x => rl env >>= fun lo => rh env >>= fun hi => gSl x lo hi
theorem cut_whole {vs : List V} {lo hi : Option Int} (h : HT.sIx vs.length 0 lo = 0 ∧ HT.sIx vs.length vs.length hi = vs.length) : cutV vs lo hi = vs := by
  unfold cutV
  rw [h.1, h.2, List.drop_zero, Nat.sub_zero, List.take_length]
theorem slice_go {x : D} {v : V} {l u : Option Int} {m3 : Mp} {mu3 : List MO} {H3 : Hp} {Q : VK} (R3 : Rel X.K m3 mu3 H3) (rv3 : Rep X.K m3 H3 x v) (hp : Post X.K W m3 H3 (gSl x l u mu3) fun d m' _ H' => ∀ u, Rep X.K m' H' d u → Q u H') : rSlM X.K v l u H3 Q := by
    have lst : ∀ x, Rep X.K m3 H3 x v → Post X.K W m3 H3 ((do let xs ← rdL x; pure (D.fl (cutD xs l u))) mu3) (fun d m' _ H' => ∀ u, Rep X.K m' H' d u → Q u H') → rSlM X.K v l u H3 Q := fun x rv3 hp => by
      obtain ⟨a, xs, vs, rfl, hs, hr, _, hp⟩ := rdL_ok R3 rv3 (Post.bind hp)
      refine .inr (.inr ⟨a, vs, rfl, hs, fun p hn => ?_⟩)
      obtain ⟨g, R', rp⟩ := new_fl R3 (cut_rep (lo := l) (hi := u) hr) hn
      exact hp m3 _ g R' _ rp
    cases x
    case str z =>
      obtain ⟨c, hp⟩ := need_ok R3 (Post.bind hp)
      simp only [Rep] at rv3
      exact .inl ⟨z, rv3, c, Post.pure hp R3 _ (by simp only [Rep])⟩
    case tup xs =>
      simp only [Rep] at rv3
      obtain ⟨a, vs, rfl, hs, hr⟩ := rv3
      refine .inr (.inl ⟨a, vs, rfl, hs, fun hw => ?_, fun _ p hn => ?_⟩)
      · refine Post.pure hp R3 _ ?_
        simp only [Rep]
        exact ⟨a, vs, rfl, hs, by have q := cut_rep (lo := l) (hi := u) hr; rw [cut_whole hw] at q; exact q⟩
      · obtain ⟨g, R', rp⟩ := new_tup R3 (cut_rep (lo := l) (hi := u) hr) hn
        exact hp m3 _ g R' _ rp
    all_goals exact lst _ rv3 hp
theorem me_slice {p2 : Pos} {lo hi : Option Expr} {r : Env → M D} {rl rh : Env → M (Option Int)} (h : ME X W e r) (hl : MO_ X W lo rl) (hh : MO_ X W hi rh) : ME X W (.Subscript e (.Slice lo hi none p2) pos) (eSl r rl rh) := ⟨(pe_slice sl_M h.pe hl.po hh.po).imp fun σ H Q ⟨env, m, mu, hE, hR, hp⟩ =>
  ⟨env, m, mu, hE, hR, (Post.bind hp).mono fun x m1 mu1 H1 g1 R1 hpa v rv => ⟨env, m1, mu1, hE.grow g1, R1, (Post.bind hpa).mono fun l m2 mu2 H2 g2 R2 hpb => ⟨env, m2, mu2, (hE.grow g1).grow g2, R2, (Post.bind hpb).mono fun u m3 mu3 H3 g3 R3 hpc => slice_go R3 (Rep.grow g3 x v (Rep.grow g2 x v rv)) hpc⟩⟩⟩⟩
/-- .. of a list, as a new list -/
def fSl (r : Env → M D) (rl rh : Env → M (Option Int)) : Env → M (List D) := fun env => r env >>= fun x => rl env >>= fun lo => rh env >>= fun hi => rdL x >>= fun xs => pure (cutD xs lo hi)
theorem mf_slice {p2 : Pos} {lo hi : Option Expr} {r : Env → M D} {rl rh : Env → M (Option Int)} (h : ME X W e r) (hl : MO_ X W lo rl) (hh : MO_ X W hi rh) : MF X W (.Subscript e (.Slice lo hi none p2) pos) (fSl r rl rh) := ⟨(pe_slice sl_list h.pe hl.po hh.po).imp fun σ H Q ⟨env, m, mu, hE, hR, hp⟩ =>
  ⟨env, m, mu, hE, hR, (Post.bind hp).mono fun x m1 mu1 H1 g1 R1 hp v rv => ⟨env, m1, mu1, hE.grow g1, R1, (Post.bind hp).mono fun l m2 mu2 H2 g2 R2 hp => ⟨env, m2, mu2, (hE.grow g1).grow g2, R2, (Post.bind hp).mono fun u m3 mu3 H3 g3 R3 hp => by
    obtain ⟨a, xs, vs, rfl, hs, hr, _, hp⟩ := rdL_ok R3 (Rep.grow g3 x v (Rep.grow g2 x v rv)) (Post.bind hp)
    exact ⟨a, vs, rfl, hs, tF_new ((g1.trans g2).trans g3) R3 (cut_rep hr) hp⟩⟩⟩⟩⟩
/-- xs + ys, a new list -/
def fCat (ra rb : Env → M D) : Env → M (List D) := fun env => ra env >>= fun x => rb env >>= fun y => rdM x >>= fun xs => rdM y >>= fun ys => need (xs.length + ys.length ≤ sizeLine) >>= fun _ => pure (xs ++ ys)
theorem mf_cat {ra rb : Env → M D} (ha : ME X W a ra) (hb : ME X W b rb) : MF X W (.BinOp a .Add b pos) (fCat ra rb) := ⟨(pe_op op_cat ha.pe hb.pe).imp fun σ H Q ⟨env, m, mu, hE, hR, hp⟩ =>
  ⟨env, m, mu, hE, hR, (Post.bind hp).mono fun x m1 mu1 H1 g1 R1 hp1 v rv => ⟨env, m1, mu1, hE.grow g1, R1, (Post.bind hp1).mono fun y m2 mu2 H2 g2 R2 hp w rw' => by
    obtain ⟨a, xs, vs, rfl, ha, ra, ea, hp⟩ := rdM_ok R2 (Rep.grow g2 x v rv) (Post.bind hp)
    obtain ⟨b, ys, ws, rfl, hb, rb, eb, hp⟩ := rdM_ok R2 rw' (Post.bind hp)
    obtain ⟨c, hp⟩ := need_ok R2 (Post.bind hp)
    exact ⟨a, b, vs, ws, rfl, rfl, ha, hb, by rw [← ra.length, ← rb.length]; exact c, tF_new (g1.trans g2) R2 (ra.append rb) hp⟩⟩⟩⟩

/-! ### built-ins by their values -/
structure CallM (K : PySem.W.Frag) (W : Wx) (r : List V → Hp → VK → Prop) (g : List D → M D) : Prop where
  go : ∀ (ds : List D) (vs : List V) (m : Mp) (mu : List MO) (H : Hp) (Q : VK), Rel K m mu H → Reps K m H ds vs → Post K W m H (g ds mu) (fun d m' _ H' => ∀ u, Rep K m' H' d u → Q u H') → r vs H Q
theorem tCB_of {r : List V → Hp → VK → Prop} {g : List D → M D} {rs : Env → M (List D)} (c : CallM X.K W r g) : ∀ σ H Q, tE X.K W (aThen g rs) σ H Q → tCB r (tA X.K W rs) σ H Q := fun σ H Q ⟨env, m, mu, hE, hR, hp⟩ =>
  ⟨env, m, mu, hE, hR, (Post.bind hp).mono fun xs m1 mu1 H1 g1 R1 hp vs rv => c.go xs vs m1 mu1 H1 Q R1 rv hp⟩
/-- one argument -/
def g1 (g : D → M D) : List D → M D
  | [x] => g x
  | _ => bad
def g2 (g : D → D → M D) : List D → M D
  | [x, y] => g x y
  | _ => bad
theorem callM1 {r : List V → Hp → VK → Prop} {g : D → M D} {K : PySem.W.Frag} (h : ∀ (x : D) (v : V) (m : Mp) (mu : List MO) (H : Hp) (Q : VK), Rel K m mu H → Rep K m H x v → Post K W m H (g x mu) (fun d m' _ H' => ∀ u, Rep K m' H' d u → Q u H') → r [v] H Q) : CallM K W r (g1 g) := ⟨fun ds vs m mu H Q R hr hp => by
  match ds, hr, hp with
  | [x], hr, hp =>
    obtain ⟨v, r', rfl, h1, h2⟩ := Reps.cons_iff.mp hr
    rw [Reps.nil_iff] at h2
    subst h2
    exact h x v m mu H Q R h1 hp
  | [], _, hp => exact (show False from hp).elim
  | _ :: _ :: _, _, hp => exact (show False from hp).elim⟩
theorem callM2 {r : List V → Hp → VK → Prop} {g : D → D → M D} {K : PySem.W.Frag} (h : ∀ (x y : D) (v w : V) (m : Mp) (mu : List MO) (H : Hp) (Q : VK), Rel K m mu H → Rep K m H x v → Rep K m H y w → Post K W m H (g x y mu) (fun d m' _ H' => ∀ u, Rep K m' H' d u → Q u H') → r [v, w] H Q) : CallM K W r (g2 g) := ⟨fun ds vs m mu H Q R hr hp => by
  match ds, hr, hp with
  | [x, y], hr, hp =>
    obtain ⟨v, r', rfl, h1, h2⟩ := Reps.cons_iff.mp hr
    obtain ⟨w, r2, rfl, h3, h4⟩ := Reps.cons_iff.mp h2
    rw [Reps.nil_iff] at h4
    subst h4
    exact h x y v w m mu H Q R h1 h3 hp
  | [], _, hp => exact (show False from hp).elim
  | [_], _, hp => exact (show False from hp).elim
  | _ :: _ :: _ :: _, _, hp => exact (show False from hp).elim⟩
/-- len -/
def gLen : D → M D
  | .str z => do
    need (z.length ≤ sizeLine)
    pure (.int z.length)
  | .fd ks xs => pure (.int xs.length)
  | .ref n => fun mu => match mu[n]? with
    | some (.lst xs) => .ok (.int xs.length) mu
    | some (.dk kvs) => .ok (.int kvs.length) mu
    | none => .bad
  | x => do
    let xs ← rdQ x
    pure (.int xs.length)
def rLenM (K : PySem.W.Frag) : List V → Hp → VK → Prop := fun xs H Q => (∃ x n, xs = [x] ∧ LenV K x H n ∧ Q (.int n) H) ∨ ∃ a kvs, xs = [V.ref a] ∧ H a = some (.dK kvs) ∧ Q (.int kvs.length) H
theorem call_lenM : CallR X (.builtin "len") (rLenM X.K) := call_len.or call_lenD
theorem callM_len : CallM X.K W (rLenM X.K) (g1 gLen) := callM1 fun x v m mu H Q R hx hp => by
  have seq : ∀ x, Rep X.K m H x v → Post X.K W m H ((do let xs ← rdQ x; pure (D.int xs.length)) mu) (fun d m' _ H' => ∀ u, Rep X.K m' H' d u → Q u H') → rLenM X.K [v] H Q := fun x hx hp => by
    obtain ⟨a, xs, vs, rfl, hs, hr, hp⟩ := rdQ_ok R hx (Post.bind hp)
    refine .inl ⟨_, vs.length, rfl, ?_, ?_⟩
    · rcases hs with hs | hs
      · exact .inl ⟨vs, hs, rfl⟩
      · exact .inr ⟨vs, hs, rfl⟩
    · rw [← hr.length]
      exact Post.pure hp R _ (by simp only [Rep])
  cases x
  case str z =>
    obtain ⟨c, hp⟩ := need_ok R (Post.bind hp)
    simp only [Rep] at hx
    exact .inl ⟨v, z.length, rfl, by rw [hx]; exact ⟨c, rfl⟩, Post.pure hp R _ (by simp only [Rep])⟩
  case fd ks xs =>
    simp only [Rep] at hx
    obtain ⟨a, vs, rfl, hs, _, hl, hr⟩ := hx
    refine .inr ⟨a, _, rfl, hs, ?_⟩
    rw [List.length_zip, ← hr.length, hl, Nat.min_self]
    exact Post.pure hp R _ (by simp only [Rep])
  case ref n =>
    simp only [Rep] at hx
    obtain ⟨a, rfl, hm⟩ := hx
    obtain ⟨o, ho, hr⟩ := R.at' hm
    have e : gLen (.ref n) mu = (match mu[n]? with
      | some (.lst xs) => MP.R.ok (.int xs.length) mu
      | some (.dk kvs) => .ok (.int kvs.length) mu
      | none => .bad) := rfl
    rw [e, ho] at hp
    cases o with
    | lst xs =>
      obtain ⟨vs, hH, hr⟩ := hr
      refine .inl ⟨_, vs.length, rfl, .inl ⟨vs, .of hH, rfl⟩, ?_⟩
      rw [← hr.length]
      exact hp m H .refl R _ (by simp only [Rep])
    | dk kvs =>
      obtain ⟨vs, hH, hr⟩ := hr
      refine .inr ⟨a, _, rfl, hH, ?_⟩
      have := hr.length
      rw [List.length_map] at this
      rw [List.length_zip, List.length_map, ← this, Nat.min_self]
      exact hp m H .refl R _ (by simp only [Rep])
  all_goals exact seq _ hx hp
/-- abs, int -/
def gAbs (x : D) : M D := do
  let i ← toI x
  pure (.int (if i < 0 then -i else i))
theorem callM_abs : CallM X.K W (fun xs H Q => ∃ i, xs = [.int i] ∧ Q (.int (if i < 0 then -i else i)) H) (g1 gAbs) := callM1 fun x v m mu H Q R hx hp => by
  obtain ⟨i, rfl, rfl, hp⟩ := toI_ok R hx (Post.bind hp)
  exact ⟨i, rfl, Post.pure hp R _ (by simp only [Rep])⟩
def gInt : D → M D
  | .bl b => pure (.int (b2n b))
  | x => do
    let i ← toI x
    pure (.int i)
theorem callM_int : CallM X.K W (fun xs H Q => (∃ i, xs = [.int i] ∧ Q (.int i) H) ∨ ∃ k, xs = [.bl k] ∧ Q (.int (if k then 1 else 0)) H) (g1 gInt) := callM1 fun x v m mu H Q R hx hp => by
  have oth : ∀ x, Rep X.K m H x v → Post X.K W m H ((do let i ← toI x; pure (D.int i)) mu) (fun d m' _ H' => ∀ u, Rep X.K m' H' d u → Q u H') → (∃ i, [v] = [V.int i] ∧ Q (.int i) H) := fun x hx hp => by
    obtain ⟨i, rfl, rfl, hp⟩ := toI_ok R hx (Post.bind hp)
    exact ⟨i, rfl, Post.pure hp R _ (by simp only [Rep])⟩
  cases x
  case bl b =>
    simp only [Rep] at hx
    refine .inr ⟨b, by rw [hx], Post.pure hp R _ (by simp only [Rep]; cases b <;> rfl)⟩
  all_goals exact .inl (oth _ hx hp)
/-- tuple(x) of a list or a tuple -/
def gTuple (x : D) : M D := do
  let xs ← rdQ x
  pure (.tup xs)
theorem callM_tuple : CallM X.K W (fun xs H Q => ∃ p ys, xs = [.ref p] ∧ ((SqL X.K H p ys ∧ ∀ l, H l = none → Q (.ref l) (upd H l (.tup ys))) ∨ (SqT X.K H p ys ∧ Q (.ref p) H))) (g1 gTuple) := callM1 fun x v m mu H Q R hx hp => by
  obtain ⟨a, xs, vs, rfl, hs, hr, hp⟩ := rdQ_ok R hx (Post.bind hp)
  refine ⟨a, vs, rfl, ?_⟩
  rcases hs with hs | hs
  · refine .inl ⟨hs, fun p hn => ?_⟩
    obtain ⟨g, R', rp⟩ := new_tup R hr hn
    exact hp m _ g R' _ rp
  · exact .inr ⟨hs, Post.pure hp R _ (by simp only [Rep]; exact ⟨a, vs, rfl, hs, hr⟩)⟩
/-- list(x) -/
def fThen1 (g : D → M (List D)) (rs : Env → M (List D)) : Env → M (List D) := fun env => rs env >>= fun xs => match xs with
  | [x] => g x
  | _ => bad
theorem mf_list1 {rs : Env → M (List D)} {x : Str} (hg : Gl X x) (hm : X.mg x = none) (hv : bootBuiltins x = some (.type "list")) (h : MA X W (e :: es) rs) (hn : x ≠ "__name__" := by decide) (hdb : (x == ("__debug__" : Str)) = false := by decide)
    (he : starEach (e :: es) X.env = (false, eval e X.env) :: starEach es X.env := by rfl) (hpl : (backTo pos (starEach es X.env)).any (·.1) = false := by rfl) : MF X W (.Call (.Name x p) (e :: es) [] pos) (fThen1 rdQ rs) :=
  ⟨(pe_callTy call_list_of hg hm hv h.pa hn hdb he hpl).imp fun σ H Q ⟨env, m, mu, hE, hR, hp⟩ => ⟨env, m, mu, hE, hR, (Post.bind hp).mono fun xs m1 mu1 H1 g1 R1 hp vs rv => by
    match xs, rv, hp with
    | [x], rv, hp =>
      obtain ⟨v, r', rfl, h1, h2⟩ := Reps.cons_iff.mp rv
      rw [Reps.nil_iff] at h2
      subst h2
      have hp2 : Post X.K W m1 H1 ((rdQ x >>= fun ys => pure ys) mu1) fun ds m' mu' H' => NewL X.K H ds m' mu' H' Q := by
        have e : (rdQ x >>= fun ys => pure ys) mu1 = rdQ x mu1 := by rw [M.bind_def]; cases rdQ x mu1 <;> rfl
        rw [e]; exact hp
      obtain ⟨a, ys, vs, rfl, hs, hr, hp⟩ := rdQ_ok R1 h1 (Post.bind hp2)
      exact ⟨a, vs, rfl, hs, tF_new g1 R1 hr hp⟩
    | [], _, hp => exact (show False from hp).elim
    | _ :: _ :: _, _, hp => exact (show False from hp).elim⟩⟩
theorem me_callB {x : Str} {id : String} {r : List V → Hp → VK → Prop} {g : List D → M D} {rs : Env → M (List D)} (hc : CallR X (.builtin id) r) (c : CallM X.K W r g) (hg : Gl X x) (hm : X.mg x = none) (hv : bootBuiltins x = some (.builtin id)) (h : MA X W (e :: es) rs) (hn : x ≠ "__name__" := by decide) (hdb : (x == ("__debug__" : Str)) = false := by decide)
    (he : starEach (e :: es) X.env = (false, eval e X.env) :: starEach es X.env := by rfl) (hpl : (backTo pos (starEach es X.env)).any (·.1) = false := by rfl) : ME X W (.Call (.Name x p) (e :: es) [] pos) (aThen g rs) := ⟨(pe_callB hc hg hm hv h.pa hn hdb he hpl).imp (tCB_of c)⟩
theorem me_callTy {x : Str} {T : String} {r : List V → Hp → VK → Prop} {g : List D → M D} {rs : Env → M (List D)} (hc : CallR X (.type T) r) (c : CallM X.K W r g) (hg : Gl X x) (hm : X.mg x = none) (hv : bootBuiltins x = some (.type T)) (h : MA X W (e :: es) rs) (hn : x ≠ "__name__" := by decide) (hdb : (x == ("__debug__" : Str)) = false := by decide)
    (he : starEach (e :: es) X.env = (false, eval e X.env) :: starEach es X.env := by rfl) (hpl : (backTo pos (starEach es X.env)).any (·.1) = false := by rfl) : ME X W (.Call (.Name x p) (e :: es) [] pos) (aThen g rs) := ⟨(pe_callTy hc hg hm hv h.pa hn hdb he hpl).imp (tCB_of c)⟩
/-- all, any of a list of truth values -/
def toBs : List D → M (List Bool)
  | [] => pure []
  | x :: xs => toB x >>= fun b => toBs xs >>= fun bs => pure (b :: bs)
theorem toBs_ok {K : PySem.W.Frag} {m : Mp} {H : Hp} {mu : List MO} (R : Rel K m mu H) : ∀ {xs : List D} {vs : List V} {Q : List Bool → Mp → List MO → Hp → Prop}, Reps K m H xs vs → Post K W m H (toBs xs mu) Q → ∃ bs, vs = bs.map V.bl ∧ Q bs m mu H
  | [], vs, Q, h, hp => by rw [Reps.nil_iff] at h; subst h; exact ⟨[], rfl, Post.pure hp R⟩
  | x :: xs, vs, Q, h, hp => by
    obtain ⟨v, r, rfl, h1, h2⟩ := Reps.cons_iff.mp h
    obtain ⟨b, rfl, rfl, hp⟩ := toB_ok R h1 (Post.bind hp)
    obtain ⟨bs, rfl, hp⟩ := toBs_ok R h2 (Post.bind hp)
    exact ⟨b :: bs, rfl, Post.pure hp R⟩
def gAll (x : D) : M D := do
  let xs ← rdL x
  let bs ← toBs xs
  pure (.bl (bs.all id))
def gAny (x : D) : M D := do
  let xs ← rdL x
  let bs ← toBs xs
  pure (.bl (bs.any id))
theorem callM_all : CallM X.K W (rAll X.K) (g1 gAll) := callM1 fun x v m mu H Q R hx hp => by
  obtain ⟨a, xs, vs, rfl, hs, hr, _, hp⟩ := rdL_ok R hx (Post.bind hp)
  obtain ⟨bs, rfl, hp⟩ := toBs_ok R hr (Post.bind hp)
  exact ⟨a, bs, rfl, hs, Post.pure hp R _ (by simp only [Rep])⟩
theorem callM_any : CallM X.K W (rAny X.K) (g1 gAny) := callM1 fun x v m mu H Q R hx hp => by
  obtain ⟨a, xs, vs, rfl, hs, hr, _, hp⟩ := rdL_ok R hx (Post.bind hp)
  obtain ⟨bs, rfl, hp⟩ := toBs_ok R hr (Post.bind hp)
  exact ⟨a, bs, rfl, hs, Post.pure hp R _ (by simp only [Rep])⟩
/-- sum, max, min of a list of ints -/
def toIs : List D → M (List Int)
  | [] => pure []
  | x :: xs => toI x >>= fun b => toIs xs >>= fun bs => pure (b :: bs)
theorem toIs_ok {K : PySem.W.Frag} {m : Mp} {H : Hp} {mu : List MO} (R : Rel K m mu H) : ∀ {xs : List D} {vs : List V} {Q : List Int → Mp → List MO → Hp → Prop}, Reps K m H xs vs → Post K W m H (toIs xs mu) Q → ∃ bs, vs = bs.map V.int ∧ Q bs m mu H
  | [], vs, Q, h, hp => by rw [Reps.nil_iff] at h; subst h; exact ⟨[], rfl, Post.pure hp R⟩
  | x :: xs, vs, Q, h, hp => by
    obtain ⟨v, r, rfl, h1, h2⟩ := Reps.cons_iff.mp h
    obtain ⟨b, rfl, rfl, hp⟩ := toI_ok R h1 (Post.bind hp)
    obtain ⟨bs, rfl, hp⟩ := toIs_ok R h2 (Post.bind hp)
    exact ⟨b :: bs, rfl, Post.pure hp R⟩
def gSum (x : D) : M D := do
  let xs ← rdL x
  let bs ← toIs xs
  pure (.int bs.sum)
theorem callM_sum : CallM X.K W (rSum X.K) (g1 gSum) := callM1 fun x v m mu H Q R hx hp => by
  obtain ⟨a, xs, vs, rfl, hs, hr, _, hp⟩ := rdL_ok R hx (Post.bind hp)
  obtain ⟨bs, rfl, hp⟩ := toIs_ok R hr (Post.bind hp)
  exact ⟨a, bs, rfl, hs, Post.pure hp R _ (by simp only [Rep])⟩
/-- max, min of two ints -/
theorem callM_max2 : CallM X.K W (fun xs H Q => ∃ i j, xs = [.int i, .int j] ∧ Q (.int (if j > i then j else i)) H) (g2 (gII cAny fun i j => .int (if j > i then j else i))) := callM2 fun x y v w m mu H Q R hx hy hp => by
  obtain ⟨i, rfl, rfl, hp⟩ := toI_ok R hx (Post.bind hp)
  obtain ⟨j, rfl, rfl, hp⟩ := toI_ok R hy (Post.bind hp)
  obtain ⟨_, hp⟩ := need_ok R (Post.bind hp)
  exact ⟨i, j, rfl, Post.pure hp R _ (by simp only [Rep])⟩
theorem callM_min2 : CallM X.K W (fun xs H Q => ∃ i j, xs = [.int i, .int j] ∧ Q (.int (if j < i then j else i)) H) (g2 (gII cAny fun i j => .int (if j < i then j else i))) := callM2 fun x y v w m mu H Q R hx hy hp => by
  obtain ⟨i, rfl, rfl, hp⟩ := toI_ok R hx (Post.bind hp)
  obtain ⟨j, rfl, rfl, hp⟩ := toI_ok R hy (Post.bind hp)
  obtain ⟨_, hp⟩ := need_ok R (Post.bind hp)
  exact ⟨i, j, rfl, Post.pure hp R _ (by simp only [Rep])⟩
end
end MP
namespace MP
open PySem L2 PyProof.Rows
/-! ### what is walked -/
/-- at each turn the iterator gives the data in their order; g: a list of the small heap that must not change meanwhile -/
def ItOk (K : PySem.W.Frag) (g : List (Nat × List D)) (its : List D) (J : It) (m0 : Mp) (H0 : Hp) : Prop := ∀ (m : Mp) (mu : List MO) (H : Hp), Keep m0 m H0 H → Rel K m mu H → (∀ p ∈ g, mu[p.1]? = some (.lst p.2)) →
  (∀ i, its.length ≤ i → J.stop i H) ∧ ∀ (i : Nat) (d : D), its[i]? = some d → J.go i H ∧ ∀ x H', J.yld i H x H' → Grow m m H H' ∧ Rel K m mu H' ∧ Rep K m H' d x
/-- the items, and the lists of the small heap that are walked -/
abbrev Wk := List D × List (Nat × List D)
def tI (K : PySem.W.Frag) (W : Wx) (r : Env → M Wk) : TI := fun σ H R => ∃ env m mu, RepE K m H env σ ∧ Rel K m mu H ∧ Post K W m H (r env mu) fun p m' _ H' => p.1.length ≤ sizeLine → ∀ J, ItOk K p.2 p.1 J m' H' → R J H'
structure MI (X : Cx) (W : Wx) (tg iter : Expr) (r : Env → M Wk) : Prop where
  pi : PI X tg iter (tI X.K W r)
/-- sizes that hold wherever the abstract heap is held -/
def Sz (K : PySem.W.Frag) (H : Hp) : Prop := (∀ a xs, SqL K H a xs → xs.length ≤ sizeLine) ∧ ∀ a xs, SqT K H a xs → xs.length ≤ sizeLine
section
variable {X : Cx} {W : Wx} {e a b tg iter : Expr} {es : List Expr} {pos p : Pos}
theorem sz_of {pins : List (Addr × Obj)} {σ : L2.St} {H : Hp} {s : Shared} (I : Inv X pins σ H s) : Sz X.K H := ⟨fun a xs h => let ⟨_, _, _, z⟩ := I.list h; z, fun a xs h => let ⟨_, _, _, z⟩ := I.tuple h; z⟩
theorem pi_sz {t : TI} (h : PI X tg iter t) : PI X tg iter (fun σ H R => t σ H fun J H' => Sz X.K H' → R J H') := ⟨fun pins s σ H R I q =>
  thn (h.run pins s σ H _ I q) fun v s1 h1 => thn h1 fun itv s2 ⟨it, fp, tn, J, H', e, I2, T, st, f2, q2⟩ => ⟨it, fp, tn, J, H', e, I2, T, st, f2, q2 (sz_of I2)⟩⟩
theorem pe_sz {t : TE} (h : PE X e t) : PE X e (fun σ H Q => t σ H fun v H' => Sz X.K H' → Q v H') := ⟨fun pins s σ H Q I q =>
  thn (h.run pins s σ H _ I q) fun v s1 ⟨x, H1, I1, r, q1⟩ => ⟨x, H1, I1, r, q1 (sz_of I1)⟩⟩
theorem pi_imp {t t' : TI} (h : PI X tg iter t) (i : ∀ σ H R, t' σ H R → t σ H R) : PI X tg iter t' := ⟨fun pins s σ H R I q => h.run pins s σ H R I (i σ H R q)⟩
theorem pi_or {t t' : TI} (h : PI X tg iter t) (h' : PI X tg iter t') : PI X tg iter (fun σ H R => t σ H R ∨ t' σ H R) := ⟨fun pins s σ H R I q => q.elim (h.run pins s σ H R I) (h'.run pins s σ H R I)⟩
theorem itOk_list {K : PySem.W.Frag} {m0 : Mp} {H0 : Hp} {ds : List D} {vs : List V} {a : Addr} {g : List (Nat × List D)} (hk : ∀ (m : Mp) (mu : List MO) (H : Hp), Keep m0 m H0 H → Rel K m mu H → (∀ p ∈ g, mu[p.1]? = some (.lst p.2)) → ∃ vs, SqL K H a vs ∧ Reps K m H ds vs) : ItOk K g ds (Itl K a) m0 H0 := fun m mu H gr R hg => by
  obtain ⟨vs, hs, hr⟩ := hk m mu H gr R hg
  refine ⟨fun i hi => ⟨vs, hs, by rw [← hr.length]; exact hi⟩, fun i d hd => ?_⟩
  obtain ⟨v, hv, rv⟩ := hr.get hd
  refine ⟨⟨vs, v, hs, hv⟩, fun x H' y => ?_⟩
  obtain ⟨e, y⟩ := y
  subst e
  have e2 := y vs hs
  rw [hv] at e2
  cases e2
  exact ⟨.refl, R, rv⟩
theorem itOk_tup {K : PySem.W.Frag} {m0 : Mp} {H0 : Hp} {ds : List D} {vs : List V} {a : Addr} (hs : SqT K H0 a vs) (hr : Reps K m0 H0 ds vs) : ItOk K [] ds (Itt K a) m0 H0 := fun m mu H gr R hg => by
  have hs' := gr.sqT hs
  have hr' := Reps.keep gr ds vs hr
  refine ⟨fun i hi => ⟨vs, hs', by rw [← hr.length]; exact hi⟩, fun i d hd => ?_⟩
  obtain ⟨v, hv, rv⟩ := hr'.get hd
  refine ⟨⟨vs, v, hs', hv⟩, fun x H' y => ?_⟩
  obtain ⟨e, y⟩ := y
  subst e
  have e2 := y vs hs'
  rw [hv] at e2
  cases e2
  exact ⟨.refl, R, rv⟩
/-- the items of a walked thing -/
def walkD : D → M Wk
  | .tup xs => pure (xs, [])
  | .fl xs => pure (xs, [])
  | .ro xs => pure (xs, [])
  | .ref n => fun mu => match atL mu n with
    | .ok xs mu => .ok (xs, [(n, xs)]) mu
    | _ => .bad
  | .str z => do
    need (z.length ≤ sizeLine)
    pure (z.cps.toList.map fun c => D.str ⟨#[c]⟩, [])
  | _ => bad
def eWalk (r : Env → M D) : Env → M Wk := fun env => r env >>= walkD
theorem mi_seq {r : Env → M D} (h : ME X W iter r) : MI X W tg iter (eWalk r) := ⟨pi_imp (pi_sz (pi_or (pi_list h.pe) (pi_or (pi_tup h.pe) (pi_str h.pe)))) fun σ H Q ⟨env, m, mu, hE, hR, hp⟩ => by
  have e0 : eWalk r env mu = M.bind (r env) walkD mu := rfl
  rw [e0] at hp
  unfold M.bind at hp
  cases hr : r env mu with
  | exc x mu1 => rw [hr] at hp; exact .inl ⟨env, m, mu, hE, hR, by rw [hr]; exact hp⟩
  | bad => rw [hr] at hp; exact hp.elim
  | ok x mu1 =>
    rw [hr] at hp
    cases x
    case tup xs =>
      refine .inr (.inl ⟨env, m, mu, hE, hR, ?_⟩)
      rw [hr]
      intro m' H' g R v rv
      simp only [Rep] at rv
      obtain ⟨a, vs, rfl, hs, hq⟩ := rv
      refine ⟨a, rfl, ⟨vs, hs⟩, fun sz => hp m' H' g R (by show xs.length ≤ _; rw [hq.length]; exact sz.2 a vs hs) _ (itOk_tup hs hq)⟩
    case fl xs =>
      refine .inl ⟨env, m, mu, hE, hR, ?_⟩
      rw [hr]
      intro m' H' g R v rv
      simp only [Rep] at rv
      obtain ⟨a, vs, rfl, hs, hn, hq⟩ := rv
      exact ⟨a, rfl, ⟨vs, .of hs⟩, fun sz => hp m' H' g R (by show xs.length ≤ _; rw [hq.length]; exact sz.1 a vs (.of hs)) _ (itOk_list (vs := vs) (fun m mu H gr R hg => ⟨vs, .of (gr.fl a _ hs hn).1, Reps.keep gr xs vs hq⟩))⟩
    case ro xs =>
      refine .inl ⟨env, m, mu, hE, hR, ?_⟩
      rw [hr]
      intro m' H' g R v rv
      simp only [Rep] at rv
      obtain ⟨a, vs, rfl, hs, hq⟩ := rv
      exact ⟨a, rfl, ⟨vs, hs.sqL⟩, fun sz => hp m' H' g R (by show xs.length ≤ _; rw [hq.length]; exact sz.1 a vs hs.sqL) _ (itOk_list (vs := vs) (fun m mu H gr R hg => ⟨vs, (gr.roAt hs).sqL, Reps.keep gr xs vs hq⟩))⟩
    case ref n =>
      refine .inl ⟨env, m, mu, hE, hR, ?_⟩
      rw [hr]
      intro m' H' g R v rv
      simp only [Rep] at rv
      obtain ⟨a, rfl, hm⟩ := rv
      obtain ⟨o, ho, hro⟩ := R.at' hm
      have e1 : walkD (.ref n) mu1 = match atL mu1 n with
        | .ok xs mu => MP.R.ok (xs, [(n, xs)]) mu
        | _ => .bad := rfl
      have hp : Post X.K W m H (walkD (.ref n) mu1) fun p m' _ H' => p.1.length ≤ sizeLine → ∀ J, ItOk X.K p.2 p.1 J m' H' → Q J H' := hp
      rw [e1] at hp
      cases o with
      | dk kvs => rw [atL_dk ho] at hp; exact (show False from hp).elim
      | lst xs =>
        rw [atL_lst ho] at hp
        obtain ⟨vs, hH, hq⟩ := hro
        refine ⟨a, rfl, ⟨vs, .of hH⟩, fun sz => hp m' H' g R (by show xs.length ≤ _; rw [hq.length]; exact sz.1 a vs (.of hH)) _ (itOk_list (vs := vs) (fun m mu H gr R hg => ?_))⟩
        obtain ⟨ws, h1, h2⟩ := R.obj n _ a (hg (n, xs) (by simp)) (gr.get _ _ hm)
        exact ⟨ws, .of h1, h2⟩
    case str z =>
      refine .inr (.inr ⟨env, m, mu, hE, hR, ?_⟩)
      rw [hr]
      intro m' H' g R v rv
      simp only [Rep] at rv
      refine ⟨z, rv, fun sz => ?_⟩
      have hp : Post X.K W m H ((need (z.length ≤ sizeLine) >>= fun _ => (pure (z.cps.toList.map fun c => D.str ⟨#[c]⟩, []) : M Wk)) mu1) fun p m' _ H' => p.1.length ≤ sizeLine → ∀ J, ItOk X.K p.2 p.1 J m' H' → Q J H' := hp
      obtain ⟨hz, hp⟩ := need_ok R (Post.bind (hp.grow g))
      have ok : ItOk X.K [] (z.cps.toList.map fun c => D.str ⟨#[c]⟩) (Its z) m' H' := fun m2 mu2 H2 gr R2 hg => by
        refine ⟨fun i hi => by show z.cps.size ≤ i; simpa using hi, fun i d hd => ?_⟩
        rw [List.getElem?_map] at hd
        obtain ⟨c, hc, ed⟩ := Option.map_eq_some_iff.mp hd
        have hc' : z.cps[i]? = some c := by simpa using hc
        refine ⟨by show i < z.cps.size; exact (Array.getElem?_eq_some_iff.mp hc').1, fun x H' y => ?_⟩
        obtain ⟨e1, c2, h2, e2⟩ := y
        rw [hc'] at h2
        cases h2
        subst e1 e2 ed
        exact ⟨.refl, R2, by simp only [Rep]⟩
      exact Post.pure hp R (by show (z.cps.toList.map _).length ≤ _; rw [List.length_map, Array.length_toList]; exact hz) _ ok
    all_goals exact (show False from hp).elim⟩
/-- range(n), range(a, b) -/
def rngD (lo : Int) (n : Nat) : List D := (List.range n).map fun (i : Nat) => D.int (lo + (i : Int))
theorem itOk_range {K : PySem.W.Frag} {lo : Int} {n : Nat} {m0 : Mp} {H0 : Hp} : ItOk K [] (rngD lo n) (Itr lo n) m0 H0 := fun m mu H gr R hg => by
  refine ⟨fun i hi => by show n ≤ i; unfold rngD at hi; simpa using hi, fun i d hd => ?_⟩
  unfold rngD at hd
  rw [List.getElem?_map] at hd
  obtain ⟨c, hc, ed⟩ := Option.map_eq_some_iff.mp hd
  obtain ⟨hi, ei⟩ := List.getElem?_eq_some_iff.mp hc
  rw [List.getElem_range] at ei
  subst ei ed
  rw [List.length_range] at hi
  refine ⟨hi, fun x H' y => ?_⟩
  obtain ⟨e1, e2⟩ := y
  subst e1 e2
  exact ⟨.refl, R, by simp only [Rep]⟩
def wRng1 : List D → M Wk
  | [x] => do
    let n ← toI x
    need (-16777216 ≤ n ∧ n ≤ 16777216)
    pure (rngD 0 n.toNat, [])
  | _ => bad
def wRng2 : List D → M Wk
  | [x, y] => do
    let lo ← toI x
    let hi ← toI y
    need (-16777216 ≤ lo ∧ lo ≤ 16777216 ∧ -16777216 ≤ hi ∧ hi ≤ 16777216 ∧ hi - lo ≤ 16777216)
    pure (rngD lo (hi - lo).toNat, [])
  | _ => bad
def wThen (g : List D → M Wk) (rs : Env → M (List D)) : Env → M Wk := fun env => rs env >>= g
theorem rep1 {K : PySem.W.Frag} {m : Mp} {H : Hp} {x : D} {vs : List V} (h : Reps K m H [x] vs) : ∃ v, vs = [v] ∧ Rep K m H x v := by
  obtain ⟨v, r', rfl, h1, h2⟩ := Reps.cons_iff.mp h
  rw [Reps.nil_iff] at h2
  subst h2
  exact ⟨v, rfl, h1⟩
theorem rep2 {K : PySem.W.Frag} {m : Mp} {H : Hp} {x y : D} {vs : List V} (h : Reps K m H [x, y] vs) : ∃ v w, vs = [v, w] ∧ Rep K m H x v ∧ Rep K m H y w := by
  obtain ⟨v, r', rfl, h1, h2⟩ := Reps.cons_iff.mp h
  obtain ⟨w, rfl, h3⟩ := rep1 h2
  exact ⟨v, w, rfl, h1, h3⟩
theorem rngD_len (lo : Int) (n : Nat) : (rngD lo n).length = n := by unfold rngD; rw [List.length_map, List.length_range]
theorem mi_range1 {rs : Env → M (List D)} (hg : Gl X "range") (hm : X.mg "range" = none) (h : MA X W [a] rs) (hs : starEach [a] X.env = [(false, eval a X.env)] := by rfl) : MI X W tg (.Call (.Name "range" p) [a] [] pos) (wThen wRng1 rs) :=
  ⟨pi_imp (pi_range1 hg hm h.pa hs) fun σ H Q ⟨env, m, mu, hE, hR, hp⟩ => ⟨env, m, mu, hE, hR, (Post.bind hp).mono fun xs m1 mu1 H1 g1 R1 hp vs rv => by
    match xs, rv, hp with
    | [x], rv, hp =>
      obtain ⟨v, rfl, h1⟩ := rep1 rv
      obtain ⟨n, rfl, rfl, hp⟩ := toI_ok R1 h1 (Post.bind hp)
      obtain ⟨hc, hp⟩ := need_ok R1 (Post.bind hp)
      exact ⟨n, rfl, by omega, by omega, Post.pure hp R1 (by show (rngD 0 n.toNat).length ≤ _; rw [rngD_len, sizeLine_eq]; omega) _ itOk_range⟩
    | [], _, hp => exact (show False from hp).elim
    | _ :: _ :: _, _, hp => exact (show False from hp).elim⟩⟩
theorem mi_range2 {rs : Env → M (List D)} (hg : Gl X "range") (hm : X.mg "range" = none) (h : MA X W [a, b] rs) (hs : starEach [a, b] X.env = [(false, eval a X.env), (false, eval b X.env)] := by rfl) (hs2 : starEach [b] X.env = [(false, eval b X.env)] := by rfl) :
    MI X W tg (.Call (.Name "range" p) [a, b] [] pos) (wThen wRng2 rs) :=
  ⟨pi_imp (pi_range2 hg hm h.pa hs hs2) fun σ H Q ⟨env, m, mu, hE, hR, hp⟩ => ⟨env, m, mu, hE, hR, (Post.bind hp).mono fun xs m1 mu1 H1 g1 R1 hp vs rv => by
    match xs, rv, hp with
    | [x, y], rv, hp =>
      obtain ⟨v, w, rfl, h1, h2⟩ := rep2 rv
      obtain ⟨n, rfl, rfl, hp⟩ := toI_ok R1 h1 (Post.bind hp)
      obtain ⟨k, rfl, rfl, hp⟩ := toI_ok R1 h2 (Post.bind hp)
      obtain ⟨hc, hp⟩ := need_ok R1 (Post.bind hp)
      exact ⟨n, k, rfl, ⟨by omega, by omega, by omega, by omega⟩, Post.pure hp R1 (by show (rngD n (k - n).toNat).length ≤ _; rw [rngD_len, sizeLine_eq]; omega) _ itOk_range⟩
    | [], _, hp => exact (show False from hp).elim
    | [_], _, hp => exact (show False from hp).elim
    | _ :: _ :: _ :: _, _, hp => exact (show False from hp).elim⟩⟩
/-- enumerate(xs) -/
def enumD : Int → List D → List D
  | _, [] => []
  | k, d :: ds => .tup [.int k, d] :: enumD (k + 1) ds
theorem enumD_get : ∀ (ds : List D) (k : Int) (i : Nat), (enumD k ds)[i]? = (ds[i]?).map fun d => .tup [.int (k + (i : Int)), d]
  | [], _, _ => by simp [enumD]
  | d :: ds, k, 0 => by simp [enumD]
  | d :: ds, k, i + 1 => by
    simp only [enumD, List.getElem?_cons_succ]
    rw [enumD_get ds (k + 1) i]
    have e : k + 1 + (i : Int) = k + ((i + 1 : Nat) : Int) := by omega
    rw [e]
theorem enumD_len : ∀ (ds : List D) (k : Int), (enumD k ds).length = ds.length
  | [], _ => rfl
  | d :: ds, k => by simp only [enumD, List.length_cons]; rw [enumD_len ds]
/-- a list that is walked, at its address -/
def LsAt (K : PySem.W.Frag) (g : List (Nat × List D)) (ds : List D) (a : Addr) (m0 : Mp) (H0 : Hp) : Prop := ∀ (m : Mp) (mu : List MO) (H : Hp), Keep m0 m H0 H → Rel K m mu H → (∀ p ∈ g, mu[p.1]? = some (.lst p.2)) → ∃ vs, SqL K H a vs ∧ Reps K m H ds vs
/-- a list, and how it is held still -/
def rdW : D → M Wk
  | .fl xs => pure (xs, [])
  | .ro xs => pure (xs, [])
  | .ref n => fun mu => match atL mu n with
    | .ok xs mu => .ok (xs, [(n, xs)]) mu
    | _ => .bad
  | _ => bad
theorem rdW_ok {K : PySem.W.Frag} {W : Wx} {m : Mp} {H : Hp} {mu : List MO} {d : D} {v : V} {Q : Wk → Mp → List MO → Hp → Prop} (R : Rel K m mu H) (h : Rep K m H d v) (hp : Post K W m H (rdW d mu) Q) : ∃ a xs g vs, v = .ref a ∧ SqL K H a vs ∧ Reps K m H xs vs ∧ LsAt K g xs a m H ∧ Q (xs, g) m mu H := by
  cases d <;> simp only [Rep] at h
  case fl ds =>
    obtain ⟨a, vs, rfl, hs, hn, hr⟩ := h
    exact ⟨a, ds, [], vs, rfl, .of hs, hr, fun m2 mu2 H2 gr R2 _ => ⟨vs, .of (gr.fl a _ hs hn).1, Reps.keep gr ds vs hr⟩, hp m H .refl R⟩
  case ro ds =>
    obtain ⟨a, vs, rfl, hs, hr⟩ := h
    exact ⟨a, ds, [], vs, rfl, hs.sqL, hr, fun m2 mu2 H2 gr R2 _ => ⟨vs, (gr.roAt hs).sqL, Reps.keep gr ds vs hr⟩, hp m H .refl R⟩
  case ref n =>
    obtain ⟨a, rfl, hm⟩ := h
    obtain ⟨o, ho, hro⟩ := R.at' hm
    have e1 : rdW (.ref n) mu = match atL mu n with
      | .ok xs mu => MP.R.ok (xs, [(n, xs)]) mu
      | _ => .bad := rfl
    rw [e1] at hp
    cases o with
    | dk kvs => rw [atL_dk ho] at hp; exact (show False from hp).elim
    | lst xs =>
      rw [atL_lst ho] at hp
      obtain ⟨vs, hH, hq⟩ := hro
      refine ⟨a, xs, [(n, xs)], vs, rfl, .of hH, hq, fun m2 mu2 H2 gr R2 hg => ?_, hp m H .refl R⟩
      obtain ⟨ws, h1, h2⟩ := R2.obj n _ a (hg (n, xs) (by simp)) (gr.get _ _ hm)
      exact ⟨ws, .of h1, h2⟩
  all_goals exact (show False from hp).elim
theorem pairT {K : PySem.W.Frag} {m : Mp} {mu : List MO} {H : Hp} {x y : D} {v w : V} {T : Addr} (R : Rel K m mu H) (h1 : Rep K m H x v) (h2 : Rep K m H y w) (hn : H T = none) : Grow m m H (upd H T (.tup [v, w])) ∧ Rel K m mu (upd H T (.tup [v, w])) ∧ Rep K m (upd H T (.tup [v, w])) (.tup [x, y]) (.ref T) :=
  new_tup R (Reps.cons_iff.mpr ⟨v, [w], rfl, h1, Reps.one h2⟩) hn
theorem itOk_enum {K : PySem.W.Frag} {m0 : Mp} {H0 : Hp} {ds : List D} {a : Addr} {g : List (Nat × List D)} (hk : LsAt K g ds a m0 H0) : ItOk K g (enumD 0 ds) (Ite K a) m0 H0 := fun m mu H gr R hg => by
  obtain ⟨vs, hs, hr⟩ := hk m mu H gr R hg
  refine ⟨fun i hi => ⟨vs, hs, by rw [← hr.length, ← enumD_len ds 0]; exact hi⟩, fun i d hd => ?_⟩
  rw [enumD_get] at hd
  obtain ⟨x, hx, ed⟩ := Option.map_eq_some_iff.mp hd
  obtain ⟨v, hv, rv⟩ := hr.get hx
  refine ⟨⟨vs, v, hs, hv⟩, fun y H' yy => ?_⟩
  obtain ⟨T, z, rfl, hn, rfl, u⟩ := yy
  have e2 := u vs hs
  rw [hv] at e2
  cases e2
  subst ed
  rw [Int.zero_add]
  exact pairT R (by simp only [Rep]) rv hn
def wEnum : List D → M Wk
  | [x] => do
    let p ← rdW x
    pure (enumD 0 p.1, p.2)
  | _ => bad
theorem mi_enum {elts : List Expr} {kk : Nat} {tpos : Pos} {rs : Env → M (List D)} (hg : Gl X "enumerate") (hm : X.mg "enumerate" = none) (h : MA X W [a] rs) (hs : starEach [a] X.env = [(false, eval a X.env)] := by rfl) : MI X W (.Tuple elts kk tpos) (.Call (.Name "enumerate" p) [a] [] pos) (wThen wEnum rs) :=
  ⟨pi_imp (pi_sz (pi_enum hg hm h.pa hs)) fun σ H Q ⟨env, m, mu, hE, hR, hp⟩ => ⟨env, m, mu, hE, hR, (Post.bind hp).mono fun xs m1 mu1 H1 g1 R1 hp vs rv => by
    match xs, rv, hp with
    | [x], rv, hp =>
      obtain ⟨v, rfl, h1⟩ := rep1 rv
      obtain ⟨a, ds, g, vs, rfl, hs, hr, hk, hp⟩ := rdW_ok R1 h1 (Post.bind hp)
      exact ⟨a, vs, rfl, hs, fun sz => Post.pure hp R1 (by show (enumD 0 ds).length ≤ _; rw [enumD_len, hr.length]; exact sz.1 a vs hs) _ (itOk_enum hk)⟩
    | [], _, hp => exact (show False from hp).elim
    | _ :: _ :: _, _, hp => exact (show False from hp).elim⟩⟩
/-- zip(xs, ys): two lists, or two tuples -/
def zipD (xs ys : List D) : List D := List.zipWith (fun x y => .tup [x, y]) xs ys
theorem zipD_len (xs ys : List D) : (zipD xs ys).length = min xs.length ys.length := by unfold zipD; rw [List.length_zipWith]
theorem zipD_get {xs ys : List D} {i : Nat} {d : D} (h : (zipD xs ys)[i]? = some d) : ∃ x y, xs[i]? = some x ∧ ys[i]? = some y ∧ d = .tup [x, y] := by
  unfold zipD at h
  rw [List.getElem?_zipWith] at h
  cases ex : xs[i]? with
  | none => rw [ex] at h; simp at h
  | some x =>
    cases ey : ys[i]? with
    | none => rw [ex, ey] at h; simp at h
    | some y => rw [ex, ey] at h; simp at h; exact ⟨x, y, rfl, rfl, h.symm⟩
theorem itOk_zip {K : PySem.W.Frag} {m0 : Mp} {H0 : Hp} {ds es : List D} {a b : Addr} {g g' : List (Nat × List D)} (hk : LsAt K g ds a m0 H0) (hk' : LsAt K g' es b m0 H0) : ItOk K (g ++ g') (zipD ds es) (Itz K a b) m0 H0 := fun m mu H gr R hg => by
  obtain ⟨vs, hs, hr⟩ := hk m mu H gr R fun p hp => hg p (List.mem_append_left _ hp)
  obtain ⟨ws, hs', hr'⟩ := hk' m mu H gr R fun p hp => hg p (List.mem_append_right _ hp)
  refine ⟨fun i hi => ⟨vs, ws, hs, hs', by rw [← hr.length, ← hr'.length]; rw [zipD_len] at hi; omega⟩, fun i d hd => ?_⟩
  obtain ⟨x, y, hx, hy, rfl⟩ := zipD_get hd
  obtain ⟨v, hv, rv⟩ := hr.get hx
  obtain ⟨w, hw, rw'⟩ := hr'.get hy
  refine ⟨⟨vs, ws, v, w, hs, hs', hv, hw⟩, fun z H' yy => ?_⟩
  obtain ⟨T, x2, y2, rfl, hn, rfl, u, u'⟩ := yy
  have e2 := u vs hs
  rw [hv] at e2
  cases e2
  have e3 := u' ws hs'
  rw [hw] at e3
  cases e3
  exact pairT R rv rw' hn
theorem itOk_zipT {K : PySem.W.Frag} {m0 : Mp} {H0 : Hp} {ds es : List D} {vs ws : List V} {a b : Addr} (hs0 : SqT K H0 a vs) (hr0 : Reps K m0 H0 ds vs) (hs0' : SqT K H0 b ws) (hr0' : Reps K m0 H0 es ws) : ItOk K [] (zipD ds es) (RZ.ItzT K a b) m0 H0 := fun m mu H gr R hg => by
  have hs := gr.sqT hs0
  have hr := Reps.keep gr _ _ hr0
  have hs' := gr.sqT hs0'
  have hr' := Reps.keep gr _ _ hr0'
  refine ⟨fun i hi => ⟨vs, ws, hs, hs', by rw [← hr.length, ← hr'.length]; rw [zipD_len] at hi; omega⟩, fun i d hd => ?_⟩
  obtain ⟨x, y, hx, hy, rfl⟩ := zipD_get hd
  obtain ⟨v, hv, rv⟩ := hr.get hx
  obtain ⟨w, hw, rw'⟩ := hr'.get hy
  refine ⟨⟨vs, ws, v, w, hs, hs', hv, hw⟩, fun z H' yy => ?_⟩
  obtain ⟨T, x2, y2, rfl, hn, rfl, u, u'⟩ := yy
  have e2 := u vs hs
  rw [hv] at e2
  cases e2
  have e3 := u' ws hs'
  rw [hw] at e3
  cases e3
  exact pairT R rv rw' hn
def zip2 : D → D → M Wk
  | .tup xs, y => do
    let ys ← toT y
    pure (zipD xs ys, [])
  | x, y => do
    let p ← rdW x
    let q ← rdW y
    pure (zipD p.1 q.1, p.2 ++ q.2)
def wZip : List D → M Wk
  | [x, y] => zip2 x y
  | _ => bad
theorem mi_zip {elts : List Expr} {kk : Nat} {tpos : Pos} {rs : Env → M (List D)} (hg : Gl X "zip") (hm : X.mg "zip" = none) (h : MA X W [a, b] rs) (hs : starEach [a, b] X.env = (false, eval a X.env) :: starEach [b] X.env := by rfl) (hpl : (backTo pos (starEach [b] X.env)).any (·.1) = false := by rfl) :
    MI X W (.Tuple elts kk tpos) (.Call (.Name "zip" p) [a, b] [] pos) (wThen wZip rs) :=
  ⟨pi_imp (pi_sz (RZ.pi_zipA hg hm h.pa hs hpl)) fun σ H Q ⟨env, m, mu, hE, hR, hp⟩ => ⟨env, m, mu, hE, hR, (Post.bind hp).mono fun xs m1 mu1 H1 g1 R1 hp vs rv => by
    match xs, rv, hp with
    | [x, y], rv, hp =>
      obtain ⟨v, w, rfl, h1, h2⟩ := rep2 rv
      have lst : ∀ x, Rep X.K m1 H1 x v → Post X.K W m1 H1 ((do let p ← rdW x; let q ← rdW y; pure (zipD p.1 q.1, p.2 ++ q.2)) mu1) (fun (p : Wk) m' _ H' => p.1.length ≤ sizeLine → ∀ J, ItOk X.K p.2 p.1 J m' H' → Q J H') → ∃ a b xs ys, [v, w] = [V.ref a, V.ref b] ∧ ((SqL X.K H1 a xs ∧ SqL X.K H1 b ys ∧ (Sz X.K H1 → Q (Itz X.K a b) H1)) ∨ (SqT X.K H1 a xs ∧ SqT X.K H1 b ys ∧ (Sz X.K H1 → Q (RZ.ItzT X.K a b) H1))) := fun x h1 hp => by
        obtain ⟨a, ds, g, vs, rfl, hs, hr, hk, hp⟩ := rdW_ok R1 h1 (Post.bind hp)
        obtain ⟨b, es, g', ws, rfl, hs', hr', hk', hp⟩ := rdW_ok R1 h2 (Post.bind hp)
        exact ⟨a, b, vs, ws, rfl, .inl ⟨hs, hs', fun sz => Post.pure hp R1 (by show (zipD ds es).length ≤ _; have := sz.1 a vs hs; rw [zipD_len, hr.length]; omega) _ (itOk_zip hk hk')⟩⟩
      cases x
      case tup xs =>
        obtain ⟨ys, b, ws, rfl, rfl, hs', hr', hp⟩ := toT_ok R1 h2 (Post.bind hp)
        simp only [Rep] at h1
        obtain ⟨a, vs, rfl, hs, hr⟩ := h1
        exact ⟨a, b, vs, ws, rfl, .inr ⟨hs, hs', fun sz => Post.pure hp R1 (by show (zipD xs ys).length ≤ _; have := sz.2 a vs hs; rw [zipD_len, hr.length]; omega) _ (itOk_zipT hs hr hs' hr')⟩⟩
      all_goals exact lst _ h1 hp
    | [], _, hp => exact (show False from hp).elim
    | [_], _, hp => exact (show False from hp).elim
    | _ :: _ :: _ :: _, _, hp => exact (show False from hp).elim⟩⟩
end
end MP
namespace MP
open PySem L2 PyProof.Rows
/-! ### targets -/
/-- the slots outside of l are as they were -/
def Off (l : List Nat) (σ' σ : L2.St) : Prop := σ'.length = σ.length ∧ ∀ i, i ∉ l → σ'[i]? = σ[i]?
def tG (K : PySem.W.Frag) (W : Wx) (l : List Nat) (asg : D → Env → M Env) : TG := fun v σ H Q => ∃ d env m mu, RepE K m H env σ ∧ Rel K m mu H ∧ Rep K m H d v ∧ Post K W m H (asg d env mu) fun env' m' _ H' => ∀ σ', RepE K m' H' env' σ' → Off l σ' σ → Q σ' H'
def tGs (K : PySem.W.Frag) (W : Wx) (l : List Nat) (asg : List D → Env → M Env) : TGs := fun vs σ H Q => ∃ ds env m mu, RepE K m H env σ ∧ Rel K m mu H ∧ Reps K m H ds vs ∧ Post K W m H (asg ds env mu) fun env' m' _ H' => ∀ σ', RepE K m' H' env' σ' → Off l σ' σ → Q σ' H'
structure MG (X : Cx) (W : Wx) (tg : Expr) (l : List Nat) (asg : D → Env → M Env) : Prop where
  pg : PG X tg (tG X.K W l asg)
structure MGs (X : Cx) (W : Wx) (tg : List Expr) (l : List Nat) (asg : List D → Env → M Env) : Prop where
  pg : PGs X tg (tGs X.K W l asg)
section
variable {X : Cx} {W : Wx} {e a b tg iter : Expr} {es : List Expr} {pos p : Pos}
theorem Off.refl {l : List Nat} {σ : L2.St} : Off l σ σ := ⟨rfl, fun _ _ => rfl⟩
theorem Off.trans {l l' : List Nat} {σ σ1 σ2 : L2.St} (h : Off l σ1 σ) (h' : Off l' σ2 σ1) : Off (l ++ l') σ2 σ := ⟨h'.1.trans h.1, fun i hi => by
  rw [List.mem_append, not_or] at hi
  rw [h'.2 i hi.2, h.2 i hi.1]⟩
theorem _root_.L2.PG.imp {t t' : TG} (h : PG X tg t) (i : ∀ v σ H Q, t' v σ H Q → t v σ H Q) : PG X tg t' := ⟨fun pins s σ H v u Q I r q => h.run pins s σ H v u Q I r (i v σ H Q q)⟩
theorem _root_.L2.PGs.imp {ts : List Expr} {t t' : TGs} (h : PGs X ts t) (i : ∀ v σ H Q, t' v σ H Q → t v σ H Q) : PGs X ts t' := ⟨fun pins s σ H v u Q I r q => h.run pins s σ H v u Q I r (i v σ H Q q)⟩
def asgN (i : Nat) : D → Env → M Env := fun d env => pure (env.set i (some d))
theorem mg_of {i : Nat} (h : PG X tg (gName i)) : MG X W tg [i] (asgN i) := ⟨h.imp fun v σ H Q ⟨d, env, m, mu, hE, hR, hd, hp⟩ =>
  Post.pure hp hR _ (hE.set hd) ⟨by rw [List.length_set], fun j hj => by rw [List.getElem?_set_ne (fun z => hj (by rw [z]; exact List.mem_singleton.mpr rfl))]⟩⟩
def asgNil : List D → Env → M Env := fun ds env => match ds with
  | [] => pure env
  | _ => bad
def asgCons (f : D → Env → M Env) (g : List D → Env → M Env) : List D → Env → M Env := fun ds env => match ds with
  | d :: ds => f d env >>= fun env' => g ds env'
  | [] => bad
theorem mgs_nil : MGs X W [] [] asgNil := ⟨pgs_nil.imp fun vs σ H Q ⟨ds, env, m, mu, hE, hR, hd, hp⟩ => by
  match ds, hd, hp with
  | [], hd, hp =>
    rw [Reps.nil_iff] at hd
    exact ⟨hd, Post.pure hp hR _ hE .refl⟩
  | _ :: _, _, hp => exact (show False from hp).elim⟩
theorem mgs_cons {l l' : List Nat} {f : D → Env → M Env} {g : List D → Env → M Env} (h : MG X W e l f) (h' : MGs X W es l' g) (hs : (assignEach (e :: es) X.env).map (·.2) = assign e X.env :: (assignEach es X.env).map (·.2) := by rfl) : MGs X W (e :: es) (l ++ l') (asgCons f g) :=
  ⟨(pgs_cons h.pg h'.pg hs).imp fun vs σ H Q ⟨ds, env, m, mu, hE, hR, hd, hp⟩ => by
    match ds, hd, hp with
    | [], _, hp => exact (show False from hp).elim
    | d :: ds, hd, hp =>
      obtain ⟨v, r, rfl, h1, h2⟩ := Reps.cons_iff.mp hd
      exact ⟨v, r, rfl, d, env, m, mu, hE, hR, h1, (Post.bind hp).mono fun env1 m1 mu1 H1 g1 R1 hp σ1 hE1 o1 =>
        ⟨ds, env1, m1, mu1, hE1, R1, Reps.grow g1 ds r h2, hp.mono fun env2 m2 mu2 H2 g2 R2 hq σ2 hE2 o2 => hq σ2 hE2 (o1.trans o2)⟩⟩⟩
def asgT (n : Nat) (g : List D → Env → M Env) : D → Env → M Env := fun d env => toT d >>= fun xs => need (xs.length = n) >>= fun _ => g xs env
theorem mg_tup {k : Nat} {l : List Nat} {g : List D → Env → M Env} {n : Nat} (hc : X.calm = true) (h : MGs X W es l g) (hn : (assignEach es X.env).length = n := by rfl) (hst : (assignEach es X.env).findIdx? (·.1) = none := by rfl) : MG X W (.Tuple es k pos) l (asgT n g) :=
  ⟨(pg_tup hc h.pg hn hst).imp fun v σ H Q ⟨d, env, m, mu, hE, hR, hd, hp⟩ => by
    obtain ⟨xs, a, vs, rfl, rfl, hs, hr, hp⟩ := toT_ok hR hd (Post.bind hp)
    obtain ⟨c, hp⟩ := need_ok hR (Post.bind hp)
    exact ⟨a, vs, rfl, hs, by rw [← hr.length]; exact c, xs, env, m, mu, hE, hR, hr, hp⟩⟩
theorem mg_par {l : List Nat} {g : D → Env → M Env} (h : MG X W tg l g) : MG X W tg l g := h

/-! ### loops -/
open Classical in
/-- the walked lists stand as they stood -/
noncomputable def chk (g : List (Nat × List D)) : M Unit := fun mu => if ∀ p ∈ g, mu[p.1]? = some (.lst p.2) then .ok () mu else .bad
theorem chk_ok {K : PySem.W.Frag} {m : Mp} {H : Hp} {mu : List MO} {g : List (Nat × List D)} {Q : Unit → Mp → List MO → Hp → Prop} (R : Rel K m mu H) (hp : Post K W m H (chk g mu) Q) : (∀ p ∈ g, mu[p.1]? = some (.lst p.2)) ∧ Q () m mu H := by
  unfold chk at hp
  split at hp
  · rename_i h
    exact ⟨h, hp m H .refl R⟩
  · exact (show False from hp).elim
/-- for: over the items; fg: the slots that are forgotten ahead of each turn and behind the loop -/
noncomputable def loopF (asg : D → Env → M Env) (body : Env → M Fl) (fg : List Nat) (g : List (Nat × List D)) : List D → Env → M Fl
  | [], env => chk g >>= fun _ => pure (.nx (wipeE env fg))
  | d :: ds, env => chk g >>= fun _ => asg d (wipeE env fg) >>= fun env1 => body env1 >>= fun fl => match fl with
    | .nx e => loopF asg body fg g ds e
    | .ct e => loopF asg body fg g ds e
    | .bk e => pure (.nx (wipeE e fg))
    | .rt rv => pure (.rt rv)
noncomputable def sFor (r : Env → M Wk) (asg : D → Env → M Env) (body : Env → M Fl) (fg : List Nat) : Env → M Fl := fun env => r env >>= fun p => loopF asg body fg p.2 p.1 env
theorem FlQ.from {K : PySem.W.Frag} {D : Ends} {m m1 m' : Mp} {H H1 H' : Hp} {mu' : List MO} {fl : Fl} (h : FlQ K D H fl m' mu' H') (g : Grow m m1 H H1) : FlQ K D H1 fl m' mu' H' := by
  cases fl with
  | rt rv => exact RvQ.from h g
  | nx e => exact h
  | bk e => exact h
  | ct e => exact h
theorem ms_for {fg l : List Nat} {r : Env → M Wk} {asg : D → Env → M Env} {body : List Stmt} {rb : Env → M Fl} (hp : PassesOwn (model X.prog X.w) X.A X.env X.xe) (hc : X.calm = true) (hi : MI X W tg iter r) (hg : MG X W tg l asg) (hb : MSs X W body rb)
    (hs : ∀ x, foldedSetIterable iter X.env x = pure x := by intro _; rfl) : MS X W (.For tg iter body [] pos) (sFor r asg rb fg) := ⟨(ps_for hp hc hi.pi hg.pg hb.ps hs).imp fun D σ H ⟨env, m, mu, hE, hR, hp⟩ =>
  ⟨env, m, mu, hE, hR, (Post.bind hp).mono fun p m1 mu1 H1 g1 R1 hp _ J ok => by
    refine ⟨fun i k σ2 H2 => ∃ rest env2 m2 mu2, k = rest.length ∧ p.1.drop i = rest ∧ RepE X.K m2 H2 env2 σ2 ∧ Rel X.K m2 mu2 H2 ∧ Grow m1 m2 H1 H2 ∧ Post X.K W m2 H2 (loopF asg rb fg p.2 rest env2 mu2) fun fl m' mu' H' => FlQ X.K D H fl m' mu' H', ⟨_, p.1, env, m1, mu1, rfl, rfl, hE.grow g1, R1, .refl, hp⟩, ?_⟩
    rintro i k σ2 H2 ⟨rest, env2, m2, mu2, rfl, hd, hE2, R2, g2, hp2⟩
    cases rest with
    | nil =>
      obtain ⟨hch, hp2⟩ := chk_ok R2 (Post.bind hp2)
      have q := Post.pure hp2 R2
      refine .inl ⟨((ok m2 mu2 H2 g2.keep R2 hch).1 i) (by rw [List.drop_eq_nil_iff] at hd; exact hd), q σ2 (hE2.wipeL fg)⟩
    | cons d ds =>
      obtain ⟨hch, hp2⟩ := chk_ok R2 (Post.bind hp2)
      have hdi : p.1[i]? = some d := by
        have e : (p.1.drop i)[0]? = some d := by rw [hd]; rfl
        rw [List.getElem?_drop] at e
        simpa using e
      have hds : p.1.drop (i + 1) = ds := by
        have e := congrArg List.tail hd
        rw [List.tail_drop] at e
        exact e
      obtain ⟨go, yl⟩ := (ok m2 mu2 H2 g2.keep R2 hch).2 i d hdi
      refine .inr ⟨go, fun σ3 H3 => ∃ env3 m3 mu3, RepE X.K m3 H3 env3 σ3 ∧ Rel X.K m3 mu3 H3 ∧ Grow m1 m3 H1 H3 ∧ Post X.K W m3 H3 (loopF asg rb fg p.2 ds env3 mu3) fun fl m' mu' H' => FlQ X.K D H fl m' mu' H',
        fun σ3 H3 ⟨env3, m3, mu3, hE3, R3, g3, hp3⟩ => ⟨ds.length, Nat.lt_succ_self _, ds, env3, m3, mu3, rfl, hds, hE3, R3, g3, hp3⟩, fun x H3 y => ?_⟩
      obtain ⟨gy, Ry, rx⟩ := yl x H3 y
      refine ⟨d, wipeE env2 fg, m2, mu2, (hE2.grow gy).wipeL fg, Ry, rx, (Post.bind (hp2.grow gy)).mono fun env4 m4 mu4 H4 g4 R4 hp4 σ4 hE4 _ => ⟨env4, m4, mu4, hE4, R4, ?_⟩⟩
      have e0 : (rb env4 >>= fun fl => match fl with
        | .nx e => loopF asg rb fg p.2 ds e
        | .ct e => loopF asg rb fg p.2 ds e
        | .bk e => pure (.nx (wipeE e fg))
        | .rt rv => pure (.rt rv)) mu4 = M.bind (rb env4) _ mu4 := rfl
      rw [e0] at hp4
      unfold M.bind at hp4
      cases hr : rb env4 mu4 with
      | bad => rw [hr] at hp4; exact hp4
      | exc x mu5 => rw [hr] at hp4; exact hp4
      | ok fl mu5 =>
        rw [hr] at hp4
        intro m5 H5 g5 R5
        cases fl with
        | nx e => exact fun σ5 hE5 => ⟨e, m5, mu5, hE5, R5, (((g2.trans gy).trans g4).trans g5), hp4.grow g5⟩
        | ct e => exact fun σ5 hE5 => ⟨e, m5, mu5, hE5, R5, (((g2.trans gy).trans g4).trans g5), hp4.grow g5⟩
        | bk e => exact fun σ5 hE5 => (hp4 m5 H5 g5 R5) σ5 (hE5.wipeL fg)
        | rt rv => exact RvQ.from (hp4 m5 H5 g5 R5) ((g1.trans (g2.trans gy)).trans g4)⟩⟩
end
end MP
namespace MP
open PySem L2 PyProof.Rows
section
variable {X : Cx} {W : Wx} {e a b tg iter : Expr} {es : List Expr} {pos p : Pos} {st : Stmt} {rest : List Stmt}
/-! ### while -/
/-- a lid on the turns; never reckoned with -/
def lid : Nat := 10 ^ 12
def loopW (c : Env → M Bool) (body : Env → M Fl) (fg : List Nat) : Nat → Env → M Fl
  | 0, _ => bad
  | n + 1, env => c (wipeE env fg) >>= fun b => if b = true then (body (wipeE env fg) >>= fun fl => match fl with
    | .nx e => loopW c body fg n e
    | .ct e => loopW c body fg n e
    | .bk e => pure (.nx (wipeE e fg))
    | .rt rv => pure (.rt rv)) else pure (.nx (wipeE env fg))
def sWhile (c : Env → M Bool) (body : Env → M Fl) (fg : List Nat) : Env → M Fl := fun env => loopW c body fg lid env
theorem ms_while {fg : List Nat} {c : Expr} {body : List Stmt} {rc : Env → M Bool} {rb : Env → M Fl} (hp : PassesOwn (model X.prog X.w) X.A X.env X.xe) (hc : MT X W c rc) (hb : MSs X W body rb) : MS X W (.While c body [] pos) (sWhile rc rb fg) := ⟨(ps_while hp hc.pt hb.ps).imp fun D σ H ⟨env, m, mu, hE, hR, hp⟩ => by
  refine ⟨fun k σ2 H2 => ∃ env2 m2 mu2, RepE X.K m2 H2 env2 σ2 ∧ Rel X.K m2 mu2 H2 ∧ Grow m m2 H H2 ∧ Post X.K W m2 H2 (loopW rc rb fg k env2 mu2) fun fl m' mu' H' => FlQ X.K D H fl m' mu' H', ⟨_, env, m, mu, hE, hR, .refl, hp⟩, ?_⟩
  rintro k σ2 H2 ⟨env2, m2, mu2, hE2, R2, g2, hp2⟩
  cases k with
  | zero => exact (show False from hp2).elim
  | succ k =>
    refine ⟨wipeE env2 fg, m2, mu2, hE2.wipeL fg, R2, (Post.bind hp2).mono fun b m3 mu3 H3 g3 R3 hp3 => ?_⟩
    cases b with
    | false =>
      rw [if_neg Bool.false_ne_true]
      exact (Post.pure hp3 R3) σ2 ((hE2.grow g3).wipeL fg)
    | true =>
      rw [if_pos rfl]
      rw [if_pos rfl] at hp3
      refine ⟨fun σ5 H5 => ∃ env5 m5 mu5, RepE X.K m5 H5 env5 σ5 ∧ Rel X.K m5 mu5 H5 ∧ Grow m m5 H H5 ∧ Post X.K W m5 H5 (loopW rc rb fg k env5 mu5) fun fl m' mu' H' => FlQ X.K D H fl m' mu' H',
        fun σ5 H5 h => ⟨k, Nat.lt_succ_self _, h⟩, wipeE env2 fg, m3, mu3, (hE2.grow g3).wipeL fg, R3, ?_⟩
      have e0 : (rb (wipeE env2 fg) >>= fun fl => match fl with
        | .nx e => loopW rc rb fg k e
        | .ct e => loopW rc rb fg k e
        | .bk e => pure (.nx (wipeE e fg))
        | .rt rv => pure (.rt rv)) mu3 = M.bind (rb (wipeE env2 fg)) _ mu3 := rfl
      rw [e0] at hp3
      unfold M.bind at hp3
      cases hr : rb (wipeE env2 fg) mu3 with
      | bad => rw [hr] at hp3; exact hp3
      | exc x mu5 => rw [hr] at hp3; exact hp3
      | ok fl mu5 =>
        rw [hr] at hp3
        intro m5 H5 g5 R5
        cases fl with
        | nx e => exact fun σ5 hE5 => ⟨e, m5, mu5, hE5, R5, (g2.trans g3).trans g5, hp3.grow g5⟩
        | ct e => exact fun σ5 hE5 => ⟨e, m5, mu5, hE5, R5, (g2.trans g3).trans g5, hp3.grow g5⟩
        | bk e => exact fun σ5 hE5 => (hp3 m5 H5 g5 R5) σ5 (hE5.wipeL fg)
        | rt rv => exact RvQ.from (hp3 m5 H5 g5 R5) (g2.trans g3)⟩

/-! ### small statements -/
def sNext : Env → M Fl := fun env => pure (.nx env)
def sSeq (r r' : Env → M Fl) : Env → M Fl := fun env => r env >>= fun fl => match fl with
  | .nx e => r' e
  | fl => pure fl
theorem mss_nil : MSs X W [] sNext := ⟨pss_nil.imp fun D σ H ⟨env, m, mu, hE, hR, hp⟩ => Post.pure hp hR σ hE⟩
theorem mss_one {r : Env → M Fl} (h : MS X W st r) : MSs X W [st] r := ⟨pss_one h.ps⟩
theorem mss_cons {r r' : Env → M Fl} (h : MS X W st r) (h' : MSs X W rest r') : MSs X W (st :: rest) (sSeq r r') := ⟨(pss_cons h.ps h'.ps).imp fun D σ H ⟨env, m, mu, hE, hR, hp⟩ => by
  refine ⟨env, m, mu, hE, hR, ?_⟩
  have e0 : sSeq r r' env mu = M.bind (r env) (fun fl => match fl with
    | .nx e => r' e
    | fl => pure fl) mu := rfl
  rw [e0] at hp
  unfold M.bind at hp
  cases hr : r env mu with
  | bad => rw [hr] at hp; exact hp
  | exc x mu5 => rw [hr] at hp; exact hp
  | ok fl mu5 =>
    rw [hr] at hp
    intro m5 H5 g5 R5
    cases fl with
    | nx e => exact fun σ5 hE5 => ⟨e, m5, mu5, hE5, R5, (hp.grow g5).mono fun fl m' mu' H' _ _ q => FlQ.from q g5⟩
    | ct e => exact hp m5 H5 g5 R5
    | bk e => exact hp m5 H5 g5 R5
    | rt rv => exact hp m5 H5 g5 R5⟩
theorem ms_pass : MS X W (.Pass pos) sNext := ⟨ps_pass.imp fun D σ H ⟨env, m, mu, hE, hR, hp⟩ => Post.pure hp hR σ hE⟩
def sBreak : Env → M Fl := fun env => pure (.bk env)
def sCont : Env → M Fl := fun env => pure (.ct env)
theorem ms_break : MS X W (.Break pos) sBreak := ⟨ps_break.imp fun D σ H ⟨env, m, mu, hE, hR, hp⟩ => Post.pure hp hR σ hE⟩
theorem ms_continue : MS X W (.Continue pos) sCont := ⟨ps_continue.imp fun D σ H ⟨env, m, mu, hE, hR, hp⟩ => Post.pure hp hR σ hE⟩
def sExpr (r : Env → M D) : Env → M Fl := fun env => r env >>= fun _ => pure (.nx env)
theorem ms_expr {r : Env → M D} (h : ME X W e r) (hs : swapsWith e none pos.line X.env = pure false := by rfl) : MS X W (.Expr e pos) (sExpr r) := ⟨(ps_expr h.pe hs).imp fun D σ H ⟨env, m, mu, hE, hR, hp⟩ =>
  ⟨env, m, mu, hE, hR, (Post.bind hp).mono fun x m1 mu1 H1 g1 R1 hp v rv => (Post.pure hp R1) σ (hE.grow g1)⟩⟩
def sRet (r : Env → M D) : Env → M Fl := fun env => r env >>= fun d => pure (.rt (.vl d))
theorem ms_ret {r : Env → M D} (h : ME X W e r) : MS X W (.Return (some e) pos) (sRet r) := ⟨(ps_ret h.pe).imp fun D σ H ⟨env, m, mu, hE, hR, hp⟩ =>
  ⟨env, m, mu, hE, hR, (Post.bind hp).mono fun x m1 mu1 H1 g1 R1 hp v rv => (Post.pure hp R1) v rv⟩⟩
def sRetF (r : Env → M (List D)) : Env → M Fl := fun env => r env >>= fun ds => pure (.rt (.fr ds))
theorem ms_retF {r : Env → M (List D)} (h : MF X W e r) : MS X W (.Return (some e) pos) (sRetF r) := ⟨(ps_ret h.pe).imp fun D σ H ⟨env, m, mu, hE, hR, hp⟩ =>
  ⟨env, m, mu, hE, hR, (Post.bind hp).mono fun x m1 mu1 H1 g1 R1 hp => Post.pure hp R1⟩⟩
def sRetN : Env → M Fl := fun env => pure (.rt (.vl .non))
theorem ms_retN : MS X W (.Return none pos) sRetN := ⟨ps_retN.imp fun D σ H ⟨env, m, mu, hE, hR, hp⟩ => (Post.pure hp hR) .non (by simp only [Rep])⟩
theorem ms_if {c : Expr} {s1 s2 : List Stmt} {t : Env → M Bool} {r r' : Env → M Fl} (hc : MT X W c t) (h : MSs X W s1 r) (h' : MSs X W s2 r') : MS X W (.If c s1 s2 pos) (eIf t r r') := ⟨(ps_if hc.pt h.ps h'.ps).imp fun D σ H ⟨env, m, mu, hE, hR, hp⟩ =>
  ⟨env, m, mu, hE, hR, (Post.bind hp).mono fun b m1 mu1 H1 g1 R1 hp => by
    cases b
    · exact ⟨env, m1, mu1, hE.grow g1, R1, hp.mono fun fl m' mu' H' _ _ q => FlQ.from q g1⟩
    · exact ⟨env, m1, mu1, hE.grow g1, R1, hp.mono fun fl m' mu' H' _ _ q => FlQ.from q g1⟩⟩⟩
def sAsg (r : Env → M D) (asg : D → Env → M Env) : Env → M Fl := fun env => r env >>= fun d => asg d env >>= fun env' => pure (.nx env')
theorem asg_go {l : List Nat} {r : Env → M D} {asg : D → Env → M Env} : ∀ D σ H, tS X.K W (sAsg r asg) D σ H → tAsg (tE X.K W r) (tG X.K W l asg) D σ H := fun D σ H ⟨env, m, mu, hE, hR, hp⟩ =>
  ⟨env, m, mu, hE, hR, (Post.bind hp).mono fun x m1 mu1 H1 g1 R1 hp v rv => ⟨x, env, m1, mu1, hE.grow g1, R1, rv, (Post.bind hp).mono fun env2 m2 mu2 H2 g2 R2 hp σ2 hE2 _ => (Post.pure hp R2) σ2 hE2⟩⟩
theorem ms_asg {l : List Nat} {r : Env → M D} {asg : D → Env → M Env} (h : ME X W e r) (hg : MG X W tg l asg) (hs : swapsWithSole [tg] e pos.line X.env = pure false := by rfl) (hw : swappedStores [tg] e X.env = pure none := by rfl) (h1 : (assignEach [tg] X.env).map (·.2) = [assign tg X.env] := by rfl) : MS X W (.Assign [tg] e pos) (sAsg r asg) :=
  ⟨(ps_asg h.pe hg.pg hs hw h1).imp (asg_go (l := l))⟩
/-- name = value -/
def sSet (i : Nat) (r : Env → M D) : Env → M Fl := fun env => r env >>= fun d => pure (.nx (env.set i (some d)))
theorem set_go {i : Nat} {r : Env → M D} : ∀ D σ H, tS X.K W (sSet i r) D σ H → tAsg (tE X.K W r) (gName i) D σ H := fun D σ H ⟨env, m, mu, hE, hR, hp⟩ =>
  ⟨env, m, mu, hE, hR, (Post.bind hp).mono fun x m1 mu1 H1 g1 R1 hp v rv => (Post.pure hp R1) _ ((hE.grow g1).set rv)⟩
theorem ms_set {i : Nat} {x : Str} {r : Env → M D} {pos' : Pos} (hN : X.N.Nodup) (hi : X.N[i]? = some x) (hx : Loc X.env.scope x) (h : ME X W e r) (hs : swapsWith e (some (.Name x pos')) pos.line X.env = pure false := by rfl) (hf : X.fn x = true ∨ X.env.scope.names.lookup x = some .local := by first | exact .inl rfl | exact .inr rfl | assumption) :
    MS X W (.Assign [.Name x pos'] e pos) (sSet i r) := ⟨(ps_set hN hi hx h.pe hs hf).imp set_go⟩
/-- name op= value -/
def sAug (i : Nat) (g : D → D → M D) (r : Env → M D) : Env → M Fl := fun env => eVar i env >>= fun x => r env >>= fun y => g x y >>= fun z => pure (.nx (env.set i (some z)))
theorem ms_aug {i : Nat} {x : Str} {op : Operator} {rr : R2} {g : D → D → M D} {r : Env → M D} {pos' : Pos} (hN : X.N.Nodup) (hi : X.N[i]? = some x) (hx : Loc X.env.scope x) (h : ME X W e r) (ho : OpR X (inplaceOp op) rr) (o : OpM X.K W rr g) (hf : X.fn x = true ∨ X.env.scope.names.lookup x = some .local := by first | exact .inl rfl | exact .inr rfl | assumption) :
    MS X W (.AugAssign (.Name x pos') op e pos) (sAug i g r) := ⟨(ps_aug (ti := fun x y H Q => rr x y H Q) hN hi hx h.pe (fun pins s σ H x y v u Q I r1 r2 h => ho pins s σ H x y v u Q I r1 r2 h) hf).imp fun D σ H ⟨env, m, mu, hE, hR, hp⟩ => by
  have hp0 := Post.bind hp
  cases ev : env[i]? with
  | none => unfold eVar at hp0; rw [ev] at hp0; exact (show False from hp0).elim
  | some o2 =>
    cases o2 with
    | none => unfold eVar at hp0; rw [ev] at hp0; exact (show False from hp0).elim
    | some d =>
      unfold eVar at hp0
      rw [ev] at hp0
      obtain ⟨v, hv, rv⟩ := hE.get i d ev
      have hp1 := Post.pure hp0 hR
      exact ⟨v, hv, env, m, mu, hE, hR, (Post.bind hp1).mono fun y m1 mu1 H1 g1 R1 hp2 w rw' => o.go d y v w m1 mu1 H1 _ R1 (Rep.grow g1 d v rv) rw' ((Post.bind hp2).mono fun z m2 mu2 H2 g2 R2 hp3 u ru => (Post.pure hp3 R2) _ (((hE.grow g1).grow g2).set ru))⟩⟩
end
end MP
namespace MP
open PySem L2 PyProof.Rows
/-! ### objects of the small heap that change -/
/-- the list at a place is changed by f, which hands back what the method gives -/
def modLr (o : Option MO) (n : Nat) (f : List D → Option (List D × D)) (mu : List MO) : R D := match o with
  | some (.lst xs) => match f xs with
    | some (ys, d) => .ok d (mu.set n (.lst ys))
    | none => .bad
  | _ => .bad
def modL (n : Nat) (f : List D → Option (List D × D)) : M D := fun mu => modLr mu[n]? n f mu
def modDr (o : Option MO) (n : Nat) (f : List (Key × D) → Option (List (Key × D) × D)) (mu : List MO) : R D := match o with
  | some (.dk xs) => match f xs with
    | some (ys, d) => .ok d (mu.set n (.dk ys))
    | none => .bad
  | _ => .bad
def modD (n : Nat) (f : List (Key × D) → Option (List (Key × D) × D)) : M D := fun mu => modDr mu[n]? n f mu
def toR : D → M Nat
  | .ref n => pure n
  | _ => bad
section
variable {K : PySem.W.Frag} {W : Wx} {m m' : Mp} {H H' : Hp} {mu : List MO}
theorem toR_ok {d : D} {v : V} {Q : Nat → Mp → List MO → Hp → Prop} (rl : Rel K m mu H) (h : Rep K m H d v) (hp : Post K W m H (toR d mu) Q) : ∃ n a, d = .ref n ∧ v = .ref a ∧ m.ad[n]? = some a ∧ Q n m mu H := by
  cases d
  case ref n => simp only [Rep] at h; obtain ⟨a, e, hm⟩ := h; exact ⟨n, a, rfl, e, hm, hp m H .refl rl⟩
  all_goals exact (show False from hp).elim
theorem modL_ok {n : Nat} {f : List D → Option (List D × D)} {a : Addr} {Q : D → Mp → List MO → Hp → Prop} (R : Rel K m mu H) (hm : m.ad[n]? = some a) (hp : Post K W m H (modL n f mu) Q) : ∃ xs vs ys d, H a = some (.lst vs) ∧ Reps K m H xs vs ∧ f xs = some (ys, d) ∧
    (∀ ws, Grow m m H (upd H a (.lst ws))) ∧ ∀ ws, Reps K m (upd H a (.lst ws)) ys ws → Q d m (mu.set n (.lst ys)) (upd H a (.lst ws)) := by
  unfold modL at hp
  obtain ⟨o, ho, hr⟩ := R.at' hm
  rw [ho] at hp
  cases o with
  | dk _ => exact (show False from hp).elim
  | lst xs =>
    obtain ⟨vs, hH, hr⟩ := hr
    cases e : f xs with
    | none =>
      have hp : Post K W m H (match f xs with
        | some (ys, d) => MP.R.ok d (mu.set n (.lst ys))
        | none => .bad) Q := hp
      rw [e] at hp; exact (show False from hp).elim
    | some p =>
      obtain ⟨ys, d⟩ := p
      have hp : Post K W m H (match f xs with
        | some (ys, d) => MP.R.ok d (mu.set n (.lst ys))
        | none => .bad) Q := hp
      rw [e] at hp
      exact ⟨xs, vs, ys, d, hH, hr, e, fun ws => .write R hm, fun ws hw => hp m _ (.write R hm) (R.write hm ⟨ws, upd_same, hw⟩)⟩
theorem modD_ok {n : Nat} {f : List (Key × D) → Option (List (Key × D) × D)} {a : Addr} {Q : D → Mp → List MO → Hp → Prop} (R : Rel K m mu H) (hm : m.ad[n]? = some a) (hp : Post K W m H (modD n f mu) Q) : ∃ xs vs ys d, H a = some (.dK ((xs.map (·.1)).zip vs)) ∧ Reps K m H (xs.map (·.2)) vs ∧ f xs = some (ys, d) ∧
    (∀ ws, Grow m m H (upd H a (.dK ws))) ∧ ∀ ws, Reps K m (upd H a (.dK ((ys.map (·.1)).zip ws))) (ys.map (·.2)) ws → Q d m (mu.set n (.dk ys)) (upd H a (.dK ((ys.map (·.1)).zip ws))) := by
  unfold modD at hp
  obtain ⟨o, ho, hr⟩ := R.at' hm
  rw [ho] at hp
  cases o with
  | lst _ => exact (show False from hp).elim
  | dk xs =>
    obtain ⟨vs, hH, hr⟩ := hr
    have hp : Post K W m H (match f xs with
      | some (ys, d) => MP.R.ok d (mu.set n (.dk ys))
      | none => .bad) Q := hp
    cases e : f xs with
    | none => rw [e] at hp; exact (show False from hp).elim
    | some p =>
      obtain ⟨ys, d⟩ := p
      rw [e] at hp
      exact ⟨xs, vs, ys, d, hH, hr, e, fun ws => .write R hm, fun ws hw => hp m _ (.write R hm) (R.write hm ⟨ws, upd_same, hw⟩)⟩
end
/-- it is a list -/
def lstK : D → M Unit
  | .fl _ => pure ()
  | .ro _ => pure ()
  | .ref n => fun mu => match mu[n]? with
    | some (.lst _) => .ok () mu
    | _ => .bad
  | _ => bad
def eMeth (k : D → M Unit) (g : D → List D → M D) (ro : Env → M D) (rs : Env → M (List D)) : Env → M D := fun env => ro env >>= fun o => k o >>= fun _ => rs env >>= fun xs => g o xs
structure MethM (K : PySem.W.Frag) (W : Wx) (r : V → List V → Hp → VK → Prop) (g : D → List D → M D) : Prop where
  go : ∀ (o : D) (ds : List D) (v : V) (vs : List V) (m : Mp) (mu : List MO) (H : Hp) (Q : VK), Rel K m mu H → Rep K m H o v → Reps K m H ds vs → Post K W m H (g o ds mu) (fun d m' _ H' => ∀ u, Rep K m' H' d u → Q u H') → r v vs H Q
section
variable {X : Cx} {W : Wx} {e o a b tg iter : Expr} {es : List Expr} {pos apos cpos p : Pos}
theorem lstK_ok {K : PySem.W.Frag} {m : Mp} {H : Hp} {mu : List MO} {d : D} {v : V} {Q : Unit → Mp → List MO → Hp → Prop} (R : Rel K m mu H) (h : Rep K m H d v) (hp : Post K W m H (lstK d mu) Q) : ∃ a vs, v = .ref a ∧ SqL K H a vs ∧ Q () m mu H := by
  cases d <;> simp only [Rep] at h
  case fl ds => obtain ⟨a, vs, rfl, hs, _, _⟩ := h; exact ⟨a, vs, rfl, .of hs, hp m H .refl R⟩
  case ro ds => obtain ⟨a, vs, rfl, hs, _⟩ := h; exact ⟨a, vs, rfl, hs.sqL, hp m H .refl R⟩
  case ref n =>
    obtain ⟨a, rfl, hm⟩ := h
    obtain ⟨o, ho, hr⟩ := R.at' hm
    have e1 : lstK (.ref n) mu = match mu[n]? with
      | some (.lst _) => MP.R.ok () mu
      | _ => .bad := rfl
    rw [e1, ho] at hp
    cases o with
    | dk _ => exact (show False from hp).elim
    | lst xs => obtain ⟨vs, hH, _⟩ := hr; exact ⟨a, vs, rfl, .of hH, hp m H .refl R⟩
  all_goals exact (show False from hp).elim
theorem meth_go {T : String} {k : D → M Unit} {r : V → List V → Hp → VK → Prop} {g : D → List D → M D} {ro : Env → M D} {rs : Env → M (List D)} (c : MethM X.K W r g)
    (hk : ∀ (m : Mp) (mu : List MO) (H : Hp) (d : D) (v : V) (Q : Unit → Mp → List MO → Hp → Prop), Rel X.K m mu H → Rep X.K m H d v → Post X.K W m H (k d mu) Q → tyV X.K T v H ∧ Q () m mu H) : ∀ σ H Q, tE X.K W (eMeth k g ro rs) σ H Q → tBM X.K T r (tE X.K W ro) (tA X.K W rs) σ H Q := fun σ H Q ⟨env, m, mu, hE, hR, hp⟩ =>
  ⟨env, m, mu, hE, hR, (Post.bind hp).mono fun x m1 mu1 H1 g1 R1 hp1 v rv => by
    obtain ⟨ty, hp2⟩ := hk m1 mu1 H1 x v _ R1 rv (Post.bind hp1)
    exact ⟨ty, env, m1, mu1, hE.grow g1, R1, (Post.bind hp2).mono fun xs m2 mu2 H2 g2 R2 hp3 vs rvs => c.go x xs v vs m2 mu2 H2 Q R2 (Rep.grow g2 x v rv) rvs hp3⟩⟩
theorem me_lmeth {id : String} {name : Str} {r : V → List V → Hp → VK → Prop} {g : D → List D → M D} {ro : Env → M D} {rs : Env → M (List D)} (slot : Slot "list" name id) (hty : typeOf (.builtin id) = pure (.type "method_descriptor")) (hm : MtR X id r) (c : MethM X.K W r g) (h : ME X W o ro) (hs : MA X W (e :: es) rs)
    (hbase : attributeBase o name X.env (eval o X.env) = eval o X.env := by rfl)
    (hfew : ((backTo cpos (starEach (e :: es) X.env)).all (fun x => !x.1) && (backToKw cpos (keywordEach [] X.env)).all (fun x => x.1.isSome)
      && decide ((e :: es).length + ([] : List Keyword).length + (if ([] : List Keyword).isEmpty then 0 else 1) < 30)) = true := by rfl)
    (hline : (apos.endLine == cpos.line) = true := by rfl) (hst : starEach (e :: es) X.env = (false, eval e X.env) :: starEach es X.env := by rfl) (hplain : (backTo cpos (starEach es X.env)).any (·.1) = false := by rfl) :
    ME X W (.Call (.Attribute o name apos) (e :: es) [] cpos) (eMeth lstK g ro rs) :=
  ⟨(pe_bm PySem.F.plainAttrs_list slot hty hm h.pe hs.pa hbase hfew hline hst hplain).imp (meth_go c fun m mu H d v Q R hd hp => by
    obtain ⟨a, vs, rfl, hs, q⟩ := lstK_ok R hd hp
    exact ⟨.inl ⟨rfl, vs, hs⟩, q⟩)⟩
theorem me_lmeth0 {id : String} {name : Str} {r : V → List V → Hp → VK → Prop} {g : D → List D → M D} {ro : Env → M D} (slot : Slot "list" name id) (hty : typeOf (.builtin id) = pure (.type "method_descriptor")) (hm : MtR X id r) (c : MethM X.K W r g) (h : ME X W o ro)
    (hbase : attributeBase o name X.env (eval o X.env) = eval o X.env := by rfl) (hline : (apos.endLine == cpos.line) = true := by rfl) :
    ME X W (.Call (.Attribute o name apos) [] [] cpos) (eMeth lstK g ro aNil) :=
  ⟨(pe_bm0 PySem.F.plainAttrs_list slot hty hm h.pe hbase hline).imp fun σ H Q hq => by
    obtain ⟨env, m, mu, hE, hR, hp⟩ := hq
    exact ⟨env, m, mu, hE, hR, (Post.bind hp).mono fun x m1 mu1 H1 g1 R1 hp1 v rv => by
      obtain ⟨a, vs, rfl, hs, hp2⟩ := lstK_ok R1 rv (Post.bind hp1)
      exact ⟨.inl ⟨rfl, vs, hs⟩, c.go x [] _ [] m1 mu1 H1 Q R1 rv (Reps.nil_iff.mpr rfl) (Post.pure (Post.bind hp2) R1)⟩⟩⟩
/-- append -/
def gAppend : D → List D → M D
  | .ref n, [y] => modL n fun xs => if xs.length < sizeLine then some (xs ++ [y], .non) else none
  | _, _ => bad
theorem methM_append : MethM X.K W rAppend gAppend := ⟨fun o ds v vs m mu H Q R ho hr hp => by
  cases o
  case ref n =>
    match ds, hr, hp with
    | [y], hr, hp =>
      obtain ⟨w, rfl, hw⟩ := rep1 hr
      simp only [Rep] at ho
      obtain ⟨a, rfl, hm⟩ := ho
      obtain ⟨xs, us, ys, d, hH, hrs, hf, hg, hq⟩ := modL_ok R hm hp
      by_cases c : xs.length < sizeLine
      · rw [if_pos c] at hf
        cases hf
        refine ⟨a, us, w, rfl, rfl, hH, by rw [← hrs.length]; exact c, ?_⟩
        exact hq (us ++ [w]) ((Reps.grow (hg _) xs us hrs).append (Reps.one (Rep.grow (hg _) y w hw))) .non (by simp only [Rep])
      · rw [if_neg c] at hf; cases hf
    | [], _, hp => exact (show False from hp).elim
    | _ :: _ :: _, _, hp => exact (show False from hp).elim
  all_goals exact (show False from hp).elim⟩
/-- extend -/
def gExtend : D → List D → M D
  | .ref n, [y] => rdM y >>= fun zs => modL n fun xs => if xs.length + zs.length ≤ sizeLine then some (xs ++ zs, .non) else none
  | _, _ => bad
theorem methM_extend : MethM X.K W rExtend gExtend := ⟨fun o ds v vs m mu H Q R ho hr hp => by
  cases o
  case ref n =>
    match ds, hr, hp with
    | [y], hr, hp =>
      obtain ⟨w, rfl, hw⟩ := rep1 hr
      simp only [Rep] at ho
      obtain ⟨a, rfl, hm⟩ := ho
      obtain ⟨b, zs, ws, rfl, hb, hz, _, hp⟩ := rdM_ok R hw (Post.bind hp)
      obtain ⟨xs, us, ys, d, hH, hrs, hf, hg, hq⟩ := modL_ok R hm hp
      by_cases c : xs.length + zs.length ≤ sizeLine
      · rw [if_pos c] at hf
        cases hf
        refine ⟨a, b, us, ws, rfl, rfl, hH, hb, by rw [← hrs.length, ← hz.length]; exact c, ?_⟩
        exact hq (us ++ ws) ((Reps.grow (hg _) xs us hrs).append (Reps.grow (hg _) zs ws hz)) .non (by simp only [Rep])
      · rw [if_neg c] at hf; cases hf
    | [], _, hp => exact (show False from hp).elim
    | _ :: _ :: _, _, hp => exact (show False from hp).elim
  all_goals exact (show False from hp).elim⟩
/-- insert -/
def gInsert : D → List D → M D
  | .ref n, [x, y] => toI x >>= fun i => modL n fun xs => if xs.length < sizeLine ∧ 0 ≤ i ∧ i < 2 ^ 63 then some (xs.take i.toNat ++ [y] ++ xs.drop i.toNat, .non) else none
  | _, _ => bad
def rInsert : V → List V → Hp → VK → Prop := fun x vs H Q => ∃ (l : Addr) (xs : List V) (i : Int) (y : V), x = .ref l ∧ vs = [.int i, y] ∧ H l = some (.lst xs) ∧ xs.length < sizeLine ∧ 0 ≤ i ∧ i < 2 ^ 63 ∧ Q .non (upd H l (.lst (xs.take i.toNat ++ [y] ++ xs.drop i.toNat)))
theorem methM_insert : MethM X.K W rInsert gInsert := ⟨fun o ds v vs m mu H Q R ho hr hp => by
  cases o
  case ref n =>
    match ds, hr, hp with
    | [x, y], hr, hp =>
      obtain ⟨v, w, rfl, hv, hw⟩ := rep2 hr
      simp only [Rep] at ho
      obtain ⟨a, rfl, hm⟩ := ho
      obtain ⟨i, rfl, rfl, hp⟩ := toI_ok R hv (Post.bind hp)
      obtain ⟨xs, us, ys, d, hH, hrs, hf, hg, hq⟩ := modL_ok R hm hp
      by_cases c : xs.length < sizeLine ∧ 0 ≤ i ∧ i < 2 ^ 63
      · rw [if_pos c] at hf
        cases hf
        refine ⟨a, us, i, w, rfl, rfl, hH, by rw [← hrs.length]; exact c.1, c.2.1, c.2.2, ?_⟩
        have hrs' : ∀ ws, Reps X.K m (upd H a (.lst ws)) xs us := fun ws => Reps.grow (hg ws) xs us hrs
        exact hq _ ((((hrs' _).take _).append (Reps.one (Rep.grow (hg _) y w hw))).append ((hrs' _).drop _)) .non (by simp only [Rep])
      · rw [if_neg c] at hf; cases hf
    | [], _, hp => exact (show False from hp).elim
    | [_], _, hp => exact (show False from hp).elim
    | _ :: _ :: _ :: _, _, hp => exact (show False from hp).elim
  all_goals exact (show False from hp).elim⟩
/-- pop(), pop(i) -/
def gPop0 : D → List D → M D
  | .ref n, [] => modL n fun xs => match xs[xs.length - 1]? with
    | some y => some (xs.dropLast, y)
    | none => none
  | _, _ => bad
theorem Reps.dropLast {K : PySem.W.Frag} {m : Mp} {H : Hp} {ds : List D} {vs : List V} (h : Reps K m H ds vs) : Reps K m H ds.dropLast vs.dropLast := by
  rw [List.dropLast_eq_take, List.dropLast_eq_take, h.length]
  exact h.take _
theorem methM_pop0 : MethM X.K W rPop gPop0 := ⟨fun o ds v vs m mu H Q R ho hr hp => by
  cases o
  case ref n =>
    match ds, hr, hp with
    | [], hr, hp =>
      rw [Reps.nil_iff] at hr
      subst hr
      simp only [Rep] at ho
      obtain ⟨a, rfl, hm⟩ := ho
      obtain ⟨xs, us, ys, d, hH, hrs, hf, hg, hq⟩ := modL_ok R hm hp
      cases e : xs[xs.length - 1]? with
      | none => rw [e] at hf; cases hf
      | some y =>
        rw [e] at hf
        cases hf
        obtain ⟨w, hw, rw'⟩ := hrs.get e
        refine ⟨a, us, w, rfl, rfl, hH, by rw [← hrs.length]; exact hw, ?_⟩
        exact hq _ (Reps.dropLast (Reps.grow (hg _) xs us hrs)) w (Rep.grow (hg _) _ w rw')
    | _ :: _, _, hp => exact (show False from hp).elim
  all_goals exact (show False from hp).elim⟩
def gPopAt : D → List D → M D
  | .ref n, [x] => toI x >>= fun i => modL n fun xs => if -(2 ^ 63) ≤ i ∧ i < 2 ^ 63 then match seqIndex? i xs.length with
    | some k => match xs[k]? with
      | some y => some (xs.eraseIdx k, y)
      | none => none
    | none => none else none
  | _, _ => bad
theorem Reps.eraseIdx {K : PySem.W.Frag} {m : Mp} {H : Hp} : ∀ {ds : List D} {vs : List V} (i : Nat), Reps K m H ds vs → Reps K m H (ds.eraseIdx i) (vs.eraseIdx i)
  | [], vs, i, h => by rw [Reps.nil_iff] at h; subst h; exact Reps.nil_iff.mpr rfl
  | d :: ds, vs, i, h => by
    obtain ⟨v, r, rfl, h1, h2⟩ := Reps.cons_iff.mp h
    cases i with
    | zero => exact h2
    | succ i => exact Reps.cons_iff.mpr ⟨v, _, rfl, h1, Reps.eraseIdx i h2⟩
theorem methM_popAt : MethM X.K W rPopAt gPopAt := ⟨fun o ds v vs m mu H Q R ho hr hp => by
  cases o
  case ref n =>
    match ds, hr, hp with
    | [y], hr, hp =>
      obtain ⟨w, rfl, hw⟩ := rep1 hr
      simp only [Rep] at ho
      obtain ⟨a, rfl, hm⟩ := ho
      obtain ⟨i, rfl, rfl, hp⟩ := toI_ok R hw (Post.bind hp)
      obtain ⟨xs, us, ys, d, hH, hrs, hf, hg, hq⟩ := modL_ok R hm hp
      by_cases c : -(2 ^ 63) ≤ i ∧ i < 2 ^ 63
      · rw [if_pos c] at hf
        cases ek : seqIndex? i xs.length with
        | none => rw [ek] at hf; cases hf
        | some k =>
          rw [ek] at hf
          cases e : xs[k]? with
          | none => simp only [e] at hf; cases hf
          | some y =>
            simp only [e] at hf
            cases hf
            obtain ⟨w, hw, rw'⟩ := hrs.get e
            refine ⟨a, us, i, k, w, rfl, rfl, hH, c.1, c.2, by rw [← hrs.length]; exact ek, hw, ?_⟩
            exact hq _ (Reps.eraseIdx k (Reps.grow (hg _) xs us hrs)) w (Rep.grow (hg _) _ w rw')
      · rw [if_neg c] at hf; cases hf
    | [], _, hp => exact (show False from hp).elim
    | _ :: _ :: _, _, hp => exact (show False from hp).elim
  all_goals exact (show False from hp).elim⟩
/-- xs[i] = e -/
def setL (o i v : D) : M D := toR o >>= fun n => toI i >>= fun k => modL n fun xs => match ixN xs.length k with
  | some j => some (xs.set j v, .non)
  | none => none
def sSub (ro ri rv : Env → M D) : Env → M Fl := fun env => rv env >>= fun v => ro env >>= fun o => ri env >>= fun i => setL o i v >>= fun _ => pure (.nx env)
theorem ms_sub {ro ri rv : Env → M D} {sp : Pos} (ho : ME X W o ro) (hi : ME X W a ri) (hv : ME X W e rv)
    (ha : ∀ v, assign (.Subscript o a sp) X.env v = (do
      let ov ← holding [v] (eval o X.env)
      let iv ← holding [v, ov] (eval a X.env)
      standAt sp
      holding [v, ov, iv] (setItem ov iv v)
      release [v, ov, iv] []) := by intro _; rfl)
    (hs : swapsWithSole [.Subscript o a sp] e pos.line X.env = pure false := by rfl) (hw : swappedStores [.Subscript o a sp] e X.env = pure none := by rfl) (h1 : (assignEach [.Subscript o a sp] X.env).map (·.2) = [assign (.Subscript o a sp) X.env] := by rfl) :
    MS X W (.Assign [.Subscript o a sp] e pos) (sSub ro ri rv) := ⟨(ps_asg hv.pe (pg_sub ho.pe hi.pe set_list ha) hs hw h1).imp fun D σ H ⟨env, m, mu, hE, hR, hp⟩ =>
  ⟨env, m, mu, hE, hR, (Post.bind hp).mono fun v m1 mu1 H1 g1 R1 hp vv rv => ⟨env, m1, mu1, hE.grow g1, R1, (Post.bind hp).mono fun o m2 mu2 H2 g2 R2 hp ov ro => ⟨env, m2, mu2, (hE.grow g1).grow g2, R2, (Post.bind hp).mono fun i m3 mu3 H3 g3 R3 hp iv ri => by
    have hp := Post.bind hp
    unfold setL at hp
    obtain ⟨n, a, rfl, rfl, hm, hp⟩ := toR_ok R3 (Rep.grow g3 o ov ro) (Post.bind hp)
    obtain ⟨k, rfl, rfl, hp⟩ := toI_ok R3 ri (Post.bind hp)
    obtain ⟨xs, us, ys, d, hH, hrs, hf, hg, hq⟩ := modL_ok R3 hm hp
    cases ej : ixN xs.length k with
    | none => rw [ej] at hf; cases hf
    | some j =>
      rw [ej] at hf
      cases hf
      refine ⟨a, us, k, j, rfl, rfl, hH, by rw [← hrs.length]; exact ej, ?_⟩
      have gg := hg (us.set j vv)
      have q := hq (us.set j vv) (Reps.set (Rep.grow gg v vv (Rep.grow g3 v vv (Rep.grow g2 v vv rv))) j (Reps.grow gg xs us hrs))
      exact (Post.pure q (R3.write hm ⟨_, upd_same, Reps.set (Rep.grow gg v vv (Rep.grow g3 v vv (Rep.grow g2 v vv rv))) j (Reps.grow gg xs us hrs)⟩)) σ (((hE.grow g1).grow g2).grow g3 |>.grow gg)⟩⟩⟩⟩
end
end MP
namespace MP
open PySem L2 PyProof.Rows
/-! ### list comprehensions -/
/-- no exception -/
def noX {α : Type} (c : M α) : M α := fun mu => match c mu with
  | .exc _ _ => .bad
  | r => r
abbrev W0 : Wx := fun _ _ _ => False
theorem noX_post {K : PySem.W.Frag} {W : Wx} {m : Mp} {H : Hp} {mu : List MO} {α : Type} {c : M α} {Q : α → Mp → List MO → Hp → Prop} (h : Post K W m H (noX c mu) Q) : Post K W0 m H (c mu) Q := by
  have e : noX c mu = match c mu with
    | .exc _ _ => .bad
    | r => r := rfl
  rw [e] at h
  cases hc : c mu with
  | ok a mu' => rw [hc] at h; exact h
  | exc x mu' => rw [hc] at h; exact (show False from h).elim
  | bad => rw [hc] at h; exact h
noncomputable def loopC (asg : D → Env → M Env) (t : Env → M Bool) (r : Env → M D) (g : List (Nat × List D)) : List D → Env → M (List D)
  | [], _ => chk g >>= fun _ => pure []
  | d :: ds, env => chk g >>= fun _ => asg d env >>= fun env1 => t env1 >>= fun b => if b = true then (r env1 >>= fun x => loopC asg t r g ds env >>= fun xs => pure (x :: xs)) else loopC asg t r g ds env
/-- [elt for .. in .. if ..]; vs: the slots of the comprehension's own names -/
noncomputable def fComp (w : Env → M Wk) (asg : D → Env → M Env) (t : Env → M Bool) (r : Env → M D) (vs : List Nat) : Env → M (List D) := fun env => w env >>= fun p => noX (loopC asg t r p.2 p.1 (wipeE env vs))
def tYesM : Env → M Bool := fun _ => pure true
structure MTs (X : Cx) (W : Wx) (ifs : List Expr) (r : Env → M Bool) : Prop where
  pt : PTs X ifs (tT X.K W r)
theorem _root_.L2.PTs.imp {X : Cx} {ifs : List Expr} {t t' : TT} (h : PTs X ifs t) (i : ∀ σ H Q, t' σ H Q → t σ H Q) : PTs X ifs t' := ⟨fun pins s σ H Q I q => h.run pins s σ H Q I (i σ H Q q)⟩
section
variable {X : Cx} {W : Wx} {e o a b tg iter elt : Expr} {es ifs : List Expr} {pos apos cpos p : Pos}
theorem mts_nil : MTs X W [] tYesM := ⟨pts_nil.imp fun σ H Q ⟨env, m, mu, hE, hR, hp⟩ => Post.pure hp hR⟩
theorem mts_one {r : Env → M Bool} (h : MT X W e r) : MTs X W [e] r := ⟨pts_one h.pt⟩
theorem wipe_off {vs : List Nat} {σ' σ : L2.St} {l : List Nat} (h : Off l σ' (L2.wipe σ vs)) (hl : ∀ i ∈ l, i ∈ vs) : L2.wipe σ' vs = L2.wipe σ vs := by
  have len : σ'.length = σ.length := by rw [h.1, L2.wipe_length]
  apply List.ext_getElem?
  intro i
  by_cases hi : i ∈ vs
  · have none_at : ∀ (τ : L2.St), τ.length = σ.length → (L2.wipe τ vs)[i]? = if i < σ.length then some none else none := by
      intro τ ht
      clear h hl len
      induction vs with
      | nil => cases hi
      | cons j vs ih =>
        show ((L2.wipe τ vs).set j none)[i]? = _
        by_cases hj : j = i
        · subst hj
          by_cases hlt : j < σ.length
          · rw [List.getElem?_set_self (by rw [L2.wipe_length, ht]; exact hlt), if_pos hlt]
          · rw [List.getElem?_eq_none (by rw [List.length_set, L2.wipe_length, ht]; omega), if_neg hlt]
        · rw [List.getElem?_set_ne hj]
          exact ih (by rcases List.mem_cons.mp hi with z | z; exact absurd z.symm hj; exact z)
    rw [none_at σ' len, none_at σ rfl]
  · rw [L2wipe_get hi, h.2 i (fun z => hi (hl i z))]
/-- the comprehension's list, for its reading -/
theorem comp_go {wi : TI} {vs l : List Nat} {w : Env → M Wk} {asg : D → Env → M Env} {t : Env → M Bool} {r : Env → M D} (hl : ∀ i ∈ l, i ∈ vs) (hwi : wi = tI X.K W w) : ∀ σ H Q, tF X.K W (fComp w asg t r vs) σ H Q → tLc wi (tG X.K W0 l asg) (tT X.K W0 t) (tE X.K W0 r) vs σ H Q := by
  subst hwi
  rintro σ H Q ⟨env, m, mu, hE, hR, hp⟩
  refine ⟨env, m, mu, hE, hR, (Post.bind hp).mono fun p m1 mu1 H1 g1 R1 hp0 hz J ok => ?_⟩
  have hp0 := noX_post hp0
  intro Dd hDn
  have hdead : ∀ b o, H1 b = some o → b ≠ Dd := fun b o e z => by rw [z, hDn] at e; cases e
  have hD0 : H Dd = none := g1.none_of hDn
  refine ⟨fun i k H2 => ∃ rest acc vs2 m2 mu2, k = rest.length ∧ p.1.drop i = rest ∧ acc.length ≤ i ∧ H2 Dd = some (.lst vs2) ∧ Dd ∈ m2.no ∧ Dd ∉ m2.ad ∧ Reps X.K m2 H2 acc vs2 ∧ Rel X.K m2 mu2 H2 ∧ RepE X.K m2 H2 (wipeE env vs) (L2.wipe σ vs) ∧ Grow m1 m2 H1 H2 ∧
      Post X.K W0 m1 H1 (loopC asg t r p.2 rest (wipeE env vs) mu2) fun xs m' mu' H' => NewL X.K H (acc ++ xs) m' mu' H' Q, ⟨_, p.1, [], [], m1.shut Dd, mu1, rfl, rfl, Nat.le_refl _, upd_same, by simp [Mp.shut], ?_, Reps.nil_iff.mpr rfl, ?_, ?_, ?_, ?_⟩, ?_⟩
  · exact (R1.free hDn).1
  · have g : Grow m1 m1 H1 (upd H1 Dd (.lst [])) := .laid hDn
    have kp : Keep m1 (m1.shut Dd) H1 (upd H1 Dd (.lst [])) := ⟨fun _ _ h => h, fun a o h n => ⟨by rw [upd_ne (hdead a o h)]; exact h, n.1, fun z => by
      rcases List.mem_append.mp z with z | z
      · exact n.2 z
      · exact hdead a o h (List.mem_singleton.mp z)⟩, g.tups, g.frzs⟩
    refine ⟨R1.len, R1.nd, fun a ha => ?_, fun a ha z => ?_, fun n o a h1 h2 => (R1.obj n o a h1 h2).keep kp fun u q => by rw [upd_ne (hdead a u q)]; exact q⟩
    · rcases List.mem_append.mp ha with z | z
      · exact g.trk a _ (R1.nos a z).choose_spec
      · rw [List.mem_singleton.mp z]; exact ⟨_, upd_same⟩
    · rcases List.mem_append.mp z with z | z
      · exact R1.dj a ha z
      · exact (R1.free hDn).1 (by rw [← List.mem_singleton.mp z]; exact ha)
  · have g : Grow m1 m1 H1 (upd H1 Dd (.lst [])) := .laid hDn
    have kp : Keep m1 (m1.shut Dd) H1 (upd H1 Dd (.lst [])) := ⟨fun _ _ h => h, fun a o h n => ⟨by rw [upd_ne (hdead a o h)]; exact h, n.1, fun z => by
      rcases List.mem_append.mp z with z | z
      · exact n.2 z
      · exact hdead a o h (List.mem_singleton.mp z)⟩, g.tups, g.frzs⟩
    exact ((hE.grow g1).wipe vs).keep kp
  · have g : Grow m1 m1 H1 (upd H1 Dd (.lst [])) := .laid hDn
    exact ⟨⟨[], [Dd], by simp [Mp.shut], rfl, by simp, fun a ha => by rw [List.mem_singleton.mp ha]; exact hDn⟩, g.oth, g.tups, g.frzs, g.trk⟩
  · exact hp0
  rintro i k H2 ⟨rest, acc, vs2, m2, mu2, rfl, hd, ha, hH2, hno, had, hacc, R2, hE2, g2, hp2⟩
  cases rest with
  | nil =>
    have e0 : loopC asg t r p.2 [] (wipeE env vs) mu2 = M.bind (chk p.2) (fun _ => pure []) mu2 := rfl
    rw [e0] at hp2
    unfold M.bind at hp2
    have hch : ∀ q ∈ p.2, mu2[q.1]? = some (.lst q.2) := by
      unfold chk at hp2
      by_cases z : ∀ q ∈ p.2, mu2[q.1]? = some (.lst q.2)
      · exact z
      · rw [if_neg z] at hp2; exact (show False from hp2).elim
    have ec : chk p.2 mu2 = .ok () mu2 := by unfold chk; rw [if_pos hch]
    rw [ec] at hp2
    refine .inl ⟨((ok m2 mu2 H2 g2.keep R2 hch).1 i) (by rw [List.drop_eq_nil_iff] at hd; exact hd), ?_⟩
    obtain ⟨l', k', e1, e2, hl', hk'⟩ := g2.ext
    have n1 : Dd ∉ m1.no := (R1.free hDn).2
    have kp : ∀ m3 : Mp, (∀ n a, m2.ad[n]? = some a → m3.ad[n]? = some a) → (∀ a, m2.Out a → m3.Out a) → Keep m2 m3 H2 H2 := fun m3 h1 h2 => ⟨h1, fun a o h n => ⟨h, h2 a n⟩, fun _ _ h => h, fun _ _ _ h => h⟩
    have k3 : Keep m2 ⟨m2.ad, m1.no⟩ H2 H2 := kp _ (fun _ _ h => h) fun a n => ⟨n.1, fun z => n.2 (by rw [e2]; exact List.mem_append_left _ z)⟩
    have g3 : Grow m1 ⟨m2.ad, m1.no⟩ H1 H2 := ⟨⟨l', [], e1, by simp, hl', by simp⟩, g2.oth, g2.tups, g2.frzs, g2.trk⟩
    have R3 : Rel X.K ⟨m2.ad, m1.no⟩ mu2 H2 := ⟨R2.len, R2.nd, fun a z => R2.nos a (by rw [e2]; exact List.mem_append_left _ z), fun a ha z => R2.dj a ha (by rw [e2]; exact List.mem_append_left _ z), fun n o a h1 h2 => (R2.obj n o a h1 h2).keep k3 fun _ q => q⟩
    have k4 : Keep m2 ((⟨m2.ad, m1.no⟩ : Mp).add Dd) H2 H2 := kp _ (fun n a h => by
      show (m2.ad ++ [Dd])[n]? = some a
      rw [List.getElem?_append_left (List.getElem?_eq_some_iff.mp h).1]; exact h) fun a n => ⟨fun z => by
        rcases List.mem_append.mp z with z | z
        · exact n.1 z
        · exact n.2 (by rw [List.mem_singleton.mp z]; exact hno), fun z => n.2 (by rw [e2]; exact List.mem_append_left _ z)⟩
    have q := hp2 ⟨m2.ad, m1.no⟩ H2 g3 R3 Dd vs2 hD0 hH2 ⟨had, n1⟩ (by rw [List.append_nil]; exact Reps.keep k3 acc vs2 hacc)
    refine q ?_
    rw [List.append_nil]
    refine ⟨by show (m2.ad ++ [Dd]).length = _; rw [List.length_append, List.length_append, R2.len]; rfl, ?_, fun a z => R3.nos a z, fun a ha z => ?_, fun n ob b h1 h2 => ?_⟩
    · show (m2.ad ++ [Dd]).Nodup
      rw [List.nodup_append]
      refine ⟨R2.nd, by simp, fun x hx y hy => ?_⟩
      rw [List.mem_singleton.mp hy]
      rintro rfl
      exact had hx
    · rcases List.mem_append.mp (show a ∈ m2.ad ++ [Dd] from ha) with z' | z'
      · exact R3.dj a z' z
      · exact n1 (by rw [← List.mem_singleton.mp z']; exact z)
    · have h2 : (m2.ad ++ [Dd])[n]? = some b := h2
      by_cases h : n < mu2.length
      · rw [List.getElem?_append_left h] at h1
        rw [List.getElem?_append_left (by rw [R2.len]; exact h)] at h2
        exact (R2.obj n ob b h1 h2).keep k4 fun _ q => q
      · by_cases hl : n = mu2.length
        · subst hl
          rw [List.getElem?_append_right (Nat.le_refl _), Nat.sub_self] at h1
          rw [List.getElem?_append_right (by rw [R2.len]; exact Nat.le_refl _), ← R2.len, Nat.sub_self] at h2
          cases h1
          cases h2
          exact ⟨vs2, hH2, Reps.keep k4 acc vs2 hacc⟩
        · rw [List.getElem?_eq_none (by rw [List.length_append]; simp only [List.length_cons, List.length_nil]; omega)] at h1
          cases h1
  | cons d ds =>
    have e0 : loopC asg t r p.2 (d :: ds) (wipeE env vs) mu2 = M.bind (chk p.2) (fun _ => M.bind (asg d (wipeE env vs)) fun env1 => M.bind (t env1) fun b => if b = true then (r env1 >>= fun x => loopC asg t r p.2 ds (wipeE env vs) >>= fun xs => pure (x :: xs)) else loopC asg t r p.2 ds (wipeE env vs)) mu2 := rfl
    rw [e0] at hp2
    unfold M.bind at hp2
    have hch : ∀ q ∈ p.2, mu2[q.1]? = some (.lst q.2) := by
      unfold chk at hp2
      by_cases z : ∀ q ∈ p.2, mu2[q.1]? = some (.lst q.2)
      · exact z
      · rw [if_neg z] at hp2; exact (show False from hp2).elim
    have ec : chk p.2 mu2 = .ok () mu2 := by unfold chk; rw [if_pos hch]
    rw [ec] at hp2
    dsimp only at hp2
    have hdi : p.1[i]? = some d := by
      have e : (p.1.drop i)[0]? = some d := by rw [hd]; rfl
      rw [List.getElem?_drop] at e
      simpa using e
    have hds : p.1.drop (i + 1) = ds := by
      have e := congrArg List.tail hd
      rw [List.tail_drop] at e
      exact e
    have hil : i < p.1.length := (List.getElem?_eq_some_iff.mp hdi).1
    obtain ⟨go, yl⟩ := (ok m2 mu2 H2 g2.keep R2 hch).2 i d hdi
    -- the turn's end: nothing is added, or a datum
    have fin : ∀ (acc' : List D) (vs' : List V) (m3 : Mp) (mu3 : List MO) (H3 : Hp), acc'.length ≤ i + 1 → H3 Dd = some (.lst vs') → Dd ∈ m3.no → Dd ∉ m3.ad → Reps X.K m3 H3 acc' vs' → Rel X.K m3 mu3 H3 → RepE X.K m3 H3 (wipeE env vs) (L2.wipe σ vs) → Grow m1 m3 H1 H3 →
        (Post X.K W0 m1 H1 (loopC asg t r p.2 ds (wipeE env vs) mu3) fun xs m' mu' H' => NewL X.K H (acc' ++ xs) m' mu' H' Q) → ∃ m', m' < (d :: ds).length ∧ ∃ rest acc vs2 m2 mu2, m' = rest.length ∧ p.1.drop (i + 1) = rest ∧ acc.length ≤ i + 1 ∧ H3 Dd = some (.lst vs2) ∧ Dd ∈ m2.no ∧ Dd ∉ m2.ad ∧ Reps X.K m2 H3 acc vs2 ∧ Rel X.K m2 mu2 H3 ∧ RepE X.K m2 H3 (wipeE env vs) (L2.wipe σ vs) ∧ Grow m1 m2 H1 H3 ∧
      Post X.K W0 m1 H1 (loopC asg t r p.2 rest (wipeE env vs) mu2) fun xs m' mu' H' => NewL X.K H (acc ++ xs) m' mu' H' Q := fun acc' vs' m3 mu3 H3 a1 a2 a3 a4 a5 a6 a7 a8 a9 =>
      ⟨ds.length, Nat.lt_succ_self _, ds, acc', vs', m3, mu3, rfl, hds, a1, a2, a3, a4, a5, a6, a7, a8, a9⟩
    refine .inr ⟨go, fun H3 => ∃ m', m' < (d :: ds).length ∧ ∃ rest acc vs2 m2 mu2, m' = rest.length ∧ p.1.drop (i + 1) = rest ∧ acc.length ≤ i + 1 ∧ H3 Dd = some (.lst vs2) ∧ Dd ∈ m2.no ∧ Dd ∉ m2.ad ∧ Reps X.K m2 H3 acc vs2 ∧ Rel X.K m2 mu2 H3 ∧ RepE X.K m2 H3 (wipeE env vs) (L2.wipe σ vs) ∧ Grow m1 m2 H1 H3 ∧
      Post X.K W0 m1 H1 (loopC asg t r p.2 rest (wipeE env vs) mu2) fun xs m' mu' H' => NewL X.K H (acc ++ xs) m' mu' H' Q, fun H3 h => h, fun x H3 y => ?_⟩
    obtain ⟨gy, Ry, rx⟩ := yl x H3 y
    refine ⟨d, wipeE env vs, m2, mu2, hE2.grow gy, Ry, rx, ?_⟩
    have stay : ∀ (m3 : Mp) (H4 : Hp), Grow m2 m3 H2 H4 → H4 Dd = some (.lst vs2) ∧ Dd ∈ m3.no ∧ Dd ∉ m3.ad := fun m3 H4 g => by
      obtain ⟨l', k', e1, e2, _, _⟩ := g.ext
      exact ⟨g.oth Dd _ hH2 had, by rw [e2]; exact List.mem_append_left _ hno, g.notin hH2 had⟩
    cases ha1 : asg d (wipeE env vs) mu2 with
    | bad => rw [ha1] at hp2; exact (show False from hp2).elim
    | exc ex mu4 => rw [ha1] at hp2; exact fun m4 H4 g4 R4 => hp2 m4 H4 ((g2.trans gy).trans g4) R4
    | ok env1 mu4 =>
      rw [ha1] at hp2
      dsimp only at hp2
      intro m4 H4 g4 R4 σ2 hE4 off
      refine ⟨wipe_off off hl, env1, m4, mu4, hE4, R4, ?_⟩
      cases ht1 : t env1 mu4 with
      | bad => rw [ht1] at hp2; exact (show False from hp2).elim
      | exc ex mu5 => rw [ht1] at hp2; exact fun m5 H5 g5 R5 => hp2 m5 H5 (((g2.trans gy).trans g4).trans g5) R5
      | ok b mu5 =>
        rw [ht1] at hp2
        dsimp only at hp2
        intro m5 H5 g5 R5
        have g25 : Grow m2 m5 H2 H5 := (gy.trans g4).trans g5
        cases b with
        | false =>
          simp only [Bool.false_eq_true, if_false] at hp2 ⊢
          obtain ⟨s1, s2, s3⟩ := stay m5 H5 g25
          exact fin acc vs2 m5 mu5 H5 (Nat.le_succ_of_le ha) s1 s2 s3 (Reps.grow g25 acc vs2 hacc) R5 (hE2.grow g25) (g2.trans g25) hp2
        | true =>
          simp only [if_true] at hp2 ⊢
          refine ⟨env1, m5, mu5, hE4.grow g5, R5, ?_⟩
          have hp2 : Post X.K W0 m1 H1 (M.bind (r env1) (fun x => loopC asg t r p.2 ds (wipeE env vs) >>= fun xs => pure (x :: xs)) mu5) fun xs m' mu' H' => NewL X.K H (acc ++ xs) m' mu' H' Q := hp2
          unfold M.bind at hp2
          cases hr1 : r env1 mu5 with
          | bad => rw [hr1] at hp2; exact (show False from hp2).elim
          | exc ex mu6 => rw [hr1] at hp2; exact fun m6 H6 g6 R6 => hp2 m6 H6 ((g2.trans g25).trans g6) R6
          | ok yd mu6 =>
            rw [hr1] at hp2
            dsimp only at hp2
            intro m6 H6 g6 R6 v rv
            have g26 : Grow m2 m6 H2 H6 := g25.trans g6
            obtain ⟨s1, s2, s3⟩ := stay m6 H6 g26
            have hlen := hacc.length
            refine ⟨vs2, s1, by omega, ?_⟩
            have nD : ∀ b o, H6 b = some o → m6.Out b → b ≠ Dd := fun b o _ n z => n.2 (by rw [z]; exact s2)
            have kp : Keep m6 m6 H6 (upd H6 Dd (.lst (vs2 ++ [v]))) := ⟨fun _ _ h => h, fun a o h n => ⟨by rw [upd_ne (nD a o h n)]; exact h, n⟩, fun a xs h => by rw [upd_ne (fun z => by rw [z, s1] at h; cases h)]; exact h, fun a u xs h => by rw [upd_ne (fun z => by rw [z, s1] at h; cases h)]; exact h⟩
            have g6f : Grow m1 m6 H1 (upd H6 Dd (.lst (vs2 ++ [v]))) := by
              have g16 := g2.trans g26
              refine ⟨g16.ext, fun a o h n => ?_, fun a xs h => ?_, fun a o u h => ?_, fun a o h => ?_⟩
              · rw [upd_ne (hdead a o h)]; exact g16.oth a o h n
              · rw [upd_ne (hdead a _ h)]; exact g16.tups a xs h
              · rw [upd_ne (hdead a _ h)]; exact g16.frzs a o u h
              · rw [upd_ne (hdead a o h)]; exact g16.trk a o h
            refine fin (acc ++ [yd]) (vs2 ++ [v]) m6 mu6 _ (by rw [List.length_append]; simp only [List.length_cons, List.length_nil]; omega) upd_same s2 s3 ((Reps.keep kp acc vs2 (Reps.grow g26 acc vs2 hacc)).append (Reps.one (Rep.keep kp yd v rv))) ?_ ((hE2.grow g26).keep kp) g6f ?_
            · refine ⟨R6.len, R6.nd, fun a z => ?_, R6.dj, fun n ob a h1 h2 => (R6.obj n ob a h1 h2).keep kp fun u q => ?_⟩
              · by_cases za : a = Dd
                · subst za; exact ⟨_, upd_same⟩
                · rw [upd_ne za]; exact R6.nos a z
              · rw [upd_ne (fun z => s3 (by rw [← z]; exact List.mem_of_getElem? h2))]; exact q
            · refine (Post.bind hp2).mono fun xs m' mu' H' _ R' q => ?_
              have q2 := Post.pure q R'
              rw [show acc ++ [yd] ++ xs = acc ++ yd :: xs by simp]
              exact q2
theorem mf_comp {scope : Scope} {own : List (Str × Nat)} {w : Env → M Wk} {asg : D → Env → M Env} {t : Env → M Bool} {r : Env → M D} {l : List Nat} (hc : X.calm = true) (hN : X.N.Nodup) (hi : MI X W tg iter w) (ok : BlkOk X.N X.env.scope scope own) (hl : ∀ i ∈ l, i ∈ own.map (·.2))
    (hg : ∀ (s : Shared) (H : Hp) (C : Addr) (cl : List (Str × Addr)) (fp : List Addr), MG (X.blk s H scope (compEnvC scope cl C X.env) fp) W0 tg l asg) (ht : ∀ (s : Shared) (H : Hp) (C : Addr) (cl : List (Str × Addr)) (fp : List Addr), MTs (X.blk s H scope (compEnvC scope cl C X.env) fp) W0 ifs t)
    (he : ∀ (s : Shared) (H : Hp) (C : Addr) (cl : List (Str × Addr)) (fp : List Addr), ME (X.blk s H scope (compEnvC scope cl C X.env) fp) W0 elt r) (hs : ∀ x, foldedSetIterable iter X.env x = pure x := by intro _; rfl) :
    MF X W (.ListComp elt [⟨tg, iter, ifs, 0⟩] scope pos) (fComp w asg t r (own.map (·.2))) :=
  ⟨(pe_lc hc hN hi.pi ok (fun s H C cl fp => (hg s H C cl fp).pg) (fun s H C cl fp => (ht s H C cl fp).pt) (fun s H C cl fp => (he s H C cl fp).pe) hs).imp (comp_go hl rfl)⟩
/-- name = [..], by what becomes of the new list -/
theorem tAsg_imp {te te' : TE} {i : Nat} (h : ∀ σ H Q, te' σ H Q → te σ H Q) : ∀ D σ H, tAsg te' (gName i) D σ H → tAsg te (gName i) D σ H := fun D σ H q => h σ H _ q
theorem ms_setC {i : Nat} {y : Str} {py spos : Pos} {scope : Scope} {own : List (Str × Nat)} {w : Env → M Wk} {asg : D → Env → M Env} {t : Env → M Bool} {r : Env → M D} {l : List Nat} {rr : Env → M D} (hc : X.calm = true) (hN : X.N.Nodup) (hy : X.N[i]? = some y) (hyl : X.env.scope.names.lookup y = some .local)
    (hsw : swapsWith (.ListComp elt [⟨tg, iter, ifs, 0⟩] scope pos) (some (.Name y py)) spos.line X.env = pure true) (hi : MI X W tg iter w) (ok : BlkOk X.N X.env.scope scope own) (hl : ∀ i ∈ l, i ∈ own.map (·.2))
    (hg : ∀ (s : Shared) (H : Hp) (C : Addr) (cl : List (Str × Addr)) (fp : List Addr), MG (X.blk s H scope (compEnvC scope cl C X.env) fp) W0 tg l asg) (ht : ∀ (s : Shared) (H : Hp) (C : Addr) (cl : List (Str × Addr)) (fp : List Addr), MTs (X.blk s H scope (compEnvC scope cl C X.env) fp) W0 ifs t)
    (he : ∀ (s : Shared) (H : Hp) (C : Addr) (cl : List (Str × Addr)) (fp : List Addr), ME (X.blk s H scope (compEnvC scope cl C X.env) fp) W0 elt r)
    (hrr : ∀ σ H Q, tE X.K W rr σ H Q → tF X.K W (fComp w asg t r (own.map (·.2))) σ H Q) (hs : ∀ x, foldedSetIterable iter X.env x = pure x := by intro _; rfl) :
    MS X W (.Assign [.Name y py] (.ListComp elt [⟨tg, iter, ifs, 0⟩] scope pos) spos) (sSet i rr) :=
  ⟨(ps_setLc hc hN hy hyl hsw hi.pi ok (fun s H C cl fp => (hg s H C cl fp).pg) (fun s H C cl fp => (ht s H C cl fp).pt) (fun s H C cl fp => (he s H C cl fp).pe) hs).imp fun D σ H q => comp_go hl rfl σ H _ (hrr σ H _ (set_go D σ H q))⟩
theorem fl_go {r : Env → M (List D)} : ∀ σ H Q, tE X.K W (eFl r) σ H Q → tF X.K W r σ H Q := fun σ H Q ⟨env, m, mu, hE, hR, hp⟩ =>
  ⟨env, m, mu, hE, hR, (Post.bind hp).mono fun xs m1 mu1 H1 g1 R1 hp a vs h0 h1 hn hr _ => Post.pure hp R1 _ (by simp only [Rep]; exact ⟨a, vs, rfl, h1, hn, hr⟩)⟩
theorem new_go {r : Env → M (List D)} : ∀ σ H Q, tE X.K W (eNew r) σ H Q → tF X.K W r σ H Q := fun σ H Q ⟨env, m, mu, hE, hR, hp⟩ => by
  refine ⟨env, m, mu, hE, hR, ?_⟩
  have e0 : eNew r env mu = M.bind (r env) (fun xs => alloc (.lst xs)) mu := rfl
  rw [e0] at hp
  unfold M.bind at hp
  cases hr : r env mu with
  | ok xs mu1 =>
    rw [hr] at hp
    intro m1 H1 g1 R1 a vs h0 h1 hn hrs ha
    have q := hp (m1.add a) H1 (g1.adopt h0) ha (.ref a)
    exact q (by simp only [Rep]; exact ⟨a, rfl, add_get R1⟩)
  | exc x mu1 => rw [hr] at hp; exact hp
  | bad => rw [hr] at hp; exact hp
end
end MP
namespace MP
open PySem L2 PyProof.Rows
/-! ### what a def promises -/
/-- an exception as it flies -/
def XRep (mg : Str → Option Value) (K : PySem.W.Frag) (m : Mp) (H : Hp) (x : Xn) (cls : Value) (d : Option Addr) : Prop := mg x.cls = some cls ∧ match d with
  | none => x.fs = []
  | some p => ∃ gs : List (Str × V), H p = some (.xd gs) ∧ gs.map (·.1) = x.fs.map (·.1) ∧ Reps K m H (x.fs.map (·.2)) (gs.map (·.2))
def WE (mg : Str → Option Value) (K : PySem.W.Frag) (E : XK) : Wx := fun x m H => ∀ cls d, XRep mg K m H x cls d → E cls d H
def sp (K : PySem.W.Frag) (mg : Str → Option Value) (n : Nat) (den : List D → M Rv) : Sp := fun vs H Q E => vs.length = n ∧ ∃ ds m mu, Reps K m H ds vs ∧ Rel K m mu H ∧ Post K (WE mg K E) m H (den ds mu) fun rv m' mu' H' => RvQ K H rv m' mu' H' Q
def startE (n : Nat) (ds : List D) : Env := ds.map some ++ List.replicate (n - ds.length) none
/-- a body run at its arguments -/
def runB (n : Nat) (r : Env → M Fl) (ds : List D) : M Rv := fun mu => match r (startE n ds) mu with
  | .ok (.rt rv) mu' => .ok rv mu'
  | .ok (.nx _) mu' => .ok (.vl .non) mu'
  | .ok _ _ => .bad
  | .exc x mu' => .exc x mu'
  | .bad => .bad
/-- a datum out of what comes back -/
def rvD : Rv → D
  | .vl d => d
  | .fr ds => .fl ds
section
variable {P : Program} {w : World} {K : PySem.W.Frag} {mg : Str → Option Value} {base : Heap}
theorem startE_rep {m : Mp} {H : Hp} {ds : List D} {vs : List V} {N : List Str} (h : Reps K m H ds vs) : RepE K m H (startE N.length ds) (L2.start N vs) := by
  refine ⟨by unfold startE L2.start; rw [List.length_append, List.length_append, List.length_map, List.length_map, List.length_replicate, List.length_replicate, h.length], fun i d e => ?_⟩
  unfold startE at e
  by_cases hi : i < ds.length
  · rw [List.getElem?_append_left (by rw [List.length_map]; exact hi), List.getElem?_map] at e
    obtain ⟨x, hx, ex⟩ := Option.map_eq_some_iff.mp e
    cases ex
    obtain ⟨v, hv, rv⟩ := h.get hx
    refine ⟨v, ?_, rv⟩
    unfold L2.start
    rw [List.getElem?_append_left (by rw [List.length_map, ← h.length]; exact hi), List.getElem?_map, hv]
    rfl
  · rw [List.getElem?_append_right (by rw [List.length_map]; omega), List.getElem?_replicate] at e
    split at e <;> cases e
/-- a def that raises nothing, by its body -/
theorem fn_mp {x qual : Str} {st : Stmt} {f : Addr} {fd : FuncData} {N ps : List Str} {k n : Nat} {r : Env → M Fl} (F : Fun K x qual st f fd) (S : FnScope N ps (defScope st)) (hn : ps.length = n)
    (hbody : ∀ (cdv : Value) (A : Around) (outer : List PySem.Env) (s : Shared) (H : Hp) (E : XK), Room k (A.deeper (envOfC qual (defScope st) s.heap.objs.size f cdv)) → MSs (cxOf CX0 P w K mg base N qual (defScope st) f cdv A outer s H E).nox W0 (defBody st) r) :
    FnOk P w K mg base CX0 (k + 1) f fd ps (sp K mg n fun ds => noX (runB N.length r ds)) := by
  refine F.ok S (fun vs H Q E h => h.1.trans hn.symm) fun cdv A outer s H vs Q E hr h => ?_
  obtain ⟨_, ds, m, mu, hr1, R, hp⟩ := h
  refine ⟨_, (hbody cdv A outer s H E hr).ps, startE N.length ds, m, mu, startE_rep hr1, R, ?_⟩
  have hp := noX_post hp
  have e : runB N.length r ds mu = match r (startE N.length ds) mu with
    | .ok (.rt rv) mu' => .ok rv mu'
    | .ok (.nx _) mu' => .ok (.vl .non) mu'
    | .ok _ _ => .bad
    | .exc x mu' => .exc x mu'
    | .bad => .bad := rfl
  rw [e] at hp
  cases hq : r (startE N.length ds) mu with
  | bad => rw [hq] at hp; exact hp
  | exc x mu' => rw [hq] at hp; exact hp
  | ok fl mu' =>
    rw [hq] at hp
    cases fl with
    | rt rv => exact hp
    | nx e => exact fun m' H' g R' σ' _ => hp m' H' g R' .non (by simp only [Rep])
    | bk e => exact (show False from hp).elim
    | ct e => exact (show False from hp).elim
end
section
variable {X : Cx} {W : Wx} {CX : CXT} {k n : Nat} {f : Addr} {fd : FuncData} {ps : List Str} {den : List D → M Rv} {E : XK} {x : Str} {p pos : Pos} {e : Expr} {es : List Expr} {ds : List Value}
/-- what a callee lets out is wanted here -/
def XOk (CX : CXT) (X : Cx) (W : Wx) : Prop := ∃ E : XK, Passes CX X E ∧ ∀ x m H, W x m H → WE X.mg X.K E x m H
theorem xok0 {W : Wx} : XOk CX0 X W := ⟨fun _ _ _ => True, fun _ _ _ _ _ _ _ h => h.elim, fun _ _ _ _ _ _ _ => trivial⟩
def eCall (den : List D → M Rv) (rs : Env → M (List D)) : Env → M D := fun env => rs env >>= fun xs => den xs >>= fun rv => pure (rvD rv)
theorem Post.wx' {K : PySem.W.Frag} {W W' : Wx} {m : Mp} {H : Hp} {α : Type} {r : R α} {Q : α → Mp → List MO → Hp → Prop} (h : Post K W m H r Q) (hw : ∀ x m H, W x m H → W' x m H) : Post K W' m H r Q := Post.wx h hw
/-- f(e, ..) -/
theorem me_call {rs : Env → M (List D)} (F : FnOk X.prog X.w X.K X.mg X.base CX k f fd ps (sp X.K X.mg n den)) (hr : Room k X.A) (hg : Gl X x) (hm : X.mg x = some (.ref f)) (hk : PySem.W.keepIn X.K (.ref f) = true) (hb : Binds X.K fd ps []) (hx : XOk CX X W)
    (ha : MA X W (e :: es) rs) (hl : n = (e :: es).length) (hdb : (x == ("__debug__" : Str)) = false := by decide) (he : starEach (e :: es) X.env = (false, eval e X.env) :: starEach es X.env := by rfl) (hpl : (backTo pos (starEach es X.env)).any (·.1) = false := by rfl) :
    ME X W (.Call (.Name x p) (e :: es) [] pos) (eCall (fun ds mu => if ds.length = n then den ds mu else .bad) rs) := by
  obtain ⟨E, hE0, hW⟩ := hx
  refine ⟨(pe_call F hr hg hm hk hb .nil hE0 ha.pa hdb he hpl).imp fun σ H Q ⟨env, m, mu, hE, hR, hp⟩ => ⟨env, m, mu, hE, hR, (Post.bind hp).mono fun xs m1 mu1 H1 g1 R1 hp1 vs rv => ?_⟩⟩
  by_cases hlen : xs.length = n
  · have hp2 : Post X.K W m1 H1 (if xs.length = n then den xs mu1 else .bad) _ := Post.bind hp1
    rw [if_pos hlen] at hp2
    have hp1 := hp2
    refine ⟨by rw [List.append_nil, ← rv.length]; exact hlen, xs, m1, mu1, by rw [List.append_nil]; exact rv, R1, (Post.wx hp1 hW).mono fun r2 m2 mu2 H2 g2 R2 hp2 => ?_⟩
    cases r2 with
    | vl d => exact fun v rv => Post.pure (a := d) hp2 R2 v rv
    | fr ds => exact fun a vs h0 h1 hn hr _ => Post.pure (a := D.fl ds) hp2 R2 _ (by simp only [Rep]; exact ⟨a, vs, rfl, h1, hn, hr⟩)
  · have hp2 : Post X.K W m1 H1 (if xs.length = n then den xs mu1 else .bad) _ := Post.bind hp1
    rw [if_neg hlen] at hp2
    exact (show False from hp2).elim
/-- .. that hands back a new list -/
def fCall (den : List D → M Rv) (rs : Env → M (List D)) : Env → M (List D) := fun env => rs env >>= fun xs => den xs >>= fun rv => match rv with
  | .fr ds => pure ds
  | .vl _ => bad
theorem mf_call {rs : Env → M (List D)} (F : FnOk X.prog X.w X.K X.mg X.base CX k f fd ps (sp X.K X.mg n den)) (hr : Room k X.A) (hg : Gl X x) (hm : X.mg x = some (.ref f)) (hk : PySem.W.keepIn X.K (.ref f) = true) (hb : Binds X.K fd ps []) (hx : XOk CX X W)
    (ha : MA X W (e :: es) rs) (hl : n = (e :: es).length) (hdb : (x == ("__debug__" : Str)) = false := by decide) (he : starEach (e :: es) X.env = (false, eval e X.env) :: starEach es X.env := by rfl) (hpl : (backTo pos (starEach es X.env)).any (·.1) = false := by rfl) :
    MF X W (.Call (.Name x p) (e :: es) [] pos) (fCall (fun ds mu => if ds.length = n then den ds mu else .bad) rs) := by
  obtain ⟨E, hE0, hW⟩ := hx
  refine ⟨(pe_call F hr hg hm hk hb .nil hE0 ha.pa hdb he hpl).imp fun σ H Q ⟨env, m, mu, hE, hR, hp⟩ => ⟨env, m, mu, hE, hR, (Post.bind hp).mono fun xs m1 mu1 H1 g1 R1 hp1 vs rv => ?_⟩⟩
  by_cases hlen : xs.length = n
  · have hp2 : Post X.K W m1 H1 (if xs.length = n then den xs mu1 else .bad) _ := Post.bind hp1
    rw [if_pos hlen] at hp2
    have hp1 := hp2
    refine ⟨by rw [List.append_nil, ← rv.length]; exact hlen, xs, m1, mu1, by rw [List.append_nil]; exact rv, R1, (Post.wx hp1 hW).mono fun r2 m2 mu2 H2 g2 R2 hp2 => ?_⟩
    cases r2 with
    | vl d => exact (show False from hp2).elim
    | fr ds => exact NewL.from (Post.pure (a := ds) hp2 R2) g1
  · have hp2 : Post X.K W m1 H1 (if xs.length = n then den xs mu1 else .bad) _ := Post.bind hp1
    rw [if_neg hlen] at hp2
    exact (show False from hp2).elim
end
/-! ### what is left behind is forgotten, what comes back is frozen -/
mutual
/-- refs from k on are read as they stand at the end; ok: the places that may be frozen -/
inductive Frz (mu : List MO) (k : Nat) (ok : Nat → Prop) : D → D → Prop
  | non : Frz mu k ok .non .non
  | bl (b : Bool) : Frz mu k ok (.bl b) (.bl b)
  | int (i : Int) : Frz mu k ok (.int i) (.int i)
  | str (x : Str) : Frz mu k ok (.str x) (.str x)
  | tup {xs ys : List D} : Frzs mu k ok xs ys → Frz mu k ok (.tup xs) (.tup ys)
  | fl {xs ys : List D} : Frzs mu k ok xs ys → Frz mu k ok (.fl xs) (.fl ys)
  | ro {xs ys : List D} : Frzs mu k ok xs ys → Frz mu k ok (.ro xs) (.ro ys)
  | fd {ks : List Key} {xs ys : List D} : Frzs mu k ok xs ys → Frz mu k ok (.fd ks xs) (.fd ks ys)
  | ref {n : Nat} : n < k → Frz mu k ok (.ref n) (.ref n)
  | lst {n : Nat} {xs ys : List D} : k ≤ n → ok n → mu[n]? = some (.lst xs) → Frzs mu k ok xs ys → Frz mu k ok (.ref n) (.fl ys)
  | dk {n : Nat} {kvs : List (Key × D)} {ys : List D} : k ≤ n → ok n → mu[n]? = some (.dk kvs) → Frzs mu k ok (kvs.map (·.2)) ys → Frz mu k ok (.ref n) (.fd (kvs.map (·.1)) ys)
inductive Frzs (mu : List MO) (k : Nat) (ok : Nat → Prop) : List D → List D → Prop
  | nil : Frzs mu k ok [] []
  | cons {x y : D} {xs ys : List D} : Frz mu k ok x y → Frzs mu k ok xs ys → Frzs mu k ok (x :: xs) (y :: ys)
end
inductive FrzO (mu : List MO) (k : Nat) (ok : Nat → Prop) : MO → MO → Prop
  | lst {xs ys : List D} : Frzs mu k ok xs ys → FrzO mu k ok (.lst xs) (.lst ys)
  | dk {kvs kws : List (Key × D)} : kvs.map (·.1) = kws.map (·.1) → Frzs mu k ok (kvs.map (·.2)) (kws.map (·.2)) → FrzO mu k ok (.dk kvs) (.dk kws)
/-- the first places, frozen -/
structure FrzH (mu : List MO) (ok : Nat → Prop) (nu : List MO) : Prop where
  le : nu.length ≤ mu.length
  at_ : ∀ (n : Nat) (o o' : MO), mu[n]? = some o → nu[n]? = some o' → FrzO mu nu.length ok o o'
inductive FrzR (mu nu : List MO) : Rv → Rv → Prop
  | vl {d d' : D} : FrzH mu (fun _ => True) nu → Frz mu nu.length (fun _ => True) d d' → FrzR mu nu (.vl d) (.vl d')
  | newL {n : Nat} {xs ys : List D} : nu.length ≤ n → mu[n]? = some (.lst xs) → FrzH mu (fun j => j ≠ n) nu → Frzs mu nu.length (fun j => j ≠ n) xs ys → FrzR mu nu (.vl (.ref n)) (.fr ys)
  | fr {xs ys : List D} : FrzH mu (fun _ => True) nu → Frzs mu nu.length (fun _ => True) xs ys → FrzR mu nu (.fr xs) (.fr ys)
  | frv {xs ys : List D} : FrzH mu (fun _ => True) nu → Frzs mu nu.length (fun _ => True) xs ys → FrzR mu nu (.fr xs) (.vl (.fl ys))
section
variable {K : PySem.W.Frag} {m mm : Mp} {H : Hp} {mu nu : List MO} {k : Nat} {ok : Nat → Prop}
theorem zip_len {α β : Type} : ∀ {ks : List α} {vs : List β}, ks.length = vs.length → (ks.zip vs).map (·.2) = vs
  | [], [], _ => rfl
  | _ :: ks, v :: vs, h => by rw [List.zip_cons_cons, List.map_cons, zip_len (by simpa using h)]
mutual
theorem Frz.rep (R : Rel K m mu H) (h1 : ∀ n a, n < k → m.ad[n]? = some a → mm.ad[n]? = some a) (h2 : ∀ a, m.Out a → mm.Out a) (h3 : ∀ n a, k ≤ n → ok n → m.ad[n]? = some a → mm.Out a) : ∀ {d d' : D} {v : V}, Frz mu k ok d d' → Rep K m H d v → Rep K mm H d' v
  | _, _, v, .non, h => by simp only [Rep] at h ⊢; exact h
  | _, _, v, .bl _, h => by simp only [Rep] at h ⊢; exact h
  | _, _, v, .int _, h => by simp only [Rep] at h ⊢; exact h
  | _, _, v, .str _, h => by simp only [Rep] at h ⊢; exact h
  | _, _, v, .tup q, h => by
    simp only [Rep] at h ⊢
    obtain ⟨a, vs, e, hs, hr⟩ := h
    exact ⟨a, vs, e, hs, Frzs.rep R h1 h2 h3 q hr⟩
  | _, _, v, .fl q, h => by
    simp only [Rep] at h ⊢
    obtain ⟨a, vs, e, hs, hn, hr⟩ := h
    exact ⟨a, vs, e, hs, h2 a hn, Frzs.rep R h1 h2 h3 q hr⟩
  | _, _, v, .ro q, h => by
    simp only [Rep] at h ⊢
    obtain ⟨a, vs, e, hs, hr⟩ := h
    exact ⟨a, vs, e, hs, Frzs.rep R h1 h2 h3 q hr⟩
  | _, _, v, .fd q, h => by
    simp only [Rep] at h ⊢
    obtain ⟨a, vs, e, hs, hn, hl, hr⟩ := h
    have hr' := Frzs.rep R h1 h2 h3 q hr
    exact ⟨a, vs, e, hs, h2 a hn, by rw [hl, hr.length, hr'.length], hr'⟩
  | _, _, v, .ref hk, h => by
    simp only [Rep] at h ⊢
    obtain ⟨a, e, hm⟩ := h
    exact ⟨a, e, h1 _ a hk hm⟩
  | _, _, v, .lst hk ho hx q, h => by
    simp only [Rep] at h ⊢
    obtain ⟨a, e, hm⟩ := h
    obtain ⟨vs, hH, hr⟩ := R.obj _ _ a hx hm
    exact ⟨a, vs, e, hH, h3 _ a hk ho hm, Frzs.rep R h1 h2 h3 q hr⟩
  | _, _, v, .dk hk ho hx q, h => by
    simp only [Rep] at h ⊢
    obtain ⟨a, e, hm⟩ := h
    obtain ⟨vs, hH, hr⟩ := R.obj _ _ a hx hm
    have hr' := Frzs.rep R h1 h2 h3 q hr
    refine ⟨a, vs, e, hH, h3 _ a hk ho hm, ?_, hr'⟩
    have := hr.length
    rw [List.length_map] at this
    rw [List.length_map, this, hr'.length]
theorem Frzs.rep (R : Rel K m mu H) (h1 : ∀ n a, n < k → m.ad[n]? = some a → mm.ad[n]? = some a) (h2 : ∀ a, m.Out a → mm.Out a) (h3 : ∀ n a, k ≤ n → ok n → m.ad[n]? = some a → mm.Out a) : ∀ {ds es : List D} {vs : List V}, Frzs mu k ok ds es → Reps K m H ds vs → Reps K mm H es vs
  | _, _, vs, .nil, h => by rw [Reps.nil_iff] at h ⊢; exact h
  | _, _, vs, .cons q qs, h => by
    obtain ⟨v, r, e, r1, r2⟩ := Reps.cons_iff.mp h
    exact Reps.cons_iff.mpr ⟨v, r, e, Frz.rep R h1 h2 h3 q r1, Frzs.rep R h1 h2 h3 qs r2⟩
end
theorem FrzO.rep (R : Rel K m mu H) (h1 : ∀ n a, n < k → m.ad[n]? = some a → mm.ad[n]? = some a) (h2 : ∀ a, m.Out a → mm.Out a) (h3 : ∀ n a, k ≤ n → ok n → m.ad[n]? = some a → mm.Out a) {a : Addr} {o o' : MO} (q : FrzO mu k ok o o') (h : RepO K m H a o) : RepO K mm H a o' := by
  cases q with
  | lst q => obtain ⟨vs, hH, hr⟩ := h; exact ⟨vs, hH, Frzs.rep R h1 h2 h3 q hr⟩
  | dk e q => obtain ⟨vs, hH, hr⟩ := h; exact ⟨vs, by rw [← e]; exact hH, Frzs.rep R h1 h2 h3 q hr⟩
/-- the first places alone -/
def Mp.cut (m : Mp) (k : Nat) : Mp := ⟨m.ad.take k, m.no⟩
theorem cut_get {n : Nat} {a : Addr} (hn : n < k) (h : m.ad[n]? = some a) : (m.cut k).ad[n]? = some a := by
  show (m.ad.take k)[n]? = some a
  rw [List.getElem?_take_of_lt hn]; exact h
theorem cut_out {a : Addr} (h : m.Out a) : (m.cut k).Out a := ⟨fun z => h.1 (List.mem_of_mem_take z), h.2⟩
theorem cut_not {n : Nat} {a : Addr} (R : Rel K m mu H) (hk : k ≤ n) (h : m.ad[n]? = some a) : (m.cut k).Out a := by
  refine ⟨fun z => ?_, R.dj a (List.mem_of_getElem? h)⟩
  obtain ⟨j, hj⟩ := List.mem_iff_getElem?.mp (show a ∈ m.ad.take k from z)
  have hjk : j < k := by
    have := (List.getElem?_eq_some_iff.mp hj).1
    rw [List.length_take] at this
    omega
  rw [List.getElem?_take_of_lt hjk] at hj
  have := nodup_ix' R.nd hj h
  omega
theorem FrzH.rel (R : Rel K m mu H) {ok : Nat → Prop} (q : FrzH mu ok nu) (mm : Mp) (he : mm.ad = m.ad.take nu.length) (hno : mm.no = m.no) : Rel K mm nu H := by
  have e : mm = m.cut nu.length := by cases mm; simp only at he hno; rw [he, hno]; rfl
  subst e
  refine ⟨by show (m.ad.take nu.length).length = _; rw [List.length_take, R.len]; have := q.le; omega, R.nd.sublist (List.take_sublist _ _), R.nos, fun a ha => R.dj a (List.mem_of_mem_take ha), fun n o' a h1 h2 => ?_⟩
  have hn : n < nu.length := (List.getElem?_eq_some_iff.mp h1).1
  have h2' : m.ad[n]? = some a := by
    have h2 : (m.ad.take nu.length)[n]? = some a := h2
    rw [List.getElem?_take_of_lt hn] at h2; exact h2
  obtain ⟨o, ho, hr⟩ := R.at' h2'
  exact (q.at_ n o o' ho h1).rep R (fun n a hk h => cut_get hk h) (fun a h => cut_out h) (fun n a hk _ h => cut_not R hk h) hr
end
end MP
namespace MP
open PySem L2 PyProof.Rows
/-! ### a datum that names only old places is its own freezing -/
def Clo (k : Nat) (d : D) : Prop := ∀ mu ok, Frz mu k ok d d
def Clos (k : Nat) (ds : List D) : Prop := ∀ mu ok, Frzs mu k ok ds ds
theorem Clos.nil {k : Nat} : Clos k [] := fun _ _ => .nil
theorem Clos.cons {k : Nat} {d : D} {ds : List D} (h : Clo k d) (hs : Clos k ds) : Clos k (d :: ds) := fun mu ok => .cons (h mu ok) (hs mu ok)
theorem Clos.inv {k : Nat} {d : D} {ds : List D} (h : Clos k (d :: ds)) : Clo k d ∧ Clos k ds := ⟨fun mu ok => by
  have := h mu ok
  cases this with
  | cons a b => exact a, fun mu ok => by
  have := h mu ok
  cases this with
  | cons a b => exact b⟩
theorem Clos.mem {k : Nat} : ∀ {ds : List D}, Clos k ds → ∀ d ∈ ds, Clo k d
  | d :: ds, h, x, hx => by
    rcases List.mem_cons.mp hx with e | e
    · rw [e]; exact h.inv.1
    · exact Clos.mem h.inv.2 x e
theorem Clos.of {k : Nat} : ∀ {ds : List D}, (∀ d ∈ ds, Clo k d) → Clos k ds
  | [], _ => .nil
  | d :: ds, h => .cons (h d (by simp)) (Clos.of fun x hx => h x (by simp [hx]))
theorem Clo.tup {k : Nat} {ds : List D} : Clo k (.tup ds) ↔ Clos k ds := ⟨fun h mu ok => by
  have := h mu ok
  cases this with
  | tup q => exact q, fun h mu ok => .tup (h mu ok)⟩
theorem Clo.fl {k : Nat} {ds : List D} : Clo k (.fl ds) ↔ Clos k ds := ⟨fun h mu ok => by
  have := h mu ok
  cases this with
  | fl q => exact q, fun h mu ok => .fl (h mu ok)⟩
theorem Clo.ro {k : Nat} {ds : List D} : Clo k (.ro ds) ↔ Clos k ds := ⟨fun h mu ok => by
  have := h mu ok
  cases this with
  | ro q => exact q, fun h mu ok => .ro (h mu ok)⟩
theorem Clo.fd {k : Nat} {ks : List Key} {ds : List D} : Clo k (.fd ks ds) ↔ Clos k ds := ⟨fun h mu ok => by
  have := h mu ok
  cases this with
  | fd q => exact q, fun h mu ok => .fd (h mu ok)⟩
theorem Clo.ref {k n : Nat} : Clo k (.ref n) ↔ n < k := ⟨fun h => by
  have := h [] (fun _ => False)
  cases this with
  | ref h => exact h, fun h mu ok => .ref h⟩
theorem Clo.non {k : Nat} : Clo k .non := fun _ _ => .non
theorem Clo.bl {k : Nat} {b : Bool} : Clo k (.bl b) := fun _ _ => .bl b
theorem Clo.int {k : Nat} {i : Int} : Clo k (.int i) := fun _ _ => .int i
theorem Clo.str {k : Nat} {x : Str} : Clo k (.str x) := fun _ _ => .str x
section
variable {K : PySem.W.Frag} {m mm : Mp} {H : Hp} {mu nu : List MO} {k : Nat} {ok : Nat → Prop}
mutual
theorem Rep.clo : ∀ {d : D} {v : V}, Rep K m H d v → Clo m.ad.length d
  | .non, v, _ => Clo.non
  | .bl b, v, _ => Clo.bl
  | .int i, v, _ => Clo.int
  | .str x, v, _ => Clo.str
  | .tup ds, v, h => by
    simp only [Rep] at h
    obtain ⟨a, vs, e, hs, hr⟩ := h
    exact Clo.tup.mpr (Reps.clo hr)
  | .fl ds, v, h => by
    simp only [Rep] at h
    obtain ⟨a, vs, e, hs, hn, hr⟩ := h
    exact Clo.fl.mpr (Reps.clo hr)
  | .ro ds, v, h => by
    simp only [Rep] at h
    obtain ⟨a, vs, e, hs, hr⟩ := h
    exact Clo.ro.mpr (Reps.clo hr)
  | .fd ks ds, v, h => by
    simp only [Rep] at h
    obtain ⟨a, vs, e, hs, hn, hl, hr⟩ := h
    exact Clo.fd.mpr (Reps.clo hr)
  | .ref n, v, h => by
    simp only [Rep] at h
    obtain ⟨a, e, hm⟩ := h
    exact Clo.ref.mpr (List.getElem?_eq_some_iff.mp hm).1
theorem Reps.clo : ∀ {ds : List D} {vs : List V}, Reps K m H ds vs → Clos m.ad.length ds
  | [], vs, _ => Clos.nil
  | d :: ds, vs, h => by
    obtain ⟨v, r, e, r1, r2⟩ := Reps.cons_iff.mp h
    exact Clos.cons (Rep.clo r1) (Reps.clo r2)
end
def CloO (k : Nat) : MO → Prop
  | .lst xs => Clos k xs
  | .dk kvs => Clos k (kvs.map (·.2))
/-- a small heap that names only its own places -/
def CloH (mu : List MO) : Prop := ∀ o ∈ mu, CloO mu.length o
theorem Rel.clo (R : Rel K m mu H) : CloH mu := fun o ho => by
  obtain ⟨n, hn⟩ := List.mem_iff_getElem?.mp ho
  obtain ⟨a, _, hr⟩ := R.at hn
  rw [← R.len]
  cases o with
  | lst xs => obtain ⟨vs, _, h⟩ := hr; exact Reps.clo h
  | dk kvs => obtain ⟨vs, _, h⟩ := hr; exact Reps.clo h
theorem CloO.frz {o : MO} (h : CloO k o) : FrzO mu k ok o o := by
  cases o with
  | lst xs => exact .lst (h mu ok)
  | dk kvs => exact .dk rfl (h mu ok)
/-- what stands ahead of new places stays as it is -/
theorem CloH.frz (h : CloH mu) (ex : List MO) : FrzH (mu ++ ex) ok mu := ⟨by rw [List.length_append]; omega, fun n o o' h1 h2 => by
  rw [List.getElem?_append_left (List.getElem?_eq_some_iff.mp h2).1, h2] at h1
  cases h1
  exact (h o (List.mem_of_getElem? h2)).frz⟩
theorem Frz.weak {mu mu' : List MO} {k : Nat} {ok ok' : Nat → Prop} (h : ∀ n o, mu[n]? = some o → ok n → mu'[n]? = some o ∧ ok' n) : (∀ {d d' : D}, Frz mu k ok d d' → Frz mu' k ok' d d') ∧ (∀ {d d' : List D}, Frzs mu k ok d d' → Frzs mu' k ok' d d') := by
  have key : ∀ {d d' : D} (q : Frz mu k ok d d'), Frz mu' k ok' d d' := by
    intro d d' q
    exact Frz.rec (motive_1 := fun d d' _ => Frz mu' k ok' d d') (motive_2 := fun d d' _ => Frzs mu' k ok' d d') .non .bl .int .str (fun _ q => .tup q) (fun _ q => .fl q) (fun _ q => .ro q) (fun _ q => .fd q) .ref (fun hk ho hx _ q => .lst hk (h _ _ hx ho).2 (h _ _ hx ho).1 q) (fun hk ho hx _ q => .dk hk (h _ _ hx ho).2 (h _ _ hx ho).1 q) .nil (fun _ _ q qs => .cons q qs) q
  refine ⟨key, ?_⟩
  intro d d' q
  exact Frzs.rec (motive_1 := fun d d' _ => Frz mu' k ok' d d') (motive_2 := fun d d' _ => Frzs mu' k ok' d d') .non .bl .int .str (fun _ q => .tup q) (fun _ q => .fl q) (fun _ q => .ro q) (fun _ q => .fd q) .ref (fun hk ho hx _ q => .lst hk (h _ _ hx ho).2 (h _ _ hx ho).1 q) (fun hk ho hx _ q => .dk hk (h _ _ hx ho).2 (h _ _ hx ho).1 q) .nil (fun _ _ q qs => .cons q qs) q
theorem FrzO.weak {mu mu' : List MO} {k : Nat} {ok ok' : Nat → Prop} (h : ∀ n o, mu[n]? = some o → ok n → mu'[n]? = some o ∧ ok' n) {o o' : MO} (q : FrzO mu k ok o o') : FrzO mu' k ok' o o' := by
  cases q with
  | lst q => exact .lst ((Frz.weak h).2 q)
  | dk e q => exact .dk e ((Frz.weak h).2 q)
/-- a list handed out of the small heap -/
theorem frz_add {n : Nat} {a : Addr} {vs : List V} {xs ys : List D} (R : Rel K m mu H) (q : FrzH mu (fun j => j ≠ n) nu) (hk : nu.length ≤ n) (hx : mu[n]? = some (.lst xs)) (hm : m.ad[n]? = some a) (hys : Frzs mu nu.length (fun j => j ≠ n) xs ys) (hv : H a = some (.lst vs)) (hr : Reps K m H xs vs) :
    (m.cut nu.length).Out a ∧ Reps K (m.cut nu.length) H ys vs ∧ Rel K ((m.cut nu.length).add a) (nu ++ [.lst ys]) H := by
  have hout := cut_not (k := nu.length) R hk hm
  have R1 := q.rel R (m.cut nu.length) rfl rfl
  have g1 : ∀ n' a', n' < nu.length → m.ad[n']? = some a' → ((m.cut nu.length).add a).ad[n']? = some a' := fun n' a' h e => by
    show ((m.cut nu.length).ad ++ [a])[n']? = some a'
    rw [List.getElem?_append_left (by rw [R1.len]; exact h)]
    exact cut_get h e
  have g2 : ∀ a', m.Out a' → ((m.cut nu.length).add a).Out a' := fun a' h => ⟨fun z => by
    rcases List.mem_append.mp (show a' ∈ (m.cut nu.length).ad ++ [a] from z) with z | z
    · exact (cut_out h).1 z
    · rw [List.mem_singleton.mp z] at h
      exact h.1 (List.mem_of_getElem? hm), h.2⟩
  have g3 : ∀ n' a', nu.length ≤ n' → n' ≠ n → m.ad[n']? = some a' → ((m.cut nu.length).add a).Out a' := fun n' a' h1 h2 e => ⟨fun z => by
    rcases List.mem_append.mp (show a' ∈ (m.cut nu.length).ad ++ [a] from z) with z | z
    · exact (cut_not R h1 e).1 z
    · rw [List.mem_singleton.mp z] at e
      exact h2 (nodup_ix' R.nd e hm), R.dj a' (List.mem_of_getElem? e)⟩
  refine ⟨hout, hys.rep R (fun n a hk h => cut_get hk h) (fun a h => cut_out h) (fun n a hk _ h => cut_not R hk h) hr, ?_⟩
  refine ⟨?_, ?_, R.nos, ?_, ?_⟩
  · show ((m.cut nu.length).ad ++ [a]).length = _
    rw [List.length_append, List.length_append, R1.len]; rfl
  · show ((m.cut nu.length).ad ++ [a]).Nodup
    rw [List.nodup_append]
    exact ⟨R1.nd, by simp, fun x hx y hy e => by rw [List.mem_singleton.mp hy] at e; rw [e] at hx; exact hout.1 hx⟩
  · intro a' ha'
    rcases List.mem_append.mp (show a' ∈ (m.cut nu.length).ad ++ [a] from ha') with z | z
    · exact R1.dj a' z
    · rw [List.mem_singleton.mp z]; exact hout.2
  · intro n' o' a' h1 h2
    have h2 : ((m.cut nu.length).ad ++ [a])[n']? = some a' := h2
    by_cases hn' : n' < nu.length
    · rw [List.getElem?_append_left hn'] at h1
      rw [List.getElem?_append_left (by rw [R1.len]; exact hn')] at h2
      have h2 : (m.ad.take nu.length)[n']? = some a' := h2
      rw [List.getElem?_take_of_lt hn'] at h2
      obtain ⟨o, ho, hr'⟩ := R.at' h2
      exact (q.at_ n' o o' ho h1).rep R g1 g2 g3 hr'
    · rw [List.getElem?_append_right (by omega)] at h1
      rw [List.getElem?_append_right (by rw [R1.len]; omega), R1.len] at h2
      have e0 : n' - nu.length = 0 := by
        have := (List.getElem?_eq_some_iff.mp h1).1
        simp only [List.length_cons, List.length_nil] at this
        omega
      rw [e0] at h1 h2
      simp only [List.getElem?_cons_zero, Option.some.injEq] at h1 h2
      subst h1 h2
      exact ⟨vs, hv, hys.rep R g1 g2 g3 hr⟩
/-- the law of an answer that has been frozen -/
inductive FrzX (mu nu : List MO) : Xn → Xn → Prop
  | mk {c : Str} {ks : List Str} {xs ys : List D} : ks.length = xs.length → ks.length = ys.length → FrzH mu (fun _ => True) nu → Frzs mu nu.length (fun _ => True) xs ys → FrzX mu nu ⟨c, ks.zip xs⟩ ⟨c, ks.zip ys⟩
/-- den is as den' says, but for what is left behind -/
def GC (n : Nat) (den den' : List D → M Rv) : Prop := ∀ ds mu, ds.length = n → Clos mu.length ds → CloH mu → match den' ds mu with
  | .bad => True
  | .ok rv' nu => ∃ rv mu', den ds mu = .ok rv mu' ∧ mu.length ≤ nu.length ∧ FrzR mu' nu rv rv'
  | .exc x' nu => ∃ x mu', den ds mu = .exc x mu' ∧ mu.length ≤ nu.length ∧ FrzX mu' nu x x'
theorem Grow.cut {m m' : Mp} {H H' : Hp} {k : Nat} (g : Grow m m' H H') (hk : m.ad.length ≤ k) : Grow m (m'.cut k) H H' := by
  obtain ⟨l, j, e1, e2, hl, hj⟩ := g.ext
  refine ⟨⟨l.take (k - m.ad.length), j, ?_, e2, fun a ha => hl a (List.mem_of_mem_take ha), hj⟩, g.oth, g.tups, g.frzs, g.trk⟩
  show m'.ad.take k = _
  rw [e1, List.take_append, List.take_of_length_le hk]
theorem Grow.new {m m' : Mp} {H H' : Hp} (g : Grow m m' H H') {n : Nat} {a : Addr} (hn : m.ad.length ≤ n) (h : m'.ad[n]? = some a) : H a = none := by
  obtain ⟨l, j, e1, _, hl, _⟩ := g.ext
  rw [e1, List.getElem?_append_right hn] at h
  exact hl a (List.mem_of_getElem? h)
theorem Post.gc {W : Wx} {m : Mp} {den den' : List D → M Rv} {n : Nat} {ds : List D} {vs : List V} {Q : VK} (hg : GC n den den') (hn : ds.length = n) (hr : Reps K m H ds vs) (R : Rel K m mu H)
    (hW : ∀ x x' mu' nu m' H', FrzX mu' nu x x' → Rel K m' mu' H' → W x' (m'.cut nu.length) H' → W x m' H')
    (hp : Post K W m H (den' ds mu) fun rv m' mu' H' => RvQ K H rv m' mu' H' Q) : Post K W m H (den ds mu) fun rv m' mu' H' => RvQ K H rv m' mu' H' Q := by
  have hc := hg ds mu hn (by rw [← R.len]; exact hr.clo) R.clo
  cases e : den' ds mu with
  | bad => rw [e] at hp; exact (show False from hp).elim
  | exc x' nu =>
    rw [e] at hc hp
    obtain ⟨x, mu', e', hl, hx⟩ := hc
    rw [e']
    intro m' H' g R'
    refine hW x x' mu' nu m' H' hx R' (hp _ H' (g.cut (by rw [R.len]; exact hl)) ?_)
    cases hx with
    | mk _ _ hh _ => exact hh.rel R' _ rfl rfl
  | ok rv' nu =>
    rw [e] at hc hp
    obtain ⟨rv, mu', e', hl, hf⟩ := hc
    rw [e']
    intro m' H' g R'
    have gc := g.cut (k := nu.length) (by rw [R.len]; exact hl)
    cases hf with
    | vl hh hd =>
      have hq := hp _ H' gc (hh.rel R' _ rfl rfl)
      exact fun v rv => hq v (hd.rep R' (fun n a hk h => cut_get hk h) (fun a h => cut_out h) (fun n a hk _ h => cut_not R' hk h) rv)
    | newL hk hx hh hys =>
      have hq := hp _ H' gc (hh.rel R' _ rfl rfl)
      intro v rv
      simp only [Rep] at rv
      obtain ⟨a, ev, hm⟩ := rv
      obtain ⟨vs, hv, hr'⟩ := R'.obj _ _ a hx hm
      obtain ⟨h1, h2, h3⟩ := frz_add R' hh hk hx hm hys hv hr'
      rw [ev]
      exact hq a vs (g.new (by rw [R.len]; omega) hm) hv h1 h2 h3
    | fr hh hys =>
      have hq := hp _ H' gc (hh.rel R' _ rfl rfl)
      rename_i xs ys
      intro a vs h0 h1 ho hr' R2
      have hm : (m'.add a).ad[mu'.length]? = some a := by
        show (m'.ad ++ [a])[mu'.length]? = some a
        rw [List.getElem?_append_right (by rw [R'.len]; exact Nat.le_refl _), R'.len]; simp
      have hx : (mu' ++ [MO.lst xs])[mu'.length]? = some (.lst xs) := by
        rw [List.getElem?_append_right (Nat.le_refl _)]; simp
      have wk : ∀ n o, mu'[n]? = some o → True → (mu' ++ [MO.lst xs])[n]? = some o ∧ n ≠ mu'.length := fun n o h _ => by
        have := (List.getElem?_eq_some_iff.mp h).1
        exact ⟨by rw [List.getElem?_append_left this]; exact h, by omega⟩
      have hh' : FrzH (mu' ++ [MO.lst xs]) (fun j => j ≠ mu'.length) nu := ⟨by rw [List.length_append]; have := hh.le; omega, fun n o o' h1 h2 => by
        have hlt : n < mu'.length := Nat.lt_of_lt_of_le (List.getElem?_eq_some_iff.mp h2).1 hh.le
        rw [List.getElem?_append_left hlt] at h1
        exact (hh.at_ n o o' h1 h2).weak wk⟩
      have hr2 : Reps K (m'.add a) H' xs vs := by
        obtain ⟨vs2, hv2, hr2⟩ := R2.obj _ _ a hx hm
        rw [h1] at hv2
        cases hv2
        exact hr2
      obtain ⟨q1, q2, q3⟩ := frz_add R2 hh' (by have := hh.le; omega) hx hm ((Frz.weak wk).2 hys) h1 hr2
      have ec : (m'.add a).cut nu.length = m'.cut nu.length := by
        show Mp.mk ((m'.ad ++ [a]).take nu.length) m'.no = Mp.mk (m'.ad.take nu.length) m'.no
        rw [List.take_append_of_le_length (by rw [R'.len]; exact hh.le)]
      rw [ec] at q1 q2 q3
      exact hq a vs h0 h1 q1 q2 q3
    | frv hh hys =>
      have hq := hp _ H' gc (hh.rel R' _ rfl rfl)
      intro a vs h0 h1 ho hr' R2
      refine hq (.ref a) ?_
      simp only [Rep]
      exact ⟨a, vs, rfl, h1, cut_out ho, hys.rep R' (fun n a hk h => cut_get hk h) (fun a h => cut_out h) (fun n a hk _ h => cut_not R' hk h) hr'⟩
theorem XRep.gc {mg : Str → Option Value} {m : Mp} {x x' : Xn} (hx : FrzX mu nu x x') (R : Rel K m mu H) {cls : Value} {d : Option Addr} (h : XRep mg K m H x cls d) : XRep mg K (m.cut nu.length) H x' cls d := by
  cases hx with
  | @mk c ks xs ys l1 l2 hh hf =>
    obtain ⟨h1, h2⟩ := h
    refine ⟨h1, ?_⟩
    cases d with
    | none =>
      have h2 : ks.zip xs = [] := h2
      show ks.zip ys = []
      cases ks with
      | nil => rfl
      | cons k ks => cases xs with
        | nil => simp at l1
        | cons x xs => simp at h2
    | some p =>
      obtain ⟨gs, g1, g2, g3⟩ := h2
      refine ⟨gs, g1, ?_, ?_⟩
      · rw [g2]
        show (ks.zip xs).map (·.1) = (ks.zip ys).map (·.1)
        rw [List.map_fst_zip (by omega), List.map_fst_zip (by omega)]
      · show Reps K _ H ((ks.zip ys).map (·.2)) _
        have g3 : Reps K m H ((ks.zip xs).map (·.2)) _ := g3
        rw [zip_len l2]
        rw [zip_len l1] at g3
        exact hf.rep R (fun n a hk h => cut_get hk h) (fun a h => cut_out h) (fun n a hk _ h => cut_not R hk h) g3
end
/-- a def's promise, without what it leaves behind -/
theorem sp_gc {P : Program} {w : World} {K : PySem.W.Frag} {mg : Str → Option Value} {base : Heap} {CX : CXT} {k n : Nat} {f : Addr} {fd : FuncData} {ps : List Str} {den den' : List D → M Rv} (F : FnOk P w K mg base CX k f fd ps (sp K mg n den)) (hg : GC n den den') : FnOk P w K mg base CX k f fd ps (sp K mg n den') :=
  F.imp fun vs H Q E ⟨h1, ds, m, mu, hr, R, hp⟩ => ⟨h1, ds, m, mu, hr, R, Post.gc hg (by rw [hr.length]; exact h1) hr R (fun x x' mu' nu m' H' hx R' hw cls d h => hw cls d (XRep.gc hx R' h)) hp⟩
end MP
namespace MP
open PySem L2 PyProof.Rows
/-! ### dicts that change -/
def mapV {β : Type} (kvs : List (Key × β)) (k : Key) (y : β) : List (Key × β) := kvs.map fun kv => if kv.1 = k then (kv.1, y) else kv
def putD {β : Type} (kvs : List (Key × β)) (k : Key) (y : β) : List (Key × β) := if (kvs.any fun kv => decide (kv.1 = k)) = true then mapV kvs k y else kvs ++ [(k, y)]
theorem mapV_keys {β : Type} {k : Key} {y : β} : ∀ (kvs : List (Key × β)), (mapV kvs k y).map (·.1) = kvs.map (·.1)
  | [] => rfl
  | p :: r => by
    have ih := mapV_keys (k := k) (y := y) r
    unfold mapV at ih ⊢
    rw [List.map_cons, List.map_cons, List.map_cons, ih]
    by_cases e : p.1 = k
    · rw [if_pos e]
    · rw [if_neg e]
theorem any_zip {α : Type} {k : Key} : ∀ (kvs : List (Key × α)) {β : Type} (vs : List β), kvs.length = vs.length → (((kvs.map (·.1)).zip vs).any fun kv => decide (kv.1 = k)) = kvs.any fun kv => decide (kv.1 = k)
  | [], _, _, _ => by simp
  | p :: r, _, [], h => by simp at h
  | p :: r, _, v :: vs, h => by
    rw [List.map_cons, List.zip_cons_cons, List.any_cons, List.any_cons, any_zip r vs (by simpa using h)]
theorem mapV_rep {K : PySem.W.Frag} {m : Mp} {H : Hp} {k : Key} {d : D} {v : V} (hd : Rep K m H d v) : ∀ {kvs : List (Key × D)} {vs : List V}, Reps K m H (kvs.map (·.2)) vs → Reps K m H ((mapV kvs k d).map (·.2)) ((mapV ((kvs.map (·.1)).zip vs) k v).map (·.2))
  | [], vs, h => by rw [List.map_nil, Reps.nil_iff] at h; subst h; exact Reps.nil_iff.mpr rfl
  | p :: r, vs, h => by
    rw [List.map_cons] at h
    obtain ⟨w, ws, rfl, h1, h2⟩ := Reps.cons_iff.mp h
    have ih := mapV_rep (k := k) hd h2
    unfold mapV at ih ⊢
    rw [List.map_cons, List.map_cons, List.map_cons, List.zip_cons_cons, List.map_cons, List.map_cons]
    refine Reps.cons_iff.mpr ⟨_, _, rfl, ?_, ih⟩
    by_cases e : p.1 = k
    · rw [if_pos e, if_pos e]; exact hd
    · rw [if_neg e, if_neg e]; exact h1
theorem put_rep {K : PySem.W.Frag} {m : Mp} {H : Hp} {k : Key} {d : D} {v : V} {kvs : List (Key × D)} {vs : List V} (h : Reps K m H (kvs.map (·.2)) vs) (hd : Rep K m H d v) : ∃ ws, putK ((kvs.map (·.1)).zip vs) k v = ((putD kvs k d).map (·.1)).zip ws ∧ ∀ m' H', Reps K m' H' (kvs.map (·.2)) vs → Rep K m' H' d v → Reps K m' H' ((putD kvs k d).map (·.2)) ws := by
  have hl : kvs.length = vs.length := by have := h.length; rwa [List.length_map] at this
  unfold putK putD
  rw [any_zip kvs vs hl]
  by_cases a : (kvs.any fun kv => decide (kv.1 = k)) = true
  · rw [if_pos a, if_pos a]
    refine ⟨(mapV ((kvs.map (·.1)).zip vs) k v).map (·.2), ?_, fun m' H' h hd => mapV_rep hd h⟩
    rw [mapV_keys]
    have e : (mapV ((kvs.map (·.1)).zip vs) k v).map (·.1) = kvs.map (·.1) := by rw [mapV_keys, List.map_fst_zip (by rw [List.length_map]; omega)]
    have z := zip_keys (mapV ((kvs.map (·.1)).zip vs) k v)
    rw [e] at z
    exact z.symm
  · rw [if_neg a, if_neg a]
    refine ⟨vs ++ [v], ?_, fun m' H' h hd => ?_⟩
    · rw [List.map_append, List.zip_append (by rw [List.length_map]; exact hl)]; rfl
    · rw [List.map_append]; exact h.append (Reps.one hd)
def putM (o k v : D) : M D := toR o >>= fun n => toK k >>= fun kk => modD n fun kvs => if kvs.length < sizeLine then some (putD kvs kk v, .non) else none
section
variable {X : Cx} {W : Wx} {e o a b c value i : Expr} {es : List Expr} {pos apos cpos tpos p pos' : Pos}
theorem putM_ok {K : PySem.W.Frag} {W : Wx} {m : Mp} {H : Hp} {mu : List MO} {o k d : D} {x y v : V} {Q : D → Mp → List MO → Hp → Prop} (R : Rel K m mu H) (ho : Rep K m H o x) (hk : Rep K m H k y) (hd : Rep K m H d v) (hp : Post K W m H (putM o k d mu) Q) :
    ∃ a H4 mu', x = .ref a ∧ DPut H a y v H4 ∧ Grow m m H H4 ∧ Rel K m mu' H4 ∧ Q .non m mu' H4 := by
  unfold putM at hp
  obtain ⟨n, a, rfl, rfl, hm, hp⟩ := toR_ok R ho (Post.bind hp)
  obtain ⟨kk, rfl, hp⟩ := toK_ok R hk (Post.bind hp)
  obtain ⟨kvs, us, ys, d', hH, hrs, hf, hg, hq⟩ := modD_ok R hm hp
  by_cases hl : kvs.length < sizeLine
  · rw [if_pos hl] at hf
    cases hf
    obtain ⟨ws, e, hr⟩ := put_rep (k := kk) hrs hd
    have gg := hg (((putD kvs kk d).map (·.1)).zip ws)
    have rr := hr m _ (Reps.grow gg _ _ hrs) (Rep.grow gg _ _ hd)
    have hlen : ((kvs.map (·.1)).zip us).length = kvs.length := by have := hrs.length; rw [List.length_map] at this; rw [List.length_zip, List.length_map, ← this, Nat.min_self]
    exact ⟨a, _, _, rfl, by rw [← e]; exact DPut.k hH (by rw [hlen]; exact hl), gg, R.write hm (show RepO K m _ a (.dk (putD kvs kk d)) from ⟨ws, upd_same, rr⟩), hq ws rr⟩
  · rw [if_neg hl] at hf; cases hf
/-- d[k] = v -/
def sDput (ro ri rv : Env → M D) : Env → M Fl := fun env => rv env >>= fun v => ro env >>= fun o => ri env >>= fun i => putM o i v >>= fun _ => pure (.nx env)
theorem ms_dput {ro ri rv : Env → M D} (hu : X.A.units + 1 < cLine) (ho : ME X W o ro) (hi : ME X W i ri) (hv : ME X W value rv) (hs : swapsWith value (some (.Subscript o i pos')) pos.line X.env = pure false := by rfl) :
    MS X W (.Assign [.Subscript o i pos'] value pos) (sDput ro ri rv) := ⟨(ps_dput hu ho.pe hi.pe hv.pe hs).imp fun D σ H ⟨env, m, mu, hE, hR, hp⟩ =>
  ⟨env, m, mu, hE, hR, (Post.bind hp).mono fun v m1 mu1 H1 g1 R1 hp vv rv => ⟨env, m1, mu1, hE.grow g1, R1, (Post.bind hp).mono fun o m2 mu2 H2 g2 R2 hp ov ro => ⟨env, m2, mu2, (hE.grow g1).grow g2, R2, (Post.bind hp).mono fun i m3 mu3 H3 g3 R3 hp iv ri => by
    obtain ⟨a, H4, mu4, ex, hd, g4, R4, hq⟩ := putM_ok R3 (Rep.grow g3 o ov ro) ri (Rep.grow g3 v vv (Rep.grow g2 v vv rv)) (Post.bind hp)
    exact ⟨a, H4, ex, hd, (Post.pure hq R4) σ ((((hE.grow g1).grow g2).grow g3).grow g4)⟩⟩⟩⟩⟩
/-- d.get(k), d.get(k, x) -/
def dctK (o : D) : M Unit := rdD o >>= fun _ => pure ()
def eGet1 (ro ri : Env → M D) : Env → M D := fun env => ro env >>= fun o => dctK o >>= fun _ => ri env >>= fun y => rdD o >>= fun kvs => toK y >>= fun k => pure ((valD kvs k).getD .non)
def eGet2 (ro ri rx : Env → M D) : Env → M D := fun env => ro env >>= fun o => dctK o >>= fun _ => ri env >>= fun y => rx env >>= fun x => rdD o >>= fun kvs => toK y >>= fun k => pure ((valD kvs k).getD x)
theorem dctK_ok {K : PySem.W.Frag} {W : Wx} {m : Mp} {H : Hp} {mu : List MO} {d : D} {v : V} {Q : Unit → Mp → List MO → Hp → Prop} (R : Rel K m mu H) (h : Rep K m H d v) (hp : Post K W m H (dctK d mu) Q) : ∃ a, v = .ref a ∧ IsD H a ∧ Q () m mu H := by
  obtain ⟨a, kvs, vs, rfl, hH, hr, hp⟩ := rdD_ok R h (Post.bind hp)
  exact ⟨a, rfl, .inl ⟨_, .inl hH⟩, Post.pure hp R⟩
theorem me_get1 {ro ri : Env → M D} (hu : X.A.units + 1 < cLine) (ho : ME X W o ro) (hi : ME X W e ri) (m : M1 X o "get" apos e cpos := by exact ⟨rfl, rfl, rfl, rfl⟩) : ME X W (.Call (.Attribute o "get" apos) [e] [] cpos) (eGet1 ro ri) := ⟨(pe_dget1 hu ho.pe hi.pe m).imp fun σ H Q ⟨env, m, mu, hE, hR, hp⟩ =>
  ⟨env, m, mu, hE, hR, (Post.bind hp).mono fun o m1 mu1 H1 g1 R1 hp ov ro => by
    obtain ⟨a, rfl, hi, hp⟩ := dctK_ok R1 ro (Post.bind hp)
    refine ⟨a, rfl, hi, env, m1, mu1, hE.grow g1, R1, (Post.bind hp).mono fun y m2 mu2 H2 g2 R2 hp yv ry => ?_⟩
    obtain ⟨p, kvs, vs, e, hH, hr, hp⟩ := rdD_ok R2 (Rep.grow g2 o _ ro) (Post.bind hp)
    cases e
    obtain ⟨k, rfl, hp⟩ := toK_ok R2 ry (Post.bind hp)
    rcases valD_get k hH hr with ⟨d, z, e, rz, g⟩ | ⟨e, g⟩
    · rw [e] at hp
      exact ⟨_, g, Post.pure hp R2 z rz⟩
    · rw [e] at hp
      exact ⟨_, g, Post.pure hp R2 .non (by simp only [Rep, Option.getD_none])⟩⟩⟩
theorem me_get2 {ro ri rx : Env → M D} (hu : X.A.units + 1 < cLine) (ho : ME X W o ro) (hi : ME X W e ri) (hx : ME X W c rx) (m : M2 X o "get" apos e c cpos := by exact ⟨rfl, rfl, rfl, rfl⟩) : ME X W (.Call (.Attribute o "get" apos) [e, c] [] cpos) (eGet2 ro ri rx) := ⟨(pe_dget2 hu ho.pe hi.pe hx.pe m).imp fun σ H Q ⟨env, m, mu, hE, hR, hp⟩ =>
  ⟨env, m, mu, hE, hR, (Post.bind hp).mono fun o m1 mu1 H1 g1 R1 hp ov ro => by
    obtain ⟨a, rfl, hi, hp⟩ := dctK_ok R1 ro (Post.bind hp)
    refine ⟨a, rfl, hi, env, m1, mu1, hE.grow g1, R1, (Post.bind hp).mono fun y m2 mu2 H2 g2 R2 hp yv ry => ⟨env, m2, mu2, (hE.grow g1).grow g2, R2, (Post.bind hp).mono fun x m3 mu3 H3 g3 R3 hp xv rx => ?_⟩⟩
    obtain ⟨p, kvs, vs, e, hH, hr, hp⟩ := rdD_ok R3 (Rep.grow g3 o _ (Rep.grow g2 o _ ro)) (Post.bind hp)
    cases e
    obtain ⟨k, rfl, hp⟩ := toK_ok R3 (Rep.grow g3 y _ ry) (Post.bind hp)
    rcases valD_get k hH hr with ⟨d, z, e, rz, g⟩ | ⟨e, g⟩
    · rw [e] at hp
      exact ⟨_, g, Post.pure hp R3 z rz⟩
    · rw [e] at hp
      exact ⟨_, g, Post.pure hp R3 xv rx⟩⟩⟩
/-! ### isinstance -/
def tyD : D → M String
  | .non => pure "NoneType"
  | .bl _ => pure "bool"
  | .int _ => pure "int"
  | .str _ => pure "str"
  | .tup _ => pure "tuple"
  | .fl _ => pure "list"
  | .ro _ => pure "list"
  | .fd _ _ => pure "dict"
  | .ref n => fun mu => match mu[n]? with
    | some (.lst _) => .ok "list" mu
    | some (.dk _) => .ok "dict" mu
    | none => .bad
def tys : List String := ["NoneType", "bool", "int", "str", "tuple", "list", "dict"]
theorem tyD_ok {K : PySem.W.Frag} {W : Wx} {m : Mp} {H : Hp} {mu : List MO} {d : D} {v : V} {Q : String → Mp → List MO → Hp → Prop} (R : Rel K m mu H) (h : Rep K m H d v) (hp : Post K W m H (tyD d mu) Q) : ∃ t, t ∈ tys ∧ TyX K H v (.type t) ∧ Q t m mu H := by
  cases d <;> simp only [Rep] at h
  case non => subst h; exact ⟨_, by simp [tys], .base .non, Post.pure hp R⟩
  case bl b => subst h; exact ⟨_, by simp [tys], .base (.bl b), Post.pure hp R⟩
  case int b => subst h; exact ⟨_, by simp [tys], .base (.int b), Post.pure hp R⟩
  case str b => subst h; exact ⟨_, by simp [tys], .base (.str b), Post.pure hp R⟩
  case tup ds =>
    obtain ⟨a, vs, rfl, hs, _⟩ := h
    refine ⟨"tuple", by simp [tys], ?_, Post.pure hp R⟩
    rcases hs with (hs | ⟨o, hs⟩) | ⟨o, its, n, hs, hc, _⟩
    · exact .base (.tup hs)
    · exact .fTuple hs
    · exact .kTuple hs hc
  case fl ds =>
    obtain ⟨a, vs, rfl, hs, _⟩ := h
    exact ⟨"list", by simp [tys], .base (.lst hs), Post.pure hp R⟩
  case ro ds =>
    obtain ⟨a, vs, rfl, hs, _⟩ := h
    refine ⟨"list", by simp [tys], ?_, Post.pure hp R⟩
    rcases hs with ⟨o, hs⟩ | ⟨o, its, n, hs, hc, _⟩
    · exact .base (.frz hs)
    · exact .kList hs hc
  case fd ks ds =>
    obtain ⟨a, vs, rfl, hs, _⟩ := h
    exact ⟨"dict", by simp [tys], .base (.dK hs), Post.pure hp R⟩
  case ref n =>
    obtain ⟨a, rfl, hm⟩ := h
    obtain ⟨o, ho, hr⟩ := R.at' hm
    have e1 : tyD (.ref n) mu = match mu[n]? with
      | some (.lst _) => MP.R.ok "list" mu
      | some (.dk _) => .ok "dict" mu
      | none => .bad := rfl
    rw [e1, ho] at hp
    cases o with
    | lst xs => obtain ⟨vs, hH, _⟩ := hr; exact ⟨"list", by simp [tys], .base (.lst hH), hp m H .refl R⟩
    | dk xs => obtain ⟨vs, hH, _⟩ := hr; exact ⟨"dict", by simp [tys], .base (.dK hH), hp m H .refl R⟩
def isiB (t T : String) : Bool := t == T || (t == "bool" && T == "int")
theorem isi_tab : ∀ T ∈ (["bool", "int", "str", "tuple", "list", "dict"] : List String), ∀ t ∈ tys, kitB t T = some (isiB t T) := by decide +kernel
def gIsi (T : String) (x : D) : M D := tyD x >>= fun t => pure (.bl (isiB t T))
theorem me_isi {T : String} {x y : Str} {r : Env → M D} (hT : T ∈ (["bool", "int", "str", "tuple", "list", "dict"] : List String)) (hg : Gl X x) (hm : X.mg x = none) (hv : bootBuiltins x = some (.builtin "isinstance")) (hg' : Gl X y) (hm' : X.mg y = none) (hv' : bootBuiltins y = some (.type T)) (h : ME X W e r)
    (hn : x ≠ "__name__" := by decide) (hdb : (x == ("__debug__" : Str)) = false := by decide) (hn' : y ≠ "__name__" := by decide) (hdb' : (y == ("__debug__" : Str)) = false := by decide)
    (h1 : starEach [.Name y pos'] X.env = (false, eval (.Name y pos') X.env) :: starEach [] X.env := by rfl)
    (he : starEach [e, .Name y pos'] X.env = (false, eval e X.env) :: starEach [.Name y pos'] X.env := by rfl) (hpl : (backTo pos (starEach [.Name y pos'] X.env)).any (·.1) = false := by rfl) : ME X W (.Call (.Name x p) [e, .Name y pos'] [] pos) (eMap (gIsi T) r) :=
  ⟨(pe_callB call_isi hg hm hv (pa_cons h.pe (pa_cons (pe_bltn hg' hm' hv' (v := .ty T) rfl hn' hdb') pa_nil h1) he) hn hdb he hpl).imp fun σ H Q ⟨env, m, mu, hE, hR, hp⟩ =>
    ⟨env, m, mu, hE, hR, (Post.bind hp).mono fun d m1 mu1 H1 g1 R1 hp v rv => by
      obtain ⟨t, ht, ty, hp⟩ := tyD_ok R1 rv (Post.bind hp)
      exact ⟨v, .ty T, .type t, .type T, isiB t T, rfl, .ty T, ty, kit_ty (isi_tab T hT t ht), Post.pure hp R1 _ (by simp only [Rep])⟩⟩⟩
end
/-! ### sorted -/
def leS (x y : Str) : Bool := !Spec.ltCps y.cps.toList x.cps.toList
theorem leS_iff {x y : Str} : leS x y = true ↔ x.cps.toList ≤ y.cps.toList := by
  unfold leS
  rw [ltCps_eq, Bool.not_eq_true', decide_eq_false_iff_not]
  exact Iff.rfl
theorem leS_trans (a b c : Str) (h : leS a b = true) (h' : leS b c = true) : leS a c = true := leS_iff.mpr (List.le_trans (leS_iff.mp h) (leS_iff.mp h'))
theorem leS_total (a b : Str) : (leS a b || leS b a) = true := by
  rw [Bool.or_eq_true, leS_iff, leS_iff]
  exact List.le_total _ _
theorem leS_anti {a b : Str} (h : leS a b = true) (h' : leS b a = true) : a = b := by
  have e := List.le_antisymm (leS_iff.mp h) (leS_iff.mp h')
  cases a; cases b
  simp only at e
  congr 1
  exact Array.toList_inj.mp e
theorem risingS_pw : ∀ (l : List Str) (p : Str), risingS p l = true → (p :: l).Pairwise fun a b => leS a b = true
  | [], p, _ => List.pairwise_singleton ..
  | x :: r, p, h => by
    rw [risingS, Bool.and_eq_true] at h
    have ih := risingS_pw r x h.2
    refine List.pairwise_cons.mpr ⟨fun y hy => ?_, ih⟩
    rcases List.mem_cons.mp hy with e | hy
    · rw [e]; exact h.1
    · exact leS_trans p x y h.1 ((List.pairwise_cons.mp ih).1 y hy)
theorem sortedS_pw : ∀ {l : List Str}, sortedS l = true → l.Pairwise fun a b => leS a b = true
  | [], _ => List.Pairwise.nil
  | x :: r, h => risingS_pw r x h
def srtS (xs : List Str) : List Str := xs.mergeSort leS
def srtI (xs : List Int) : List Int := xs.mergeSort fun a b => decide (a ≤ b)
theorem srtS_eq {xs ys : List Str} (h : ys.Perm xs) (hs : sortedS ys = true) : ys = srtS xs :=
  List.Perm.eq_of_pairwise (le := fun a b => leS a b = true) (fun a b _ _ h h' => leS_anti h h') (sortedS_pw hs) (List.pairwise_mergeSort leS_trans leS_total xs) (h.trans (List.mergeSort_perm xs leS).symm)
theorem srtI_eq {xs ys : List Int} (h : ys.Perm xs) (hs : ys.Pairwise (· ≤ ·)) : ys = srtI xs := by
  refine List.Perm.eq_of_pairwise (le := fun a b => a ≤ b) (fun a b _ _ h h' => Int.le_antisymm h h') hs ?_ (h.trans (List.mergeSort_perm xs _).symm)
  have q := List.pairwise_mergeSort (le := fun a b : Int => decide (a ≤ b)) (fun a b c h h' => by simp only [decide_eq_true_eq] at h h' ⊢; omega) (fun a b => by simp only [Bool.or_eq_true, decide_eq_true_eq]; omega) xs
  exact q.imp fun h => by simpa using h
def strsOf : List D → Option (List Str)
  | [] => some []
  | .str x :: r => (strsOf r).map (x :: ·)
  | _ => none
def intsOf : List D → Option (List Int)
  | [] => some []
  | .int x :: r => (intsOf r).map (x :: ·)
  | _ => none
theorem strsOf_eq : ∀ {ds : List D} {xs : List Str}, strsOf ds = some xs → ds = xs.map D.str
  | [], xs, h => by cases h; rfl
  | .str x :: r, xs, h => by
    obtain ⟨ys, hy, e⟩ := Option.map_eq_some_iff.mp (show (strsOf r).map (x :: ·) = some xs from h)
    subst e
    rw [List.map_cons, ← strsOf_eq hy]
theorem intsOf_eq : ∀ {ds : List D} {xs : List Int}, intsOf ds = some xs → ds = xs.map D.int
  | [], xs, h => by cases h; rfl
  | .int x :: r, xs, h => by
    obtain ⟨ys, hy, e⟩ := Option.map_eq_some_iff.mp (show (intsOf r).map (x :: ·) = some xs from h)
    subst e
    rw [List.map_cons, ← intsOf_eq hy]
/-- sorted(x): a list of texts or of ints, fewer than 64 -/
def srtT : Option (List Int) → Option (List Str) → M (List D)
  | some is, _ => pure ((srtI is).map D.int)
  | none, some ss => pure ((srtS ss).map D.str)
  | none, none => bad
def srtD (xs : List D) : M (List D) := need (xs.length < 64) >>= fun _ => srtT (intsOf xs) (strsOf xs)
def keyStrs : List Key → Option (List Str)
  | [] => some []
  | .inr x :: r => (keyStrs r).map (x :: ·)
  | _ => none
theorem keyStrs_eq : ∀ {ds : List Key} {xs : List Str}, keyStrs ds = some xs → ds = xs.map Sum.inr
  | [], xs, h => by cases h; rfl
  | .inr x :: r, xs, h => by
    obtain ⟨ys, hy, e⟩ := Option.map_eq_some_iff.mp (show (keyStrs r).map (x :: ·) = some xs from h)
    subst e
    rw [List.map_cons, ← keyStrs_eq hy]
def srtK (ks : List Key) : M (List D) := need (ks.length < 64) >>= fun _ => match keyStrs ks with
  | some ss => pure ((srtS ss).map D.str)
  | none => bad
section
variable {X : Cx} {W : Wx} {e : Expr} {es : List Expr} {pos p : Pos}
/-- sorted of a list -/
def rSrt (K : PySem.W.Frag) : List V → Hp → VK → Prop := fun xs H Q => rSorted K xs H Q ∨ rSortedS K xs H Q
theorem callM_srt {x : D} {v : V} {m : Mp} {mu : List MO} {H : Hp} {Q : VK} {H0 : Hp} {m0 : Mp} (g0 : Grow m0 m H0 H) (R : Rel X.K m mu H) (hx : Rep X.K m H x v) (hp : Post X.K W m H ((rdL x >>= srtD) mu) (fun ds m' mu' H' => NewL X.K H0 ds m' mu' H' Q)) : rSrt X.K [v] H Q := by
  obtain ⟨a, xs, vs, rfl, hs, hr, _, hp⟩ := rdL_ok R hx (Post.bind hp)
  unfold srtD at hp
  obtain ⟨hl, hp3⟩ := need_ok R (Post.bind hp)
  cases hi : intsOf xs with
  | some is =>
    rw [hi] at hp3
    have e := intsOf_eq hi
    subst e
    have ev := Reps.of_ints.mp hr
    refine .inl ⟨a, is, rfl, by rw [← ev]; exact hs, by simpa using hl, fun ns' q h1 h2 hn => ?_⟩
    rw [srtI_eq h1 h2]
    have q2 := tF_new g0 R (Reps.of_ints.mpr rfl) hp3
    exact q2 q hn
  | none =>
    rw [hi] at hp3
    cases hs' : strsOf xs with
    | none => rw [hs'] at hp3; exact (show False from hp3).elim
    | some ss =>
      rw [hs'] at hp3
      have e := strsOf_eq hs'
      subst e
      have ev := Reps.of_strs.mp hr
      refine .inr ⟨a, ss, rfl, by rw [← ev]; exact hs, by simpa using hl, fun ys q h1 h2 hn => ?_⟩
      rw [srtS_eq h1 h2]
      exact tF_new g0 R (Reps.of_strs.mpr rfl) hp3 q hn
theorem mf_sorted {x : Str} {r : Env → M D} (hg : Gl X x) (hm : X.mg x = none) (hv : bootBuiltins x = some (.builtin "sorted")) (h : ME X W e r) (hn : x ≠ "__name__" := by decide) (hdb : (x == ("__debug__" : Str)) = false := by decide)
    (he : starEach [e] X.env = (false, eval e X.env) :: starEach [] X.env := by rfl) (hpl : (backTo pos (starEach [] X.env)).any (·.1) = false := by rfl) : MF X W (.Call (.Name x p) [e] [] pos) (fun env => r env >>= fun x => rdL x >>= srtD) :=
  ⟨(pe_callB (cr_sorted.or cr_sortedS) hg hm hv (pa_cons h.pe pa_nil he) hn hdb he hpl).imp fun σ H Q ⟨env, m, mu, hE, hR, hp⟩ =>
    ⟨env, m, mu, hE, hR, (Post.bind hp).mono fun d m1 mu1 H1 g1 R1 hp v rv => callM_srt g1 R1 rv hp⟩⟩
theorem mf_sortedD {x : Str} {r : Env → M D} (hc : X.calm = true) (hg : Gl X x) (hm : X.mg x = none) (hv : bootBuiltins x = some (.builtin "sorted")) (h : ME X W e r) (hn : x ≠ "__name__" := by decide) (hdb : (x == ("__debug__" : Str)) = false := by decide)
    (he : starEach [e] X.env = (false, eval e X.env) :: starEach [] X.env := by rfl) (hpl : (backTo pos (starEach [] X.env)).any (·.1) = false := by rfl) : MF X W (.Call (.Name x p) [e] [] pos) (fun env => r env >>= fun x => rdD x >>= fun kvs => srtK (kvs.map (·.1))) :=
  ⟨(pe_callB (call_sortedD hc) hg hm hv (pa_cons h.pe pa_nil he) hn hdb he hpl).imp fun σ H Q ⟨env, m, mu, hE, hR, hp⟩ =>
    ⟨env, m, mu, hE, hR, (Post.bind hp).mono fun d m1 mu1 H1 g1 R1 hp v rv => by
      obtain ⟨a, kvs, vs, rfl, hH, hr, hp⟩ := rdD_ok R1 rv (Post.bind hp)
      unfold srtK at hp
      obtain ⟨hl, hp⟩ := need_ok R1 (Post.bind hp)
      cases hk : keyStrs (kvs.map (·.1)) with
      | none => rw [hk] at hp; exact (show False from hp).elim
      | some ss =>
        rw [hk] at hp
        have e := keyStrs_eq hk
        have hz : (kvs.map (·.1)).length = vs.length := by have := hr.length; rw [List.length_map] at this ⊢; exact this
        refine ⟨a, _, ss, rfl, .inl hH, by rw [List.map_fst_zip (by omega)]; exact e, by rw [e] at hl; simpa using hl, fun ys q h1 h2 hn => ?_⟩
        rw [srtS_eq h1 h2]
        exact tF_new g1 R1 (Reps.of_strs.mpr rfl) hp q hn⟩⟩
end
end MP
namespace MP
open PySem L2 PyProof.Rows
/-! ### what a printed walk leans on -/
structure FnI (K : PySem.W.Frag) (mg : Str → Option Value) (x : Str) (st : Stmt) (f : Addr) (fd : FuncData) (ps : List Str) : Prop where
  fn : Fun K x x st f fd
  mg : mg x = some (.ref f)
  bi : Binds K fd ps []
def lenD (n : Nat) (den : List D → M Rv) : List D → M Rv := fun ds mu => if ds.length = n then den ds mu else .bad
theorem lenD_eq {n : Nat} {den : List D → M Rv} {ds : List D} (h : ds.length = n) : lenD n den ds = den ds := by
  funext mu
  unfold lenD
  rw [if_pos h]
theorem units1 {k : Nat} {A : Around} (r : Room k A) : A.units + 1 < cLine := by have := r.units; omega
def fSrt (r : Env → M D) : Env → M (List D) := fun env => r env >>= fun x => rdL x >>= srtD
def fSrtD (r : Env → M D) : Env → M (List D) := fun env => r env >>= fun x => rdD x >>= fun kvs => srtK (kvs.map (·.1))
section
variable {X : Cx} {W : Wx} {k n : Nat} {f : Addr} {fd : FuncData} {ps : List Str} {den : List D → M Rv} {x : Str} {st : Stmt} {p pos : Pos} {e : Expr} {es : List Expr}
theorem me_callF {rs : Env → M (List D)} (T : FnI X.K X.mg x st f fd ps) (F : FnOk X.prog X.w X.K X.mg X.base CX0 k f fd ps (sp X.K X.mg n den)) (hr : Room k X.A) (hg : Gl X x)
    (ha : MA X W (e :: es) rs) (hl : n = (e :: es).length) (hdb : (x == ("__debug__" : Str)) = false := by decide) (he : starEach (e :: es) X.env = (false, eval e X.env) :: starEach es X.env := by rfl) (hpl : (backTo pos (starEach es X.env)).any (·.1) = false := by rfl) :
    ME X W (.Call (.Name x p) (e :: es) [] pos) (eCall (lenD n den) rs) := me_call F hr hg T.mg T.fn.kp T.bi xok0 ha hl hdb he hpl
theorem mf_callF {rs : Env → M (List D)} (T : FnI X.K X.mg x st f fd ps) (F : FnOk X.prog X.w X.K X.mg X.base CX0 k f fd ps (sp X.K X.mg n den)) (hr : Room k X.A) (hg : Gl X x)
    (ha : MA X W (e :: es) rs) (hl : n = (e :: es).length) (hdb : (x == ("__debug__" : Str)) = false := by decide) (he : starEach (e :: es) X.env = (false, eval e X.env) :: starEach es X.env := by rfl) (hpl : (backTo pos (starEach es X.env)).any (·.1) = false := by rfl) :
    MF X W (.Call (.Name x p) (e :: es) [] pos) (fCall (lenD n den) rs) := mf_call F hr hg T.mg T.fn.kp T.bi xok0 ha hl hdb he hpl
end
/-! ### y += x -/
def gAddI : D → D → M D
  | .int i, .int j => pure (.int (i + j))
  | .str i, .str j => do
    need (i.length + j.length ≤ sizeLine)
    pure (.str (i ++ j))
  | _, _ => bad
section
variable {X : Cx} {W : Wx}
def rAddI : R2 := fun x y H Q => rI0 (fun i j => .int (i + j)) x y H Q ∨ ∃ i j, x = .str i ∧ y = .str j ∧ i.length + j.length ≤ sizeLine ∧ Q (.str (i ++ j)) H
theorem iop_addM : OpR X (inplaceOp .Add) rAddI := iop_add.or iop_add_str
theorem opm_addI : OpM X.K W rAddI gAddI := ⟨fun x y v w m mu H Q rl hx hy hp => by
  cases x
  case int i =>
    cases y
    case int j => simp only [Rep] at hx hy; exact .inl ⟨i, j, hx, hy, Post.pure hp rl _ (by simp only [Rep])⟩
    all_goals exact (show False from hp).elim
  case str i =>
    cases y
    case str j =>
      obtain ⟨c, hp⟩ := need_ok rl (Post.bind hp)
      simp only [Rep] at hx hy
      exact .inr ⟨i, j, hx, hy, c, Post.pure hp rl _ (by simp only [Rep])⟩
    all_goals exact (show False from hp).elim
  all_goals exact (show False from hp).elim⟩
theorem iop_mulM : OpR X (inplaceOp .Mult) (rI CMul fun i j => .int (i * j)) := iop_mul
end
/-! ### a def's answer, what is left behind forgotten -/
/-- a def that only looks: f gives its answer -/
def pureD (f : List D → Option D) : List D → M Rv := fun ds mu => match f ds with
  | some d => .ok (.vl d) mu
  | none => .bad
theorem gc_pure {n : Nat} {den : List D → M Rv} {f : List D → Option D} (h : ∀ ds mu d, ds.length = n → Clos mu.length ds → CloH mu → f ds = some d → Clo mu.length d ∧ ∃ ex, den ds mu = .ok (.vl d) (mu ++ ex)) : GC n den (pureD f) := fun ds mu hn hc hh => by
  cases e : f ds with
  | none =>
    have e0 : pureD f ds mu = .bad := by unfold pureD; rw [e]
    rw [e0]; trivial
  | some d =>
    have e0 : pureD f ds mu = .ok (.vl d) mu := by unfold pureD; rw [e]
    rw [e0]
    obtain ⟨h1, ex, h2⟩ := h ds mu d hn hc hh e
    exact ⟨.vl d, mu ++ ex, h2, Nat.le_refl _, .vl (hh.frz ex) (h1 _ _)⟩
/-- .. that may answer with a new list, read as one that nobody changes -/
theorem gc_pure' {n : Nat} {den : List D → M Rv} {f : List D → Option D} (h : ∀ ds mu d, ds.length = n → Clos mu.length ds → CloH mu → f ds = some d → ∃ ex rv, den ds mu = .ok rv (mu ++ ex) ∧ FrzR (mu ++ ex) mu rv (.vl d)) : GC n den (pureD f) := fun ds mu hn hc hh => by
  cases e : f ds with
  | none =>
    have e0 : pureD f ds mu = .bad := by unfold pureD; rw [e]
    rw [e0]; trivial
  | some d =>
    have e0 : pureD f ds mu = .ok (.vl d) mu := by unfold pureD; rw [e]
    rw [e0]
    obtain ⟨ex, rv, h1, h2⟩ := h ds mu d hn hc hh e
    exact ⟨rv, mu ++ ex, h1, Nat.le_refl _, h2⟩
/-- .. a new list -/
def newD (f : List D → Option (List D)) : List D → M Rv := fun ds mu => match f ds with
  | some d => .ok (.fr d) mu
  | none => .bad
end MP
namespace MP
open PySem L2 PyProof.Rows
/-! ### the small semantics, step by step, for simp -/
section
variable {α β : Type} {mu mu' : List MO} {env : Env} {n i : Nat} {x y d o : D} {xs ys : List D}
@[simp] theorem bind_ap {c : M α} {f : α → M β} : (c >>= f) mu = match c mu with
  | .ok a mu' => f a mu'
  | .exc x mu' => .exc x mu'
  | .bad => .bad := rfl
@[simp] theorem pure_ap {a : α} : (Pure.pure a : M α) mu = .ok a mu := rfl
@[simp] theorem bad_ap : (bad : M α) mu = .bad := rfl
@[simp] theorem raise_ap {x : Xn} : (raise x : M α) mu = .exc x mu := rfl
theorem bind_ok {c : M α} {f : α → M β} {a : α} (h : c mu = .ok a mu') : (c >>= f) mu = f a mu' := by rw [bind_ap, h]
@[simp] theorem noX_ok {c : M α} {a : α} (h : c mu = .ok a mu') : noX c mu = .ok a mu' := by
  show (match c mu with | .exc _ _ => R.bad | r => r) = _
  rw [h]
theorem noX_ap {c : M α} : noX c mu = match c mu with
  | .exc _ _ => .bad
  | r => r := rfl
/-- the list, the dict at a place -/
def onL (o : Option MO) (f : List D → R α) : R α := match o with
  | some (.lst xs) => f xs
  | _ => .bad
def onD (o : Option MO) (f : List (Key × D) → R α) : R α := match o with
  | some (.dk xs) => f xs
  | _ => .bad
@[simp] theorem onL_lst {f : List D → R α} : onL (some (.lst xs)) f = f xs := rfl
@[simp] theorem onD_dk {kvs : List (Key × D)} {f : List (Key × D) → R α} : onD (some (.dk kvs)) f = f kvs := rfl
@[simp] theorem eC_ap : eC d env mu = .ok d mu := rfl
def slot (o : Option (Option D)) (mu : List MO) : R D := match o with
  | some (some d) => .ok d mu
  | _ => .bad
@[simp] theorem slot_ok : slot (some (some d)) mu = .ok d mu := rfl
@[simp] theorem eVar_ap : eVar i env mu = slot env[i]? mu := by
  unfold eVar slot
  cases env[i]? with
  | none => rfl
  | some o => cases o <;> rfl
theorem eVar_get (h : env[i]? = some (some d)) : eVar i env mu = .ok d mu := by rw [eVar_ap, h, slot_ok]
variable {ra rb rc : Env → M D} {rs : Env → M (List D)} {g : D → D → M D} {f : D → M D} {t t' : Env → M Bool} {s1 s2 : Env → M Fl} {rf : Env → M (List D)}
@[simp] theorem eBin_ap : eBin g ra rb env = (ra env >>= fun x => rb env >>= fun y => g x y) := rfl
@[simp] theorem eMap_ap : eMap f ra env = (ra env >>= f) := rfl
@[simp] theorem eIf_ap {r r' : Env → M α} : eIf t r r' env = (t env >>= fun b => if b = true then r env else r' env) := rfl
@[simp] theorem eB_ap : eB ra env = (ra env >>= asB) := rfl
@[simp] theorem asB_bl {b : Bool} : asB (.bl b) mu = .ok b mu := rfl
@[simp] theorem bNot_ap : bNot t env = (t env >>= fun b => pure (!b)) := rfl
@[simp] theorem bAnd_ap : bAnd t t' env = (t env >>= fun b => if b = true then t' env else pure false) := rfl
@[simp] theorem bOr_ap : bOr t t' env = (t env >>= fun b => if b = true then pure true else t' env) := rfl
@[simp] theorem eAnd_ap : eAnd ra rb env = (ra env >>= fun x => toB x >>= fun b => if b = true then rb env else pure (.bl false)) := rfl
@[simp] theorem eOr_ap : eOr ra rb env = (ra env >>= fun x => toB x >>= fun b => if b = true then pure (.bl true) else rb env) := rfl
@[simp] theorem aNil_ap : aNil env mu = .ok [] mu := rfl
@[simp] theorem aCons_ap : aCons ra rs env = (ra env >>= fun x => rs env >>= fun xs => pure (x :: xs)) := rfl
@[simp] theorem aThen_ap {f : List D → M D} : aThen f rs env = (rs env >>= f) := rfl
@[simp] theorem aList_ap : aList rs env = (rs env >>= fun xs => need (xs.length ≤ sizeLine) >>= fun _ => pure xs) := rfl
@[simp] theorem eFl_ap : eFl rf env = (rf env >>= fun xs => pure (.fl xs)) := rfl
@[simp] theorem eNew_ap : eNew rf env = (rf env >>= fun xs => alloc (.lst xs)) := rfl
@[simp] theorem eNewD_ap : eNewD env = alloc (.dk []) := rfl
@[simp] theorem alloc_ap {o : MO} : alloc o mu = .ok (.ref mu.length) (mu ++ [o]) := rfl
@[simp] theorem eCall_ap {den : List D → M Rv} : eCall den rs env = (rs env >>= fun xs => den xs >>= fun rv => pure (rvD rv)) := rfl
@[simp] theorem rvD_vl : rvD (.vl d) = d := rfl
@[simp] theorem rvD_fr : rvD (.fr xs) = .fl xs := rfl
@[simp] theorem fCall_ap {den : List D → M Rv} : fCall den rs env = (rs env >>= fun xs => den xs >>= fun rv => match rv with
  | .fr ds => pure ds
  | .vl _ => bad) := rfl
@[simp] theorem lenD_ap {den : List D → M Rv} : lenD n den xs mu = if xs.length = n then den xs mu else .bad := rfl
@[simp] theorem g1_ap : g1 f [x] = f x := rfl
@[simp] theorem g2_ap : g2 g [x, y] = g x y := rfl
@[simp] theorem fThen1_ap {f : D → M (List D)} : fThen1 f rs env = (rs env >>= fun xs => match xs with
  | [x] => f x
  | _ => bad) := rfl
@[simp] theorem oNone_ap : oNone env mu = .ok none mu := rfl
@[simp] theorem oSome_ap : oSome ra env = (ra env >>= fun x => toI x >>= fun i => pure (some i)) := rfl
@[simp] theorem eSl_ap {rl rh : Env → M (Option Int)} : eSl ra rl rh env = (ra env >>= fun x => rl env >>= fun lo => rh env >>= fun hi => gSl x lo hi) := rfl
@[simp] theorem fSl_ap {rl rh : Env → M (Option Int)} : fSl ra rl rh env = (ra env >>= fun x => rl env >>= fun lo => rh env >>= fun hi => rdL x >>= fun xs => pure (cutD xs lo hi)) := rfl
@[simp] theorem fCat_ap : fCat ra rb env = (ra env >>= fun x => rb env >>= fun y => rdM x >>= fun xs => rdM y >>= fun ys => need (xs.length + ys.length ≤ sizeLine) >>= fun _ => pure (xs ++ ys)) := rfl
@[simp] theorem eWalk_ap : eWalk ra env = (ra env >>= walkD) := rfl
@[simp] theorem wThen_ap {f : List D → M Wk} : wThen f rs env = (rs env >>= f) := rfl
@[simp] theorem fSrt_ap : fSrt ra env = (ra env >>= fun x => rdL x >>= srtD) := rfl
@[simp] theorem fSrtD_ap : fSrtD ra env = (ra env >>= fun x => rdD x >>= fun kvs => srtK (kvs.map (·.1))) := rfl
@[simp] theorem asgN_ap : asgN i d env mu = .ok (env.set i (some d)) mu := rfl
@[simp] theorem asgT_ap {g : List D → Env → M Env} : asgT n g d env = (toT d >>= fun xs => need (xs.length = n) >>= fun _ => g xs env) := rfl
@[simp] theorem asgNil_ap : asgNil [] env mu = .ok env mu := rfl
@[simp] theorem asgCons_ap {h : D → Env → M Env} {g : List D → Env → M Env} : asgCons h g (d :: xs) env = (h d env >>= fun e => g xs e) := rfl
@[simp] theorem sFor_ap {r : Env → M Wk} {asg : D → Env → M Env} {fg : List Nat} : sFor r asg s1 fg env = (r env >>= fun p => loopF asg s1 fg p.2 p.1 env) := rfl
@[simp] theorem sNext_ap : sNext env mu = .ok (.nx env) mu := rfl
@[simp] theorem sSeq_ap : sSeq s1 s2 env = (s1 env >>= fun fl => match fl with
  | .nx e => s2 e
  | fl => pure fl) := by
  unfold sSeq
  congr 1
@[simp] theorem sBreak_ap : sBreak env mu = .ok (.bk env) mu := rfl
@[simp] theorem sCont_ap : sCont env mu = .ok (.ct env) mu := rfl
@[simp] theorem sExpr_ap : sExpr ra env = (ra env >>= fun _ => pure (.nx env)) := rfl
@[simp] theorem sRet_ap : sRet ra env = (ra env >>= fun d => pure (.rt (.vl d))) := rfl
@[simp] theorem sRetF_ap : sRetF rf env = (rf env >>= fun d => pure (.rt (.fr d))) := rfl
@[simp] theorem sRetN_ap : sRetN env mu = .ok (.rt (.vl .non)) mu := rfl
@[simp] theorem sAsg_ap {asg : D → Env → M Env} : sAsg ra asg env = (ra env >>= fun d => asg d env >>= fun env' => pure (.nx env')) := rfl
@[simp] theorem sSet_ap : sSet i ra env = (ra env >>= fun d => pure (.nx (env.set i (some d)))) := rfl
@[simp] theorem sAug_ap : sAug i g ra env = (eVar i env >>= fun x => ra env >>= fun y => g x y >>= fun z => pure (.nx (env.set i (some z)))) := rfl
@[simp] theorem sSub_ap : sSub ra rb rc env = (rc env >>= fun v => ra env >>= fun o => rb env >>= fun i => setL o i v >>= fun _ => pure (.nx env)) := rfl
@[simp] theorem sDput_ap : sDput ra rb rc env = (rc env >>= fun v => ra env >>= fun o => rb env >>= fun i => putM o i v >>= fun _ => pure (.nx env)) := rfl
@[simp] theorem eGet1_ap : eGet1 ra rb env = (ra env >>= fun o => dctK o >>= fun _ => rb env >>= fun y => rdD o >>= fun kvs => toK y >>= fun k => pure ((valD kvs k).getD .non)) := rfl
@[simp] theorem eGet2_ap : eGet2 ra rb rc env = (ra env >>= fun o => dctK o >>= fun _ => rb env >>= fun y => rc env >>= fun x => rdD o >>= fun kvs => toK y >>= fun k => pure ((valD kvs k).getD x)) := rfl
@[simp] theorem dctK_ap : dctK o = (rdD o >>= fun _ => pure ()) := rfl
@[simp] theorem eMeth_ap {k : D → M Unit} {h : D → List D → M D} : eMeth k h ra rs env = (ra env >>= fun o => k o >>= fun _ => rs env >>= fun xs => h o xs) := rfl
@[simp] theorem fComp_ap {w : Env → M Wk} {asg : D → Env → M Env} {vs : List Nat} : fComp w asg t ra vs env = (w env >>= fun p => noX (loopC asg t ra p.2 p.1 (wipeE env vs))) := rfl
@[simp] theorem tYesM_ap : tYesM env mu = .ok true mu := rfl
@[simp] theorem wipeE_nil : wipeE env [] = env := rfl
@[simp] theorem wipeE_cons {vs : List Nat} : wipeE env (i :: vs) = (wipeE env vs).set i none := rfl
/-! values -/
@[simp] theorem need_ap {c : Prop} [Decidable c] : need c mu = if c then .ok () mu else .bad := by unfold need; split <;> rfl
@[simp] theorem toI_int {i : Int} : toI (.int i) mu = .ok i mu := rfl
@[simp] theorem toS_str {z : Str} : toS (.str z) mu = .ok z mu := rfl
@[simp] theorem toT_tup : toT (.tup xs) mu = .ok xs mu := rfl
@[simp] theorem toB_bl {b : Bool} : toB (.bl b) mu = .ok b mu := rfl
@[simp] theorem toR_ref : toR (.ref n) mu = .ok n mu := rfl
@[simp] theorem toK_int {i : Int} : toK (.int i) mu = .ok (.inl i) mu := rfl
@[simp] theorem toK_str {z : Str} : toK (.str z) mu = .ok (.inr z) mu := rfl
@[simp] theorem gAdd_int {i j : Int} : gAdd (.int i) (.int j) mu = .ok (.int (i + j)) mu := rfl
@[simp] theorem gAdd_str {i j : Str} : gAdd (.str i) (.str j) mu = if i.length + j.length ≤ sizeLine then .ok (.str (i ++ j)) mu else .bad := by
  show ((need (i.length + j.length ≤ sizeLine) : M Unit) >>= fun _ => (pure (.str (i ++ j)) : M D)) mu = _
  rw [bind_ap, need_ap]
  by_cases c : i.length + j.length ≤ sizeLine
  · rw [if_pos c, if_pos c]; rfl
  · rw [if_neg c, if_neg c]
theorem gII_ap {c : Int → Int → Prop} [∀ i j, Decidable (c i j)] {f : Int → Int → D} {i j : Int} : gII c f (.int i) (.int j) mu = if c i j then .ok (f i j) mu else .bad := by
  show ((need (c i j) : M Unit) >>= fun _ => (pure (f i j) : M D)) mu = _
  rw [bind_ap, need_ap]
  by_cases h : c i j
  · rw [if_pos h, if_pos h]; rfl
  · rw [if_neg h, if_neg h]
@[simp] theorem gSub_int {i j : Int} : gSub (.int i) (.int j) mu = .ok (.int (i - j)) mu := by unfold gSub; rw [gII_ap]; exact if_pos trivial
theorem gMul_int {i j : Int} : gMul (.int i) (.int j) mu = if cMul i j then .ok (.int (i * j)) mu else .bad := gII_ap
@[simp] theorem gMul_small {i j : Int} (h : -(2 ^ 64) < j ∧ j < 2 ^ 64) : gMul (.int i) (.int j) mu = .ok (.int (i * j)) mu := by rw [gMul_int, if_pos (.inl (.inr h))]
theorem gDiv_int {i j : Int} : gDiv (.int i) (.int j) mu = if CDivW i j then .ok (.int (i / j)) mu else .bad := gII_ap
@[simp] theorem gDiv_small {i j : Int} (h : 0 < j ∧ j.natAbs.log2 < 9000) : gDiv (.int i) (.int j) mu = .ok (.int (i / j)) mu := by rw [gDiv_int, if_pos (show CDivW i j from h)]
@[simp] theorem gMod_int {i j : Int} : gMod (.int i) (.int j) mu = if 0 < j then .ok (.int (i % j)) mu else .bad := gII_ap
@[simp] theorem gPow_int {i j : Int} (h : 0 ≤ j ∧ j ≤ 1000000 ∧ i.natAbs < 2 ^ 64) : gPow (.int i) (.int j) mu = .ok (.int (i ^ j.toNat)) mu := by
  have e : gPow (.int i) (.int j) mu = if CPow i j then .ok (.int (i ^ j.toNat)) mu else .bad := gII_ap
  rw [e, if_pos (show CPow i j from h)]
@[simp] theorem gCmp_int {f : Int → Int → Bool} {i j : Int} : gCmp f (.int i) (.int j) mu = .ok (.bl (f i j)) mu := by unfold gCmp; rw [gII_ap]; exact if_pos trivial
@[simp] theorem gLt_int {i j : Int} : gLt (.int i) (.int j) mu = .ok (.bl (decide (i < j))) mu := rfl
@[simp] theorem gLt_str {i j : Str} : gLt (.str i) (.str j) mu = .ok (.bl (ltS i j)) mu := rfl
@[simp] theorem gNeg_int {i : Int} : gNeg (.int i) mu = .ok (.int (-i)) mu := rfl
@[simp] theorem gNot_bl {b : Bool} : gNot (.bl b) mu = .ok (.bl (!b)) mu := rfl
@[simp] theorem rdL_fl : rdL (.fl xs) mu = .ok xs mu := rfl
@[simp] theorem rdL_ro : rdL (.ro xs) mu = .ok xs mu := rfl
@[simp] theorem rdL_ref : rdL (.ref n) mu = atL mu n := rfl
@[simp] theorem atL_ap : atL mu n = onL mu[n]? fun xs => .ok xs mu := rfl
@[simp] theorem rdQ_tup : rdQ (.tup xs) mu = .ok xs mu := rfl
@[simp] theorem rdQ_fl : rdQ (.fl xs) mu = .ok xs mu := rfl
@[simp] theorem rdQ_ro : rdQ (.ro xs) mu = .ok xs mu := rfl
@[simp] theorem rdQ_ref : rdQ (.ref n) mu = atL mu n := rfl
@[simp] theorem rdD_ref : rdD (.ref n) mu = atD mu n := rfl
@[simp] theorem rdD_fd {ks : List Key} : rdD (.fd ks xs) mu = .ok (ks.zip xs) mu := rfl
@[simp] theorem atD_ap : atD mu n = onD mu[n]? fun kvs => .ok kvs mu := rfl
@[simp] theorem walkD_tup : walkD (.tup xs) mu = .ok (xs, []) mu := rfl
@[simp] theorem walkD_fl : walkD (.fl xs) mu = .ok (xs, []) mu := rfl
@[simp] theorem walkD_ro : walkD (.ro xs) mu = .ok (xs, []) mu := rfl
@[simp] theorem walkD_ref : walkD (.ref n) mu = onL mu[n]? fun xs => .ok (xs, [(n, xs)]) mu := by
  have e : walkD (.ref n) mu = match atL mu n with
    | .ok xs mu => MP.R.ok (xs, [(n, xs)]) mu
    | _ => .bad := rfl
  rw [e]
  cases h : mu[n]? with
  | none => rw [show atL mu n = .bad from by unfold atL; rw [h]]; rfl
  | some o => cases o with
    | lst xs => rw [atL_lst h]; rfl
    | dk kvs => rw [atL_dk h]; rfl
theorem ixD_at {i : Int} (h : atI xs i = some d) : ixD xs i mu = .ok d mu := by unfold ixD; rw [h]; rfl
@[simp] theorem gIx_tup {i : Int} : gIx (.tup xs) (.int i) mu = ixD xs i mu := rfl
@[simp] theorem gIx_fl {i : Int} : gIx (.fl xs) (.int i) mu = ixD xs i mu := rfl
@[simp] theorem gIx_ro {i : Int} : gIx (.ro xs) (.int i) mu = ixD xs i mu := rfl
@[simp] theorem gIx_ref {i : Int} : gIx (.ref n) (.int i) mu = onL mu[n]? fun xs => ixD xs i mu := by
  show ((rdQ (.ref n) : M (List D)) >>= fun xs => (toI (.int i) : M Int) >>= fun i => ixD xs i) mu = _
  rw [bind_ap, rdQ_ref]
  cases h : mu[n]? with
  | none => rw [show atL mu n = .bad from by unfold atL; rw [h]]; rfl
  | some o => cases o with
    | lst xs => rw [atL_lst h]; rfl
    | dk kvs => rw [atL_dk h]; rfl
theorem gIx_str {z : Str} {i : Int} {c : Nat} (hz : z.length ≤ sizeLine) (h : atI z.cps.toList i = some c) : gIx (.str z) (.int i) mu = .ok (.str ⟨#[c]⟩) mu := by
  show ((toI (.int i) : M Int) >>= fun i => (need (z.length ≤ sizeLine) : M Unit) >>= fun _ => (match atI z.cps.toList i with
    | some c => pure (.str ⟨#[c]⟩)
    | none => bad : M D)) mu = _
  rw [bind_ap, toI_int]
  show ((need (z.length ≤ sizeLine) : M Unit) >>= fun _ => (match atI z.cps.toList i with
    | some c => pure (.str ⟨#[c]⟩)
    | none => bad : M D)) mu = _
  rw [bind_ap, need_ap, if_pos hz]
  show (match atI z.cps.toList i with
    | some c => pure (.str ⟨#[c]⟩)
    | none => bad : M D) mu = _
  rw [h]; rfl
@[simp] theorem gLen_tup : gLen (.tup xs) mu = .ok (.int xs.length) mu := rfl
@[simp] theorem gLen_fl : gLen (.fl xs) mu = .ok (.int xs.length) mu := rfl
@[simp] theorem gLen_ro : gLen (.ro xs) mu = .ok (.int xs.length) mu := rfl
theorem gLen_str {z : Str} (h : z.length ≤ sizeLine) : gLen (.str z) mu = .ok (.int z.length) mu := by
  show ((need (z.length ≤ sizeLine) : M Unit) >>= fun _ => (pure (.int z.length) : M D)) mu = _
  rw [bind_ap, need_ap, if_pos h]; rfl
theorem gLen_ref (h : mu[n]? = some (.lst xs)) : gLen (.ref n) mu = .ok (.int xs.length) mu := by
  show (match mu[n]? with
    | some (.lst xs) => MP.R.ok (D.int xs.length) mu
    | some (.dk kvs) => .ok (.int kvs.length) mu
    | none => .bad) = _
  rw [h]
@[simp] theorem gAbs_int {i : Int} : gAbs (.int i) mu = .ok (.int (if i < 0 then -i else i)) mu := rfl
@[simp] theorem gInt_int {i : Int} : gInt (.int i) mu = .ok (.int i) mu := rfl
@[simp] theorem gTuple_fl : gTuple (.fl xs) mu = .ok (.tup xs) mu := rfl
@[simp] theorem gTuple_tup : gTuple (.tup xs) mu = .ok (.tup xs) mu := rfl
@[simp] theorem gTuple_ro : gTuple (.ro xs) mu = .ok (.tup xs) mu := rfl
theorem gTup_ok (h : xs.length ≤ sizeLine) : gTup xs mu = .ok (.tup xs) mu := by
  show ((need (xs.length ≤ sizeLine) : M Unit) >>= fun _ => (pure (.tup xs) : M D)) mu = _
  rw [bind_ap, need_ap, if_pos h]; rfl
@[simp] theorem setL_ap {i : Int} : setL (.ref n) (.int i) d mu = modLr mu[n]? n (fun xs => match ixN xs.length i with
  | some j => some (xs.set j d, .non)
  | none => none) mu := rfl
@[simp] theorem modLr_lst {f : List D → Option (List D × D)} : modLr (some (.lst xs)) n f mu = match f xs with
  | some (ys, d) => .ok d (mu.set n (.lst ys))
  | none => .bad := rfl
theorem setL_ok {i : Int} {j : Nat} (h : mu[n]? = some (.lst xs)) (hj : ixN xs.length i = some j) : setL (.ref n) (.int i) d mu = .ok .non (mu.set n (.lst (xs.set j d))) := by
  rw [setL_ap, h, modLr_lst, hj]
theorem modDr_dk {f : List (Key × D) → Option (List (Key × D) × D)} {kvs : List (Key × D)} : modDr (some (.dk kvs)) n f mu = match f kvs with
  | some (ys, d) => .ok d (mu.set n (.dk ys))
  | none => .bad := rfl
theorem putM_at {kvs : List (Key × D)} {k : Key} (hk : toK y mu = .ok k mu) (h : mu[n]? = some (.dk kvs)) (hl : kvs.length < sizeLine) : putM (.ref n) y d mu = .ok .non (mu.set n (.dk (putD kvs k d))) := by
  show (toR (.ref n) >>= fun n => toK y >>= fun kk => modD n fun kvs => if kvs.length < sizeLine then some (putD kvs kk d, .non) else none) mu = _
  rw [bind_ap, toR_ref]
  show (toK y >>= fun kk => modD n fun kvs => if kvs.length < sizeLine then some (putD kvs kk d, .non) else none) mu = _
  rw [bind_ap, hk]
  show modDr mu[n]? n (fun kvs => if kvs.length < sizeLine then some (putD kvs k d, .non) else none) mu = _
  rw [h, modDr_dk, if_pos hl]
@[simp] theorem tyD_ap : (tyD .non mu = .ok "NoneType" mu) ∧ (∀ b, tyD (.bl b) mu = .ok "bool" mu) ∧ (∀ i, tyD (.int i) mu = .ok "int" mu) ∧ (∀ z, tyD (.str z) mu = .ok "str" mu) ∧ (∀ xs, tyD (.tup xs) mu = .ok "tuple" mu) ∧ (∀ xs, tyD (.fl xs) mu = .ok "list" mu) ∧ (∀ xs, tyD (.ro xs) mu = .ok "list" mu) ∧ ∀ ks xs, tyD (.fd ks xs) mu = .ok "dict" mu := ⟨rfl, fun _ => rfl, fun _ => rfl, fun _ => rfl, fun _ => rfl, fun _ => rfl, fun _ => rfl, fun _ _ => rfl⟩
@[simp] theorem gIsi_ap {T : String} : gIsi T x = (tyD x >>= fun t => pure (.bl (isiB t T))) := rfl
@[simp] theorem runB_ap {r : Env → M Fl} : runB n r xs mu = match r (startE n xs) mu with
  | .ok (.rt rv) mu' => .ok rv mu'
  | .ok (.nx _) mu' => .ok (.vl .non) mu'
  | .ok _ _ => .bad
  | .exc x mu' => .exc x mu'
  | .bad => .bad := rfl
theorem chk_nil : chk [] mu = .ok () mu := by unfold chk; rw [if_pos]; simp
theorem chk_one (h : mu[n]? = some (.lst xs)) : chk [(n, xs)] mu = .ok () mu := by unfold chk; rw [if_pos]; simpa using h
end
/-! ### loops over things that stand still -/
section
variable {asg : D → Env → M Env} {body : Env → M Fl} {fg : List Nat} {t : Env → M Bool} {r : Env → M D} {env env1 : Env} {mu mu' mu1 mu2 mu3 : List MO} {d x : D} {ds xs : List D}
theorem loopF_nil : loopF asg body fg [] [] env mu = .ok (.nx (wipeE env fg)) mu := by
  show ((chk [] : M Unit) >>= fun _ => (pure (.nx (wipeE env fg)) : M Fl)) mu = _
  rw [bind_ap, chk_nil]; rfl
theorem loopF_cons : loopF asg body fg [] (d :: ds) env mu = (asg d (wipeE env fg) >>= fun env1 => body env1 >>= fun fl => match fl with
    | .nx e => loopF asg body fg [] ds e
    | .ct e => loopF asg body fg [] ds e
    | .bk e => pure (.nx (wipeE e fg))
    | .rt rv => pure (.rt rv)) mu := by
  show ((chk [] : M Unit) >>= fun _ => asg d (wipeE env fg) >>= fun env1 => body env1 >>= fun fl => match fl with
    | .nx e => loopF asg body fg [] ds e
    | .ct e => loopF asg body fg [] ds e
    | .bk e => pure (.nx (wipeE e fg))
    | .rt rv => pure (.rt rv)) mu = _
  rw [bind_ap, chk_nil]
theorem loopC_nil : loopC asg t r [] [] env mu = .ok [] mu := by
  show ((chk [] : M Unit) >>= fun _ => (pure [] : M (List D))) mu = _
  rw [bind_ap, chk_nil]; rfl
theorem loopC_cons : loopC asg t r [] (d :: ds) env mu = (asg d env >>= fun env1 => t env1 >>= fun b => if b = true then (r env1 >>= fun x => loopC asg t r [] ds env >>= fun xs => pure (x :: xs)) else loopC asg t r [] ds env) mu := by
  show ((chk [] : M Unit) >>= fun _ => asg d env >>= fun env1 => t env1 >>= fun b => if b = true then (r env1 >>= fun x => loopC asg t r [] ds env >>= fun xs => pure (x :: xs)) else loopC asg t r [] ds env) mu = _
  rw [bind_ap, chk_nil]
theorem loopC_yes (h1 : asg d env mu = .ok env1 mu1) (h2 : t env1 mu1 = .ok true mu1) (h3 : r env1 mu1 = .ok x mu2) (h4 : loopC asg t r [] ds env mu2 = .ok xs mu3) : loopC asg t r [] (d :: ds) env mu = .ok (x :: xs) mu3 := by
  rw [loopC_cons]
  simp [h1, h2, h3, h4]
theorem loopC_no (h1 : asg d env mu = .ok env1 mu1) (h2 : t env1 mu1 = .ok false mu1) (h4 : loopC asg t r [] ds env mu1 = .ok xs mu3) : loopC asg t r [] (d :: ds) env mu = .ok xs mu3 := by
  rw [loopC_cons]
  simp [h1, h2, h4]
/-- a comprehension that changes nothing: each item by itself -/
theorem loopC_map {f : D → D} (h : ∀ d ∈ ds, ∃ env1, asg d env mu = .ok env1 mu ∧ t env1 mu = .ok true mu ∧ r env1 mu = .ok (f d) mu) : loopC asg t r [] ds env mu = .ok (ds.map f) mu := by
  induction ds with
  | nil => exact loopC_nil
  | cons d ds ih =>
    obtain ⟨env1, h1, h2, h3⟩ := h d (by simp)
    exact loopC_yes h1 h2 h3 (ih fun e he => h e (by simp [he]))
theorem loopC_filter {f : D → D} {p : D → Bool} (h : ∀ d ∈ ds, ∃ env1, asg d env mu = .ok env1 mu ∧ t env1 mu = .ok (p d) mu ∧ (p d = true → r env1 mu = .ok (f d) mu)) : loopC asg t r [] ds env mu = .ok ((ds.filter p).map f) mu := by
  induction ds with
  | nil => exact loopC_nil
  | cons d ds ih =>
    obtain ⟨env1, h1, h2, h3⟩ := h d (by simp)
    have ih := ih fun e he => h e (by simp [he])
    cases hp : p d with
    | true =>
      rw [List.filter_cons_of_pos hp, List.map_cons]
      exact loopC_yes h1 (by rw [h2, hp]) (h3 hp) ih
    | false =>
      rw [List.filter_cons_of_neg (by rw [hp]; decide)]
      exact loopC_no h1 (by rw [h2, hp]) ih
end
end MP
namespace MP
open PySem L2 PyProof.Rows
/-! ### the words that all laws share -/
/-- names: 0 script -/
noncomputable def r__law_start : MP.Env → M Fl :=
  (sRetF (aList (aCons (eFl (fThen1 rdQ (aCons (eVar 0) aNil))) (aCons (eC (.int 0)) (aCons (eC (.int 0)) (aCons (eC (.int 0)) aNil))))))
noncomputable def den__law_start : List D → M Rv := fun ds => noX (runB 1 (r__law_start) ds)
/-- names: 0 state, 1 most, 2 cell, 3 mixed, 4 found -/
noncomputable def r__law_draw : MP.Env → M Fl :=
  (sSeq (sSub (eVar 0) (eC (.int 3)) (eBin gAdd (eBin gIx (eVar 0) (eC (.int 3))) (eC (.int 1))))
  (sSeq (eIf (eB (eBin (gCmp fun i j => decide (j < i)) (eBin gIx (eVar 0) (eC (.int 2))) (eC (.int 0))))
  (sSeq (sSet 4 (eBin gMod (aThen (g1 gInt) (aCons (eBin gIx (eVar 0) (eC (.int 2))) aNil)) (eVar 1)))
  (sSeq (sSub (eVar 0) (eC (.int 2)) (eBin gDiv (eBin gIx (eVar 0) (eC (.int 2))) (eVar 1)))
  (sRet (eVar 4))))
  sNext)
  (sSeq (sSet 2 (eC (.int 0)))
  (sSeq (eIf (eB (eBin (gCmp fun i j => decide (j < i)) (aThen (g1 gLen) (aCons (eBin gIx (eVar 0) (eC (.int 0))) aNil)) (eC (.int 0))))
  (sSet 2 (aThen (g1 gAbs) (aCons (eBin gIx (eBin gIx (eVar 0) (eC (.int 0))) (eBin gMod (aThen (g1 gInt) (aCons (eBin gIx (eVar 0) (eC (.int 1))) aNil)) (aThen (g1 gLen) (aCons (eBin gIx (eVar 0) (eC (.int 0))) aNil)))) aNil)))
  sNext)
  (sSeq (sSub (eVar 0) (eC (.int 1)) (eBin gAdd (eBin gIx (eVar 0) (eC (.int 1))) (eC (.int 1))))
  (sSeq (eIf (eB (eBin (gCmp fun i j => decide (j ≤ i)) (eVar 2) (eBin gPow (eC (.int 10)) (eC (.int 18)))))
  (sSeq (sSub (eVar 0) (eC (.int 2)) (eBin gDiv (eVar 2) (eVar 1)))
  (sRet (eBin gMod (aThen (g1 gInt) (aCons (eVar 2) aNil)) (eVar 1))))
  sNext)
  (sSeq (sSet 3 (eBin gMod (aThen (g1 gInt) (aCons (eBin gAdd (eBin gMul (eBin gAdd (eVar 2) (eC (.int 1))) (eC (.int 48271))) (eBin gMul (eBin gIx (eVar 0) (eC (.int 3))) (eC (.int 69621)))) aNil)) (eC (.int 2147483647))))
  (sSeq (sSet 3 (eBin gMod (aThen (g1 gInt) (aCons (eBin gAdd (eBin gAdd (eBin gMul (eVar 3) (eC (.int 16807))) (eBin gDiv (eVar 2) (eC (.int 97)))) (eBin gIx (eVar 0) (eC (.int 3)))) aNil)) (eC (.int 2147483629))))
  (sRet (eBin gMod (eBin gDiv (eVar 3) (eC (.int 11))) (eVar 1)))))))))))
noncomputable def den__law_draw : List D → M Rv := fun ds => noX (runB 5 (r__law_draw) ds)
/-- names: 0 state, 1 items -/
noncomputable def r__law_one_of (d__law_draw : List D → M Rv) : MP.Env → M Fl :=
  (sRet (eBin gIx (eVar 1) (eCall (lenD 2 d__law_draw) (aCons (eVar 0) (aCons (aThen (g1 gLen) (aCons (eVar 1) aNil)) aNil)))))
noncomputable def den__law_one_of (d__law_draw : List D → M Rv) : List D → M Rv := fun ds => noX (runB 2 (r__law_one_of d__law_draw) ds)
/-- names: 0 x -/
noncomputable def r__law_is_int : MP.Env → M Fl :=
  (sRet (eAnd (eMap (gIsi "int") (eVar 0)) (eMap gNot (eMap (gIsi "bool") (eVar 0)))))
noncomputable def den__law_is_int : List D → M Rv := fun ds => noX (runB 1 (r__law_is_int) ds)
/-- names: 0 x, 1 y, 2 k -/
noncomputable def r__law_same (d__law_same : List D → M Rv) (d__law_is_int : List D → M Rv) : MP.Env → M Fl :=
  (sSeq (eIf (eB (eMap (gIsi "tuple") (eVar 1)))
  (sSeq (eIf (bOr (bNot (eB (eMap (gIsi "tuple") (eVar 0)))) (eB (eBin (gEq true) (aThen (g1 gLen) (aCons (eVar 0) aNil)) (aThen (g1 gLen) (aCons (eVar 1) aNil)))))
  (sRet (eC (.bl false)))
  sNext)
  (sRet (aThen (g1 gAll) (aCons (eFl (fComp (wThen wRng1 (aCons (aThen (g1 gLen) (aCons (eVar 1) aNil)) aNil)) (asgN 2) tYesM (eCall (lenD 2 d__law_same) (aCons (eBin gIx (eVar 0) (eVar 2)) (aCons (eBin gIx (eVar 1) (eVar 2)) aNil))) [2])) aNil))))
  sNext)
  (sSeq (eIf (eB (eMap (gIsi "str") (eVar 1)))
  (sRet (eAnd (eMap (gIsi "str") (eVar 0)) (eBin (gEq false) (eVar 0) (eVar 1))))
  sNext)
  (sRet (eAnd (eCall (lenD 1 d__law_is_int) (aCons (eVar 0) aNil)) (eBin (gEq false) (eVar 0) (eVar 1))))))
noncomputable def den__law_same (d__law_same : List D → M Rv) (d__law_is_int : List D → M Rv) : List D → M Rv := fun ds => noX (runB 3 (r__law_same d__law_same d__law_is_int) ds)
@[simp] theorem ixD0 {x : D} {xs : List D} {mu : List MO} : ixD (x :: xs) 0 mu = .ok x mu := ixD_at (by unfold atI ixN; simp)
@[simp] theorem ixD1 {a x : D} {xs : List D} {mu : List MO} : ixD (a :: x :: xs) 1 mu = .ok x mu := ixD_at (by unfold atI ixN; simp; rw [if_pos (by omega)]; rfl)
@[simp] theorem ixD2 {a b x : D} {xs : List D} {mu : List MO} : ixD (a :: b :: x :: xs) 2 mu = .ok x mu := ixD_at (by unfold atI ixN; simp; rw [if_pos (by omega)]; rfl)
@[simp] theorem ixD3 {a b c x : D} {xs : List D} {mu : List MO} : ixD (a :: b :: c :: x :: xs) 3 mu = .ok x mu := ixD_at (by unfold atI ixN; simp; rw [if_pos (by omega)]; rfl)
def st (cs : List Int) (a b c : Int) : MO := .lst [.fl (cs.map .int), .int a, .int b, .int c]
theorem atI_mod {cs : List Int} (h : 0 < cs.length) (a : Int) : ∃ v, atI (cs.map D.int) (a % (cs.length : Int)) = some (.int v) := by
  have h1 := Int.emod_nonneg a (b := (cs.length : Int)) (by omega)
  have h2 := Int.emod_lt_of_pos a (b := (cs.length : Int)) (by omega)
  unfold atI ixN
  rw [List.length_map, if_pos h1, if_pos h2]
  have hk : (a % (cs.length : Int)).toNat < cs.length := by omega
  exact ⟨cs[(a % (cs.length : Int)).toNat], by simp [hk]⟩
theorem draw_ok {s : Nat} {cs : List Int} {a b c most : Int} {mu : List MO} (h : mu[s]? = some (st cs a b c)) (hm : 0 < most) (hl : most.natAbs.log2 < 9000) :
    ∃ d a' b' c', den__law_draw [.ref s, .int most] mu = .ok (.vl (.int d)) (mu.set s (st cs a' b' c')) ∧ 0 ≤ d ∧ d < most := by
  have hs : s < mu.length := (List.getElem?_eq_some_iff.mp h).1
  unfold st at h
  have q : ∀ x : Int, 0 ≤ x % most ∧ x % most < most := fun x => ⟨Int.emod_nonneg x (by omega), Int.emod_lt_of_pos x hm⟩
  by_cases hb : 0 < b
  · refine ⟨b % most, a, b / most, c + 1, noX_ok ?_, (q b).1, (q b).2⟩
    have hset : ∀ x : MO, (mu.set s x)[s]? = some x := fun x => List.getElem?_set_self hs
    simp [r__law_draw, startE, h, hset, hb, hm, hl, st, ixN]
  · have hset : ∀ x : MO, (mu.set s x)[s]? = some x := fun x => List.getElem?_set_self hs
    have l97 : Nat.log2 97 < 9000 := by decide
    have l11 : Nat.log2 11 < 9000 := by decide
    have p18 : (10 : Int) ^ (18 : Int).toNat = 1000000000000000000 := by decide
    by_cases z : 0 < cs.length
    · obtain ⟨v, hv⟩ := atI_mod (cs := cs) z a
      generalize hcell : (if v < 0 then -v else v) = cell
      by_cases h18 : 1000000000000000000 ≤ cell
      · refine ⟨cell % most, a + 1, cell / most, c + 1, noX_ok ?_, (q cell).1, (q cell).2⟩
        simp [r__law_draw, startE, h, hset, hb, hm, hl, st, ixN, z, ixD_at hv, hcell, h18, l97, l11]
      · refine ⟨(((((cell + 1) * 48271 + (c + 1) * 69621) % 2147483647 * 16807 + cell / 97 + (c + 1)) % 2147483629) / 11) % most, a + 1, b, c + 1, noX_ok ?_, (q _).1, (q _).2⟩
        simp [r__law_draw, startE, h, hset, hb, hm, hl, st, ixN, z, ixD_at hv, hcell, h18, l97, l11]
    · refine ⟨(((((0 + 1) * 48271 + (c + 1) * 69621) % 2147483647 * 16807 + 0 / 97 + (c + 1)) % 2147483629) / 11) % most, a + 1, b, c + 1, noX_ok ?_, (q _).1, (q _).2⟩
      simp [r__law_draw, startE, h, hset, hb, hm, hl, st, ixN, z, l97, l11]
end MP
namespace MP
open PySem L2 PyProof.Rows
/-! ### what the shared words answer -/
theorem start_ok {cs : List Int} {mu : List MO} (h : cs.length ≤ 63) : den__law_start [.ro (cs.map .int)] mu = .ok (.fr [.fl (cs.map .int), .int 0, .int 0, .int 0]) mu := by
  refine noX_ok ?_
  have e : (4 : Nat) ≤ sizeLine := by decide
  simp [r__law_start, startE, e]
/-- the state's place -/
def At (s : Nat) (cs : List Int) (mu : List MO) : Prop := ∃ a b c, mu[s]? = some (st cs a b c)
/-- the state moved on, nothing else -/
def Nx (s : Nat) (cs : List Int) (mu mu' : List MO) : Prop := ∃ a b c, mu' = mu.set s (st cs a b c)
theorem At.lt {s : Nat} {cs : List Int} {mu : List MO} (h : At s cs mu) : s < mu.length := by
  obtain ⟨a, b, c, h⟩ := h
  exact (List.getElem?_eq_some_iff.mp h).1
theorem Nx.at_ {s : Nat} {cs : List Int} {mu mu' : List MO} (h : At s cs mu) (n : Nx s cs mu mu') : At s cs mu' := by
  obtain ⟨a, b, c, e⟩ := n
  exact ⟨a, b, c, by rw [e, List.getElem?_set_self h.lt]⟩
theorem Nx.trans {s : Nat} {cs : List Int} {mu mu1 mu2 : List MO} (n : Nx s cs mu mu1) (n' : Nx s cs mu1 mu2) : Nx s cs mu mu2 := by
  obtain ⟨a, b, c, e⟩ := n
  obtain ⟨a', b', c', e'⟩ := n'
  exact ⟨a', b', c', by rw [e', e, List.set_set]⟩
theorem Nx.refl {s : Nat} {cs : List Int} {mu : List MO} (h : At s cs mu) : Nx s cs mu mu := by
  obtain ⟨a, b, c, h⟩ := h
  refine ⟨a, b, c, ?_⟩
  apply List.ext_getElem?
  intro i
  by_cases e : s = i
  · subst e; rw [List.getElem?_set_self (List.getElem?_eq_some_iff.mp h).1]; exact h
  · rw [List.getElem?_set_ne e]
theorem draw_at {s : Nat} {cs : List Int} {most : Int} {mu : List MO} (h : At s cs mu) (hm : 0 < most) (hl : most.natAbs.log2 < 9000) : ∃ d mu', den__law_draw [.ref s, .int most] mu = .ok (.vl (.int d)) mu' ∧ Nx s cs mu mu' ∧ 0 ≤ d ∧ d < most := by
  obtain ⟨a, b, c, h⟩ := h
  obtain ⟨d, a', b', c', e, h1, h2⟩ := draw_ok h hm hl
  exact ⟨d, _, e, ⟨a', b', c', rfl⟩, h1, h2⟩
theorem atI_of {xs : List D} {i : Int} (h0 : 0 ≤ i) (h1 : i < xs.length) : ∃ x, x ∈ xs ∧ atI xs i = some x := by
  have hk : i.toNat < xs.length := by omega
  refine ⟨xs[i.toNat], List.getElem_mem hk, ?_⟩
  unfold atI ixN
  rw [if_pos h0, if_pos h1]
  exact List.getElem?_eq_getElem hk
theorem log2_small {n : Nat} (h : n < 2 ^ 64) : n.log2 < 9000 := by
  rcases Nat.eq_zero_or_pos n with e | e
  · subst e; decide
  · have := (Nat.log2_lt (by omega)).mpr h
    omega
theorem one_of_at {s : Nat} {cs : List Int} {xs : List D} {mu : List MO} (h : At s cs mu) (h0 : 0 < xs.length) (h1 : xs.length < 1000) : ∃ x mu', den__law_one_of den__law_draw [.ref s, .fl xs] mu = .ok (.vl x) mu' ∧ Nx s cs mu mu' ∧ x ∈ xs := by
  obtain ⟨d, mu', e, n, d0, d1⟩ := draw_at (most := (xs.length : Int)) h (by omega) (log2_small (by simp; omega))
  obtain ⟨x, hx, ex⟩ := atI_of d0 d1
  refine ⟨x, mu', noX_ok ?_, n, hx⟩
  simp [r__law_one_of, startE, e, ixD_at ex]
/-! same -/
theorem fn_bad {P : Program} {w : World} {K : PySem.W.Frag} {mg : Str → Option Value} {base : Heap} {CX : CXT} {k n : Nat} {f : Addr} {fd : FuncData} {ps : List Str} : FnOk P w K mg base CX k f fd ps (sp K mg n fun _ _ => .bad) := by
  have no : ∀ vs H Q E, ¬ sp K mg n (fun _ _ => .bad) vs H Q E := fun vs H Q E h => by
    obtain ⟨_, _, _, _, _, _, h⟩ := h
    exact h
  exact ⟨fun vs H Q E h => absurd h (no vs H Q E), fun A outer s H args us vs Q E _ _ _ _ h => absurd h (no vs H Q E)⟩
noncomputable def sameL : Nat → List D → M Rv
  | 0 => fun _ _ => .bad
  | n + 1 => den__law_same (sameL n) den__law_is_int
mutual
/-- data of tuples, texts and ints, less deep than n -/
def plainD : Nat → D → Bool
  | _ + 1, .int _ => true
  | _ + 1, .str _ => true
  | n + 1, .tup xs => decide (xs.length ≤ 1000) && plainDs n xs
  | _, _ => false
def plainDs : Nat → List D → Bool
  | _, [] => true
  | n, x :: xs => plainD n x && plainDs n xs
end
theorem plainDs_mem {n : Nat} : ∀ {xs : List D}, plainDs n xs = true → ∀ x ∈ xs, plainD n x = true
  | [], _, x, hx => by simp at hx
  | y :: ys, h, x, hx => by
    rw [plainDs, Bool.and_eq_true] at h
    rcases List.mem_cons.mp hx with e | e
    · rw [e]; exact h.1
    · exact plainDs_mem h.2 x e
theorem is_int_int {i : Int} {mu : List MO} : den__law_is_int [.int i] mu = .ok (.vl (.bl true)) mu := by
  refine noX_ok ?_
  simp [r__law_is_int, startE, isiB]
theorem gEq_int {i : Int} {mu : List MO} : gEq false (.int i) (.int i) mu = .ok (.bl true) mu := by
  unfold gEq
  simp [okE, dep, eqD]
theorem gEq_str {i : Str} {mu : List MO} : gEq false (.str i) (.str i) mu = .ok (.bl true) mu := by
  unfold gEq
  simp [okE, dep, eqD]
theorem gEq_ints {neg : Bool} {i j : Int} {mu : List MO} : gEq neg (.int i) (.int j) mu = .ok (.bl ((i == j) != neg)) mu := by
  unfold gEq
  simp [okE, dep, eqD]
theorem toBs_true {xs : List D} {mu : List MO} : toBs (xs.map fun _ => D.bl true) mu = .ok (xs.map fun _ => true) mu := by
  induction xs with
  | nil => rfl
  | cons x xs ih =>
    show ((toB (.bl true) : M Bool) >>= fun b => toBs (xs.map fun _ => D.bl true) >>= fun bs => pure (b :: bs)) mu = _
    simp [ih]
theorem sameL_eq {n : Nat} {ds : List D} : sameL (n + 1) ds = noX (runB 3 (r__law_same (sameL n) den__law_is_int) ds) := rfl
theorem same_ok : ∀ (n : Nat) (d : D) (mu : List MO), plainD n d = true → sameL (n + 1) [d, d] mu = .ok (.vl (.bl true)) mu
  | 0, d, mu, h => by cases d <;> simp [plainD] at h
  | n + 1, .int i, mu, _ => by
    rw [sameL_eq]
    refine noX_ok ?_
    simp [r__law_same, startE, isiB, is_int_int, gEq_int]
  | n + 1, .str i, mu, _ => by
    rw [sameL_eq]
    refine noX_ok ?_
    simp [r__law_same, startE, isiB, gEq_str]
  | n + 1, .tup xs, mu, h => by
    have h' : (decide (xs.length ≤ 1000) && plainDs n xs) = true := h
    rw [Bool.and_eq_true, decide_eq_true_eq] at h'
    have hp := plainDs_mem h'.2
    have hz : (xs.length : Int) ≤ 16777216 := by have := h'.1; omega
    rw [sameL_eq]
    refine noX_ok ?_
    have hc : loopC (asgN 2) tYesM (eCall (lenD 2 (sameL (n + 1))) (aCons (eBin gIx (eVar 0) (eVar 2)) (aCons (eBin gIx (eVar 1) (eVar 2)) aNil))) [] (rngD 0 xs.length) [some (D.tup xs), some (D.tup xs), none] mu = .ok ((rngD 0 xs.length).map fun _ => D.bl true) mu := by
      refine loopC_map fun d hd => ?_
      obtain ⟨i, hi, e⟩ := List.mem_map.mp (show d ∈ (List.range xs.length).map fun (i : Nat) => D.int (0 + (i : Int)) from hd)
      subst e
      have hi := List.mem_range.mp hi
      obtain ⟨x, hx, ex⟩ := atI_of (xs := xs) (i := (i : Int)) (by omega) (by omega)
      have ih := same_ok n x mu (hp x hx)
      refine ⟨_, rfl, rfl, ?_⟩
      simp [ixD_at ex, ih]
    simp [r__law_same, startE, isiB, gEq_ints, wRng1, hc, noX_ok hc, gAll, toBs_true, hz]
end MP
namespace MP
open PySem L2 PyProof.Rows
/-! ### forms.form -/
/-- names: 0 constant, 1 pairs, 2 sums, 3 name, 4 coefficient -/
noncomputable def r_form : MP.Env → M Fl :=
  (sSeq (sSet 2 eNewD)
  (sSeq (sFor (eWalk (eVar 1)) (asgT 2 (asgCons (asgN 3) (asgCons (asgN 4) asgNil)))
  (sDput (eVar 2) (eVar 3) (eBin gAdd (eGet2 (eVar 2) (eVar 3) (eC (.int 0))) (eVar 4))) [3, 4])
  (sRet (aThen gTup (aCons (eVar 0) (aCons (aThen (g1 gTuple) (aCons (eFl (fComp (eWalk (eFl (fSrtD (eVar 2)))) (asgN 3) (eB (eBin (gEq true) (eBin gDget (eVar 2) (eVar 3)) (eC (.int 0)))) (aThen gTup (aCons (eVar 3) (aCons (eBin gDget (eVar 2) (eVar 3)) aNil))) [3])) aNil)) aNil))))))
noncomputable def den_form : List D → M Rv := fun ds => noX (runB 5 (r_form) ds)
/-! dicts, plainly -/
def valG {β : Type} (kvs : List (Key × β)) (k : Key) : Option β := (kvs.find? fun kv => decide (kv.1 = k)).map (·.2)
section
variable {β : Type} {kvs r : List (Key × β)} {k j : Key} {y : β} {p : Key × β}
theorem valG_pos (e : p.1 = k) : valG (p :: r) k = some p.2 := by simp [valG, List.find?_cons, e]
theorem valG_neg (e : ¬ p.1 = k) : valG (p :: r) k = valG r k := by simp [valG, List.find?_cons, e]
theorem valG_any : ∀ kvs : List (Key × β), (kvs.any fun kv => decide (kv.1 = k)) = (valG kvs k).isSome
  | [] => rfl
  | p :: r => by
    rw [List.any_cons]
    by_cases e : p.1 = k
    · rw [valG_pos e, decide_eq_true e]; rfl
    · rw [valG_neg e, decide_eq_false e, Bool.false_or]; exact valG_any r
theorem valG_map : ∀ kvs : List (Key × β), valG (mapV kvs k y) j = (valG kvs j).map fun x => if j = k then y else x
  | [] => rfl
  | p :: r => by
    have ih := valG_map r
    unfold mapV at ih ⊢
    rw [List.map_cons]
    by_cases h : p.1 = j
    · rw [valG_pos (p := p) h]
      by_cases h2 : p.1 = k
      · rw [if_pos h2, valG_pos (p := (p.1, y)) h, Option.map_some, if_pos (h.symm.trans h2)]
      · rw [if_neg h2, valG_pos h, Option.map_some, if_neg (fun e => h2 (h.trans e))]
    · rw [valG_neg (p := p) h, ← ih]
      by_cases h2 : p.1 = k
      · rw [if_pos h2, valG_neg (p := (p.1, y)) h]
      · rw [if_neg h2, valG_neg h]
theorem valG_snoc : ∀ kvs : List (Key × β), valG kvs k = none → valG (kvs ++ [(k, y)]) j = if j = k then some y else valG kvs j
  | [], _ => by
    by_cases e : k = j
    · rw [if_pos e.symm]; exact valG_pos (p := (k, y)) e
    · rw [if_neg (fun z => e z.symm)]; exact valG_neg (p := (k, y)) e
  | p :: r, hn => by
    rw [List.cons_append]
    by_cases h : p.1 = k
    · rw [valG_pos h] at hn; cases hn
    · rw [valG_neg h] at hn
      have ih := valG_snoc r hn
      by_cases h2 : p.1 = j
      · rw [valG_pos h2, valG_pos h2, if_neg (fun e => h (h2.trans e))]
      · rw [valG_neg h2, valG_neg h2, ih]
theorem valG_put : valG (putD kvs k y) j = if j = k then some y else valG kvs j := by
  unfold putD
  by_cases a : (kvs.any fun kv => decide (kv.1 = k)) = true
  · rw [if_pos a, valG_map]
    rw [valG_any] at a
    by_cases e : j = k
    · obtain ⟨x, hx⟩ := Option.isSome_iff_exists.mp a
      subst e
      rw [hx, Option.map_some, if_pos rfl, if_pos rfl]
    · rw [if_neg e]
      cases valG kvs j with
      | none => rfl
      | some x => rw [Option.map_some, if_neg e]
  · rw [if_neg a]
    rw [valG_any] at a
    exact valG_snoc kvs (by cases h : valG kvs k with | none => rfl | some x => rw [h] at a; exact absurd rfl a)
theorem valG_mem : k ∈ kvs.map (·.1) ↔ (valG kvs k).isSome = true := by
  rw [← valG_any, List.any_eq_true, List.mem_map]
  constructor
  · rintro ⟨p, hp, e⟩; exact ⟨p, hp, decide_eq_true e⟩
  · rintro ⟨p, hp, e⟩; exact ⟨p, hp, of_decide_eq_true e⟩
theorem keys_put_in (h : k ∈ kvs.map (·.1)) : (putD kvs k y).map (·.1) = kvs.map (·.1) := by
  unfold putD
  rw [if_pos (by rw [valG_any]; exact valG_mem.mp h), mapV_keys]
theorem keys_put_new (h : ¬ k ∈ kvs.map (·.1)) : (putD kvs k y).map (·.1) = kvs.map (·.1) ++ [k] := by
  unfold putD
  rw [if_neg (fun a => h (valG_mem.mpr (by rw [← valG_any]; exact a))), List.map_append]; rfl
theorem length_put : (putD kvs k y).length ≤ kvs.length + 1 := by
  unfold putD
  split
  · unfold mapV; rw [List.length_map]; omega
  · simp
end
def toKD (l : List (Key × Int)) : List (Key × D) := l.map fun p => (p.1, .int p.2)
theorem toKD_keys {l : List (Key × Int)} : (toKD l).map (·.1) = l.map (·.1) := by unfold toKD; rw [List.map_map]; rfl
theorem toKD_val {l : List (Key × Int)} {k : Key} : valD (toKD l) k = (valG l k).map .int := by
  induction l with
  | nil => rfl
  | cons p r ih =>
    have e : valD (toKD (p :: r)) k = valG ((p.1, D.int p.2) :: toKD r) k := rfl
    rw [e]
    by_cases h : p.1 = k
    · rw [valG_pos (p := (p.1, D.int p.2)) h, valG_pos h]; rfl
    · rw [valG_neg (p := (p.1, D.int p.2)) h, valG_neg h]; exact ih
theorem toKD_put {l : List (Key × Int)} {k : Key} {i : Int} : putD (toKD l) k (.int i) = toKD (putD l k i) := by
  unfold putD
  have e : ((toKD l).any fun kv => decide (kv.1 = k)) = l.any fun kv => decide (kv.1 = k) := by unfold toKD; rw [List.any_map]; rfl
  rw [e]
  split
  · unfold mapV toKD
    rw [List.map_map, List.map_map]
    apply List.map_congr_left
    intro p _
    show (if p.1 = k then (p.1, D.int i) else (p.1, D.int p.2)) = ((if p.1 = k then (p.1, i) else p).1, D.int (if p.1 = k then (p.1, i) else p).2)
    split <;> rfl
  · unfold toKD; rw [List.map_append]; rfl
/-! the sums -/
def pairD (p : Str × Int) : D := .tup [.str p.1, .int p.2]
def sums : List (Key × Int) → List (Str × Int) → List (Key × Int)
  | l, [] => l
  | l, p :: r => sums (putD l (.inr p.1) ((valG l (.inr p.1)).getD 0 + p.2)) r
theorem sums_length : ∀ (ps : List (Str × Int)) (l : List (Key × Int)), (sums l ps).length ≤ l.length + ps.length
  | [], l => by unfold sums; simp
  | p :: r, l => by
    unfold sums
    have := sums_length r (putD l (.inr p.1) ((valG l (.inr p.1)).getD 0 + p.2))
    have h2 := length_put (kvs := l) (k := .inr p.1) (y := (valG l (.inr p.1)).getD 0 + p.2)
    rw [List.length_cons]
    omega
theorem form_loop {c d : D} {n : Nat} : ∀ (ps : List (Str × Int)) (l : List (Key × Int)) (mu : List MO) (o3 o4 : Option D), mu[n]? = some (.dk (toKD l)) → l.length + ps.length < sizeLine →
    loopF (asgT 2 (asgCons (asgN 3) (asgCons (asgN 4) asgNil))) (sDput (eVar 2) (eVar 3) (eBin gAdd (eGet2 (eVar 2) (eVar 3) (eC (.int 0))) (eVar 4))) [3, 4] [] (ps.map pairD) [some c, some d, some (.ref n), o3, o4] mu =
      .ok (.nx [some c, some d, some (.ref n), none, none]) (mu.set n (.dk (toKD (sums l ps))))
  | [], l, mu, _, _, h, _ => by
    rw [List.map_nil, loopF_nil]
    have e : mu.set n (.dk (toKD (sums l []))) = mu := by
      apply List.ext_getElem?
      intro i
      by_cases e : n = i
      · subst e; rw [List.getElem?_set_self (List.getElem?_eq_some_iff.mp h).1]; exact h.symm
      · rw [List.getElem?_set_ne e]
    rw [e]; rfl
  | p :: r, l, mu, _, _, h, hl => by
    have hn : n < mu.length := (List.getElem?_eq_some_iff.mp h).1
    have hset : ∀ x : MO, (mu.set n x)[n]? = some x := fun x => List.getElem?_set_self hn
    have hl' : (toKD l).length < sizeLine := by unfold toKD; rw [List.length_map]; rw [List.length_cons] at hl; omega
    have ih := form_loop (c := c) (d := d) (n := n) r (putD l (.inr p.1) ((valG l (.inr p.1)).getD 0 + p.2)) (mu.set n (.dk (toKD (putD l (.inr p.1) ((valG l (.inr p.1)).getD 0 + p.2))))) (some (.str p.1)) (some (.int p.2)) (hset _) (by
      have := length_put (kvs := l) (k := .inr p.1) (y := (valG l (.inr p.1)).getD 0 + p.2)
      rw [List.length_cons] at hl; omega)
    rw [List.set_set] at ih
    rw [List.map_cons, loopF_cons]
    have hv : ((Option.map D.int (valG l (.inr p.1))).getD (D.int 0)) = D.int ((valG l (.inr p.1)).getD 0) := by cases valG l (.inr p.1) <;> rfl
    have hput : putM (.ref n) (.str p.1) (.int ((valG l (.inr p.1)).getD 0 + p.2)) mu = .ok .non (mu.set n (.dk (toKD (putD l (.inr p.1) ((valG l (.inr p.1)).getD 0 + p.2))))) := by
      rw [putM_at (k := .inr p.1) rfl h hl', toKD_put]
    simp [pairD, h, toKD_val, hv, hput]
    exact ih
end MP
namespace MP
open PySem L2 PyProof.Rows
section
variable {γ : Type} {asg : D → Env → M Env} {t : Env → M Bool} {r : Env → M D} {env : Env} {mu : List MO}
theorem loopC_filter' {g f : γ → D} {p : γ → Bool} : ∀ {xs : List γ}, (∀ x ∈ xs, ∃ env1, asg (g x) env mu = .ok env1 mu ∧ t env1 mu = .ok (p x) mu ∧ (p x = true → r env1 mu = .ok (f x) mu)) → loopC asg t r [] (xs.map g) env mu = .ok ((xs.filter p).map f) mu
  | [], _ => loopC_nil
  | x :: xs, h => by
    obtain ⟨env1, h1, h2, h3⟩ := h x (by simp)
    have ih := loopC_filter' (xs := xs) fun e he => h e (by simp [he])
    rw [List.map_cons]
    cases hp : p x with
    | true =>
      rw [List.filter_cons_of_pos hp, List.map_cons]
      exact loopC_yes h1 (by rw [h2, hp]) (h3 hp) ih
    | false =>
      rw [List.filter_cons_of_neg (by rw [hp]; decide)]
      exact loopC_no h1 (by rw [h2, hp]) ih
theorem loopC_map' {g f : γ → D} : ∀ {xs : List γ}, (∀ x ∈ xs, ∃ env1, asg (g x) env mu = .ok env1 mu ∧ t env1 mu = .ok true mu ∧ r env1 mu = .ok (f x) mu) → loopC asg t r [] (xs.map g) env mu = .ok (xs.map f) mu
  | [], _ => loopC_nil
  | x :: xs, h => by
    obtain ⟨env1, h1, h2, h3⟩ := h x (by simp)
    rw [List.map_cons, List.map_cons]
    exact loopC_yes h1 h2 h3 (loopC_map' (xs := xs) fun e he => h e (by simp [he]))
end
theorem keyStrs_map : ∀ (ns : List Str), keyStrs (ns.map Sum.inr) = some ns
  | [] => rfl
  | n :: ns => by
    show (keyStrs (ns.map Sum.inr)).map (n :: ·) = _
    rw [keyStrs_map ns]; rfl
theorem sums_keys : ∀ (ps : List (Str × Int)) (l : List (Key × Int)) (ns : List Str), l.map (·.1) = ns.map Sum.inr → ns.Nodup → ∃ ns' : List Str, (sums l ps).map (·.1) = ns'.map Sum.inr ∧ ns'.Nodup ∧ ∀ n, n ∈ ns' ↔ n ∈ ns ∨ n ∈ ps.map (·.1)
  | [], l, ns, h, hn => ⟨ns, h, hn, fun n => by simp⟩
  | p :: r, l, ns, h, hn => by
    unfold sums
    by_cases hp : p.1 ∈ ns
    · obtain ⟨ns', h1, h2, h3⟩ := sums_keys r (putD l (.inr p.1) ((valG l (.inr p.1)).getD 0 + p.2)) ns (by rw [keys_put_in (by rw [h]; exact List.mem_map.mpr ⟨_, hp, rfl⟩), h]) hn
      refine ⟨ns', h1, h2, fun n => ?_⟩
      rw [h3, List.map_cons, List.mem_cons]
      constructor
      · rintro (z | z)
        · exact .inl z
        · exact .inr (.inr z)
      · rintro (z | z | z)
        · exact .inl z
        · rw [z]; exact .inl hp
        · exact .inr z
    · have hk : ¬ (Sum.inr p.1 : Key) ∈ l.map (·.1) := by
        rw [h]
        intro z
        obtain ⟨q, hq, e⟩ := List.mem_map.mp z
        cases e
        exact hp hq
      obtain ⟨ns', h1, h2, h3⟩ := sums_keys r (putD l (.inr p.1) ((valG l (.inr p.1)).getD 0 + p.2)) (ns ++ [p.1]) (by rw [keys_put_new hk, h, List.map_append]; rfl) (by
        rw [List.nodup_append]
        exact ⟨hn, by simp, fun x hx y hy e => by rw [List.mem_singleton.mp hy] at e; rw [e] at hx; exact hp hx⟩)
      refine ⟨ns', h1, h2, fun n => ?_⟩
      rw [h3, List.map_cons, List.mem_cons, List.mem_append, List.mem_singleton]
      constructor
      · rintro ((z | z) | z)
        · exact .inl z
        · exact .inr (.inl z)
        · exact .inr (.inr z)
      · rintro (z | z | z)
        · exact .inl (.inl z)
        · exact .inl (.inr z)
        · exact .inr z
def nms (ps : List (Str × Int)) : List Str := (keyStrs ((sums [] ps).map (·.1))).getD []
def valOf (ps : List (Str × Int)) (s : Str) : Int := (valG (sums [] ps) (.inr s)).getD 0
theorem nms_spec (ps : List (Str × Int)) : (sums [] ps).map (·.1) = (nms ps).map Sum.inr ∧ (nms ps).Nodup ∧ ∀ n, n ∈ nms ps ↔ n ∈ ps.map (·.1) := by
  obtain ⟨ns, h1, h2, h3⟩ := sums_keys ps [] [] rfl List.nodup_nil
  have e : nms ps = ns := by unfold nms; rw [h1, keyStrs_map]; rfl
  rw [e]
  exact ⟨h1, h2, fun n => by rw [h3]; simp⟩
/-- the form's pairs: sums by name, in order, no nothing -/
def canon (ps : List (Str × Int)) : List (Str × Int) := ((srtS (nms ps)).filter fun s => !(valOf ps s == 0)).map fun s => (s, valOf ps s)
def formD (c : D) (ps : List (Str × Int)) : D := .tup [c, .tup ((canon ps).map pairD)]
theorem srtS_mem {xs : List Str} {x : Str} : x ∈ srtS xs ↔ x ∈ xs := (List.mergeSort_perm xs leS).mem_iff
theorem srtS_len {xs : List Str} : (srtS xs).length = xs.length := (List.mergeSort_perm xs leS).length_eq
theorem nms_len (ps : List (Str × Int)) : (nms ps).length ≤ ps.length := by
  have h := congrArg List.length (nms_spec ps).1
  rw [List.length_map, List.length_map] at h
  have := sums_length ps []
  simp at this
  omega
theorem canon_len (ps : List (Str × Int)) : (canon ps).length ≤ ps.length := by
  unfold canon
  rw [List.length_map]
  have h1 := List.length_filter_le (fun s => !(valOf ps s == 0)) (srtS (nms ps))
  rw [srtS_len] at h1
  have := nms_len ps
  omega
theorem gEq_zero {neg : Bool} {i : Int} {mu : List MO} : gEq neg (.int i) (.int 0) mu = .ok (.bl ((i == 0) != neg)) mu := gEq_ints
theorem srtK_ok {ks : List Key} {ns : List Str} {mu : List MO} (h : ks = ns.map Sum.inr) (hl : ns.length < 64) : srtK ks mu = .ok ((srtS ns).map D.str) mu := by
  unfold srtK
  rw [h, bind_ap, need_ap, if_pos (by rw [List.length_map]; exact hl), keyStrs_map]
  rfl
theorem form_ok {c d : D} {ps : List (Str × Int)} {mu : List MO} (hd : ∀ mu, walkD d mu = .ok (ps.map pairD, []) mu) (hl : ps.length < 64) :
    den_form [c, d] mu = .ok (.vl (formD c ps)) (mu ++ [MO.dk (toKD (sums [] ps))]) := by
  obtain ⟨hk, hnd, hmem⟩ := nms_spec ps
  have hsz : (64 : Nat) ≤ sizeLine := by decide
  have hset : ∀ y : MO, (mu ++ [MO.dk (toKD [])]).set mu.length y = mu ++ [y] := fun y => by simp [List.set_append]
  have h1 := form_loop (c := c) (d := d) (n := mu.length) ps [] (mu ++ [MO.dk (toKD [])]) none none (by simp) (by simp; omega)
  rw [hset] at h1
  have h0 : (mu ++ [MO.dk (toKD (sums [] ps))])[mu.length]? = some (.dk (toKD (sums [] ps))) := by simp
  have h2 := srtK_ok (mu := mu ++ [MO.dk (toKD (sums [] ps))]) (show (toKD (sums [] ps)).map (·.1) = (nms ps).map Sum.inr by rw [toKD_keys]; exact hk) (by have := nms_len ps; omega)
  have hgd : ∀ s ∈ srtS (nms ps), gDget (.ref mu.length) (.str s) (mu ++ [MO.dk (toKD (sums [] ps))]) = .ok (.int (valOf ps s)) (mu ++ [MO.dk (toKD (sums [] ps))]) := fun s hs => by
    have hin : (valG (sums [] ps) (.inr s)).isSome = true := valG_mem.mp (by rw [hk]; exact List.mem_map.mpr ⟨s, srtS_mem.mp hs, rfl⟩)
    obtain ⟨v, hv⟩ := Option.isSome_iff_exists.mp hin
    unfold gDget valOf
    simp [h0, toKD_val, hv]
  have h3 : loopC (asgN 3) (eB (eBin (gEq true) (eBin gDget (eVar 2) (eVar 3)) (eC (.int 0)))) (aThen gTup (aCons (eVar 3) (aCons (eBin gDget (eVar 2) (eVar 3)) aNil))) [] ((srtS (nms ps)).map D.str) [some c, some d, some (.ref mu.length), none, none] (mu ++ [MO.dk (toKD (sums [] ps))]) =
      .ok (((srtS (nms ps)).filter fun s => !(valOf ps s == 0)).map fun s => pairD (s, valOf ps s)) (mu ++ [MO.dk (toKD (sums [] ps))]) := by
    refine loopC_filter' fun s hs => ⟨_, rfl, ?_, fun _ => ?_⟩
    · simp [hgd s hs, gEq_zero]
    · have e2 : (2 : Nat) ≤ sizeLine := by decide
      simp [hgd s hs, gTup_ok, e2, pairD]
  refine noX_ok ?_
  have e2 : (2 : Nat) ≤ sizeLine := by decide
  have ek : toKD [] = [] := rfl
  rw [ek] at h1
  simp [r_form, startE, hd, h1, h0, h2, noX_ok h3, gTup_ok, e2]
  simp [formD, canon, Function.comp_def]
end MP
namespace MP
open PySem L2 PyProof.Rows
theorem ltS_iff {x y : Str} : ltS x y = true ↔ x.cps.toList < y.cps.toList := by unfold ltS; exact decide_eq_true_iff
theorem ltS_le {x y : Str} (h : ltS x y = true) : leS x y = true := leS_iff.mpr (List.le_of_lt (ltS_iff.mp h))
theorem ltS_irr {x : Str} : ltS x x = false := by
  cases h : ltS x x with
  | false => rfl
  | true => exact absurd (ltS_iff.mp h) (List.lt_irrefl _)
theorem ltS_of {x y : Str} (h : leS x y = true) (hn : x ≠ y) : ltS x y = true := by
  cases hl : ltS x y with
  | true => rfl
  | false =>
    have h2 : leS y x = true := by
      unfold leS
      rw [ltCps_eq]
      have : ¬ x.cps.toList < y.cps.toList := fun z => by rw [ltS_iff.mpr z] at hl; cases hl
      rw [decide_eq_false this]; rfl
    exact absurd (leS_anti h h2) hn
theorem sums_val (s : Str) : ∀ (ps : List (Str × Int)) (l : List (Key × Int)), (valG (sums l ps) (.inr s)).getD 0 = (valG l (.inr s)).getD 0 + ((ps.filter fun p => p.1 == s).map (·.2)).sum
  | [], l => by unfold sums; simp
  | p :: r, l => by
    unfold sums
    rw [sums_val s r, valG_put]
    by_cases e : s = p.1
    · subst e
      rw [if_pos rfl, List.filter_cons_of_pos (by simp), List.map_cons, List.sum_cons]
      show (valG l (.inr p.1)).getD 0 + p.2 + _ = _
      omega
    · rw [if_neg (fun z => e (Sum.inr.inj z)), List.filter_cons_of_neg (by simp; exact fun z => e z.symm)]
theorem valOf_eq (ps : List (Str × Int)) (s : Str) : valOf ps s = ((ps.filter fun p => p.1 == s).map (·.2)).sum := by
  unfold valOf
  rw [sums_val]
  show (0 : Int) + _ = _
  omega
/-- names rising, nothing without a number -/
structure Canon (qs : List (Str × Int)) : Prop where
  up : qs.Pairwise fun p q => ltS p.1 q.1 = true
  nz : ∀ p ∈ qs, p.2 ≠ 0
theorem srtS_pw {xs : List Str} (h : xs.Nodup) : (srtS xs).Pairwise fun a b => ltS a b = true := by
  have h1 := List.pairwise_mergeSort leS_trans leS_total xs
  have h2 : (srtS xs).Nodup := (List.mergeSort_perm xs leS).nodup_iff.mpr h
  exact (h1.and h2).imp fun ⟨a, b⟩ => ltS_of a b
theorem canon_canon (ps : List (Str × Int)) : Canon (canon ps) := by
  refine ⟨?_, fun p hp => ?_⟩
  · unfold canon
    rw [List.pairwise_map]
    exact (srtS_pw (nms_spec ps).2.1).filter _
  · unfold canon at hp
    obtain ⟨s, hs, e⟩ := List.mem_map.mp hp
    subst e
    have := (List.mem_filter.mp hs).2
    simpa using this
theorem canon_names {ps : List (Str × Int)} {p : Str × Int} (h : p ∈ canon ps) : p.1 ∈ ps.map (·.1) := by
  unfold canon at h
  obtain ⟨s, hs, e⟩ := List.mem_map.mp h
  subst e
  exact ((nms_spec ps).2.2 _).mp (srtS_mem.mp (List.mem_filter.mp hs).1)
theorem Canon.nodup {qs : List (Str × Int)} (h : Canon qs) : (qs.map (·.1)).Nodup := by
  rw [List.nodup_iff_pairwise_ne, List.pairwise_map]
  exact h.up.imp fun {a b} z e => by rw [e, ltS_irr] at z; cases z
theorem Canon.val {qs : List (Str × Int)} (h : Canon qs) : ∀ p ∈ qs, valOf qs p.1 = p.2 := fun p hp => by
  rw [valOf_eq]
  have hn := h.nodup
  clear h
  induction qs with
  | nil => simp at hp
  | cons q r ih =>
    rw [List.map_cons, List.nodup_cons] at hn
    rcases List.mem_cons.mp hp with e | e
    · subst e
      rw [List.filter_cons_of_pos (by simp), List.map_cons, List.sum_cons]
      have z : (r.filter fun q => q.1 == p.1) = [] := by
        rw [List.filter_eq_nil_iff]
        intro q hq e
        exact hn.1 (List.mem_map.mpr ⟨q, hq, by simpa using e⟩)
      rw [z]; simp
    · have hne : ¬ q.1 = p.1 := fun z => hn.1 (List.mem_map.mpr ⟨p, e, z.symm⟩)
      rw [List.filter_cons_of_neg (by simpa using hne)]
      exact ih e hn.2
theorem canon_id {qs : List (Str × Int)} (h : Canon qs) : canon qs = qs := by
  obtain ⟨h1, h2, h3⟩ := nms_spec qs
  have hperm : (nms qs).Perm (qs.map (·.1)) := (List.perm_ext_iff_of_nodup h2 h.nodup).mpr h3
  have hs : srtS (nms qs) = qs.map (·.1) := by
    refine List.Perm.eq_of_pairwise (le := fun a b => leS a b = true) (fun a b _ _ x y => leS_anti x y) (List.pairwise_mergeSort leS_trans leS_total _) ?_ ((List.mergeSort_perm _ leS).trans hperm)
    rw [List.pairwise_map]
    exact h.up.imp fun z => ltS_le z
  unfold canon
  rw [hs, List.filter_map, List.map_map]
  have hf : qs.filter ((fun s => !(valOf qs s == 0)) ∘ fun p => p.1) = qs := by
    rw [List.filter_eq_self]
    intro p hp
    show (!(valOf qs p.1 == 0)) = true
    rw [h.val p hp]
    have := h.nz p hp
    simpa using this
  rw [hf]
  conv => rhs; rw [← List.map_id qs]
  apply List.map_congr_left
  intro p hp
  show (p.1, valOf qs p.1) = p
  rw [h.val p hp]
theorem cps_append (x y : Str) : (x ++ y).cps.toList = x.cps.toList ++ y.cps.toList := by
  show (x.cps ++ y.cps).toList = _
  simp
theorem lt_append (m : List Nat) : ∀ (a b : List Nat), m ++ a < m ++ b ↔ a < b := by
  induction m with
  | nil => intro a b; rfl
  | cons x m ih =>
    intro a b
    rw [List.cons_append, List.cons_append, List.cons_lt_cons_iff]
    constructor
    · rintro (h | ⟨_, h⟩)
      · exact absurd h (Nat.lt_irrefl _)
      · exact (ih a b).mp h
    · intro h; exact .inr ⟨rfl, (ih a b).mpr h⟩
theorem ltS_append {m x y : Str} : ltS (m ++ x) (m ++ y) = ltS x y := by
  unfold ltS
  rw [cps_append, cps_append]
  exact decide_eq_decide.mpr (lt_append _ _ _)
/-- each name with a mark ahead -/
def marked (m : Str) (qs : List (Str × Int)) : List (Str × Int) := qs.map fun p => (m ++ p.1, p.2)
theorem Canon.marked {qs : List (Str × Int)} (h : Canon qs) (m : Str) : Canon (marked m qs) := by
  refine ⟨?_, fun p hp => ?_⟩
  · unfold MP.marked
    rw [List.pairwise_map]
    exact h.up.imp fun z => by show ltS (m ++ _) (m ++ _) = true; rw [ltS_append]; exact z
  · obtain ⟨q, hq, e⟩ := List.mem_map.mp hp
    subst e
    exact h.nz q hq
/-! what form promises -/
def pairOf : D → Option (Str × Int)
  | .tup [.str s, .int i] => some (s, i)
  | _ => none
def pairsOf : List D → Option (List (Str × Int))
  | [] => some []
  | d :: ds => match pairOf d, pairsOf ds with
    | some p, some r => some (p :: r)
    | _, _ => none
theorem pairsOf_eq : ∀ {ds : List D} {ps : List (Str × Int)}, pairsOf ds = some ps → ds = ps.map pairD
  | [], ps, h => by cases h; rfl
  | d :: ds, ps, h => by
    unfold pairsOf at h
    cases hp : pairOf d with
    | none => rw [hp] at h; cases h
    | some p =>
      cases hr : pairsOf ds with
      | none => rw [hp, hr] at h; cases h
      | some r =>
        rw [hp, hr] at h
        cases h
        rw [List.map_cons, ← pairsOf_eq hr]
        congr 1
        unfold pairOf at hp
        split at hp
        · cases hp; rfl
        · cases hp
theorem pairsOf_map : ∀ (ps : List (Str × Int)), pairsOf (ps.map pairD) = some ps
  | [] => rfl
  | p :: r => by
    rw [List.map_cons]
    unfold pairsOf
    rw [pairsOf_map r]
    rfl
def seqOf : D → Option (List D)
  | .fl xs => some xs
  | .tup xs => some xs
  | .ro xs => some xs
  | _ => none
theorem seqOf_walk {d : D} {xs : List D} (h : seqOf d = some xs) (mu : List MO) : walkD d mu = .ok (xs, []) mu := by
  cases d <;> simp [seqOf] at h <;> (subst h; rfl)
def formF : List D → Option D
  | [c, d] => match seqOf d with
    | some xs => match pairsOf xs with
      | some ps => if ps.length < 64 then some (formD c ps) else none
      | none => none
    | none => none
  | _ => none
theorem formF_ok {c d : D} {ps : List (Str × Int)} (h : seqOf d = some (ps.map pairD)) (hl : ps.length < 64) : formF [c, d] = some (formD c ps) := by
  unfold formF
  simp only [h, pairsOf_map, if_pos hl]
theorem Clo.pairs {k : Nat} (ps : List (Str × Int)) : Clos k (ps.map pairD) := Clos.of fun d hd => by
  obtain ⟨p, _, e⟩ := List.mem_map.mp hd
  subst e
  exact Clo.tup.mpr (Clos.cons Clo.str (Clos.cons Clo.int Clos.nil))
theorem gc_form : GC 2 den_form (pureD formF) := gc_pure fun ds mu d hn hc hh hf => by
  match ds, hc, hf with
  | [c, e], hc, hf =>
    unfold formF at hf
    simp only at hf
    split at hf
    · rename_i xs hx
      split at hf
      · rename_i ps hp
        split at hf
        · rename_i hl
          cases hf
          have e1 := pairsOf_eq hp
          subst e1
          exact ⟨Clo.tup.mpr (Clos.cons hc.inv.1 (Clos.cons (Clo.tup.mpr (Clo.pairs _)) Clos.nil)), _, form_ok (fun mu => seqOf_walk hx mu) hl⟩
        · cases hf
      · cases hf
    · cases hf
  | [], _, hf => cases hf
  | [_], _, hf => cases hf
  | _ :: _ :: _ :: _, _, hf => cases hf
noncomputable abbrev r__law_form := r_form
noncomputable abbrev den__law_form := den_form
end MP
namespace MP
open PySem L2 PyProof.Rows
section
variable {asg : D → Env → M Env} {body : Env → M Fl} {fg : List Nat} {t : Env → M Bool} {r : Env → M D}
/-- a loop with an invariant; the number tells how many turns are left -/
theorem loopF_inv {I : Nat → Env → List MO → Prop} : ∀ {ds : List D} {env : Env} {mu : List MO}, (∀ d ∈ ds, ∀ k env mu, I (k + 1) env mu → ∃ env1 e' mu', asg d (wipeE env fg) mu = .ok env1 mu ∧ body env1 mu = .ok (.nx e') mu' ∧ I k e' mu') → I ds.length env mu →
    ∃ e' mu', loopF asg body fg [] ds env mu = .ok (.nx (wipeE e' fg)) mu' ∧ I 0 e' mu'
  | [], env, mu, _, h => ⟨env, mu, loopF_nil, h⟩
  | d :: ds, env, mu, hs, h => by
    obtain ⟨env1, e1, mu1, h1, h2, h3⟩ := hs d (by simp) ds.length env mu h
    obtain ⟨e', mu', h4, h5⟩ := loopF_inv (ds := ds) (fun x hx => hs x (by simp [hx])) h3
    refine ⟨e', mu', ?_, h5⟩
    rw [loopF_cons]
    simp [h1, h2, h4]
theorem loopC_inv {I : List MO → Prop} {P : D → Prop} : ∀ {ds : List D} {env : Env} {mu : List MO}, (∀ d ∈ ds, ∀ mu, I mu → ∃ env1 mu1 x, asg d env mu = .ok env1 mu ∧ t env1 mu = .ok true mu ∧ r env1 mu = .ok x mu1 ∧ I mu1 ∧ P x) → I mu →
    ∃ xs mu', loopC asg t r [] ds env mu = .ok xs mu' ∧ I mu' ∧ xs.length = ds.length ∧ ∀ x ∈ xs, P x
  | [], env, mu, _, h => ⟨[], mu, loopC_nil, h, rfl, by simp⟩
  | d :: ds, env, mu, hs, h => by
    obtain ⟨env1, mu1, x, h1, h2, h3, h4, h5⟩ := hs d (by simp) mu h
    obtain ⟨xs, mu', h6, h7, h8, h9⟩ := loopC_inv (ds := ds) (env := env) (fun y hy => hs y (by simp [hy])) h4
    exact ⟨x :: xs, mu', loopC_yes h1 h2 h3 h6, h7, by rw [List.length_cons, List.length_cons, h8], fun y hy => by
      rcases List.mem_cons.mp hy with e | e
      · rw [e]; exact h5
      · exact h9 y e⟩
end
theorem len_append (x y : Str) : (x ++ y).length = x.length + y.length := by
  show (x.cps ++ y.cps).size = x.cps.size + y.cps.size
  simp
theorem rng_mem {d : D} {n : Nat} (h : d ∈ rngD 0 n) : ∃ i : Nat, i < n ∧ d = .int i := by
  obtain ⟨i, hi, e⟩ := List.mem_map.mp (show d ∈ (List.range n).map fun (i : Nat) => D.int (0 + (i : Int)) from h)
  exact ⟨i, List.mem_range.mp hi, by rw [← e, Int.zero_add]⟩
theorem wRng1_ok {n : Int} {mu : List MO} (h : -16777216 ≤ n ∧ n ≤ 16777216) : wRng1 [.int n] mu = .ok (rngD 0 n.toNat, []) mu := by
  show ((toI (.int n) : M Int) >>= fun n => (need (-16777216 ≤ n ∧ n ≤ 16777216) : M Unit) >>= fun _ => (pure (rngD 0 n.toNat, []) : M Wk)) mu = _
  rw [bind_ap, toI_int]
  show ((need (-16777216 ≤ n ∧ n ≤ 16777216) : M Unit) >>= fun _ => (pure (rngD 0 n.toNat, []) : M Wk)) mu = _
  rw [bind_ap, need_ap, if_pos h]
  rfl

/-! ### the law's own end -/
def spLaw (K : PySem.W.Frag) (n : Nat) : Sp := fun vs H Q _ => ∃ (a : Addr) (ns : List Int), vs = [.ref a] ∧ Only H ∧ SqL K H a (ns.map V.int) ∧ ns.length ≤ n ∧ ∀ H', Q (.bl true) H'
theorem law_of {P : Program} {w : World} {K : PySem.W.Frag} {mg : Str → Option Value} {base : Heap} {k n : Nat} {f : Addr} {fd : FuncData} {ps : List Str} {den : List D → M Rv} (F : FnOk P w K mg base CX0 k f fd ps (sp K mg 1 den))
    (h : ∀ cs : List Int, cs.length ≤ n → ∃ mu', den [.ro (cs.map .int)] [] = .ok (.vl (.bl true)) mu') : FnOk P w K mg base CX0 k f fd ps (spLaw K n) := F.imp fun vs H Q E ⟨a, ns, e, hO, hS, hl, q⟩ => by
  subst e
  have hro : RoAt K H a (ns.map V.int) := by
    rcases hS with (hS | ⟨o, hS⟩) | hS
    · rcases hO a with z | ⟨o, xs, z⟩
      · rw [z] at hS; cases hS
      · rw [z] at hS; cases hS
    · exact .inl ⟨o, hS⟩
    · exact .inr hS
  obtain ⟨mu', e⟩ := h ns hl
  refine ⟨rfl, [.ro (ns.map .int)], ⟨[], []⟩, [], Reps.one (by simp only [Rep]; exact ⟨a, _, rfl, hro, Reps.of_ints.mpr rfl⟩), ⟨rfl, List.nodup_nil, fun _ z => by simp at z, fun _ z => by simp at z, fun _ _ _ z _ => by simp at z⟩, ?_⟩
  rw [e]
  intro m' H' _ _ v rv
  simp only [Rep] at rv
  subst rv
  exact q H'
theorem walkM {l : PySem.W.OpenLaw} {n k : Nat} {q : Program} {loose : List Str} {XP : (Str → Option Value) → Heap → Prop} {YP : World → Heap → Prop} {d : DefRec} {K : Params → PySem.W.Frag} (hn : l.most = some n) (hn2 : n ≤ sizeLine) (hdf : d.params.defaults = []) (hr : Room k callerA)
    (hY : ∀ (w : World) (h : Heap), YP w h → (K w.params).In h)
    (F : ∀ (w : World) (mg : Str → Option Value) (fa : Addr) (h : Heap), (K w.params).In h → h.Ns mainGlobals mg → mg d.name = some (.ref fa) →
      ∃ fd : FuncData, (∀ (s : Shared) (u : Value), BindsTo s fd ⟨[u], []⟩ [("script", u)]) ∧ ∀ base : Heap, (K w.params).In base → base.Ns mainGlobals mg → FnOk l.prog w (K w.params) mg base CX0 k fa fd ["script"] (spLaw (K w.params) n)) :
    PySem.W.WalkO q loose XP YP l.row.toRowW d [] (fun f vs => PySem.call f vs) :=
  L2.walk_of (n := n) (k := k) (x := "script") (CX := fun _ => CX0) (sp := fun w => spLaw (K w.params) n) hn hn2 hdf hr hY F (fun _ _ a ns hl hO hS => ⟨a, ns, rfl, hO, hS, hl, fun _ => rfl⟩) fun _ _ _ _ _ z => z
end MP
namespace MP
open PySem L2 PyProof.Rows
section
variable {X : Cx} {W : Wx} {e o a b c value i : Expr} {st : Stmt} {es : List Expr} {pos apos cpos tpos p pos' : Pos}
/-! ### a module's texts and numbers -/
theorem me_gstr {x z : Str} {t : Tok} (hg : Gl X x) (hm : X.mg x = some (.str z t)) (hd : (x == ("__debug__" : Str)) = false := by decide) : ME X W (.Name x pos) (eC (.str z)) := me_c (pe_glob hg hm (v := .str z) ⟨t, rfl⟩ hd) fun m H => by simp only [Rep]
theorem me_gint {x : Str} {z : Int} {t : Tok} (hg : Gl X x) (hm : X.mg x = some (.int z t)) (hd : (x == ("__debug__" : Str)) = false := by decide) : ME X W (.Name x pos) (eC (.int z)) := me_c (pe_glob hg hm (v := .int z) ⟨t, rfl⟩ hd) fun m H => by simp only [Rep]
/-! ### what is never reached -/
def sBad : Env → M Fl := fun _ => bad
theorem ms_never : MS X W st sBad := ⟨ps_never.imp fun D σ H ⟨env, m, mu, hE, hR, hp⟩ => (show False from hp).elim⟩
/-! ### is True, is not True -/
def gIsB (neg : Bool) (x y : D) : M D := toB x >>= fun i => toB y >>= fun j => pure (.bl (decide (i = j) != neg))
def rIsBM (neg : Bool) : R2 := fun x y H Q => ∃ a b : Bool, x = .bl a ∧ y = .bl b ∧ Q (.bl (decide (a = b) != neg)) H
theorem op_isBM : OpR X (compareOp .Is) (rIsBM false) := fun pins s σ H x y v u Q I rx ry h => op_isBl pins s σ H x y v u Q I rx ry (by
  obtain ⟨a, b, e1, e2, q⟩ := h
  rw [Bool.bne_false] at q
  exact ⟨a, b, e1, e2, q⟩)
theorem op_notBM : OpR X (compareOp .IsNot) (rIsBM true) := fun pins s σ H x y v u Q I rx ry h => op_notBl pins s σ H x y v u Q I rx ry (by
  obtain ⟨a, b, e1, e2, q⟩ := h
  rw [Bool.bne_true] at q
  exact ⟨a, b, e1, e2, q⟩)
theorem opm_isB {neg : Bool} : OpM X.K W (rIsBM neg) (gIsB neg) := ⟨fun x y v w m mu H Q rl hx hy hp => by
  obtain ⟨i, rfl, rfl, hp⟩ := toB_ok rl hx (Post.bind hp)
  obtain ⟨j, rfl, rfl, hp⟩ := toB_ok rl hy (Post.bind hp)
  exact ⟨i, j, rfl, rfl, Post.pure hp rl _ (by simp only [Rep])⟩⟩
/-! ### <=, >=, > of ints or texts -/
def gOrd (f : Int → Int → Bool) (g : Str → Str → Bool) : D → D → M D
  | .str x, y => do
    let z ← toS y
    pure (.bl (g x z))
  | x, y => gCmp f x y
def rOrd (f : Int → Int → Bool) (g : Str → Str → Bool) : R2 := fun x y H Q => rI0 (fun i j => .bl (f i j)) x y H Q ∨ ∃ i j, x = .str i ∧ y = .str j ∧ Q (.bl (g i j)) H
theorem opm_ord {f : Int → Int → Bool} {g : Str → Str → Bool} : OpM X.K W (rOrd f g) (gOrd f g) := ⟨fun x y v w m mu H Q rl hx hy hp => by
  cases x
  case str z =>
    obtain ⟨j, rfl, rfl, hp⟩ := toS_ok rl hy (Post.bind hp)
    simp only [Rep] at hx
    exact .inr ⟨z, j, hx, rfl, Post.pure hp rl _ (by simp only [Rep])⟩
  all_goals exact .inl (opm_cmp.go _ _ _ _ _ _ _ _ rl hx hy hp)⟩
def gLe : D → D → M D := gOrd (fun i j => decide (i ≤ j)) fun x y => !decide (y.cps.toList < x.cps.toList)
def gGe : D → D → M D := gOrd (fun i j => decide (j ≤ i)) fun x y => !decide (x.cps.toList < y.cps.toList)
def gGt : D → D → M D := gOrd (fun i j => decide (j < i)) fun x y => decide (y.cps.toList < x.cps.toList)
theorem op_leM : OpR X (compareOp .LtE) (rOrd (fun i j => decide (i ≤ j)) fun x y => !decide (y.cps.toList < x.cps.toList)) := op_le.or op_le_str
theorem op_geM : OpR X (compareOp .GtE) (rOrd (fun i j => decide (j ≤ i)) fun x y => !decide (x.cps.toList < y.cps.toList)) := op_ge.or op_ge_str
theorem op_gtM : OpR X (compareOp .Gt) (rOrd (fun i j => decide (j < i)) fun x y => decide (y.cps.toList < x.cps.toList)) := op_gt.or op_gt_str
/-! ### a test that is a value's truth -/
def truD : D → M Bool
  | .non => pure false
  | .bl b => pure b
  | .int i => pure (i != 0)
  | .str z => need (z.length ≤ sizeLine) >>= fun _ => pure ((z.length : Int) != 0)
  | .fd _ xs => pure (!xs.isEmpty)
  | .ref n => fun mu => match mu[n]? with
    | some (.lst xs) => .ok (!xs.isEmpty) mu
    | some (.dk kvs) => .ok (!kvs.isEmpty) mu
    | none => .bad
  | d => rdQ d >>= fun xs => pure (!xs.isEmpty)
def bTru (r : Env → M D) : Env → M Bool := fun env => r env >>= truD
theorem empty_len {α β : Type} {xs : List α} {ys : List β} (h : xs.length = ys.length) : xs.isEmpty = ys.isEmpty := by
  cases xs <;> cases ys <;> simp at h <;> rfl
theorem truD_ok {K : PySem.W.Frag} {W : Wx} {m : Mp} {H : Hp} {mu : List MO} {d : D} {v : V} {Q : Bool → Mp → List MO → Hp → Prop} (R : Rel K m mu H) (h : Rep K m H d v) (hp : Post K W m H (truD d mu) Q) : ∃ k, TruV K v H k ∧ Q k m mu H := by
  have seq : ∀ d, Rep K m H d v → Post K W m H ((rdQ d >>= fun xs => pure (!xs.isEmpty)) mu) Q → ∃ k, TruV K v H k ∧ Q k m mu H := fun d h hp => by
    obtain ⟨a, xs, vs, rfl, hs, hr, hp⟩ := rdQ_ok R h (Post.bind hp)
    rcases hs with hs | hs
    · exact ⟨_, .inl ⟨vs, hs, rfl⟩, by rw [← empty_len hr.length]; exact Post.pure hp R⟩
    · exact ⟨_, .inr (.inl ⟨vs, hs, rfl⟩), by rw [← empty_len hr.length]; exact Post.pure hp R⟩
  cases d
  case non => simp only [Rep] at h; subst h; exact ⟨_, rfl, Post.pure hp R⟩
  case bl b => simp only [Rep] at h; subst h; exact ⟨_, rfl, Post.pure hp R⟩
  case int b => simp only [Rep] at h; subst h; exact ⟨_, rfl, Post.pure hp R⟩
  case str b =>
    obtain ⟨c, hp⟩ := need_ok R (Post.bind hp)
    simp only [Rep] at h; subst h; exact ⟨_, ⟨c, rfl⟩, Post.pure hp R⟩
  case fd ks xs =>
    simp only [Rep] at h
    obtain ⟨a, vs, rfl, hs, _, hl, hr⟩ := h
    refine ⟨_, .inr (.inr ⟨_, hs, rfl⟩), ?_⟩
    rw [show (ks.zip vs).isEmpty = xs.isEmpty from empty_len (by rw [List.length_zip, ← hr.length, hl, Nat.min_self])]
    exact Post.pure hp R
  case ref n =>
    simp only [Rep] at h
    obtain ⟨a, rfl, hm⟩ := h
    obtain ⟨o, ho, hr⟩ := R.at' hm
    have e : truD (.ref n) mu = (match mu[n]? with
      | some (.lst xs) => MP.R.ok (!xs.isEmpty) mu
      | some (.dk kvs) => .ok (!kvs.isEmpty) mu
      | none => .bad) := rfl
    rw [e, ho] at hp
    cases o with
    | lst xs =>
      obtain ⟨vs, hH, hr⟩ := hr
      exact ⟨_, .inl ⟨vs, .of hH, rfl⟩, by rw [← empty_len hr.length]; exact hp m H .refl R⟩
    | dk kvs =>
      obtain ⟨vs, hH, hr⟩ := hr
      have hl := hr.length
      rw [List.length_map] at hl
      refine ⟨_, .inr (.inr ⟨_, hH, rfl⟩), ?_⟩
      rw [show ((kvs.map (·.1)).zip vs).isEmpty = kvs.isEmpty from empty_len (by rw [List.length_zip, List.length_map, ← hl, Nat.min_self])]
      exact hp m H .refl R
  all_goals exact seq _ h hp
theorem mt_truth {r : Env → M D} (h : ME X W a r) (he : ∀ whole, isTrue a X.env whole = (do let v ← whole; standAt a.pos; holding [v] (truthy v)) := by intro _; rfl) : MT X W a (bTru r) :=
  ⟨(pt_truth h.pe he).imp fun σ H Q ⟨env, m, mu, hE, hR, hp⟩ => ⟨env, m, mu, hE, hR, (Post.bind hp).mono fun d m1 mu1 H1 g1 R1 hp v rv => truD_ok R1 rv hp⟩⟩
end
end MP
namespace MP
open PySem L2 PyProof.Rows
/-! ### dict comprehensions -/
/-- a dict that was not there ahead of H -/
def NewDk (K : PySem.W.Frag) (H : Hp) (kvs : List (Key × D)) (m' : Mp) (mu' : List MO) (H' : Hp) (Q : VK) : Prop :=
  ∀ a vs, H a = none → H' a = some (.dK ((kvs.map (·.1)).zip vs)) → m'.Out a → Reps K m' H' (kvs.map (·.2)) vs → Rel K (m'.add a) (mu' ++ [.dk kvs]) H' → Q (.ref a) H'
def tK (K : PySem.W.Frag) (W : Wx) (r : Env → M (List (Key × D))) : TE := fun σ H Q => ∃ env m mu, RepE K m H env σ ∧ Rel K m mu H ∧ Post K W m H (r env mu) fun kvs m' mu' H' => NewDk K H kvs m' mu' H' Q
noncomputable def loopCD (asg : D → Env → M Env) (t : Env → M Bool) (rk r : Env → M D) (g : List (Nat × List D)) : List D → Env → List (Key × D) → M (List (Key × D))
  | [], _, acc => chk g >>= fun _ => pure acc
  | d :: ds, env, acc => chk g >>= fun _ => asg d env >>= fun env1 => t env1 >>= fun b => if b = true then (rk env1 >>= fun y => r env1 >>= fun x => toK y >>= fun k => loopCD asg t rk r g ds env (putD acc k x)) else loopCD asg t rk r g ds env acc
/-- {key: value for .. in .. if ..}; vs: the slots of the comprehension's own names -/
noncomputable def kComp (w : Env → M Wk) (asg : D → Env → M Env) (t : Env → M Bool) (rk r : Env → M D) (vs : List Nat) : Env → M (List (Key × D)) := fun env => w env >>= fun p => noX (loopCD asg t rk r p.2 p.1 (wipeE env vs) [])
theorem toK_at {K : PySem.W.Frag} {W : Wx} {m m0 : Mp} {H H0 : Hp} {mu : List MO} {d : D} {v : V} {α : Type} {f : Key → M α} {Q : α → Mp → List MO → Hp → Prop} (h : Rep K m H d v) (hp : Post K W m0 H0 ((toK d >>= f) mu) Q) : ∃ k, v = kV k ∧ Post K W m0 H0 (f k mu) Q := by
  cases d
  case int i => simp only [Rep] at h; exact ⟨.inl i, h, hp⟩
  case str i => simp only [Rep] at h; exact ⟨.inr i, h, hp⟩
  all_goals exact (show False from hp).elim
section
variable {X : Cx} {W : Wx} {e o a b tg iter elt kx vx : Expr} {es ifs : List Expr} {pos apos cpos p : Pos}
/-- the comprehension's dict, for its reading -/
theorem comp_goD {wi : TI} {vs l : List Nat} {w : Env → M Wk} {asg : D → Env → M Env} {t : Env → M Bool} {rk r : Env → M D} (hl : ∀ i ∈ l, i ∈ vs) (hwi : wi = tI X.K W w) : ∀ σ H Q, tK X.K W (kComp w asg t rk r vs) σ H Q → tDc wi (tG X.K W0 l asg) (tT X.K W0 t) (tE X.K W0 rk) (tE X.K W0 r) vs σ H Q := by
  subst hwi
  rintro σ H Q ⟨env, m, mu, hE, hR, hp⟩
  refine ⟨env, m, mu, hE, hR, (Post.bind hp).mono fun p m1 mu1 H1 g1 R1 hp0 hz J ok => ?_⟩
  have hp0 := noX_post hp0
  intro Dd hDn
  have hdead : ∀ b o, H1 b = some o → b ≠ Dd := fun b o e z => by rw [z, hDn] at e; cases e
  have hD0 : H Dd = none := g1.none_of hDn
  refine ⟨fun i k H2 => ∃ (rest : List D) (acc : List (Key × D)) (vs2 : List V) (m2 : Mp) (mu2 : List MO), k = rest.length ∧ p.1.drop i = rest ∧ acc.length ≤ i ∧ H2 Dd = some (.dK ((acc.map (·.1)).zip vs2)) ∧ Dd ∈ m2.no ∧ Dd ∉ m2.ad ∧ Reps X.K m2 H2 (acc.map (·.2)) vs2 ∧ Rel X.K m2 mu2 H2 ∧ RepE X.K m2 H2 (wipeE env vs) (L2.wipe σ vs) ∧ Grow m1 m2 H1 H2 ∧
      Post X.K W0 m1 H1 (loopCD asg t rk r p.2 rest (wipeE env vs) acc mu2) fun xs m' mu' H' => NewDk X.K H xs m' mu' H' Q, ⟨_, p.1, [], [], m1.shut Dd, mu1, rfl, rfl, Nat.le_refl _, upd_same, by simp [Mp.shut], ?_, Reps.nil_iff.mpr rfl, ?_, ?_, ?_, ?_⟩, ?_⟩
  · exact (R1.free hDn).1
  · have g : Grow m1 m1 H1 (upd H1 Dd (.dK [])) := .laid hDn
    have kp : Keep m1 (m1.shut Dd) H1 (upd H1 Dd (.dK [])) := ⟨fun _ _ h => h, fun a o h n => ⟨by rw [upd_ne (hdead a o h)]; exact h, n.1, fun z => by
      rcases List.mem_append.mp z with z | z
      · exact n.2 z
      · exact hdead a o h (List.mem_singleton.mp z)⟩, g.tups, g.frzs⟩
    refine ⟨R1.len, R1.nd, fun a ha => ?_, fun a ha z => ?_, fun n o a h1 h2 => (R1.obj n o a h1 h2).keep kp fun u q => by rw [upd_ne (hdead a u q)]; exact q⟩
    · rcases List.mem_append.mp ha with z | z
      · exact g.trk a _ (R1.nos a z).choose_spec
      · rw [List.mem_singleton.mp z]; exact ⟨_, upd_same⟩
    · rcases List.mem_append.mp z with z | z
      · exact R1.dj a ha z
      · exact (R1.free hDn).1 (by rw [← List.mem_singleton.mp z]; exact ha)
  · have g : Grow m1 m1 H1 (upd H1 Dd (.dK [])) := .laid hDn
    have kp : Keep m1 (m1.shut Dd) H1 (upd H1 Dd (.dK [])) := ⟨fun _ _ h => h, fun a o h n => ⟨by rw [upd_ne (hdead a o h)]; exact h, n.1, fun z => by
      rcases List.mem_append.mp z with z | z
      · exact n.2 z
      · exact hdead a o h (List.mem_singleton.mp z)⟩, g.tups, g.frzs⟩
    exact ((hE.grow g1).wipe vs).keep kp
  · have g : Grow m1 m1 H1 (upd H1 Dd (.dK [])) := .laid hDn
    exact ⟨⟨[], [Dd], by simp [Mp.shut], rfl, by simp, fun a ha => by rw [List.mem_singleton.mp ha]; exact hDn⟩, g.oth, g.tups, g.frzs, g.trk⟩
  · exact hp0
  rintro i k H2 ⟨rest, acc, vs2, m2, mu2, rfl, hd, ha, hH2, hno, had, hacc, R2, hE2, g2, hp2⟩
  cases rest with
  | nil =>
    have e0 : loopCD asg t rk r p.2 [] (wipeE env vs) acc mu2 = M.bind (chk p.2) (fun _ => pure acc) mu2 := rfl
    rw [e0] at hp2
    unfold M.bind at hp2
    have hch : ∀ q ∈ p.2, mu2[q.1]? = some (.lst q.2) := by
      unfold chk at hp2
      by_cases z : ∀ q ∈ p.2, mu2[q.1]? = some (.lst q.2)
      · exact z
      · rw [if_neg z] at hp2; exact (show False from hp2).elim
    have ec : chk p.2 mu2 = .ok () mu2 := by unfold chk; rw [if_pos hch]
    rw [ec] at hp2
    refine .inl ⟨((ok m2 mu2 H2 g2.keep R2 hch).1 i) (by rw [List.drop_eq_nil_iff] at hd; exact hd), ?_⟩
    obtain ⟨l', k', e1, e2, hl', hk'⟩ := g2.ext
    have n1 : Dd ∉ m1.no := (R1.free hDn).2
    have kp : ∀ m3 : Mp, (∀ n a, m2.ad[n]? = some a → m3.ad[n]? = some a) → (∀ a, m2.Out a → m3.Out a) → Keep m2 m3 H2 H2 := fun m3 h1 h2 => ⟨h1, fun a o h n => ⟨h, h2 a n⟩, fun _ _ h => h, fun _ _ _ h => h⟩
    have k3 : Keep m2 ⟨m2.ad, m1.no⟩ H2 H2 := kp _ (fun _ _ h => h) fun a n => ⟨n.1, fun z => n.2 (by rw [e2]; exact List.mem_append_left _ z)⟩
    have g3 : Grow m1 ⟨m2.ad, m1.no⟩ H1 H2 := ⟨⟨l', [], e1, by simp, hl', by simp⟩, g2.oth, g2.tups, g2.frzs, g2.trk⟩
    have R3 : Rel X.K ⟨m2.ad, m1.no⟩ mu2 H2 := ⟨R2.len, R2.nd, fun a z => R2.nos a (by rw [e2]; exact List.mem_append_left _ z), fun a ha z => R2.dj a ha (by rw [e2]; exact List.mem_append_left _ z), fun n o a h1 h2 => (R2.obj n o a h1 h2).keep k3 fun _ q => q⟩
    have k4 : Keep m2 ((⟨m2.ad, m1.no⟩ : Mp).add Dd) H2 H2 := kp _ (fun n a h => by
      show (m2.ad ++ [Dd])[n]? = some a
      rw [List.getElem?_append_left (List.getElem?_eq_some_iff.mp h).1]; exact h) fun a n => ⟨fun z => by
        rcases List.mem_append.mp z with z | z
        · exact n.1 z
        · exact n.2 (by rw [List.mem_singleton.mp z]; exact hno), fun z => n.2 (by rw [e2]; exact List.mem_append_left _ z)⟩
    have q := hp2 ⟨m2.ad, m1.no⟩ H2 g3 R3 Dd vs2 hD0 hH2 ⟨had, n1⟩ (Reps.keep k3 _ vs2 hacc)
    refine q ?_
    refine ⟨by show (m2.ad ++ [Dd]).length = _; rw [List.length_append, List.length_append, R2.len]; rfl, ?_, fun a z => R3.nos a z, fun a ha z => ?_, fun n ob b h1 h2 => ?_⟩
    · show (m2.ad ++ [Dd]).Nodup
      rw [List.nodup_append]
      refine ⟨R2.nd, by simp, fun x hx y hy => ?_⟩
      rw [List.mem_singleton.mp hy]
      rintro rfl
      exact had hx
    · rcases List.mem_append.mp (show a ∈ m2.ad ++ [Dd] from ha) with z' | z'
      · exact R3.dj a z' z
      · exact n1 (by rw [← List.mem_singleton.mp z']; exact z)
    · have h2 : (m2.ad ++ [Dd])[n]? = some b := h2
      by_cases h : n < mu2.length
      · rw [List.getElem?_append_left h] at h1
        rw [List.getElem?_append_left (by rw [R2.len]; exact h)] at h2
        exact (R2.obj n ob b h1 h2).keep k4 fun _ q => q
      · by_cases hl : n = mu2.length
        · subst hl
          rw [List.getElem?_append_right (Nat.le_refl _), Nat.sub_self] at h1
          rw [List.getElem?_append_right (by rw [R2.len]; exact Nat.le_refl _), ← R2.len, Nat.sub_self] at h2
          cases h1
          cases h2
          exact ⟨vs2, hH2, Reps.keep k4 _ vs2 hacc⟩
        · rw [List.getElem?_eq_none (by rw [List.length_append]; simp only [List.length_cons, List.length_nil]; omega)] at h1
          cases h1
  | cons d ds =>
    have e0 : loopCD asg t rk r p.2 (d :: ds) (wipeE env vs) acc mu2 = M.bind (chk p.2) (fun _ => M.bind (asg d (wipeE env vs)) fun env1 => M.bind (t env1) fun b => if b = true then (rk env1 >>= fun y => r env1 >>= fun x => toK y >>= fun k => loopCD asg t rk r p.2 ds (wipeE env vs) (putD acc k x)) else loopCD asg t rk r p.2 ds (wipeE env vs) acc) mu2 := rfl
    rw [e0] at hp2
    unfold M.bind at hp2
    have hch : ∀ q ∈ p.2, mu2[q.1]? = some (.lst q.2) := by
      unfold chk at hp2
      by_cases z : ∀ q ∈ p.2, mu2[q.1]? = some (.lst q.2)
      · exact z
      · rw [if_neg z] at hp2; exact (show False from hp2).elim
    have ec : chk p.2 mu2 = .ok () mu2 := by unfold chk; rw [if_pos hch]
    rw [ec] at hp2
    dsimp only at hp2
    have hdi : p.1[i]? = some d := by
      have e : (p.1.drop i)[0]? = some d := by rw [hd]; rfl
      rw [List.getElem?_drop] at e
      simpa using e
    have hds : p.1.drop (i + 1) = ds := by
      have e := congrArg List.tail hd
      rw [List.tail_drop] at e
      exact e
    have hil : i < p.1.length := (List.getElem?_eq_some_iff.mp hdi).1
    obtain ⟨go, yl⟩ := (ok m2 mu2 H2 g2.keep R2 hch).2 i d hdi
    -- the turn's end: nothing is added, or a datum
    have fin : ∀ (acc' : List (Key × D)) (vs' : List V) (m3 : Mp) (mu3 : List MO) (H3 : Hp), acc'.length ≤ i + 1 → H3 Dd = some (.dK ((acc'.map (·.1)).zip vs')) → Dd ∈ m3.no → Dd ∉ m3.ad → Reps X.K m3 H3 (acc'.map (·.2)) vs' → Rel X.K m3 mu3 H3 → RepE X.K m3 H3 (wipeE env vs) (L2.wipe σ vs) → Grow m1 m3 H1 H3 →
        (Post X.K W0 m1 H1 (loopCD asg t rk r p.2 ds (wipeE env vs) acc' mu3) fun xs m' mu' H' => NewDk X.K H xs m' mu' H' Q) → ∃ m', m' < (d :: ds).length ∧ ∃ (rest : List D) (acc : List (Key × D)) (vs2 : List V) (m2 : Mp) (mu2 : List MO), m' = rest.length ∧ p.1.drop (i + 1) = rest ∧ acc.length ≤ i + 1 ∧ H3 Dd = some (.dK ((acc.map (·.1)).zip vs2)) ∧ Dd ∈ m2.no ∧ Dd ∉ m2.ad ∧ Reps X.K m2 H3 (acc.map (·.2)) vs2 ∧ Rel X.K m2 mu2 H3 ∧ RepE X.K m2 H3 (wipeE env vs) (L2.wipe σ vs) ∧ Grow m1 m2 H1 H3 ∧
      Post X.K W0 m1 H1 (loopCD asg t rk r p.2 rest (wipeE env vs) acc mu2) fun xs m' mu' H' => NewDk X.K H xs m' mu' H' Q := fun acc' vs' m3 mu3 H3 a1 a2 a3 a4 a5 a6 a7 a8 a9 =>
      ⟨ds.length, Nat.lt_succ_self _, ds, acc', vs', m3, mu3, rfl, hds, a1, a2, a3, a4, a5, a6, a7, a8, a9⟩
    refine .inr ⟨go, fun H3 => ∃ m', m' < (d :: ds).length ∧ ∃ (rest : List D) (acc : List (Key × D)) (vs2 : List V) (m2 : Mp) (mu2 : List MO), m' = rest.length ∧ p.1.drop (i + 1) = rest ∧ acc.length ≤ i + 1 ∧ H3 Dd = some (.dK ((acc.map (·.1)).zip vs2)) ∧ Dd ∈ m2.no ∧ Dd ∉ m2.ad ∧ Reps X.K m2 H3 (acc.map (·.2)) vs2 ∧ Rel X.K m2 mu2 H3 ∧ RepE X.K m2 H3 (wipeE env vs) (L2.wipe σ vs) ∧ Grow m1 m2 H1 H3 ∧
      Post X.K W0 m1 H1 (loopCD asg t rk r p.2 rest (wipeE env vs) acc mu2) fun xs m' mu' H' => NewDk X.K H xs m' mu' H' Q, fun H3 h => h, fun x H3 y => ?_⟩
    obtain ⟨gy, Ry, rx⟩ := yl x H3 y
    refine ⟨d, wipeE env vs, m2, mu2, hE2.grow gy, Ry, rx, ?_⟩
    have stay : ∀ (m3 : Mp) (H4 : Hp), Grow m2 m3 H2 H4 → H4 Dd = some (.dK ((acc.map (·.1)).zip vs2)) ∧ Dd ∈ m3.no ∧ Dd ∉ m3.ad := fun m3 H4 g => by
      obtain ⟨l', k', e1, e2, _, _⟩ := g.ext
      exact ⟨g.oth Dd _ hH2 had, by rw [e2]; exact List.mem_append_left _ hno, g.notin hH2 had⟩
    cases ha1 : asg d (wipeE env vs) mu2 with
    | bad => rw [ha1] at hp2; exact (show False from hp2).elim
    | exc ex mu4 => rw [ha1] at hp2; exact fun m4 H4 g4 R4 => hp2 m4 H4 ((g2.trans gy).trans g4) R4
    | ok env1 mu4 =>
      rw [ha1] at hp2
      dsimp only at hp2
      intro m4 H4 g4 R4 σ2 hE4 off
      refine ⟨wipe_off off hl, env1, m4, mu4, hE4, R4, ?_⟩
      cases ht1 : t env1 mu4 with
      | bad => rw [ht1] at hp2; exact (show False from hp2).elim
      | exc ex mu5 => rw [ht1] at hp2; exact fun m5 H5 g5 R5 => hp2 m5 H5 (((g2.trans gy).trans g4).trans g5) R5
      | ok b mu5 =>
        rw [ht1] at hp2
        dsimp only at hp2
        intro m5 H5 g5 R5
        have g25 : Grow m2 m5 H2 H5 := (gy.trans g4).trans g5
        cases b with
        | false =>
          simp only [Bool.false_eq_true, if_false] at hp2 ⊢
          obtain ⟨s1, s2, s3⟩ := stay m5 H5 g25
          exact fin acc vs2 m5 mu5 H5 (Nat.le_succ_of_le ha) s1 s2 s3 (Reps.grow g25 _ vs2 hacc) R5 (hE2.grow g25) (g2.trans g25) hp2
        | true =>
          simp only [if_true] at hp2 ⊢
          refine ⟨env1, m5, mu5, hE4.grow g5, R5, ?_⟩
          have hp2 : Post X.K W0 m1 H1 (M.bind (rk env1) (fun y => M.bind (r env1) fun x => M.bind (toK y) fun k => loopCD asg t rk r p.2 ds (wipeE env vs) (putD acc k x)) mu5) fun xs m' mu' H' => NewDk X.K H xs m' mu' H' Q := hp2
          unfold M.bind at hp2
          cases hr0 : rk env1 mu5 with
          | bad => rw [hr0] at hp2; exact (show False from hp2).elim
          | exc ex mu6 => rw [hr0] at hp2; exact fun m6 H6 g6 R6 => hp2 m6 H6 ((g2.trans g25).trans g6) R6
          | ok kd mu5b =>
          rw [hr0] at hp2
          dsimp only at hp2
          intro m5b H5b g5b R5b kv rkv
          have g25b : Grow m2 m5b H2 H5b := g25.trans g5b
          refine ⟨env1, m5b, mu5b, (hE4.grow g5).grow g5b, R5b, ?_⟩
          cases hr1 : r env1 mu5b with
          | bad => rw [hr1] at hp2; exact (show False from hp2).elim
          | exc ex mu6 => rw [hr1] at hp2; exact fun m6 H6 g6 R6 => hp2 m6 H6 ((g2.trans g25b).trans g6) R6
          | ok yd mu6 =>
            rw [hr1] at hp2
            dsimp only at hp2
            intro m6 H6 g6 R6 v rv
            have g26 : Grow m2 m6 H2 H6 := g25b.trans g6
            obtain ⟨s1, s2, s3⟩ := stay m6 H6 g26
            have hlen := hacc.length
            have hp3 : Post X.K W0 m1 H1 ((toK kd >>= fun k => loopCD asg t rk r p.2 ds (wipeE env vs) (putD acc k yd)) mu6) fun xs m' mu' H' => NewDk X.K H xs m' mu' H' Q := hp2
            obtain ⟨kk, rfl, hp4⟩ := toK_at (Rep.grow g6 kd kv rkv) hp3
            obtain ⟨ws, ew, hws⟩ := put_rep (k := kk) (Reps.grow g26 _ vs2 hacc) rv
            refine ⟨_, kk, rfl, s1, by rw [List.length_zip, List.length_map]; rw [List.length_map] at hlen; omega, ?_⟩
            rw [ew]
            have nD : ∀ b o, H6 b = some o → m6.Out b → b ≠ Dd := fun b o _ n z => n.2 (by rw [z]; exact s2)
            have kp : Keep m6 m6 H6 (upd H6 Dd (.dK (((putD acc kk yd).map (·.1)).zip ws))) := ⟨fun _ _ h => h, fun a o h n => ⟨by rw [upd_ne (nD a o h n)]; exact h, n⟩, fun a xs h => by rw [upd_ne (fun z => by rw [z, s1] at h; cases h)]; exact h, fun a u xs h => by rw [upd_ne (fun z => by rw [z, s1] at h; cases h)]; exact h⟩
            have g6f : Grow m1 m6 H1 (upd H6 Dd (.dK (((putD acc kk yd).map (·.1)).zip ws))) := by
              have g16 := g2.trans g26
              refine ⟨g16.ext, fun a o h n => ?_, fun a xs h => ?_, fun a o u h => ?_, fun a o h => ?_⟩
              · rw [upd_ne (hdead a o h)]; exact g16.oth a o h n
              · rw [upd_ne (hdead a _ h)]; exact g16.tups a xs h
              · rw [upd_ne (hdead a _ h)]; exact g16.frzs a o u h
              · rw [upd_ne (hdead a o h)]; exact g16.trk a o h
            refine fin (putD acc kk yd) ws m6 mu6 _ (by have := length_put (kvs := acc) (k := kk) (y := yd); omega) upd_same s2 s3 (hws m6 _ (Reps.keep kp _ vs2 (Reps.grow g26 _ vs2 hacc)) (Rep.keep kp yd v rv)) ?_ ((hE2.grow g26).keep kp) g6f hp4
            refine ⟨R6.len, R6.nd, fun a z => ?_, R6.dj, fun n ob a h1 h2 => (R6.obj n ob a h1 h2).keep kp fun u q => ?_⟩
            · by_cases za : a = Dd
              · subst za; exact ⟨_, upd_same⟩
              · rw [upd_ne za]; exact R6.nos a z
            · rw [upd_ne (fun z => s3 (by rw [← z]; exact List.mem_of_getElem? h2))]; exact q

def eNewK (r : Env → M (List (Key × D))) : Env → M D := fun env => r env >>= fun kvs => alloc (.dk kvs)
def eFd (r : Env → M (List (Key × D))) : Env → M D := fun env => r env >>= fun kvs => pure (.fd (kvs.map (·.1)) (kvs.map (·.2)))
theorem newK_go {r : Env → M (List (Key × D))} : ∀ σ H Q, tE X.K W (eNewK r) σ H Q → tK X.K W r σ H Q := fun σ H Q ⟨env, m, mu, hE, hR, hp⟩ => by
  refine ⟨env, m, mu, hE, hR, ?_⟩
  have e0 : eNewK r env mu = M.bind (r env) (fun xs => alloc (.dk xs)) mu := rfl
  rw [e0] at hp
  unfold M.bind at hp
  cases hr : r env mu with
  | ok xs mu1 =>
    rw [hr] at hp
    intro m1 H1 g1 R1 a vs h0 h1 hn hrs ha
    have q := hp (m1.add a) H1 (g1.adopt h0) ha (.ref a)
    exact q (by simp only [Rep]; exact ⟨a, rfl, add_get R1⟩)
  | exc x mu1 => rw [hr] at hp; exact hp
  | bad => rw [hr] at hp; exact hp
theorem fd_go {r : Env → M (List (Key × D))} : ∀ σ H Q, tE X.K W (eFd r) σ H Q → tK X.K W r σ H Q := fun σ H Q ⟨env, m, mu, hE, hR, hp⟩ =>
  ⟨env, m, mu, hE, hR, (Post.bind hp).mono fun xs m1 mu1 H1 g1 R1 hp a vs h0 h1 hn hr _ => Post.pure hp R1 _ (by simp only [Rep]; exact ⟨a, vs, rfl, h1, hn, by rw [List.length_map, List.length_map], hr⟩)⟩
theorem me_compD {scope : Scope} {own : List (Str × Nat)} {w : Env → M Wk} {asg : D → Env → M Env} {t : Env → M Bool} {rk r rr : Env → M D} {l : List Nat} (hc : X.calm = true) (hN : X.N.Nodup) (hi : MI X W tg iter w) (ok : BlkOk X.N X.env.scope scope own) (hl : ∀ i ∈ l, i ∈ own.map (·.2))
    (hg : ∀ (s : Shared) (H : Hp) (C : Addr) (cl : List (Str × Addr)) (fp : List Addr), MG (X.blk s H scope (compEnvC scope cl C X.env) fp) W0 tg l asg) (ht : ∀ (s : Shared) (H : Hp) (C : Addr) (cl : List (Str × Addr)) (fp : List Addr), MTs (X.blk s H scope (compEnvC scope cl C X.env) fp) W0 ifs t)
    (hk : ∀ (s : Shared) (H : Hp) (C : Addr) (cl : List (Str × Addr)) (fp : List Addr), ME (X.blk s H scope (compEnvC scope cl C X.env) fp) W0 kx rk)
    (he : ∀ (s : Shared) (H : Hp) (C : Addr) (cl : List (Str × Addr)) (fp : List Addr), ME (X.blk s H scope (compEnvC scope cl C X.env) fp) W0 vx r)
    (hrr : ∀ σ H Q, tE X.K W rr σ H Q → tK X.K W (kComp w asg t rk r (own.map (·.2))) σ H Q) (hs : ∀ x, foldedSetIterable iter X.env x = pure x := by intro _; rfl) :
    ME X W (.DictComp kx vx [⟨tg, iter, ifs, 0⟩] scope pos) rr :=
  ⟨(pe_dc hc hN hi.pi ok (fun s H C cl fp => (hg s H C cl fp).pg) (fun s H C cl fp => (ht s H C cl fp).pt) (fun s H C cl fp => (hk s H C cl fp).pe) (fun s H C cl fp => (he s H C cl fp).pe) hs).imp fun σ H Q q => comp_goD hl rfl σ H Q (hrr σ H Q q)⟩
end
end MP
/-! ### name = {..} on one line; enumerate of a tuple -/
namespace L2
open PySem PySem.Spec PyProof.Rows
section
variable {X : Cx}
theorem ps_setDc {i : Nat} {y : Str} {py : Pos} {kx vx tg iter : Expr} {ifs : List Expr} {scope : Scope} {own : List (Str × Nat)} {pos spos : Pos} {wi : TI} {g : TG} {tt : TT} {tk tv : TE} (hc : X.calm = true) (hN : X.N.Nodup) (hy : X.N[i]? = some y) (hyl : X.env.scope.names.lookup y = some .local)
    (hsw : swapsWith (.DictComp kx vx [⟨tg, iter, ifs, 0⟩] scope pos) (some (.Name y py)) spos.line X.env = pure true) (hi : PI X tg iter wi) (ok : BlkOk X.N X.env.scope scope own)
    (hg : ∀ (s : Shared) (H : Hp) (C : Addr) (cl : List (Str × Addr)) (fp : List Addr), PG (X.blk s H scope (compEnvC scope cl C X.env) fp) tg g) (ht : ∀ (s : Shared) (H : Hp) (C : Addr) (cl : List (Str × Addr)) (fp : List Addr), PTs (X.blk s H scope (compEnvC scope cl C X.env) fp) ifs tt)
    (hk : ∀ (s : Shared) (H : Hp) (C : Addr) (cl : List (Str × Addr)) (fp : List Addr), PE (X.blk s H scope (compEnvC scope cl C X.env) fp) kx tk)
    (he : ∀ (s : Shared) (H : Hp) (C : Addr) (cl : List (Str × Addr)) (fp : List Addr), PE (X.blk s H scope (compEnvC scope cl C X.env) fp) vx tv) (hs : ∀ x, foldedSetIterable iter X.env x = pure x := by intro _; rfl) :
    PS X (.Assign [.Name y py] (.DictComp kx vx [⟨tg, iter, ifs, 0⟩] scope pos) spos) (tAsg (tDc wi g tt tk tv (own.map (·.2))) (gName i)) := by
  refine ⟨fun pins s σ H D I h => ?_⟩
  rw [exec_Assign_Name_used _ _ _ _ hsw]
  refine wpAny_bind (wpAny_standAt (wpAny_bind ?_))
  show wpAny _ X.A (do let _ ← comprehension (.DictComp kx vx [⟨tg, iter, ifs, 0⟩] scope pos) scope X.env (firstIterPos [⟨tg, iter, ifs, 0⟩] pos) newDict false (eval iter X.env) (some (assign (.Name y py) X.env))) _ _ s
  have h : tDc wi g tt tk tv (own.map (·.2)) σ H (fun x H1 => gName i x σ H1 D.nx) := h
  refine wpAny_bind (thn (dc_core (Qf := fun _ s' => SP X pins D .next s') hc hN I hi ok hg ht hk he hs h fun L C s' m H' I' q hn f => ?_) fun _ s' hq => wpAny_pure (wpAny_pure hq))
  show wpAny _ _ (assign (.Name y py) X.env (.ref L)) _ _ _
  refine wpAny_assign_Name (store_ok2 (v := V.ref L) I' hN hy (.inl hyl) rfl (fun s2 I2 ⟨a, sb, ha⟩ => ?_) (.inr hyl))
  obtain ⟨f0, f1, f2, f3, f4, f5⟩ := f
  have haC : C ≠ a := by
    rcases ha with z | z
    · rw [z]; exact f1
    · exact fun e => f4 y a z e.symm
  refine ⟨m, hn.sameBut sb haC, fun h3 sb3 => ?_⟩
  exact ⟨_, H', I2.turned (t' := s2.toks) (fun b o hb e => (sb3.2 b hb).trans e) f0 f1 f3 f4 f5, q⟩
theorem sw_trueD {kx vx : Expr} {gs : List Comprehension} {scope : Scope} {pos py : Pos} {y : Str} {l : Nat} {env : Env} (hk : env.scope.kind = .function) (hy : env.scope.names.lookup y = some .local) (hl : (py.line == pos.line) = true)
    (ha : (scope.names.any fun (n, k) => n == y && (k == .local || k == .cell)) = false) : swapsWith (.DictComp kx vx gs scope pos) (some (.Name y py)) l env = pure true := by
  have ky : env.kindOf y = some .local := hy
  have hb : env.blockKind = .function := by unfold Env.blockKind; rw [hk]; rfl
  unfold swapsWith
  simp only [hb, ky, ha, Expr.pos, hl]
  rfl
end
end L2
namespace PySem
open Sem (wp)
open AutoSeq1 (wpAny_loadPart')
theorem meets_enumerate_newT (l : Addr) (items : Array Value) (n : Nat) (dct : Option Addr) (sl : Array (Option Value)) :
    Meets (Builtin.«enumerate.__new__» ⟨[.type "enumerate", .ref l], []⟩) (fun _ R s => s.heap.get? l = some { cls := .type "tuple", dict := dct, data := .seq items n, slots := sl } ∧
      R (.ok (.ret (.ref (s.heap.push { cls := .type "tuple_iterator", data := .fields #[.ref l, .int 0 0] }).objs.size)))
        { s with heap := (s.heap.push { cls := .type "tuple_iterator", data := .fields #[.ref l, .int 0 0] }).push { cls := .type "enumerate", data := .fields #[.none, .bool false, .ref s.heap.objs.size, rawInt 0, .none, .none] } }) :=
  .of_wp fun prog w A R s h => by
    obtain ⟨hp, g, d, tk, os⟩ := s; obtain ⟨hl, h⟩ := h
    have hsub := sub_enumerate
    have hL : Heap.IsTuple (Shared.heap ⟨hp, g, d, tk, os⟩) l items := ⟨_, hl, rfl, n, rfl⟩
    wp_walk using wpAny_loadPart' hl
    refine wpAny_stack_any fun st => wpAny_pure ?_
    split
    · rename_i c _ _ _ _ _
      cases (c == Value.type "enumerate")
      · wp_walk using wpAny_loadPart' hl, wpAny_pyIter_tuple hL
        exact ⟨_, rfl, h⟩
      · wp_walk using wpAny_loadPart' hl, wpAny_pyIter_tuple hL
        exact ⟨_, rfl, h⟩
    · wp_walk using wpAny_loadPart' hl, wpAny_pyIter_tuple hL
      exact ⟨_, rfl, h⟩
theorem call_enumerate_tuple {prog : Program} {w : World} {A : Around} {E : Value → Shared → Prop} {s : Shared} {l : Addr} {items : Array Value} {Q : Value → Shared → Prop} (hL : s.heap.IsTuple l items)
    (h : ∀ h', IsEnum h' (s.heap.objs.size + 1) s.heap.objs.size 0 .none → h'.IsTupleIter s.heap.objs.size l 0 → h'.objs.size = s.heap.objs.size + 2 →
      (∀ b o, s.heap.get? b = some o → h'.get? b = some o) → Q (.ref (s.heap.objs.size + 1)) { s with heap := h' }) :
    wpAny (model prog w) A (call (.type "enumerate") [.ref l]) Q E s := by
  obtain ⟨⟨c, dct, dt, sl⟩, hl, hc, n, hd⟩ := hL
  replace hc : c = .type "tuple" := hc
  replace hd : dt = .seq items n := hd
  subst hc hd
  refine callType_new F.called_enumerate (by decide) (F.typeCall_enumerate_1 _) (F.newCall_enumerate_1 _) (fun obj => F.args_object_init_2 obj _) F.entry_enumerate_new
    (meets_enumerate_newT l items n dct sl) ⟨hl, ?_⟩
  have hz : (s.heap.push { cls := .type "tuple_iterator", data := .fields #[.ref l, .int 0 0] }).objs.size = s.heap.objs.size + 1 := Heap.size_push ..
  show _ ∧ _
  rw [hz]
  have he : IsEnum ((s.heap.push { cls := .type "tuple_iterator", data := .fields #[.ref l, .int 0 0] }).push
      { cls := .type "enumerate", data := .fields #[.none, .bool false, .ref s.heap.objs.size, rawInt 0, .none, .none] }) (s.heap.objs.size + 1) s.heap.objs.size 0 .none := by
    have := Heap.get?_push_size (s.heap.push { cls := .type "tuple_iterator", data := .fields #[.ref l, .int 0 0] })
      (o := { cls := .type "enumerate", data := .fields #[.none, .bool false, .ref s.heap.objs.size, rawInt 0, .none, .none] }) rfl
    rw [hz] at this; exact this
  refine ⟨⟨_, he, rfl⟩, h _ he ⟨_, Heap.get?_push_of_some _ (Heap.get?_push_size _ rfl), rfl, rfl⟩ (by rw [Heap.size_push, hz]) fun b o x => Heap.get?_push_of_some _ (Heap.get?_push_of_some _ x)⟩
end PySem
namespace L2
open PySem PySem.Spec PyProof.Rows
/-- the tuple at a, each item in a new pair -/
def IteT (K : PySem.W.Frag) (a : Addr) : It :=
  ⟨fun i H => ∃ (xs : List V) (x : V), SqT K H a xs ∧ xs[i]? = some x, fun i H v H' => ∃ T x, v = .ref T ∧ H T = none ∧ H' = upd H T (.tup [.int (i : Nat), x]) ∧ ∀ xs, SqT K H a xs → xs[i]? = some x, fun i H => ∃ xs : List V, SqT K H a xs ∧ xs.length ≤ i⟩
theorem turn_enumT {P : Program} {w : World} {K : PySem.W.Frag} {elts : List Expr} {kk : Nat} {tpos : Pos} (a e it : Addr) (hait : a ≠ it) (hae : a ≠ e) :
    Turn P w K (.Tuple elts kk tpos) (IteT K a) [e, it] e (fun i h => (∃ old, IsEnum h e it ((i : Nat) : Int) old) ∧ h.IsTupleIter it a i ∧ e ≠ it) where
  mem := by simp
  obj := fun i h st b hb => by
    obtain ⟨⟨old, he⟩, ⟨o, ho, hc, hd⟩, _⟩ := st
    have e' : b = e ∨ b = it := by simpa using hb
    rcases e' with z | z
    · rw [z]; exact ⟨_, he, fun v q => nomatch q⟩
    · rw [z]; exact ⟨o, ho, fun v q => by rw [hd] at q; cases q⟩
  keep := fun i h h' st k => let ⟨⟨old, he⟩, hi, hne⟩ := st; ⟨⟨old, k e (by simp) _ he⟩, hi.at fun o q => k it (by simp) o q, hne⟩
  item := by
    intro X hP hw hK hc i pins s σ H E I hf st hg
    subst hP hw hK
    obtain ⟨⟨old, he⟩, hit, hne⟩ := st
    obtain ⟨xs, x, hq, hx⟩ := hg
    obtain ⟨its, rv, p, hz⟩ := I.tuple hq
    obtain ⟨u, hu, ru⟩ := rv.get hx
    have hel : e < s.heap.objs.size := Heap.lt_size he
    have hil : it < s.heap.objs.size := by obtain ⟨_, q, _⟩ := hit; exact Heap.lt_size q
    have hD := Draws.tuple (prog := X.prog) (w := X.w) (A := X.A.in1) (by show X.A.handled = none; exact I.ok.hd hc) it a hait its.toArray
    have hlt : i < its.toArray.size := by
      have := (List.getElem?_eq_some_iff.mp hu).1
      simpa using this
    refine wpAny_pyNext_enum_itemD hD he ⟨hit, p⟩ hlt hne (by simp; exact ⟨hne, fun z => hae z.symm⟩) fun u2 h' tk hP ho hst hT hsz hk => ?_
    have eu : u2 = u := by
      have hP : its.toArray[i]? = some u2 := hP
      rw [List.getElem?_toArray, hu] at hP
      exact (Option.some.inj hP).symm
    subst eu
    refine ⟨_, rfl, wpAny_letOwnedTupleGo_enum (s := { s with heap := h', toks := tk + 1 }) ho fun h'' he' sb => ?_⟩
    have hT2 : h''.get? s.heap.objs.size = some { cls := .type "tuple", data := .seq #[.int i tk, u2] } := (sb.2 _ (Nat.ne_of_gt hel)).trans hT
    have new : ObjOk X.prog X.w (upd H s.heap.objs.size (.tup [.int (i : Nat), x])) h'' s.heap.objs.size (.tup [.int (i : Nat), x]) :=
      ⟨by show 2 ≤ sizeLine; decide, [.int i tk, u2], .cons ⟨_, rfl⟩ (.cons ru .nil), ⟨_, hT2, rfl, _, rfl⟩⟩
    have I1 : Inv X pins σ (upd H s.heap.objs.size (.tup [.int (i : Nat), x])) { s with heap := h'', toks := tk + 1 } :=
      I.turnedNew (ch := [e, it]) (fun b ob hb q => (sb.2 b (fun z => hb (by simp [z]))).trans (hk b ob (fun z => hb (by simp [z])) (fun z => hb (by simp [z])) q)) hf (Nat.le_refl _) new
    refine ⟨.ref s.heap.objs.size, _, I1, rfl, ⟨_, x, rfl, I.hok.fresh (Nat.le_refl _), rfl, fun ys hy => by rw [I.tuple_inj hy hq]; exact hx⟩, ⟨⟨u2, ?_⟩, hst.1.at fun o q => (sb.2 it (Ne.symm hne)).trans q, hne⟩, fun b hb => ?_⟩
    · have e1 : ((i + 1 : Nat) : Int) = (i : Int) + 1 := by omega
      rw [e1]; exact he'
    · have hb' : b < s.heap.objs.size := by
        have e' : b = e ∨ b = it := by simpa using hb
        rcases e' with z | z
        · rw [z]; exact hel
        · rw [z]; exact hil
      rw [upd_ne (Nat.ne_of_lt hb')]
      exact (hf b hb).1
  done := by
    intro X hP hw hK hc i pins s σ H E I hf st hg
    subst hP hw hK
    obtain ⟨⟨old, he⟩, hit, hne⟩ := st
    obtain ⟨xs, hq, hx⟩ := hg
    obtain ⟨its, rv, p, hz⟩ := I.tuple hq
    obtain ⟨f0, f1, f2, f3, f4, f5⟩ := hf it (by simp)
    have hl := rv.length
    have hT : s.TypeIs (.ref e) "enumerate" := ⟨_, he, rfl⟩
    unfold pyNext
    refine wpAny_bind (wpAny_attempt (wpAny_callSpecial?_slot (name := Str.ofString "__next__") hT F.slot_enumerate_next
      (wpAny_call_entry F.slot_enumerate_next hT F.entry_enumerate_next ?_ (F.args_enumerate_next_1 _))))
    show wpAny _ _ (field (.ref e) 2 >>= _) _ _ _
    refine wpAny_bind (wpAny_field he rfl (x := .ref it) rfl ?_)
    refine wpAny_bind (wpAny_nextOf_tuple_end (by show X.A.handled = none; exact I.ok.hd hc) hit p (by simp; omega) fun h' x he' hx' => ?_)
    obtain ⟨o, ho, hc'⟩ := hx'
    refine wpAny_bind (wpAny_isInstance (T := "StopIteration") (b := true) ⟨o, ho, hc'⟩ isSubtype_stop ?_)
    exact wpAny_pure ⟨rfl, I.turned (t' := s.toks) (fun b o hb q => he' b o hb q) f0 f1 f3 f4 f5⟩
  self := fun A i s Q E st h => let ⟨⟨_, he⟩, _⟩ := st; wpAny_pyIter_enum he h
def iEnumT (K : PySem.W.Frag) (ta : TA) : TI := fun σ H R => ta σ H fun vs H1 => ∃ a xs, vs = [.ref a] ∧ SqT K H1 a xs ∧ R (IteT K a) H1
theorem pi_enumT {X : Cx} {e : Expr} {ta : TA} {p pos tpos : Pos} {elts : List Expr} {kk : Nat} (hg : Gl X "enumerate") (hm : X.mg "enumerate" = none) (ha : PA X [e] ta) (hs : starEach [e] X.env = [(false, eval e X.env)] := by rfl) :
    PI X (.Tuple elts kk tpos) (.Call (.Name "enumerate" p) [e] [] pos) (iEnumT X.K ta) := by
  refine ⟨fun pins s σ H R I h => ?_⟩
  refine Call_ (ld_blt I hg hm boot_enumerate (PyProof.Rows.callWith_type1 (thn (ha.run pos pins s σ H _ I h) fun us s1 ⟨vs, H1, I1, r1, q1⟩ => ?_) hs rfl))
  obtain ⟨a, xs, ex, hq, q⟩ := q1
  subst ex
  cases r1 with
  | cons r rr =>
    cases rr
    cases r
    obtain ⟨its, rv, p', hz⟩ := I1.tuple hq
    have hlt : a < s1.heap.objs.size := by obtain ⟨_, q, _⟩ := p'; exact Heap.lt_size q
    refine call_enumerate_tuple p' fun h' he hit hsz hk => wpAny_pyIter_enum he ?_
    have I2 : Inv X pins σ H1 { s1 with heap := h' } := I1.kept (t' := s1.toks) hk
    refine ⟨s1.heap.objs.size + 1, [s1.heap.objs.size + 1, s1.heap.objs.size], _, _, H1, rfl, I2, turn_enumT a (s1.heap.objs.size + 1) s1.heap.objs.size (Nat.ne_of_lt hlt) (Nat.ne_of_lt (Nat.lt_succ_of_lt hlt)), ⟨⟨.none, he⟩, hit, Nat.succ_ne_self _⟩, fun b hb => ?_, q⟩
    have e' : b = s1.heap.objs.size + 1 ∨ b = s1.heap.objs.size := by simpa using hb
    have hle : s1.heap.objs.size ≤ b := by
      rcases e' with z | z
      · rw [z]; exact Nat.le_add_right _ _
      · rw [z]; exact Nat.le_refl _
    exact I1.fpOk hle (I1.hok.fresh hle)
end L2
namespace MP
open PySem L2 PyProof.Rows
section
variable {X : Cx} {W : Wx} {e o a b tg iter elt kx vx : Expr} {es ifs : List Expr} {pos apos cpos p : Pos}
theorem ms_setD {i : Nat} {y : Str} {py spos : Pos} {scope : Scope} {own : List (Str × Nat)} {w : Env → M Wk} {asg : D → Env → M Env} {t : Env → M Bool} {rk r rr : Env → M D} {l : List Nat} (hc : X.calm = true) (hN : X.N.Nodup) (hy : X.N[i]? = some y) (hyl : X.env.scope.names.lookup y = some .local)
    (hsw : swapsWith (.DictComp kx vx [⟨tg, iter, ifs, 0⟩] scope pos) (some (.Name y py)) spos.line X.env = pure true) (hi : MI X W tg iter w) (ok : BlkOk X.N X.env.scope scope own) (hl : ∀ i ∈ l, i ∈ own.map (·.2))
    (hg : ∀ (s : Shared) (H : Hp) (C : Addr) (cl : List (Str × Addr)) (fp : List Addr), MG (X.blk s H scope (compEnvC scope cl C X.env) fp) W0 tg l asg) (ht : ∀ (s : Shared) (H : Hp) (C : Addr) (cl : List (Str × Addr)) (fp : List Addr), MTs (X.blk s H scope (compEnvC scope cl C X.env) fp) W0 ifs t)
    (hk : ∀ (s : Shared) (H : Hp) (C : Addr) (cl : List (Str × Addr)) (fp : List Addr), ME (X.blk s H scope (compEnvC scope cl C X.env) fp) W0 kx rk)
    (he : ∀ (s : Shared) (H : Hp) (C : Addr) (cl : List (Str × Addr)) (fp : List Addr), ME (X.blk s H scope (compEnvC scope cl C X.env) fp) W0 vx r)
    (hrr : ∀ σ H Q, tE X.K W rr σ H Q → tK X.K W (kComp w asg t rk r (own.map (·.2))) σ H Q) (hs : ∀ x, foldedSetIterable iter X.env x = pure x := by intro _; rfl) :
    MS X W (.Assign [.Name y py] (.DictComp kx vx [⟨tg, iter, ifs, 0⟩] scope pos) spos) (sSet i rr) :=
  ⟨(ps_setDc hc hN hy hyl hsw hi.pi ok (fun s H C cl fp => (hg s H C cl fp).pg) (fun s H C cl fp => (ht s H C cl fp).pt) (fun s H C cl fp => (hk s H C cl fp).pe) (fun s H C cl fp => (he s H C cl fp).pe) hs).imp fun D σ H q => comp_goD hl rfl σ H _ (hrr σ H _ (set_go D σ H q))⟩
theorem itOk_enumT {K : PySem.W.Frag} {m0 : Mp} {H0 : Hp} {ds : List D} {vs : List V} {a : Addr} (hs : SqT K H0 a vs) (hr : Reps K m0 H0 ds vs) : ItOk K [] (enumD 0 ds) (IteT K a) m0 H0 := fun m mu H gr R hg => by
  have hs' := gr.sqT hs
  have hr' := Reps.keep gr ds vs hr
  refine ⟨fun i hi => ⟨vs, hs', by rw [← hr.length, ← enumD_len ds 0]; exact hi⟩, fun i d hd => ?_⟩
  rw [enumD_get] at hd
  obtain ⟨x, hx, ed⟩ := Option.map_eq_some_iff.mp hd
  obtain ⟨v, hv, rv⟩ := hr'.get hx
  refine ⟨⟨vs, v, hs', hv⟩, fun y H' yy => ?_⟩
  obtain ⟨T, z, rfl, hn, rfl, u⟩ := yy
  have e2 := u vs hs'
  rw [hv] at e2
  cases e2
  subst ed
  rw [Int.zero_add]
  exact pairT R (by simp only [Rep]) rv hn
/-- enumerate of a list or a tuple -/
def wEnumA : List D → M Wk
  | [.tup xs] => pure (enumD 0 xs, [])
  | xs => wEnum xs
theorem mi_enumA {elts : List Expr} {kk : Nat} {tpos : Pos} {rs : Env → M (List D)} (hg : Gl X "enumerate") (hm : X.mg "enumerate" = none) (h : MA X W [a] rs) (hs : starEach [a] X.env = [(false, eval a X.env)] := by rfl) : MI X W (.Tuple elts kk tpos) (.Call (.Name "enumerate" p) [a] [] pos) (wThen wEnumA rs) :=
  ⟨pi_imp (pi_sz (pi_or (pi_enum hg hm h.pa hs) (pi_enumT hg hm h.pa hs))) fun σ H Q ⟨env, m, mu, hE, hR, hp⟩ => by
    have e0 : wThen wEnumA rs env mu = M.bind (rs env) wEnumA mu := rfl
    rw [e0] at hp
    unfold M.bind at hp
    cases hr : rs env mu with
    | exc x mu1 => rw [hr] at hp; exact .inl ⟨env, m, mu, hE, hR, by rw [hr]; exact hp⟩
    | bad => rw [hr] at hp; exact hp.elim
    | ok xs mu1 =>
      rw [hr] at hp
      replace hp : Post X.K W m H (wEnumA xs mu1) (fun p m' _ H' => p.1.length ≤ sizeLine → ∀ J, ItOk X.K p.2 p.1 J m' H' → Q J H') := hp
      have lst : ∀ xs, rs env mu = .ok xs mu1 → Post X.K W m H (wEnum xs mu1) (fun p m' _ H' => p.1.length ≤ sizeLine → ∀ J, ItOk X.K p.2 p.1 J m' H' → Q J H') → tA X.K W rs σ H (fun vs H1 => ∃ a xs, vs = [.ref a] ∧ SqL X.K H1 a xs ∧ (Sz X.K H1 → Q (Ite X.K a) H1)) := fun xs hr hp => by
        refine ⟨env, m, mu, hE, hR, ?_⟩
        rw [hr]
        intro m1 H1 g1 R1 vs rv
        have hp := hp.grow g1
        match xs, rv, hp with
        | [x], rv, hp =>
          obtain ⟨v, rfl, h1⟩ := rep1 rv
          obtain ⟨a, ds, g, vs, rfl, hs, hr, hk, hp⟩ := rdW_ok R1 h1 (Post.bind hp)
          exact ⟨a, vs, rfl, hs, fun sz => Post.pure hp R1 (by show (enumD 0 ds).length ≤ _; rw [enumD_len, hr.length]; exact sz.1 a vs hs) _ (itOk_enum hk)⟩
        | [], _, hp => exact (show False from hp).elim
        | _ :: _ :: _, _, hp => exact (show False from hp).elim
      cases xs with
      | nil => exact .inl (lst _ hr hp)
      | cons x xs =>
        cases x
        case tup ys =>
          cases xs with
          | cons y ys => exact .inl (lst _ hr hp)
          | nil =>
            refine .inr ⟨env, m, mu, hE, hR, ?_⟩
            rw [hr]
            intro m1 H1 g1 R1 vs rv
            obtain ⟨v, rfl, h1⟩ := rep1 rv
            simp only [Rep] at h1
            obtain ⟨a, vs, rfl, hs, hq⟩ := h1
            have hp2 := hp m1 H1 g1 R1
            exact ⟨a, vs, rfl, hs, fun sz => hp2 (by show (enumD 0 ys).length ≤ _; rw [enumD_len, hq.length]; exact sz.2 a vs hs) _ (itOk_enumT hs hq)⟩
        all_goals exact .inl (lst _ hr hp)⟩
/-! for simp -/
variable {mu : List MO} {env : Env} {d : D} {xs : List D}
@[simp] theorem wEnumA_tup : wEnumA [.tup xs] mu = .ok (enumD 0 xs, []) mu := rfl
@[simp] theorem wEnumA_fl : wEnumA [.fl xs] mu = .ok (enumD 0 xs, []) mu := rfl
@[simp] theorem wEnumA_ro : wEnumA [.ro xs] mu = .ok (enumD 0 xs, []) mu := rfl
@[simp] theorem gIsB_ap {neg x y : Bool} : gIsB neg (.bl x) (.bl y) mu = .ok (.bl (decide (x = y) != neg)) mu := rfl
@[simp] theorem gLe_int {i j : Int} : gLe (.int i) (.int j) mu = .ok (.bl (decide (i ≤ j))) mu := rfl
@[simp] theorem gGe_int {i j : Int} : gGe (.int i) (.int j) mu = .ok (.bl (decide (j ≤ i))) mu := rfl
@[simp] theorem gGt_int {i j : Int} : gGt (.int i) (.int j) mu = .ok (.bl (decide (j < i))) mu := rfl
@[simp] theorem gLe_str {i j : Str} : gLe (.str i) (.str j) mu = .ok (.bl (!ltS j i)) mu := rfl
@[simp] theorem gGe_str {i j : Str} : gGe (.str i) (.str j) mu = .ok (.bl (!ltS i j)) mu := rfl
@[simp] theorem gGt_str {i j : Str} : gGt (.str i) (.str j) mu = .ok (.bl (ltS j i)) mu := rfl
@[simp] theorem bTru_ap {ra : Env → M D} : bTru ra env = (ra env >>= truD) := rfl
@[simp] theorem truD_tup : truD (.tup xs) mu = .ok (!xs.isEmpty) mu := rfl
@[simp] theorem truD_fl : truD (.fl xs) mu = .ok (!xs.isEmpty) mu := rfl
@[simp] theorem truD_bl {b : Bool} : truD (.bl b) mu = .ok b mu := rfl
@[simp] theorem truD_non : truD .non mu = .ok false mu := rfl
@[simp] theorem sBad_ap : sBad env mu = .bad := rfl
@[simp] theorem eNewK_ap {r : Env → M (List (Key × D))} : eNewK r env = (r env >>= fun kvs => alloc (.dk kvs)) := rfl
@[simp] theorem eFd_ap {r : Env → M (List (Key × D))} : eFd r env = (r env >>= fun kvs => pure (.fd (kvs.map (·.1)) (kvs.map (·.2)))) := rfl
@[simp] theorem kComp_ap {w : Env → M Wk} {asg : D → Env → M Env} {t : Env → M Bool} {rk r : Env → M D} {vs : List Nat} : kComp w asg t rk r vs env = (w env >>= fun p => noX (loopCD asg t rk r p.2 p.1 (wipeE env vs) [])) := rfl
end
end MP
namespace MP
open PySem L2 PyProof.Rows
/-! ### more words that the laws share -/
/-- names: 0 state, 1 items, 2 found, 3 item -/
noncomputable def r__law_shuffled (d__law_draw : List D → M Rv) : MP.Env → M Fl :=
  (sSeq (sSet 2 (eNew (aList aNil)))
  (sSeq (sFor (eWalk (eVar 1)) (asgN 3)
  (sExpr (eMeth lstK gInsert (eVar 2) (aCons (eCall (lenD 2 d__law_draw) (aCons (eVar 0) (aCons (eBin gAdd (aThen (g1 gLen) (aCons (eVar 2) aNil)) (eC (.int 1))) aNil))) (aCons (eVar 3) aNil)))) [3])
  (sRet (eVar 2))))
noncomputable def den__law_shuffled (d__law_draw : List D → M Rv) : List D → M Rv := fun ds => noX (runB 4 (r__law_shuffled d__law_draw) ds)
/-- names: 0 state, 1 many, 2 letters, 3 start, 4 step, 5 shared, 6 k -/
noncomputable def r__law_words (d__law_draw : List D → M Rv) : MP.Env → M Fl :=
  (sSeq (sSet 2 (eC (.str "abcdefghijklmnopqrstuvwxyz")))
  (sSeq (sSet 3 (eCall (lenD 2 d__law_draw) (aCons (eVar 0) (aCons (eC (.int 26)) aNil))))
  (sSeq (sSet 4 (eBin gAdd (eC (.int 1)) (eBin gMul (eC (.int 2)) (eCall (lenD 2 d__law_draw) (aCons (eVar 0) (aCons (eC (.int 6)) aNil))))))
  (sSeq (sSet 5 (eSl (eC (.str "qxz")) oNone (oSome (eCall (lenD 2 d__law_draw) (aCons (eVar 0) (aCons (eC (.int 4)) aNil))))))
  (sSeq (eIf (eB (eBin (gEq false) (eCall (lenD 2 d__law_draw) (aCons (eVar 0) (aCons (eC (.int 2)) aNil))) (eC (.int 0))))
  (sRetF (fComp (wThen wRng1 (aCons (eVar 1) aNil)) (asgN 6) tYesM (eBin gAdd (eVar 5) (eBin gIx (eVar 2) (eBin gMod (aThen (g1 gInt) (aCons (eBin gAdd (eVar 3) (eBin gMul (eVar 6) (eVar 4))) aNil)) (eC (.int 26))))) [6]))
  sNext)
  (sRetF (fComp (wThen wRng1 (aCons (eVar 1) aNil)) (asgN 6) tYesM (eBin gAdd (eBin gIx (eVar 2) (eBin gMod (aThen (g1 gInt) (aCons (eBin gAdd (eVar 3) (eBin gMul (eVar 6) (eVar 4))) aNil)) (eC (.int 26)))) (eVar 5)) [6])))))))
noncomputable def den__law_words (d__law_draw : List D → M Rv) : List D → M Rv := fun ds => noX (runB 7 (r__law_words d__law_draw) ds)
/-! what is left behind, forgotten: the general way -/
open Classical in
/-- den where the input is as it should be -/
noncomputable def guardD (WF : List D → List MO → Prop) (den : List D → M Rv) : List D → M Rv := fun ds mu => if WF ds mu then den ds mu else .bad
theorem guardD_ok {WF : List D → List MO → Prop} {den : List D → M Rv} {ds : List D} {mu : List MO} (h : WF ds mu) : guardD WF den ds mu = den ds mu := by unfold guardD; rw [if_pos h]
/-- the first k places; a new list is handed out -/
def cutR (k : Nat) : R Rv → R Rv
  | .ok (.vl (.ref n)) mu' => if n < k then .ok (.vl (.ref n)) (mu'.take k) else match mu'[n]? with
    | some (.lst ys) => .ok (.fr ys) (mu'.take k)
    | _ => .bad
  | .ok rv mu' => .ok rv (mu'.take k)
  | .exc x mu' => .exc x (mu'.take k)
  | .bad => .bad
def forgetN (den : List D → M Rv) : List D → M Rv := fun ds mu => cutR mu.length (den ds mu)
/-- what comes back is whole without what is left behind -/
inductive Whole (k : Nat) (mu1 ex : List MO) : Rv → Rv → Prop
  | vl {d : D} : Clo k d → Whole k mu1 ex (.vl d) (.vl d)
  | new {n : Nat} {ys : List D} : k ≤ n → (mu1 ++ ex)[n]? = some (.lst ys) → Clos k ys → Whole k mu1 ex (.vl (.ref n)) (.fr ys)
  | fr {ys : List D} : Clos k ys → Whole k mu1 ex (.fr ys) (.fr ys)
theorem Whole.cut {k : Nat} {mu1 ex : List MO} {rv rv' : Rv} (h : Whole k mu1 ex rv rv') (hk : mu1.length = k) : cutR k (.ok rv (mu1 ++ ex)) = .ok rv' mu1 := by
  have e : (mu1 ++ ex).take k = mu1 := by rw [← hk, List.take_left]
  cases h with
  | vl hd =>
    rename_i d
    cases d
    case ref n =>
      show (if n < k then MP.R.ok (Rv.vl (D.ref n)) ((mu1 ++ ex).take k) else _) = _
      rw [if_pos (Clo.ref.mp hd), e]
    all_goals (show MP.R.ok (Rv.vl _) ((mu1 ++ ex).take k) = _; rw [e])
  | new hn hx hy =>
    rename_i n ys
    show (if n < k then MP.R.ok (Rv.vl (D.ref n)) ((mu1 ++ ex).take k) else match (mu1 ++ ex)[n]? with
      | some (.lst ys) => MP.R.ok (Rv.fr ys) ((mu1 ++ ex).take k)
      | _ => .bad) = _
    rw [if_neg (by omega), hx, e]
  | fr hy => show MP.R.ok (Rv.fr _) ((mu1 ++ ex).take k) = _; rw [e]
theorem forgetN_ok {den : List D → M Rv} {ds : List D} {mu mu1 ex : List MO} {rv rv' : Rv} (h : den ds mu = .ok rv (mu1 ++ ex)) (hk : mu1.length = mu.length) (hw : Whole mu.length mu1 ex rv rv') : forgetN den ds mu = .ok rv' mu1 := by
  unfold forgetN
  rw [h]
  exact hw.cut hk
theorem gc_guard {n : Nat} {den : List D → M Rv} {WF : List D → List MO → Prop} (h : ∀ ds mu, WF ds mu → ds.length = n → Clos mu.length ds → CloH mu → ∃ rv rv' mu1 ex, den ds mu = .ok rv (mu1 ++ ex) ∧ mu1.length = mu.length ∧ CloH mu1 ∧ Whole mu.length mu1 ex rv rv') : GC n den (guardD WF (forgetN den)) := fun ds mu hn hc hh => by
  by_cases hw : WF ds mu
  · obtain ⟨rv, rv', mu1, ex, e, hl, h1, hW⟩ := h ds mu hw hn hc hh
    rw [guardD_ok hw, forgetN_ok e hl hW]
    refine ⟨rv, mu1 ++ ex, e, by omega, ?_⟩
    rw [← hl] at hW
    cases hW with
    | vl hd => exact .vl (h1.frz ex) (hd _ _)
    | new hk hx hy => exact .newL hk hx (h1.frz ex) (hy _ _)
    | fr hy => exact .fr (h1.frz ex) (hy _ _)
  · have e : guardD WF (forgetN den) ds mu = .bad := by unfold guardD; rw [if_neg hw]
    rw [e]; trivial
theorem st_clo {k : Nat} {cs : List Int} {a b c : Int} : CloO k (st cs a b c) := by
  refine Clos.cons (Clo.fl.mpr (Clos.of fun d hd => ?_)) (Clos.cons Clo.int (Clos.cons Clo.int (Clos.cons Clo.int Clos.nil)))
  obtain ⟨i, _, e⟩ := List.mem_map.mp hd
  subst e
  exact Clo.int
theorem Nx.len {s : Nat} {cs : List Int} {mu mu' : List MO} (n : Nx s cs mu mu') : mu'.length = mu.length := by
  obtain ⟨a, b, c, e⟩ := n
  rw [e, List.length_set]
theorem Nx.clo {s : Nat} {cs : List Int} {mu mu' : List MO} (n : Nx s cs mu mu') (h : CloH mu) : CloH mu' := by
  have hl := n.len
  obtain ⟨a, b, c, e⟩ := n
  intro o ho
  rw [hl]
  rw [e] at ho
  rcases List.mem_or_eq_of_mem_set ho with z | z
  · exact h o z
  · rw [z]; exact st_clo
/-- the state moved on, over further places -/
theorem Nx.app {s : Nat} {cs : List Int} {mu ex mu' : List MO} (h : At s cs mu) (n : Nx s cs (mu ++ ex) mu') : ∃ mu1, mu' = mu1 ++ ex ∧ Nx s cs mu mu1 := by
  obtain ⟨a, b, c, e⟩ := n
  exact ⟨mu.set s (st cs a b c), by rw [e, List.set_append_left _ _ h.lt], a, b, c, rfl⟩
theorem At.app {s : Nat} {cs : List Int} {mu : List MO} (h : At s cs mu) (ex : List MO) : At s cs (mu ++ ex) := by
  have hl := h.lt
  obtain ⟨a, b, c, h⟩ := h
  exact ⟨a, b, c, by rw [List.getElem?_append_left hl]; exact h⟩
@[simp] theorem lstK_ref {n : Nat} {mu : List MO} {xs : List D} (h : mu[n]? = some (.lst xs)) : lstK (.ref n) mu = .ok () mu := by
  have e1 : lstK (.ref n) mu = match mu[n]? with
    | some (.lst _) => MP.R.ok () mu
    | _ => .bad := rfl
  rw [e1, h]
/-! shuffled -/
theorem modL_at {n : Nat} {xs ys : List D} {d : D} {f : List D → Option (List D × D)} {mu : List MO} (h : mu[n]? = some (.lst xs)) (hf : f xs = some (ys, d)) : modL n f mu = .ok d (mu.set n (.lst ys)) := by
  unfold modL
  rw [h, modLr_lst, hf]
theorem insert_ok {n : Nat} {xs : List D} {d : D} {i : Int} {mu : List MO} (h : mu[n]? = some (.lst xs)) (hz : xs.length < sizeLine) (h0 : 0 ≤ i) (h1 : i < 2 ^ 63) : gInsert (.ref n) [.int i, d] mu = .ok .non (mu.set n (.lst (xs.take i.toNat ++ [d] ++ xs.drop i.toNat))) := by
  show ((toI (.int i) : M Int) >>= fun i => modL n fun xs => if xs.length < sizeLine ∧ 0 ≤ i ∧ i < 2 ^ 63 then some (xs.take i.toNat ++ [d] ++ xs.drop i.toNat, .non) else none) mu = _
  rw [bind_ap, toI_int]
  exact modL_at h (by rw [if_pos ⟨hz, h0, h1⟩])
theorem append_ok {n : Nat} {xs : List D} {d : D} {mu : List MO} (h : mu[n]? = some (.lst xs)) (hz : xs.length < sizeLine) : gAppend (.ref n) [d] mu = .ok .non (mu.set n (.lst (xs ++ [d]))) := modL_at h (by rw [if_pos hz])
theorem set_last {mu1 : List MO} {x y : MO} {k : Nat} (h : k = mu1.length) : (mu1 ++ [x]).set k y = mu1 ++ [y] := by subst h; simp [List.set_append]
theorem get_last {mu1 : List MO} {x : MO} {k : Nat} (h : k = mu1.length) : (mu1 ++ [x])[k]? = some x := by subst h; simp
theorem shuf_loop {s : Nat} {cs : List Int} {d : D} {n : Nat} : ∀ (rest ys : List D) (mu1 : List MO) (o3 : Option D), At s cs mu1 → n = mu1.length → ys.length + rest.length < 1000 → ∃ ys' mu2,
    loopF (asgN 3) (sExpr (eMeth lstK gInsert (eVar 2) (aCons (eCall (lenD 2 den__law_draw) (aCons (eVar 0) (aCons (eBin gAdd (aThen (g1 gLen) (aCons (eVar 2) aNil)) (eC (.int 1))) aNil))) (aCons (eVar 3) aNil)))) [3] [] rest [some (.ref s), some d, some (.ref n), o3] (mu1 ++ [.lst ys]) =
      .ok (.nx [some (.ref s), some d, some (.ref n), none]) (mu2 ++ [.lst ys']) ∧ Nx s cs mu1 mu2 ∧ ys'.Perm (ys ++ rest)
  | [], ys, mu1, o3, A, hn, hl => ⟨ys, mu1, by rw [loopF_nil]; rfl, .refl A, by rw [List.append_nil]⟩
  | x :: rest, ys, mu1, o3, A, hn, hl => by
    have hg := get_last (x := .lst ys) hn
    obtain ⟨i, mu', e, nx, h0, h1⟩ := draw_at (most := (ys.length : Int) + 1) (A.app [.lst ys]) (by omega) (log2_small (by rw [List.length_cons] at hl; omega))
    obtain ⟨mu2, rfl, n2⟩ := Nx.app A nx
    have hn2 : n = mu2.length := by rw [n2.len]; exact hn
    have hg2 := get_last (x := .lst ys) hn2
    have hins := insert_ok (d := x) (i := i) hg2 (by rw [List.length_cons] at hl; rw [sizeLine_eq]; omega) h0 (by rw [List.length_cons] at hl; omega)
    rw [set_last hn2] at hins
    have hlen : (ys.take i.toNat ++ [x] ++ ys.drop i.toNat).length = ys.length + 1 := by simp; omega
    obtain ⟨ys', mu3, h2, h3, h4⟩ := shuf_loop (s := s) (cs := cs) (d := d) (n := n) rest (ys.take i.toNat ++ [x] ++ ys.drop i.toNat) mu2 (some x) (n2.at_ A) hn2 (by rw [hlen]; rw [List.length_cons] at hl; omega)
    refine ⟨ys', mu3, ?_, n2.trans h3, h4.trans ?_⟩
    · rw [loopF_cons]
      have hlg : gLen (.ref n) (mu1 ++ [.lst ys]) = .ok (.int ys.length) (mu1 ++ [.lst ys]) := gLen_ref hg
      simp [lstK_ref hg, hlg, e, hins]
      simpa using h2
    · have p1 : (ys.take i.toNat ++ [x] ++ ys.drop i.toNat).Perm (x :: ys) := by
        have z : ys.take i.toNat ++ [x] ++ ys.drop i.toNat = ys.take i.toNat ++ x :: ys.drop i.toNat := by simp
        rw [z]
        exact List.perm_middle.trans (by rw [List.take_append_drop])
      exact (p1.append_right rest).trans (List.perm_middle (l₁ := ys) (l₂ := rest) (a := x)).symm
theorem shuffled_ok {s : Nat} {cs : List Int} {d : D} {xs : List D} {mu : List MO} (A : At s cs mu) (hd : seqOf d = some xs) (hl : xs.length < 1000) : ∃ ys mu1, den__law_shuffled den__law_draw [.ref s, d] mu = .ok (.vl (.ref mu.length)) (mu1 ++ [.lst ys]) ∧ Nx s cs mu mu1 ∧ ys.Perm xs := by
  obtain ⟨ys, mu1, h1, h2, h3⟩ := shuf_loop (s := s) (cs := cs) (d := d) xs [] mu none A rfl (by simpa using hl)
  refine ⟨ys, mu1, noX_ok ?_, h2, h3⟩
  simp [r__law_shuffled, startE, seqOf_walk hd, h1]
/-- shuffled, without what it leaves behind -/
def shufWF (ds : List D) (mu : List MO) : Prop := ∃ s cs d xs, ds = [.ref s, d] ∧ At s cs mu ∧ seqOf d = some xs ∧ xs.length < 1000
noncomputable def shufD : List D → M Rv := guardD shufWF (forgetN (den__law_shuffled den__law_draw))
theorem seqOf_clo {k : Nat} {d : D} {xs : List D} (h : seqOf d = some xs) (hc : Clo k d) : Clos k xs := by
  cases d <;> simp [seqOf] at h
  · subst h; exact Clo.tup.mp hc
  · subst h; exact Clo.fl.mp hc
  · subst h; exact Clo.ro.mp hc
theorem shuf_whole {s : Nat} {cs : List Int} {d : D} {xs : List D} {mu : List MO} (A : At s cs mu) (hd : seqOf d = some xs) (hl : xs.length < 1000) (hc : Clos mu.length xs) : ∃ ys mu1, den__law_shuffled den__law_draw [.ref s, d] mu = .ok (.vl (.ref mu.length)) (mu1 ++ [.lst ys]) ∧ Nx s cs mu mu1 ∧ ys.Perm xs ∧ Whole mu.length mu1 [.lst ys] (.vl (.ref mu.length)) (.fr ys) := by
  obtain ⟨ys, mu1, e, n, p⟩ := shuffled_ok A hd hl
  exact ⟨ys, mu1, e, n, p, .new (Nat.le_refl _) (get_last n.len.symm) (Clos.of fun x hx => hc.mem x (p.mem_iff.mp hx))⟩
theorem gc_shuf : GC 2 (den__law_shuffled den__law_draw) shufD := gc_guard fun ds mu hw hn hc hh => by
  obtain ⟨s, cs, d, xs, rfl, A, hd, hl⟩ := hw
  obtain ⟨ys, mu1, e, n, p, w⟩ := shuf_whole A hd hl (seqOf_clo hd hc.inv.2.inv.1)
  exact ⟨_, _, mu1, _, e, n.len, n.clo hh, w⟩
theorem shufD_ok {s : Nat} {cs : List Int} {d : D} {xs : List D} {mu : List MO} (A : At s cs mu) (hd : seqOf d = some xs) (hl : xs.length < 1000) (hc : Clos mu.length xs) : ∃ ys mu1, shufD [.ref s, d] mu = .ok (.fr ys) mu1 ∧ Nx s cs mu mu1 ∧ ys.Perm xs := by
  obtain ⟨ys, mu1, e, n, p, w⟩ := shuf_whole A hd hl hc
  refine ⟨ys, mu1, ?_, n, p⟩
  unfold shufD
  rw [guardD_ok ⟨s, cs, d, xs, rfl, A, hd, hl⟩]
  exact forgetN_ok e n.len w
end MP
namespace MP
open PySem L2 PyProof.Rows
/-! ### drawn words -/
structure GoodW (w : Str) : Prop where
  pos : 1 ≤ w.length
  le : w.length ≤ 4
  low : ∀ c ∈ w.cps.toList, 97 ≤ c ∧ c ≤ 122
def wd (front : Bool) (sh : Str) (c : Nat) : Str := if front = true then sh ++ ⟨#[c]⟩ else ⟨#[c]⟩ ++ sh
theorem wd_good {front : Bool} {sh : Str} {c : Nat} (h : sh.length ≤ 3) (hs : ∀ c ∈ sh.cps.toList, 97 ≤ c ∧ c ≤ 122) (hc : 97 ≤ c ∧ c ≤ 122) : GoodW (wd front sh c) := by
  have h1 : (⟨#[c]⟩ : Str).length = 1 := rfl
  unfold wd
  cases front
  · refine ⟨?_, ?_, fun x hx => ?_⟩
    · simp only [Bool.false_eq_true, if_false]; rw [len_append, h1]; omega
    · simp only [Bool.false_eq_true, if_false]; rw [len_append, h1]; omega
    · simp only [Bool.false_eq_true, if_false] at hx
      rw [cps_append] at hx
      rcases List.mem_append.mp hx with z | z
      · simp at z; rw [z]; exact hc
      · exact hs x z
  · refine ⟨?_, ?_, fun x hx => ?_⟩
    · simp only [if_true]; rw [len_append, h1]; omega
    · simp only [if_true]; rw [len_append, h1]; omega
    · simp only [if_true] at hx
      rw [cps_append] at hx
      rcases List.mem_append.mp hx with z | z
      · exact hs x z
      · simp at z; rw [z]; exact hc
theorem wd_inj {front : Bool} {sh : Str} {c d : Nat} (h : wd front sh c = wd front sh d) : c = d := by
  have e := congrArg (fun z : Str => z.cps.toList) h
  unfold wd at e
  cases front
  · simp only [Bool.false_eq_true, if_false] at e
    rw [cps_append, cps_append] at e
    simp at e
    exact e
  · simp only [if_true] at e
    rw [cps_append, cps_append] at e
    simp at e
    exact e
theorem step_inj {a d i j : Nat} (hd : d < 6) (hi : i < 26) (hj : j < 26) (h : (a + i * (1 + 2 * d)) % 26 = (a + j * (1 + 2 * d)) % 26) : i = j := by
  have : d = 0 ∨ d = 1 ∨ d = 2 ∨ d = 3 ∨ d = 4 ∨ d = 5 := by omega
  rcases this with rfl | rfl | rfl | rfl | rfl | rfl <;> omega
def wordAt (front : Bool) (sh : Str) (a d i : Nat) : Str := wd front sh (97 + (a + i * (1 + 2 * d)) % 26)
theorem letter_at {x : Nat} (h : x < 26) : atI (Str.ofString "abcdefghijklmnopqrstuvwxyz").cps.toList ((x : Nat) : Int) = some (97 + x) := by
  have e : ∀ x : Fin 26, (Str.ofString "abcdefghijklmnopqrstuvwxyz").cps.toList[x.val]? = some (97 + x.val) := by decide +kernel
  have hl : (Str.ofString "abcdefghijklmnopqrstuvwxyz").cps.toList.length = 26 := by decide +kernel
  unfold atI ixN
  rw [hl, if_pos (by omega), if_pos (by omega)]
  exact e ⟨x, h⟩
theorem shared_ok {d : Int} (h0 : 0 ≤ d) (h1 : d < 4) : ∃ sh : Str, (∀ mu, gSl (.str "qxz") none (some d) mu = .ok (.str sh) mu) ∧ sh.length ≤ 3 ∧ ∀ c ∈ sh.cps.toList, 97 ≤ c ∧ c ≤ 122 := by
  refine ⟨cutS "qxz" none (some d), fun mu => ?_, ?_⟩
  · show ((need ((Str.ofString "qxz").length ≤ sizeLine) : M Unit) >>= fun _ => (pure (.str (cutS "qxz" none (some d))) : M D)) mu = _
    rw [bind_ap, need_ap, if_pos (by decide +kernel)]; rfl
  · have : d = 0 ∨ d = 1 ∨ d = 2 ∨ d = 3 := by omega
    rcases this with rfl | rfl | rfl | rfl <;> decide +kernel
noncomputable def wordsR (lt qz : Str) (d__law_draw : List D → M Rv) : MP.Env → M Fl :=
  (sSeq (sSet 2 (eC (.str lt)))
  (sSeq (sSet 3 (eCall (lenD 2 d__law_draw) (aCons (eVar 0) (aCons (eC (.int 26)) aNil))))
  (sSeq (sSet 4 (eBin gAdd (eC (.int 1)) (eBin gMul (eC (.int 2)) (eCall (lenD 2 d__law_draw) (aCons (eVar 0) (aCons (eC (.int 6)) aNil))))))
  (sSeq (sSet 5 (eSl (eC (.str qz)) oNone (oSome (eCall (lenD 2 d__law_draw) (aCons (eVar 0) (aCons (eC (.int 4)) aNil))))))
  (sSeq (eIf (eB (eBin (gEq false) (eCall (lenD 2 d__law_draw) (aCons (eVar 0) (aCons (eC (.int 2)) aNil))) (eC (.int 0))))
  (sRetF (fComp (wThen wRng1 (aCons (eVar 1) aNil)) (asgN 6) tYesM (eBin gAdd (eVar 5) (eBin gIx (eVar 2) (eBin gMod (aThen (g1 gInt) (aCons (eBin gAdd (eVar 3) (eBin gMul (eVar 6) (eVar 4))) aNil)) (eC (.int 26))))) [6]))
  sNext)
  (sRetF (fComp (wThen wRng1 (aCons (eVar 1) aNil)) (asgN 6) tYesM (eBin gAdd (eBin gIx (eVar 2) (eBin gMod (aThen (g1 gInt) (aCons (eBin gAdd (eVar 3) (eBin gMul (eVar 6) (eVar 4))) aNil)) (eC (.int 26)))) (eVar 5)) [6])))))))
theorem word_front {a k i : Int} {lt sh : Str} {c : Nat} {x y : D} {mu : List MO} (h1 : gMul (.int i) (.int k) mu = .ok (.int (i * k)) mu) (h2 : gIx (.str lt) (.int ((a + i * k) % 26)) mu = .ok (.str ⟨#[c]⟩) mu) (h3 : gAdd (.str sh) (.str ⟨#[c]⟩) mu = .ok (.str (sh ++ ⟨#[c]⟩)) mu) :
    eBin gAdd (eVar 5) (eBin gIx (eVar 2) (eBin gMod (aThen (g1 gInt) (aCons (eBin gAdd (eVar 3) (eBin gMul (eVar 6) (eVar 4))) aNil)) (eC (.int 26)))) [some x, some y, some (.str lt), some (.int a), some (.int k), some (.str sh), some (.int i)] mu = .ok (.str (sh ++ ⟨#[c]⟩)) mu := by
  simp [h1, h2, h3, -gAdd_str]
theorem word_back {a k i : Int} {lt sh : Str} {c : Nat} {x y : D} {mu : List MO} (h1 : gMul (.int i) (.int k) mu = .ok (.int (i * k)) mu) (h2 : gIx (.str lt) (.int ((a + i * k) % 26)) mu = .ok (.str ⟨#[c]⟩) mu) (h3 : gAdd (.str ⟨#[c]⟩) (.str sh) mu = .ok (.str (⟨#[c]⟩ ++ sh)) mu) :
    eBin gAdd (eBin gIx (eVar 2) (eBin gMod (aThen (g1 gInt) (aCons (eBin gAdd (eVar 3) (eBin gMul (eVar 6) (eVar 4))) aNil)) (eC (.int 26)))) (eVar 5) [some x, some y, some (.str lt), some (.int a), some (.int k), some (.str sh), some (.int i)] mu = .ok (.str (⟨#[c]⟩ ++ sh)) mu := by
  simp [h1, h2, h3, -gAdd_str]
theorem wordsR_ok {lt qz : Str} (hz : lt.length ≤ sizeLine) (hlt : ∀ x : Nat, x < 26 → atI lt.cps.toList ((x : Nat) : Int) = some (97 + x)) (hqz : ∀ d : Int, 0 ≤ d → d < 4 → ∃ sh : Str, (∀ mu, gSl (.str qz) none (some d) mu = .ok (.str sh) mu) ∧ sh.length ≤ 3 ∧ ∀ c ∈ sh.cps.toList, 97 ≤ c ∧ c ≤ 122) {s : Nat} {cs : List Int} {n : Nat} {mu : List MO} (A : At s cs mu) (hn : n ≤ 26) : ∃ (ws : List Str) (mu' : List MO), noX (runB 7 (wordsR lt qz den__law_draw) [.ref s, .int n]) mu = .ok (.fr (ws.map D.str)) mu' ∧ Nx s cs mu mu' ∧ ws.length = n ∧ ws.Nodup ∧ ∀ w ∈ ws, GoodW w := by
  obtain ⟨a, m1, e1, n1, a0, a1⟩ := draw_at (most := 26) A (by decide) (by decide)
  obtain ⟨d, m2, e2, n2', d0, d1⟩ := draw_at (most := 6) (n1.at_ A) (by decide) (by decide)
  have n2 := n1.trans n2'
  obtain ⟨q, m3, e3, n3', q0, q1⟩ := draw_at (most := 4) (n2.at_ A) (by decide) (by decide)
  have n3 := n2.trans n3'
  obtain ⟨f, m4, e4, n4', f0, f1⟩ := draw_at (most := 2) (n3.at_ A) (by decide) (by decide)
  have n4 := n3.trans n4'
  obtain ⟨sh, esh, hsl, hsc⟩ := hqz q q0 q1
  obtain ⟨a, rfl⟩ := Int.eq_ofNat_of_zero_le a0
  obtain ⟨d, rfl⟩ := Int.eq_ofNat_of_zero_le d0
  have s64 : -(2 ^ 64) < (1 + 2 * (d : Int)) ∧ (1 + 2 * (d : Int)) < 2 ^ 64 := by omega
  have t64 : -(2 ^ 64) < (d : Int) ∧ (d : Int) < 2 ^ 64 := by omega
  have hcat : ∀ c : Nat, sh.length + (⟨#[c]⟩ : Str).length ≤ sizeLine := fun c => by
    have : (⟨#[c]⟩ : Str).length = 1 := rfl
    rw [this, sizeLine_eq]; omega
  have hcat' : ∀ c : Nat, (⟨#[c]⟩ : Str).length + sh.length ≤ sizeLine := fun c => by rw [Nat.add_comm]; exact hcat c
  obtain ⟨ch, hch⟩ : ∃ ch : Nat → Nat, ∀ i, ch i = 97 + (a + i * (1 + 2 * d)) % 26 := ⟨fun i => 97 + (a + i * (1 + 2 * d)) % 26, fun _ => rfl⟩
  have hix : ∀ (i : Nat) (mu : List MO), gIx (.str lt) (.int (((a : Int) + (i : Int) * (1 + 2 * (d : Int))) % 26)) mu = .ok (.str ⟨#[ch i]⟩) mu := fun i mu => by
    have e : ((a : Int) + (i : Int) * (1 + 2 * (d : Int))) % 26 = (((a + i * (1 + 2 * d)) % 26 : Nat) : Int) := by push_cast; rfl
    rw [e, hch]
    exact gIx_str hz (hlt _ (Nat.mod_lt _ (by decide)))
  have hwt : ∀ i, wordAt true sh a d i = sh ++ ⟨#[ch i]⟩ := fun i => by rw [hch]; rfl
  have hwf : ∀ i, wordAt false sh a d i = ⟨#[ch i]⟩ ++ sh := fun i => by rw [hch]; rfl
  have hgood : ∀ front i, GoodW (wordAt front sh a d i) := fun front i => wd_good hsl hsc (by have := Nat.mod_lt (a + i * (1 + 2 * d)) (show 0 < 26 by decide); omega)
  have hnd : ∀ front, ((List.range n).map (wordAt front sh a d)).Nodup := fun front => by
    rw [List.nodup_iff_pairwise_ne, List.pairwise_map]
    exact (List.nodup_range (n := n)).imp_of_mem fun hi hj hij e => hij (step_inj (a := a) (d := d) (by omega) (by have := List.mem_range.mp hi; omega) (by have := List.mem_range.mp hj; omega) (by have := wd_inj e; omega))
  have hm : ∀ (i : Int) (mu : List MO), gMul (.int i) (.int (1 + 2 * (d : Int))) mu = .ok (.int (i * (1 + 2 * (d : Int)))) mu := fun i mu => gMul_small s64
  have hm2 : ∀ (i : Int) (mu : List MO), gMul (.int i) (.int (d : Int)) mu = .ok (.int (i * (d : Int))) mu := fun i mu => gMul_small t64
  have hr : ∀ r : MP.Env → M D, ∀ front, (∀ i env1, env1 = [some (D.ref s), some (.int n), some (.str lt), some (.int a), some (.int (1 + 2 * (d : Int))), some (.str sh), some (.int ((i : Nat) : Int))] → r env1 m4 = .ok (.str (wordAt front sh a d i)) m4) →
      loopC (asgN 6) tYesM r [] (rngD 0 n) [some (D.ref s), some (.int n), some (.str lt), some (.int a), some (.int (1 + 2 * (d : Int))), some (.str sh), none] m4 = .ok (((List.range n).map (wordAt front sh a d)).map D.str) m4 := fun r front h => by
    unfold rngD
    rw [List.map_map]
    refine loopC_map' fun i hi => ⟨_, rfl, rfl, ?_⟩
    exact h i _ (by simp)
  have hw := wRng1_ok (n := (n : Int)) (mu := m4) (by omega)
  have hnn : ((n : Int)).toNat = n := by omega
  rw [hnn] at hw
  by_cases c : f = 0
  · refine ⟨(List.range n).map (wordAt true sh a d), m4, noX_ok ?_, n4, by simp, hnd true, fun w hw => by
      obtain ⟨i, _, e⟩ := List.mem_map.mp hw
      rw [← e]; exact hgood true i⟩
    have hl := hr (eBin gAdd (eVar 5) (eBin gIx (eVar 2) (eBin gMod (aThen (g1 gInt) (aCons (eBin gAdd (eVar 3) (eBin gMul (eVar 6) (eVar 4))) aNil)) (eC (.int 26))))) true (fun i env1 e => by
      subst e
      rw [hwt]
      exact word_front (hm _ _) (hix i m4) (by rw [gAdd_str, if_pos (hcat _)]))
    simp [wordsR, startE, e1, e2, hm2, e3, esh, e4, c, gEq_ints, hw, noX_ok hl]
  · refine ⟨(List.range n).map (wordAt false sh a d), m4, noX_ok ?_, n4, by simp, hnd false, fun w hw => by
      obtain ⟨i, _, e⟩ := List.mem_map.mp hw
      rw [← e]; exact hgood false i⟩
    have hl := hr (eBin gAdd (eBin gIx (eVar 2) (eBin gMod (aThen (g1 gInt) (aCons (eBin gAdd (eVar 3) (eBin gMul (eVar 6) (eVar 4))) aNil)) (eC (.int 26)))) (eVar 5)) false (fun i env1 e => by
      subst e
      rw [hwf]
      exact word_back (hm _ _) (hix i m4) (by rw [gAdd_str, if_pos (hcat' _)]))
    simp [wordsR, startE, e1, e2, hm2, e3, esh, e4, c, gEq_ints, hw, noX_ok hl]
theorem words_ok {s : Nat} {cs : List Int} {n : Nat} {mu : List MO} (A : At s cs mu) (hn : n ≤ 26) : ∃ (ws : List Str) (mu' : List MO), den__law_words den__law_draw [.ref s, .int n] mu = .ok (.fr (ws.map D.str)) mu' ∧ Nx s cs mu mu' ∧ ws.length = n ∧ ws.Nodup ∧ ∀ w ∈ ws, GoodW w :=
  wordsR_ok (lt := "abcdefghijklmnopqrstuvwxyz") (qz := "qxz") (by decide +kernel) (fun x h => letter_at h) (fun d h0 h1 => shared_ok h0 h1) A hn
end MP
namespace MP
open PySem L2 PyProof.Rows
/-! ### what is left behind, forgotten for every def: the freezing is a function -/
section
variable {mu : List MO} {k : Nat} {ok : Nat → Prop}
theorem Frz.fun_both : (∀ {d d1 : D}, Frz mu k ok d d1 → ∀ d2, Frz mu k ok d d2 → d1 = d2) ∧ (∀ {d d1 : List D}, Frzs mu k ok d d1 → ∀ d2, Frzs mu k ok d d2 → d1 = d2) := by
  refine ⟨fun {d d1} q => ?_, fun {d d1} q => ?_⟩
  · exact Frz.rec (motive_1 := fun d d1 _ => ∀ d2, Frz mu k ok d d2 → d1 = d2) (motive_2 := fun d d1 _ => ∀ d2, Frzs mu k ok d d2 → d1 = d2)
      (fun d2 h => by cases h; rfl) (fun b d2 h => by cases h; rfl) (fun i d2 h => by cases h; rfl) (fun x d2 h => by cases h; rfl)
      (fun _ ih d2 h => by cases h with | tup q => rw [ih _ q]) (fun _ ih d2 h => by cases h with | fl q => rw [ih _ q]) (fun _ ih d2 h => by cases h with | ro q => rw [ih _ q]) (fun _ ih d2 h => by cases h with | fd q => rw [ih _ q])
      (fun hn d2 h => by cases h with | ref _ => rfl | lst h1 _ _ _ => omega | dk h1 _ _ _ => omega)
      (fun hk _ hx _ ih d2 h => by cases h with
        | ref h1 => omega
        | lst _ _ hx' q => rw [hx] at hx'; cases hx'; rw [ih _ q]
        | dk _ _ hx' q => rw [hx] at hx'; cases hx')
      (fun hk _ hx _ ih d2 h => by cases h with
        | ref h1 => omega
        | lst _ _ hx' q => rw [hx] at hx'; cases hx'
        | dk _ _ hx' q => rw [hx] at hx'; cases hx'; rw [ih _ q])
      (fun d2 h => by cases h; rfl) (fun _ _ ih ihs d2 h => by cases h with | cons a b => rw [ih _ a, ihs _ b]) q
  · exact Frzs.rec (motive_1 := fun d d1 _ => ∀ d2, Frz mu k ok d d2 → d1 = d2) (motive_2 := fun d d1 _ => ∀ d2, Frzs mu k ok d d2 → d1 = d2)
      (fun d2 h => by cases h; rfl) (fun b d2 h => by cases h; rfl) (fun i d2 h => by cases h; rfl) (fun x d2 h => by cases h; rfl)
      (fun _ ih d2 h => by cases h with | tup q => rw [ih _ q]) (fun _ ih d2 h => by cases h with | fl q => rw [ih _ q]) (fun _ ih d2 h => by cases h with | ro q => rw [ih _ q]) (fun _ ih d2 h => by cases h with | fd q => rw [ih _ q])
      (fun hn d2 h => by cases h with | ref _ => rfl | lst h1 _ _ _ => omega | dk h1 _ _ _ => omega)
      (fun hk _ hx _ ih d2 h => by cases h with
        | ref h1 => omega
        | lst _ _ hx' q => rw [hx] at hx'; cases hx'; rw [ih _ q]
        | dk _ _ hx' q => rw [hx] at hx'; cases hx')
      (fun hk _ hx _ ih d2 h => by cases h with
        | ref h1 => omega
        | lst _ _ hx' q => rw [hx] at hx'; cases hx'
        | dk _ _ hx' q => rw [hx] at hx'; cases hx'; rw [ih _ q])
      (fun d2 h => by cases h; rfl) (fun _ _ ih ihs d2 h => by cases h with | cons a b => rw [ih _ a, ihs _ b]) q
theorem FrzO.fun_ {o o1 o2 : MO} (h : FrzO mu k ok o o1) (h' : FrzO mu k ok o o2) : o1 = o2 := by
  cases h with
  | lst q => cases h' with | lst q' => rw [Frz.fun_both.2 q _ q']
  | @dk kvs kws e q => cases h' with | @dk _ kws' e' q' =>
    have z := Frz.fun_both.2 q _ q'
    have ek : kws.map (·.1) = kws'.map (·.1) := e.symm.trans e'
    rw [← zip_keys kws, ← zip_keys kws', ek, z]
theorem FrzH.fun_ {nu nu' : List MO} (h : FrzH mu ok nu) (h' : FrzH mu ok nu') (hl : nu.length = nu'.length) : nu = nu' := by
  apply List.ext_getElem hl
  intro i h1 h2
  have hi : i < mu.length := Nat.lt_of_lt_of_le h1 h.le
  have a := h.at_ i mu[i] nu[i] (List.getElem?_eq_getElem hi) (List.getElem?_eq_getElem h1)
  have b := h'.at_ i mu[i] nu'[i] (List.getElem?_eq_getElem hi) (List.getElem?_eq_getElem h2)
  rw [← hl] at b
  exact a.fun_ b
end
/-- a new list handed out -/
def FrzN (mu : List MO) (k : Nat) (rv : Rv) (p : Rv × List MO) : Prop := p.2.length = k ∧ ∃ (n : Nat) (xs ys : List D), rv = .vl (.ref n) ∧ p.1 = .fr ys ∧ k ≤ n ∧ mu[n]? = some (.lst xs) ∧ FrzH mu (fun j => j ≠ n) p.2 ∧ Frzs mu p.2.length (fun j => j ≠ n) xs ys
/-- all else -/
def FrzE (mu : List MO) (k : Nat) (rv : Rv) (p : Rv × List MO) : Prop := p.2.length = k ∧ FrzH mu (fun _ => True) p.2 ∧ ((∃ d d', rv = .vl d ∧ p.1 = .vl d' ∧ Frz mu p.2.length (fun _ => True) d d') ∨ ∃ xs ys, rv = .fr xs ∧ p.1 = .fr ys ∧ Frzs mu p.2.length (fun _ => True) xs ys)
theorem FrzN.one {mu : List MO} {k : Nat} {rv : Rv} {p p' : Rv × List MO} (h : FrzN mu k rv p) (h' : FrzN mu k rv p') : p = p' := by
  obtain ⟨l, n, xs, ys, rfl, e, hk, hx, hh, hf⟩ := h
  obtain ⟨l', n', xs', ys', e0, e', hk', hx', hh', hf'⟩ := h'
  cases e0
  rw [hx] at hx'
  cases hx'
  have z := hh.fun_ hh' (l.trans l'.symm)
  obtain ⟨a, b⟩ := p
  obtain ⟨a', b'⟩ := p'
  simp only at e e' z hf hf' l l'
  subst z e e'
  rw [Frz.fun_both.2 hf _ hf']
theorem FrzE.one {mu : List MO} {k : Nat} {rv : Rv} {p p' : Rv × List MO} (h : FrzE mu k rv p) (h' : FrzE mu k rv p') : p = p' := by
  obtain ⟨l, hh, h⟩ := h
  obtain ⟨l', hh', h'⟩ := h'
  have z := hh.fun_ hh' (l.trans l'.symm)
  obtain ⟨a, b⟩ := p
  obtain ⟨a', b'⟩ := p'
  simp only at z h h' l l'
  subst z
  rcases h with ⟨d, d', rfl, rfl, hf⟩ | ⟨xs, ys, rfl, rfl, hf⟩
  · rcases h' with ⟨e, e', q, rfl, hf'⟩ | ⟨_, _, q, _⟩
    · cases q; rw [Frz.fun_both.1 hf _ hf']
    · cases q
  · rcases h' with ⟨e, e', q, _⟩ | ⟨_, _, q, rfl, hf'⟩
    · cases q
    · cases q; rw [Frz.fun_both.2 hf _ hf']
open Classical in
noncomputable def frzU (k : Nat) : R Rv → R Rv
  | .ok rv mu' => if h : ∃ p, FrzN mu' k rv p then .ok h.choose.1 h.choose.2 else if h : ∃ p, FrzE mu' k rv p then .ok h.choose.1 h.choose.2 else .bad
  | _ => .bad
theorem frzU_N {k : Nat} {rv : Rv} {mu' : List MO} (h : ∃ p, FrzN mu' k rv p) : ∃ p, FrzN mu' k rv p ∧ frzU k (.ok rv mu') = .ok p.1 p.2 := ⟨h.choose, h.choose_spec, dif_pos h⟩
theorem frzU_E {k : Nat} {rv : Rv} {mu' : List MO} (h : ¬ ∃ p, FrzN mu' k rv p) (h2 : ∃ p, FrzE mu' k rv p) : ∃ p, FrzE mu' k rv p ∧ frzU k (.ok rv mu') = .ok p.1 p.2 := ⟨h2.choose, h2.choose_spec, (dif_neg h).trans (dif_pos h2)⟩
theorem frzU_0 {k : Nat} {rv : Rv} {mu' : List MO} (h : ¬ ∃ p, FrzN mu' k rv p) (h2 : ¬ ∃ p, FrzE mu' k rv p) : frzU k (.ok rv mu') = .bad := (dif_neg h).trans (dif_neg h2)
/-- den, what it leaves behind forgotten (no exceptions) -/
noncomputable def fgt (den : List D → M Rv) : List D → M Rv := fun ds mu => frzU mu.length (den ds mu)
theorem gc_fgt {n : Nat} {den : List D → M Rv} : GC n den (fgt den) := fun ds mu hn hc hh => by
  show match frzU mu.length (den ds mu) with
    | .bad => True
    | .ok rv' nu => ∃ rv mu', den ds mu = .ok rv mu' ∧ mu.length ≤ nu.length ∧ FrzR mu' nu rv rv'
    | .exc x' nu => ∃ x mu', den ds mu = .exc x mu' ∧ mu.length ≤ nu.length ∧ FrzX mu' nu x x'
  cases e : den ds mu with
  | bad => trivial
  | exc x mu' => trivial
  | ok rv mu' =>
    by_cases h : ∃ p, FrzN mu' mu.length rv p
    · obtain ⟨p, ⟨l, n, xs, ys, e3, e4, hk, hx, hh, hf⟩, e2⟩ := frzU_N h
      rw [e2]
      refine ⟨rv, mu', rfl, by omega, ?_⟩
      rw [e3, e4]
      exact .newL (by omega) hx hh hf
    · by_cases h2 : ∃ p, FrzE mu' mu.length rv p
      · obtain ⟨p, ⟨l, hh, hf⟩, e2⟩ := frzU_E h h2
        rw [e2]
        refine ⟨rv, mu', rfl, by omega, ?_⟩
        rcases hf with ⟨d, d', e3, e4, hf⟩ | ⟨xs, ys, e3, e4, hf⟩
        · rw [e3, e4]; exact .vl hh hf
        · rw [e3, e4]; exact .fr hh hf
      · rw [frzU_0 h h2]; trivial
section
variable {den : List D → M Rv} {ds : List D} {mu mu' mu1 ex nu : List MO} {d d' : D} {xs ys : List D} {n : Nat}
theorem fgt_new (e : den ds mu = .ok (.vl (.ref n)) mu') (hl : nu.length = mu.length) (hn : mu.length ≤ n) (hx : mu'[n]? = some (.lst xs)) (hh : FrzH mu' (fun j => j ≠ n) nu) (hf : Frzs mu' nu.length (fun j => j ≠ n) xs ys) : fgt den ds mu = .ok (.fr ys) nu := by
  have hp : FrzN mu' mu.length (.vl (.ref n)) (.fr ys, nu) := ⟨hl, n, xs, ys, rfl, rfl, hn, hx, hh, hf⟩
  have h : ∃ p, FrzN mu' mu.length (.vl (.ref n)) p := ⟨_, hp⟩
  obtain ⟨p, hp', e2⟩ := frzU_N h
  unfold fgt
  rw [e, e2, hp'.one hp]
theorem fgt_vl (e : den ds mu = .ok (.vl d) mu') (hl : nu.length = mu.length) (hn : ∀ n xs, d = .ref n → mu'[n]? = some (.lst xs) → n < mu.length) (hh : FrzH mu' (fun _ => True) nu) (hf : Frz mu' nu.length (fun _ => True) d d') : fgt den ds mu = .ok (.vl d') nu := by
  have hp : FrzE mu' mu.length (.vl d) (.vl d', nu) := ⟨hl, hh, .inl ⟨d, d', rfl, rfl, hf⟩⟩
  have h2 : ∃ p, FrzE mu' mu.length (.vl d) p := ⟨_, hp⟩
  have h : ¬ ∃ p, FrzN mu' mu.length (.vl d) p := fun ⟨p, _, n, xs, ys, e1, _, hk, hx, _⟩ => by
    cases e1
    have := hn n xs rfl hx
    omega
  obtain ⟨p, hp', e2⟩ := frzU_E h h2
  unfold fgt
  rw [e, e2, hp'.one hp]
theorem fgt_fr (e : den ds mu = .ok (.fr xs) mu') (hl : nu.length = mu.length) (hh : FrzH mu' (fun _ => True) nu) (hf : Frzs mu' nu.length (fun _ => True) xs ys) : fgt den ds mu = .ok (.fr ys) nu := by
  have hp : FrzE mu' mu.length (.fr xs) (.fr ys, nu) := ⟨hl, hh, .inr ⟨xs, ys, rfl, rfl, hf⟩⟩
  have h2 : ∃ p, FrzE mu' mu.length (.fr xs) p := ⟨_, hp⟩
  have h : ¬ ∃ p, FrzN mu' mu.length (.fr xs) p := fun ⟨p, _, n, xs, ys, e1, _⟩ => by cases e1
  obtain ⟨p, hp', e2⟩ := frzU_E h h2
  unfold fgt
  rw [e, e2, hp'.one hp]
/-- the plain ways: what stood stays (moved on), garbage behind it -/
theorem fgt_val (e : den ds mu = .ok (.vl d) (mu1 ++ ex)) (hl : mu1.length = mu.length) (h1 : CloH mu1) (hd : Clo mu.length d) : fgt den ds mu = .ok (.vl d) mu1 :=
  fgt_vl e hl (fun n xs e _ => by rw [e] at hd; exact Clo.ref.mp hd) (h1.frz ex) (by rw [hl]; exact hd _ _)
theorem fgt_list (e : den ds mu = .ok (.vl (.ref n)) (mu1 ++ ex)) (hl : mu1.length = mu.length) (h1 : CloH mu1) (hn : mu.length ≤ n) (hx : (mu1 ++ ex)[n]? = some (.lst xs)) (hd : Clos mu.length xs) : fgt den ds mu = .ok (.fr xs) mu1 :=
  fgt_new e hl hn hx (h1.frz ex) (by rw [hl]; exact hd _ _)
theorem fgt_lst (e : den ds mu = .ok (.fr xs) (mu1 ++ ex)) (hl : mu1.length = mu.length) (h1 : CloH mu1) (hd : Clos mu.length xs) : fgt den ds mu = .ok (.fr xs) mu1 :=
  fgt_fr e hl (h1.frz ex) (by rw [hl]; exact hd _ _)
end
/-! data without places -/
mutual
def flat : D → Bool
  | .tup xs => flats xs
  | .fl xs => flats xs
  | .ro xs => flats xs
  | .fd _ xs => flats xs
  | .ref _ => false
  | _ => true
def flats : List D → Bool
  | [] => true
  | x :: xs => flat x && flats xs
end
mutual
theorem flat_clo {k : Nat} : ∀ (d : D), flat d = true → Clo k d
  | .non, _ => Clo.non
  | .bl _, _ => Clo.bl
  | .int _, _ => Clo.int
  | .str _, _ => Clo.str
  | .tup xs, h => Clo.tup.mpr (flats_clo xs h)
  | .fl xs, h => Clo.fl.mpr (flats_clo xs h)
  | .ro xs, h => Clo.ro.mpr (flats_clo xs h)
  | .fd ks xs, h => Clo.fd.mpr (flats_clo xs h)
  | .ref _, h => by simp [flat] at h
theorem flats_clo {k : Nat} : ∀ (ds : List D), flats ds = true → Clos k ds
  | [], _ => Clos.nil
  | d :: ds, h => by
    rw [flats, Bool.and_eq_true] at h
    exact Clos.cons (flat_clo d h.1) (flats_clo ds h.2)
end
theorem flats_of : ∀ {ds : List D}, (∀ d ∈ ds, flat d = true) → flats ds = true
  | [], _ => rfl
  | d :: ds, h => by rw [flats, h d (by simp), flats_of fun x hx => h x (by simp [hx])]; rfl
theorem flats_mem : ∀ {ds : List D}, flats ds = true → ∀ d ∈ ds, flat d = true
  | d :: ds, h, x, hx => by
    rw [flats, Bool.and_eq_true] at h
    rcases List.mem_cons.mp hx with e | e
    · rw [e]; exact h.1
    · exact flats_mem h.2 x e
end MP
namespace MP
open PySem L2 PyProof.Rows
/-! ### a dict of the written part with text keys -/
/-- at a: the table -/
structure KTab (K : PySem.W.Frag) (w : World) (a : Addr) (tbl : List (Str × D)) : Prop where
  kd : ∃ es n, KDict K w a es n
  no : ∀ z, (∀ p ∈ tbl, p.1 ≠ z) → PySem.W.nsIn K a z = some none
  yes : ∀ p ∈ tbl, ∃ u v, PySem.W.nsIn K a p.1 = some (some u) ∧ RelV v u ∧ ∀ m H, Rep K m H p.2 v
def tabAt (tbl : List (Str × D)) (z : Str) : Option D := (tbl.find? fun p => p.1 == z).map (·.2)
theorem tabAt_none {tbl : List (Str × D)} {z : Str} (h : tabAt tbl z = none) : ∀ p ∈ tbl, p.1 ≠ z := fun p hp e => by
  unfold tabAt at h
  rw [Option.map_eq_none_iff, List.find?_eq_none] at h
  exact h p hp (by rw [e]; exact beq_self_eq_true z)
theorem tabAt_some {tbl : List (Str × D)} {z : Str} {d : D} (h : tabAt tbl z = some d) : ∃ p ∈ tbl, p.1 = z ∧ p.2 = d := by
  unfold tabAt at h
  obtain ⟨p, hp, e⟩ := Option.map_eq_some_iff.mp h
  have h2 : (p.1 == z) = true := List.find?_some (p := fun p : Str × D => p.1 == z) hp
  exact ⟨p, List.mem_of_find?_eq_some hp, eq_of_beq h2, e⟩
/-- x in T -/
def gInK (neg : Bool) (tbl : List (Str × D)) (x : D) : M D := toS x >>= fun z => pure (.bl ((tabAt tbl z).isSome != neg))
/-- T[x] -/
def gIxK (tbl : List (Str × D)) (x : D) : M D := toS x >>= fun z => match tabAt tbl z with
  | some d => pure d
  | none => bad
section
variable {X : Cx} {W : Wx} {e : Expr} {c : Str} {a : Addr} {tbl : List (Str × D)} {p pos : Pos} {r : Env → M D}
theorem toS_at {K : PySem.W.Frag} {W : Wx} {m : Mp} {H : Hp} {mu : List MO} {x : D} {v : V} {α : Type} {f : Str → M α} {Q : α → Mp → List MO → Hp → Prop} (h : Rep K m H x v) (hp : Post K W m H ((toS x >>= f) mu) Q) : ∃ z, x = .str z ∧ v = .str z ∧ Post K W m H (f z mu) Q := by
  cases x with
  | str z =>
    simp only [Rep] at h
    exact ⟨z, rfl, h, hp⟩
  | _ => exact (show False from hp).elim
def rInK (K : PySem.W.Frag) (a : Addr) (neg : Bool) : R2 := fun x y H Q => ∃ (z : Str) (o : Option Value), x = .str z ∧ y = .ref a ∧ PySem.W.nsIn K a z = some o ∧ Q (.bl (o.isSome != neg)) H
theorem opr_inK {neg : Bool} {op : CmpOp} (hop : (neg = false ∧ op = .In) ∨ (neg = true ∧ op = .NotIn)) (T : KTab X.K X.w a tbl) : OpR X (compareOp op) (rInK X.K a neg) := by
  obtain ⟨es, n, kd⟩ := T.kd
  rcases hop with ⟨rfl, rfl⟩ | ⟨rfl, rfl⟩
  · intro pins s σ H x y v u Q I rx ry h
    obtain ⟨z, o, rfl, rfl, h1, h2⟩ := h
    have e : (o.isSome != false) = o.isSome := by cases o.isSome <;> rfl
    rw [e] at h2
    exact op_in_kd kd pins s σ H _ _ v u Q I rx ry ⟨z, o, rfl, rfl, h1, h2⟩
  · intro pins s σ H x y v u Q I rx ry h
    obtain ⟨z, o, rfl, rfl, h1, h2⟩ := h
    have e : (o.isSome != true) = !o.isSome := by cases o.isSome <;> rfl
    rw [e] at h2
    exact op_notIn_kd kd pins s σ H _ _ v u Q I rx ry ⟨z, o, rfl, rfl, h1, h2⟩
theorem inK_go {neg : Bool} (T : KTab X.K X.w a tbl) : ∀ σ H Q, tE X.K W (eMap (gInK neg tbl) r) σ H Q → tOp (rInK X.K a neg) (tE X.K W r) (tC (.ref a)) σ H Q := fun σ H Q ⟨env, m, mu, hE, hR, hp⟩ =>
  ⟨env, m, mu, hE, hR, (Post.bind hp).mono fun x m1 mu1 H1 g1 R1 hp1 v rv => by
    obtain ⟨z, rfl, rfl, hp2⟩ := toS_at rv hp1
    have hq := Post.pure hp2 R1
    cases ht : tabAt tbl z with
    | none =>
      rw [ht] at hq
      exact ⟨z, none, rfl, rfl, T.no z (tabAt_none ht), hq _ (by simp only [Rep]; rfl)⟩
    | some d =>
      rw [ht] at hq
      obtain ⟨q, hq1, rfl, rfl⟩ := tabAt_some ht
      obtain ⟨u, v, h1, _, _⟩ := T.yes q hq1
      exact ⟨_, some u, rfl, rfl, h1, hq _ (by simp only [Rep]; rfl)⟩⟩
theorem me_inK {neg : Bool} {op : CmpOp} (hop : (neg = false ∧ op = .In) ∨ (neg = true ∧ op = .NotIn)) (T : KTab X.K X.w a tbl) (hg : Gl X c) (hm : X.mg c = some (.ref a)) (he : ME X W e r) (hd : (c == ("__debug__" : Str)) = false := by decide) (hb : behindInMarks op (.Name c p) = false := by first | exact nomark _ | rfl) :
    ME X W (.Compare e [op] [.Name c p] pos) (eMap (gInK neg tbl) r) := ⟨(pe_cmpR (opr_inK hop T) he.pe (pe_glob hg hm (v := .ref a) rfl hd) hb).imp (inK_go T)⟩
theorem mt_inK {neg : Bool} {op : CmpOp} (hop : (neg = false ∧ op = .In) ∨ (neg = true ∧ op = .NotIn)) (T : KTab X.K X.w a tbl) (hg : Gl X c) (hm : X.mg c = some (.ref a)) (he : ME X W e r) (hd : (c == ("__debug__" : Str)) = false := by decide) (hb : behindInMarks op (.Name c p) = false := by first | exact nomark _ | rfl) :
    MT X W (.Compare e [op] [.Name c p] pos) (eB (eMap (gInK neg tbl) r)) := ⟨(pt_cmpR (opr_inK hop T) he.pe (pe_glob hg hm (v := .ref a) rfl hd) hb).imp (tT_of (inK_go T))⟩
theorem me_ixK (T : KTab X.K X.w a tbl) (hg : Gl X c) (hm : X.mg c = some (.ref a)) (he : ME X W e r) (hd : (c == ("__debug__" : Str)) = false := by decide) (hs : PlainIx e := by intro _ _; rfl) :
    ME X W (.Subscript (.Name c p) e pos) (eMap (gIxK tbl) r) := by
  obtain ⟨es, n, kd⟩ := T.kd
  have hc : PE X (.Name c p) (tC (.ref a)) := pe_glob hg hm (v := .ref a) rfl hd
  refine ⟨(pe_ix ix_kdict hc he.pe hs).imp fun σ H Q hq => ?_⟩
  obtain ⟨env, m, mu, hE, hR, hp⟩ := hq
  exact ⟨env, m, mu, hE, hR, (Post.bind hp).mono fun x m1 mu1 H1 g1 R1 hp1 v rv => by
    obtain ⟨z, rfl, rfl, hp2⟩ := toS_at rv hp1
    cases ht : tabAt tbl z with
    | none =>
      have hp3 : Post X.K W m1 H1 ((match tabAt tbl z with | some d => (pure d : M D) | none => bad) mu1) _ := hp2
      rw [ht] at hp3
      exact (show False from hp3).elim
    | some d =>
      have hp3 : Post X.K W m1 H1 ((match tabAt tbl z with | some d => (pure d : M D) | none => bad) mu1) _ := hp2
      rw [ht] at hp3
      have hq := Post.pure hp3 R1
      obtain ⟨q, hq1, rfl, rfl⟩ := tabAt_some ht
      obtain ⟨u, v, h1, h2, h3⟩ := T.yes q hq1
      exact ⟨a, _, v, rfl, rfl, ⟨es, n, u, kd.at_, kd.lit, h1, h2⟩, hq v (h3 m1 H1)⟩⟩
end
@[simp] theorem gInK_ap {neg : Bool} {tbl : List (Str × D)} {z : Str} {mu : List MO} : gInK neg tbl (.str z) mu = .ok (.bl ((tabAt tbl z).isSome != neg)) mu := rfl
theorem gIxK_ap {tbl : List (Str × D)} {z : Str} {d : D} {mu : List MO} (h : tabAt tbl z = some d) : gIxK tbl (.str z) mu = .ok d mu := by
  show (match tabAt tbl z with | some d => (pure d : M D) | none => bad) mu = _
  rw [h]; rfl
/-- the table, from what the head tells -/
theorem ktab_of {K : PySem.W.Frag} {w : World} {a : Addr} {tbl : List (Str × D)} (hk : He.dicW K a = some (He.keysIn w.params (tbl.map (·.1)))) (yes : ∀ p ∈ tbl, ∃ u v, PySem.W.nsIn K a p.1 = some (some u) ∧ RelV v u ∧ ∀ m H, Rep K m H p.2 v) : KTab K w a tbl := by
  refine ⟨He.dicW_ok hk, fun z hz => ?_, yes⟩
  unfold He.dicW at hk
  unfold PySem.W.nsIn
  split at hk
  · rename_i c es n sl ho
    rw [ho]
    split at hk
    · have hk := Option.some.inj hk
      have hall : ∀ e ∈ es.toList, ∃ x t, e.key = .str x t ∧ x ∈ tbl.map (·.1) := fun e he => by
        have h1 : He.keyOf e ∈ He.keysIn w.params (tbl.map (·.1)) := by rw [← hk]; exact List.mem_map_of_mem he
        obtain ⟨x, hx, ex⟩ := List.mem_map.mp h1
        unfold He.keyOf at ex
        split at ex
        · rename_i y t hy
          have := Option.some.inj ex
          obtain ⟨e1, _⟩ := Prod.mk.inj this
          exact ⟨y, t, hy, e1 ▸ hx⟩
        · cases ex
      have hf : es.toList.find? (fun e => e.key.isStr z) = none := List.find?_eq_none.mpr fun e he hs => by
        obtain ⟨x, t, e1, hx⟩ := hall e he
        rw [e1] at hs
        obtain ⟨q, hq, rfl⟩ := List.mem_map.mp hx
        have : (q.1 == z) = true := hs
        exact hz q hq (eq_of_beq this)
      have hr : es.toList.any (fun e => e.refKey) = false := List.any_eq_false.mpr fun e he hs => by
        obtain ⟨x, t, e1, _⟩ := hall e he
        unfold DictEntry.refKey at hs
        rw [e1] at hs
        cases hs
      dsimp only
      rw [hf]
      simp only [hr]
      rfl
    · cases hk
  · cases hk
end MP
namespace MP
open PySem L2 PyProof.Rows
/-! ### comprehensions with two clauses -/
noncomputable def loopC2 (asg : D → Env → M Env) (t : Env → M Bool) (w1 : Env → M Wk) (asg1 : D → Env → M Env) (t1 : Env → M Bool) (r : Env → M D) (vs1 : List Nat) (g : List (Nat × List D)) : List D → List D → Env → M (List D)
  | [], acc, env => chk g >>= fun _ => pure acc
  | d :: ds, acc, env => chk g >>= fun _ => asg d env >>= fun env1 => t env1 >>= fun b => if b = true then (w1 env1 >>= fun p => need (acc.length + p.1.length ≤ sizeLine) >>= fun _ => loopC asg1 t1 r p.2 p.1 (wipeE env1 vs1) >>= fun xs => loopC2 asg t w1 asg1 t1 r vs1 g ds (acc ++ xs) env) else loopC2 asg t w1 asg1 t1 r vs1 g ds acc env
noncomputable def fComp2 (w : Env → M Wk) (asg : D → Env → M Env) (t : Env → M Bool) (w1 : Env → M Wk) (asg1 : D → Env → M Env) (t1 : Env → M Bool) (r : Env → M D) (vs vs1 : List Nat) : Env → M (List D) := fun env => w env >>= fun p => noX (loopC2 asg t w1 asg1 t1 r vs1 p.2 p.1 [] (wipeE env vs))
/-- the new list Dd on its way -/
structure CS (K : PySem.W.Frag) (m1 : Mp) (H1 : Hp) (Dd : Addr) (acc : List D) (m : Mp) (mu : List MO) (H2 : Hp) : Prop where
  at_ : ∃ vs2, H2 Dd = some (.lst vs2) ∧ Reps K m H2 acc vs2
  no : Dd ∈ m.no
  ad : Dd ∉ m.ad
  rel : Rel K m mu H2
  gr : Grow m1 m H1 H2
theorem keepD {m : Mp} {H : Hp} {Dd : Addr} {vs ws : List V} (h : H Dd = some (.lst vs)) (hn : Dd ∈ m.no) : Keep m m H (upd H Dd (.lst ws)) :=
  have nD : ∀ b o, H b = some o → m.Out b → b ≠ Dd := fun b o _ n z => n.2 (by rw [z]; exact hn)
  ⟨fun _ _ h => h, fun a o h' n => ⟨by rw [upd_ne (nD a o h' n)]; exact h', n⟩, fun a xs h' => by rw [upd_ne (fun z => by rw [z, h] at h'; cases h')]; exact h', fun a u xs h' => by rw [upd_ne (fun z => by rw [z, h] at h'; cases h')]; exact h'⟩
theorem CS.grow {K : PySem.W.Frag} {m1 m m' : Mp} {H1 H H' : Hp} {Dd : Addr} {acc : List D} {mu mu' : List MO} (c : CS K m1 H1 Dd acc m mu H) (g : Grow m m' H H') (R : Rel K m' mu' H') : CS K m1 H1 Dd acc m' mu' H' := by
  obtain ⟨vs2, h, hr⟩ := c.at_
  obtain ⟨l', k', e1, e2, _, _⟩ := g.ext
  exact ⟨⟨vs2, g.oth Dd _ h c.ad, Reps.grow g acc vs2 hr⟩, by rw [e2]; exact List.mem_append_left _ c.no, g.notin h c.ad, R, c.gr.trans g⟩
theorem CS.add {K : PySem.W.Frag} {m1 m : Mp} {H1 H : Hp} {Dd : Addr} {acc : List D} {mu : List MO} {y : D} {v : V} (c : CS K m1 H1 Dd acc m mu H) (h0 : H1 Dd = none) (ry : Rep K m H y v) : ∃ vs2, H Dd = some (.lst vs2) ∧ vs2.length = acc.length ∧ Keep m m H (upd H Dd (.lst (vs2 ++ [v]))) ∧ CS K m1 H1 Dd (acc ++ [y]) m mu (upd H Dd (.lst (vs2 ++ [v]))) := by
  obtain ⟨vs2, h, hr⟩ := c.at_
  have kp := keepD (ws := vs2 ++ [v]) h c.no
  have hdead : ∀ b o, H1 b = some o → b ≠ Dd := fun b o e z => by rw [z, h0] at e; cases e
  refine ⟨vs2, h, hr.length.symm, kp, ⟨vs2 ++ [v], upd_same, (Reps.keep kp acc vs2 hr).append (Reps.one (Rep.keep kp y v ry))⟩, c.no, c.ad, ?_, ?_⟩
  · have R6 := c.rel
    refine ⟨R6.len, R6.nd, fun a z => ?_, R6.dj, fun n ob a h1 h2 => (R6.obj n ob a h1 h2).keep kp fun u q => ?_⟩
    · by_cases za : a = Dd
      · subst za; exact ⟨_, upd_same⟩
      · rw [upd_ne za]; exact R6.nos a z
    · rw [upd_ne (fun z => c.ad (by rw [← z]; exact List.mem_of_getElem? h2))]; exact q
  · have g16 := c.gr
    refine ⟨g16.ext, fun a o h n => ?_, fun a xs h => ?_, fun a o u h => ?_, fun a o h => ?_⟩
    · rw [upd_ne (hdead a o h)]; exact g16.oth a o h n
    · rw [upd_ne (hdead a _ h)]; exact g16.tups a xs h
    · rw [upd_ne (hdead a _ h)]; exact g16.frzs a o u h
    · rw [upd_ne (hdead a o h)]; exact g16.trk a o h
theorem CS.start {K : PySem.W.Frag} {m1 : Mp} {H1 : Hp} {Dd : Addr} {mu1 : List MO} (R1 : Rel K m1 mu1 H1) (hDn : H1 Dd = none) : CS K m1 H1 Dd [] (m1.shut Dd) mu1 (upd H1 Dd (.lst [])) ∧ Keep m1 (m1.shut Dd) H1 (upd H1 Dd (.lst [])) := by
  have hdead : ∀ b o, H1 b = some o → b ≠ Dd := fun b o e z => by rw [z, hDn] at e; cases e
  have g : Grow m1 m1 H1 (upd H1 Dd (.lst [])) := .laid hDn
  have kp : Keep m1 (m1.shut Dd) H1 (upd H1 Dd (.lst [])) := ⟨fun _ _ h => h, fun a o h n => ⟨by rw [upd_ne (hdead a o h)]; exact h, n.1, fun z => by
    rcases List.mem_append.mp z with z | z
    · exact n.2 z
    · exact hdead a o h (List.mem_singleton.mp z)⟩, g.tups, g.frzs⟩
  refine ⟨⟨⟨[], upd_same, Reps.nil_iff.mpr rfl⟩, by simp [Mp.shut], (R1.free hDn).1, ⟨R1.len, R1.nd, fun a ha => ?_, fun a ha z => ?_, fun n o a h1 h2 => (R1.obj n o a h1 h2).keep kp fun u q => by rw [upd_ne (hdead a u q)]; exact q⟩, ⟨⟨[], [Dd], by simp [Mp.shut], rfl, by simp, fun a ha => by rw [List.mem_singleton.mp ha]; exact hDn⟩, g.oth, g.tups, g.frzs, g.trk⟩⟩, kp⟩
  · rcases List.mem_append.mp ha with z | z
    · exact g.trk a _ (R1.nos a z).choose_spec
    · rw [List.mem_singleton.mp z]; exact ⟨_, upd_same⟩
  · rcases List.mem_append.mp z with z | z
    · exact R1.dj a ha z
    · exact (R1.free hDn).1 (by rw [← List.mem_singleton.mp z]; exact ha)
/-- the new list is taken -/
theorem CS.take {K : PySem.W.Frag} {m1 m2 : Mp} {H H1 H2 : Hp} {Dd : Addr} {acc : List D} {mu1 mu2 : List MO} {Q : VK} (c : CS K m1 H1 Dd acc m2 mu2 H2) (R1 : Rel K m1 mu1 H1) (hDn : H1 Dd = none) (hD0 : H Dd = none)
    (q : ∀ m' H', Grow m1 m' H1 H' → Rel K m' mu2 H' → NewL K H acc m' mu2 H' Q) : Q (.ref Dd) H2 := by
  obtain ⟨vs2, hH2, hacc⟩ := c.at_
  have g2 := c.gr; have R2 := c.rel; have hno := c.no; have had := c.ad
  obtain ⟨l', k', e1, e2, hl', hk'⟩ := g2.ext
  have n1 : Dd ∉ m1.no := (R1.free hDn).2
  have kp : ∀ m3 : Mp, (∀ n a, m2.ad[n]? = some a → m3.ad[n]? = some a) → (∀ a, m2.Out a → m3.Out a) → Keep m2 m3 H2 H2 := fun m3 h1 h2 => ⟨h1, fun a o h n => ⟨h, h2 a n⟩, fun _ _ h => h, fun _ _ _ h => h⟩
  have k3 : Keep m2 ⟨m2.ad, m1.no⟩ H2 H2 := kp _ (fun _ _ h => h) fun a n => ⟨n.1, fun z => n.2 (by rw [e2]; exact List.mem_append_left _ z)⟩
  have g3 : Grow m1 ⟨m2.ad, m1.no⟩ H1 H2 := ⟨⟨l', [], e1, by simp, hl', by simp⟩, g2.oth, g2.tups, g2.frzs, g2.trk⟩
  have R3 : Rel K ⟨m2.ad, m1.no⟩ mu2 H2 := ⟨R2.len, R2.nd, fun a z => R2.nos a (by rw [e2]; exact List.mem_append_left _ z), fun a ha z => R2.dj a ha (by rw [e2]; exact List.mem_append_left _ z), fun n o a h1 h2 => (R2.obj n o a h1 h2).keep k3 fun _ q => q⟩
  have k4 : Keep m2 ((⟨m2.ad, m1.no⟩ : Mp).add Dd) H2 H2 := kp _ (fun n a h => by
    show (m2.ad ++ [Dd])[n]? = some a
    rw [List.getElem?_append_left (List.getElem?_eq_some_iff.mp h).1]; exact h) fun a n => ⟨fun z => by
      rcases List.mem_append.mp z with z | z
      · exact n.1 z
      · exact n.2 (by rw [List.mem_singleton.mp z]; exact hno), fun z => n.2 (by rw [e2]; exact List.mem_append_left _ z)⟩
  refine q ⟨m2.ad, m1.no⟩ H2 g3 R3 Dd vs2 hD0 hH2 ⟨had, n1⟩ (Reps.keep k3 acc vs2 hacc) ?_
  refine ⟨by show (m2.ad ++ [Dd]).length = _; rw [List.length_append, List.length_append, R2.len]; rfl, ?_, fun a z => R3.nos a z, fun a ha z => ?_, fun n ob b h1 h2 => ?_⟩
  · show (m2.ad ++ [Dd]).Nodup
    rw [List.nodup_append]
    refine ⟨R2.nd, by simp, fun x hx y hy => ?_⟩
    rw [List.mem_singleton.mp hy]
    rintro rfl
    exact had hx
  · rcases List.mem_append.mp (show a ∈ m2.ad ++ [Dd] from ha) with z' | z'
    · exact R3.dj a z' z
    · exact n1 (by rw [← List.mem_singleton.mp z']; exact z)
  · have h2 : (m2.ad ++ [Dd])[n]? = some b := h2
    by_cases h : n < mu2.length
    · rw [List.getElem?_append_left h] at h1
      rw [List.getElem?_append_left (by rw [R2.len]; exact h)] at h2
      exact (R2.obj n ob b h1 h2).keep k4 fun _ q => q
    · by_cases hl : n = mu2.length
      · subst hl
        rw [List.getElem?_append_right (Nat.le_refl _), Nat.sub_self] at h1
        rw [List.getElem?_append_right (by rw [R2.len]; exact Nat.le_refl _), ← R2.len, Nat.sub_self] at h2
        cases h1
        cases h2
        exact ⟨vs2, hH2, Reps.keep k4 acc vs2 hacc⟩
      · rw [List.getElem?_eq_none (by rw [List.length_append]; simp only [List.length_cons, List.length_nil]; omega)] at h1
        cases h1
theorem chk_of {K : PySem.W.Frag} {W : Wx} {m : Mp} {H : Hp} {mu : List MO} {α : Type} {g : List (Nat × List D)} {f : Unit → M α} {Q : α → Mp → List MO → Hp → Prop} (h : Post K W m H ((chk g >>= f) mu) Q) : (∀ q ∈ g, mu[q.1]? = some (.lst q.2)) ∧ Post K W m H (f () mu) Q := by
  have h : Post K W m H (M.bind (chk g) f mu) Q := h
  unfold M.bind chk at h
  by_cases z : ∀ q ∈ g, mu[q.1]? = some (.lst q.2)
  · rw [if_pos z] at h; exact ⟨z, h⟩
  · rw [if_neg z] at h; exact (show False from h).elim
theorem need_of {K : PySem.W.Frag} {W : Wx} {m : Mp} {H : Hp} {mu : List MO} {α : Type} {p : Prop} [Decidable p] {f : Unit → M α} {Q : α → Mp → List MO → Hp → Prop} (h : Post K W m H ((need p >>= f) mu) Q) : p ∧ Post K W m H (f () mu) Q := by
  have h : Post K W m H (M.bind (need p) f mu) Q := h
  unfold M.bind need at h
  by_cases z : p
  · rw [if_pos z] at h; exact ⟨z, h⟩
  · rw [if_neg z] at h; exact (show False from h).elim
section
variable {X : Cx} {W : Wx}
theorem Keep.trans {m m1 m2 : Mp} {H H1 H2 : Hp} (a : Keep m m1 H H1) (b : Keep m1 m2 H1 H2) : Keep m m2 H H2 :=
  ⟨fun n x h => b.get n x (a.get n x h), fun x o h n => b.fl x o (a.fl x o h n).1 (a.fl x o h n).2, fun x xs h => b.tups x xs (a.tups x xs h), fun x o u h => b.frzs x o u (a.frzs x o u h)⟩
theorem Keep.refl {m : Mp} {H : Hp} : Keep m m H H := ⟨fun _ _ h => h, fun _ _ h n => ⟨h, n⟩, fun _ _ h => h, fun _ _ _ h => h⟩
theorem Post.bind0 {K : PySem.W.Frag} {W : Wx} {m : Mp} {H : Hp} {mu : List MO} {α β : Type} {c : M α} {f : α → M β} {Q : β → Mp → List MO → Hp → Prop} (h : Post K W m H ((c >>= f) mu) Q) : Post K W m H (c mu) fun a _ mu' _ => Post K W m H (f a mu') Q := by
  have h : Post K W m H (M.bind c f mu) Q := h
  unfold M.bind at h
  cases e : c mu with
  | ok a mu' => rw [e] at h; exact fun _ _ _ _ => h
  | exc x mu' => rw [e] at h; exact h
  | bad => rw [e] at h; exact h
/-- the inner loop -/
theorem inner_go {vs1 l1 : List Nat} {asg1 : D → Env → M Env} {t1 : Env → M Bool} {r : Env → M D} {σ2 : L2.St} {env1 : Env} {m0 m1 : Mp} {H0 H1 : Hp} {Dd : Addr} {p : Wk} {J1 : It} {Nx : Hp → Prop} {P : List D → Mp → List MO → Hp → Prop} {acc0 : List D} (hl1 : ∀ i ∈ l1, i ∈ vs1) (h0 : H0 Dd = none)
    (hz : acc0.length + p.1.length ≤ sizeLine) (ok : ItOk X.K p.2 p.1 J1 m1 H1) (hE1 : RepE X.K m1 H1 (wipeE env1 vs1) (L2.wipe σ2 vs1)) {mu1 : List MO} (c1 : CS X.K m0 H0 Dd acc0 m1 mu1 H1)
    (hp : Post X.K W0 m0 H0 (loopC asg1 t1 r p.2 p.1 (wipeE env1 vs1) mu1) fun xs m' mu' H' => P xs m' mu' H')
    (fin : ∀ xs m mu H, CS X.K m0 H0 Dd (acc0 ++ xs) m mu H → (∀ m' H', Grow m0 m' H0 H' → Rel X.K m' mu H' → P xs m' mu H') → Keep m1 m H1 H → Nx H) :
    ∃ W1 : Nat → Nat → Hp → Prop, (∃ k, W1 0 k H1) ∧ ∀ j k H, W1 j k H → (J1.stop j H ∧ Nx H) ∨ (J1.go j H ∧ ∃ Nx1 : Hp → Prop, (∀ H', Nx1 H' → ∃ k', k' < k ∧ W1 (j + 1) k' H') ∧ ∀ x H', J1.yld j H x H' → tG X.K W0 l1 asg1 x (L2.wipe σ2 vs1) H' fun σ3 H5 => L2.wipe σ3 vs1 = L2.wipe σ2 vs1 ∧ tT X.K W0 t1 σ3 H5 fun b H6 =>
        if b = true then tE X.K W0 r σ3 H6 fun y H7 => ∃ acc, H7 Dd = some (.lst acc) ∧ acc.length < sizeLine ∧ Nx1 (upd H7 Dd (.lst (acc ++ [y]))) else Nx1 H6) := by
  refine ⟨fun j k H => ∃ rest pre m mu, k = rest.length ∧ p.1.drop j = rest ∧ pre.length ≤ j ∧ CS X.K m0 H0 Dd (acc0 ++ pre) m mu H ∧ Keep m1 m H1 H ∧ Post X.K W0 m0 H0 (loopC asg1 t1 r p.2 rest (wipeE env1 vs1) mu) (fun xs m' mu' H' => P (pre ++ xs) m' mu' H'), ⟨_, p.1, [], m1, mu1, rfl, rfl, Nat.le_refl _, by rw [List.append_nil]; exact c1, .refl, hp⟩, ?_⟩
  rintro j k H ⟨rest, pre, m, mu, rfl, hd, hl, c, kp, hp⟩
  have hE := hE1.keep kp
  cases rest with
  | nil =>
    have e0 : loopC asg1 t1 r p.2 [] (wipeE env1 vs1) mu = (chk p.2 >>= fun _ => (pure [] : M (List D))) mu := rfl
    rw [e0] at hp
    obtain ⟨hch, hp⟩ := chk_of hp
    refine .inl ⟨(ok m mu H kp c.rel hch).1 j (by rw [List.drop_eq_nil_iff] at hd; exact hd), fin pre m mu H c (fun m' H' g R => ?_) kp⟩
    have this : P (pre ++ []) m' mu H' := hp m' H' g R
    rw [List.append_nil] at this
    exact this
  | cons d ds =>
    have e0 : loopC asg1 t1 r p.2 (d :: ds) (wipeE env1 vs1) mu = (chk p.2 >>= fun _ => asg1 d (wipeE env1 vs1) >>= fun env3 => t1 env3 >>= fun b => if b = true then (r env3 >>= fun x => loopC asg1 t1 r p.2 ds (wipeE env1 vs1) >>= fun xs => pure (x :: xs)) else loopC asg1 t1 r p.2 ds (wipeE env1 vs1)) mu := rfl
    rw [e0] at hp
    obtain ⟨hch, hp⟩ := chk_of hp
    have hdi : p.1[j]? = some d := by
      have e : (p.1.drop j)[0]? = some d := by rw [hd]; rfl
      rw [List.getElem?_drop] at e
      simpa using e
    have hds : p.1.drop (j + 1) = ds := by
      have e := congrArg List.tail hd
      rw [List.tail_drop] at e
      exact e
    have hil : j < p.1.length := (List.getElem?_eq_some_iff.mp hdi).1
    obtain ⟨go, yl⟩ := (ok m mu H kp c.rel hch).2 j d hdi
    refine .inr ⟨go, fun H3 => ∃ m', m' < (d :: ds).length ∧ ∃ rest pre m mu, m' = rest.length ∧ p.1.drop (j + 1) = rest ∧ pre.length ≤ j + 1 ∧ CS X.K m0 H0 Dd (acc0 ++ pre) m mu H3 ∧ Keep m1 m H1 H3 ∧ Post X.K W0 m0 H0 (loopC asg1 t1 r p.2 rest (wipeE env1 vs1) mu) (fun xs m' mu' H' => P (pre ++ xs) m' mu' H'), fun H3 h => h, fun x H3 y => ?_⟩
    obtain ⟨gy, Ry, rx⟩ := yl x H3 y
    have hp : Post X.K W0 m0 H0 (M.bind (asg1 d (wipeE env1 vs1)) (fun env3 => M.bind (t1 env3) fun b => if b = true then (r env3 >>= fun x => loopC asg1 t1 r p.2 ds (wipeE env1 vs1) >>= fun xs => pure (x :: xs)) else loopC asg1 t1 r p.2 ds (wipeE env1 vs1)) mu) (fun xs m' mu' H' => P (pre ++ xs) m' mu' H') := hp
    refine ⟨d, wipeE env1 vs1, m, mu, hE.grow gy, Ry, rx, ?_⟩
    unfold M.bind at hp
    cases ha1 : asg1 d (wipeE env1 vs1) mu with
    | bad => rw [ha1] at hp; exact (show False from hp).elim
    | exc ex mu4 => rw [ha1] at hp; exact fun m4 H4 g4 R4 => hp m4 H4 ((c.gr.trans gy).trans g4) R4
    | ok env3 mu4 =>
      rw [ha1] at hp
      dsimp only at hp
      intro m4 H4 g4 R4 σ3 hE4 off
      refine ⟨wipe_off off hl1, env3, m4, mu4, hE4, R4, ?_⟩
      cases ht1 : t1 env3 mu4 with
      | bad => rw [ht1] at hp; exact (show False from hp).elim
      | exc ex mu5 => rw [ht1] at hp; exact fun m5 H5 g5 R5 => hp m5 H5 (((c.gr.trans gy).trans g4).trans g5) R5
      | ok b mu5 =>
        rw [ht1] at hp
        dsimp only at hp
        intro m5 H5 g5 R5
        have g25 : Grow m m5 H H5 := (gy.trans g4).trans g5
        have c5 := c.grow g25 R5
        cases b with
        | false =>
          simp only [Bool.false_eq_true, if_false] at hp ⊢
          exact ⟨ds.length, Nat.lt_succ_self _, ds, pre, m5, mu5, rfl, hds, Nat.le_succ_of_le hl, c5, kp.trans g25.keep, hp⟩
        | true =>
          simp only [if_true] at hp ⊢
          refine ⟨env3, m5, mu5, hE4.grow g5, R5, ?_⟩
          have hp : Post X.K W0 m0 H0 (M.bind (r env3) (fun x => loopC asg1 t1 r p.2 ds (wipeE env1 vs1) >>= fun xs => pure (x :: xs)) mu5) (fun xs m' mu' H' => P (pre ++ xs) m' mu' H') := hp
          unfold M.bind at hp
          cases hr1 : r env3 mu5 with
          | bad => rw [hr1] at hp; exact (show False from hp).elim
          | exc ex mu6 => rw [hr1] at hp; exact fun m6 H6 g6 R6 => hp m6 H6 (c5.gr.trans g6) R6
          | ok yd mu6 =>
            rw [hr1] at hp
            dsimp only at hp
            intro m6 H6 g6 R6 v rv
            obtain ⟨vs2, h1, h2, k6, c6⟩ := (c5.grow g6 R6).add h0 rv
            refine ⟨vs2, h1, by rw [h2, List.length_append]; omega, ds.length, Nat.lt_succ_self _, ds, pre ++ [yd], m6, mu6, rfl, hds, by rw [List.length_append]; simp only [List.length_cons, List.length_nil]; omega, by rw [← List.append_assoc]; exact c6, (kp.trans (g25.trans g6).keep).trans k6, ?_⟩
            refine (Post.bind hp).mono fun xs m' mu' H' _ R' q => ?_
            have q2 := Post.pure q R'
            rw [show pre ++ [yd] ++ xs = pre ++ yd :: xs by simp]
            exact q2
/-- the list of a comprehension with two clauses, for its reading -/
theorem comp2_go {wi wi1 : TI} {vs vs1 l l1 : List Nat} {w w1 : Env → M Wk} {asg asg1 : D → Env → M Env} {t t1 : Env → M Bool} {r : Env → M D} (hl : ∀ i ∈ l, i ∈ vs) (hl1 : ∀ i ∈ l1, i ∈ vs1) (hwi : wi = tI X.K W w) (hwi1 : wi1 = tI X.K W0 w1) :
    ∀ σ H Q, tF X.K W (fComp2 w asg t w1 asg1 t1 r vs vs1) σ H Q → tLc2 wi (tG X.K W0 l asg) (tT X.K W0 t) wi1 (tG X.K W0 l1 asg1) (tT X.K W0 t1) (tE X.K W0 r) vs vs1 σ H Q := by
  subst hwi hwi1
  rintro σ H Q ⟨env, m, mu, hE, hR, hp⟩
  refine ⟨env, m, mu, hE, hR, (Post.bind hp).mono fun p m1 mu1 H1 g1 R1 hp0 hz J ok => ?_⟩
  have hp0 := noX_post hp0
  intro Dd hDn
  have hD0 : H Dd = none := g1.none_of hDn
  obtain ⟨c0, k0⟩ := CS.start R1 hDn
  refine ⟨fun i k H2 => ∃ rest acc m2 mu2, k = rest.length ∧ p.1.drop i = rest ∧ CS X.K m1 H1 Dd acc m2 mu2 H2 ∧ RepE X.K m2 H2 (wipeE env vs) (L2.wipe σ vs) ∧ Post X.K W0 m1 H1 (loopC2 asg t w1 asg1 t1 r vs1 p.2 rest acc (wipeE env vs) mu2) fun xs m' mu' H' => NewL X.K H xs m' mu' H' Q, ⟨_, p.1, [], m1.shut Dd, mu1, rfl, rfl, c0, ((hE.grow g1).wipe vs).keep k0, hp0⟩, ?_⟩
  rintro i k H2 ⟨rest, acc, m2, mu2, rfl, hd, c, hE2, hp2⟩
  cases rest with
  | nil =>
    have e0 : loopC2 asg t w1 asg1 t1 r vs1 p.2 [] acc (wipeE env vs) mu2 = (chk p.2 >>= fun _ => (pure acc : M (List D))) mu2 := rfl
    rw [e0] at hp2
    obtain ⟨hch, hp2⟩ := chk_of hp2
    exact .inl ⟨(ok m2 mu2 H2 c.gr.keep c.rel hch).1 i (by rw [List.drop_eq_nil_iff] at hd; exact hd), c.take R1 hDn hD0 fun m' H' g R => hp2 m' H' g R⟩
  | cons d ds =>
    have e0 : loopC2 asg t w1 asg1 t1 r vs1 p.2 (d :: ds) acc (wipeE env vs) mu2 = (chk p.2 >>= fun _ => asg d (wipeE env vs) >>= fun env1 => t env1 >>= fun b => if b = true then (w1 env1 >>= fun p' => need (acc.length + p'.1.length ≤ sizeLine) >>= fun _ => loopC asg1 t1 r p'.2 p'.1 (wipeE env1 vs1) >>= fun xs => loopC2 asg t w1 asg1 t1 r vs1 p.2 ds (acc ++ xs) (wipeE env vs)) else loopC2 asg t w1 asg1 t1 r vs1 p.2 ds acc (wipeE env vs)) mu2 := rfl
    rw [e0] at hp2
    obtain ⟨hch, hp2⟩ := chk_of hp2
    have hdi : p.1[i]? = some d := by
      have e : (p.1.drop i)[0]? = some d := by rw [hd]; rfl
      rw [List.getElem?_drop] at e
      simpa using e
    have hds : p.1.drop (i + 1) = ds := by
      have e := congrArg List.tail hd
      rw [List.tail_drop] at e
      exact e
    obtain ⟨go, yl⟩ := (ok m2 mu2 H2 c.gr.keep c.rel hch).2 i d hdi
    refine .inr ⟨go, fun H3 => ∃ m', m' < (d :: ds).length ∧ ∃ rest acc m2 mu2, m' = rest.length ∧ p.1.drop (i + 1) = rest ∧ CS X.K m1 H1 Dd acc m2 mu2 H3 ∧ RepE X.K m2 H3 (wipeE env vs) (L2.wipe σ vs) ∧ Post X.K W0 m1 H1 (loopC2 asg t w1 asg1 t1 r vs1 p.2 rest acc (wipeE env vs) mu2) fun xs m' mu' H' => NewL X.K H xs m' mu' H' Q, fun H3 h => h, fun x H3 y => ?_⟩
    obtain ⟨gy, Ry, rx⟩ := yl x H3 y
    have hp2 : Post X.K W0 m1 H1 (M.bind (asg d (wipeE env vs)) (fun env1 => M.bind (t env1) fun b => if b = true then (w1 env1 >>= fun p' => need (acc.length + p'.1.length ≤ sizeLine) >>= fun _ => loopC asg1 t1 r p'.2 p'.1 (wipeE env1 vs1) >>= fun xs => loopC2 asg t w1 asg1 t1 r vs1 p.2 ds (acc ++ xs) (wipeE env vs)) else loopC2 asg t w1 asg1 t1 r vs1 p.2 ds acc (wipeE env vs)) mu2) (fun xs m' mu' H' => NewL X.K H xs m' mu' H' Q) := hp2
    refine ⟨d, wipeE env vs, m2, mu2, hE2.grow gy, Ry, rx, ?_⟩
    unfold M.bind at hp2
    cases ha1 : asg d (wipeE env vs) mu2 with
    | bad => rw [ha1] at hp2; exact (show False from hp2).elim
    | exc ex mu4 => rw [ha1] at hp2; exact fun m4 H4 g4 R4 => hp2 m4 H4 ((c.gr.trans gy).trans g4) R4
    | ok env1 mu4 =>
      rw [ha1] at hp2
      dsimp only at hp2
      intro m4 H4 g4 R4 σ2 hE4 off
      refine ⟨wipe_off off hl, env1, m4, mu4, hE4, R4, ?_⟩
      cases ht1 : t env1 mu4 with
      | bad => rw [ht1] at hp2; exact (show False from hp2).elim
      | exc ex mu5 => rw [ht1] at hp2; exact fun m5 H5 g5 R5 => hp2 m5 H5 (((c.gr.trans gy).trans g4).trans g5) R5
      | ok b mu5 =>
        rw [ht1] at hp2
        dsimp only at hp2
        intro m5 H5 g5 R5
        have g25 : Grow m2 m5 H2 H5 := (gy.trans g4).trans g5
        have c5 := c.grow g25 R5
        cases b with
        | false =>
          simp only [Bool.false_eq_true, if_false] at hp2 ⊢
          exact ⟨ds.length, Nat.lt_succ_self _, ds, acc, m5, mu5, rfl, hds, c5, hE2.grow g25, hp2⟩
        | true =>
          simp only [if_true] at hp2 ⊢
          refine ⟨env1, m5, mu5, hE4.grow g5, R5, ?_⟩
          have hp2 : Post X.K W0 m1 H1 (M.bind (w1 env1) (fun p' => need (acc.length + p'.1.length ≤ sizeLine) >>= fun _ => loopC asg1 t1 r p'.2 p'.1 (wipeE env1 vs1) >>= fun xs => loopC2 asg t w1 asg1 t1 r vs1 p.2 ds (acc ++ xs) (wipeE env vs)) mu5) (fun xs m' mu' H' => NewL X.K H xs m' mu' H' Q) := hp2
          unfold M.bind at hp2
          cases hw1 : w1 env1 mu5 with
          | bad => rw [hw1] at hp2; exact (show False from hp2).elim
          | exc ex mu6 => rw [hw1] at hp2; exact fun m6 H6 g6 R6 => hp2 m6 H6 (c5.gr.trans g6) R6
          | ok p' mu6 =>
            rw [hw1] at hp2
            dsimp only at hp2
            intro m6 H6 g6 R6 hz6 J1 ok1
            obtain ⟨hz1, hp2⟩ := need_of hp2
            have c6 := c5.grow g6 R6
            refine inner_go hl1 hDn hz1 ok1 (((hE4.grow g5).grow g6).wipe vs1) c6 (Post.bind0 hp2) fun xs m7 mu7 H7 c7 q7 k7 => ?_
            exact ⟨ds.length, Nat.lt_succ_self _, ds, acc ++ xs, m7, mu7, rfl, hds, c7, (hE2.grow (g25.trans g6)).keep k7, q7 m7 H7 c7.gr c7.rel⟩
theorem mf_comp2 {elt tg iter tg1 iter1 : Expr} {ifs ifs1 : List Expr} {pos : Pos} {scope : Scope} {own : List (Str × Nat)} {w w1 : Env → M Wk} {asg asg1 : D → Env → M Env} {t t1 : Env → M Bool} {r : Env → M D} {l l1 vs1 : List Nat} (hc : X.calm = true) (hN : X.N.Nodup) (hi : MI X W tg iter w) (ok : BlkOk X.N X.env.scope scope own) (hv : ∀ i ∈ vs1, i ∈ own.map (·.2)) (hl : ∀ i ∈ l, i ∈ own.map (·.2)) (hl1 : ∀ i ∈ l1, i ∈ vs1)
    (hg : ∀ (s : Shared) (H : Hp) (C : Addr) (cl : List (Str × Addr)) (fp : List Addr), MG (X.blk s H scope (compEnvC scope cl C X.env) fp) W0 tg l asg) (ht : ∀ (s : Shared) (H : Hp) (C : Addr) (cl : List (Str × Addr)) (fp : List Addr), MTs (X.blk s H scope (compEnvC scope cl C X.env) fp) W0 ifs t)
    (hi1 : ∀ (s : Shared) (H : Hp) (C : Addr) (cl : List (Str × Addr)) (fp : List Addr), MI (X.blk s H scope (compEnvC scope cl C X.env) fp) W0 tg1 iter1 w1)
    (hg1 : ∀ (s : Shared) (H : Hp) (C : Addr) (cl : List (Str × Addr)) (fp : List Addr), MG (X.blk s H scope (compEnvC scope cl C X.env) fp) W0 tg1 l1 asg1) (ht1 : ∀ (s : Shared) (H : Hp) (C : Addr) (cl : List (Str × Addr)) (fp : List Addr), MTs (X.blk s H scope (compEnvC scope cl C X.env) fp) W0 ifs1 t1)
    (he : ∀ (s : Shared) (H : Hp) (C : Addr) (cl : List (Str × Addr)) (fp : List Addr), ME (X.blk s H scope (compEnvC scope cl C X.env) fp) W0 elt r) (hs : ∀ x, foldedSetIterable iter X.env x = pure x := by intro _; rfl) (hs1 : ∀ env x, foldedSetIterable iter1 env x = pure x := by intro _ _; rfl) :
    MF X W (.ListComp elt [⟨tg, iter, ifs, 0⟩, ⟨tg1, iter1, ifs1, 0⟩] scope pos) (fComp2 w asg t w1 asg1 t1 r (own.map (·.2)) vs1) :=
  ⟨(pe_lc2 hc hN hi.pi ok hv (fun s H C cl fp => (hg s H C cl fp).pg) (fun s H C cl fp => (ht s H C cl fp).pt) (fun s H C cl fp => (hi1 s H C cl fp).pi) (fun s H C cl fp => (hg1 s H C cl fp).pg) (fun s H C cl fp => (ht1 s H C cl fp).pt) (fun s H C cl fp => (he s H C cl fp).pe) hs hs1).imp (comp2_go hl hl1 rfl rfl)⟩
end
end MP
namespace MP
open PySem L2 PyProof.Rows
/-! ### sorted of tuples of ints -/
def lexI : List Int → List Int → Bool
  | [], [] => false
  | [], _ :: _ => true
  | _ :: _, [] => false
  | x :: xs, y :: ys => if x = y then lexI xs ys else decide (x < y)
theorem lexI_asym : ∀ (x y : List Int), lexI x y = true → lexI y x = false
  | [], [], h => by cases h
  | [], _ :: _, h => rfl
  | _ :: _, [], h => by cases h
  | x :: xs, y :: ys, h => by
    unfold lexI at h ⊢
    by_cases e : x = y
    · rw [if_pos e] at h; rw [if_pos e.symm]; exact lexI_asym xs ys h
    · rw [if_neg e] at h; rw [if_neg (Ne.symm e)]
      simp only [decide_eq_true_eq, decide_eq_false_iff_not] at h ⊢; omega
theorem lexI_conn : ∀ (x y : List Int), lexI x y = false → lexI y x = false → x = y
  | [], [], _, _ => rfl
  | [], _ :: _, h, _ => by cases h
  | _ :: _, [], _, h => by cases h
  | x :: xs, y :: ys, h, h' => by
    unfold lexI at h h'
    by_cases e : x = y
    · rw [if_pos e] at h; rw [if_pos e.symm] at h'; rw [e, lexI_conn xs ys h h']
    · rw [if_neg e] at h; rw [if_neg (Ne.symm e)] at h'
      simp only [decide_eq_false_iff_not] at h h'; omega
theorem lexI_tr : ∀ (x y z : List Int), lexI y x = false → lexI z y = false → lexI z x = false
  | [], _, [], _, _ => rfl
  | [], _, _ :: _, _, _ => rfl
  | _ :: _, [], _, h, _ => by cases h
  | _ :: _, _ :: _, [], _, h => by cases h
  | x :: xs, y :: ys, z :: zs, h, h' => by
    unfold lexI at h h' ⊢
    by_cases e : y = x
    · rw [if_pos e] at h
      by_cases e' : z = y
      · rw [if_pos e'] at h'; rw [if_pos (e'.trans e)]; exact lexI_tr xs ys zs h h'
      · rw [if_neg e'] at h'; rw [if_neg (by rw [← e]; exact e'), ← e]; exact h'
    · rw [if_neg e] at h
      simp only [decide_eq_false_iff_not] at h
      by_cases e' : z = y
      · rw [e', if_neg e]; simp only [decide_eq_false_iff_not]; exact h
      · rw [if_neg e'] at h'
        simp only [decide_eq_false_iff_not] at h'
        rw [if_neg (by omega)]; simp only [decide_eq_false_iff_not]; omega
section
variable {prog : Program} {w : World} {A : Around} {E : Value → Shared → Prop} {s : Shared}
theorem lexI_kat {b fin : Bool} {Q : Bool → Shared → Prop} : ∀ {xs ys : List Value} {ns ms : List Int} (i : Nat), IntsAre xs ns → IntsAre ys ms → fin = decide (ns.length < ms.length) → Q (lexI ns ms) s → PySem.W.KatLex prog w A b fin Q (xs.zip ys) i s := by
  intro xs ys ns ms i hx
  induction hx generalizing ys ms i with
  | nil =>
    intro hy hf h
    cases hy with
    | nil => rw [show fin = false by rw [hf]; rfl]; exact PySem.W.kat_nil h
    | cons q u hy => rw [show fin = true by rw [hf]; simp]; exact PySem.W.kat_nil h
  | @cons p t xs ns hx ih =>
    intro hy hf h
    cases hy with
    | nil => rw [show fin = false by rw [hf]; simp]; exact PySem.W.kat_nil h
    | @cons q u ys ms hy =>
      show PySem.W.KatLex prog w A b fin Q ((Value.int p t, Value.int q u) :: xs.zip ys) i s
      refine PySem.W.kat_cons (wpAny_eqBool_int ?_)
      unfold lexI at h
      by_cases e : p = q
      · subst e
        rw [beq_self_eq_true]
        rw [if_pos rfl] at h
        exact PySem.W.kat_yes (ih (i + 1) hy (by rw [hf]; simp) h)
      · rw [show (p == q) = false from beq_eq_false_iff_ne.mpr e]
        rw [if_neg e] at h
        exact PySem.W.kat_no (TS.oneLt_ints _ h)
theorem tups_cmp {vs : List Value} {k : Value → List Int} (hp : ∀ v ∈ vs, TS.TupInts s.heap v (k v)) : SrtO.Cmp prog w A s (tuples' true) (fun p => p.1 ∈ vs) (SrtO.lt2 fun v u => lexI (k v) (k u)) := by
  intro p q hm hm'
  have h1 := hp _ hm
  have h2 := hp _ hm'
  show wpAny (model prog w) A (keyLt' (tuples' true) p.1 q.1) (fun r s' => s' = s ∧ r = lexI (k p.1) (k q.1)) (fun _ _ => False) s
  generalize k p.1 = x at h1 ⊢
  generalize k q.1 = y at h2 ⊢
  obtain ⟨a, xs, e, ⟨o, ho, hc, n, hd⟩, i1⟩ := h1
  obtain ⟨a', ys, e', ⟨o', ho', hc', n', hd'⟩, i2⟩ := h2
  rw [e, e']
  have l1 := i1.length
  have l2 := i2.length
  rw [Array.length_toList] at l1 l2
  exact PySem.W.kat_lt ho hd ho' hd' (lexI_kat 0 i1 i2 (by rw [l1, l2]) ⟨rfl, rfl⟩)
theorem swo_lexI {α : Type} (k : α → List Int) : SrtO.Swo fun v u => lexI (k v) (k u) := ⟨fun x y h => lexI_asym _ _ h, fun x y z h1 h2 => lexI_tr _ _ _ h1 h2⟩
theorem tup_firsts {h : Heap} {k : Value → List Int} : ∀ {vs : List Value}, (∀ v ∈ vs, TS.TupInts h v (k v) ∧ k v ≠ []) → ∃ fs : List Value, PySem.W.KatTups h vs fs ∧ fs.length = vs.length ∧ ∀ f ∈ fs, ∃ x t, f = Value.int x t
  | [], _ => ⟨[], PySem.W.KatTups.nil, rfl, fun _ hm => by simp at hm⟩
  | v :: vs, hp => by
    obtain ⟨fs, h1, h2, h3⟩ := tup_firsts (vs := vs) fun v' hm => hp v' (List.mem_cons_of_mem _ hm)
    obtain ⟨⟨a, xs, e, ⟨o, ho, hc, n, hd⟩, i⟩, hne⟩ := hp v List.mem_cons_self
    obtain ⟨y, ys, ey⟩ : ∃ y ys, xs.toList = y :: ys := by
      cases q : xs.toList with
      | nil =>
        rw [q] at i
        have l := i.length
        rw [List.length_nil] at l
        exact absurd (List.length_eq_zero_iff.mp l.symm) hne
      | cons y ys => exact ⟨y, ys, rfl⟩
    obtain ⟨m, t, hy⟩ := i.all y (by rw [ey]; exact List.mem_cons_self ..)
    subst e
    refine ⟨y :: fs, PySem.W.KatTups.cons ho hc hd ?_ h1, by simp [h2], ?_⟩
    · have z := congrArg (fun l : List Value => l[0]?) ey
      simpa using z
    · intro f hf
      rcases List.mem_cons.mp hf with rfl | hf
      · exact ⟨m, t, hy⟩
      · exact h3 f hf
theorem tups_sortable {a : Addr} {vs : List Value} {k : Value → List Int} (h0 : 0 < vs.length) (hp : ∀ v ∈ vs, TS.TupInts s.heap v (k v) ∧ k v ≠ []) (ha : ∀ o, s.heap.get? a = some o → o.cls ≠ .type "tuple") : SrtO.SortableO prog w A s a vs fun v u => lexI (k v) (k u) := by
  intro h' keep
  have hp' : ∀ v ∈ vs, TS.TupInts h' v (k v) ∧ k v ≠ [] := fun v hm => ⟨(hp v hm).1.keeps fun b o e c => keep b o (fun z => by subst z; exact ha o e c) e, (hp v hm).2⟩
  obtain ⟨fs, h1, h2, h3⟩ := tup_firsts hp'
  refine ⟨tuples' true, fun Q E hq => ?_, tups_cmp fun v hm => (hp' v hm).1⟩
  refine PySem.W.kat_kind (T := .type "int") h1 (by omega) (fun f hm => ?_) (by rfl) ?_
  · obtain ⟨x, t, rfl⟩ := h3 f hm
    exact PySem.W.Looks.now
  · have e : (Value.type "int" != Value.type "tuple") = true := by first | decide +kernel | rfl | decide
    rw [e]
    exact hq
end
/-- x before y, by the ints of their tuples -/
abbrev ltT (k : V → List Int) (x y : V) : Bool := lexI (k x) (k y)
def rSortedT (K : PySem.W.Frag) : List V → Hp → VK → Prop := fun vs H Q => ∃ (a : Addr) (xs : List V) (k : V → List Int), vs = [V.ref a] ∧ SqL K H a xs ∧ (∀ x ∈ xs, ∃ t, x = V.ref t ∧ SqT K H t ((k x).map V.int) ∧ k x ≠ []) ∧
  ∀ ys p, SrtO.Srtd (ltT k) ys → ys.Perm xs → H p = none → Q (.ref p) (upd H p (.lst ys))
section
variable {X : Cx}
theorem cr_sortedT : CallR X (.builtin "sorted") (rSortedT X.K) := by
  intro pins s σ H vs us Q I r h
  obtain ⟨a, xs, k, rfl, hs, hx, q⟩ := h
  obtain ⟨its, rv, hl, hz⟩ := I.list hs
  obtain ⟨u, rfl, ru⟩ := vals1 r
  obtain rfl : u = Value.ref a := ru
  obtain ⟨e1, e2⟩ := refs_back rv fun x m => by
    obtain ⟨t, e, _⟩ := hx x m
    exact ⟨t, e⟩
  have hp : ∀ v ∈ its, TS.TupInts s.heap v (k (backV v)) ∧ k (backV v) ≠ [] := fun v hv => by
    obtain ⟨t, rfl⟩ := e2 v hv
    have hm : V.ref t ∈ xs := by rw [e1]; exact List.mem_map.mpr ⟨_, hv, rfl⟩
    obtain ⟨t', e, ht, hne⟩ := hx _ hm
    cases e
    obtain ⟨its2, r2, ht2, _⟩ := I.tuple ht
    exact ⟨⟨t, its2.toArray, rfl, ht2, by rw [List.toList_toArray]; exact r2.ints⟩, hne⟩
  refine SrtO.sorted_ord (swo_lexI fun u => k (backV u)) hl.isList (by rw [← rv.length]; exact hz) (fun h2 h₁ a ha kk => ?_) fun out h1 h2 => ?_
  · refine tups_sortable (s := { s with heap := h₁ }) (by omega) (fun v hm => ⟨(hp v hm).1.keeps fun b o e _ => (kk b o e).2, (hp v hm).2⟩) fun o e => ?_
    have e' : some o = some (seqObj "list" its.toArray 0) := e.symm.trans ha
    cases e'
    intro c
    exact absurd (Value.type.inj c) (by decide)
  · have h3 : ∀ u ∈ out, ∃ a, u = Value.ref a := fun u hu => e2 u (h2.perm.mem_iff.mp hu)
    obtain ⟨n, hn⟩ := PyProof.Rows.sortedAll_at s.heap its out.toArray
    have hpm : (out.map backV).Perm xs := by rw [e1]; exact h2.perm.map _
    refine ⟨.ref _, upd H _ (.lst (out.map backV)), I.laid (t' := s.toks) (fun b o e => PyProof.Rows.sortedAll_old e) (Nat.le_succ _) ⟨?_, out, n, vals_back h3, hn⟩, rfl, q _ _ (SrtO.srtd_map h1) hpm (I.hok.fresh (Nat.le_succ _))⟩
    rw [hpm.length_eq]
    exact hz
end
/-! ### the MP rule -/
def intsT : D → Option (List Int)
  | .tup ds => match intsOf ds with
    | some (n :: ns) => some (n :: ns)
    | _ => none
  | _ => none
def tupsOf : List D → Option (List (List Int))
  | [] => some []
  | d :: r => match intsT d, tupsOf r with
    | some x, some xs => some (x :: xs)
    | _, _ => none
abbrev tupI (x : List Int) : D := .tup (x.map D.int)
theorem intsT_eq {d : D} {x : List Int} (h : intsT d = some x) : d = tupI x ∧ x ≠ [] := by
  unfold intsT at h
  split at h
  · split at h
    · rename_i n ns e
      cases h
      exact ⟨by rw [intsOf_eq e], by simp⟩
    · cases h
  · cases h
theorem tupsOf_eq : ∀ {ds : List D} {xs : List (List Int)}, tupsOf ds = some xs → ds = xs.map tupI ∧ ∀ x ∈ xs, x ≠ []
  | [], xs, h => by cases h; exact ⟨rfl, by simp⟩
  | d :: r, xs, h => by
    unfold tupsOf at h
    split at h
    · rename_i x ys e1 e2
      cases h
      obtain ⟨rfl, n⟩ := intsT_eq e1
      obtain ⟨e3, hn⟩ := tupsOf_eq e2
      exact ⟨by rw [List.map_cons, ← e3], fun y hy => by
        rcases List.mem_cons.mp hy with z | z
        · rw [z]; exact n
        · exact hn y z⟩
    · cases h
theorem intsOf_map : ∀ (ns : List Int), intsOf (ns.map D.int) = some ns
  | [] => rfl
  | n :: ns => by rw [List.map_cons]; unfold intsOf; rw [intsOf_map ns]; rfl
theorem tupsOf_map : ∀ {xs : List (List Int)}, (∀ x ∈ xs, x ≠ []) → tupsOf (xs.map tupI) = some xs
  | [], _ => rfl
  | x :: xs, h => by
    rw [List.map_cons]
    unfold tupsOf
    have e : intsT (tupI x) = some x := by
      unfold intsT tupI
      simp only [intsOf_map]
      cases x with
      | nil => exact absurd rfl (h [] List.mem_cons_self)
      | cons n ns => rfl
    rw [e, tupsOf_map fun y hy => h y (List.mem_cons_of_mem _ hy)]
def srtX (xs : List (List Int)) : List (List Int) := xs.mergeSort fun a b => !lexI b a
theorem srtX_sorted (xs : List (List Int)) : (srtX xs).Pairwise fun a b => lexI b a = false := by
  have q := List.pairwise_mergeSort (le := fun a b => !lexI b a) (fun a b c h h' => by
    simp only [Bool.not_eq_true'] at h h' ⊢
    exact lexI_tr _ _ _ h h') (fun a b => by
    cases h : lexI b a
    · simp
    · rw [lexI_asym _ _ h]; simp) xs
  exact q.imp fun h => by simpa using h
theorem srtX_eq {xs ys : List (List Int)} (h : ys.Perm xs) (hs : ys.Pairwise fun a b => lexI b a = false) : ys = srtX xs :=
  List.Perm.eq_of_pairwise (le := fun a b => lexI b a = false) (fun a b _ _ h h' => lexI_conn _ _ h' h) hs (srtX_sorted xs) (h.trans (List.mergeSort_perm xs _).symm)
def srtT2 (xs : List D) : M (List D) := match tupsOf xs with
  | some ts => pure ((srtX ts).map tupI)
  | none => bad
section
variable {X : Cx} {W : Wx} {e : Expr} {pos p : Pos}
theorem Rep.tup_ints {K : PySem.W.Frag} {m : Mp} {H : Hp} {x : List Int} {v : V} : Rep K m H (tupI x) v ↔ ∃ t, v = .ref t ∧ SqT K H t (x.map V.int) := by
  simp only [Rep]
  constructor
  · rintro ⟨a, vs, e, h, hr⟩
    exact ⟨a, e, by rw [← Reps.of_ints.mp hr]; exact h⟩
  · rintro ⟨a, e, h⟩
    exact ⟨a, _, e, h, Reps.of_ints.mpr rfl⟩
open Classical in
/-- the ints of a tuple's value -/
noncomputable def kOf (K : PySem.W.Frag) (H : Hp) (v : V) : List Int := if h : ∃ x : List Int, ∃ t, v = .ref t ∧ SqT K H t (x.map V.int) then h.choose else []
/-- distinct tuples of ints are told apart -/
def TupInj (K : PySem.W.Frag) (H : Hp) : Prop := ∀ a xs ys, SqT K H a xs → SqT K H a ys → xs = ys
theorem pe_inj {t : TE} (h : PE X e t) : PE X e (fun σ H Q => t σ H fun v H' => TupInj X.K H' → Q v H') := ⟨fun pins s σ H Q I q =>
  thn (h.run pins s σ H _ I q) fun v s1 ⟨x, H1, I1, r, q1⟩ => ⟨x, H1, I1, r, q1 fun a xs ys h h' => I1.tuple_inj h h'⟩⟩
theorem kOf_eq {K : PySem.W.Frag} {H : Hp} (I : TupInj K H) {v : V} {x : List Int} {t : Addr} (e : v = .ref t) (h : SqT K H t (x.map V.int)) : kOf K H v = x := by
  have hx : ∃ x : List Int, ∃ t, v = .ref t ∧ SqT K H t (x.map V.int) := ⟨x, t, e, h⟩
  unfold kOf
  rw [dif_pos hx]
  obtain ⟨t', e', h'⟩ := hx.choose_spec
  generalize hx.choose = y at h'
  rw [e] at e'
  cases e'
  have q := I _ _ _ h' h
  clear h' hx
  induction y generalizing x with
  | nil => cases x with
    | nil => rfl
    | cons b x => cases q
  | cons a y ih => cases x with
    | nil => cases q
    | cons b x =>
      rw [List.map_cons, List.map_cons] at q
      injection q with q1 q2
      injection q1 with q1
      rw [q1]
      congr 1
      clear ih h e
      induction y generalizing x with
      | nil => cases x with
        | nil => rfl
        | cons b x => cases q2
      | cons a y ih => cases x with
        | nil => cases q2
        | cons b x =>
          rw [List.map_cons, List.map_cons] at q2
          injection q2 with q1 q2
          injection q1 with q1
          rw [q1, ih _ q2]
theorem keys_of {K : PySem.W.Frag} {m : Mp} {H : Hp} (I : TupInj K H) : ∀ {ts : List (List Int)} {vs : List V}, Reps K m H (ts.map tupI) vs → vs.map (kOf K H) = ts ∧ ∀ v ∈ vs, ∃ t, v = .ref t ∧ SqT K H t ((kOf K H v).map V.int) ∧ kOf K H v ∈ ts
  | [], vs, h => by rw [List.map_nil, Reps.nil_iff] at h; subst h; exact ⟨rfl, by simp⟩
  | x :: ts, vs, h => by
    rw [List.map_cons] at h
    obtain ⟨v, r, rfl, h1, h2⟩ := Reps.cons_iff.mp h
    obtain ⟨e, f⟩ := keys_of I h2
    obtain ⟨t, e1, ht⟩ := Rep.tup_ints.mp h1
    have k := kOf_eq I e1 ht
    refine ⟨by rw [List.map_cons, k, e], fun y hy => ?_⟩
    rcases List.mem_cons.mp hy with z | z
    · rw [z, k]; exact ⟨t, e1, ht, List.mem_cons_self⟩
    · obtain ⟨t', a, b, c⟩ := f y z
      exact ⟨t', a, b, List.mem_cons_of_mem _ c⟩
theorem reps_of {K : PySem.W.Frag} {m : Mp} {H : Hp} : ∀ {ys : List V}, (∀ v ∈ ys, ∃ t, v = .ref t ∧ SqT K H t ((kOf K H v).map V.int)) → Reps K m H ((ys.map (kOf K H)).map tupI) ys
  | [], _ => Reps.nil_iff.mpr rfl
  | y :: ys, h => by
    rw [List.map_cons, List.map_cons]
    exact Reps.cons_iff.mpr ⟨y, ys, rfl, Rep.tup_ints.mpr (h y List.mem_cons_self), reps_of fun v hv => h v (List.mem_cons_of_mem _ hv)⟩
theorem callM_srtT {x : D} {v : V} {m : Mp} {mu : List MO} {H : Hp} {Q : VK} {H0 : Hp} {m0 : Mp} (I : TupInj X.K H) (g0 : Grow m0 m H0 H) (R : Rel X.K m mu H) (hx : Rep X.K m H x v) (hp : Post X.K W m H ((rdL x >>= srtT2) mu) (fun ds m' mu' H' => NewL X.K H0 ds m' mu' H' Q)) : rSortedT X.K [v] H Q := by
  obtain ⟨a, xs, vs, rfl, hs, hr, _, hp⟩ := rdL_ok R hx (Post.bind hp)
  unfold srtT2 at hp
  cases ht : tupsOf xs with
  | none => rw [ht] at hp; exact (show False from hp).elim
  | some ts =>
    rw [ht] at hp
    obtain ⟨rfl, hne⟩ := tupsOf_eq ht
    obtain ⟨e, f⟩ := keys_of I hr
    refine ⟨a, vs, kOf X.K H, rfl, hs, fun y hy => ?_, fun ys q h1 h2 hn => ?_⟩
    · obtain ⟨t, b, c, d⟩ := f y hy
      exact ⟨t, b, c, hne _ d⟩
    · have e2 : ys.map (kOf X.K H) = srtX ts := srtX_eq (by rw [← e]; exact h2.map _) (by
        unfold SrtO.Srtd at h1
        exact List.pairwise_map.mpr h1)
      have hr2 : Reps X.K m H ((srtX ts).map tupI) ys := by
        rw [← e2]
        exact reps_of fun v hv => by
          obtain ⟨t, b, c, _⟩ := f v (h2.mem_iff.mp hv)
          exact ⟨t, b, c⟩
      exact tF_new g0 R hr2 hp q hn
def fSrtT (r : Env → M D) : Env → M (List D) := fun env => r env >>= fun x => rdL x >>= srtT2
theorem mf_sortedT {x : Str} {r : Env → M D} (hg : Gl X x) (hm : X.mg x = none) (hv : bootBuiltins x = some (.builtin "sorted")) (h : ME X W e r) (hn : x ≠ "__name__" := by decide) (hdb : (x == ("__debug__" : Str)) = false := by decide)
    (he : starEach [e] X.env = (false, eval e X.env) :: starEach [] X.env := by rfl) (hpl : (backTo pos (starEach [] X.env)).any (·.1) = false := by rfl) : MF X W (.Call (.Name x p) [e] [] pos) (fSrtT r) :=
  ⟨(pe_callB cr_sortedT hg hm hv (pa_cons (pe_inj h.pe) pa_nil he) hn hdb he hpl).imp fun σ H Q ⟨env, m, mu, hE, hR, hp⟩ =>
    ⟨env, m, mu, hE, hR, (Post.bind hp).mono fun d m1 mu1 H1 g1 R1 hp v rv I => callM_srtT I g1 R1 rv hp⟩⟩
end
@[simp] theorem fSrtT_ap {r : Env → M D} {env : Env} : fSrtT r env = (r env >>= fun x => rdL x >>= srtT2) := rfl
theorem srtX_id {xs : List (List Int)} (h : xs.Pairwise fun a b => lexI b a = false) : srtX xs = xs := (srtX_eq (List.Perm.refl xs) h).symm
end MP
namespace MP
open PySem L2 PyProof.Rows
/-! ### {k: v, ..}: a dict that nobody changes -/
noncomputable def pairsM : List ((Env → M D) × (Env → M D)) → Env → M (List (Key × D))
  | [], _ => pure []
  | p :: r, env => p.1 env >>= fun x => p.2 env >>= fun y => pairsM r env >>= fun ps => toK x >>= fun k => pure ((k, y) :: ps)
noncomputable def eDisp (rs : List ((Env → M D) × (Env → M D))) : Env → M D := fun env => pairsM rs env >>= fun kvs => need ((kvs.map (·.1)).Nodup ∧ kvs.length ≤ 15) >>= fun _ => pure (.fd (kvs.map (·.1)) (kvs.map (·.2)))
structure MPs (X : Cx) (W : Wx) (pos : Pos) (keys : List (Option Expr)) (values : List Expr) (rs : List ((Env → M D) × (Env → M D))) : Prop where
  pp : PPs X pos keys values (rs.map fun p => (tE X.K W p.1, tE X.K W p.2))
theorem mergeK_app : ∀ (more kvs : List (Key × V)), ((kvs ++ more).map (·.1)).Nodup → mergeK kvs more = kvs ++ more
  | [], kvs, _ => by show kvs = kvs ++ []; rw [List.append_nil]
  | p :: r, kvs, h => by
    show mergeK (putK kvs p.1 p.2) r = _
    have hn : valV kvs p.1 = none := by
      unfold valV
      rw [Option.map_eq_none_iff, List.find?_eq_none]
      intro q hq e
      rw [List.map_append, List.map_cons] at h
      exact (List.nodup_append.mp h).2.2 q.1 (List.mem_map_of_mem hq) p.1 List.mem_cons_self (of_decide_eq_true e)
    rw [putK_new p.2 hn, mergeK_app r (kvs ++ [(p.1, p.2)]) (by rw [List.append_assoc]; exact h), List.append_assoc]; rfl
theorem zip_kV : ∀ (kvs : List (Key × D)) (vs : List V), (kvs.map fun kv => kV kv.1).zip vs = ((kvs.map (·.1)).zip vs).map fun kv => (kV kv.1, kv.2)
  | [], _ => by simp
  | _ :: _, [] => by simp
  | p :: r, v :: vs => by
    rw [List.map_cons, List.map_cons, List.zip_cons_cons, List.zip_cons_cons, List.map_cons, zip_kV r vs]
section
variable {X : Cx} {W : Wx} {pos : Pos}
theorem mps_nil : MPs X W pos [] [] [] := ⟨pps_nil⟩
theorem mps_cons {k v : Expr} {ks : List (Option Expr)} {vs : List Expr} {rk rv : Env → M D} {rs : List ((Env → M D) × (Env → M D))} (hk : ME X W k rk) (hv : ME X W v rv) (h : MPs X W pos ks vs rs) : MPs X W pos (some k :: ks) (v :: vs) ((rk, rv) :: rs) := ⟨pps_cons hk.pe hv.pe h.pp⟩
theorem pairs_go : ∀ (rs : List ((Env → M D) × (Env → M D))) {σ : L2.St} {m : Mp} {H : Hp} {env : Env} {mu : List MO} {Q : List (Key × D) → Mp → List MO → Hp → Prop} {R : List (V × V) → Hp → Prop}, RepE X.K m H env σ → Rel X.K m mu H → Post X.K W m H (pairsM rs env mu) Q →
    (∀ kvs vs m' mu' H', Grow m m' H H' → Rel X.K m' mu' H' → Reps X.K m' H' (kvs.map (·.2)) vs → Q kvs m' mu' H' → R (((kvs.map fun kv => kV kv.1).zip vs)) H') → tPairs (rs.map fun p => (tE X.K W p.1, tE X.K W p.2)) σ H R
  | [], σ, m, H, env, mu, Q, R, hE, hR, hp, hq => hq [] [] m mu H .refl hR (Reps.nil_iff.mpr rfl) (Post.pure hp hR)
  | p :: r, σ, m, H, env, mu, Q, R, hE, hR, hp, hq => by
    refine ⟨env, m, mu, hE, hR, (Post.bind hp).mono fun x m1 mu1 H1 g1 R1 hp1 xv rx => ⟨env, m1, mu1, hE.grow g1, R1, (Post.bind hp1).mono fun y m2 mu2 H2 g2 R2 hp2 yv ry => ?_⟩⟩
    refine pairs_go r ((hE.grow g1).grow g2) R2 (Post.bind hp2) fun kvs vs m3 mu3 H3 g3 R3 hr hp3 => ?_
    obtain ⟨k, rfl, hp3⟩ := toK_ok R3 (Rep.grow g3 x _ (Rep.grow g2 x _ rx)) (Post.bind hp3)
    exact hq ((k, y) :: kvs) (yv :: vs) m3 mu3 H3 ((g1.trans g2).trans g3) R3 (Reps.cons_iff.mpr ⟨_, _, rfl, Rep.grow g3 y _ ry, hr⟩) (Post.pure hp3 R3)
theorem me_disp {keys : List (Option Expr)} {values : List Expr} {rs : List ((Env → M D) × (Env → M D))} (h : MPs X W pos keys values rs) (hall : keys.all (·.isSome) = true) (hl : keys.length = values.length) (h0 : keys ≠ []) (h15 : keys.length ≤ 15) :
    ME X W (.Dict keys values pos) (eDisp rs) := ⟨(pe_disp h.pp hall hl h0 h15).imp fun σ H Q ⟨env, m, mu, hE, hR, hp⟩ p hn => by
  have hdead : ∀ b o, H b = some o → b ≠ p := fun b o e z => by rw [z, hn] at e; cases e
  have g : Grow m m H (upd H p (.dK [])) := .laid hn
  have kp : Keep m (m.shut p) H (upd H p (.dK [])) := ⟨fun _ _ h => h, fun a o h n => ⟨by rw [upd_ne (hdead a o h)]; exact h, n.1, fun z => by
    rcases List.mem_append.mp z with z | z
    · exact n.2 z
    · exact hdead a o h (List.mem_singleton.mp z)⟩, g.tups, g.frzs⟩
  have gs : Grow m (m.shut p) H (upd H p (.dK [])) := ⟨⟨[], [p], by simp [Mp.shut], rfl, by simp, fun a ha => by rw [List.mem_singleton.mp ha]; exact hn⟩, g.oth, g.tups, g.frzs, g.trk⟩
  have R1 : Rel X.K (m.shut p) mu (upd H p (.dK [])) := by
    refine ⟨hR.len, hR.nd, fun a ha => ?_, fun a ha z => ?_, fun n o a h1 h2 => (hR.obj n o a h1 h2).keep kp fun u q => by rw [upd_ne (hdead a u q)]; exact q⟩
    · rcases List.mem_append.mp ha with z | z
      · exact g.trk a _ (hR.nos a z).choose_spec
      · rw [List.mem_singleton.mp z]; exact ⟨_, upd_same⟩
    · rcases List.mem_append.mp z with z | z
      · exact hR.dj a ha z
      · exact (hR.free hn).1 (by rw [← List.mem_singleton.mp z]; exact ha)
  refine pairs_go rs (hE.keep kp) R1 (Post.grow (Post.bind0 hp) gs) fun kvs vs m2 mu2 H2 g2 R2 hr hq => ?_
  have hno : p ∈ m2.no := by obtain ⟨_, k', _, e2, _, _⟩ := g2.ext; rw [e2]; exact List.mem_append_left _ (by simp [Mp.shut])
  have had : p ∉ m2.ad := g2.notin upd_same (hR.free hn).1
  have h2 : H2 p = some (.dK []) := g2.oth p _ upd_same (hR.free hn).1
  obtain ⟨⟨hnd, h15'⟩, hq⟩ := need_of hq
  have hlen : kvs.length = vs.length := by have := hr.length; rwa [List.length_map] at this
  refine ⟨h2, (kvs.map (·.1)).zip vs, ?_, by rw [List.length_zip, List.length_map, ← hlen, Nat.min_self]; exact h15', ?_⟩
  · exact zip_kV kvs vs
  have hm : mergeK [] ((kvs.map (·.1)).zip vs) = (kvs.map (·.1)).zip vs := mergeK_app _ [] (by rw [List.nil_append, List.map_fst_zip (by rw [List.length_map]; omega)]; exact hnd)
  rw [hm]
  obtain ⟨l', k', e1, e2, hl', hk'⟩ := g2.ext
  have n1 : p ∉ m.no := (hR.free hn).2
  have k3 : Keep m2 ⟨m2.ad, m.no⟩ H2 (upd H2 p (.dK ((kvs.map (·.1)).zip vs))) := ⟨fun _ _ h => h, fun a o h n => by
    have na : a ≠ p := fun z => n.2 (by rw [z]; exact hno)
    exact ⟨by rw [upd_ne na]; exact h, n.1, fun z => n.2 (by rw [e2]; exact List.mem_append_left _ (List.mem_append_left _ z))⟩, fun a xs h => by rw [upd_ne (fun z => by rw [z, h2] at h; cases h)]; exact h, fun a u xs h => by rw [upd_ne (fun z => by rw [z, h2] at h; cases h)]; exact h⟩
  have G := gs.trans g2
  have g3 : Grow m ⟨m2.ad, m.no⟩ H (upd H2 p (.dK ((kvs.map (·.1)).zip vs))) := ⟨⟨l', [], e1, by simp, fun a ha => by
      have q := hl' a ha
      by_cases z : a = p
      · rw [z]; exact hn
      · rw [upd_ne z] at q; exact q, by simp⟩, fun a o h n => by rw [upd_ne (hdead a o h)]; exact G.oth a o h n, fun a xs h => by rw [upd_ne (hdead a _ h)]; exact G.tups a xs h, fun a o u h => by rw [upd_ne (hdead a _ h)]; exact G.frzs a o u h, fun a o h => by rw [upd_ne (hdead a o h)]; exact G.trk a o h⟩
  have R3 : Rel X.K ⟨m2.ad, m.no⟩ mu2 (upd H2 p (.dK ((kvs.map (·.1)).zip vs))) := ⟨R2.len, R2.nd, fun a z => g3.trk a _ (hR.nos a z).choose_spec, fun a ha z => R2.dj a ha (by rw [e2]; exact List.mem_append_left _ (List.mem_append_left _ z)), fun n o a h1 h2' => (R2.obj n o a h1 h2').keep k3 fun u q => by
    rw [upd_ne (fun z => had (by rw [← z]; exact List.mem_of_getElem? h2'))]; exact q⟩
  refine hq ⟨m2.ad, m.no⟩ _ g3 R3 (.ref p) ?_
  simp only [Rep]
  exact ⟨p, vs, rfl, upd_same, ⟨had, n1⟩, by rw [List.length_map, List.length_map], Reps.keep k3 _ _ hr⟩⟩
end
/-! ### constants that are tuples -/
section
variable {X : Cx} {W : Wx} {e o f : Expr} {c : Str} {a : Addr} {tbl : List (Str × D)} {p pos apos cpos : Pos} {r rx : Env → M D}
theorem me_gtup {ds : List D} (hg : Gl X c) (hm : X.mg c = some (.ref a)) (hr : ∀ m H, Rep X.K m H (.tup ds) (.ref a)) (hd : (c == ("__debug__" : Str)) = false := by decide) : ME X W (.Name c p) (eC (.tup ds)) := me_c (pe_glob hg hm (v := .ref a) rfl hd) hr
/-- T.get(x, y), T a dict of the written part -/
def gGetK (tbl : List (Str × D)) (x y : D) : M D := toS x >>= fun z => pure ((tabAt tbl z).getD y)
def eGetK (tbl : List (Str × D)) (ri rx : Env → M D) : Env → M D := fun env => ri env >>= fun x => rx env >>= fun y => gGetK tbl x y
def tKGet2 (K : PySem.W.Frag) (a : Addr) (ty tx : TE) : TE := fun σ H Q => ty σ H fun y H2 => tx σ H2 fun z H3 => ∃ (s : Str), y = .str s ∧ ((PySem.W.nsIn K a s = some none ∧ Q z H3) ∨ ∃ u v, PySem.W.nsIn K a s = some (some u) ∧ RelV v u ∧ Q v H3)
theorem pe_kget2 {es : Array DictEntry} {n : Nat} {ty tx : TE} (D : KDict X.K X.w a es n) (hg : Gl X c) (hm : X.mg c = some (.ref a)) (he : PE X e ty) (hf : PE X f tx) (m : M2 X (.Name c p) "get" apos e f cpos) (hd : (c == ("__debug__" : Str)) = false := by decide) :
    PE X (.Call (.Attribute (.Name c p) "get" apos) [e, f] [] cpos) (tKGet2 X.K a ty tx) := by
  have hc : PE X (.Name c p) (tC (.ref a)) := pe_glob hg hm (v := .ref a) rfl hd
  refine ⟨fun pins s σ H Q I h => ?_⟩
  refine wpAny_Call_method m.base m.few m.line PySem.F.plainAttrs_dict PySem.F.slot_dict_get PySem.F.type_dict_get (thn (hc.run pins s σ H (fun v H' => v = .ref a ∧ H' = H) I ⟨rfl, rfl⟩) fun u s1 ⟨x, H1, I1, rx, ex, eH⟩ => ?_)
  subst ex eH
  obtain rfl : u = Value.ref a := rx
  have mo := PySem.W.mapOf_K (prog := X.prog) (w := X.w) I1.kIn D.at_ D.lit
  refine ⟨mo.typeIs, fun b q => ?_, ?_⟩
  · cases q
    exact ⟨_, I1.kIn a _ D.at_, rfl⟩
  rw [m.trees]
  refine Calls.callWith_builtin rfl (Calls.evalArgs_plain (Calls.spliced_cons (thn (he.run pins s1 σ H1 _ I1 h) fun iv s2 ⟨y, H2, I2, ry, q2⟩ =>
    Calls.spliced_cons (thn (hf.run pins s2 σ H2 _ I2 q2) fun fv s3 ⟨z, H3, I3, rz, sv, es', q3⟩ => Calls.spliced_nil ?_))))
  subst es'
  obtain ⟨t, rfl⟩ := ry
  have mo3 := PySem.W.mapOf_K (prog := X.prog) (w := X.w) I3.kIn D.at_ D.lit
  refine call_meetsIn PySem.F.slot_dict_get mo3.typeIs PySem.F.entry_dict_get (PySem.F.args_dict_get_3 _ _ _) (meets_dict_get_default (PySem.strKind X.prog X.w) a (PySem.strKind_is X.prog X.w sv t) D.low fv) ⟨_, mo3, ?_⟩
  rcases q3 with ⟨h1, q⟩ | ⟨u, v, h1, h2, q⟩
  · rw [PySem.W.find_K D.at_ h1]
    exact ⟨z, H3, I3.tok _, rz, q⟩
  · rw [PySem.W.find_K D.at_ h1]
    exact ⟨v, H3, I3.tok _, h2, q⟩
theorem me_getK2 {ri rx : Env → M D} (T : KTab X.K X.w a tbl) (hg : Gl X c) (hm : X.mg c = some (.ref a)) (he : ME X W e ri) (hf : ME X W f rx) (m : M2 X (.Name c p) "get" apos e f cpos := by exact ⟨rfl, rfl, rfl, rfl⟩) (hd : (c == ("__debug__" : Str)) = false := by decide) :
    ME X W (.Call (.Attribute (.Name c p) "get" apos) [e, f] [] cpos) (eGetK tbl ri rx) := by
  obtain ⟨es, n, kd⟩ := T.kd
  refine ⟨(pe_kget2 kd hg hm he.pe hf.pe m hd).imp fun σ H Q ⟨env, m, mu, hE, hR, hp⟩ => ?_⟩
  refine ⟨env, m, mu, hE, hR, (Post.bind hp).mono fun x m1 mu1 H1 g1 R1 hp1 xv rxv => ⟨env, m1, mu1, hE.grow g1, R1, (Post.bind hp1).mono fun y m2 mu2 H2 g2 R2 hp2 yv ryv => ?_⟩⟩
  obtain ⟨z, rfl, rfl, hp3⟩ := toS_at (Rep.grow g2 _ _ rxv) hp2
  have hq := Post.pure hp3 R2
  refine ⟨z, rfl, ?_⟩
  cases ht : tabAt tbl z with
  | none =>
    rw [ht] at hq
    exact .inl ⟨T.no z (tabAt_none ht), hq yv ryv⟩
  | some d =>
    rw [ht] at hq
    obtain ⟨q, hq1, rfl, rfl⟩ := tabAt_some ht
    obtain ⟨u, v, h1, h2, h3⟩ := T.yes q hq1
    exact .inr ⟨u, v, h1, h2, hq v (h3 m2 H2)⟩
end
@[simp] theorem eGetK_ap {tbl : List (Str × D)} {ri rx : Env → M D} {env : Env} : eGetK tbl ri rx env = (ri env >>= fun x => rx env >>= fun y => gGetK tbl x y) := rfl
@[simp] theorem gGetK_ap {tbl : List (Str × D)} {z : Str} {y : D} {mu : List MO} : gGetK tbl (.str z) y mu = .ok ((tabAt tbl z).getD y) mu := rfl
@[simp] theorem eDisp_ap {rs : List ((Env → M D) × (Env → M D))} {env : Env} : eDisp rs env = (pairsM rs env >>= fun kvs => need ((kvs.map (·.1)).Nodup ∧ kvs.length ≤ 15) >>= fun _ => pure (.fd (kvs.map (·.1)) (kvs.map (·.2)))) := rfl
@[simp] theorem pairsM_nil {env : Env} : pairsM [] env = pure [] := rfl
@[simp] theorem pairsM_cons {p : (Env → M D) × (Env → M D)} {r : List ((Env → M D) × (Env → M D))} {env : Env} : pairsM (p :: r) env = (p.1 env >>= fun x => p.2 env >>= fun y => pairsM r env >>= fun ps => toK x >>= fun k => pure ((k, y) :: ps)) := rfl
/-- a written tuple, from what the head tells -/
theorem ktup_of {K : PySem.W.Frag} {a : Addr} {its : Array Value} {n : Nat} {od : Option Addr} {sl : Array (Option Value)} {ds : List D} (h : K.lookup a = some ⟨.type "tuple", od, .seq its n, sl⟩) (hz : its.size ≤ sizeLine) (hv : ∀ m H, ∃ vs, Vals vs its.toList ∧ Reps K m H ds vs) : ∀ m H, Rep K m H (.tup ds) (.ref a) := fun m H => by
  obtain ⟨vs, h1, h2⟩ := hv m H
  simp only [Rep]
  exact ⟨a, vs, rfl, .inr ⟨_, its, n, h, rfl, rfl, hz, h1⟩, h2⟩
end MP
namespace MP
open PySem L2 PyProof.Rows
theorem loopF_step {asg : D → Env → M Env} {body : Env → M Fl} {fg : List Nat} {d : D} {ds : List D} {env env1 e : Env} {mu mu1 : List MO} (h1 : asg d (wipeE env fg) mu = .ok env1 mu) (h2 : body env1 mu = .ok (.nx e) mu1) : loopF asg body fg [] (d :: ds) env mu = loopF asg body fg [] ds e mu1 := by
  rw [loopF_cons]
  simp [h1, h2]
@[simp] theorem rdM_fl {xs : List D} {mu : List MO} : rdM (.fl xs) mu = .ok xs mu := rfl
@[simp] theorem rdM_ref {n : Nat} {mu : List MO} : rdM (.ref n) mu = atL mu n := rfl
theorem cutD_take {xs : List D} {k : Nat} : MP.cutD xs none (some (k : Int)) = xs.take k := by
  unfold MP.cutD
  rw [HT.sIx_none, HT.sIx_nat]
  simp
theorem cutD_drop {xs : List D} {k : Nat} : MP.cutD xs (some (k : Int)) none = xs.drop k := by
  unfold MP.cutD
  rw [HT.sIx_nat, HT.sIx_none]
  by_cases h : k ≤ xs.length
  · rw [Nat.min_eq_left h]
    exact List.take_of_length_le (by rw [List.length_drop]; omega)
  · rw [Nat.min_eq_right (by omega), List.drop_eq_nil_of_le (Nat.le_refl _), List.drop_eq_nil_of_le (by omega)]
    simp
@[simp] theorem gSl_tup {xs : List D} {lo hi : Option Int} {mu : List MO} : gSl (.tup xs) lo hi mu = .ok (.tup (MP.cutD xs lo hi)) mu := rfl
theorem gEq_strs {neg : Bool} {x y : Str} {mu : List MO} : gEq neg (.str x) (.str y) mu = .ok (.bl ((x == y) != neg)) mu := by
  unfold gEq
  simp [okE, dep, eqD]
theorem extend_ok {n : Nat} {xs ys : List D} {d : D} {mu : List MO} (h : mu[n]? = some (.lst xs)) (hd : rdM d mu = .ok ys mu) (hz : xs.length + ys.length ≤ sizeLine) : gExtend (.ref n) [d] mu = .ok .non (mu.set n (.lst (xs ++ ys))) := by
  show (rdM d >>= fun zs => modL n fun xs => if xs.length + zs.length ≤ sizeLine then some (xs ++ zs, .non) else none) mu = _
  rw [bind_ap, hd]
  exact modL_at h (by rw [if_pos hz])
mutual
theorem Clo.mono {k k' : Nat} (h : k ≤ k') : ∀ (d : D), Clo k d → Clo k' d
  | .non, _ => Clo.non
  | .bl _, _ => Clo.bl
  | .int _, _ => Clo.int
  | .str _, _ => Clo.str
  | .tup xs, c => Clo.tup.mpr (Clos.mono h xs (Clo.tup.mp c))
  | .fl xs, c => Clo.fl.mpr (Clos.mono h xs (Clo.fl.mp c))
  | .ro xs, c => Clo.ro.mpr (Clos.mono h xs (Clo.ro.mp c))
  | .fd ks xs, c => Clo.fd.mpr (Clos.mono h xs (Clo.fd.mp c))
  | .ref n, c => Clo.ref.mpr (Nat.lt_of_lt_of_le (Clo.ref.mp c) h)
theorem Clos.mono {k k' : Nat} (h : k ≤ k') : ∀ (ds : List D), Clos k ds → Clos k' ds
  | [], _ => Clos.nil
  | d :: ds, c => Clos.cons (Clo.mono h d c.inv.1) (Clos.mono h ds c.inv.2)
end
theorem CloO.mono {k k' : Nat} (h : k ≤ k') {o : MO} (c : CloO k o) : CloO k' o := by
  cases o with
  | lst xs => exact Clos.mono h xs c
  | dk kvs => exact Clos.mono h _ c
theorem CloH.snoc {mu : List MO} {o : MO} (h : CloH mu) (ho : CloO (mu.length + 1) o) : CloH (mu ++ [o]) := fun x hx => by
  have e : (mu ++ [o]).length = mu.length + 1 := by simp
  rw [e]
  rcases List.mem_append.mp hx with z | z
  · exact (h x z).mono (by omega)
  · rw [List.mem_singleton.mp z]; exact ho
theorem CloH.snoc_flat {mu : List MO} {xs : List D} (h : CloH mu) (hf : flats xs = true) : CloH (mu ++ [.lst xs]) := h.snoc (show CloO _ (.lst xs) from flats_clo xs hf)
theorem strs_flat (ns : List Str) : flats (ns.map D.str) = true := flats_of fun d hd => by
  obtain ⟨z, _, e⟩ := List.mem_map.mp hd
  rw [← e]; rfl
theorem flats_app {xs ys : List D} (h : flats xs = true) (h' : flats ys = true) : flats (xs ++ ys) = true := flats_of fun d hd => (List.mem_append.mp hd).elim (flats_mem h d) (flats_mem h' d)
/-- lists of flat data, whatever stands in them -/
def FlO (ex : List MO) : Prop := ∀ o ∈ ex, ∃ xs, o = .lst xs ∧ flats xs = true
theorem FlO.nil : FlO [] := fun o h => by cases h
theorem FlO.app {a b : List MO} (h : FlO a) (h' : FlO b) : FlO (a ++ b) := fun o ho => (List.mem_append.mp ho).elim (h o) (h' o)
theorem FlO.one {xs : List D} (h : flats xs = true) : FlO [.lst xs] := fun o ho => ⟨xs, List.mem_singleton.mp ho, h⟩
theorem CloH.flo {mu ex : List MO} (h : CloH mu) (hf : FlO ex) : CloH (mu ++ ex) := fun o ho => by
  rcases List.mem_append.mp ho with z | z
  · exact (h o z).mono (by simp)
  · obtain ⟨xs, rfl, hx⟩ := hf o z
    exact flats_clo xs hx
end MP
namespace MP
open PySem L2 PyProof.Rows
theorem gAdd_ref {n : Nat} {xs ys : List D} {mu : List MO} (h : mu[n]? = some (.lst xs)) (hl : xs.length + ys.length ≤ sizeLine) : gAdd (.ref n) (.fl ys) mu = .ok (.fl (xs ++ ys)) mu := by
  show ((rdM (.ref n) : M (List D)) >>= fun xs => (rdM (.fl ys) : M (List D)) >>= fun ys => (need (xs.length + ys.length ≤ sizeLine) : M Unit) >>= fun _ => (pure (.fl (xs ++ ys)) : M D)) mu = _
  have e1 : (rdM (.ref n) : M (List D)) mu = .ok xs mu := by rw [rdM_ref, atL_ap, h]; rfl
  rw [bind_ap, e1]
  show ((rdM (.fl ys) : M (List D)) >>= fun ys => (need (xs.length + ys.length ≤ sizeLine) : M Unit) >>= fun _ => (pure (.fl (xs ++ ys)) : M D)) mu = _
  rw [bind_ap, rdM_fl]
  show ((need (xs.length + ys.length ≤ sizeLine) : M Unit) >>= fun _ => (pure (.fl (xs ++ ys)) : M D)) mu = _
  rw [bind_ap, need_ap, if_pos hl]; rfl
end MP
namespace MP
open PySem L2 PyProof.Rows
theorem gIn_names {neg : Bool} {z : Str} {ns : List Str} {d : D} {mu : List MO} (hd : rdQ d mu = .ok (ns.map D.str) mu) (hns : ∀ y, d ≠ .str y) : gIn neg (.str z) d mu = .ok (.bl (ns.contains z != neg)) mu := by
  have e : gIn neg (.str z) d = (rdQ d >>= fun ys => need (okE (.str z) = true ∧ okEs ys = true ∧ deps ys < 60) >>= fun _ => pure (.bl ((ys.any fun y => eqD y (.str z)) != neg)) : M D) := by
    cases d <;> first | rfl | exact absurd rfl (hns _)
  rw [e]
  have ok1 : ∀ ns : List Str, okEs (ns.map D.str) = true := fun ns => by
    induction ns with
    | nil => rfl
    | cons x xs ih => rw [List.map_cons, okEs, ih]; rfl
  have ok2 : ∀ ns : List Str, deps (ns.map D.str) = 0 := fun ns => by
    induction ns with
    | nil => rfl
    | cons x xs ih => rw [List.map_cons, deps, ih]; rfl
  have ok3 : ∀ ns : List Str, ((ns.map D.str).any fun y => eqD y (.str z)) = ns.contains z := fun ns => by
    induction ns with
    | nil => rfl
    | cons x xs ih =>
      rw [List.map_cons, List.any_cons, ih, List.contains_cons]
      congr 1
      show (x == z) = (z == x)
      exact BEq.comm
  simp [hd, okE, ok1, ok2, ok3]
theorem zip_ok {xs ys : List D} {mu : List MO} : wZip [.tup xs, .tup ys] mu = .ok (zipD xs ys, []) mu := rfl
theorem zipD_map {α β : Type} {f : α → D} {g : β → D} : ∀ (xs : List α) (ys : List β), zipD (xs.map f) (ys.map g) = (xs.zip ys).map fun p => .tup [f p.1, g p.2]
  | [], _ => rfl
  | _ :: _, [] => rfl
  | x :: xs, y :: ys => by
    show D.tup [f x, g y] :: zipD (xs.map f) (ys.map g) = D.tup [f x, g y] :: (xs.zip ys).map fun p => .tup [f p.1, g p.2]
    rw [zipD_map xs ys]
theorem gDget_at {o : D} {z : Str} {kvs : List (Key × D)} {d : D} {mu : List MO} (h : rdD o mu = .ok kvs mu) (hv : valD kvs (.inr z) = some d) : gDget o (.str z) mu = .ok d mu := by
  show (rdD o >>= fun kvs => toK (.str z) >>= fun k => match valD kvs k with | some d => pure d | none => bad) mu = _
  rw [bind_ap, h]
  show (match valD kvs (.inr z) with | some d => (pure d : M D) | none => bad) mu = _
  rw [hv]; rfl
end MP
namespace MP
open PySem L2 PyProof.Rows
section
variable {asg : D → Env → M Env} {t : Env → M Bool} {rk r : Env → M D} {env : Env} {mu : List MO}
theorem loopCD_nil {acc : List (Key × D)} : loopCD asg t rk r [] [] env acc mu = .ok acc mu := by
  show ((chk [] : M Unit) >>= fun _ => (pure acc : M (List (Key × D)))) mu = _
  rw [bind_ap, chk_nil]; rfl
theorem loopCD_yes {d x y : D} {ds : List D} {acc : List (Key × D)} {env1 : Env} {k : Key} {mu1 mu2 mu3 : List MO} (h1 : asg d env mu = .ok env1 mu1) (h2 : t env1 mu1 = .ok true mu1) (h3 : rk env1 mu1 = .ok y mu2) (h4 : r env1 mu2 = .ok x mu3) (h5 : toK y mu3 = .ok k mu3) :
    loopCD asg t rk r [] (d :: ds) env acc mu = loopCD asg t rk r [] ds env (putD acc k x) mu3 := by
  show ((chk [] : M Unit) >>= fun _ => asg d env >>= fun env1 => t env1 >>= fun b => if b = true then (rk env1 >>= fun y => r env1 >>= fun x => toK y >>= fun k => loopCD asg t rk r [] ds env (putD acc k x)) else loopCD asg t rk r [] ds env acc) mu = _
  rw [bind_ap, chk_nil]
  simp [h1, h2, h3, h4, h5]
end
theorem loopW_go {c : Env → M Bool} {body : Env → M Fl} {fg : List Nat} {n : Nat} {env e : Env} {mu mu1 mu2 : List MO} (h1 : c (wipeE env fg) mu = .ok true mu1) (h2 : body (wipeE env fg) mu1 = .ok (.nx e) mu2) : loopW c body fg (n + 1) env mu = loopW c body fg n e mu2 := by
  simp [loopW, h1, h2]
theorem loopW_stop {c : Env → M Bool} {body : Env → M Fl} {fg : List Nat} {n : Nat} {env : Env} {mu mu1 : List MO} (h1 : c (wipeE env fg) mu = .ok false mu1) : loopW c body fg (n + 1) env mu = .ok (.nx (wipeE env fg)) mu1 := by
  simp [loopW, h1]
theorem CloH.set {mu : List MO} {i : Nat} {xs : List D} (h : CloH mu) (hf : flats xs = true) : CloH (mu.set i (.lst xs)) := fun o ho => by
  rw [List.length_set]
  rcases List.mem_or_eq_of_mem_set ho with z | z
  · exact h o z
  · rw [z]; exact flats_clo xs hf
end MP
namespace MP
open PySem L2 PyProof.Rows
theorem rng_eq (n : Nat) : rngD 0 n = (List.range' 0 n).map fun (i : Nat) => D.int (i : Int) := by
  show ((List.range n).map fun (i : Nat) => D.int (0 + (i : Int))) = _
  rw [List.range_eq_range']
  apply List.map_congr_left
  intro i _
  rw [Int.zero_add]
end MP
namespace MP
open PySem L2 PyProof.Rows
theorem draw_tail {s : Nat} {cs : List Int} {most : Int} {mu ex : List MO} (h : At s cs mu) (hm : 0 < most) (hl : most.natAbs.log2 < 9000) : ∃ d mu', den__law_draw [.ref s, .int most] (mu ++ ex) = .ok (.vl (.int d)) (mu' ++ ex) ∧ Nx s cs mu mu' ∧ 0 ≤ d ∧ d < most := by
  obtain ⟨d, m, e, n, h0, h1⟩ := draw_at (h.app ex) hm hl
  obtain ⟨mu', rfl, nn⟩ := Nx.app h n
  exact ⟨d, mu', e, nn, h0, h1⟩
theorem shuf_tail {s : Nat} {cs : List Int} {xs : List D} {mu ex : List MO} (A : At s cs mu) (hl : xs.length < 1000) (hf : flats xs = true) : ∃ ys mu', shufD [.ref s, .fl xs] (mu ++ ex) = .ok (.fr ys) (mu' ++ ex) ∧ Nx s cs mu mu' ∧ ys.Perm xs := by
  obtain ⟨ys, m, e, n, p⟩ := shufD_ok (d := .fl xs) (A.app ex) rfl hl (flats_clo _ hf)
  obtain ⟨mu', rfl, nn⟩ := Nx.app A n
  exact ⟨ys, mu', e, nn, p⟩
theorem one_tail {s : Nat} {cs : List Int} {xs : List D} {mu ex : List MO} (h : At s cs mu) (h0 : 0 < xs.length) (h1 : xs.length < 1000) : ∃ x mu', den__law_one_of den__law_draw [.ref s, .fl xs] (mu ++ ex) = .ok (.vl x) (mu' ++ ex) ∧ Nx s cs mu mu' ∧ x ∈ xs := by
  obtain ⟨x, m, e, n, hx⟩ := one_of_at (h.app ex) h0 h1
  obtain ⟨mu', rfl, nn⟩ := Nx.app h n
  exact ⟨x, mu', e, nn, hx⟩
theorem unmap {α : Type} {f : α → D} {P : α → Prop} : ∀ {xs : List D}, (∀ x ∈ xs, ∃ a, x = f a ∧ P a) → ∃ as : List α, xs = as.map f ∧ ∀ a ∈ as, P a
  | [], _ => ⟨[], rfl, by simp⟩
  | x :: xs, h => by
    obtain ⟨a, e, ha⟩ := h x (by simp)
    obtain ⟨as, e2, h2⟩ := unmap (f := f) (P := P) (xs := xs) fun y hy => h y (by simp [hy])
    exact ⟨a :: as, by rw [e, e2, List.map_cons], fun b hb => by
      rcases List.mem_cons.mp hb with e3 | e3
      · rw [e3]; exact ha
      · exact h2 b e3⟩
theorem gSl_fl_take {xs : List D} {k : Nat} {mu : List MO} : gSl (.fl xs) none (some (k : Int)) mu = .ok (.fl (xs.take k)) mu := by
  have e : gSl (.fl xs) none (some (k : Int)) mu = .ok (.fl (MP.cutD xs none (some (k : Int)))) mu := rfl
  rw [e, cutD_take]
theorem gSl_fl_drop {xs : List D} {k : Nat} {mu : List MO} : gSl (.fl xs) (some (k : Int)) none mu = .ok (.fl (xs.drop k)) mu := by
  have e : gSl (.fl xs) (some (k : Int)) none mu = .ok (.fl (MP.cutD xs (some (k : Int)) none)) mu := rfl
  rw [e, cutD_drop]
theorem nodup_sub_len {α : Type} [DecidableEq α] : ∀ {l m : List α}, l.Nodup → (∀ x ∈ l, x ∈ m) → l.length ≤ m.length
  | [], _, _, _ => Nat.zero_le _
  | a :: l, m, hn, h => by
    have hn' := List.nodup_cons.mp hn
    have ha := h a (by simp)
    have := nodup_sub_len (l := l) (m := m.erase a) hn'.2 fun x hx => (List.mem_erase_of_ne (fun e => hn'.1 (by rw [← e]; exact hx))).mpr (h x (by simp [hx]))
    rw [List.length_erase_of_mem ha] at this
    have hp := List.length_pos_of_mem ha
    rw [List.length_cons]; omega
end MP
namespace MP
open PySem L2 PyProof.Rows
theorem loopC_mapG {γ : Type} {asg : D → Env → M Env} {t : Env → M Bool} {r : Env → M D} {env : Env} {mu : List MO} {gr : List (Nat × List D)} (hgr : chk gr mu = .ok () mu) {g f : γ → D} : ∀ {xs : List γ}, (∀ x ∈ xs, ∃ env1, asg (g x) env mu = .ok env1 mu ∧ t env1 mu = .ok true mu ∧ r env1 mu = .ok (f x) mu) → loopC asg t r gr (xs.map g) env mu = .ok (xs.map f) mu
  | [], _ => by
    show ((chk gr : M Unit) >>= fun _ => (pure [] : M (List D))) mu = _
    rw [bind_ap, hgr]; rfl
  | x :: xs, h => by
    obtain ⟨env1, h1, h2, h3⟩ := h x (by simp)
    have ih := loopC_mapG (xs := xs) hgr fun e he => h e (by simp [he])
    rw [List.map_cons, List.map_cons]
    show ((chk gr : M Unit) >>= fun _ => asg (g x) env >>= fun env1 => t env1 >>= fun b => if b = true then (r env1 >>= fun y => loopC asg t r gr (xs.map g) env >>= fun ys => pure (y :: ys)) else loopC asg t r gr (xs.map g) env) mu = _
    rw [bind_ap, hgr]
    simp [h1, h2, h3, ih]
end MP
namespace MP
open PySem L2 PyProof.Rows
theorem pop_ok {n : Nat} {y : D} {ys : List D} {mu : List MO} (h : mu[n]? = some (.lst (y :: ys))) : gPopAt (.ref n) [.int 0] mu = .ok y (mu.set n (.lst ys)) := by
  show ((toI (.int 0) : M Int) >>= fun i => modL n fun xs => if -(2 ^ 63) ≤ i ∧ i < 2 ^ 63 then match seqIndex? i xs.length with
    | some k => match xs[k]? with
      | some y => some (xs.eraseIdx k, y)
      | none => none
    | none => none else none) mu = _
  rw [bind_ap, toI_int]
  refine modL_at h ?_
  have e : seqIndex? 0 (y :: ys).length = some 0 := by
    unfold seqIndex?
    rw [List.length_cons]
    simp
  rw [if_pos (by decide), e]
  rfl
theorem gAdd_fl {xs ys : List D} {mu : List MO} (h : xs.length + ys.length ≤ sizeLine) : gAdd (.fl xs) (.fl ys) mu = .ok (.fl (xs ++ ys)) mu := by
  show ((rdM (.fl xs) : M (List D)) >>= fun xs => (rdM (.fl ys) : M (List D)) >>= fun ys => (need (xs.length + ys.length ≤ sizeLine) : M Unit) >>= fun _ => (pure (.fl (xs ++ ys)) : M D)) mu = _
  rw [bind_ap, rdM_fl]
  show ((rdM (.fl ys) : M (List D)) >>= fun ys => (need (xs.length + ys.length ≤ sizeLine) : M Unit) >>= fun _ => (pure (.fl (xs ++ ys)) : M D)) mu = _
  rw [bind_ap, rdM_fl]
  show ((need (xs.length + ys.length ≤ sizeLine) : M Unit) >>= fun _ => (pure (.fl (xs ++ ys)) : M D)) mu = _
  rw [bind_ap, need_ap, if_pos h]; rfl
theorem gAdd_tup {xs ys : List D} {mu : List MO} (h : xs.length + ys.length ≤ sizeLine) : gAdd (.tup xs) (.tup ys) mu = .ok (.tup (xs ++ ys)) mu := by
  show ((toT (.tup ys) : M (List D)) >>= fun ys => (need (xs.length + ys.length ≤ sizeLine) : M Unit) >>= fun _ => (pure (.tup (xs ++ ys)) : M D)) mu = _
  rw [bind_ap, toT_tup]
  show ((need (xs.length + ys.length ≤ sizeLine) : M Unit) >>= fun _ => (pure (.tup (xs ++ ys)) : M D)) mu = _
  rw [bind_ap, need_ap, if_pos h]; rfl
end MP
namespace MP
open PySem L2 PyProof.Rows
theorem loopF_ret {asg : D → Env → M Env} {body : Env → M Fl} {fg : List Nat} {d : D} {ds : List D} {env env1 : Env} {mu mu1 : List MO} {rv : Rv} (h1 : asg d (wipeE env fg) mu = .ok env1 mu) (h2 : body env1 mu = .ok (.rt rv) mu1) : loopF asg body fg [] (d :: ds) env mu = .ok (.rt rv) mu1 := by
  rw [loopF_cons]
  simp [h1, h2]
theorem strsOf_map : ∀ (ws : List Str), strsOf (ws.map D.str) = some ws
  | [] => rfl
  | w :: ws => by
    show (strsOf (ws.map D.str)).map (w :: ·) = _
    rw [strsOf_map ws]; rfl
theorem srtD_strs {ws : List Str} {mu : List MO} (h0 : 0 < ws.length) (h : ws.length < 64) : srtD (ws.map D.str) mu = .ok ((srtS ws).map D.str) mu := by
  unfold srtD
  rw [bind_ap, need_ap, if_pos (by rw [List.length_map]; exact h), strsOf_map]
  match ws, h0 with
  | w :: ws, _ => rfl
end MP
namespace MP
open PySem L2 PyProof.Rows
/-! ### equal, a list of the small heap read first -/
def rdE : D → M D
  | .ref n => fun mu => match mu[n]? with
    | some (.lst xs) => .ok (.fl xs) mu
    | _ => .bad
  | d => pure d
def gEqL (neg : Bool) (x y : D) : M D := rdE x >>= fun x' => rdE y >>= fun y' => gEq neg x' y'
mutual
theorem Rep.bare {K : PySem.W.Frag} {m : Mp} {H : Hp} : ∀ (d : D) (v : V), okE d = true → Rep K m H d v → Rep K ⟨[], []⟩ H d v
  | .non, v, _, h => by simp only [Rep] at h ⊢; exact h
  | .bl b, v, _, h => by simp only [Rep] at h ⊢; exact h
  | .int i, v, _, h => by simp only [Rep] at h ⊢; exact h
  | .str x, v, _, h => by simp only [Rep] at h ⊢; exact h
  | .tup ds, v, o, h => by
    simp only [Rep] at h ⊢
    obtain ⟨a, vs, e, hs, hr⟩ := h
    exact ⟨a, vs, e, hs, Reps.bare ds vs o hr⟩
  | .fl ds, v, o, h => by
    simp only [Rep] at h ⊢
    obtain ⟨a, vs, e, hs, hn, hr⟩ := h
    exact ⟨a, vs, e, hs, ⟨by simp, by simp⟩, Reps.bare ds vs o hr⟩
  | .ro ds, v, o, h => by
    simp only [Rep] at h ⊢
    obtain ⟨a, vs, e, hs, hr⟩ := h
    exact ⟨a, vs, e, hs, Reps.bare ds vs o hr⟩
  | .fd _ _, _, o, _ => by cases o
  | .ref _, _, o, _ => by cases o
theorem Reps.bare {K : PySem.W.Frag} {m : Mp} {H : Hp} : ∀ (ds : List D) (vs : List V), okEs ds = true → Reps K m H ds vs → Reps K ⟨[], []⟩ H ds vs
  | [], vs, _, h => by simp only [Reps] at h ⊢; exact h
  | d :: ds, vs, o, h => by
    simp only [okEs, Bool.and_eq_true] at o
    obtain ⟨v, r, e, h1, h2⟩ := Reps.cons_iff.mp h
    exact Reps.cons_iff.mpr ⟨v, r, e, Rep.bare d v o.1 h1, Reps.bare ds r o.2 h2⟩
end
/-- the datum that a value has where no place is known -/
theorem rdE_ok {K : PySem.W.Frag} {W : Wx} {m : Mp} {H : Hp} {mu : List MO} {d : D} {v : V} {Q : D → Mp → List MO → Hp → Prop} (R : Rel K m mu H) (h : Rep K m H d v) (hp : Post K W m H (rdE d mu) Q) : ∃ d', (okE d' = true → Rep K ⟨[], []⟩ H d' v) ∧ Q d' m mu H := by
  cases d
  case ref n =>
    simp only [Rep] at h
    obtain ⟨a, rfl, hm⟩ := h
    obtain ⟨o, ho, hr⟩ := R.at' hm
    have e : rdE (.ref n) mu = match mu[n]? with
      | some (.lst xs) => MP.R.ok (.fl xs) mu
      | _ => .bad := rfl
    rw [e, ho] at hp
    cases o with
    | dk _ => exact (show False from hp).elim
    | lst xs =>
      obtain ⟨vs, hH, hrs⟩ := hr
      refine ⟨.fl xs, fun o => ?_, hp m H .refl R⟩
      simp only [Rep]
      exact ⟨a, vs, rfl, hH, ⟨by simp, by simp⟩, Reps.bare xs vs o hrs⟩
  all_goals exact ⟨_, fun o => Rep.bare _ _ o h, hp m H .refl R⟩
section
variable {X : Cx} {W : Wx}
theorem opm_eqL {neg : Bool} : OpM X.K W (rEqM neg X.K) (gEqL neg) := ⟨fun x y v w m mu H Q rl hx hy hp => by
  obtain ⟨d, h1, hp⟩ := rdE_ok rl hx (Post.bind hp)
  obtain ⟨e, h2, hp⟩ := rdE_ok rl hy (Post.bind hp)
  obtain ⟨⟨k1, k2, k3⟩, hp⟩ := need_ok rl (Post.bind hp)
  exact ⟨d, e, ⟨[], []⟩, h1 k1, h2 k2, k1, k2, k3, Post.pure hp rl _ (by simp only [Rep])⟩⟩
end
@[simp] theorem rdE_ref {n : Nat} {mu : List MO} : rdE (.ref n) mu = match mu[n]? with
    | some (.lst xs) => .ok (.fl xs) mu
    | _ => .bad := rfl
@[simp] theorem rdE_fl {xs : List D} {mu : List MO} : rdE (.fl xs) mu = .ok (.fl xs) mu := rfl
@[simp] theorem fComp2_ap {w w1 : Env → M Wk} {asg asg1 : D → Env → M Env} {t t1 : Env → M Bool} {r : Env → M D} {vs vs1 : List Nat} {env : Env} : fComp2 w asg t w1 asg1 t1 r vs vs1 env = (w env >>= fun p => noX (loopC2 asg t w1 asg1 t1 r vs1 p.2 p.1 [] (wipeE env vs))) := rfl
theorem toBs_map {α : Type} {p : α → Bool} {mu : List MO} : ∀ (ts : List α), toBs (ts.map fun t => D.bl (p t)) mu = .ok (ts.map p) mu
  | [] => rfl
  | t :: ts => by
    show ((toB (.bl (p t)) : M Bool) >>= fun b => toBs (ts.map fun t => D.bl (p t)) >>= fun bs => pure (b :: bs)) mu = _
    simp [toBs_map ts]
theorem gAll_map {α : Type} {p : α → Bool} {mu : List MO} (ts : List α) : gAll (.fl (ts.map fun t => D.bl (p t))) mu = .ok (.bl (ts.all p)) mu := by
  unfold gAll
  simp [toBs_map, List.all_map, Function.comp_def]
theorem gAny_map {α : Type} {p : α → Bool} {mu : List MO} (ts : List α) : gAny (.fl (ts.map fun t => D.bl (p t))) mu = .ok (.bl (ts.any p)) mu := by
  unfold gAny
  simp [toBs_map, List.any_map, Function.comp_def]
theorem loopC2_nil {asg asg1 : D → Env → M Env} {t t1 : Env → M Bool} {w1 : Env → M Wk} {r : Env → M D} {vs1 : List Nat} {acc : List D} {env : Env} {mu : List MO} : loopC2 asg t w1 asg1 t1 r vs1 [] [] acc env mu = .ok acc mu := by
  show (chk [] >>= fun _ => (pure acc : M (List D))) mu = _
  rw [bind_ap, chk_nil]; rfl
theorem loopC2_step {asg asg1 : D → Env → M Env} {t t1 : Env → M Bool} {w1 : Env → M Wk} {r : Env → M D} {vs1 : List Nat} {d : D} {ds acc xs : List D} {p : Wk} {env env1 : Env} {mu : List MO} (h1 : asg d env mu = .ok env1 mu) (h2 : t env1 mu = .ok true mu) (h3 : w1 env1 mu = .ok p mu) (hl : acc.length + p.1.length ≤ sizeLine) (h4 : loopC asg1 t1 r p.2 p.1 (wipeE env1 vs1) mu = .ok xs mu) :
    loopC2 asg t w1 asg1 t1 r vs1 [] (d :: ds) acc env mu = loopC2 asg t w1 asg1 t1 r vs1 [] ds (acc ++ xs) env mu := by
  show (chk [] >>= fun _ => asg d env >>= fun env1 => t env1 >>= fun b => if b = true then (w1 env1 >>= fun p => need (acc.length + p.1.length ≤ sizeLine) >>= fun _ => loopC asg1 t1 r p.2 p.1 (wipeE env1 vs1) >>= fun xs => loopC2 asg t w1 asg1 t1 r vs1 [] ds (acc ++ xs) env) else loopC2 asg t w1 asg1 t1 r vs1 [] ds acc env) mu = _
  rw [bind_ap, chk_nil]
  dsimp only
  rw [bind_ap, h1]
  dsimp only
  rw [bind_ap, h2]
  dsimp only
  rw [if_pos rfl, bind_ap, h3]
  dsimp only
  rw [bind_ap, need_ap, if_pos hl]
  dsimp only
  rw [bind_ap, h4]
theorem ixD8 {a b c d e f g h x : D} {xs : List D} {mu : List MO} : ixD (a :: b :: c :: d :: e :: f :: g :: h :: x :: xs) 8 mu = .ok x mu := ixD_at (by unfold atI ixN; simp; rw [if_pos (by omega)]; rfl)
end MP
namespace MP
open PySem L2 PyProof.Rows
/-! ### defs that may raise -/
section
variable {P : Program} {w : World} {K : PySem.W.Frag} {mg : Str → Option Value} {base : Heap}
theorem fn_mpX {x qual : Str} {st : Stmt} {f : Addr} {fd : FuncData} {N ps : List Str} {k n : Nat} {r : Env → M Fl} (F : Fun K x qual st f fd) (S : FnScope N ps (defScope st)) (hn : ps.length = n)
    (hbody : ∀ (cdv : Value) (A : Around) (outer : List PySem.Env) (s : Shared) (H : Hp) (E : XK), Room k (A.deeper (envOfC qual (defScope st) s.heap.objs.size f cdv)) → MSs (cxOf (L2.CX P w) P w K mg base N qual (defScope st) f cdv A outer s H E) (MP.WE mg K E) (defBody st) r) :
    FnOk P w K mg base (L2.CX P w) (k + 1) f fd ps (sp K mg n (runB N.length r)) := by
  refine F.okX S (fun vs H Q E h => h.1.trans hn.symm) fun cdv A outer s H vs Q E hr h => ?_
  obtain ⟨_, ds, m, mu, hr1, R, hp⟩ := h
  refine ⟨_, (hbody cdv A outer s H E hr).ps, startE N.length ds, m, mu, startE_rep hr1, R, ?_⟩
  unfold runB at hp
  cases hq : r (startE N.length ds) mu with
  | bad => rw [hq] at hp; exact hp
  | exc x mu' => rw [hq] at hp; exact hp
  | ok fl mu' =>
    rw [hq] at hp
    cases fl with
    | rt rv => exact hp
    | nx e => exact fun m' H' g R' σ' _ => hp m' H' g R' .non (by simp only [Rep])
    | bk e => exact (show False from hp).elim
    | ct e => exact (show False from hp).elim
/-- a def that raises nothing, for callers where something may fly -/
theorem sp_noX {CX : CXT} {k n : Nat} {f : Addr} {fd : FuncData} {ps : List Str} {den : List D → M Rv} (F : FnOk P w K mg base CX k f fd ps (sp K mg n den)) : FnOk P w K mg base CX k f fd ps (sp K mg n fun ds => noX (den ds)) :=
  ⟨fun vs H Q E h => F.len vs H Q E (by
      obtain ⟨a, ds, m, mu, hr, R, hp⟩ := h
      exact ⟨a, ds, m, mu, hr, R, (noX_post hp).wx fun _ _ _ z => z.elim⟩),
    fun A outer s H args us vs Q E hr e0 hb hv h => F.run A outer s H args us vs Q E hr e0 hb hv (by
      obtain ⟨a, ds, m, mu, hr, R, hp⟩ := h
      exact ⟨a, ds, m, mu, hr, R, (noX_post hp).wx fun _ _ _ z => z.elim⟩)⟩
end
section
variable {X : Cx} {W : Wx}
theorem xokL : XOk (L2.CX X.prog X.w) X W0 := ⟨E0, passL, fun _ _ _ h => h.elim⟩
theorem xokE {E : XK} (tk : Takes X fun cls d _ H => E cls d H) : XOk (L2.CX X.prog X.w) X (MP.WE X.mg X.K E) := ⟨E, fun _ _ _ _ e s' I c => tk e s' (XE.of_call I (fun _ _ _ h => h) c), fun _ _ _ h => h⟩
/-- what raises nothing, where something may fly -/
theorem _root_.L2.PS.nox {st : Stmt} {t : TS} (h : PS X.nox st t) : PS X st t :=
  ⟨fun pins s σ H D I hw => wpAny_mono (h.run pins s σ H D (Inv.wish I fun _ _ => False) hw) (fun _ _ q => SP.unwish q) fun _ _ z => z.elim⟩
def sNoX (r : Env → M Fl) : Env → M Fl := fun env => noX (r env)
theorem ms_nox {st : Stmt} {r : Env → M Fl} (h : MS X.nox W0 st r) : MS X W st (sNoX r) := ⟨h.ps.nox.imp fun D σ H ⟨env, m, mu, hE, R, hp⟩ => ⟨env, m, mu, hE, R, noX_post hp⟩⟩
/-! ### raise X('..') -/
def sRaise (x : Xn) : Env → M Fl := fun _ => raise x
/-- what the written part says of an own class of errors -/
structure ExcK (K : PySem.W.Frag) (mg : Str → Option Value) (x : Str) (C : Addr) : Prop where
  gC : mg x = some (.ref C)
  kC : PySem.W.keepIn K (.ref C) = true
  bC : PySem.W.subIn K (.ref C) (.type "BaseException") = some true
  tC : PySem.W.typeIn K (.ref C) = some (.type "type")
  dC : PySem.W.hasDictIn K C = true
abbrev veMro : List Value := [.type "ValueError", .type "Exception", .type "BaseException", .type "object"]
/-- the wish W serves the wish Wo -/
def Serves (X : Cx) (W : Wx) (Wo : WX) : Prop := ∀ x m H cls d σ, W x m H → XRep X.mg X.K m H x cls d → Wo cls d σ H
theorem serves0 {Wo : WX} : Serves X W0 Wo := fun _ _ _ _ _ _ h _ => h.elim
theorem servesE {E : XK} : Serves X (MP.WE X.mg X.K E) fun cls d _ H => E cls d H := fun _ _ _ _ _ _ h r => h _ _ r
theorem ms_raise {x m : Str} {C : Addr} {j : Nat} {p p2 pos pos' : Pos} {Wo : WX} (hc : X.calm = true) (tk : Takes X Wo) (sv : Serves X W Wo) (T : ExcK X.K X.mg x C) (q : PySem.W.excIn X.K C veMro "ValueError.__new__" = true) (hg : Gl X x) (hdb : (x == ("__debug__" : Str)) = false := by decide) :
    MS X W (.Raise (some (.Call (.Name x p) [.Constant (.str m) j p2] [] pos)) none pos') (sRaise ⟨x, []⟩) :=
  ⟨(ps_raise hc tk (pmk_own PySem.F.excBase_ValueError q T.gC T.kC (raises_own T.bC T.tC) hg hdb)).imp fun D σ H ⟨env, m, mu, hE, R, hp⟩ => sv _ _ _ _ _ _ (show W ⟨x, []⟩ m H from hp m H .refl R) ⟨T.gC, rfl⟩⟩
end
/-! ### try -/
/-- what the exception is wished for, at the slots that are known -/
def tryW (mg : Str → Option Value) (K : PySem.W.Frag) (h : Env) (W : WX) : Wx := fun x m H => ∀ cls d, XRep mg K m H x cls d → ∀ σ, RepE K m H h σ → W cls d σ H
open Classical in
/-- a call within a try: h is what is known where it is caught -/
noncomputable def eCallT (fg : List Nat) (h : Env) (den : List D → M Rv) (rs : Env → M (List D)) : Env → M D := fun env => rs env >>= fun xs => if wipeE env fg = h then (den xs >>= fun rv => pure (rvD rv)) else bad
theorem eCallT_ap {fg : List Nat} {h env : Env} {den : List D → M Rv} {rs : Env → M (List D)} (e : wipeE env fg = h) : eCallT fg h den rs env = (rs env >>= fun xs => den xs >>= fun rv => pure (rvD rv)) := by
  unfold eCallT
  simp only [if_pos e]
theorem Post.wxg {K : PySem.W.Frag} {W W' : Wx} {m : Mp} {H : Hp} {α : Type} {r : R α} {Q : α → Mp → List MO → Hp → Prop} (h : Post K W m H r Q) (hw : ∀ x m' H', Grow m m' H H' → W x m' H' → W' x m' H') : Post K W' m H r Q := by
  cases r with
  | ok a mu => exact h
  | exc x mu => exact fun m' H' g R => hw _ _ _ g (h m' H' g R)
  | bad => exact h
section
variable {X : Cx} {W : Wx} {k n : Nat} {f : Addr} {fd : FuncData} {ps : List Str} {den : List D → M Rv} {x : Str} {st : Stmt} {p pos : Pos} {e : Expr} {es : List Expr} {h : Env} {fg : List Nat} {Ws : WX}
theorem me_callT {rs : Env → M (List D)} (T : FnI X.K X.mg x st f fd ps) (F : FnOk X.prog X.w X.K X.mg X.base (L2.CX X.prog X.w) k f fd ps (sp X.K X.mg n den)) (hr : Room k X.A) (tk : Takes X Ws) (hg : Gl X x)
    (ha : MA X (tryW X.mg X.K h Ws) (e :: es) rs) (hl : n = (e :: es).length) (hdb : (x == ("__debug__" : Str)) = false := by decide) (he : starEach (e :: es) X.env = (false, eval e X.env) :: starEach es X.env := by rfl) (hpl : (backTo pos (starEach es X.env)).any (·.1) = false := by rfl) :
    ME X (tryW X.mg X.K h Ws) (.Call (.Name x p) (e :: es) [] pos) (eCallT fg h (lenD n den) rs) := by
  refine ⟨(pe_callS F hr hg T.mg T.fn.kp T.bi (fun σ => passAt tk σ) ha.pa hdb he hpl).imp fun σ H Q ⟨env, m, mu, hE, hR, hp⟩ => ⟨env, m, mu, hE, hR, (Post.bind hp).mono fun xs m1 mu1 H1 g1 R1 hp1 vs rv => ?_⟩⟩
  by_cases hw : wipeE env fg = h
  · rw [if_pos hw] at hp1
    by_cases hlen : xs.length = n
    · have hp2 : Post X.K (tryW X.mg X.K h Ws) m1 H1 (if xs.length = n then den xs mu1 else .bad) _ := Post.bind hp1
      rw [if_pos hlen] at hp2
      refine ⟨by rw [← rv.length]; exact hlen, xs, m1, mu1, rv, R1, (Post.wxg hp2 fun y m' H' g q cls d xr => ?_).mono fun r2 m2 mu2 H2 g2 R2 hp3 => ?_⟩
      · refine q cls d xr σ ?_
        rw [← hw]
        exact ((hE.grow g1).grow g).wipeL fg
      · cases r2 with
        | vl d => exact fun v rv => Post.pure (a := d) hp3 R2 v rv
        | fr ds => exact fun a vs h0 h1 hn hr _ => Post.pure (a := D.fl ds) hp3 R2 _ (by simp only [Rep]; exact ⟨a, vs, rfl, h1, hn, hr⟩)
    · have hp2 : Post X.K (tryW X.mg X.K h Ws) m1 H1 (if xs.length = n then den xs mu1 else .bad) _ := Post.bind hp1
      rw [if_neg hlen] at hp2
      exact (show False from hp2).elim
  · rw [if_neg hw] at hp1
    exact (show False from hp1).elim
/-- .. where nothing may fly: in a def that raises nothing, in one that may raise -/
theorem me_callL {rs : Env → M (List D)} (T : FnI X.K X.mg x st f fd ps) (F : FnOk X.prog X.w X.K X.mg X.base (L2.CX X.prog X.w) k f fd ps (sp X.K X.mg n den)) (hr : Room k X.A) (hx : XOk (L2.CX X.prog X.w) X W) (hg : Gl X x)
    (ha : MA X W (e :: es) rs) (hl : n = (e :: es).length) (hdb : (x == ("__debug__" : Str)) = false := by decide) (he : starEach (e :: es) X.env = (false, eval e X.env) :: starEach es X.env := by rfl) (hpl : (backTo pos (starEach es X.env)).any (·.1) = false := by rfl) :
    ME X W (.Call (.Name x p) (e :: es) [] pos) (eCall (lenD n den) rs) := me_call F hr hg T.mg T.fn.kp T.bi hx ha hl hdb he hpl
end
end MP
/-! ### try with several clauses, some of them with a name -/
namespace L2
open PySem PySem.Spec PyProof.Rows
/-- a clause: its class, the slot of its name, what its suite reads -/
abbrev Cl := Value × Option Nat × (Addr → Value → Option Addr → TS)
def putO : Option Nat → Addr → St → St
  | none, _, σ => σ
  | some i, a, σ => σ.set i (some (.ref a))
def clrO : Option Nat → St → St
  | none, σ => σ
  | some i, σ => σ.set i none
def endsO (o : Option Nat) (D : Ends) : Ends := { nx := fun σ H => D.nx (clrO o σ) H, rt := D.rt, bk := fun σ H => D.bk (clrO o σ) H, ct := fun σ H => D.ct (clrO o σ) H }
def wMix (K : PySem.W.Frag) (Wo : WX) (D : Ends) : List Cl → WX
  | [] => Wo
  | (c, o, ts) :: r => fun cls d σ H => ∃ b, PySem.W.exmOne K cls c = some b ∧ (b = true → ∀ a, H a = none → ts a cls d (endsO o D) (putO o a σ) H) ∧ (b = false → wMix K Wo D r cls d σ H)
inductive Clauses (X : Cx) : List ExceptHandler → List Cl → Prop
  | nil : Clauses X [] []
  | plain {x : Str} {c : Value} {ts : Addr → Value → Option Addr → TS} {st : Stmt} {sts : List Stmt} {q1 q2 : Pos} {r : List ExceptHandler} {l : List Cl} (nm : Names X x c)
      (su : ∀ (a : Addr) (oe : Obj) (cls : Value) (d : Option Addr) (pn : List (Addr × Obj)), Zc cls d oe → (∃ vs, oe.data = .fields vs) → PSs (X.suite a ((a, oe) :: pn)) (st :: sts) (ts a cls d)) (rest : Clauses X r l) :
      Clauses X (.ExceptHandler (some (.Name x q1)) none (st :: sts) q2 :: r) ((c, none, ts) :: l)
  | named {x y : Str} {c : Value} {i : Nat} {ts : Addr → Value → Option Addr → TS} {st : Stmt} {sts : List Stmt} {q1 q2 : Pos} {r : List ExceptHandler} {l : List Cl} (nm : Names X x c) (hi : X.N[i]? = some y) (ln : X.env.kindOf y = some .local)
      (su : ∀ (a : Addr) (oe : Obj) (cls : Value) (d : Option Addr) (pn : List (Addr × Obj)), Zc cls d oe → (∃ vs, oe.data = .fields vs) → PSs (X.suite a ((a, oe) :: pn)) (st :: sts) (ts a cls d)) (rest : Clauses X r l) :
      Clauses X (.ExceptHandler (some (.Name x q1)) (some y) (st :: sts) q2 :: r) ((c, some i, ts) :: l)
section
variable {X : Cx} {pins : List (Addr × Obj)} {σ' : St} {H' : Hp} {sI s' : Shared} {B : Heap} {cls : Value} {d : Option Addr} {a : Addr} {D : Ends} {Wo : WX}
/-- the exception stands caught: what is kept of it -/
structure Caught (X : Cx) (pins : List (Addr × Obj)) (B : Heap) (sI s' : Shared) (cls : Value) (d : Option Addr) (a : Addr) (σ' : St) (H' : Hp) (h3 : Heap) : Prop where
  fr : X.stack = X.env :: X.outer
  lf : X.env.frame = some X.env.locals
  inv : Inv X pins σ' H' sI
  nb : ∀ b o, sI.heap.get? b = some o → b ∉ frs X.stack → B.get? b = some o
  up : sI.heap.UpToSlots h3
  fly : HandSPX.FlyingZ B (X.env :: X.outer) a (Zc cls d) h3
  na : H' a = none
  os : s'.os = sI.os
  ag : AllBare s'.gens
theorem Caught.land (c : Caught X pins B sI s' cls d a σ' H' s'.heap) {h4 : Heap} (fl4 : HandSPX.FlyingZ B (X.env :: X.outer) a (Zc cls d) h4) (up4 : s'.heap.UpToSlots h4) : Inv X pins σ' H' { s' with heap := h4 } :=
  c.inv.landed c.nb fl4.1 (c.up.trans up4) c.os c.ag
theorem Caught.out (c : Caught X pins B sI s' cls d a σ' H' s'.heap) : a ≠ X.env.locals ∧ a ∉ X.fs := by
  obtain ⟨oe, vs, he, hz, hd⟩ := c.fly.there
  have no : a ∉ frs (X.env :: X.outer) := fun hm => by
    obtain ⟨_, o1, e1, hnf⟩ := c.fly.2.2.1.mem hm
    cases he.symm.trans e1
    exact hnf _ hd
  refine ⟨fun z => no (List.mem_filterMap.mpr ⟨X.env, List.mem_cons_self, by rw [c.lf, z]⟩), fun hm => ?_⟩
  obtain ⟨e1, h1, h2⟩ := List.mem_filterMap.mp hm
  exact no (List.mem_filterMap.mpr ⟨e1, List.mem_cons_of_mem _ h1, h2⟩)
/-- the class of a clause is asked -/
theorem Caught.ask (c : Caught X pins B sI s' cls d a σ' H' s'.heap) {x : Str} {cv : Value} {q1 : Pos} {Q : Value → Shared → Prop} {E : Value → Shared → Prop} (nm : Names X x cv) (q : Q cv s') :
    wpAny (model X.prog X.w) (X.A.mark (some (.ref a))) (eval (.Name x q1) X.env) Q E s' := by
  obtain ⟨oe, vs, he, hz, hd⟩ := c.fly.there
  have I3 := c.land c.fly (fun b o e _ => ⟨_, e⟩)
  have S3 := I3.suite he hd c.na c.out.1 c.out.2
  rcases nm with ⟨hg, hdb, hm | ⟨hm, hv, hn⟩⟩
  · exact ld_glob (X := X.suite a ((a, oe) :: (X.pn ++ pins))) S3 hg hm q hdb
  · exact ld_blt (X := X.suite a ((a, oe) :: (X.pn ++ pins))) S3 hg hm hv q hn hdb
theorem Caught.looks (c : Caught X pins B sI s' cls d a σ' H' s'.heap) : PySem.W.Looks (model X.prog X.w) s'.heap (typeOf (.ref a)) cls := by
  obtain ⟨oe, vs, he, hz, hd⟩ := c.fly.there
  exact fun A Q E s k q => wpAny_typeOf_ref (k _ _ he) (by rw [hz.1]; exact q)
/-- no clause is left: it flies on -/
theorem Caught.on (c : Caught X pins B sI s' cls d a σ' H' s'.heap) (tk : Takes X Wo) (w : Wo cls d σ' H') : wpAny (model X.prog X.w) X.A (handleBy (.ref a) X.env []) (SP X pins D) X.xe s' := by
  refine wpAny_handleBy_nil ?_
  obtain ⟨_, _, _, oe, vs, T, oT, ts, he, _, hd, h1, _⟩ := c.fly
  unfold PySem.passOn
  refine wpAny_bind (wpAny_field he hd h1 ?_)
  rw [if_neg (by simp : ¬ ((Value.ref T == Value.none) = true))]
  have last : wpAny (model X.prog X.w) X.A (setFlight (.ref a) X.env.frame) (fun _ s4 => wpAny (model X.prog X.w) X.A (throw (.ref a) : Sem Flow) (SP X pins D) X.xe s4) X.xe s' := by
    rw [c.lf]
    refine HandSPX.setFlight_upZ c.fly fun h4 hh4 up4 => wpAny_throw (tk _ _ ?_)
    exact ⟨a, B, sI, pins, σ', H', cls, d, rfl, c.inv, c.nb, c.up.trans up4, .inr (.inr (by rw [c.fr]; exact hh4)), c.na, c.os, c.ag, w⟩
  first
    | exact wpAny_bind last
    | exact wpAny_bind (wpAny_pure (wpAny_bind last))
/-- the clauses, one after the other -/
theorem Caught.go (hN : X.N.Nodup) (tk : Takes X Wo) (c : Caught X pins B sI s' cls d a σ' H' s'.heap) : ∀ {r : List ExceptHandler} {l : List Cl}, Clauses X r l → wMix X.K Wo D l cls d σ' H' →
    wpAny (model X.prog X.w) X.A (handleBy (.ref a) X.env r) (SP X pins D) X.xe s' := by
  intro r l cl
  induction cl with
  | nil => exact fun w => c.on tk w
  | @plain x cv ts st sts q1 q2 r l nm su rest ih =>
    rintro ⟨b, hb, yes, no⟩
    refine wpAny_handleBy_cons (codeAny_handlers_test (c.ask nm ((PySem.W.exm_one (M := model X.prog X.w) ((c.land c.fly fun b o e _ => ⟨_, e⟩).kIn) c.looks hb).here ?_))) (fun z => nomatch z)
    cases b with
    | false => exact ih (no rfl)
    | true =>
      refine codeAny_handlers_suite (HandSPX.lands_againZ c.fly fun h4 fl4 up4 => ?_)
      obtain ⟨oe, vs, he, hz, hd⟩ := fl4.there
      have S4 := (c.land fl4 up4).suite he hd c.na c.out.1 c.out.2
      refine wpAny_mono ((su a oe cls d (X.pn ++ pins) hz ⟨_, hd⟩).run [] _ _ H' (endsO none D) S4 (yes rfl a c.na)) (fun f s6 sp6 => ?_) (fun _ _ z => z.elim)
      cases f with
      | ret u =>
        obtain ⟨v6, σ6, H6, S6, z⟩ := sp6
        exact ⟨_, _, _, S6.unsuite c.inv.ok, z⟩
      | _ =>
        obtain ⟨σ6, H6, S6, z⟩ := sp6
        exact ⟨_, _, S6.unsuite c.inv.ok, z⟩
  | @named x y cv i ts st sts q1 q2 r l nm hi ln su rest ih =>
    rintro ⟨b, hb, yes, no⟩
    refine wpAny_handleBy_cons (codeAny_handlers_test (c.ask nm ((PySem.W.exm_one (M := model X.prog X.w) ((c.land c.fly fun b o e _ => ⟨_, e⟩).kIn) c.looks hb).here ?_))) (fun z => nomatch z)
    cases b with
    | false => exact ih (no rfl)
    | true =>
      refine codeAny_handlers_suite_as (HandSPX.lands_againZ c.fly fun h4 fl4 up4 => ?_)
      obtain ⟨oe, vs, he, hz, hd⟩ := fl4.there
      have S4 := (c.land fl4 up4).suite he hd c.na c.out.1 c.out.2
      refine store_ok (X := X.suite a ((a, oe) :: (X.pn ++ pins))) (v := .ref a) S4 hN hi (.inl ln) rfl (fun s5 S5 => ?_) (.inr ln)
      refine wpAny_mono ((su a oe cls d (X.pn ++ pins) hz ⟨_, hd⟩).run [] s5 _ H' (endsO (some i) D) S5 (yes rfl a c.na)) (fun f s6 sp6 => ?_) (fun _ _ z => z.elim)
      have fin : ∀ {σ6 : St} {H6 : Hp} {Q : Shared → Prop}, Inv (X.suite a ((a, oe) :: (X.pn ++ pins))) [] σ6 H6 s6 → (∀ s7, Inv X pins (σ6.set i none) H6 s7 → Q s7) →
          wpAny (model X.prog X.w) X.A (do bindName X.env y .none; unbindBehindTheSuite X.env y q2) (fun _ s7 => Q s7) X.xe s6 := fun S6 hq => gone_ok (S6.unsuite c.inv.ok) hN hi ln hq
      cases f with
      | ret u =>
        obtain ⟨v6, σ6, H6, S6, z1, z2⟩ := sp6
        exact fin S6 fun s7 J7 => ⟨_, _, _, J7, z1, z2⟩
      | next =>
        obtain ⟨σ6, H6, S6, z⟩ := sp6
        exact fin S6 fun s7 J7 => ⟨_, _, J7, z⟩
      | brk =>
        obtain ⟨σ6, H6, S6, z⟩ := sp6
        exact fin S6 fun s7 J7 => ⟨_, _, J7, z⟩
      | cont =>
        obtain ⟨σ6, H6, S6, z⟩ := sp6
        exact fin S6 fun s7 J7 => ⟨_, _, J7, z⟩
theorem ps_try_mix {body : List Stmt} {h0 : ExceptHandler} {hs0 : List ExceptHandler} {l : List Cl} {pos : Pos} {tb : WX → TS} (hs : X.stack = X.env :: X.outer) (hf : X.env.frame = some X.env.locals) (hN : X.N.Nodup) (tk : Takes X Wo)
    (hb : ∀ (W : WX) (pn : List (Addr × Obj)) (xe : Value → Shared → Prop), Takes (X.tr pn xe) W → PassesOwn (model X.prog X.w) X.A X.env xe → PSs (X.tr pn xe) body (tb W)) (cl : Clauses X (h0 :: hs0) l) :
    PS X (.Try body (h0 :: hs0) [] [] pos) (fun D σ H => tb (wMix X.K Wo D l) D σ H) := by
  refine ⟨fun pins s σ H D I w => wpAny_Try_except ?_⟩
  have run := hb (wMix X.K Wo D l) (X.pn ++ pins) (fun e s1 => wpAny (model X.prog X.w) X.A (noteFrame e X.env) (fun _ s2 => wpAny (model X.prog X.w) X.A (setFlight e none) (fun _ s3 =>
    wpAny (model X.prog X.w) X.A (handleBy e X.env (h0 :: hs0)) (SP X pins D) X.xe s3) X.xe s2) X.xe s1) (fun u s' xx => ?_) PassesOwn.looking
  · refine wpAny_mono (run.run [] s σ H D (I.toTry _) w) (fun f s1 sp1 => ?_) (fun _ _ z => z)
    cases f with
    | next =>
      obtain ⟨σ1, H1, J1, z⟩ := sp1
      exact wpAny_execs_nil ⟨σ1, H1, J1.ofTry I.ok, z⟩
    | ret u =>
      obtain ⟨v, σ1, H1, J1, z⟩ := sp1
      exact ⟨v, σ1, H1, J1.ofTry I.ok, z⟩
    | _ =>
      obtain ⟨σ1, H1, J1, z⟩ := sp1
      exact ⟨σ1, H1, J1.ofTry I.ok, z⟩
  · obtain ⟨a, B, sI, pins', σ', H', cls, d, rfl, J', nb, up, sky, na, os, ag, w'⟩ := xx
    have J : Inv X pins σ' H' sI := J'.ofTry I.ok
    have sky' : Sky B (X.env :: X.outer) a (Zc cls d) X.env.locals s'.heap := by rw [← hs]; exact sky
    refine Sky.land Zc.steady (by rw [I.ok.frames, hs]) hf sky' fun h3 fl3 up3 => ?_
    exact Caught.go (s' := { s' with heap := h3 }) hN tk ⟨hs, hf, J, nb, up.trans up3, fl3, na, os, ag⟩ cl w'
end
end L2
namespace L2
open PySem PySem.Spec PyProof.Rows
/-- isinstance(e, c), e the exception that the suite holds, with a dict or none -/
def rIsX (K : PySem.W.Frag) (D a : Addr) (d : Option Addr) : List V → Hp → VK → Prop := fun xs H Q => (∀ dd, d = some dd → ∃ gs, H dd = some (.xd gs)) ∧ ∃ (c : V) (cv : Value) (b : Bool), xs = [.ref a, c] ∧ (∀ u, RelV c u → u = cv) ∧ PySem.W.kitOne K (.ref D) cv = some b ∧ Q (.bl b) H
theorem call_isX {X : Cx} {a D : Addr} {oe : Obj} {d : Option Addr} {pn : List (Addr × Obj)} (C : ExcC X.K D) (hz : Zc (.ref D) d oe) (hf : ∃ vs, oe.data = .fields vs) : CallR (X.suite a ((a, oe) :: pn)) (.builtin "isinstance") (rIsX X.K D a d) := by
  rintro pins s σ H xs us Q I r ⟨hd, c, cv, b, rfl, hcv, e, q⟩
  match us, r with
  | [u1, u2], .cons r1 (.cons r2 .nil) =>
    obtain rfl : u1 = Value.ref a := r1
    obtain rfl := hcv _ r2
    obtain ⟨vs, hv⟩ := hf
    have hget := (I.pin (a, oe) (List.mem_append_left _ List.mem_cons_self)).1
    have J : ∃ od, PySem.W.InstAt s.heap a oe D od := by
      cases hdo : d with
      | none => exact ⟨none, hget, hz.1, by unfold PySem.W.notCls; rw [hv] <;> rfl, by rw [hz.2, hdo]; trivial⟩
      | some dd =>
        obtain ⟨gs, hgs⟩ := hd dd hdo
        obtain ⟨mA, hns, _⟩ : ObjOk X.prog X.w H s.heap dd (.xd gs) := I.hok dd _ hgs
        obtain ⟨od, ho, _⟩ := lookIn_ns hns
        exact ⟨some od, hget, hz.1, by unfold PySem.W.notCls; rw [hv] <;> rfl, by rw [hz.2, hdo]; exact ho⟩
    obtain ⟨od, J⟩ := J
    obtain ⟨cd, hc, _⟩ := PySem.W.any_some C.hd
    exact PySem.W.kia_one (PySem.W.kitx_exc (od := od) (by rw [hc]; rfl) C.hg C.hk C.hs C.ha C.hn C.ht C.hm) I.kIn J e (fun z => nomatch z) fun tk => ⟨.bl b, H, I.kept (t' := tk) fun _ _ z => z, rfl, q⟩
end L2
namespace MP
open PySem L2 PyProof.Rows
/-! ### which classes are meant -/
abbrev XTab := Str → Option Bool
def xtab (l : List (Str × Bool)) : XTab := fun n => (l.find? fun p => p.1 == n).map (·.2)
theorem xtab_mem {l : List (Str × Bool)} {n : Str} {b : Bool} (h : xtab l n = some b) : (n, b) ∈ l := by
  unfold xtab at h
  cases e : l.find? (fun p => p.1 == n) with
  | none => rw [e] at h; cases h
  | some p =>
    rw [e] at h
    have h1 := List.mem_of_find?_eq_some e
    have h2 : (fun q : Str × Bool => q.1 == n) p = true := List.find?_some (p := fun q : Str × Bool => q.1 == n) e
    obtain ⟨p1, p2⟩ := p
    cases h
    have : p1 = n := eq_of_beq h2
    subst this
    exact h1
/-- an except clause of the class c -/
def ExcTab (mg : Str → Option Value) (K : PySem.W.Frag) (c : Value) (tab : XTab) : Prop := ∀ n cls b, mg n = some cls → tab n = some b → PySem.W.exmOne K cls c = some b
/-- isinstance(e, c) -/
def IsTab (mg : Str → Option Value) (K : PySem.W.Frag) (c : Value) (tab : XTab) : Prop := ∀ n cls b, mg n = some cls → tab n = some b → ∃ D, cls = .ref D ∧ ExcC K D ∧ PySem.W.kitOne K (.ref D) c = some b
/-! ### the clauses, in the small semantics -/
abbrev Hd := XTab × (Xn → Env → M Fl)
def pickH : List Hd → Xn → Env → M Fl
  | [], x, _ => raise x
  | (t, r) :: l, x, h => match t x.cls with
    | some true => noX (r x h)
    | some false => pickH l x h
    | none => bad
/-- behind a suite with a name the name is gone -/
def goneR (i : Nat) : R Fl → R Fl
  | .ok (.nx e) mu => .ok (.nx (e.set i none)) mu
  | .ok (.bk e) mu => .ok (.bk (e.set i none)) mu
  | .ok (.ct e) mu => .ok (.ct (e.set i none)) mu
  | r => r
def asH (i : Nat) (r : Xn → Env → M Fl) : Xn → Env → M Fl := fun x h mu => match h[i]? with
  | some none => goneR i (r x h mu)
  | _ => .bad
def tryR (hs : List Hd) (h : Env) : R Fl → R Fl
  | .exc x mu => pickH hs x h mu
  | r => r
def sTry (fg : List Nat) (rb : Env → Env → M Fl) (hs : List Hd) : Env → M Fl := fun env mu => tryR hs (wipeE env fg) (rb (wipeE env fg) env mu)
/-! ### suites with the exception's name in slot i -/
abbrev Zs := Mp → Hp → Prop
def FlQG (K : PySem.W.Frag) (i : Nat) (a : Addr) (D : Ends) (H : Hp) (fl : Fl) (m' : Mp) (mu' : List MO) (H' : Hp) : Prop := match fl with
  | .nx e => ∀ σ', RepE K m' H' e σ' → σ'[i]? = some (some (.ref a)) → D.nx σ' H'
  | .rt rv => RvQ K H rv m' mu' H' D.rt
  | .bk e => ∀ σ', RepE K m' H' e σ' → σ'[i]? = some (some (.ref a)) → D.bk σ' H'
  | .ct e => ∀ σ', RepE K m' H' e σ' → σ'[i]? = some (some (.ref a)) → D.ct σ' H'
def tSG (K : PySem.W.Frag) (i : Nat) (a : Addr) (Z : Zs) (r : Env → M Fl) : TS := fun D σ H => ∃ env m mu, RepE K m H env σ ∧ Rel K m mu H ∧ σ[i]? = some (some (.ref a)) ∧ Z m H ∧ Post K W0 m H (r env mu) fun fl m' mu' H' => FlQG K i a D H fl m' mu' H'
def tEG (K : PySem.W.Frag) (i : Nat) (a : Addr) (Z : Zs) (r : Env → M D) : TE := fun σ H Q => ∃ env m mu, RepE K m H env σ ∧ Rel K m mu H ∧ σ[i]? = some (some (.ref a)) ∧ Z m H ∧ Post K W0 m H (r env mu) fun d m' _ H' => ∀ v, Rep K m' H' d v → Q v H'
def tTG (K : PySem.W.Frag) (i : Nat) (a : Addr) (Z : Zs) (r : Env → M Bool) : TT := fun σ H Q => ∃ env m mu, RepE K m H env σ ∧ Rel K m mu H ∧ σ[i]? = some (some (.ref a)) ∧ Z m H ∧ Post K W0 m H (r env mu) fun b _ _ H' => Q b H'
def tAG (K : PySem.W.Frag) (i : Nat) (a : Addr) (Z : Zs) (r : Env → M (List D)) : TA := fun σ H Q => ∃ env m mu, RepE K m H env σ ∧ Rel K m mu H ∧ σ[i]? = some (some (.ref a)) ∧ Z m H ∧ Post K W0 m H (r env mu) fun ds m' _ H' => ∀ vs, Reps K m' H' ds vs → Q vs H'
structure MSG (X : Cx) (i : Nat) (a : Addr) (Z : Zs) (st : Stmt) (r : Env → M Fl) : Prop where
  ps : PS X st (tSG X.K i a Z r)
structure MSsG (X : Cx) (i : Nat) (a : Addr) (Z : Zs) (st : List Stmt) (r : Env → M Fl) : Prop where
  ps : PSs X st (tSG X.K i a Z r)
structure MEG (X : Cx) (i : Nat) (a : Addr) (Z : Zs) (e : Expr) (r : Env → M D) : Prop where
  pe : PE X e (tEG X.K i a Z r)
structure MTG (X : Cx) (i : Nat) (a : Addr) (Z : Zs) (e : Expr) (r : Env → M Bool) : Prop where
  pt : PT X e (tTG X.K i a Z r)
structure MAG (X : Cx) (i : Nat) (a : Addr) (Z : Zs) (es : List Expr) (r : Env → M (List D)) : Prop where
  pa : PA X es (tAG X.K i a Z r)
/-- what a suite is told of its exception -/
structure Held (X : Cx) (a : Addr) (oe : Obj) (cls : Value) (d : Option Addr) (x : Xn) : Prop where
  hz : Zc cls d oe
  hf : ∃ vs, oe.data = .fields vs
  mc : X.mg x.cls = some cls
inductive MCl (X : Cx) : List ExceptHandler → List Hd → Prop
  | nil : MCl X [] []
  | plain {x : Str} {c : Value} {tab : XTab} {r : Env → M Fl} {st : Stmt} {sts : List Stmt} {q1 q2 : Pos} {hr : List ExceptHandler} {l : List Hd} (nm : Names X x c) (tb : ExcTab X.mg X.K c tab)
      (su : ∀ (a : Addr) (oe : Obj) (pn : List (Addr × Obj)), MSs (X.suite a ((a, oe) :: pn)) W0 (st :: sts) r) (rest : MCl X hr l) : MCl X (.ExceptHandler (some (.Name x q1)) none (st :: sts) q2 :: hr) ((tab, fun _ => r) :: l)
  | named {x y : Str} {c : Value} {i : Nat} {tab : XTab} {r : Xn → Env → M Fl} {st : Stmt} {sts : List Stmt} {q1 q2 : Pos} {hr : List ExceptHandler} {l : List Hd} (nm : Names X x c) (tb : ExcTab X.mg X.K c tab) (hi : X.N[i]? = some y) (ln : X.env.kindOf y = some .local)
      (su : ∀ (e : Xn) (a : Addr) (oe : Obj) (cls : Value) (d : Option Addr) (pn : List (Addr × Obj)), Held X a oe cls d e → MSsG (X.suite a ((a, oe) :: pn)) i a (fun m H => XRep X.mg X.K m H e cls d) (st :: sts) (r e)) (rest : MCl X hr l) :
      MCl X (.ExceptHandler (some (.Name x q1)) (some y) (st :: sts) q2 :: hr) ((tab, asH i r) :: l)
theorem RepE.unset {K : PySem.W.Frag} {m : Mp} {H : Hp} {e : Env} {σ : L2.St} {i : Nat} {o : Option V} (r : RepE K m H e σ) : RepE K m H (e.set i none) (σ.set i o) := by
  refine ⟨by rw [List.length_set, List.length_set]; exact r.len, fun j d h => ?_⟩
  by_cases hj : i = j
  · subst hj
    rw [List.getElem?_set_self' ] at h
    cases q : e[i]? with
    | none => rw [q] at h; cases h
    | some z => rw [q] at h; cases h
  · rw [List.getElem?_set_ne hj] at h
    rw [List.getElem?_set_ne hj]
    exact r.get j d h
theorem RepE.put {K : PySem.W.Frag} {m : Mp} {H : Hp} {e : Env} {σ : L2.St} {i : Nat} {o : Option V} (r : RepE K m H e σ) (hn : ∀ d, e[i]? ≠ some (some d)) : RepE K m H e (σ.set i o) := by
  refine ⟨by rw [List.length_set]; exact r.len, fun j d h => ?_⟩
  by_cases hj : i = j
  · subst hj; exact absurd h (hn d)
  · rw [List.getElem?_set_ne hj]
    exact r.get j d h
section
variable {X : Cx} {W : Wx} {Wo : WX} {D : Ends}
/-- the clauses' wish from the small semantics -/
theorem mix_of (sv : Serves X W Wo) {hr : List ExceptHandler} {l : List Hd} (c : MCl X hr l) : ∃ cl : List Cl, Clauses X hr cl ∧ ∀ (D : Ends) (x : Xn) (h : Env) (mu' : List MO) (m' m0 : Mp) (H0 H' : Hp), Grow m0 m' H0 H' → Rel X.K m' mu' H' →
    Post X.K W m' H' (pickH l x h mu') (fun fl m'' mu'' H'' => FlQ X.K D H0 fl m'' mu'' H'') → ∀ cls d, XRep X.mg X.K m' H' x cls d → ∀ σ, RepE X.K m' H' h σ → wMix X.K Wo D cl cls d σ H' := by
  induction c with
  | nil => exact ⟨[], .nil, fun D x h mu' m' m0 H0 H' g0 R' hp cls d xr σ hE => sv _ _ _ _ _ _ (show W x m' H' from hp m' H' .refl R') xr⟩
  | @plain xn c tab r st sts q1 q2 hr l nm tb su rest ih =>
    obtain ⟨cl, hcl, hw⟩ := ih
    refine ⟨(c, none, fun a cls d => tS X.K W0 r) :: cl, .plain nm (fun a oe cls d pn hz hf => (su a oe pn).ps) hcl, fun D x h mu' m' m0 H0 H' g0 R' hp cls d xr σ hE => ?_⟩
    unfold pickH at hp
    cases ht : tab x.cls with
    | none => rw [ht] at hp; exact (show False from hp).elim
    | some b =>
      rw [ht] at hp
      refine ⟨b, tb _ _ _ xr.1 ht, fun hb a na => ?_, fun hb => ?_⟩
      · subst hb
        refine ⟨h, m', mu', hE, R', (noX_post hp).mono fun fl m2 mu2 H2 g2 R2 q => ?_⟩
        have q := FlQ.from q g0
        cases fl <;> exact q
      · subst hb
        exact hw D x h mu' m' m0 H0 H' g0 R' hp cls d xr σ hE
  | @named xn y c i tab r st sts q1 q2 hr l nm tb hi ln su rest ih =>
    obtain ⟨cl, hcl, hw⟩ := ih
    refine ⟨(c, some i, fun a cls d D σ H => ∃ e : Xn, X.mg e.cls = some cls ∧ tSG X.K i a (fun m H => XRep X.mg X.K m H e cls d) (r e) D σ H) :: cl,
      .named nm hi ln (fun a oe cls d pn hz hf => ⟨fun pins s σ H D I ⟨e, mc, w⟩ => (su e a oe cls d pn ⟨hz, hf, mc⟩).ps.run pins s σ H D I w⟩) hcl, fun D x h mu' m' m0 H0 H' g0 R' hp cls d xr σ hE => ?_⟩
    unfold pickH at hp
    cases ht : tab x.cls with
    | none => rw [ht] at hp; exact (show False from hp).elim
    | some b =>
      rw [ht] at hp
      refine ⟨b, tb _ _ _ xr.1 ht, fun hb a na => ?_, fun hb => ?_⟩
      · subst hb
        have hp := noX_post hp
        unfold asH at hp
        cases hh : h[i]? with
        | none => rw [hh] at hp; exact (show False from hp).elim
        | some o =>
          rw [hh] at hp
          cases o with
          | some z => exact (show False from hp).elim
          | none =>
            have hp : Post X.K W0 m' H' (goneR i (r x h mu')) (fun fl m'' mu'' H'' => FlQ X.K D H0 fl m'' mu'' H'') := hp
            have hlt : i < σ.length := by rw [← hE.len]; exact (List.getElem?_eq_some_iff.mp hh).1
            refine ⟨x, xr.1, h, m', mu', hE.put (fun z e => by rw [hh] at e; cases e), R', ?_, xr, ?_⟩
            · show (σ.set i (some (.ref a)))[i]? = _
              rw [List.getElem?_set_self hlt]
            · cases hq : r x h mu' with
              | bad => rw [hq] at hp; exact hp
              | exc y mu2 => rw [hq] at hp; exact hp
              | ok fl mu2 =>
                rw [hq] at hp
                cases fl with
                | rt rv => exact fun m2 H2 g2 R2 => RvQ.from (hp m2 H2 g2 R2) g0
                | nx e => exact fun m2 H2 g2 R2 σ2 hE2 _ => hp m2 H2 g2 R2 _ hE2.unset
                | bk e => exact fun m2 H2 g2 R2 σ2 hE2 _ => hp m2 H2 g2 R2 _ hE2.unset
                | ct e => exact fun m2 H2 g2 R2 σ2 hE2 _ => hp m2 H2 g2 R2 _ hE2.unset
      · subst hb
        exact hw D x h mu' m' m0 H0 H' g0 R' hp cls d xr σ hE
theorem ms_try {body : List Stmt} {h0 : ExceptHandler} {hr : List ExceptHandler} {l : List Hd} {pos : Pos} {fg : List Nat} {rb : Env → Env → M Fl} (hs : X.stack = X.env :: X.outer) (hf : X.env.frame = some X.env.locals) (hN : X.N.Nodup) (tk : Takes X Wo) (sv : Serves X W Wo)
    (hb : ∀ (h : Env) (Ws : WX) (pn : List (Addr × Obj)) (xe : Value → Shared → Prop), Takes (X.tr pn xe) Ws → PassesOwn (model X.prog X.w) X.A X.env xe → MSs (X.tr pn xe) (tryW X.mg X.K h Ws) body (rb h)) (cl : MCl X (h0 :: hr) l) :
    MS X W (.Try body (h0 :: hr) [] [] pos) (sTry fg rb l) := by
  obtain ⟨cs, hcs, hw⟩ := mix_of sv cl
  refine ⟨(ps_try_mix (tb := fun Ws D σ H => ∃ env m mu, RepE X.K m H env σ ∧ Rel X.K m mu H ∧ Post X.K (tryW X.mg X.K (wipeE env fg) Ws) m H (rb (wipeE env fg) env mu) fun fl m' mu' H' => FlQ X.K D H fl m' mu' H') hs hf hN tk
    (fun Ws pn xe tk' pa => ⟨fun pins s σ H D I ⟨env, m, mu, hE, R, hp⟩ => (hb (wipeE env fg) Ws pn xe tk' pa).ps.run pins s σ H D I ⟨env, m, mu, hE, R, hp⟩⟩) hcs).imp fun D σ H ⟨env, m, mu, hE, R, hp⟩ => ⟨env, m, mu, hE, R, ?_⟩⟩
  unfold sTry at hp
  cases hq : rb (wipeE env fg) env mu with
  | ok fl mu' => rw [hq] at hp; exact hp
  | bad => rw [hq] at hp; exact hp
  | exc x mu' =>
    rw [hq] at hp
    have hp : Post X.K W m H (pickH l x (wipeE env fg) mu') (fun fl m'' mu'' H'' => FlQ X.K D H fl m'' mu'' H'') := hp
    exact fun m' H' g R' cls d xr σ' hE' => hw D x _ mu' m' m H H' g R' (hp.grow g) cls d xr σ' hE'
end
end MP
namespace MP
open PySem L2 PyProof.Rows
/-! ### suites that name their exception: the rules -/
/-- a fact that stays while the heap grows -/
def ZSt (K : PySem.W.Frag) (Z : Zs) : Prop := ∀ m m' mu H H', Grow m m' H H' → Rel K m mu H → Z m H → Z m' H'
theorem xrep_st {mg : Str → Option Value} {K : PySem.W.Frag} {x : Xn} {cls : Value} {d : Option Addr} : ZSt K fun m H => XRep mg K m H x cls d := fun m m' mu H H' g R h => by
  refine ⟨h.1, ?_⟩
  have h2 := h.2
  cases d with
  | none => exact h2
  | some p =>
    obtain ⟨gs, e1, e2, e3⟩ := h2
    have hn : p ∉ m.ad := fun hm => by
      rcases R.mem hm with ⟨vs, z⟩ | ⟨vs, z⟩ <;> (rw [e1] at z; cases z)
    exact ⟨gs, g.oth p _ e1 hn, e2, Reps.grow g _ _ e3⟩
def eIs (tab : XTab) (x : Xn) : Env → M D := fun _ => match tab x.cls with
  | some b => pure (.bl b)
  | none => bad
@[simp] theorem eIs_ap {tab : XTab} {x : Xn} {env : Env} : eIs tab x env = match tab x.cls with
  | some b => pure (.bl b)
  | none => bad := rfl
def eFld (ft : Str → Bool) (n : Str) (x : Xn) : Env → M D := fun _ => if ft x.cls = true then match x.fs.lookup n with
  | some d => pure d
  | none => bad else bad
@[simp] theorem eFld_ap {ft : Str → Bool} {n : Str} {x : Xn} {env : Env} : eFld ft n x env = if ft x.cls = true then match x.fs.lookup n with
  | some d => pure d
  | none => bad else bad := rfl
theorem lookup_rep {K : PySem.W.Frag} {m : Mp} {H : Hp} {n : Str} : ∀ {fs : List (Str × D)} {gs : List (Str × V)}, gs.map (·.1) = fs.map (·.1) → Reps K m H (fs.map (·.2)) (gs.map (·.2)) → ∀ d, fs.lookup n = some d → ∃ v, gs.lookup n = some v ∧ Rep K m H d v
  | [], _, _, _, d, h => by cases h
  | (k, x) :: fs, [], e, _, d, h => by cases e
  | (k, x) :: fs, (j, y) :: gs, e, r, d, h => by
    rw [List.map_cons, List.map_cons, List.cons.injEq] at e
    have e1 : j = k := e.1
    subst e1
    rw [List.map_cons, List.map_cons] at r
    obtain ⟨v, rr, q1, q2, q3⟩ := Reps.cons_iff.mp r
    cases q1
    rw [List.lookup_cons] at h ⊢
    cases hk : n == j with
    | true =>
      rw [hk] at h
      cases h
      exact ⟨_, rfl, q2⟩
    | false =>
      rw [hk] at h
      exact lookup_rep e.2 q3 d h
section
variable {X : Cx} {i : Nat} {a : Addr} {Z : Zs} {e b : Expr} {es : List Expr} {st : Stmt} {rest : List Stmt} {pos p p1 p2 : Pos}
theorem meg_of {r : Env → M D} (h : ME X W0 e r) : MEG X i a Z e r := ⟨h.pe.imp fun σ H Q ⟨env, m, mu, hE, hR, _, _, hp⟩ => ⟨env, m, mu, hE, hR, hp⟩⟩
theorem pe_never {t : TE} (h : ∀ σ H Q, ¬ t σ H Q) : PE X e t := ⟨fun pins s σ H Q I w => (h σ H Q w).elim⟩
theorem meg_isi {oe : Obj} {cls cv : Value} {d : Option Addr} {pn : List (Addr × Obj)} {x : Xn} {y t z : Str} {cV : V} {tab : XTab} (hd : Held X a oe cls d x) (T : IsTab X.mg X.K cv tab) (ht : PE (X.suite a ((a, oe) :: pn)) (.Name t p2) (tC cV)) (hcv : ∀ u, RelV cV u → u = cv) (hy : PE (X.suite a ((a, oe) :: pn)) (.Name y p1) (tVar i))
    (hg : Gl X z) (hm : X.mg z = none) (hv : bootBuiltins z = some (.builtin "isinstance")) (hn : z ≠ "__name__" := by decide) (hdb : (z == ("__debug__" : Str)) = false := by decide)
    (h1 : starEach [.Name t p2] X.env = (false, eval (.Name t p2) X.env) :: starEach [] X.env := by rfl) (he : starEach [.Name y p1, .Name t p2] X.env = (false, eval (.Name y p1) X.env) :: starEach [.Name t p2] X.env := by rfl) (hpl : (backTo pos (starEach [.Name t p2] X.env)).any (·.1) = false := by rfl) :
    MEG (X.suite a ((a, oe) :: pn)) i a (fun m H => XRep X.mg X.K m H x cls d) (.Call (.Name z p) [.Name y p1, .Name t p2] [] pos) (eIs tab x) := by
  cases hb : tab x.cls with
  | none => exact ⟨pe_never fun σ H Q ⟨env, m, mu, hE, hR, _, _, hp⟩ => by unfold eIs at hp; rw [hb] at hp; exact hp⟩
  | some b =>
    obtain ⟨Dc, rfl, hD, hk⟩ := T _ _ _ hd.mc hb
    refine ⟨(pe_callB (call_isX hD hd.hz hd.hf) hg hm hv (pa_cons hy (pa_cons ht pa_nil h1) he) hn hdb he hpl).imp fun σ H Q ⟨env, m, mu, hE, hR, hs, hx, hp⟩ => ⟨.ref a, hs, ?_⟩⟩
    refine ⟨fun dd ed => ?_, cV, cv, b, rfl, hcv, hk, ?_⟩
    · have h2 := hx.2
      rw [ed] at h2
      obtain ⟨gs, g1, _⟩ := h2
      exact ⟨gs, g1⟩
    · unfold eIs at hp
      rw [hb] at hp
      exact Post.pure (a := D.bl b) hp hR (.bl b) (by simp only [Rep])
theorem meg_fld {oe : Obj} {cls : Value} {d : Option Addr} {pn : List (Addr × Obj)} {x : Xn} {y n : Str} {ft : Str → Bool} (hd : Held X a oe cls d x) (T : ∀ nm cls, X.mg nm = some cls → ft nm = true → ∃ D, cls = .ref D ∧ XfC X.K D ∧ PySem.W.findIn X.K (.ref D) n = some none) (hy : PE (X.suite a ((a, oe) :: pn)) (.Name y p1) (tVar i))
    (hb : attributeBase (.Name y p1) n X.env (eval (.Name y p1) X.env) = eval (.Name y p1) X.env := by rfl) :
    MEG (X.suite a ((a, oe) :: pn)) i a (fun m H => XRep X.mg X.K m H x cls d) (.Attribute (.Name y p1) n pos) (eFld ft n x) := by
  cases hf : ft x.cls with
  | false => exact ⟨pe_never fun σ H Q ⟨env, m, mu, hE, hR, _, _, hp⟩ => by unfold eFld at hp; rw [hf] at hp; exact hp⟩
  | true =>
    obtain ⟨Dc, rfl, xf, no⟩ := T _ _ hd.mc hf
    refine ⟨(pe_xf xf no hd.hz hd.hf hy hb).imp fun σ H Q ⟨env, m, mu, hE, hR, hs, hx, hp⟩ => ⟨.ref a, hs, rfl, rfl, ?_⟩⟩
    unfold eFld at hp
    rw [if_pos hf] at hp
    have h2 := hx.2
    cases hl : x.fs.lookup n with
    | none => rw [hl] at hp; exact (show False from hp).elim
    | some q =>
      rw [hl] at hp
      cases d with
      | none =>
        have h2 : x.fs = [] := h2
        rw [h2] at hl; cases hl
      | some dd =>
        obtain ⟨gs, g1, g2, g3⟩ := h2
        obtain ⟨v, v1, v2⟩ := lookup_rep g2 g3 q hl
        exact ⟨dd, gs, v, rfl, g1, v1, Post.pure (a := q) hp hR v v2⟩
theorem meg_not {r : Env → M D} (h : MEG X i a Z e r) : MEG X i a Z (.UnaryOp .Not e pos) (eMap gNot r) := ⟨(pe_not h.pe).imp fun σ H Q ⟨env, m, mu, hE, hR, hs, hz, hp⟩ =>
  ⟨env, m, mu, hE, hR, hs, hz, (Post.bind hp).mono fun x m1 mu1 H1 g1 R1 hp v rv => by
    obtain ⟨c, rfl, rfl, hp⟩ := toB_ok R1 rv (Post.bind hp)
    exact ⟨c, rfl, Post.pure hp R1 _ (by simp only [Rep])⟩⟩⟩
theorem meg_one {op} {r : Env → M D} (h : MEG X i a Z e r) : MEG X i a Z (.BoolOp op [e] pos) r := ⟨pe_one h.pe⟩
theorem meg_and {r r' : Env → M D} (zs : ZSt X.K Z) (h : MEG X i a Z e r) (h' : MEG X i a Z (.BoolOp .And (b :: es) pos) r') : MEG X i a Z (.BoolOp .And (e :: b :: es) pos) (eAnd r r') := ⟨(pe_and h.pe h'.pe).imp fun σ H Q ⟨env, m, mu, hE, hR, hs, hz, hp⟩ =>
  ⟨env, m, mu, hE, hR, hs, hz, (Post.bind hp).mono fun x m1 mu1 H1 g1 R1 hp v rv => by
    obtain ⟨c, rfl, rfl, hp⟩ := toB_ok R1 rv (Post.bind hp)
    refine ⟨c, rfl, ?_⟩
    cases c
    · exact Post.pure hp R1 _ (by simp only [Rep])
    · exact ⟨env, m1, mu1, hE.grow g1, R1, hs, zs _ _ _ _ _ g1 hR hz, hp⟩⟩⟩
theorem meg_or {r r' : Env → M D} (zs : ZSt X.K Z) (h : MEG X i a Z e r) (h' : MEG X i a Z (.BoolOp .Or (b :: es) pos) r') : MEG X i a Z (.BoolOp .Or (e :: b :: es) pos) (eOr r r') := ⟨(pe_or h.pe h'.pe).imp fun σ H Q ⟨env, m, mu, hE, hR, hs, hz, hp⟩ =>
  ⟨env, m, mu, hE, hR, hs, hz, (Post.bind hp).mono fun x m1 mu1 H1 g1 R1 hp v rv => by
    obtain ⟨c, rfl, rfl, hp⟩ := toB_ok R1 rv (Post.bind hp)
    refine ⟨c, rfl, ?_⟩
    cases c
    · exact ⟨env, m1, mu1, hE.grow g1, R1, hs, zs _ _ _ _ _ g1 hR hz, hp⟩
    · exact Post.pure hp R1 _ (by simp only [Rep])⟩⟩
theorem mag_nil : MAG X i a Z [] aNil := ⟨pa_nil.imp fun σ H Q ⟨env, m, mu, hE, hR, _, _, hp⟩ => Post.pure hp hR [] (Reps.nil_iff.mpr rfl)⟩
theorem mag_cons {r : Env → M D} {rs : Env → M (List D)} (zs : ZSt X.K Z) (h : MEG X i a Z e r) (hs : MAG X i a Z es rs) (he : starEach (e :: es) X.env = (false, eval e X.env) :: starEach es X.env := by rfl) : MAG X i a Z (e :: es) (aCons r rs) :=
  ⟨(pa_cons h.pe hs.pa he).imp fun σ H Q ⟨env, m, mu, hE, hR, hσ, hz, hp⟩ =>
    ⟨env, m, mu, hE, hR, hσ, hz, (Post.bind hp).mono fun x m1 mu1 H1 g1 R1 hp v rv => ⟨env, m1, mu1, hE.grow g1, R1, hσ, zs _ _ _ _ _ g1 hR hz, (Post.bind hp).mono fun xs m2 mu2 H2 g2 R2 hp vs rvs =>
      Post.pure hp R2 (v :: vs) (Reps.cons_iff.mpr ⟨v, vs, rfl, Rep.grow g2 x v rv, rvs⟩)⟩⟩⟩
theorem meg_tup {x1} {rs : Env → M (List D)} (h : MAG X i a Z es rs) : MEG X i a Z (.Tuple es x1 pos) (aThen gTup rs) := ⟨(pe_tup h.pa).imp fun σ H Q ⟨env, m, mu, hE, hR, hσ, hz, hp⟩ =>
  ⟨env, m, mu, hE, hR, hσ, hz, (Post.bind hp).mono fun xs m1 mu1 H1 g1 R1 hp vs rv => by
    obtain ⟨c, hp⟩ := need_ok R1 (Post.bind hp)
    refine ⟨by rw [← rv.length]; exact c, fun p hn => ?_⟩
    obtain ⟨g, R', rp⟩ := new_tup R1 rv hn
    exact hp m1 _ g R' _ rp⟩⟩
/-! tests -/
theorem mtg_val {r : Env → M D} (h : MEG X i a Z e r) (he : ∀ whole, isTrue e X.env whole = (do let v ← whole; standAt e.pos; holding [v] (truthy v)) := by intro _; rfl) : MTG X i a Z e (eB r) :=
  ⟨(pt_val h.pe he).imp fun σ H Q ⟨env, m, mu, hE, hR, hσ, hz, hp⟩ => ⟨env, m, mu, hE, hR, hσ, hz, (Post.bind hp).mono fun x m1 mu1 H1 g1 R1 hp1 v rv => by
    cases x with
    | bl b =>
      simp only [Rep] at rv
      exact ⟨b, rv, Post.pure hp1 R1⟩
    | _ => exact hp1.elim⟩⟩
theorem mtg_not {r : Env → M Bool} (h : MTG X i a Z e r) : MTG X i a Z (.UnaryOp .Not e pos) (bNot r) :=
  ⟨(pt_not h.pt).imp fun σ H Q ⟨env, m, mu, hE, hR, hσ, hz, hp⟩ => ⟨env, m, mu, hE, hR, hσ, hz, (Post.bind hp).mono fun b m1 mu1 H1 g1 R1 hp1 => Post.pure (a := !b) hp1 R1⟩⟩
structure MWG (X : Cx) (i : Nat) (a : Addr) (Z : Zs) (e : Expr) (r : Env → M Bool) : Prop where
  pw : PW X e (tTG X.K i a Z r)
theorem MWG.mt {r : Env → M Bool} (h : MWG X i a Z e r) : MTG X i a Z e r := ⟨h.pw.pt⟩
theorem mwg_and1 {r : Env → M Bool} (h : MTG X i a Z e r) : MWG X i a Z (.BoolOp .And [e] pos) r := ⟨pw_and1 h.pt⟩
theorem mwg_or1 {r : Env → M Bool} (h : MTG X i a Z e r) : MWG X i a Z (.BoolOp .Or [e] pos) r := ⟨pw_or1 h.pt⟩
theorem mwg_and {r r' : Env → M Bool} (zs : ZSt X.K Z) (h : MTG X i a Z e r) (h' : MWG X i a Z (.BoolOp .And (b :: es) pos) r') : MWG X i a Z (.BoolOp .And (e :: b :: es) pos) (bAnd r r') :=
  ⟨(pw_and h.pt h'.pw).imp fun σ H Q ⟨env, m, mu, hE, hR, hσ, hz, hp⟩ => ⟨env, m, mu, hE, hR, hσ, hz, (Post.bind hp).mono fun b m1 mu1 H1 g1 R1 hp1 => by
    cases b
    · exact Post.pure (a := false) hp1 R1
    · exact ⟨env, m1, mu1, hE.grow g1, R1, hσ, zs _ _ _ _ _ g1 hR hz, hp1⟩⟩⟩
theorem mwg_or {r r' : Env → M Bool} (zs : ZSt X.K Z) (h : MTG X i a Z e r) (h' : MWG X i a Z (.BoolOp .Or (b :: es) pos) r') : MWG X i a Z (.BoolOp .Or (e :: b :: es) pos) (bOr r r') :=
  ⟨(pw_or h.pt h'.pw).imp fun σ H Q ⟨env, m, mu, hE, hR, hσ, hz, hp⟩ => ⟨env, m, mu, hE, hR, hσ, hz, (Post.bind hp).mono fun b m1 mu1 H1 g1 R1 hp1 => by
    cases b
    · exact ⟨env, m1, mu1, hE.grow g1, R1, hσ, zs _ _ _ _ _ g1 hR hz, hp1⟩
    · exact Post.pure (a := true) hp1 R1⟩⟩
/-! statements -/
theorem FlQG.from {K : PySem.W.Frag} {D : Ends} {m m1 m' : Mp} {H H1 H' : Hp} {mu' : List MO} {fl : Fl} (h : FlQG K i a D H fl m' mu' H') (g : Grow m m1 H H1) : FlQG K i a D H1 fl m' mu' H' := by
  cases fl with
  | rt rv => exact RvQ.from h g
  | nx e => exact h
  | bk e => exact h
  | ct e => exact h
theorem msg_ret {r : Env → M D} (h : MEG X i a Z e r) : MSG X i a Z (.Return (some e) pos) (sRet r) := ⟨(ps_ret h.pe).imp fun D σ H ⟨env, m, mu, hE, hR, hσ, hz, hp⟩ =>
  ⟨env, m, mu, hE, hR, hσ, hz, (Post.bind hp).mono fun x m1 mu1 H1 g1 R1 hp v rv => (Post.pure hp R1) v rv⟩⟩
theorem msg_set {j : Nat} {x : Str} {r : Env → M D} {pos' : Pos} (hj : j ≠ i) (hN : X.N.Nodup) (hi : X.N[j]? = some x) (hx : Loc X.env.scope x) (h : MEG X i a Z e r) (hs : swapsWith e (some (.Name x pos')) pos.line X.env = pure false := by rfl) (hf : X.fn x = true ∨ X.env.scope.names.lookup x = some .local := by first | exact .inl rfl | exact .inr rfl | assumption) :
    MSG X i a Z (.Assign [.Name x pos'] e pos) (sSet j r) := ⟨(ps_set hN hi hx h.pe hs hf).imp fun D σ H ⟨env, m, mu, hE, hR, hσ, hz, hp⟩ =>
  ⟨env, m, mu, hE, hR, hσ, hz, (Post.bind hp).mono fun x m1 mu1 H1 g1 R1 hp v rv => (Post.pure hp R1) _ ((hE.grow g1).set rv) (by
    show (σ.set j (some v))[i]? = _
    rw [List.getElem?_set_ne hj]; exact hσ)⟩⟩
theorem mssg_nil : MSsG X i a Z [] sNext := ⟨pss_nil.imp fun D σ H ⟨env, m, mu, hE, hR, hσ, hz, hp⟩ => Post.pure hp hR σ hE hσ⟩
theorem mssg_one {r : Env → M Fl} (h : MSG X i a Z st r) : MSsG X i a Z [st] r := ⟨pss_one h.ps⟩
theorem mssg_cons {r r' : Env → M Fl} (zs : ZSt X.K Z) (h : MSG X i a Z st r) (h' : MSsG X i a Z rest r') : MSsG X i a Z (st :: rest) (sSeq r r') := ⟨(pss_cons h.ps h'.ps).imp fun D σ H ⟨env, m, mu, hE, hR, hσ, hz, hp⟩ => by
  refine ⟨env, m, mu, hE, hR, hσ, hz, ?_⟩
  have e0 : sSeq r r' env mu = M.bind (r env) (fun fl => match fl with
    | .nx e => r' e
    | fl => pure fl) mu := rfl
  rw [e0] at hp
  unfold M.bind at hp
  cases hr : r env mu with
  | bad => rw [hr] at hp; exact hp
  | exc x mu5 => rw [hr] at hp; exact hp
  | ok fl mu5 =>
    rw [hr] at hp
    intro m5 H5 g5 R5
    cases fl with
    | nx e => exact fun σ5 hE5 hσ5 => ⟨e, m5, mu5, hE5, R5, hσ5, zs _ _ _ _ _ g5 hR hz, (hp.grow g5).mono fun fl m' mu' H' _ _ q => FlQG.from q g5⟩
    | ct e => exact hp m5 H5 g5 R5
    | bk e => exact hp m5 H5 g5 R5
    | rt rv => exact hp m5 H5 g5 R5⟩
theorem msg_if {s1 s2 : List Stmt} {t : Env → M Bool} {r r' : Env → M Fl} (zs : ZSt X.K Z) (hc : MTG X i a Z e t) (h : MSsG X i a Z s1 r) (h' : MSsG X i a Z s2 r') : MSG X i a Z (.If e s1 s2 pos) (eIf t r r') := ⟨(ps_if hc.pt h.ps h'.ps).imp fun D σ H ⟨env, m, mu, hE, hR, hσ, hz, hp⟩ =>
  ⟨env, m, mu, hE, hR, hσ, hz, (Post.bind hp).mono fun b m1 mu1 H1 g1 R1 hp => by
    cases b
    · exact ⟨env, m1, mu1, hE.grow g1, R1, hσ, zs _ _ _ _ _ g1 hR hz, hp.mono fun fl m' mu' H' _ _ q => FlQG.from q g1⟩
    · exact ⟨env, m1, mu1, hE.grow g1, R1, hσ, zs _ _ _ _ _ g1 hR hz, hp.mono fun fl m' mu' H' _ _ q => FlQG.from q g1⟩⟩⟩
end
end MP
/-! an own error whose __init__ says super().__init__(text + name) and keeps the name -/
namespace OIX
open PySem PySem.W PySem.Calls PyProof.Rows PySem.HandSPX
/-! ### the text -/
def iA (p1 p2 : Pos) : Arguments := { posonlyargs := [], args := [{ arg := "self", annotation := none, pos := p1 }, { arg := "name", annotation := none, pos := p2 }], vararg := none, kwonlyargs := [], kw_defaults := [], kwarg := none, defaults := [] }
def iB (txt : Str) (p0 p1 p2 p3 p4 p5 p6 p7 q1 q2 q3 q4 : Pos) : List Stmt :=
  [.Expr (.Call (.Attribute (.Call (.Name "super" p0) [] [] p1) "__init__" p2) [.BinOp (.Constant (.str txt) 0 p3) .Add (.Name "name" p4) p5] [] p6) p7,
   .Assign [.Attribute (.Name "self" q1) "name" q2] (.Name "name" q3) q4]
def iS : Scope := { kind := .function, names := [(PySem.Str.ofString "self", .local), (PySem.Str.ofString "name", .local), (PySem.Str.ofString "__class__", .free), (PySem.Str.ofString "super", .globalImplicit)], isGenerator := false, isCoroutine := false, more := [] }
/-- what the written part says of the class at C and of its __init__ at fI -/
structure InitTxt (P : Program) (K : Frag) (C fI cc cda : Addr) (qual txt : Str) : Prop where
  cls : ∃ nm q N bs bm sn sub ab col dd k0 k1 k2 k3 k5, K.lookup C = some (excClassObj nm q C N bs bm true sn sub ab col dd k0 k1 k2 k3 k5 "ValueError.__new__") ∧ refsVE bm = true
  sa : findIn K (.ref C) "__setattr__" = some (some (.builtin "object.__setattr__"))
  noN : findIn K (.ref C) "name" = some none
  iC : findIn K (.ref C) "__init__" = some (some (.ref fI))
  tI : typeIn K (.ref fI) = some (.type "function")
  fn : ∃ (oc : Value) (od : Option Addr) (doc pm : Value) (an : Option Addr) (ct : Value) (osl : Array (Option Value)) (p1 p2 a0 a1 a2 a3 a4 a5 a6 a7 q1 q2 q3 q4 : Pos),
    K.lookup fI = some ⟨oc, od, .func (ksFn "__init__" qual (iA p1 p2) (iB txt a0 a1 a2 a3 a4 a5 a6 a7 q1 q2 q3 q4) iS .none .none doc pm an (.ref cda) ct cc), osl⟩ ∧ codeIn K (.ref cda) qual = true ∧ (a2.endLine == a6.line) = true
  code : ∃ ccl cdd vs ccs file tf, K.lookup cda = some ⟨ccl, cdd, .fields vs, ccs⟩ ∧ vs[2]? = some (.str file tf) ∧ ((P.main.file : Str) == file) = true
  cell : ∃ cl cld csl, K.lookup cc = some ⟨cl, cld, .cell (some (.ref C)), csl⟩
  sup : ks_superIn K C C "__init__" = some (some (.builtin "ValueError.__init__"))
  opq : nsIn K cStatics "thirdparty.any" = some none
  subV : subIn K (.ref C) (.type "ValueError") = some true
  subC : mroIn K C (.ref C) = some true
  top : (P.main.scope.names.lookup ("super" : Str)).isSome = false
theorem one_size (v : Value) : [v].length ≤ sizeLine := by
  rw [sizeLine_eq]
  exact (by decide : 1 ≤ 16777216)
/-- what __init__ leaves of a fresh exception at x -/
structure InitEnd (h h' : Heap) (x C dx t1 : Addr) (v : Value) : Prop where
  keep : ∀ b o, b ≠ x → h.get? b = some o → h'.get? b = some o
  obj : h'.get? x = some { cls := .ref C, dict := some dx, data := .fields #[.ref t1, .none, .none, .none, .bool false, .none] }
  dbig : h.objs.size ≤ dx
  dne : dx ≠ x
  ns : h'.Ns1 dx (fun y => if y = "name" then some v else none)
/-- a made one -/
structure OwnMade (h h' : Heap) (e C d : Addr) (v : Value) : Prop where
  keep : ∀ b o, h.get? b = some o → h'.get? b = some o
  new : h.objs.size ≤ e
  obj : ∃ oe vs, h'.get? e = some oe ∧ oe.cls = .ref C ∧ oe.dict = some d ∧ oe.data = .fields vs ∧ vs[1]? = some .none
  dbig : h.objs.size ≤ d
  dne : d ≠ e
  ns : h'.Ns1 d (fun y => if y = "name" then some v else none)
section
variable {P : Program} {w : World} {A : Around} {E : Value → Shared → Prop} {K : Frag} {C fI cc cda : Addr} {qual txt : Str} {mg mb : Str → Option Value}
/-- ValueError.__init__ bound to e, called -/
theorem call_mw {h : Heap} {g : Array GenState} {d : Drawn} {t : Nat} {os : OsState} {u e t0 : Addr} {rest : List Value} {Q : Value → Shared → Prop} {nm q : Str} {N : Addr} {bs bm : List Value} {sn : List Str} {sub : List Value} {ab : Bool} {col : Option Bool} {dd : Option Addr} {k0 k1 k2 k3 k5 : Option Value}
    (hC : h.get? C = some (excClassObj nm q C N bs bm true sn sub ab col dd k0 k1 k2 k3 k5 "ValueError.__new__")) (he : h.get? e = some (excO C t0)) (hu : h.get? u = some (kxs_mw "ValueError.__init__" e)) (hrest : rest.length ≤ sizeLine)
    (hq : ∀ h' t1, (∀ b o, b ≠ e → h.get? b = some o → h'.get? b = some o) → h'.get? e = some (excO C t1) → Q .none ⟨h', g, d, t, os⟩) :
    wpAny (model P w) A (call (.ref u) rest) Q E ⟨h, g, d, t, os⟩ := by
  refine wpAny_call (codeAny_of_tree ?_)
  show wpAny _ A.in1 (callAny (.ref u) ⟨rest, []⟩) _ _ _
  simp only [callAny]
  refine wpAny_bind (wpAny_load hu ?_)
  simp only [kxs_mw, show (Value.type "method-wrapper" == Value.type "method" || Value.type "method-wrapper" == Value.type "builtin_function_or_method" || Value.type "method-wrapper" == Value.type "method-wrapper") = true by decide, if_true]
  refine KFB.if_so (by decide) ?_
  refine wpAny_bind (check_bound_init PySem.F.excBase_ValueError.toExcCallFacts hC he rfl ?_)
  refine wpAny_bind (wpAny_pure (wpAny_pure ?_))
  refine ⟨plainId_quiet PySem.F.excBase_ValueError.init.plain _, codeAny_builtin PySem.F.excBase_ValueError.initEntry ?_⟩
  exact exc_init_tree (cls := .ref C) (t0 := t0) (dv := none) (c2 := .none) (c3 := .none) (b4 := .bool false) he hrest fun h' k he' ht' => hq h' _ k he'
theorem own_init (T : InitTxt P K C fI cc cda qual txt) {s : Shared} {R : Result → Shared → Prop} {x t0 : Addr} {y : Str} {ty : Tok} (X : K.In s.heap) (G : s.heap.Ns mainGlobals mg) (hsu : mg "super" = none) (B : s.heap.Ns builtinsNs mb) (hbs : mb "super" = some (.type "super"))
    (hlim : s.heap.NoLimit) (hx : s.heap.get? x = some (excO C t0)) (hnx : K.lookup x = none) (hroom : A.depth < recursionLimit) (hz : txt.length + y.length ≤ sizeLine)
    (hq : ∀ h' tk dx t1, InitEnd s.heap h' x C dx t1 (.str y ty) → R (.ok (.ret .none)) { s with heap := h', toks := tk }) :
    codeAny (model P w) A (.call (.ref fI) ⟨[.ref x, .str y ty], []⟩) R s := by
  obtain ⟨oc, od, doc, pm, an, ct, osl, p1, p2, a0, a1, a2, a3, a4, a5, a6, a7, q1, q2, q3, q4, ho, hcd, hline⟩ := T.fn
  obtain ⟨nm, q, N, bs, bm, sn, sub, ab, col, dd, k0, k1, k2, k3, k5, hC, hbm⟩ := T.cls
  obtain ⟨ccl, cdd, vs, ccs, file, tf, hcode, hvs, hfile⟩ := T.code
  obtain ⟨cl, cld, csl, hcell⟩ := T.cell
  have hcl : clsIn K C = some { name := nm, bases := bs, mro := .ref C :: bm, ns := N, qualname := q, hasDict := true, slotNames := sn, subclasses := sub, abstract := ab, collection := col, hasDel := false } := by unfold clsIn; rw [hC] <;> rfl
  obtain ⟨hp, g, d, t, os⟩ := s
  have hlocs : ∀ z ∈ ([("self", Value.ref x), ("name", .str y ty)] : List (Str × Value)), iS.names.lookup z.1 = some NameKind.local := by
    intro z hz
    rcases List.mem_cons.mp hz with e | e
    · rw [e]; rfl
    · rw [List.mem_singleton.mp e]; rfl
  refine ks_codeAny_call_defAt (fd := ksFn "__init__" qual (iA p1 p2) (iB txt a0 a1 a2 a3 a4 a5 a6 a7 q1 q2 q3 q4) iS .none .none doc pm an (.ref cda) ct cc) (body := iB txt a0 a1 a2 a3 a4 a5 a6 a7 q1 q2 q3 q4) (binds := [("self", .ref x), ("name", .str y ty)])
    hroom (X _ _ ho) rfl hlim (codeRec_of X hcd) rfl (BindsTo.of_eq (by first | rfl | with_unfolding_all rfl)) (show ∀ z ∈ iS.names, z.2 ≠ NameKind.cell by decide) hlocs (fun h₁ hns k => ?_)
  have hxL : hp.objs.size ≠ x := Nat.ne_of_gt (Heap.lt_size hx)
  have X₁ : K.In h₁ := X.keeps k
  have hx₁ := k _ _ hx
  -- super().__init__(..)
  show _root_.PySem.wpAt _ _ (.func _ (ksEnv qual iS hp.objs.size fI (.ref cda) cc)) (execs (iB txt a0 a1 a2 a3 a4 a5 a6 a7 q1 q2 q3 q4) (ksEnv qual iS hp.objs.size fI (.ref cda) cc)) _ _ _
  have he : eval (.Call (.Attribute (.Call (.Name "super" a0) [] [] a1) "__init__" a2) [.BinOp (.Constant (.str txt) 0 a3) .Add (.Name "name" a4) a5] [] a6) (ksEnv qual iS hp.objs.size fI (.ref cda) cc) = (do
      let ov ← attributeBase (.Call (.Name "super" a0) [] [] a1) "__init__" (ksEnv qual iS hp.objs.size fI (.ref cda) cc) (eval (.Call (.Name "super" a0) [] [] a1) (ksEnv qual iS hp.objs.size fI (.ref cda) cc))
      standAt a2.atName
      let (f, first) ← holding [ov] (getMethod ov "__init__" (do return (← importBound (.Call (.Name "super" a0) [] [] a1) (ksEnv qual iS hp.objs.size fI (.ref cda) cc)).getD true))
      callWith a6 f first (backTo a6 (starEach [.BinOp (.Constant (.str txt) 0 a3) .Add (.Name "name" a4) a5] (ksEnv qual iS hp.objs.size fI (.ref cda) cc))) []) := by
    rw [arm_eval_Call]
    unfold methodCall methodCallPos
    simp only [hline, Bool.or_true, if_true, pure_bind]
    rfl
  refine ks_wpAt_execs_cons (ks_wpAt_Expr_any (ks_wpAt_MethodCall ?_ he))
  refine ks_wpAt_super_base (env := ksEnv qual iS hp.objs.size fI (.ref cda) cc) (by rfl) (by rfl) (by decide) rfl (X₁ _ _ ho) rfl rfl rfl (X₁ _ _ hcode) rfl hvs hfile T.top ?_
  refine ks_loadName_global (by rfl) (by rfl) (loadGlobal_builtin (G.keeps k) hsu (B.keeps k) hbs ⟨rfl, ?_⟩)
  refine wpAny_loadName_free (by rfl) (by rfl) (by rfl) ⟨_, X₁ _ _ hcell, rfl⟩ ?_
  refine wpAny_loadName_local (v := .ref x) (by rfl) (by rfl) hns (by first | rfl | with_unfolding_all rfl | kernel_rfl) ?_
  refine ks_wpAny_isType_cls (X₁ _ _ hC) rfl ⟨rfl, ?_⟩
  refine ks_wpAny_call_super (X₁ _ _ hC) rfl hx₁ rfl (fun c e => by cases e) (looks_mroIn X₁ T.subC) (fun h₂ e2 kk2 => ?_)
  have X₂ : K.In h₂ := X₁.keeps kk2
  have I₂ : InstAt h₂ x (excO C t0) C none := ⟨kk2 _ _ hx₁, rfl, rfl, trivial⟩
  have hs : alongIn K "__init__" ((((.ref C :: bm : List Value).dropWhile (· != .ref C)).drop 1)) = some (some (.builtin "ValueError.__init__")) := by
    have z := T.sup
    unfold ks_superIn at z
    rw [hcl] at z
    exact z
  refine kxs_getMethod (so := h₁.objs.size) (D := C) (x := x) (C := C) kxs_ValueError e2 (looks_opaque X₂ T.opq) (l₀ := .ref C :: bm) (fun A Q E s k q => wpAny_bind ((looks_clsIn X₂ hcl) A _ E s k (wpAny_pure q))) rfl X₂ hs (I₂.type.andThen (looks_subIn X₂ T.subV)) (ks_ne X₂ I₂ hcl) (by decide) ?_
  have hu : (h₂.push (kxs_mw "ValueError.__init__" x)).get? h₂.objs.size = some (kxs_mw "ValueError.__init__" x) := Heap.get?_push_at rfl rfl
  have k3 : ∀ b o, h₂.get? b = some o → (h₂.push (kxs_mw "ValueError.__init__" x)).get? b = some o := fun b o e => Heap.get?_push_of_some _ e
  refine kxs_callWith (i := "ValueError.__init__") (x := x) rfl (Calls.evalArgs_plain (Calls.spliced_cons (wpAny_BinOp (Calls.Constant_str ?_))))
  refine wpAny_Name (wpAny_loadName_local (v := .str y ty) (by rfl) (by rfl) ((hns.keeps kk2).keeps k3) (by first | rfl | with_unfolding_all rfl | kernel_rfl) ?_) (by decide)
  refine SB.add (fun t' tk' => Calls.spliced_nil ⟨hu, ?_⟩) hz
  refine call_mw (nm := nm) (q := q) (N := N) (bs := bs) (bm := bm) (k3 _ _ (X₂ _ _ hC)) (k3 _ _ I₂.1) hu (one_size _) (fun h₄ t1 k4 hx₄ => ?_)
  -- self.name = name
  have old : ∀ b o, b ≠ x → h₁.get? b = some o → h₄.get? b = some o := fun b o hb e => k4 b o hb (k3 _ _ (kk2 _ _ e))
  have X₄ : K.In h₄ := fun b o e => old b o (fun z => by rw [z, hnx] at e; cases e) (X₁ b o e)
  have hn4 : h₄.Ns hp.objs.size (fun z => ([("self", Value.ref x), ("name", .str y ty)] : List (Str × Value)).reverse.lookup z) := by
    obtain ⟨o, es, ep, e1, r⟩ := hns
    exact ⟨o, es, ep, old _ _ hxL e1, r⟩
  refine ks_wpAt_execs_cons (wpAt_of_wpAny (plainObj_wpAny_Assign_Attribute ?_))
  refine wpAny_Name (wpAny_loadName_local (v := .str y ty) (by rfl) (by rfl) hn4 (by first | rfl | with_unfolding_all rfl | kernel_rfl) ?_) (by decide)
  refine wpAny_Name (wpAny_loadName_local (v := .ref x) (by rfl) (by rfl) hn4 (by first | rfl | with_unfolding_all rfl | kernel_rfl) ?_) (by decide)
  refine set_plain X₄ (ox := excO C t1) (od := none) ⟨hx₄, rfl, rfl, trivial⟩ T.sa ?_
  refine exc_osa X₄ hx₄ hcl (show refsVE (.ref C :: bm) = true from hbm) rfl T.noN (fun h₅ tk₅ dx k₅ dn dne hx₅ hn₅ => ?_)
  refine wpAt_of_wpAny (wpAny_execs_nil (hq h₅ tk₅ dx t1 ⟨fun b o hb e => k₅ b o hb (old b o hb (k b o e)), hx₅, ?_, dne, hn₅⟩))
  exact Nat.le_trans (Nat.le_of_lt (Heap.lt_size (show h₄.get? hp.objs.size = some _ from hn4.choose_spec.choose_spec.choose_spec.1))) dn
theorem own_made (T : InitTxt P K C fI cc cda qual txt) {s : Shared} {R : Result → Shared → Prop} {y : Str} {ty : Tok} (X : K.In s.heap) (G : s.heap.Ns mainGlobals mg) (hsu : mg "super" = none) (B : s.heap.Ns builtinsNs mb) (hbs : mb "super" = some (.type "super"))
    (hlim : s.heap.NoLimit) (hroom : A.depth + 1 < recursionLimit) (hz : txt.length + y.length ≤ sizeLine)
    (hq : ∀ h' tk e d, OwnMade s.heap h' e C d (.str y ty) → R (.ok (.ret (.ref e))) { s with heap := h', toks := tk }) :
    codeAny (model P w) A (.call (.ref C) ⟨[.str y ty], []⟩) R s := by
  obtain ⟨nm, q, N, bs, bm, sn, sub, ab, col, dd, k0, k1, k2, k3, k5, hC, hbm⟩ := T.cls
  obtain ⟨hp, g, dr, tk, os⟩ := s
  have k : ∀ b o, hp.get? b = some o → ((hp.push (kdv_tup [.str y ty])).push (excO C hp.objs.size)).get? b = some o := fun b o e => Heap.get?_push_of_some _ (Heap.get?_push_of_some _ e)
  have hget : ((hp.push (kdv_tup [.str y ty])).push (excO C hp.objs.size)).get? (hp.objs.size + 1) = some (excO C hp.objs.size) := by heap_get
  have hnx : K.lookup (hp.objs.size + 1) = none := by
    cases e : K.lookup (hp.objs.size + 1) with
    | none => rfl
    | some o =>
      have z : hp.get? (hp.objs.size + 1) = some o := X _ _ e
      exact absurd (Nat.lt_of_succ_lt (Heap.lt_size z)) (Nat.lt_irrefl _)
  refine call_own PySem.F.excBase_ValueError (fun X => refsVE_contains X bm hbm) (X _ _ hC) (looks_findIn X T.iC) (fun self => bind_fn X self T.tI) (one_size _) ?_
  refine own_init (s := ⟨(hp.push (kdv_tup [.str y ty])).push (excO C hp.objs.size), g, dr, tk, os⟩) T (X.keeps k) (G.keeps k) hsu (B.keeps k) hbs (hlim.keeps k) hget hnx ?_ hz fun h' tk' dx t1 ⟨k', hx, dn, dne, hns⟩ => ?_
  · show A.depth + 1 < recursionLimit
    exact hroom
  · have old : ∀ b o, hp.get? b = some o → h'.get? b = some o := fun b o e => k' b o (Nat.ne_of_lt (Nat.lt_succ_of_lt (Heap.lt_size e))) (k b o e)
    have z : hp.objs.size + 1 + 1 ≤ dx := by
      first
        | (simpa only [Heap.size_push] using dn)
        | exact dn
        | (have q := dn; rw [Heap.size_push, Heap.size_push] at q; exact q)
    exact ⟨rfl, hq h' tk' (hp.objs.size + 1) dx ⟨old, Nat.le_succ _, ⟨_, _, hx, rfl, rfl, rfl, rfl⟩, Nat.le_trans (Nat.le_trans (Nat.le_succ _) (Nat.le_succ _)) z, dne, hns⟩⟩
end
end OIX
namespace MP
open PySem L2 PyProof.Rows
open OIX (InitTxt own_made)
/-- what the written part says of an own class of errors with such an __init__ -/
structure ExcI (P : Program) (K : PySem.W.Frag) (mg : Str → Option Value) (x : Str) (C : Addr) (txt : Str) : Prop where
  k : ExcK K mg x C
  init : ∃ (fI cc cda : Addr) (qual : Str), InitTxt P K C fI cc cda qual txt
  sup : mg "super" = none
theorem relO_name {v : V} {v' : Value} (r : RelV v v') (f : Str) : RelO (List.lookup f [(("name" : Str), v)]) (if f = "name" then some v' else none) := by
  by_cases hw : f = "name"
  · subst hw
    rw [if_pos rfl]
    have q : List.lookup ("name" : Str) [(("name" : Str), v)] = some v := by simp [List.lookup]
    rw [q]
    exact r
  · rw [if_neg hw]
    have qw : (f == ("name" : Str)) = false := by simpa using hw
    have q2 : List.lookup f [(("name" : Str), v)] = none := by simp [List.lookup, qw]
    rw [q2]
    trivial
/-- X(e) -/
def tMkI (C : Addr) (txt : Str) (ta : TA) : L2.St → Hp → XK → Prop := fun σ H Q => ta σ H fun vs H1 => ∃ y : Str, vs = [.str y] ∧ txt.length + y.length ≤ sizeLine ∧ ∀ d, H1 d = none → Q (.ref C) (some d) (upd H1 d (.xd [(("name" : Str), .str y)]))
section
variable {X : Cx} {W : Wx} {x txt : Str} {C : Addr} {e : Expr} {ta : TA} {p pos pos' : Pos} {k : Nat} {Wo : WX}
theorem pmk_init (T : ExcI X.prog X.K X.mg x C txt) (hr : Room (k + 1) X.A) (hg : Gl X x) (ha : PA X [e] ta) (hdb : (x == ("__debug__" : Str)) = false := by decide)
    (he : starEach (e :: []) X.env = (false, eval e X.env) :: starEach [] X.env := by rfl) (hpl : (backTo pos (starEach [] X.env)).any (·.1) = false := by rfl) :
    PMk X (.Call (.Name x p) [e] [] pos) (tMkI C txt ta) := by
  intro pins s σ H Q I h
  obtain ⟨fI, cc, cda, qual, TI⟩ := T.init
  refine wpAny_Call_Name_kw (ld_glob I hg T.k.gC ?_ hdb)
  refine PySem.W.callWith_K (h₀ := X.base) I.ok.mod.kin T.k.kC (thn (ha.run pos pins s σ H _ I h) fun us s1 hh => ?_) he hpl
  obtain ⟨vs, H1, I1, r1, y, ev, hz, q1⟩ := hh
  subst ev
  refine ⟨I1.kIn, ?_⟩
  cases r1 with
  | cons rv rn =>
    rename_i v' us'
    cases rn
    obtain ⟨ty, rfl⟩ : ∃ t, v' = Value.str y t := rv
    show wpAny _ _ (call (.ref C) [.str y ty]) _ _ _
    have hlim := I1.nolimit
    have K1 := I1.kIn
    have G1 := I1.mod.glob.keeps I1.bk
    obtain ⟨mb, B0, hmb⟩ := I1.mod.blt
    have B1 := B0.keeps I1.bk
    obtain ⟨hp, g, dr, tk, os⟩ := s1
    refine wpAny_call (own_made TI K1 G1 T.sup B1 ((hmb "super" (by decide)).trans PyProof.Rows.Boot.«super») hlim (by have := hr.dp; omega) hz fun h' tk' e d M => ?_)
    show MkP X pins σ Q (.ref e) ⟨h', g, dr, tk', os⟩
    obtain ⟨oe, fv, hoe, hc, hd, hdat, h1⟩ := M.obj
    have hns := M.ns
    obtain ⟨G', g1, g2⟩ := restrict h' fun b => decide (b ≠ e)
    have gk : ∀ b, b ≠ e → G'.get? b = h'.get? b := fun b hb => g1 b (decide_eq_true hb)
    have ge : G'.get? e = none := g2 e (by simp)
    have old : ∀ b o, hp.get? b = some o → G'.get? b = some o := fun b o q => (gk b (Nat.ne_of_lt (Nat.lt_of_lt_of_le (Heap.lt_size q) M.new))).trans (M.keep b o q)
    have ob : ObjOk X.prog X.w (upd H1 d (.xd [(("name" : Str), .str y)])) G' d (.xd [(("name" : Str), .str y)]) :=
      ⟨_, hns.at (fun o q => (gk d M.dne).trans q), fun f => relO_name (v := .str y) (v' := .str y ty) ⟨ty, rfl⟩ f⟩
    have J : Inv X pins σ (upd H1 d (.xd [(("name" : Str), .str y)])) ⟨G', g, dr, tk', os⟩ := I1.laid (t' := tk') old M.dbig ob
    refine ⟨e, oe, fv, ⟨G', g, dr, tk', os⟩, _, .ref C, some d, rfl, J, fun b o q => ?_, ge, hoe, ⟨hc, hd⟩, hdat, h1, ?_, rfl, I1.bare, raises_own T.k.bC T.k.tC, q1 d (I1.hok.fresh M.dbig)⟩
    · by_cases hb : b = e
      · have q' : G'.get? b = some o := q
        rw [hb, ge] at q'; cases q'
      · exact (gk b hb).symm.trans q
    · rw [upd_ne (Ne.symm M.dne)]
      exact I1.hok.fresh M.new
/-- raise X(e) -/
def iniD (x txt : Str) : List D → M Fl := fun xs => match xs with
  | [.str y] => if txt.length + y.length ≤ sizeLine then raise ⟨x, [(("name" : Str), .str y)]⟩ else bad
  | _ => bad
def sRaiseI (x txt : Str) (rs : Env → M (List D)) : Env → M Fl := fun env => rs env >>= iniD x txt
theorem ms_raiseI {rs : Env → M (List D)} (hc : X.calm = true) (tk : Takes X Wo) (sv : Serves X W Wo) (T : ExcI X.prog X.K X.mg x C txt) (hr : Room (k + 1) X.A) (hg : Gl X x) (ha : MA X W [e] rs) (hdb : (x == ("__debug__" : Str)) = false := by decide)
    (he : starEach (e :: []) X.env = (false, eval e X.env) :: starEach [] X.env := by rfl) (hpl : (backTo pos (starEach [] X.env)).any (·.1) = false := by rfl) :
    MS X W (.Raise (some (.Call (.Name x p) [e] [] pos)) none pos') (sRaiseI x txt rs) := by
  refine ⟨(ps_raise hc tk (pmk_init T hr hg ha.pa hdb he hpl)).imp fun Dc σ H ⟨env, m, mu, hE, R, hp⟩ => ⟨env, m, mu, hE, R, (Post.bind hp).mono fun xs m1 mu1 H1 g1 R1 hp1 vs rv => ?_⟩⟩
  match xs, hp1, rv with
  | [], hp1, _ => exact (show False from hp1).elim
  | [.non], hp1, _ => exact (show False from hp1).elim
  | [.bl _], hp1, _ => exact (show False from hp1).elim
  | [.int _], hp1, _ => exact (show False from hp1).elim
  | [.tup _], hp1, _ => exact (show False from hp1).elim
  | [.fl _], hp1, _ => exact (show False from hp1).elim
  | [.ro _], hp1, _ => exact (show False from hp1).elim
  | [.fd _ _], hp1, _ => exact (show False from hp1).elim
  | [.ref _], hp1, _ => exact (show False from hp1).elim
  | a :: b :: l, hp1, _ => exact (show False from (by cases a <;> exact hp1)).elim
  | [.str y], hp1, rv =>
    have hp2 : Post X.K W m1 H1 ((if txt.length + y.length ≤ sizeLine then raise ⟨x, [(("name" : Str), .str y)]⟩ else bad : M Fl) mu1) _ := hp1
    by_cases hz : txt.length + y.length ≤ sizeLine
    · rw [if_pos hz] at hp2
      obtain ⟨v, vs', rfl, r1, r2⟩ : ∃ v vs', vs = v :: vs' ∧ Rep X.K m1 H1 (.str y) v ∧ Reps X.K m1 H1 [] vs' := by
        simpa only [Reps] using rv
      obtain rfl : v = V.str y := by simpa only [Rep] using r1
      obtain rfl : vs' = [] := by simpa only [Reps] using r2
      refine ⟨y, rfl, hz, fun d hd => ?_⟩
      have hw : W ⟨x, [(("name" : Str), .str y)]⟩ m1 (upd H1 d (.xd [(("name" : Str), .str y)])) := hp2 m1 _ (Grow.laid hd) (Rel.laid R1 hd)
      refine sv _ _ _ _ _ _ hw ⟨T.k.gC, [(("name" : Str), V.str y)], upd_same, rfl, ?_⟩
      show Reps X.K m1 _ [D.str y] [V.str y]
      simp only [Reps, Rep]
      exact ⟨_, _, rfl, rfl, rfl⟩
    · rw [if_neg hz] at hp2
      exact (show False from hp2).elim
end
end MP
namespace PySem
open Sem (wp)
open Builtin AutoSeq1
theorem ext_tup (l : Addr) (items : Array Value) (n : Nat) (b : Addr) (items2 : Array Value) (n2 : Nat) (od : Option Addr) (sl : Array (Option Value)) (hs0 : ¬(!items.isEmpty && Builtin.List.listTooLong (items.size + items2.size)) = true) (hs1 : items.size ≤ sizeLine) (hs2 : items.size + items2.size ≤ sizeLine + 1) :
    Meets (Builtin.«list.extend» ⟨[.ref l, .ref b], []⟩) (fun _ R s => s.heap.get? l = some { cls := .type "list", dict := none, data := .seq items n, slots := #[] } ∧ s.heap.get? b = some { cls := .type "tuple", dict := od, data := .seq items2 n2, slots := sl } ∧ R (.ok (.ret Value.none)) { s with heap := s.heap.update l (Obj.mapSeq fun x => x ++ items2), toks := s.toks }) :=
  .of_wp fun prog w A R s h => by
    obtain ⟨hp, g, d, tk, os⟩ := s; obtain ⟨hl, hb, h⟩ := h; have f1 := idx_int; have f2 := sub_tuple_tuple; have f3 := sub_list_list; have f4 := sub_tuple_list; have f5 := sub_list_tuple;
    have hz' : (items ++ items2).size ≤ sizeLine + 1 := by rw [Array.size_append]; exact hs2
    wp_walk using (wpAny_updateSeq hl rfl (hz := hs1) (_hz' := hz')), wpAny_loadPart' hl, wpAny_loadPart' hb; exact ⟨_, rfl, h⟩
end PySem
namespace L2
open PySem PySem.Spec PyProof.Rows
def rExtendT (K : PySem.W.Frag) : V → List V → Hp → VK → Prop := fun x vs H Q => ∃ l b xs zs, x = .ref l ∧ vs = [.ref b] ∧ H l = some (.lst xs) ∧ SqT K H b zs ∧ xs.length + zs.length ≤ sizeLine ∧ Q .non (upd H l (.lst (xs ++ zs)))
theorem mt_extendT {X : Cx} : MtM X "list.extend" (rExtendT X.K) := by
  intro pins s σ H x vs v us Q I rx rv h
  obtain ⟨l, b, xs, zs, rfl, rfl, hH, hB, hz, q⟩ := h
  cases rx
  obtain ⟨u, rfl, ru⟩ := rv.one
  cases ru
  obtain ⟨z, its, n, r, hl, e⟩ := I.lstM hH
  obtain ⟨its2, o2, n2, r2, e2, hc2, hd2⟩ := sqT_at I.hok I.kIn hB
  obtain ⟨oc, od, odt, osl⟩ := o2
  dsimp only at hc2 hd2
  subst hc2 hd2
  have hl2 : zs.length = its2.length := r2.length
  have hsz : its.toArray.size + its2.toArray.size ≤ sizeLine := by rw [List.size_toArray, List.size_toArray]; omega
  have hlong : ¬ (!its.toArray.isEmpty && Builtin.List.listTooLong (its.toArray.size + its2.toArray.size)) = true := by
    rw [notLongL hsz, Bool.and_false]
    exact Bool.false_ne_true
  refine call_meets F.slot_list_extend ⟨_, e, rfl⟩ F.entry_list_extend (F.args_list_extend_2 _ _)
    (PySem.ext_tup l its.toArray n b its2.toArray n2 od osl hlong (by rw [List.size_toArray]; omega) (by omega)) ⟨e, e2, ?_⟩
  refine ⟨.non, _, I.lset (its' := its ++ its2) hH e (by simp) (r.append r2) ?_, rfl, q⟩
  rw [List.length_append]
  omega
end L2
namespace MP
open PySem L2 PyProof.Rows
/-- extend by a tuple -/
def gExtendT : D → List D → M D
  | .ref n, [.tup zs] => modL n fun xs => if xs.length + zs.length ≤ sizeLine then some (xs ++ zs, .non) else none
  | _, _ => bad
section
variable {X : Cx} {W : Wx}
theorem methM_extendT : MethM X.K W (rExtendT X.K) gExtendT := ⟨fun o ds v vs m mu H Q R ho hr hp => by
  cases o
  case ref n =>
    match ds, hr, hp with
    | [.tup zs], hr, hp =>
      obtain ⟨w, rfl, hw⟩ := rep1 hr
      simp only [Rep] at ho hw
      obtain ⟨a, rfl, hm⟩ := ho
      obtain ⟨b, ws, rfl, hb, hz⟩ := hw
      have hp : Post X.K W m H (modL n (fun xs => if xs.length + zs.length ≤ sizeLine then some (xs ++ zs, D.non) else none) mu) _ := hp
      obtain ⟨xs, us, ys, d, hH, hrs, hf, hg, hq⟩ := modL_ok R hm hp
      by_cases c : xs.length + zs.length ≤ sizeLine
      · rw [if_pos c] at hf
        cases hf
        refine ⟨a, b, us, ws, rfl, rfl, hH, hb, by rw [← hrs.length, ← hz.length]; exact c, ?_⟩
        exact hq (us ++ ws) ((Reps.grow (hg _) xs us hrs).append (Reps.grow (hg _) zs ws hz)) .non (by simp only [Rep])
      · rw [if_neg c] at hf; cases hf
    | [], _, hp => exact (show False from hp).elim
    | c :: _ :: _, _, hp => exact (show False from (by cases c <;> exact hp)).elim
    | [.non], _, hp => exact (show False from hp).elim
    | [.bl _], _, hp => exact (show False from hp).elim
    | [.int _], _, hp => exact (show False from hp).elim
    | [.str _], _, hp => exact (show False from hp).elim
    | [.fl _], _, hp => exact (show False from hp).elim
    | [.ro _], _, hp => exact (show False from hp).elim
    | [.fd _ _], _, hp => exact (show False from hp).elim
    | [.ref _], _, hp => exact (show False from hp).elim
  all_goals exact (show False from hp).elim⟩
end
end MP
namespace K06
open PySem L2 PyProof.Rows MP
def top (i : Nat) : Stmt := PySem.Challenge.pw_differwithin_k08_twice_claims.main.body.getD i (.Pass ⟨0, 0, 0, 0⟩)
section
variable {P : Program} {w : World} {K : PySem.W.Frag} {mg : Str → Option Value} {base : Heap}
def xt_BadClaim : XTab := xtab [("UnknownName", false), ("BadClaim", true)]
def xt_UnknownName : XTab := xtab [("UnknownName", true), ("BadClaim", false)]
def xt_BadWalk : XTab := xtab [("UnknownName", false), ("BadClaim", false)]
def xt_DifferwithinError : XTab := xtab [("UnknownName", true), ("BadClaim", true)]
def xt_ValueError : XTab := xtab [("UnknownName", true), ("BadClaim", true)]
def ft_name : Str → Bool := fun n => n == "UnknownName"
abbrev con_ZERO : D := .tup [.int 0, .tup []]
abbrev st_form : Stmt := top 7
theorem sc_form : FnScope ["constant", "pairs", "sums", "name", "coefficient"] ["constant", "pairs"] (defScope st_form) := ⟨rfl, rfl, rfl, by decide +kernel, rfl, by decide +kernel, by decide +kernel⟩
theorem mp_form {k : Nat} {f : Addr} {fd : FuncData} (F : Fun K "form" "form" st_form f fd) (z_sorted : mg "sorted" = none) (z_tuple : mg "tuple" = none) : FnOk P w K mg base CX0 (k + 1) f fd ["constant", "pairs"] (sp K mg 2 (den_form)) :=
  have sc := sc_form
  fn_mp (N := ["constant", "pairs", "sums", "name", "coefficient"]) (r := r_form) F sc_form rfl fun cdv A outer s H E hr =>
  have hu := hr.units
  have hu1 := units1 hr
  (mss_cons (ms_set (i := 2) sc.nd rfl (by first | exact Or.inl rfl | exact Or.inr rfl) me_dict0)
  (mss_cons (ms_for (fg := [3, 4]) PassesOwn.never rfl (mi_seq (me_var (pv 1))) (mg_tup rfl (mgs_cons (mg_of (pg_name (i := 3) sc.nd rfl (by first | exact Or.inl rfl | exact Or.inr rfl))) (mgs_cons (mg_of (pg_name (i := 4) sc.nd rfl (by first | exact Or.inl rfl | exact Or.inr rfl))) mgs_nil)))
  (mss_one (ms_dput hu1 (me_var (pv 2)) (me_var (pv 3)) (me_bin op_addM opm_add (me_get2 hu1 (me_var (pv 2)) (me_var (pv 3)) me_int) (me_var (pv 4))))))
  (mss_one (ms_ret (me_tup (ma_cons (me_var (pv 0)) (ma_cons (me_callTy call_tuple_of callM_tuple rfl z_tuple (by decide +kernel) (ma_cons (me_fl (mf_comp rfl sc.nd (mi_seq (me_fl (mf_sortedD rfl rfl z_sorted (by decide +kernel) (me_var (pv 2))))) (own := [("name", 3)]) (blkOk_by (N := ["constant", "pairs", "sums", "name", "coefficient"]) (sc := defScope st_form) (by decide +kernel)) (by decide) (fun s H C cl fp => (mg_of (pg_name (i := 3) sc.nd rfl (by first | exact Or.inl rfl | exact Or.inr rfl)))) (fun s H C cl fp => (mts_one (mt_cmp (op_neM hu) opm_eq (me_dget hu1 (me_var (pv 2)) (me_var (pv 3))) me_int (by first | exact nomark _ | rfl)))) (fun s H C cl fp => (me_tup (ma_cons (me_var (pv 3)) (ma_cons (me_dget hu1 (me_var (pv 2)) (me_var (pv 3))) ma_nil)))))) ma_nil)) ma_nil)))))))
abbrev st_variable : Stmt := top 8
theorem sc_variable : FnScope ["name"] ["name"] (defScope st_variable) := ⟨rfl, rfl, rfl, by decide +kernel, rfl, by decide +kernel, by decide +kernel⟩
/-- names: 0 name -/
noncomputable def r_variable : MP.Env → M Fl :=
  (sRet (aThen gTup (aCons (eC (.int 0)) (aCons (aThen gTup (aCons (aThen gTup (aCons (eVar 0) (aCons (eC (.int 1)) aNil))) aNil)) aNil))))
noncomputable def den_variable : List D → M Rv := fun ds => noX (runB 1 (r_variable) ds)
theorem mp_variable {k : Nat} {f : Addr} {fd : FuncData} (F : Fun K "variable" "variable" st_variable f fd) : FnOk P w K mg base CX0 (k + 1) f fd ["name"] (sp K mg 1 (den_variable)) :=
  have sc := sc_variable
  fn_mp (N := ["name"]) (r := r_variable) F sc_variable rfl fun cdv A outer s H E hr =>
  have hu := hr.units
  have hu1 := units1 hr
  (mss_one (ms_ret (me_tup (ma_cons me_int (ma_cons (me_tup (ma_cons (me_tup (ma_cons (me_var (pv 0)) (ma_cons me_int ma_nil))) ma_nil)) ma_nil)))))
abbrev st_plus : Stmt := top 9
theorem sc_plus : FnScope ["f", "g"] ["f", "g"] (defScope st_plus) := ⟨rfl, rfl, rfl, by decide +kernel, rfl, by decide +kernel, by decide +kernel⟩
/-- names: 0 f, 1 g -/
noncomputable def r_plus (d_form : List D → M Rv) : MP.Env → M Fl :=
  (sSeq (eIf (bNot (bTru (eBin gIx (eVar 1) (eC (.int 1)))))
  (sRet (aThen gTup (aCons (eBin gAdd (eBin gIx (eVar 0) (eC (.int 0))) (eBin gIx (eVar 1) (eC (.int 0)))) (aCons (eBin gIx (eVar 0) (eC (.int 1))) aNil))))
  sNext)
  (sRet (eCall (lenD 2 d_form) (aCons (eBin gAdd (eBin gIx (eVar 0) (eC (.int 0))) (eBin gIx (eVar 1) (eC (.int 0)))) (aCons (eBin gAdd (eBin gIx (eVar 0) (eC (.int 1))) (eBin gIx (eVar 1) (eC (.int 1)))) aNil)))))
noncomputable def den_plus (d_form : List D → M Rv) : List D → M Rv := fun ds => noX (runB 2 (r_plus d_form) ds)
theorem mp_plus {k : Nat} {f : Addr} {fd : FuncData} (F : Fun K "plus" "plus" st_plus f fd) {f_form : Addr} {e_form : FuncData} {d_form : List D → M Rv} (T_form : FnI K mg "form" st_form f_form e_form ["constant", "pairs"]) (F_form : FnOk P w K mg base CX0 k f_form e_form ["constant", "pairs"] (sp K mg 2 d_form)) : FnOk P w K mg base CX0 (k + 1) f fd ["f", "g"] (sp K mg 2 (den_plus d_form)) :=
  have sc := sc_plus
  fn_mp (N := ["f", "g"]) (r := r_plus d_form) F sc_plus rfl fun cdv A outer s H E hr =>
  have hu := hr.units
  have hu1 := units1 hr
  (mss_cons (ms_if (mt_not (mt_truth (me_ix (me_var (pv 1)) me_int)))
  (mss_one (ms_ret (me_tup (ma_cons (me_bin op_addM opm_add (me_ix (me_var (pv 0)) me_int) (me_ix (me_var (pv 1)) me_int)) (ma_cons (me_ix (me_var (pv 0)) me_int) ma_nil)))))
  mss_nil)
  (mss_one (ms_ret (me_callF T_form F_form hr rfl (ma_cons (me_bin op_addM opm_add (me_ix (me_var (pv 0)) me_int) (me_ix (me_var (pv 1)) me_int)) (ma_cons (me_bin op_addM opm_add (me_ix (me_var (pv 0)) me_int) (me_ix (me_var (pv 1)) me_int)) ma_nil)) rfl))))
abbrev st_times : Stmt := top 10
theorem sc_times : FnScope ["k", "f", "name", "coefficient"] ["k", "f"] (defScope st_times) := ⟨rfl, rfl, rfl, by decide +kernel, rfl, by decide +kernel, by decide +kernel⟩
/-- names: 0 k, 1 f, 2 name, 3 coefficient -/
noncomputable def r_times : MP.Env → M Fl :=
  (sSeq (eIf (eB (eBin (gEq false) (eVar 0) (eC (.int 0))))
  (sRet (eC con_ZERO))
  sNext)
  (sRet (aThen gTup (aCons (eBin gMul (eVar 0) (eBin gIx (eVar 1) (eC (.int 0)))) (aCons (aThen (g1 gTuple) (aCons (eFl (fComp (eWalk (eBin gIx (eVar 1) (eC (.int 1)))) (asgT 2 (asgCons (asgN 2) (asgCons (asgN 3) asgNil))) tYesM (aThen gTup (aCons (eVar 2) (aCons (eBin gMul (eVar 0) (eVar 3)) aNil))) [2, 3])) aNil)) aNil)))))
noncomputable def den_times : List D → M Rv := fun ds => noX (runB 4 (r_times) ds)
theorem mp_times {k : Nat} {f : Addr} {fd : FuncData} (F : Fun K "times" "times" st_times f fd) (z_tuple : mg "tuple" = none) {a_ZERO : Addr} (g_ZERO : mg "ZERO" = some (.ref a_ZERO)) (h_ZERO : ∀ m H, Rep K m H con_ZERO (.ref a_ZERO)) : FnOk P w K mg base CX0 (k + 1) f fd ["k", "f"] (sp K mg 2 (den_times)) :=
  have sc := sc_times
  fn_mp (N := ["k", "f", "name", "coefficient"]) (r := r_times) F sc_times rfl fun cdv A outer s H E hr =>
  have hu := hr.units
  have hu1 := units1 hr
  (mss_cons (ms_if (mt_cmp (op_eqM hu) opm_eq (me_var (pv 0)) me_int (by first | exact nomark _ | rfl))
  (mss_one (ms_ret (me_gtup rfl g_ZERO h_ZERO)))
  mss_nil)
  (mss_one (ms_ret (me_tup (ma_cons (me_bin op_mulM opm_mul (me_var (pv 0)) (me_ix (me_var (pv 1)) me_int)) (ma_cons (me_callTy call_tuple_of callM_tuple rfl z_tuple (by decide +kernel) (ma_cons (me_fl (mf_comp rfl sc.nd (mi_seq (me_ix (me_var (pv 1)) me_int)) (own := [("name", 2), ("coefficient", 3)]) (blkOk_by (N := ["k", "f", "name", "coefficient"]) (sc := defScope st_times) (by decide +kernel)) (by decide) (fun s H C cl fp => (mg_tup rfl (mgs_cons (mg_of (pg_name (i := 2) sc.nd rfl (by first | exact Or.inl rfl | exact Or.inr rfl))) (mgs_cons (mg_of (pg_name (i := 3) sc.nd rfl (by first | exact Or.inl rfl | exact Or.inr rfl))) mgs_nil)))) (fun s H C cl fp => mts_nil) (fun s H C cl fp => (me_tup (ma_cons (me_var (pv 2)) (ma_cons (me_bin op_mulM opm_mul (me_var (pv 0)) (me_var (pv 3))) ma_nil)))))) ma_nil)) ma_nil))))))
abbrev st_minus : Stmt := top 11
theorem sc_minus : FnScope ["f", "g"] ["f", "g"] (defScope st_minus) := ⟨rfl, rfl, rfl, by decide +kernel, rfl, by decide +kernel, by decide +kernel⟩
/-- names: 0 f, 1 g -/
noncomputable def r_minus (d_plus : List D → M Rv) (d_times : List D → M Rv) : MP.Env → M Fl :=
  (sRet (eCall (lenD 2 d_plus) (aCons (eVar 0) (aCons (eCall (lenD 2 d_times) (aCons (eMap gNeg (eC (.int 1))) (aCons (eVar 1) aNil))) aNil))))
noncomputable def den_minus (d_plus : List D → M Rv) (d_times : List D → M Rv) : List D → M Rv := fun ds => noX (runB 2 (r_minus d_plus d_times) ds)
theorem mp_minus {k : Nat} {f : Addr} {fd : FuncData} (F : Fun K "minus" "minus" st_minus f fd) {f_plus : Addr} {e_plus : FuncData} {f_times : Addr} {e_times : FuncData} {d_plus : List D → M Rv} {d_times : List D → M Rv} (T_plus : FnI K mg "plus" st_plus f_plus e_plus ["f", "g"]) (F_plus : FnOk P w K mg base CX0 k f_plus e_plus ["f", "g"] (sp K mg 2 d_plus)) (T_times : FnI K mg "times" st_times f_times e_times ["k", "f"]) (F_times : FnOk P w K mg base CX0 k f_times e_times ["k", "f"] (sp K mg 2 d_times)) : FnOk P w K mg base CX0 (k + 1) f fd ["f", "g"] (sp K mg 2 (den_minus d_plus d_times)) :=
  have sc := sc_minus
  fn_mp (N := ["f", "g"]) (r := r_minus d_plus d_times) F sc_minus rfl fun cdv A outer s H E hr =>
  have hu := hr.units
  have hu1 := units1 hr
  (mss_one (ms_ret (me_callF T_plus F_plus hr rfl (ma_cons (me_var (pv 0)) (ma_cons (me_callF T_times F_times hr rfl (ma_cons (me_neg me_int) (ma_cons (me_var (pv 1)) ma_nil)) rfl) ma_nil)) rfl)))
abbrev st_proc_named : Stmt := top 13
theorem sc_proc_named : FnScope ["core", "name", "proc"] ["core", "name"] (defScope st_proc_named) := ⟨rfl, rfl, rfl, by decide +kernel, rfl, by decide +kernel, by decide +kernel⟩
/-- names: 0 core, 1 name, 2 proc -/
noncomputable def r_proc_named : MP.Env → M Fl :=
  (sRet (eBin gIx (eFl (fComp (eWalk (eVar 0)) (asgN 2) (eB (eBin (gEq false) (eBin gIx (eVar 2) (eC (.int 0))) (eVar 1))) (eVar 2) [2])) (eC (.int 0))))
noncomputable def den_proc_named : List D → M Rv := fun ds => noX (runB 3 (r_proc_named) ds)
theorem mp_proc_named {k : Nat} {f : Addr} {fd : FuncData} (F : Fun K "proc_named" "proc_named" st_proc_named f fd) : FnOk P w K mg base CX0 (k + 1) f fd ["core", "name"] (sp K mg 2 (den_proc_named)) :=
  have sc := sc_proc_named
  fn_mp (N := ["core", "name", "proc"]) (r := r_proc_named) F sc_proc_named rfl fun cdv A outer s H E hr =>
  have hu := hr.units
  have hu1 := units1 hr
  (mss_one (ms_ret (me_ix (me_fl (mf_comp rfl sc.nd (mi_seq (me_var (pv 0))) (own := [("proc", 2)]) (blkOk_by (N := ["core", "name", "proc"]) (sc := defScope st_proc_named) (by decide +kernel)) (by decide) (fun s H C cl fp => (mg_of (pg_name (i := 2) sc.nd rfl (by first | exact Or.inl rfl | exact Or.inr rfl)))) (fun s H C cl fp => (mts_one (mt_cmp (op_eqM hu) opm_eq (me_ix (me_var (pv 2)) me_int) (me_var (pv 1)) (by first | exact nomark _ | rfl)))) (fun s H C cl fp => (me_var (pv 2))))) me_int)))
abbrev st_count_name : Stmt := top 17
theorem sc_count_name : FnScope ["mark"] ["mark"] (defScope st_count_name) := ⟨rfl, rfl, rfl, by decide +kernel, rfl, by decide +kernel, by decide +kernel⟩
/-- names: 0 mark -/
noncomputable def r_count_name : MP.Env → M Fl :=
  (sRet (eBin gAdd (eVar 0) (eC (.str ".count"))))
noncomputable def den_count_name : List D → M Rv := fun ds => noX (runB 1 (r_count_name) ds)
theorem mp_count_name {k : Nat} {f : Addr} {fd : FuncData} (F : Fun K "count_name" "count_name" st_count_name f fd) : FnOk P w K mg base CX0 (k + 1) f fd ["mark"] (sp K mg 1 (den_count_name)) :=
  have sc := sc_count_name
  fn_mp (N := ["mark"]) (r := r_count_name) F sc_count_name rfl fun cdv A outer s H E hr =>
  have hu := hr.units
  have hu1 := units1 hr
  (mss_one (ms_ret (me_bin op_addM opm_add (me_var (pv 0)) me_str)))
abbrev st_both_ways : Stmt := top 19
theorem sc_both_ways : FnScope ["f", "g"] ["f", "g"] (defScope st_both_ways) := ⟨rfl, rfl, rfl, by decide +kernel, rfl, by decide +kernel, by decide +kernel⟩
/-- names: 0 f, 1 g -/
noncomputable def r_both_ways (d_minus : List D → M Rv) : MP.Env → M Fl :=
  (sRet (aThen gTup (aCons (eCall (lenD 2 d_minus) (aCons (eVar 0) (aCons (eVar 1) aNil))) (aCons (eCall (lenD 2 d_minus) (aCons (eVar 1) (aCons (eVar 0) aNil))) aNil))))
noncomputable def den_both_ways (d_minus : List D → M Rv) : List D → M Rv := fun ds => noX (runB 2 (r_both_ways d_minus) ds)
theorem mp_both_ways {k : Nat} {f : Addr} {fd : FuncData} (F : Fun K "both_ways" "both_ways" st_both_ways f fd) {f_minus : Addr} {e_minus : FuncData} {d_minus : List D → M Rv} (T_minus : FnI K mg "minus" st_minus f_minus e_minus ["f", "g"]) (F_minus : FnOk P w K mg base CX0 k f_minus e_minus ["f", "g"] (sp K mg 2 d_minus)) : FnOk P w K mg base CX0 (k + 1) f fd ["f", "g"] (sp K mg 2 (den_both_ways d_minus)) :=
  have sc := sc_both_ways
  fn_mp (N := ["f", "g"]) (r := r_both_ways d_minus) F sc_both_ways rfl fun cdv A outer s H E hr =>
  have hu := hr.units
  have hu1 := units1 hr
  (mss_one (ms_ret (me_tup (ma_cons (me_callF T_minus F_minus hr rfl (ma_cons (me_var (pv 0)) (ma_cons (me_var (pv 1)) ma_nil)) rfl) (ma_cons (me_callF T_minus F_minus hr rfl (ma_cons (me_var (pv 1)) (ma_cons (me_var (pv 0)) ma_nil)) rfl) ma_nil)))))
abbrev st_proc_or_error : Stmt := top 21
theorem sc_proc_or_error : FnScope ["core", "name", "proc"] ["core", "name"] (defScope st_proc_or_error) := ⟨rfl, rfl, rfl, by decide +kernel, rfl, by decide +kernel, by decide +kernel⟩
/-- names: 0 core, 1 name, 2 proc -/
noncomputable def r_proc_or_error (d_proc_named : List D → M Rv) : MP.Env → M Fl :=
  (sSeq (eIf (bNot (eB (aThen (g1 gAny) (aCons (eFl (fComp (eWalk (eVar 0)) (asgN 2) tYesM (eBin (gEq false) (eBin gIx (eVar 2) (eC (.int 0))) (eVar 1)) [2])) aNil))))
  (sRaiseI "UnknownName" "there is no definition of " (aCons (eVar 1) aNil))
  sNext)
  (sRet (eCall (lenD 2 d_proc_named) (aCons (eVar 0) (aCons (eVar 1) aNil)))))
noncomputable def den_proc_or_error (d_proc_named : List D → M Rv) : List D → M Rv := fun ds => runB 3 (r_proc_or_error d_proc_named) ds
theorem mp_proc_or_error {k : Nat} {f : Addr} {fd : FuncData} (F : Fun K "proc_or_error" "proc_or_error" st_proc_or_error f fd) {f_proc_named : Addr} {e_proc_named : FuncData} {d_proc_named : List D → M Rv} (T_proc_named : FnI K mg "proc_named" st_proc_named f_proc_named e_proc_named ["core", "name"]) (F_proc_named : FnOk P w K mg base CX0 (k + 1) f_proc_named e_proc_named ["core", "name"] (sp K mg 2 d_proc_named)) (z_any : mg "any" = none) {c_UnknownName : Addr} (XI_UnknownName : ExcI P K mg "UnknownName" c_UnknownName "there is no definition of ") : FnOk P w K mg base (L2.CX P w) (k + 2) f fd ["core", "name"] (sp K mg 2 (den_proc_or_error d_proc_named)) :=
  have sc := sc_proc_or_error
  fn_mpX (N := ["core", "name", "proc"]) (r := r_proc_or_error d_proc_named) F sc_proc_or_error rfl fun cdv A outer s H E hr =>
  have hu := hr.units
  have hu1 := units1 hr
  (mss_cons (ms_if (mt_not (mt_val (me_callB (cr_any rfl) callM_any rfl z_any (by decide +kernel) (ma_cons (me_fl (mf_comp rfl sc.nd (mi_seq (me_var (pv 0))) (own := [("proc", 2)]) (blkOk_by (N := ["core", "name", "proc"]) (sc := defScope st_proc_or_error) (by decide +kernel)) (by decide) (fun s H C cl fp => (mg_of (pg_name (i := 2) sc.nd rfl (by first | exact Or.inl rfl | exact Or.inr rfl)))) (fun s H C cl fp => mts_nil) (fun s H C cl fp => (me_cmp (op_eqM hu) opm_eq (me_ix (me_var (pv 2)) me_int) (me_var (pv 1)) (by first | exact nomark _ | rfl))))) ma_nil))))
  (mss_one (ms_raiseI rfl (takes_of rfl rfl rfl rfl) servesE XI_UnknownName hr rfl (ma_cons (me_var (pv 1)) ma_nil)))
  mss_nil)
  (mss_one (ms_ret (me_callF T_proc_named F_proc_named hr rfl (ma_cons (me_var (pv 0)) (ma_cons (me_var (pv 1)) ma_nil)) rfl))))
abbrev st_equal_inputs : Stmt := top 22
theorem sc_equal_inputs : FnScope ["core", "name", "names", "proc", "givens", "pairs", "item"] ["core", "name", "names"] (defScope st_equal_inputs) := ⟨rfl, rfl, rfl, by decide +kernel, rfl, by decide +kernel, by decide +kernel⟩
/-- names: 0 core, 1 name, 2 names, 3 proc, 4 givens, 5 pairs, 6 item -/
noncomputable def r_equal_inputs (d_proc_named : List D → M Rv) (d_both_ways : List D → M Rv) (d_variable : List D → M Rv) : MP.Env → M Fl :=
  (sSeq (sSet 3 (eCall (lenD 2 d_proc_named) (aCons (eVar 0) (aCons (eVar 1) aNil))))
  (sSeq (sSet 4 (eNew (aList aNil)))
  (sSeq (sSet 5 (eNew (aList aNil)))
  (sSeq (sFor (eWalk (eBin gIx (eVar 3) (eC (.int 1)))) (asgN 6)
  (eIf (eB (eBin (gEq false) (eBin gIx (eVar 6) (eC (.int 0))) (eC (.str "array"))))
  (sExpr (eMeth lstK gAppend (eVar 5) (aCons (aThen gTup (aCons (eBin gIx (eVar 6) (eC (.int 1))) (aCons (eBin gIx (eVar 6) (eC (.int 1))) aNil))) aNil)))
  (eIf (eB (eBin (gIn false) (eBin gIx (eVar 6) (eC (.int 1))) (eVar 2)))
  (sExpr (eMeth lstK gExtendT (eVar 4) (aCons (eCall (lenD 2 d_both_ways) (aCons (eCall (lenD 1 d_variable) (aCons (eBin gAdd (eBin gAdd (eC (.str "l.")) (eC (.str "@"))) (eBin gIx (eVar 6) (eC (.int 1)))) aNil)) (aCons (eCall (lenD 1 d_variable) (aCons (eBin gAdd (eBin gAdd (eC (.str "r.")) (eC (.str "@"))) (eBin gIx (eVar 6) (eC (.int 1)))) aNil)) aNil))) aNil)))
  sNext)) [6])
  (sRet (aThen gTup (aCons (aThen (g1 gTuple) (aCons (eVar 4) aNil)) (aCons (aThen (g1 gTuple) (aCons (eVar 5) aNil)) aNil))))))))
noncomputable def den_equal_inputs (d_proc_named : List D → M Rv) (d_both_ways : List D → M Rv) (d_variable : List D → M Rv) : List D → M Rv := fun ds => noX (runB 7 (r_equal_inputs d_proc_named d_both_ways d_variable) ds)
theorem mp_equal_inputs {k : Nat} {f : Addr} {fd : FuncData} (F : Fun K "equal_inputs" "equal_inputs" st_equal_inputs f fd) {f_proc_named : Addr} {e_proc_named : FuncData} {f_both_ways : Addr} {e_both_ways : FuncData} {f_variable : Addr} {e_variable : FuncData} {d_proc_named : List D → M Rv} {d_both_ways : List D → M Rv} {d_variable : List D → M Rv} (T_proc_named : FnI K mg "proc_named" st_proc_named f_proc_named e_proc_named ["core", "name"]) (F_proc_named : FnOk P w K mg base CX0 k f_proc_named e_proc_named ["core", "name"] (sp K mg 2 d_proc_named)) (T_both_ways : FnI K mg "both_ways" st_both_ways f_both_ways e_both_ways ["f", "g"]) (F_both_ways : FnOk P w K mg base CX0 k f_both_ways e_both_ways ["f", "g"] (sp K mg 2 d_both_ways)) (T_variable : FnI K mg "variable" st_variable f_variable e_variable ["name"]) (F_variable : FnOk P w K mg base CX0 k f_variable e_variable ["name"] (sp K mg 1 d_variable)) (z_tuple : mg "tuple" = none) {t_RIGHT : Tok} (q_RIGHT : mg "RIGHT" = some (.str "r." t_RIGHT)) {t_LEFT : Tok} (q_LEFT : mg "LEFT" = some (.str "l." t_LEFT)) : FnOk P w K mg base CX0 (k + 1) f fd ["core", "name", "names"] (sp K mg 3 (den_equal_inputs d_proc_named d_both_ways d_variable)) :=
  have sc := sc_equal_inputs
  fn_mp (N := ["core", "name", "names", "proc", "givens", "pairs", "item"]) (r := r_equal_inputs d_proc_named d_both_ways d_variable) F sc_equal_inputs rfl fun cdv A outer s H E hr =>
  have hu := hr.units
  have hu1 := units1 hr
  (mss_cons (ms_set (i := 3) sc.nd rfl (by first | exact Or.inl rfl | exact Or.inr rfl) (me_callF T_proc_named F_proc_named hr rfl (ma_cons (me_var (pv 0)) (ma_cons (me_var (pv 1)) ma_nil)) rfl))
  (mss_cons (ms_set (i := 4) sc.nd rfl (by first | exact Or.inl rfl | exact Or.inr rfl) (me_new (mf_lst ma_nil)))
  (mss_cons (ms_set (i := 5) sc.nd rfl (by first | exact Or.inl rfl | exact Or.inr rfl) (me_new (mf_lst ma_nil)))
  (mss_cons (ms_for (fg := [6]) PassesOwn.never rfl (mi_seq (me_ix (me_var (pv 3)) me_int)) (mg_of (pg_name (i := 6) sc.nd rfl (by first | exact Or.inl rfl | exact Or.inr rfl)))
  (mss_one (ms_if (mt_cmp (op_eqM hu) opm_eq (me_ix (me_var (pv 6)) me_int) me_str (by first | exact nomark _ | rfl))
  (mss_one (ms_expr (me_lmeth PySem.F.slot_list_append PySem.F.type_list_append mt_append methM_append (me_var (pv 5)) (ma_cons (me_tup (ma_cons (me_ix (me_var (pv 6)) me_int) (ma_cons (me_ix (me_var (pv 6)) me_int) ma_nil))) ma_nil))))
  (mss_one (ms_if (mt_cmp (op_inM hu) opm_in (me_ix (me_var (pv 6)) me_int) (me_var (pv 2)) (by first | exact nomark _ | rfl))
  (mss_one (ms_expr (me_lmeth PySem.F.slot_list_extend PySem.F.type_list_extend mt_extendT methM_extendT (me_var (pv 4)) (ma_cons (me_callF T_both_ways F_both_ways hr rfl (ma_cons (me_callF T_variable F_variable hr rfl (ma_cons (me_bin op_addM opm_add (me_bin op_addM opm_add (me_gstr rfl q_LEFT) me_str) (me_ix (me_var (pv 6)) me_int)) ma_nil) rfl) (ma_cons (me_callF T_variable F_variable hr rfl (ma_cons (me_bin op_addM opm_add (me_bin op_addM opm_add (me_gstr rfl q_RIGHT) me_str) (me_ix (me_var (pv 6)) me_int)) ma_nil) rfl) ma_nil)) rfl) ma_nil))))
  mss_nil)))))
  (mss_one (ms_ret (me_tup (ma_cons (me_callTy call_tuple_of callM_tuple rfl z_tuple (by decide +kernel) (ma_cons (me_var (pv 4)) ma_nil)) (ma_cons (me_callTy call_tuple_of callM_tuple rfl z_tuple (by decide +kernel) (ma_cons (me_var (pv 5)) ma_nil)) ma_nil)))))))))
abbrev st_integers_of : Stmt := top 23
theorem sc_integers_of : FnScope ["core", "name", "item"] ["core", "name"] (defScope st_integers_of) := ⟨rfl, rfl, rfl, by decide +kernel, rfl, by decide +kernel, by decide +kernel⟩
/-- names: 0 core, 1 name, 2 item -/
noncomputable def r_integers_of (d_proc_named : List D → M Rv) : MP.Env → M Fl :=
  (sRetF (fComp (eWalk (eBin gIx (eCall (lenD 2 d_proc_named) (aCons (eVar 0) (aCons (eVar 1) aNil))) (eC (.int 1)))) (asgN 2) (eB (eBin (gEq false) (eBin gIx (eVar 2) (eC (.int 0))) (eC (.str "int")))) (eBin gIx (eVar 2) (eC (.int 1))) [2]))
noncomputable def den_integers_of (d_proc_named : List D → M Rv) : List D → M Rv := fun ds => noX (runB 3 (r_integers_of d_proc_named) ds)
theorem mp_integers_of {k : Nat} {f : Addr} {fd : FuncData} (F : Fun K "integers_of" "integers_of" st_integers_of f fd) {f_proc_named : Addr} {e_proc_named : FuncData} {d_proc_named : List D → M Rv} (T_proc_named : FnI K mg "proc_named" st_proc_named f_proc_named e_proc_named ["core", "name"]) (F_proc_named : FnOk P w K mg base CX0 k f_proc_named e_proc_named ["core", "name"] (sp K mg 2 d_proc_named)) : FnOk P w K mg base CX0 (k + 1) f fd ["core", "name"] (sp K mg 2 (den_integers_of d_proc_named)) :=
  have sc := sc_integers_of
  fn_mp (N := ["core", "name", "item"]) (r := r_integers_of d_proc_named) F sc_integers_of rfl fun cdv A outer s H E hr =>
  have hu := hr.units
  have hu1 := units1 hr
  (mss_one (ms_retF (mf_comp rfl sc.nd (mi_seq (me_ix (me_callF T_proc_named F_proc_named hr rfl (ma_cons (me_var (pv 0)) (ma_cons (me_var (pv 1)) ma_nil)) rfl) me_int)) (own := [("item", 2)]) (blkOk_by (N := ["core", "name", "item"]) (sc := defScope st_integers_of) (by decide +kernel)) (by decide) (fun s H C cl fp => (mg_of (pg_name (i := 2) sc.nd rfl (by first | exact Or.inl rfl | exact Or.inr rfl)))) (fun s H C cl fp => (mts_one (mt_cmp (op_eqM hu) opm_eq (me_ix (me_var (pv 2)) me_int) me_str (by first | exact nomark _ | rfl)))) (fun s H C cl fp => (me_ix (me_var (pv 2)) me_int)))))
abbrev st_equal_results : Stmt := top 24
theorem sc_equal_results : FnScope ["proc", "found", "result"] ["proc"] (defScope st_equal_results) := ⟨rfl, rfl, rfl, by decide +kernel, rfl, by decide +kernel, by decide +kernel⟩
/-- names: 0 proc, 1 found, 2 result -/
noncomputable def r_equal_results (d_both_ways : List D → M Rv) (d_variable : List D → M Rv) : MP.Env → M Fl :=
  (sSeq (sSet 1 (eNew (aList aNil)))
  (sSeq (sFor (eWalk (eBin gIx (eVar 0) (eC (.int 2)))) (asgN 2)
  (sExpr (eMeth lstK gExtendT (eVar 1) (aCons (eCall (lenD 2 d_both_ways) (aCons (eCall (lenD 1 d_variable) (aCons (eBin gAdd (eBin gAdd (eC (.str "l.")) (eC (.str "."))) (eVar 2)) aNil)) (aCons (eCall (lenD 1 d_variable) (aCons (eBin gAdd (eBin gAdd (eC (.str "r.")) (eC (.str "."))) (eVar 2)) aNil)) aNil))) aNil))) [2])
  (sRet (eVar 1))))
noncomputable def den_equal_results (d_both_ways : List D → M Rv) (d_variable : List D → M Rv) : List D → M Rv := fun ds => noX (runB 3 (r_equal_results d_both_ways d_variable) ds)
theorem mp_equal_results {k : Nat} {f : Addr} {fd : FuncData} (F : Fun K "equal_results" "equal_results" st_equal_results f fd) {f_both_ways : Addr} {e_both_ways : FuncData} {f_variable : Addr} {e_variable : FuncData} {d_both_ways : List D → M Rv} {d_variable : List D → M Rv} (T_both_ways : FnI K mg "both_ways" st_both_ways f_both_ways e_both_ways ["f", "g"]) (F_both_ways : FnOk P w K mg base CX0 k f_both_ways e_both_ways ["f", "g"] (sp K mg 2 d_both_ways)) (T_variable : FnI K mg "variable" st_variable f_variable e_variable ["name"]) (F_variable : FnOk P w K mg base CX0 k f_variable e_variable ["name"] (sp K mg 1 d_variable)) {t_RIGHT : Tok} (q_RIGHT : mg "RIGHT" = some (.str "r." t_RIGHT)) {t_LEFT : Tok} (q_LEFT : mg "LEFT" = some (.str "l." t_LEFT)) : FnOk P w K mg base CX0 (k + 1) f fd ["proc"] (sp K mg 1 (den_equal_results d_both_ways d_variable)) :=
  have sc := sc_equal_results
  fn_mp (N := ["proc", "found", "result"]) (r := r_equal_results d_both_ways d_variable) F sc_equal_results rfl fun cdv A outer s H E hr =>
  have hu := hr.units
  have hu1 := units1 hr
  (mss_cons (ms_set (i := 1) sc.nd rfl (by first | exact Or.inl rfl | exact Or.inr rfl) (me_new (mf_lst ma_nil)))
  (mss_cons (ms_for (fg := [2]) PassesOwn.never rfl (mi_seq (me_ix (me_var (pv 0)) me_int)) (mg_of (pg_name (i := 2) sc.nd rfl (by first | exact Or.inl rfl | exact Or.inr rfl)))
  (mss_one (ms_expr (me_lmeth PySem.F.slot_list_extend PySem.F.type_list_extend mt_extendT methM_extendT (me_var (pv 1)) (ma_cons (me_callF T_both_ways F_both_ways hr rfl (ma_cons (me_callF T_variable F_variable hr rfl (ma_cons (me_bin op_addM opm_add (me_bin op_addM opm_add (me_gstr rfl q_LEFT) me_str) (me_var (pv 2))) ma_nil) rfl) (ma_cons (me_callF T_variable F_variable hr rfl (ma_cons (me_bin op_addM opm_add (me_bin op_addM opm_add (me_gstr rfl q_RIGHT) me_str) (me_var (pv 2))) ma_nil) rfl) ma_nil)) rfl) ma_nil)))))
  (mss_one (ms_ret (me_var (pv 1))))))
abbrev st_secret_claim : Stmt := top 25
theorem sc_secret_claim : FnScope ["core", "name", "secrets", "proc", "names", "asks", "givens", "pairs", "one"] ["core", "name", "secrets"] (defScope st_secret_claim) := ⟨rfl, rfl, rfl, by decide +kernel, rfl, by decide +kernel, by decide +kernel⟩
/-- names: 0 core, 1 name, 2 secrets, 3 proc, 4 names, 5 asks, 6 givens, 7 pairs, 8 one -/
noncomputable def r_secret_claim (d_proc_or_error : List D → M Rv) (d_integers_of : List D → M Rv) (d_equal_inputs : List D → M Rv) (d_equal_results : List D → M Rv) (d_both_ways : List D → M Rv) (d_variable : List D → M Rv) (d_count_name : List D → M Rv) : MP.Env → M Fl :=
  (sSeq (sSet 3 (eCall (lenD 2 d_proc_or_error) (aCons (eVar 0) (aCons (eVar 1) aNil))))
  (sSeq (sSet 4 (eCall (lenD 2 d_integers_of) (aCons (eVar 0) (aCons (eVar 1) aNil))))
  (sSeq (eIf (bNot (eB (aThen (g1 gAll) (aCons (eFl (fComp (eWalk (eVar 2)) (asgN 8) tYesM (eBin (gIn false) (eVar 8) (eVar 4)) [8])) aNil))))
  (sRaise ⟨"BadClaim", []⟩)
  sNext)
  (sSeq (sAsg (eCall (lenD 3 d_equal_inputs) (aCons (eVar 0) (aCons (eVar 1) (aCons (eFl (fComp (eWalk (eVar 4)) (asgN 8) (eB (eBin (gIn true) (eVar 8) (eVar 2))) (eVar 8) [8])) aNil)))) (asgT 2 (asgCons (asgN 6) (asgCons (asgN 7) asgNil))))
  (sSeq (sSet 5 (eBin gAdd (eCall (lenD 1 d_equal_results) (aCons (eVar 3) aNil)) (eFl (fThen1 rdQ (aCons (eCall (lenD 2 d_both_ways) (aCons (eCall (lenD 1 d_variable) (aCons (eCall (lenD 1 d_count_name) (aCons (eC (.str "l.")) aNil)) aNil)) (aCons (eCall (lenD 1 d_variable) (aCons (eCall (lenD 1 d_count_name) (aCons (eC (.str "r.")) aNil)) aNil)) aNil))) aNil)))))
  (sRet (aThen gTup (aCons (eVar 1) (aCons (eVar 1) (aCons (eVar 6) (aCons (eVar 7) (aCons (aThen (g1 gTuple) (aCons (eVar 5) aNil)) (aCons (eVar 7) aNil)))))))))))))
noncomputable def den_secret_claim (d_proc_or_error : List D → M Rv) (d_integers_of : List D → M Rv) (d_equal_inputs : List D → M Rv) (d_equal_results : List D → M Rv) (d_both_ways : List D → M Rv) (d_variable : List D → M Rv) (d_count_name : List D → M Rv) : List D → M Rv := fun ds => runB 9 (r_secret_claim d_proc_or_error d_integers_of d_equal_inputs d_equal_results d_both_ways d_variable d_count_name) ds
theorem mp_secret_claim {k : Nat} {f : Addr} {fd : FuncData} (F : Fun K "secret_claim" "secret_claim" st_secret_claim f fd) {f_proc_or_error : Addr} {e_proc_or_error : FuncData} {f_integers_of : Addr} {e_integers_of : FuncData} {f_equal_inputs : Addr} {e_equal_inputs : FuncData} {f_equal_results : Addr} {e_equal_results : FuncData} {f_both_ways : Addr} {e_both_ways : FuncData} {f_variable : Addr} {e_variable : FuncData} {f_count_name : Addr} {e_count_name : FuncData} {d_proc_or_error : List D → M Rv} {d_integers_of : List D → M Rv} {d_equal_inputs : List D → M Rv} {d_equal_results : List D → M Rv} {d_both_ways : List D → M Rv} {d_variable : List D → M Rv} {d_count_name : List D → M Rv} (T_proc_or_error : FnI K mg "proc_or_error" st_proc_or_error f_proc_or_error e_proc_or_error ["core", "name"]) (F_proc_or_error : FnOk P w K mg base (L2.CX P w) k f_proc_or_error e_proc_or_error ["core", "name"] (sp K mg 2 d_proc_or_error)) (T_integers_of : FnI K mg "integers_of" st_integers_of f_integers_of e_integers_of ["core", "name"]) (F_integers_of : FnOk P w K mg base CX0 k f_integers_of e_integers_of ["core", "name"] (sp K mg 2 d_integers_of)) (T_equal_inputs : FnI K mg "equal_inputs" st_equal_inputs f_equal_inputs e_equal_inputs ["core", "name", "names"]) (F_equal_inputs : FnOk P w K mg base CX0 k f_equal_inputs e_equal_inputs ["core", "name", "names"] (sp K mg 3 d_equal_inputs)) (T_equal_results : FnI K mg "equal_results" st_equal_results f_equal_results e_equal_results ["proc"]) (F_equal_results : FnOk P w K mg base CX0 k f_equal_results e_equal_results ["proc"] (sp K mg 1 d_equal_results)) (T_both_ways : FnI K mg "both_ways" st_both_ways f_both_ways e_both_ways ["f", "g"]) (F_both_ways : FnOk P w K mg base CX0 k f_both_ways e_both_ways ["f", "g"] (sp K mg 2 d_both_ways)) (T_variable : FnI K mg "variable" st_variable f_variable e_variable ["name"]) (F_variable : FnOk P w K mg base CX0 k f_variable e_variable ["name"] (sp K mg 1 d_variable)) (T_count_name : FnI K mg "count_name" st_count_name f_count_name e_count_name ["mark"]) (F_count_name : FnOk P w K mg base CX0 k f_count_name e_count_name ["mark"] (sp K mg 1 d_count_name)) (z_all : mg "all" = none) (z_list : mg "list" = none) (z_tuple : mg "tuple" = none) {t_RIGHT : Tok} (q_RIGHT : mg "RIGHT" = some (.str "r." t_RIGHT)) {t_LEFT : Tok} (q_LEFT : mg "LEFT" = some (.str "l." t_LEFT)) {c_BadClaim : Addr} (XK_BadClaim : ExcK K mg "BadClaim" c_BadClaim) (XQ_BadClaim : PySem.W.excIn K c_BadClaim veMro "ValueError.__new__" = true) : FnOk P w K mg base (L2.CX P w) (k + 1) f fd ["core", "name", "secrets"] (sp K mg 3 (den_secret_claim d_proc_or_error d_integers_of d_equal_inputs d_equal_results d_both_ways d_variable d_count_name)) :=
  have sc := sc_secret_claim
  fn_mpX (N := ["core", "name", "secrets", "proc", "names", "asks", "givens", "pairs", "one"]) (r := r_secret_claim d_proc_or_error d_integers_of d_equal_inputs d_equal_results d_both_ways d_variable d_count_name) F sc_secret_claim rfl fun cdv A outer s H E hr =>
  have hu := hr.units
  have hu1 := units1 hr
  (mss_cons (ms_set (i := 3) sc.nd rfl (by first | exact Or.inl rfl | exact Or.inr rfl) (me_callL T_proc_or_error F_proc_or_error hr (xokE (takes_of rfl rfl rfl rfl)) rfl (ma_cons (me_var (pv 0)) (ma_cons (me_var (pv 1)) ma_nil)) rfl))
  (mss_cons (ms_set (i := 4) sc.nd rfl (by first | exact Or.inl rfl | exact Or.inr rfl) (me_callF T_integers_of F_integers_of hr rfl (ma_cons (me_var (pv 0)) (ma_cons (me_var (pv 1)) ma_nil)) rfl))
  (mss_cons (ms_if (mt_not (mt_val (me_callB (cr_all rfl) callM_all rfl z_all (by decide +kernel) (ma_cons (me_fl (mf_comp rfl sc.nd (mi_seq (me_var (pv 2))) (own := [("one", 8)]) (blkOk_by (N := ["core", "name", "secrets", "proc", "names", "asks", "givens", "pairs", "one"]) (sc := defScope st_secret_claim) (by decide +kernel)) (by decide) (fun s H C cl fp => (mg_of (pg_name (i := 8) sc.nd rfl (by first | exact Or.inl rfl | exact Or.inr rfl)))) (fun s H C cl fp => mts_nil) (fun s H C cl fp => (me_cmp (op_inM hu) opm_in (me_var (pv 8)) (me_var (pv 4)) (by first | exact nomark _ | rfl))))) ma_nil))))
  (mss_one (ms_raise rfl (takes_of rfl rfl rfl rfl) servesE XK_BadClaim XQ_BadClaim rfl))
  mss_nil)
  (mss_cons (ms_asg (me_callF T_equal_inputs F_equal_inputs hr rfl (ma_cons (me_var (pv 0)) (ma_cons (me_var (pv 1)) (ma_cons (me_fl (mf_comp rfl sc.nd (mi_seq (me_var (pv 4))) (own := [("one", 8)]) (blkOk_by (N := ["core", "name", "secrets", "proc", "names", "asks", "givens", "pairs", "one"]) (sc := defScope st_secret_claim) (by decide +kernel)) (by decide) (fun s H C cl fp => (mg_of (pg_name (i := 8) sc.nd rfl (by first | exact Or.inl rfl | exact Or.inr rfl)))) (fun s H C cl fp => (mts_one (mt_cmp (op_notInM hu) opm_in (me_var (pv 8)) (me_var (pv 2)) (by first | exact nomark _ | rfl)))) (fun s H C cl fp => (me_var (pv 8))))) ma_nil))) rfl) (mg_tup rfl (mgs_cons (mg_of (pg_name (i := 6) sc.nd rfl (by first | exact Or.inl rfl | exact Or.inr rfl))) (mgs_cons (mg_of (pg_name (i := 7) sc.nd rfl (by first | exact Or.inl rfl | exact Or.inr rfl))) mgs_nil))))
  (mss_cons (ms_set (i := 5) sc.nd rfl (by first | exact Or.inl rfl | exact Or.inr rfl) (me_bin op_addM opm_add (me_callF T_equal_results F_equal_results hr rfl (ma_cons (me_var (pv 3)) ma_nil) rfl) (me_fl (mf_list1 rfl z_list (by decide +kernel) (ma_cons (me_callF T_both_ways F_both_ways hr rfl (ma_cons (me_callF T_variable F_variable hr rfl (ma_cons (me_callF T_count_name F_count_name hr rfl (ma_cons (me_gstr rfl q_LEFT) ma_nil) rfl) ma_nil) rfl) (ma_cons (me_callF T_variable F_variable hr rfl (ma_cons (me_callF T_count_name F_count_name hr rfl (ma_cons (me_gstr rfl q_RIGHT) ma_nil) rfl) ma_nil) rfl) ma_nil)) rfl) ma_nil)))))
  (mss_one (ms_ret (me_tup (ma_cons (me_var (pv 1)) (ma_cons (me_var (pv 1)) (ma_cons (me_var (pv 6)) (ma_cons (me_var (pv 7)) (ma_cons (me_callTy call_tuple_of callM_tuple rfl z_tuple (by decide +kernel) (ma_cons (me_var (pv 5)) ma_nil)) (ma_cons (me_var (pv 7)) ma_nil))))))))))))))
abbrev st_growing_claim : Stmt := top 26
theorem sc_growing_claim : FnScope ["core", "name", "parameter", "proc", "names", "more", "ask", "givens", "pairs", "one"] ["core", "name", "parameter"] (defScope st_growing_claim) := ⟨rfl, rfl, rfl, by decide +kernel, rfl, by decide +kernel, by decide +kernel⟩
/-- names: 0 core, 1 name, 2 parameter, 3 proc, 4 names, 5 more, 6 ask, 7 givens, 8 pairs, 9 one -/
noncomputable def r_growing_claim (d_proc_or_error : List D → M Rv) (d_integers_of : List D → M Rv) (d_equal_inputs : List D → M Rv) (d_minus : List D → M Rv) (d_variable : List D → M Rv) : MP.Env → M Fl :=
  (sSeq (sSet 3 (eCall (lenD 2 d_proc_or_error) (aCons (eVar 0) (aCons (eVar 1) aNil))))
  (sSeq (sSet 4 (eCall (lenD 2 d_integers_of) (aCons (eVar 0) (aCons (eVar 1) aNil))))
  (sSeq (eIf (bOr (eB (eBin (gIn true) (eVar 2) (eVar 4))) (eB (eBin (gEq true) (aThen (g1 gLen) (aCons (eBin gIx (eVar 3) (eC (.int 2))) aNil)) (eC (.int 1)))))
  (sRaise ⟨"BadClaim", []⟩)
  sNext)
  (sSeq (sAsg (eCall (lenD 3 d_equal_inputs) (aCons (eVar 0) (aCons (eVar 1) (aCons (eFl (fComp (eWalk (eVar 4)) (asgN 9) (eB (eBin (gEq true) (eVar 9) (eVar 2))) (eVar 9) [9])) aNil)))) (asgT 2 (asgCons (asgN 7) (asgCons (asgN 8) asgNil))))
  (sSeq (sSet 5 (eCall (lenD 2 d_minus) (aCons (eCall (lenD 1 d_variable) (aCons (eBin gAdd (eBin gAdd (eC (.str "r.")) (eC (.str "@"))) (eVar 2)) aNil)) (aCons (eCall (lenD 1 d_variable) (aCons (eBin gAdd (eBin gAdd (eC (.str "l.")) (eC (.str "@"))) (eVar 2)) aNil)) aNil))))
  (sSeq (sSet 6 (eCall (lenD 2 d_minus) (aCons (eCall (lenD 1 d_variable) (aCons (eBin gAdd (eBin gAdd (eC (.str "r.")) (eC (.str "."))) (eBin gIx (eBin gIx (eVar 3) (eC (.int 2))) (eC (.int 0)))) aNil)) (aCons (eCall (lenD 1 d_variable) (aCons (eBin gAdd (eBin gAdd (eC (.str "l.")) (eC (.str "."))) (eBin gIx (eBin gIx (eVar 3) (eC (.int 2))) (eC (.int 0)))) aNil)) aNil))))
  (sRet (aThen gTup (aCons (eVar 1) (aCons (eVar 1) (aCons (eBin gAdd (eVar 7) (aThen gTup (aCons (eVar 5) aNil))) (aCons (eVar 8) (aCons (aThen gTup (aCons (eVar 6) aNil)) (aCons (aThen gTup aNil) aNil))))))))))))))
noncomputable def den_growing_claim (d_proc_or_error : List D → M Rv) (d_integers_of : List D → M Rv) (d_equal_inputs : List D → M Rv) (d_minus : List D → M Rv) (d_variable : List D → M Rv) : List D → M Rv := fun ds => runB 10 (r_growing_claim d_proc_or_error d_integers_of d_equal_inputs d_minus d_variable) ds
theorem mp_growing_claim {k : Nat} {f : Addr} {fd : FuncData} (F : Fun K "growing_claim" "growing_claim" st_growing_claim f fd) {f_proc_or_error : Addr} {e_proc_or_error : FuncData} {f_integers_of : Addr} {e_integers_of : FuncData} {f_equal_inputs : Addr} {e_equal_inputs : FuncData} {f_minus : Addr} {e_minus : FuncData} {f_variable : Addr} {e_variable : FuncData} {d_proc_or_error : List D → M Rv} {d_integers_of : List D → M Rv} {d_equal_inputs : List D → M Rv} {d_minus : List D → M Rv} {d_variable : List D → M Rv} (T_proc_or_error : FnI K mg "proc_or_error" st_proc_or_error f_proc_or_error e_proc_or_error ["core", "name"]) (F_proc_or_error : FnOk P w K mg base (L2.CX P w) k f_proc_or_error e_proc_or_error ["core", "name"] (sp K mg 2 d_proc_or_error)) (T_integers_of : FnI K mg "integers_of" st_integers_of f_integers_of e_integers_of ["core", "name"]) (F_integers_of : FnOk P w K mg base CX0 k f_integers_of e_integers_of ["core", "name"] (sp K mg 2 d_integers_of)) (T_equal_inputs : FnI K mg "equal_inputs" st_equal_inputs f_equal_inputs e_equal_inputs ["core", "name", "names"]) (F_equal_inputs : FnOk P w K mg base CX0 k f_equal_inputs e_equal_inputs ["core", "name", "names"] (sp K mg 3 d_equal_inputs)) (T_minus : FnI K mg "minus" st_minus f_minus e_minus ["f", "g"]) (F_minus : FnOk P w K mg base CX0 k f_minus e_minus ["f", "g"] (sp K mg 2 d_minus)) (T_variable : FnI K mg "variable" st_variable f_variable e_variable ["name"]) (F_variable : FnOk P w K mg base CX0 k f_variable e_variable ["name"] (sp K mg 1 d_variable)) (z_len : mg "len" = none) {t_LEFT : Tok} (q_LEFT : mg "LEFT" = some (.str "l." t_LEFT)) {t_RIGHT : Tok} (q_RIGHT : mg "RIGHT" = some (.str "r." t_RIGHT)) {c_BadClaim : Addr} (XK_BadClaim : ExcK K mg "BadClaim" c_BadClaim) (XQ_BadClaim : PySem.W.excIn K c_BadClaim veMro "ValueError.__new__" = true) : FnOk P w K mg base (L2.CX P w) (k + 1) f fd ["core", "name", "parameter"] (sp K mg 3 (den_growing_claim d_proc_or_error d_integers_of d_equal_inputs d_minus d_variable)) :=
  have sc := sc_growing_claim
  fn_mpX (N := ["core", "name", "parameter", "proc", "names", "more", "ask", "givens", "pairs", "one"]) (r := r_growing_claim d_proc_or_error d_integers_of d_equal_inputs d_minus d_variable) F sc_growing_claim rfl fun cdv A outer s H E hr =>
  have hu := hr.units
  have hu1 := units1 hr
  (mss_cons (ms_set (i := 3) sc.nd rfl (by first | exact Or.inl rfl | exact Or.inr rfl) (me_callL T_proc_or_error F_proc_or_error hr (xokE (takes_of rfl rfl rfl rfl)) rfl (ma_cons (me_var (pv 0)) (ma_cons (me_var (pv 1)) ma_nil)) rfl))
  (mss_cons (ms_set (i := 4) sc.nd rfl (by first | exact Or.inl rfl | exact Or.inr rfl) (me_callF T_integers_of F_integers_of hr rfl (ma_cons (me_var (pv 0)) (ma_cons (me_var (pv 1)) ma_nil)) rfl))
  (mss_cons (ms_if (MW.mt (mw_or (mt_cmp (op_notInM hu) opm_in (me_var (pv 2)) (me_var (pv 4)) (by first | exact nomark _ | rfl)) (mw_or1 (mt_cmp (op_neM hu) opm_eq (me_callB call_lenM callM_len rfl z_len PySem.boot_len (ma_cons (me_ix (me_var (pv 3)) me_int) ma_nil)) me_int (by first | exact nomark _ | rfl)))))
  (mss_one (ms_raise rfl (takes_of rfl rfl rfl rfl) servesE XK_BadClaim XQ_BadClaim rfl))
  mss_nil)
  (mss_cons (ms_asg (me_callF T_equal_inputs F_equal_inputs hr rfl (ma_cons (me_var (pv 0)) (ma_cons (me_var (pv 1)) (ma_cons (me_fl (mf_comp rfl sc.nd (mi_seq (me_var (pv 4))) (own := [("one", 9)]) (blkOk_by (N := ["core", "name", "parameter", "proc", "names", "more", "ask", "givens", "pairs", "one"]) (sc := defScope st_growing_claim) (by decide +kernel)) (by decide) (fun s H C cl fp => (mg_of (pg_name (i := 9) sc.nd rfl (by first | exact Or.inl rfl | exact Or.inr rfl)))) (fun s H C cl fp => (mts_one (mt_cmp (op_neM hu) opm_eq (me_var (pv 9)) (me_var (pv 2)) (by first | exact nomark _ | rfl)))) (fun s H C cl fp => (me_var (pv 9))))) ma_nil))) rfl) (mg_tup rfl (mgs_cons (mg_of (pg_name (i := 7) sc.nd rfl (by first | exact Or.inl rfl | exact Or.inr rfl))) (mgs_cons (mg_of (pg_name (i := 8) sc.nd rfl (by first | exact Or.inl rfl | exact Or.inr rfl))) mgs_nil))))
  (mss_cons (ms_set (i := 5) sc.nd rfl (by first | exact Or.inl rfl | exact Or.inr rfl) (me_callF T_minus F_minus hr rfl (ma_cons (me_callF T_variable F_variable hr rfl (ma_cons (me_bin op_addM opm_add (me_bin op_addM opm_add (me_gstr rfl q_RIGHT) me_str) (me_var (pv 2))) ma_nil) rfl) (ma_cons (me_callF T_variable F_variable hr rfl (ma_cons (me_bin op_addM opm_add (me_bin op_addM opm_add (me_gstr rfl q_LEFT) me_str) (me_var (pv 2))) ma_nil) rfl) ma_nil)) rfl))
  (mss_cons (ms_set (i := 6) sc.nd rfl (by first | exact Or.inl rfl | exact Or.inr rfl) (me_callF T_minus F_minus hr rfl (ma_cons (me_callF T_variable F_variable hr rfl (ma_cons (me_bin op_addM opm_add (me_bin op_addM opm_add (me_gstr rfl q_RIGHT) me_str) (me_ix (me_ix (me_var (pv 3)) me_int) me_int)) ma_nil) rfl) (ma_cons (me_callF T_variable F_variable hr rfl (ma_cons (me_bin op_addM opm_add (me_bin op_addM opm_add (me_gstr rfl q_LEFT) me_str) (me_ix (me_ix (me_var (pv 3)) me_int) me_int)) ma_nil) rfl) ma_nil)) rfl))
  (mss_one (ms_ret (me_tup (ma_cons (me_var (pv 1)) (ma_cons (me_var (pv 1)) (ma_cons (me_bin op_addM opm_add (me_var (pv 7)) (me_tup (ma_cons (me_var (pv 5)) ma_nil))) (ma_cons (me_var (pv 8)) (ma_cons (me_tup (ma_cons (me_var (pv 6)) ma_nil)) (ma_cons (me_tup ma_nil) ma_nil)))))))))))))))
abbrev st_moved_claim : Stmt := top 27
theorem sc_moved_claim : FnScope ["core", "name", "parameter", "factor", "proc", "names", "more", "change", "room", "givens", "pairs", "one"] ["core", "name", "parameter", "factor"] (defScope st_moved_claim) := ⟨rfl, rfl, rfl, by decide +kernel, rfl, by decide +kernel, by decide +kernel⟩
/-- names: 0 core, 1 name, 2 parameter, 3 factor, 4 proc, 5 names, 6 more, 7 change, 8 room, 9 givens, 10 pairs, 11 one -/
noncomputable def r_moved_claim (d_proc_or_error : List D → M Rv) (d_integers_of : List D → M Rv) (d_equal_inputs : List D → M Rv) (d_minus : List D → M Rv) (d_variable : List D → M Rv) (d_times : List D → M Rv) (d_plus : List D → M Rv) : MP.Env → M Fl :=
  (sSeq (sSet 4 (eCall (lenD 2 d_proc_or_error) (aCons (eVar 0) (aCons (eVar 1) aNil))))
  (sSeq (sSet 5 (eCall (lenD 2 d_integers_of) (aCons (eVar 0) (aCons (eVar 1) aNil))))
  (sSeq (eIf (bOr (eB (eBin (gIn true) (eVar 2) (eVar 5))) (eB (eBin (gEq true) (aThen (g1 gLen) (aCons (eBin gIx (eVar 4) (eC (.int 2))) aNil)) (eC (.int 1)))))
  (sRaise ⟨"BadClaim", []⟩)
  sNext)
  (sSeq (sAsg (eCall (lenD 3 d_equal_inputs) (aCons (eVar 0) (aCons (eVar 1) (aCons (eFl (fComp (eWalk (eVar 5)) (asgN 11) (eB (eBin (gEq true) (eVar 11) (eVar 2))) (eVar 11) [11])) aNil)))) (asgT 2 (asgCons (asgN 9) (asgCons (asgN 10) asgNil))))
  (sSeq (sSet 6 (eCall (lenD 2 d_minus) (aCons (eCall (lenD 1 d_variable) (aCons (eBin gAdd (eBin gAdd (eC (.str "r.")) (eC (.str "@"))) (eVar 2)) aNil)) (aCons (eCall (lenD 1 d_variable) (aCons (eBin gAdd (eBin gAdd (eC (.str "l.")) (eC (.str "@"))) (eVar 2)) aNil)) aNil))))
  (sSeq (sSet 7 (eCall (lenD 2 d_minus) (aCons (eCall (lenD 1 d_variable) (aCons (eBin gAdd (eBin gAdd (eC (.str "r.")) (eC (.str "."))) (eBin gIx (eBin gIx (eVar 4) (eC (.int 2))) (eC (.int 0)))) aNil)) (aCons (eCall (lenD 1 d_variable) (aCons (eBin gAdd (eBin gAdd (eC (.str "l.")) (eC (.str "."))) (eBin gIx (eBin gIx (eVar 4) (eC (.int 2))) (eC (.int 0)))) aNil)) aNil))))
  (sSeq (sSet 8 (eCall (lenD 2 d_times) (aCons (eVar 3) (aCons (eVar 6) aNil))))
  (sRet (aThen gTup (aCons (eVar 1) (aCons (eVar 1) (aCons (eBin gAdd (eVar 9) (aThen gTup (aCons (eVar 6) aNil))) (aCons (eVar 10) (aCons (aThen gTup (aCons (eCall (lenD 2 d_minus) (aCons (eVar 8) (aCons (eVar 7) aNil))) (aCons (eCall (lenD 2 d_plus) (aCons (eVar 8) (aCons (eVar 7) aNil))) aNil))) (aCons (aThen gTup aNil) aNil)))))))))))))))
noncomputable def den_moved_claim (d_proc_or_error : List D → M Rv) (d_integers_of : List D → M Rv) (d_equal_inputs : List D → M Rv) (d_minus : List D → M Rv) (d_variable : List D → M Rv) (d_times : List D → M Rv) (d_plus : List D → M Rv) : List D → M Rv := fun ds => runB 12 (r_moved_claim d_proc_or_error d_integers_of d_equal_inputs d_minus d_variable d_times d_plus) ds
theorem mp_moved_claim {k : Nat} {f : Addr} {fd : FuncData} (F : Fun K "moved_claim" "moved_claim" st_moved_claim f fd) {f_proc_or_error : Addr} {e_proc_or_error : FuncData} {f_integers_of : Addr} {e_integers_of : FuncData} {f_equal_inputs : Addr} {e_equal_inputs : FuncData} {f_minus : Addr} {e_minus : FuncData} {f_variable : Addr} {e_variable : FuncData} {f_times : Addr} {e_times : FuncData} {f_plus : Addr} {e_plus : FuncData} {d_proc_or_error : List D → M Rv} {d_integers_of : List D → M Rv} {d_equal_inputs : List D → M Rv} {d_minus : List D → M Rv} {d_variable : List D → M Rv} {d_times : List D → M Rv} {d_plus : List D → M Rv} (T_proc_or_error : FnI K mg "proc_or_error" st_proc_or_error f_proc_or_error e_proc_or_error ["core", "name"]) (F_proc_or_error : FnOk P w K mg base (L2.CX P w) k f_proc_or_error e_proc_or_error ["core", "name"] (sp K mg 2 d_proc_or_error)) (T_integers_of : FnI K mg "integers_of" st_integers_of f_integers_of e_integers_of ["core", "name"]) (F_integers_of : FnOk P w K mg base CX0 k f_integers_of e_integers_of ["core", "name"] (sp K mg 2 d_integers_of)) (T_equal_inputs : FnI K mg "equal_inputs" st_equal_inputs f_equal_inputs e_equal_inputs ["core", "name", "names"]) (F_equal_inputs : FnOk P w K mg base CX0 k f_equal_inputs e_equal_inputs ["core", "name", "names"] (sp K mg 3 d_equal_inputs)) (T_minus : FnI K mg "minus" st_minus f_minus e_minus ["f", "g"]) (F_minus : FnOk P w K mg base CX0 k f_minus e_minus ["f", "g"] (sp K mg 2 d_minus)) (T_variable : FnI K mg "variable" st_variable f_variable e_variable ["name"]) (F_variable : FnOk P w K mg base CX0 k f_variable e_variable ["name"] (sp K mg 1 d_variable)) (T_times : FnI K mg "times" st_times f_times e_times ["k", "f"]) (F_times : FnOk P w K mg base CX0 k f_times e_times ["k", "f"] (sp K mg 2 d_times)) (T_plus : FnI K mg "plus" st_plus f_plus e_plus ["f", "g"]) (F_plus : FnOk P w K mg base CX0 k f_plus e_plus ["f", "g"] (sp K mg 2 d_plus)) (z_len : mg "len" = none) {t_LEFT : Tok} (q_LEFT : mg "LEFT" = some (.str "l." t_LEFT)) {t_RIGHT : Tok} (q_RIGHT : mg "RIGHT" = some (.str "r." t_RIGHT)) {c_BadClaim : Addr} (XK_BadClaim : ExcK K mg "BadClaim" c_BadClaim) (XQ_BadClaim : PySem.W.excIn K c_BadClaim veMro "ValueError.__new__" = true) : FnOk P w K mg base (L2.CX P w) (k + 1) f fd ["core", "name", "parameter", "factor"] (sp K mg 4 (den_moved_claim d_proc_or_error d_integers_of d_equal_inputs d_minus d_variable d_times d_plus)) :=
  have sc := sc_moved_claim
  fn_mpX (N := ["core", "name", "parameter", "factor", "proc", "names", "more", "change", "room", "givens", "pairs", "one"]) (r := r_moved_claim d_proc_or_error d_integers_of d_equal_inputs d_minus d_variable d_times d_plus) F sc_moved_claim rfl fun cdv A outer s H E hr =>
  have hu := hr.units
  have hu1 := units1 hr
  (mss_cons (ms_set (i := 4) sc.nd rfl (by first | exact Or.inl rfl | exact Or.inr rfl) (me_callL T_proc_or_error F_proc_or_error hr (xokE (takes_of rfl rfl rfl rfl)) rfl (ma_cons (me_var (pv 0)) (ma_cons (me_var (pv 1)) ma_nil)) rfl))
  (mss_cons (ms_set (i := 5) sc.nd rfl (by first | exact Or.inl rfl | exact Or.inr rfl) (me_callF T_integers_of F_integers_of hr rfl (ma_cons (me_var (pv 0)) (ma_cons (me_var (pv 1)) ma_nil)) rfl))
  (mss_cons (ms_if (MW.mt (mw_or (mt_cmp (op_notInM hu) opm_in (me_var (pv 2)) (me_var (pv 5)) (by first | exact nomark _ | rfl)) (mw_or1 (mt_cmp (op_neM hu) opm_eq (me_callB call_lenM callM_len rfl z_len PySem.boot_len (ma_cons (me_ix (me_var (pv 4)) me_int) ma_nil)) me_int (by first | exact nomark _ | rfl)))))
  (mss_one (ms_raise rfl (takes_of rfl rfl rfl rfl) servesE XK_BadClaim XQ_BadClaim rfl))
  mss_nil)
  (mss_cons (ms_asg (me_callF T_equal_inputs F_equal_inputs hr rfl (ma_cons (me_var (pv 0)) (ma_cons (me_var (pv 1)) (ma_cons (me_fl (mf_comp rfl sc.nd (mi_seq (me_var (pv 5))) (own := [("one", 11)]) (blkOk_by (N := ["core", "name", "parameter", "factor", "proc", "names", "more", "change", "room", "givens", "pairs", "one"]) (sc := defScope st_moved_claim) (by decide +kernel)) (by decide) (fun s H C cl fp => (mg_of (pg_name (i := 11) sc.nd rfl (by first | exact Or.inl rfl | exact Or.inr rfl)))) (fun s H C cl fp => (mts_one (mt_cmp (op_neM hu) opm_eq (me_var (pv 11)) (me_var (pv 2)) (by first | exact nomark _ | rfl)))) (fun s H C cl fp => (me_var (pv 11))))) ma_nil))) rfl) (mg_tup rfl (mgs_cons (mg_of (pg_name (i := 9) sc.nd rfl (by first | exact Or.inl rfl | exact Or.inr rfl))) (mgs_cons (mg_of (pg_name (i := 10) sc.nd rfl (by first | exact Or.inl rfl | exact Or.inr rfl))) mgs_nil))))
  (mss_cons (ms_set (i := 6) sc.nd rfl (by first | exact Or.inl rfl | exact Or.inr rfl) (me_callF T_minus F_minus hr rfl (ma_cons (me_callF T_variable F_variable hr rfl (ma_cons (me_bin op_addM opm_add (me_bin op_addM opm_add (me_gstr rfl q_RIGHT) me_str) (me_var (pv 2))) ma_nil) rfl) (ma_cons (me_callF T_variable F_variable hr rfl (ma_cons (me_bin op_addM opm_add (me_bin op_addM opm_add (me_gstr rfl q_LEFT) me_str) (me_var (pv 2))) ma_nil) rfl) ma_nil)) rfl))
  (mss_cons (ms_set (i := 7) sc.nd rfl (by first | exact Or.inl rfl | exact Or.inr rfl) (me_callF T_minus F_minus hr rfl (ma_cons (me_callF T_variable F_variable hr rfl (ma_cons (me_bin op_addM opm_add (me_bin op_addM opm_add (me_gstr rfl q_RIGHT) me_str) (me_ix (me_ix (me_var (pv 4)) me_int) me_int)) ma_nil) rfl) (ma_cons (me_callF T_variable F_variable hr rfl (ma_cons (me_bin op_addM opm_add (me_bin op_addM opm_add (me_gstr rfl q_LEFT) me_str) (me_ix (me_ix (me_var (pv 4)) me_int) me_int)) ma_nil) rfl) ma_nil)) rfl))
  (mss_cons (ms_set (i := 8) sc.nd rfl (by first | exact Or.inl rfl | exact Or.inr rfl) (me_callF T_times F_times hr rfl (ma_cons (me_var (pv 3)) (ma_cons (me_var (pv 6)) ma_nil)) rfl))
  (mss_one (ms_ret (me_tup (ma_cons (me_var (pv 1)) (ma_cons (me_var (pv 1)) (ma_cons (me_bin op_addM opm_add (me_var (pv 9)) (me_tup (ma_cons (me_var (pv 6)) ma_nil))) (ma_cons (me_var (pv 10)) (ma_cons (me_tup (ma_cons (me_callF T_minus F_minus hr rfl (ma_cons (me_var (pv 8)) (ma_cons (me_var (pv 7)) ma_nil)) rfl) (ma_cons (me_callF T_plus F_plus hr rfl (ma_cons (me_var (pv 8)) (ma_cons (me_var (pv 7)) ma_nil)) rfl) ma_nil))) (ma_cons (me_tup ma_nil) ma_nil))))))))))))))))
abbrev st__law_start : Stmt := top 29
theorem sc__law_start : FnScope ["script"] ["script"] (defScope st__law_start) := ⟨rfl, rfl, rfl, by decide +kernel, rfl, by decide +kernel, by decide +kernel⟩
theorem mp__law_start {k : Nat} {f : Addr} {fd : FuncData} (F : Fun K "_law_start" "_law_start" st__law_start f fd) (z_list : mg "list" = none) : FnOk P w K mg base CX0 (k + 1) f fd ["script"] (sp K mg 1 (den__law_start)) :=
  have sc := sc__law_start
  fn_mp (N := ["script"]) (r := r__law_start) F sc__law_start rfl fun cdv A outer s H E hr =>
  have hu := hr.units
  have hu1 := units1 hr
  (mss_one (ms_retF (mf_lst (ma_cons (me_fl (mf_list1 rfl z_list (by decide +kernel) (ma_cons (me_var (pv 0)) ma_nil))) (ma_cons me_int (ma_cons me_int (ma_cons me_int ma_nil)))))))
abbrev st__law_draw : Stmt := top 30
theorem sc__law_draw : FnScope ["state", "most", "cell", "mixed", "found"] ["state", "most"] (defScope st__law_draw) := ⟨rfl, rfl, rfl, by decide +kernel, rfl, by decide +kernel, by decide +kernel⟩
theorem mp__law_draw {k : Nat} {f : Addr} {fd : FuncData} (F : Fun K "_law_draw" "_law_draw" st__law_draw f fd) (z_int : mg "int" = none) (z_len : mg "len" = none) (z_abs : mg "abs" = none) : FnOk P w K mg base CX0 (k + 1) f fd ["state", "most"] (sp K mg 2 (den__law_draw)) :=
  have sc := sc__law_draw
  fn_mp (N := ["state", "most", "cell", "mixed", "found"]) (r := r__law_draw) F sc__law_draw rfl fun cdv A outer s H E hr =>
  have hu := hr.units
  have hu1 := units1 hr
  (mss_cons (ms_sub (me_var (pv 0)) me_int (me_bin op_addM opm_add (me_ix (me_var (pv 0)) me_int) me_int))
  (mss_cons (ms_if (mt_cmp op_gt opm_cmp (me_ix (me_var (pv 0)) me_int) me_int (by first | exact nomark _ | rfl))
  (mss_cons (ms_set (i := 4) sc.nd rfl (by first | exact Or.inl rfl | exact Or.inr rfl) (me_bin op_mod opm_mod (me_callTy call_int1 callM_int rfl z_int (by decide +kernel) (ma_cons (me_ix (me_var (pv 0)) me_int) ma_nil)) (me_var (pv 1))))
  (mss_cons (ms_sub (me_var (pv 0)) me_int (me_bin op_fdivW opm_div (me_ix (me_var (pv 0)) me_int) (me_var (pv 1))))
  (mss_one (ms_ret (me_var (pv 4))))))
  mss_nil)
  (mss_cons (ms_set (i := 2) sc.nd rfl (by first | exact Or.inl rfl | exact Or.inr rfl) me_int)
  (mss_cons (ms_if (mt_cmp op_gt opm_cmp (me_callB call_lenM callM_len rfl z_len PySem.boot_len (ma_cons (me_ix (me_var (pv 0)) me_int) ma_nil)) me_int (by first | exact nomark _ | rfl))
  (mss_one (ms_set (i := 2) sc.nd rfl (by first | exact Or.inl rfl | exact Or.inr rfl) (me_callB call_abs callM_abs rfl z_abs (by decide +kernel) (ma_cons (me_ix (me_ix (me_var (pv 0)) me_int) (me_bin op_mod opm_mod (me_callTy call_int1 callM_int rfl z_int (by decide +kernel) (ma_cons (me_ix (me_var (pv 0)) me_int) ma_nil)) (me_callB call_lenM callM_len rfl z_len PySem.boot_len (ma_cons (me_ix (me_var (pv 0)) me_int) ma_nil)))) ma_nil))))
  mss_nil)
  (mss_cons (ms_sub (me_var (pv 0)) me_int (me_bin op_addM opm_add (me_ix (me_var (pv 0)) me_int) me_int))
  (mss_cons (ms_if (mt_cmp op_ge opm_cmp (me_var (pv 2)) (me_bin op_pow opm_pow me_int me_int) (by first | exact nomark _ | rfl))
  (mss_cons (ms_sub (me_var (pv 0)) me_int (me_bin op_fdivW opm_div (me_var (pv 2)) (me_var (pv 1))))
  (mss_one (ms_ret (me_bin op_mod opm_mod (me_callTy call_int1 callM_int rfl z_int (by decide +kernel) (ma_cons (me_var (pv 2)) ma_nil)) (me_var (pv 1))))))
  mss_nil)
  (mss_cons (ms_set (i := 3) sc.nd rfl (by first | exact Or.inl rfl | exact Or.inr rfl) (me_bin op_mod opm_mod (me_callTy call_int1 callM_int rfl z_int (by decide +kernel) (ma_cons (me_bin op_addM opm_add (me_bin op_mulM opm_mul (me_bin op_addM opm_add (me_var (pv 2)) me_int) me_int) (me_bin op_mulM opm_mul (me_ix (me_var (pv 0)) me_int) me_int)) ma_nil)) me_int))
  (mss_cons (ms_set (i := 3) sc.nd rfl (by first | exact Or.inl rfl | exact Or.inr rfl) (me_bin op_mod opm_mod (me_callTy call_int1 callM_int rfl z_int (by decide +kernel) (ma_cons (me_bin op_addM opm_add (me_bin op_addM opm_add (me_bin op_mulM opm_mul (me_var (pv 3)) me_int) (me_bin op_fdivW opm_div (me_var (pv 2)) me_int)) (me_ix (me_var (pv 0)) me_int)) ma_nil)) me_int))
  (mss_one (ms_ret (me_bin op_mod opm_mod (me_bin op_fdivW opm_div (me_var (pv 3)) me_int) (me_var (pv 1)))))))))))))
abbrev st__law_one_of : Stmt := top 31
theorem sc__law_one_of : FnScope ["state", "items"] ["state", "items"] (defScope st__law_one_of) := ⟨rfl, rfl, rfl, by decide +kernel, rfl, by decide +kernel, by decide +kernel⟩
theorem mp__law_one_of {k : Nat} {f : Addr} {fd : FuncData} (F : Fun K "_law_one_of" "_law_one_of" st__law_one_of f fd) {f__law_draw : Addr} {e__law_draw : FuncData} {d__law_draw : List D → M Rv} (T__law_draw : FnI K mg "_law_draw" st__law_draw f__law_draw e__law_draw ["state", "most"]) (F__law_draw : FnOk P w K mg base CX0 k f__law_draw e__law_draw ["state", "most"] (sp K mg 2 d__law_draw)) (z_len : mg "len" = none) : FnOk P w K mg base CX0 (k + 1) f fd ["state", "items"] (sp K mg 2 (den__law_one_of d__law_draw)) :=
  have sc := sc__law_one_of
  fn_mp (N := ["state", "items"]) (r := r__law_one_of d__law_draw) F sc__law_one_of rfl fun cdv A outer s H E hr =>
  have hu := hr.units
  have hu1 := units1 hr
  (mss_one (ms_ret (me_ix (me_var (pv 1)) (me_callF T__law_draw F__law_draw hr rfl (ma_cons (me_var (pv 0)) (ma_cons (me_callB call_lenM callM_len rfl z_len PySem.boot_len (ma_cons (me_var (pv 1)) ma_nil)) ma_nil)) rfl))))
abbrev st__law_shuffled : Stmt := top 32
theorem sc__law_shuffled : FnScope ["state", "items", "found", "item"] ["state", "items"] (defScope st__law_shuffled) := ⟨rfl, rfl, rfl, by decide +kernel, rfl, by decide +kernel, by decide +kernel⟩
theorem mp__law_shuffled {k : Nat} {f : Addr} {fd : FuncData} (F : Fun K "_law_shuffled" "_law_shuffled" st__law_shuffled f fd) {f__law_draw : Addr} {e__law_draw : FuncData} {d__law_draw : List D → M Rv} (T__law_draw : FnI K mg "_law_draw" st__law_draw f__law_draw e__law_draw ["state", "most"]) (F__law_draw : FnOk P w K mg base CX0 k f__law_draw e__law_draw ["state", "most"] (sp K mg 2 d__law_draw)) (z_len : mg "len" = none) : FnOk P w K mg base CX0 (k + 1) f fd ["state", "items"] (sp K mg 2 (den__law_shuffled d__law_draw)) :=
  have sc := sc__law_shuffled
  fn_mp (N := ["state", "items", "found", "item"]) (r := r__law_shuffled d__law_draw) F sc__law_shuffled rfl fun cdv A outer s H E hr =>
  have hu := hr.units
  have hu1 := units1 hr
  (mss_cons (ms_set (i := 2) sc.nd rfl (by first | exact Or.inl rfl | exact Or.inr rfl) (me_new (mf_lst ma_nil)))
  (mss_cons (ms_for (fg := [3]) PassesOwn.never rfl (mi_seq (me_var (pv 1))) (mg_of (pg_name (i := 3) sc.nd rfl (by first | exact Or.inl rfl | exact Or.inr rfl)))
  (mss_one (ms_expr (me_lmeth PySem.F.slot_list_insert PySem.F.type_list_insert mt_insert methM_insert (me_var (pv 2)) (ma_cons (me_callF T__law_draw F__law_draw hr rfl (ma_cons (me_var (pv 0)) (ma_cons (me_bin op_addM opm_add (me_callB call_lenM callM_len rfl z_len PySem.boot_len (ma_cons (me_var (pv 2)) ma_nil)) me_int) ma_nil)) rfl) (ma_cons (me_var (pv 3)) ma_nil))))))
  (mss_one (ms_ret (me_var (pv 2))))))
abbrev st__law_words : Stmt := top 33
theorem sc__law_words : FnScope ["state", "many", "letters", "start", "step", "shared", "k"] ["state", "many"] (defScope st__law_words) := ⟨rfl, rfl, rfl, by decide +kernel, rfl, by decide +kernel, by decide +kernel⟩
theorem mp__law_words {k : Nat} {f : Addr} {fd : FuncData} (F : Fun K "_law_words" "_law_words" st__law_words f fd) {f__law_draw : Addr} {e__law_draw : FuncData} {d__law_draw : List D → M Rv} (T__law_draw : FnI K mg "_law_draw" st__law_draw f__law_draw e__law_draw ["state", "most"]) (F__law_draw : FnOk P w K mg base CX0 k f__law_draw e__law_draw ["state", "most"] (sp K mg 2 d__law_draw)) (z_range : mg "range" = none) (z_int : mg "int" = none) : FnOk P w K mg base CX0 (k + 1) f fd ["state", "many"] (sp K mg 2 (den__law_words d__law_draw)) :=
  have sc := sc__law_words
  fn_mp (N := ["state", "many", "letters", "start", "step", "shared", "k"]) (r := r__law_words d__law_draw) F sc__law_words rfl fun cdv A outer s H E hr =>
  have hu := hr.units
  have hu1 := units1 hr
  (mss_cons (ms_set (i := 2) sc.nd rfl (by first | exact Or.inl rfl | exact Or.inr rfl) me_str)
  (mss_cons (ms_set (i := 3) sc.nd rfl (by first | exact Or.inl rfl | exact Or.inr rfl) (me_callF T__law_draw F__law_draw hr rfl (ma_cons (me_var (pv 0)) (ma_cons me_int ma_nil)) rfl))
  (mss_cons (ms_set (i := 4) sc.nd rfl (by first | exact Or.inl rfl | exact Or.inr rfl) (me_bin op_addM opm_add me_int (me_bin op_mulM opm_mul me_int (me_callF T__law_draw F__law_draw hr rfl (ma_cons (me_var (pv 0)) (ma_cons me_int ma_nil)) rfl))))
  (mss_cons (ms_set (i := 5) sc.nd rfl (by first | exact Or.inl rfl | exact Or.inr rfl) (me_slice me_str mo_none (mo_some (me_callF T__law_draw F__law_draw hr rfl (ma_cons (me_var (pv 0)) (ma_cons me_int ma_nil)) rfl))))
  (mss_cons (ms_if (mt_cmp (op_eqM hu) opm_eq (me_callF T__law_draw F__law_draw hr rfl (ma_cons (me_var (pv 0)) (ma_cons me_int ma_nil)) rfl) me_int (by first | exact nomark _ | rfl))
  (mss_one (ms_retF (mf_comp rfl sc.nd (mi_range1 rfl z_range (ma_cons (me_var (pv 1)) ma_nil)) (own := [("k", 6)]) (blkOk_by (N := ["state", "many", "letters", "start", "step", "shared", "k"]) (sc := defScope st__law_words) (by decide +kernel)) (by decide) (fun s H C cl fp => (mg_of (pg_name (i := 6) sc.nd rfl (by first | exact Or.inl rfl | exact Or.inr rfl)))) (fun s H C cl fp => mts_nil) (fun s H C cl fp => (me_bin op_addM opm_add (me_var (pv 5)) (me_ix (me_var (pv 2)) (me_bin op_mod opm_mod (me_callTy call_int1 callM_int rfl z_int (by decide +kernel) (ma_cons (me_bin op_addM opm_add (me_var (pv 3)) (me_bin op_mulM opm_mul (me_var (pv 6)) (me_var (pv 4)))) ma_nil)) me_int)))))))
  mss_nil)
  (mss_one (ms_retF (mf_comp rfl sc.nd (mi_range1 rfl z_range (ma_cons (me_var (pv 1)) ma_nil)) (own := [("k", 6)]) (blkOk_by (N := ["state", "many", "letters", "start", "step", "shared", "k"]) (sc := defScope st__law_words) (by decide +kernel)) (by decide) (fun s H C cl fp => (mg_of (pg_name (i := 6) sc.nd rfl (by first | exact Or.inl rfl | exact Or.inr rfl)))) (fun s H C cl fp => mts_nil) (fun s H C cl fp => (me_bin op_addM opm_add (me_ix (me_var (pv 2)) (me_bin op_mod opm_mod (me_callTy call_int1 callM_int rfl z_int (by decide +kernel) (ma_cons (me_bin op_addM opm_add (me_var (pv 3)) (me_bin op_mulM opm_mul (me_var (pv 6)) (me_var (pv 4)))) ma_nil)) me_int)) (me_var (pv 5))))))))))))
abbrev st__law_is_int : Stmt := top 34
theorem sc__law_is_int : FnScope ["x"] ["x"] (defScope st__law_is_int) := ⟨rfl, rfl, rfl, by decide +kernel, rfl, by decide +kernel, by decide +kernel⟩
theorem mp__law_is_int {k : Nat} {f : Addr} {fd : FuncData} (F : Fun K "_law_is_int" "_law_is_int" st__law_is_int f fd) (z_isinstance : mg "isinstance" = none) (z_int : mg "int" = none) (z_bool : mg "bool" = none) : FnOk P w K mg base CX0 (k + 1) f fd ["x"] (sp K mg 1 (den__law_is_int)) :=
  have sc := sc__law_is_int
  fn_mp (N := ["x"]) (r := r__law_is_int) F sc__law_is_int rfl fun cdv A outer s H E hr =>
  have hu := hr.units
  have hu1 := units1 hr
  (mss_one (ms_ret (me_and (me_isi (T := "int") (by decide) rfl z_isinstance (by decide +kernel) rfl z_int (by decide +kernel) (me_var (pv 0))) (me_one (me_not (me_isi (T := "bool") (by decide) rfl z_isinstance (by decide +kernel) rfl z_bool (by decide +kernel) (me_var (pv 0))))))))
abbrev st__law_same : Stmt := top 35
theorem sc__law_same : FnScope ["x", "y", "k"] ["x", "y"] (defScope st__law_same) := ⟨rfl, rfl, rfl, by decide +kernel, rfl, by decide +kernel, by decide +kernel⟩
theorem mp__law_same {k : Nat} {f : Addr} {fd : FuncData} {f__law_is_int : Addr} {e__law_is_int : FuncData} {d__law_same : List D → M Rv} {d__law_is_int : List D → M Rv} (T__law_same : FnI K mg "_law_same" st__law_same f fd ["x", "y"]) (F__law_same : FnOk P w K mg base CX0 k f fd ["x", "y"] (sp K mg 2 d__law_same)) (T__law_is_int : FnI K mg "_law_is_int" st__law_is_int f__law_is_int e__law_is_int ["x"]) (F__law_is_int : FnOk P w K mg base CX0 k f__law_is_int e__law_is_int ["x"] (sp K mg 1 d__law_is_int)) (z_isinstance : mg "isinstance" = none) (z_tuple : mg "tuple" = none) (z_len : mg "len" = none) (z_range : mg "range" = none) (z_all : mg "all" = none) (z_str : mg "str" = none) : FnOk P w K mg base CX0 (k + 1) f fd ["x", "y"] (sp K mg 2 (den__law_same d__law_same d__law_is_int)) :=
  have sc := sc__law_same
  fn_mp (N := ["x", "y", "k"]) (r := r__law_same d__law_same d__law_is_int) T__law_same.fn sc__law_same rfl fun cdv A outer s H E hr =>
  have hu := hr.units
  have hu1 := units1 hr
  (mss_cons (ms_if (mt_val (me_isi (T := "tuple") (by decide) rfl z_isinstance (by decide +kernel) rfl z_tuple (by decide +kernel) (me_var (pv 1))))
  (mss_cons (ms_if (MW.mt (mw_or (mt_not (mt_val (me_isi (T := "tuple") (by decide) rfl z_isinstance (by decide +kernel) rfl z_tuple (by decide +kernel) (me_var (pv 0))))) (mw_or1 (mt_cmp (op_neM hu) opm_eq (me_callB call_lenM callM_len rfl z_len PySem.boot_len (ma_cons (me_var (pv 0)) ma_nil)) (me_callB call_lenM callM_len rfl z_len PySem.boot_len (ma_cons (me_var (pv 1)) ma_nil)) (by first | exact nomark _ | rfl)))))
  (mss_one (ms_ret me_bl))
  mss_nil)
  (mss_one (ms_ret (me_callB (cr_all rfl) callM_all rfl z_all (by decide +kernel) (ma_cons (me_fl (mf_comp rfl sc.nd (mi_range1 rfl z_range (ma_cons (me_callB call_lenM callM_len rfl z_len PySem.boot_len (ma_cons (me_var (pv 1)) ma_nil)) ma_nil)) (own := [("k", 2)]) (blkOk_by (N := ["x", "y", "k"]) (sc := defScope st__law_same) (by decide +kernel)) (by decide) (fun s H C cl fp => (mg_of (pg_name (i := 2) sc.nd rfl (by first | exact Or.inl rfl | exact Or.inr rfl)))) (fun s H C cl fp => mts_nil) (fun s H C cl fp => (me_callF T__law_same F__law_same hr rfl (ma_cons (me_ix (me_var (pv 0)) (me_var (pv 2))) (ma_cons (me_ix (me_var (pv 1)) (me_var (pv 2))) ma_nil)) rfl)))) ma_nil)))))
  mss_nil)
  (mss_cons (ms_if (mt_val (me_isi (T := "str") (by decide) rfl z_isinstance (by decide +kernel) rfl z_str (by decide +kernel) (me_var (pv 1))))
  (mss_one (ms_ret (me_and (me_isi (T := "str") (by decide) rfl z_isinstance (by decide +kernel) rfl z_str (by decide +kernel) (me_var (pv 0))) (me_one (me_cmp (op_eqM hu) opm_eq (me_var (pv 0)) (me_var (pv 1)) (by first | exact nomark _ | rfl))))))
  mss_nil)
  (mss_one (ms_ret (me_and (me_callF T__law_is_int F__law_is_int hr rfl (ma_cons (me_var (pv 0)) ma_nil) rfl) (me_one (me_cmp (op_eqM hu) opm_eq (me_var (pv 0)) (me_var (pv 1)) (by first | exact nomark _ | rfl))))))))
abbrev st__law_form : Stmt := top 36
theorem sc__law_form : FnScope ["constant", "pairs", "sums", "name", "number"] ["constant", "pairs"] (defScope st__law_form) := ⟨rfl, rfl, rfl, by decide +kernel, rfl, by decide +kernel, by decide +kernel⟩
theorem mp__law_form {k : Nat} {f : Addr} {fd : FuncData} (F : Fun K "_law_form" "_law_form" st__law_form f fd) (z_sorted : mg "sorted" = none) (z_tuple : mg "tuple" = none) : FnOk P w K mg base CX0 (k + 1) f fd ["constant", "pairs"] (sp K mg 2 (den__law_form)) :=
  have sc := sc__law_form
  fn_mp (N := ["constant", "pairs", "sums", "name", "number"]) (r := r__law_form) F sc__law_form rfl fun cdv A outer s H E hr =>
  have hu := hr.units
  have hu1 := units1 hr
  (mss_cons (ms_set (i := 2) sc.nd rfl (by first | exact Or.inl rfl | exact Or.inr rfl) me_dict0)
  (mss_cons (ms_for (fg := [3, 4]) PassesOwn.never rfl (mi_seq (me_var (pv 1))) (mg_tup rfl (mgs_cons (mg_of (pg_name (i := 3) sc.nd rfl (by first | exact Or.inl rfl | exact Or.inr rfl))) (mgs_cons (mg_of (pg_name (i := 4) sc.nd rfl (by first | exact Or.inl rfl | exact Or.inr rfl))) mgs_nil)))
  (mss_one (ms_dput hu1 (me_var (pv 2)) (me_var (pv 3)) (me_bin op_addM opm_add (me_get2 hu1 (me_var (pv 2)) (me_var (pv 3)) me_int) (me_var (pv 4))))))
  (mss_one (ms_ret (me_tup (ma_cons (me_var (pv 0)) (ma_cons (me_callTy call_tuple_of callM_tuple rfl z_tuple (by decide +kernel) (ma_cons (me_fl (mf_comp rfl sc.nd (mi_seq (me_fl (mf_sortedD rfl rfl z_sorted (by decide +kernel) (me_var (pv 2))))) (own := [("name", 3)]) (blkOk_by (N := ["constant", "pairs", "sums", "name", "number"]) (sc := defScope st__law_form) (by decide +kernel)) (by decide) (fun s H C cl fp => (mg_of (pg_name (i := 3) sc.nd rfl (by first | exact Or.inl rfl | exact Or.inr rfl)))) (fun s H C cl fp => (mts_one (mt_cmp (op_neM hu) opm_eq (me_dget hu1 (me_var (pv 2)) (me_var (pv 3))) me_int (by first | exact nomark _ | rfl)))) (fun s H C cl fp => (me_tup (ma_cons (me_var (pv 3)) (ma_cons (me_dget hu1 (me_var (pv 2)) (me_var (pv 3))) ma_nil)))))) ma_nil)) ma_nil)))))))
abbrev st__law_proc_of : Stmt := top 37
theorem sc__law_proc_of : FnScope ["state", "name", "words", "items", "results", "body", "places", "kind", "x", "pick"] ["state", "name", "words"] (defScope st__law_proc_of) := ⟨rfl, rfl, rfl, by decide +kernel, rfl, by decide +kernel, by decide +kernel⟩
/-- names: 0 state, 1 name, 2 words, 3 items, 4 results, 5 body, 6 places, 7 kind, 8 x, 9 pick -/
noncomputable def r__law_proc_of (d__law_shuffled : List D → M Rv) (d__law_draw : List D → M Rv) : MP.Env → M Fl :=
  (sSeq (sSet 3 (eFl (aList (aCons (aThen gTup (aCons (eC (.str "int")) (aCons (eBin gIx (eVar 2) (eC (.int 0))) aNil))) (aCons (aThen gTup (aCons (eC (.str "int")) (aCons (eBin gIx (eVar 2) (eC (.int 1))) aNil))) (aCons (aThen gTup (aCons (eC (.str "array")) (aCons (eBin gIx (eVar 2) (eC (.int 2))) aNil))) (aCons (aThen gTup (aCons (eC (.str "array")) (aCons (eBin gIx (eVar 2) (eC (.int 3))) aNil))) aNil)))))))
  (sSeq (sSet 3 (eSl (eCall (lenD 2 d__law_shuffled) (aCons (eVar 0) (aCons (eVar 3) aNil))) (oSome (eCall (lenD 2 d__law_draw) (aCons (eVar 0) (aCons (eC (.int 4)) aNil)))) oNone))
  (sSeq (sSet 4 (eBin gIx (eFl (aList (aCons (aThen gTup aNil) (aCons (aThen gTup (aCons (eC (.str "result")) aNil)) (aCons (aThen gTup (aCons (eC (.str "result.x")) (aCons (eC (.str "result.y")) aNil))) aNil))))) (eCall (lenD 2 d__law_draw) (aCons (eVar 0) (aCons (eC (.int 3)) aNil)))))
  (sSeq (sSet 5 (aThen gTup aNil))
  (sSeq (sFor (eWalk (eVar 3)) (asgT 2 (asgCons (asgN 7) (asgCons (asgN 8) asgNil)))
  (sSeq (sSet 9 (eCall (lenD 2 d__law_draw) (aCons (eVar 0) (aCons (eC (.int 3)) aNil))))
  (eIf (bAnd (eB (eBin (gEq false) (eVar 7) (eC (.str "int")))) (eB (eBin (gEq false) (eVar 9) (eC (.int 0)))))
  (sSet 5 (eBin gAdd (eVar 5) (aThen gTup (aCons (aThen gTup (aCons (eC (.str "set")) (aCons (aThen gTup (aCons (aThen gTup (aCons (eVar 8) (aCons (aThen gTup (aCons (eC (.str "number")) (aCons (eC (.int 2)) aNil))) aNil))) aNil)) aNil))) aNil))))
  (eIf (bAnd (eB (eBin (gEq false) (eVar 7) (eC (.str "array")))) (eB (eBin (gEq false) (eVar 9) (eC (.int 0)))))
  (sSet 5 (eBin gAdd (eVar 5) (aThen gTup (aCons (aThen gTup (aCons (eC (.str "push")) (aCons (aThen gTup (aCons (eC (.str "number")) (aCons (eC (.int 1)) aNil))) (aCons (eVar 8) aNil)))) aNil))))
  (eIf (bAnd (eB (eBin (gEq false) (eVar 7) (eC (.str "array")))) (eB (eBin (gEq false) (eVar 9) (eC (.int 1)))))
  (sSet 5 (eBin gAdd (eVar 5) (aThen gTup (aCons (aThen gTup (aCons (eC (.str "store")) (aCons (eVar 8) (aCons (aThen gTup (aCons (eC (.str "number")) (aCons (eC (.int 0)) aNil))) (aCons (aThen gTup (aCons (eC (.str "number")) (aCons (eC (.int 1)) aNil))) aNil))))) aNil))))
  sNext)))) [7, 8, 9])
  (sSeq (sSet 6 (aThen gTup (aCons (aThen gTup (aCons (eC (.str "int")) (aCons (eBin gIx (eVar 2) (eC (.int 4))) aNil))) (aCons (aThen gTup (aCons (eC (.str "array")) (aCons (eBin gIx (eVar 2) (eC (.int 5))) aNil))) aNil))))
  (sRet (aThen gTup (aCons (eVar 1) (aCons (aThen (g1 gTuple) (aCons (eVar 3) aNil)) (aCons (eVar 4) (aCons (eVar 6) (aCons (aThen gTup aNil) (aCons (aThen gTup aNil) (aCons (aThen gTup aNil) (aCons (aThen gTup aNil) (aCons (eVar 5) aNil)))))))))))))))))
noncomputable def den__law_proc_of (d__law_shuffled : List D → M Rv) (d__law_draw : List D → M Rv) : List D → M Rv := fun ds => noX (runB 10 (r__law_proc_of d__law_shuffled d__law_draw) ds)
theorem mp__law_proc_of {k : Nat} {f : Addr} {fd : FuncData} (F : Fun K "_law_proc_of" "_law_proc_of" st__law_proc_of f fd) {f__law_shuffled : Addr} {e__law_shuffled : FuncData} {f__law_draw : Addr} {e__law_draw : FuncData} {d__law_shuffled : List D → M Rv} {d__law_draw : List D → M Rv} (T__law_shuffled : FnI K mg "_law_shuffled" st__law_shuffled f__law_shuffled e__law_shuffled ["state", "items"]) (F__law_shuffled : FnOk P w K mg base CX0 k f__law_shuffled e__law_shuffled ["state", "items"] (sp K mg 2 d__law_shuffled)) (T__law_draw : FnI K mg "_law_draw" st__law_draw f__law_draw e__law_draw ["state", "most"]) (F__law_draw : FnOk P w K mg base CX0 k f__law_draw e__law_draw ["state", "most"] (sp K mg 2 d__law_draw)) (z_tuple : mg "tuple" = none) : FnOk P w K mg base CX0 (k + 1) f fd ["state", "name", "words"] (sp K mg 3 (den__law_proc_of d__law_shuffled d__law_draw)) :=
  have sc := sc__law_proc_of
  fn_mp (N := ["state", "name", "words", "items", "results", "body", "places", "kind", "x", "pick"]) (r := r__law_proc_of d__law_shuffled d__law_draw) F sc__law_proc_of rfl fun cdv A outer s H E hr =>
  have hu := hr.units
  have hu1 := units1 hr
  (mss_cons (ms_set (i := 3) sc.nd rfl (by first | exact Or.inl rfl | exact Or.inr rfl) (me_fl (mf_lst (ma_cons (me_tup (ma_cons me_str (ma_cons (me_ix (me_var (pv 2)) me_int) ma_nil))) (ma_cons (me_tup (ma_cons me_str (ma_cons (me_ix (me_var (pv 2)) me_int) ma_nil))) (ma_cons (me_tup (ma_cons me_str (ma_cons (me_ix (me_var (pv 2)) me_int) ma_nil))) (ma_cons (me_tup (ma_cons me_str (ma_cons (me_ix (me_var (pv 2)) me_int) ma_nil))) ma_nil)))))))
  (mss_cons (ms_set (i := 3) sc.nd rfl (by first | exact Or.inl rfl | exact Or.inr rfl) (me_slice (me_callF T__law_shuffled F__law_shuffled hr rfl (ma_cons (me_var (pv 0)) (ma_cons (me_var (pv 3)) ma_nil)) rfl) (mo_some (me_callF T__law_draw F__law_draw hr rfl (ma_cons (me_var (pv 0)) (ma_cons me_int ma_nil)) rfl)) mo_none))
  (mss_cons (ms_set (i := 4) sc.nd rfl (by first | exact Or.inl rfl | exact Or.inr rfl) (me_ix (me_fl (mf_lst (ma_cons (me_tup ma_nil) (ma_cons (me_tup (ma_cons me_str ma_nil)) (ma_cons (me_tup (ma_cons me_str (ma_cons me_str ma_nil))) ma_nil))))) (me_callF T__law_draw F__law_draw hr rfl (ma_cons (me_var (pv 0)) (ma_cons me_int ma_nil)) rfl)))
  (mss_cons (ms_set (i := 5) sc.nd rfl (by first | exact Or.inl rfl | exact Or.inr rfl) (me_tup ma_nil))
  (mss_cons (ms_for (fg := [7, 8, 9]) PassesOwn.never rfl (mi_seq (me_var (pv 3))) (mg_tup rfl (mgs_cons (mg_of (pg_name (i := 7) sc.nd rfl (by first | exact Or.inl rfl | exact Or.inr rfl))) (mgs_cons (mg_of (pg_name (i := 8) sc.nd rfl (by first | exact Or.inl rfl | exact Or.inr rfl))) mgs_nil)))
  (mss_cons (ms_set (i := 9) sc.nd rfl (by first | exact Or.inl rfl | exact Or.inr rfl) (me_callF T__law_draw F__law_draw hr rfl (ma_cons (me_var (pv 0)) (ma_cons me_int ma_nil)) rfl))
  (mss_one (ms_if (MW.mt (mw_and (mt_cmp (op_eqM hu) opm_eq (me_var (pv 7)) me_str (by first | exact nomark _ | rfl)) (mw_and1 (mt_cmp (op_eqM hu) opm_eq (me_var (pv 9)) me_int (by first | exact nomark _ | rfl)))))
  (mss_one (ms_set (i := 5) sc.nd rfl (by first | exact Or.inl rfl | exact Or.inr rfl) (me_bin op_addM opm_add (me_var (pv 5)) (me_tup (ma_cons (me_tup (ma_cons me_str (ma_cons (me_tup (ma_cons (me_tup (ma_cons (me_var (pv 8)) (ma_cons (me_tup (ma_cons me_str (ma_cons me_int ma_nil))) ma_nil))) ma_nil)) ma_nil))) ma_nil)))))
  (mss_one (ms_if (MW.mt (mw_and (mt_cmp (op_eqM hu) opm_eq (me_var (pv 7)) me_str (by first | exact nomark _ | rfl)) (mw_and1 (mt_cmp (op_eqM hu) opm_eq (me_var (pv 9)) me_int (by first | exact nomark _ | rfl)))))
  (mss_one (ms_set (i := 5) sc.nd rfl (by first | exact Or.inl rfl | exact Or.inr rfl) (me_bin op_addM opm_add (me_var (pv 5)) (me_tup (ma_cons (me_tup (ma_cons me_str (ma_cons (me_tup (ma_cons me_str (ma_cons me_int ma_nil))) (ma_cons (me_var (pv 8)) ma_nil)))) ma_nil)))))
  (mss_one (ms_if (MW.mt (mw_and (mt_cmp (op_eqM hu) opm_eq (me_var (pv 7)) me_str (by first | exact nomark _ | rfl)) (mw_and1 (mt_cmp (op_eqM hu) opm_eq (me_var (pv 9)) me_int (by first | exact nomark _ | rfl)))))
  (mss_one (ms_set (i := 5) sc.nd rfl (by first | exact Or.inl rfl | exact Or.inr rfl) (me_bin op_addM opm_add (me_var (pv 5)) (me_tup (ma_cons (me_tup (ma_cons me_str (ma_cons (me_var (pv 8)) (ma_cons (me_tup (ma_cons me_str (ma_cons me_int ma_nil))) (ma_cons (me_tup (ma_cons me_str (ma_cons me_int ma_nil))) ma_nil))))) ma_nil)))))
  mss_nil))))))))
  (mss_cons (ms_set (i := 6) sc.nd rfl (by first | exact Or.inl rfl | exact Or.inr rfl) (me_tup (ma_cons (me_tup (ma_cons me_str (ma_cons (me_ix (me_var (pv 2)) me_int) ma_nil))) (ma_cons (me_tup (ma_cons me_str (ma_cons (me_ix (me_var (pv 2)) me_int) ma_nil))) ma_nil))))
  (mss_one (ms_ret (me_tup (ma_cons (me_var (pv 1)) (ma_cons (me_callTy call_tuple_of callM_tuple rfl z_tuple (by decide +kernel) (ma_cons (me_var (pv 3)) ma_nil)) (ma_cons (me_var (pv 4)) (ma_cons (me_var (pv 6)) (ma_cons (me_tup ma_nil) (ma_cons (me_tup ma_nil) (ma_cons (me_tup ma_nil) (ma_cons (me_tup ma_nil) (ma_cons (me_var (pv 5)) ma_nil))))))))))))))))))
abbrev st__law_core_of : Stmt := top 38
theorem sc__law_core_of : FnScope ["state", "names", "name"] ["state"] (defScope st__law_core_of) := ⟨rfl, rfl, rfl, by decide +kernel, rfl, by decide +kernel, by decide +kernel⟩
/-- names: 0 state, 1 names, 2 name -/
noncomputable def r__law_core_of (d__law_words : List D → M Rv) (d__law_draw : List D → M Rv) (d__law_proc_of : List D → M Rv) : MP.Env → M Fl :=
  (sSeq (sSet 1 (eFl (fSrt (eCall (lenD 2 d__law_words) (aCons (eVar 0) (aCons (eBin gAdd (eC (.int 1)) (eCall (lenD 2 d__law_draw) (aCons (eVar 0) (aCons (eC (.int 3)) aNil)))) aNil))))))
  (sRet (aThen (g1 gTuple) (aCons (eFl (fComp (eWalk (eVar 1)) (asgN 2) tYesM (eCall (lenD 3 d__law_proc_of) (aCons (eVar 0) (aCons (eVar 2) (aCons (eCall (lenD 2 d__law_words) (aCons (eVar 0) (aCons (eC (.int 6)) aNil))) aNil)))) [2])) aNil))))
noncomputable def den__law_core_of (d__law_words : List D → M Rv) (d__law_draw : List D → M Rv) (d__law_proc_of : List D → M Rv) : List D → M Rv := fun ds => noX (runB 3 (r__law_core_of d__law_words d__law_draw d__law_proc_of) ds)
theorem mp__law_core_of {k : Nat} {f : Addr} {fd : FuncData} (F : Fun K "_law_core_of" "_law_core_of" st__law_core_of f fd) {f__law_words : Addr} {e__law_words : FuncData} {f__law_draw : Addr} {e__law_draw : FuncData} {f__law_proc_of : Addr} {e__law_proc_of : FuncData} {d__law_words : List D → M Rv} {d__law_draw : List D → M Rv} {d__law_proc_of : List D → M Rv} (T__law_words : FnI K mg "_law_words" st__law_words f__law_words e__law_words ["state", "many"]) (F__law_words : FnOk P w K mg base CX0 k f__law_words e__law_words ["state", "many"] (sp K mg 2 d__law_words)) (T__law_draw : FnI K mg "_law_draw" st__law_draw f__law_draw e__law_draw ["state", "most"]) (F__law_draw : FnOk P w K mg base CX0 k f__law_draw e__law_draw ["state", "most"] (sp K mg 2 d__law_draw)) (T__law_proc_of : FnI K mg "_law_proc_of" st__law_proc_of f__law_proc_of e__law_proc_of ["state", "name", "words"]) (F__law_proc_of : FnOk P w K mg base CX0 k f__law_proc_of e__law_proc_of ["state", "name", "words"] (sp K mg 3 d__law_proc_of)) (z_sorted : mg "sorted" = none) (z_tuple : mg "tuple" = none) : FnOk P w K mg base CX0 (k + 1) f fd ["state"] (sp K mg 1 (den__law_core_of d__law_words d__law_draw d__law_proc_of)) :=
  have sc := sc__law_core_of
  fn_mp (N := ["state", "names", "name"]) (r := r__law_core_of d__law_words d__law_draw d__law_proc_of) F sc__law_core_of rfl fun cdv A outer s H E hr =>
  have hu := hr.units
  have hu1 := units1 hr
  (mss_cons (ms_set (i := 1) sc.nd rfl (by first | exact Or.inl rfl | exact Or.inr rfl) (me_fl (mf_sorted rfl z_sorted (by decide +kernel) (me_callF T__law_words F__law_words hr rfl (ma_cons (me_var (pv 0)) (ma_cons (me_bin op_addM opm_add me_int (me_callF T__law_draw F__law_draw hr rfl (ma_cons (me_var (pv 0)) (ma_cons me_int ma_nil)) rfl)) ma_nil)) rfl))))
  (mss_one (ms_ret (me_callTy call_tuple_of callM_tuple rfl z_tuple (by decide +kernel) (ma_cons (me_fl (mf_comp rfl sc.nd (mi_seq (me_var (pv 1))) (own := [("name", 2)]) (blkOk_by (N := ["state", "names", "name"]) (sc := defScope st__law_core_of) (by decide +kernel)) (by decide) (fun s H C cl fp => (mg_of (pg_name (i := 2) sc.nd rfl (by first | exact Or.inl rfl | exact Or.inr rfl)))) (fun s H C cl fp => mts_nil) (fun s H C cl fp => (me_callF T__law_proc_of F__law_proc_of hr rfl (ma_cons (me_var (pv 0)) (ma_cons (me_var (pv 2)) (ma_cons (me_callF T__law_words F__law_words hr rfl (ma_cons (me_var (pv 0)) (ma_cons me_int ma_nil)) rfl) ma_nil))) rfl)))) ma_nil)))))
abbrev st__law_difference : Stmt := top 39
theorem sc__law_difference : FnScope ["name", "other"] ["name", "other"] (defScope st__law_difference) := ⟨rfl, rfl, rfl, by decide +kernel, rfl, by decide +kernel, by decide +kernel⟩
/-- names: 0 name, 1 other -/
noncomputable def r__law_difference (d__law_form : List D → M Rv) : MP.Env → M Fl :=
  (sRet (aThen gTup (aCons (eCall (lenD 2 d__law_form) (aCons (eC (.int 0)) (aCons (eFl (aList (aCons (aThen gTup (aCons (eVar 0) (aCons (eC (.int 1)) aNil))) (aCons (aThen gTup (aCons (eVar 1) (aCons (eMap gNeg (eC (.int 1))) aNil))) aNil)))) aNil))) (aCons (eCall (lenD 2 d__law_form) (aCons (eC (.int 0)) (aCons (eFl (aList (aCons (aThen gTup (aCons (eVar 1) (aCons (eC (.int 1)) aNil))) (aCons (aThen gTup (aCons (eVar 0) (aCons (eMap gNeg (eC (.int 1))) aNil))) aNil)))) aNil))) aNil))))
noncomputable def den__law_difference (d__law_form : List D → M Rv) : List D → M Rv := fun ds => noX (runB 2 (r__law_difference d__law_form) ds)
theorem mp__law_difference {k : Nat} {f : Addr} {fd : FuncData} (F : Fun K "_law_difference" "_law_difference" st__law_difference f fd) {f__law_form : Addr} {e__law_form : FuncData} {d__law_form : List D → M Rv} (T__law_form : FnI K mg "_law_form" st__law_form f__law_form e__law_form ["constant", "pairs"]) (F__law_form : FnOk P w K mg base CX0 k f__law_form e__law_form ["constant", "pairs"] (sp K mg 2 d__law_form)) : FnOk P w K mg base CX0 (k + 1) f fd ["name", "other"] (sp K mg 2 (den__law_difference d__law_form)) :=
  have sc := sc__law_difference
  fn_mp (N := ["name", "other"]) (r := r__law_difference d__law_form) F sc__law_difference rfl fun cdv A outer s H E hr =>
  have hu := hr.units
  have hu1 := units1 hr
  (mss_one (ms_ret (me_tup (ma_cons (me_callF T__law_form F__law_form hr rfl (ma_cons me_int (ma_cons (me_fl (mf_lst (ma_cons (me_tup (ma_cons (me_var (pv 0)) (ma_cons me_int ma_nil))) (ma_cons (me_tup (ma_cons (me_var (pv 1)) (ma_cons (me_neg me_int) ma_nil))) ma_nil)))) ma_nil)) rfl) (ma_cons (me_callF T__law_form F__law_form hr rfl (ma_cons me_int (ma_cons (me_fl (mf_lst (ma_cons (me_tup (ma_cons (me_var (pv 1)) (ma_cons me_int ma_nil))) (ma_cons (me_tup (ma_cons (me_var (pv 0)) (ma_cons (me_neg me_int) ma_nil))) ma_nil)))) ma_nil)) rfl) ma_nil)))))
abbrev st__law_alike : Stmt := top 40
theorem sc__law_alike : FnScope ["p", "others", "givens", "pairs", "kind", "x"] ["p", "others"] (defScope st__law_alike) := ⟨rfl, rfl, rfl, by decide +kernel, rfl, by decide +kernel, by decide +kernel⟩
/-- names: 0 p, 1 others, 2 givens, 3 pairs, 4 kind, 5 x -/
noncomputable def r__law_alike (d__law_difference : List D → M Rv) : MP.Env → M Fl :=
  (sSeq (sSet 2 (aThen gTup aNil))
  (sSeq (sSet 3 (aThen gTup aNil))
  (sSeq (sFor (eWalk (eBin gIx (eVar 0) (eC (.int 1)))) (asgT 2 (asgCons (asgN 4) (asgCons (asgN 5) asgNil)))
  (eIf (eB (eBin (gEq false) (eVar 4) (eC (.str "array"))))
  (sSet 3 (eBin gAdd (eVar 3) (aThen gTup (aCons (aThen gTup (aCons (eVar 5) (aCons (eVar 5) aNil))) aNil))))
  (eIf (eB (eBin (gIn true) (eVar 5) (eVar 1)))
  (sSet 2 (eBin gAdd (eVar 2) (eCall (lenD 2 d__law_difference) (aCons (eBin gAdd (eC (.str "l.@")) (eVar 5)) (aCons (eBin gAdd (eC (.str "r.@")) (eVar 5)) aNil)))))
  sNext)) [4, 5])
  (sRet (aThen gTup (aCons (eVar 2) (aCons (eVar 3) aNil)))))))
noncomputable def den__law_alike (d__law_difference : List D → M Rv) : List D → M Rv := fun ds => noX (runB 6 (r__law_alike d__law_difference) ds)
theorem mp__law_alike {k : Nat} {f : Addr} {fd : FuncData} (F : Fun K "_law_alike" "_law_alike" st__law_alike f fd) {f__law_difference : Addr} {e__law_difference : FuncData} {d__law_difference : List D → M Rv} (T__law_difference : FnI K mg "_law_difference" st__law_difference f__law_difference e__law_difference ["name", "other"]) (F__law_difference : FnOk P w K mg base CX0 k f__law_difference e__law_difference ["name", "other"] (sp K mg 2 d__law_difference)) : FnOk P w K mg base CX0 (k + 1) f fd ["p", "others"] (sp K mg 2 (den__law_alike d__law_difference)) :=
  have sc := sc__law_alike
  fn_mp (N := ["p", "others", "givens", "pairs", "kind", "x"]) (r := r__law_alike d__law_difference) F sc__law_alike rfl fun cdv A outer s H E hr =>
  have hu := hr.units
  have hu1 := units1 hr
  (mss_cons (ms_set (i := 2) sc.nd rfl (by first | exact Or.inl rfl | exact Or.inr rfl) (me_tup ma_nil))
  (mss_cons (ms_set (i := 3) sc.nd rfl (by first | exact Or.inl rfl | exact Or.inr rfl) (me_tup ma_nil))
  (mss_cons (ms_for (fg := [4, 5]) PassesOwn.never rfl (mi_seq (me_ix (me_var (pv 0)) me_int)) (mg_tup rfl (mgs_cons (mg_of (pg_name (i := 4) sc.nd rfl (by first | exact Or.inl rfl | exact Or.inr rfl))) (mgs_cons (mg_of (pg_name (i := 5) sc.nd rfl (by first | exact Or.inl rfl | exact Or.inr rfl))) mgs_nil)))
  (mss_one (ms_if (mt_cmp (op_eqM hu) opm_eq (me_var (pv 4)) me_str (by first | exact nomark _ | rfl))
  (mss_one (ms_set (i := 3) sc.nd rfl (by first | exact Or.inl rfl | exact Or.inr rfl) (me_bin op_addM opm_add (me_var (pv 3)) (me_tup (ma_cons (me_tup (ma_cons (me_var (pv 5)) (ma_cons (me_var (pv 5)) ma_nil))) ma_nil)))))
  (mss_one (ms_if (mt_cmp (op_notInM hu) opm_in (me_var (pv 5)) (me_var (pv 1)) (by first | exact nomark _ | rfl))
  (mss_one (ms_set (i := 2) sc.nd rfl (by first | exact Or.inl rfl | exact Or.inr rfl) (me_bin op_addM opm_add (me_var (pv 2)) (me_callF T__law_difference F__law_difference hr rfl (ma_cons (me_bin op_addM opm_add me_str (me_var (pv 5))) (ma_cons (me_bin op_addM opm_add me_str (me_var (pv 5))) ma_nil)) rfl))))
  mss_nil)))))
  (mss_one (ms_ret (me_tup (ma_cons (me_var (pv 2)) (ma_cons (me_var (pv 3)) ma_nil))))))))
abbrev st__law_secret : Stmt := top 41
theorem sc__law_secret : FnScope ["p", "secrets", "asks", "o", "givens", "pairs"] ["p", "secrets"] (defScope st__law_secret) := ⟨rfl, rfl, rfl, by decide +kernel, rfl, by decide +kernel, by decide +kernel⟩
/-- names: 0 p, 1 secrets, 2 asks, 3 o, 4 givens, 5 pairs -/
noncomputable def r__law_secret (d__law_alike : List D → M Rv) (d__law_difference : List D → M Rv) : MP.Env → M Fl :=
  (sSeq (sAsg (eCall (lenD 2 d__law_alike) (aCons (eVar 0) (aCons (eVar 1) aNil))) (asgT 2 (asgCons (asgN 4) (asgCons (asgN 5) asgNil))))
  (sSeq (sSet 2 (aThen gTup aNil))
  (sSeq (sFor (eWalk (eBin gIx (eVar 0) (eC (.int 2)))) (asgN 3)
  (sSet 2 (eBin gAdd (eVar 2) (eCall (lenD 2 d__law_difference) (aCons (eBin gAdd (eC (.str "l..")) (eVar 3)) (aCons (eBin gAdd (eC (.str "r..")) (eVar 3)) aNil))))) [3])
  (sRet (aThen gTup (aCons (eBin gIx (eVar 0) (eC (.int 0))) (aCons (eBin gIx (eVar 0) (eC (.int 0))) (aCons (eVar 4) (aCons (eVar 5) (aCons (eBin gAdd (eVar 2) (eCall (lenD 2 d__law_difference) (aCons (eC (.str "l..count")) (aCons (eC (.str "r..count")) aNil)))) (aCons (eVar 5) aNil)))))))))))
noncomputable def den__law_secret (d__law_alike : List D → M Rv) (d__law_difference : List D → M Rv) : List D → M Rv := fun ds => noX (runB 6 (r__law_secret d__law_alike d__law_difference) ds)
theorem mp__law_secret {k : Nat} {f : Addr} {fd : FuncData} (F : Fun K "_law_secret" "_law_secret" st__law_secret f fd) {f__law_alike : Addr} {e__law_alike : FuncData} {f__law_difference : Addr} {e__law_difference : FuncData} {d__law_alike : List D → M Rv} {d__law_difference : List D → M Rv} (T__law_alike : FnI K mg "_law_alike" st__law_alike f__law_alike e__law_alike ["p", "others"]) (F__law_alike : FnOk P w K mg base CX0 k f__law_alike e__law_alike ["p", "others"] (sp K mg 2 d__law_alike)) (T__law_difference : FnI K mg "_law_difference" st__law_difference f__law_difference e__law_difference ["name", "other"]) (F__law_difference : FnOk P w K mg base CX0 k f__law_difference e__law_difference ["name", "other"] (sp K mg 2 d__law_difference)) : FnOk P w K mg base CX0 (k + 1) f fd ["p", "secrets"] (sp K mg 2 (den__law_secret d__law_alike d__law_difference)) :=
  have sc := sc__law_secret
  fn_mp (N := ["p", "secrets", "asks", "o", "givens", "pairs"]) (r := r__law_secret d__law_alike d__law_difference) F sc__law_secret rfl fun cdv A outer s H E hr =>
  have hu := hr.units
  have hu1 := units1 hr
  (mss_cons (ms_asg (me_callF T__law_alike F__law_alike hr rfl (ma_cons (me_var (pv 0)) (ma_cons (me_var (pv 1)) ma_nil)) rfl) (mg_tup rfl (mgs_cons (mg_of (pg_name (i := 4) sc.nd rfl (by first | exact Or.inl rfl | exact Or.inr rfl))) (mgs_cons (mg_of (pg_name (i := 5) sc.nd rfl (by first | exact Or.inl rfl | exact Or.inr rfl))) mgs_nil))))
  (mss_cons (ms_set (i := 2) sc.nd rfl (by first | exact Or.inl rfl | exact Or.inr rfl) (me_tup ma_nil))
  (mss_cons (ms_for (fg := [3]) PassesOwn.never rfl (mi_seq (me_ix (me_var (pv 0)) me_int)) (mg_of (pg_name (i := 3) sc.nd rfl (by first | exact Or.inl rfl | exact Or.inr rfl)))
  (mss_one (ms_set (i := 2) sc.nd rfl (by first | exact Or.inl rfl | exact Or.inr rfl) (me_bin op_addM opm_add (me_var (pv 2)) (me_callF T__law_difference F__law_difference hr rfl (ma_cons (me_bin op_addM opm_add me_str (me_var (pv 3))) (ma_cons (me_bin op_addM opm_add me_str (me_var (pv 3))) ma_nil)) rfl)))))
  (mss_one (ms_ret (me_tup (ma_cons (me_ix (me_var (pv 0)) me_int) (ma_cons (me_ix (me_var (pv 0)) me_int) (ma_cons (me_var (pv 4)) (ma_cons (me_var (pv 5)) (ma_cons (me_bin op_addM opm_add (me_var (pv 2)) (me_callF T__law_difference F__law_difference hr rfl (ma_cons me_str (ma_cons me_str ma_nil)) rfl)) (ma_cons (me_var (pv 5)) ma_nil))))))))))))
abbrev st__law_grows : Stmt := top 42
theorem sc__law_grows : FnScope ["p", "x", "factors", "more", "asks", "result", "factor", "givens", "pairs", "room"] ["p", "x", "factors"] (defScope st__law_grows) := ⟨rfl, rfl, rfl, by decide +kernel, rfl, by decide +kernel, by decide +kernel⟩
/-- names: 0 p, 1 x, 2 factors, 3 more, 4 asks, 5 result, 6 factor, 7 givens, 8 pairs, 9 room -/
noncomputable def r__law_grows (d__law_alike : List D → M Rv) (d__law_form : List D → M Rv) : MP.Env → M Fl :=
  (sSeq (sAsg (eCall (lenD 2 d__law_alike) (aCons (eVar 0) (aCons (eFl (aList (aCons (eVar 1) aNil))) aNil))) (asgT 2 (asgCons (asgN 7) (asgCons (asgN 8) asgNil))))
  (sSeq (sSet 3 (eCall (lenD 2 d__law_form) (aCons (eC (.int 0)) (aCons (eFl (aList (aCons (aThen gTup (aCons (eBin gAdd (eC (.str "r.@")) (eVar 1)) (aCons (eC (.int 1)) aNil))) (aCons (aThen gTup (aCons (eBin gAdd (eC (.str "l.@")) (eVar 1)) (aCons (eMap gNeg (eC (.int 1))) aNil))) aNil)))) aNil))))
  (sSeq (sSet 4 (aThen gTup aNil))
  (sSeq (sSet 5 (eBin gIx (eBin gIx (eVar 0) (eC (.int 2))) (eC (.int 0))))
  (sSeq (sFor (eWalk (eVar 2)) (asgN 6)
  (sSeq (sSet 9 (eFl (aList (aCons (aThen gTup (aCons (eBin gAdd (eC (.str "r.@")) (eVar 1)) (aCons (eVar 6) aNil))) (aCons (aThen gTup (aCons (eBin gAdd (eC (.str "l.@")) (eVar 1)) (aCons (eMap gNeg (eVar 6)) aNil))) aNil)))))
  (sSeq (sSet 4 (eBin gAdd (eVar 4) (aThen gTup (aCons (eCall (lenD 2 d__law_form) (aCons (eC (.int 0)) (aCons (eBin gAdd (eVar 9) (eFl (aList (aCons (aThen gTup (aCons (eBin gAdd (eC (.str "r..")) (eVar 5)) (aCons (eMap gNeg (eC (.int 1))) aNil))) (aCons (aThen gTup (aCons (eBin gAdd (eC (.str "l..")) (eVar 5)) (aCons (eC (.int 1)) aNil))) aNil))))) aNil))) aNil))))
  (sSet 4 (eBin gAdd (eVar 4) (aThen gTup (aCons (eCall (lenD 2 d__law_form) (aCons (eC (.int 0)) (aCons (eBin gAdd (eVar 9) (eFl (aList (aCons (aThen gTup (aCons (eBin gAdd (eC (.str "r..")) (eVar 5)) (aCons (eC (.int 1)) aNil))) (aCons (aThen gTup (aCons (eBin gAdd (eC (.str "l..")) (eVar 5)) (aCons (eMap gNeg (eC (.int 1))) aNil))) aNil))))) aNil))) aNil)))))) [6, 9])
  (sSeq (eIf (eB (eBin (gEq false) (eVar 4) (aThen gTup aNil)))
  (sSet 4 (aThen gTup (aCons (eCall (lenD 2 d__law_form) (aCons (eC (.int 0)) (aCons (eFl (aList (aCons (aThen gTup (aCons (eBin gAdd (eC (.str "r..")) (eVar 5)) (aCons (eC (.int 1)) aNil))) (aCons (aThen gTup (aCons (eBin gAdd (eC (.str "l..")) (eVar 5)) (aCons (eMap gNeg (eC (.int 1))) aNil))) aNil)))) aNil))) aNil)))
  sNext)
  (sRet (aThen gTup (aCons (eBin gIx (eVar 0) (eC (.int 0))) (aCons (eBin gIx (eVar 0) (eC (.int 0))) (aCons (eBin gAdd (eVar 7) (aThen gTup (aCons (eVar 3) aNil))) (aCons (eVar 8) (aCons (eVar 4) (aCons (aThen gTup aNil) aNil))))))))))))))
noncomputable def den__law_grows (d__law_alike : List D → M Rv) (d__law_form : List D → M Rv) : List D → M Rv := fun ds => noX (runB 10 (r__law_grows d__law_alike d__law_form) ds)
theorem mp__law_grows {k : Nat} {f : Addr} {fd : FuncData} (F : Fun K "_law_grows" "_law_grows" st__law_grows f fd) {f__law_alike : Addr} {e__law_alike : FuncData} {f__law_form : Addr} {e__law_form : FuncData} {d__law_alike : List D → M Rv} {d__law_form : List D → M Rv} (T__law_alike : FnI K mg "_law_alike" st__law_alike f__law_alike e__law_alike ["p", "others"]) (F__law_alike : FnOk P w K mg base CX0 k f__law_alike e__law_alike ["p", "others"] (sp K mg 2 d__law_alike)) (T__law_form : FnI K mg "_law_form" st__law_form f__law_form e__law_form ["constant", "pairs"]) (F__law_form : FnOk P w K mg base CX0 k f__law_form e__law_form ["constant", "pairs"] (sp K mg 2 d__law_form)) : FnOk P w K mg base CX0 (k + 1) f fd ["p", "x", "factors"] (sp K mg 3 (den__law_grows d__law_alike d__law_form)) :=
  have sc := sc__law_grows
  fn_mp (N := ["p", "x", "factors", "more", "asks", "result", "factor", "givens", "pairs", "room"]) (r := r__law_grows d__law_alike d__law_form) F sc__law_grows rfl fun cdv A outer s H E hr =>
  have hu := hr.units
  have hu1 := units1 hr
  (mss_cons (ms_asg (me_callF T__law_alike F__law_alike hr rfl (ma_cons (me_var (pv 0)) (ma_cons (me_fl (mf_lst (ma_cons (me_var (pv 1)) ma_nil))) ma_nil)) rfl) (mg_tup rfl (mgs_cons (mg_of (pg_name (i := 7) sc.nd rfl (by first | exact Or.inl rfl | exact Or.inr rfl))) (mgs_cons (mg_of (pg_name (i := 8) sc.nd rfl (by first | exact Or.inl rfl | exact Or.inr rfl))) mgs_nil))))
  (mss_cons (ms_set (i := 3) sc.nd rfl (by first | exact Or.inl rfl | exact Or.inr rfl) (me_callF T__law_form F__law_form hr rfl (ma_cons me_int (ma_cons (me_fl (mf_lst (ma_cons (me_tup (ma_cons (me_bin op_addM opm_add me_str (me_var (pv 1))) (ma_cons me_int ma_nil))) (ma_cons (me_tup (ma_cons (me_bin op_addM opm_add me_str (me_var (pv 1))) (ma_cons (me_neg me_int) ma_nil))) ma_nil)))) ma_nil)) rfl))
  (mss_cons (ms_set (i := 4) sc.nd rfl (by first | exact Or.inl rfl | exact Or.inr rfl) (me_tup ma_nil))
  (mss_cons (ms_set (i := 5) sc.nd rfl (by first | exact Or.inl rfl | exact Or.inr rfl) (me_ix (me_ix (me_var (pv 0)) me_int) me_int))
  (mss_cons (ms_for (fg := [6, 9]) PassesOwn.never rfl (mi_seq (me_var (pv 2))) (mg_of (pg_name (i := 6) sc.nd rfl (by first | exact Or.inl rfl | exact Or.inr rfl)))
  (mss_cons (ms_set (i := 9) sc.nd rfl (by first | exact Or.inl rfl | exact Or.inr rfl) (me_fl (mf_lst (ma_cons (me_tup (ma_cons (me_bin op_addM opm_add me_str (me_var (pv 1))) (ma_cons (me_var (pv 6)) ma_nil))) (ma_cons (me_tup (ma_cons (me_bin op_addM opm_add me_str (me_var (pv 1))) (ma_cons (me_neg (me_var (pv 6))) ma_nil))) ma_nil)))))
  (mss_cons (ms_set (i := 4) sc.nd rfl (by first | exact Or.inl rfl | exact Or.inr rfl) (me_bin op_addM opm_add (me_var (pv 4)) (me_tup (ma_cons (me_callF T__law_form F__law_form hr rfl (ma_cons me_int (ma_cons (me_bin op_addM opm_add (me_var (pv 9)) (me_fl (mf_lst (ma_cons (me_tup (ma_cons (me_bin op_addM opm_add me_str (me_var (pv 5))) (ma_cons (me_neg me_int) ma_nil))) (ma_cons (me_tup (ma_cons (me_bin op_addM opm_add me_str (me_var (pv 5))) (ma_cons me_int ma_nil))) ma_nil))))) ma_nil)) rfl) ma_nil))))
  (mss_one (ms_set (i := 4) sc.nd rfl (by first | exact Or.inl rfl | exact Or.inr rfl) (me_bin op_addM opm_add (me_var (pv 4)) (me_tup (ma_cons (me_callF T__law_form F__law_form hr rfl (ma_cons me_int (ma_cons (me_bin op_addM opm_add (me_var (pv 9)) (me_fl (mf_lst (ma_cons (me_tup (ma_cons (me_bin op_addM opm_add me_str (me_var (pv 5))) (ma_cons me_int ma_nil))) (ma_cons (me_tup (ma_cons (me_bin op_addM opm_add me_str (me_var (pv 5))) (ma_cons (me_neg me_int) ma_nil))) ma_nil))))) ma_nil)) rfl) ma_nil))))))))
  (mss_cons (ms_if (mt_cmp (op_eqM hu) opm_eq (me_var (pv 4)) (me_tup ma_nil) (by first | exact nomark _ | rfl))
  (mss_one (ms_set (i := 4) sc.nd rfl (by first | exact Or.inl rfl | exact Or.inr rfl) (me_tup (ma_cons (me_callF T__law_form F__law_form hr rfl (ma_cons me_int (ma_cons (me_fl (mf_lst (ma_cons (me_tup (ma_cons (me_bin op_addM opm_add me_str (me_var (pv 5))) (ma_cons me_int ma_nil))) (ma_cons (me_tup (ma_cons (me_bin op_addM opm_add me_str (me_var (pv 5))) (ma_cons (me_neg me_int) ma_nil))) ma_nil)))) ma_nil)) rfl) ma_nil))))
  mss_nil)
  (mss_one (ms_ret (me_tup (ma_cons (me_ix (me_var (pv 0)) me_int) (ma_cons (me_ix (me_var (pv 0)) me_int) (ma_cons (me_bin op_addM opm_add (me_var (pv 7)) (me_tup (ma_cons (me_var (pv 3)) ma_nil))) (ma_cons (me_var (pv 8)) (ma_cons (me_var (pv 4)) (ma_cons (me_tup ma_nil) ma_nil)))))))))))))))
abbrev st__law_due : Stmt := top 43
theorem sc__law_due : FnScope ["core", "name", "kind", "parameters", "factor", "procs", "p", "x"] ["core", "name", "kind", "parameters", "factor"] (defScope st__law_due) := ⟨rfl, rfl, rfl, by decide +kernel, rfl, by decide +kernel, by decide +kernel⟩
/-- names: 0 core, 1 name, 2 kind, 3 parameters, 4 factor, 5 procs, 6 p, 7 x -/
noncomputable def r__law_due (d__law_secret : List D → M Rv) (d__law_grows : List D → M Rv) : MP.Env → M Fl :=
  (sSeq (sSet 5 (eFl (fComp (eWalk (eVar 0)) (asgN 6) (eB (eBin (gEq false) (eBin gIx (eVar 6) (eC (.int 0))) (eVar 1))) (eVar 6) [6])))
  (sSeq (eIf (eB (eBin (gEq false) (eVar 5) (eFl (aList aNil))))
  (sRet (aThen gTup (aCons (eC (.str "unknown")) (aCons (eVar 1) aNil))))
  sNext)
  (sSeq (sSet 6 (eBin gIx (eVar 5) (eC (.int 0))))
  (sSeq (eIf (bOr (eB (aThen (g1 gAny) (aCons (eFl (fComp (eWalk (eVar 3)) (asgN 7) tYesM (eBin (gIn true) (aThen gTup (aCons (eC (.str "int")) (aCons (eVar 7) aNil))) (eBin gIx (eVar 6) (eC (.int 1)))) [7])) aNil))) (bAnd (eB (eBin (gEq true) (eVar 2) (eC (.str "secret")))) (eB (eBin (gEq true) (aThen (g1 gLen) (aCons (eBin gIx (eVar 6) (eC (.int 2))) aNil)) (eC (.int 1))))))
  (sRet (aThen gTup (aCons (eC (.str "bad")) aNil)))
  sNext)
  (sSeq (eIf (eB (eBin (gEq false) (eVar 2) (eC (.str "secret"))))
  (sRet (aThen gTup (aCons (eC (.str "claim")) (aCons (eCall (lenD 2 d__law_secret) (aCons (eVar 6) (aCons (eVar 3) aNil))) aNil))))
  sNext)
  (sSeq (eIf (eB (eBin (gEq false) (eVar 2) (eC (.str "growing"))))
  (sRet (aThen gTup (aCons (eC (.str "claim")) (aCons (eCall (lenD 3 d__law_grows) (aCons (eVar 6) (aCons (eBin gIx (eVar 3) (eC (.int 0))) (aCons (eFl (aList aNil)) aNil)))) aNil))))
  sNext)
  (sRet (aThen gTup (aCons (eC (.str "claim")) (aCons (eCall (lenD 3 d__law_grows) (aCons (eVar 6) (aCons (eBin gIx (eVar 3) (eC (.int 0))) (aCons (eFl (aList (aCons (eVar 4) aNil))) aNil)))) aNil))))))))))
noncomputable def den__law_due (d__law_secret : List D → M Rv) (d__law_grows : List D → M Rv) : List D → M Rv := fun ds => noX (runB 8 (r__law_due d__law_secret d__law_grows) ds)
theorem mp__law_due {k : Nat} {f : Addr} {fd : FuncData} (F : Fun K "_law_due" "_law_due" st__law_due f fd) {f__law_secret : Addr} {e__law_secret : FuncData} {f__law_grows : Addr} {e__law_grows : FuncData} {d__law_secret : List D → M Rv} {d__law_grows : List D → M Rv} (T__law_secret : FnI K mg "_law_secret" st__law_secret f__law_secret e__law_secret ["p", "secrets"]) (F__law_secret : FnOk P w K mg base CX0 k f__law_secret e__law_secret ["p", "secrets"] (sp K mg 2 d__law_secret)) (T__law_grows : FnI K mg "_law_grows" st__law_grows f__law_grows e__law_grows ["p", "x", "factors"]) (F__law_grows : FnOk P w K mg base CX0 k f__law_grows e__law_grows ["p", "x", "factors"] (sp K mg 3 d__law_grows)) (z_any : mg "any" = none) (z_len : mg "len" = none) : FnOk P w K mg base CX0 (k + 1) f fd ["core", "name", "kind", "parameters", "factor"] (sp K mg 5 (den__law_due d__law_secret d__law_grows)) :=
  have sc := sc__law_due
  fn_mp (N := ["core", "name", "kind", "parameters", "factor", "procs", "p", "x"]) (r := r__law_due d__law_secret d__law_grows) F sc__law_due rfl fun cdv A outer s H E hr =>
  have hu := hr.units
  have hu1 := units1 hr
  (mss_cons (ms_setC (i := 5) rfl sc.nd rfl rfl (sw_true rfl rfl (by decide +kernel) (by decide +kernel)) (mi_seq (me_var (pv 0))) (own := [("p", 6)]) (blkOk_by (N := ["core", "name", "kind", "parameters", "factor", "procs", "p", "x"]) (sc := defScope st__law_due) (by decide +kernel)) (by decide) (fun s H C cl fp => (mg_of (pg_name (i := 6) sc.nd rfl (by first | exact Or.inl rfl | exact Or.inr rfl)))) (fun s H C cl fp => (mts_one (mt_cmp (op_eqM hu) opm_eq (me_ix (me_var (pv 6)) me_int) (me_var (pv 1)) (by first | exact nomark _ | rfl)))) (fun s H C cl fp => (me_var (pv 6))) fl_go)
  (mss_cons (ms_if (mt_cmp (op_eqM hu) opm_eq (me_var (pv 5)) (me_fl (mf_lst ma_nil)) (by first | exact nomark _ | rfl))
  (mss_one (ms_ret (me_tup (ma_cons me_str (ma_cons (me_var (pv 1)) ma_nil)))))
  mss_nil)
  (mss_cons (ms_set (i := 6) sc.nd rfl (by first | exact Or.inl rfl | exact Or.inr rfl) (me_ix (me_var (pv 5)) me_int))
  (mss_cons (ms_if (MW.mt (mw_or (mt_val (me_callB (cr_any rfl) callM_any rfl z_any (by decide +kernel) (ma_cons (me_fl (mf_comp rfl sc.nd (mi_seq (me_var (pv 3))) (own := [("x", 7)]) (blkOk_by (N := ["core", "name", "kind", "parameters", "factor", "procs", "p", "x"]) (sc := defScope st__law_due) (by decide +kernel)) (by decide) (fun s H C cl fp => (mg_of (pg_name (i := 7) sc.nd rfl (by first | exact Or.inl rfl | exact Or.inr rfl)))) (fun s H C cl fp => mts_nil) (fun s H C cl fp => (me_cmp (op_notInM hu) opm_in (me_tup (ma_cons me_str (ma_cons (me_var (pv 7)) ma_nil))) (me_ix (me_var (pv 6)) me_int) (by first | exact nomark _ | rfl))))) ma_nil))) (mw_or1 (MW.mt (mw_and (mt_cmp (op_neM hu) opm_eq (me_var (pv 2)) me_str (by first | exact nomark _ | rfl)) (mw_and1 (mt_cmp (op_neM hu) opm_eq (me_callB call_lenM callM_len rfl z_len PySem.boot_len (ma_cons (me_ix (me_var (pv 6)) me_int) ma_nil)) me_int (by first | exact nomark _ | rfl))))))))
  (mss_one (ms_ret (me_tup (ma_cons me_str ma_nil))))
  mss_nil)
  (mss_cons (ms_if (mt_cmp (op_eqM hu) opm_eq (me_var (pv 2)) me_str (by first | exact nomark _ | rfl))
  (mss_one (ms_ret (me_tup (ma_cons me_str (ma_cons (me_callF T__law_secret F__law_secret hr rfl (ma_cons (me_var (pv 6)) (ma_cons (me_var (pv 3)) ma_nil)) rfl) ma_nil)))))
  mss_nil)
  (mss_cons (ms_if (mt_cmp (op_eqM hu) opm_eq (me_var (pv 2)) me_str (by first | exact nomark _ | rfl))
  (mss_one (ms_ret (me_tup (ma_cons me_str (ma_cons (me_callF T__law_grows F__law_grows hr rfl (ma_cons (me_var (pv 6)) (ma_cons (me_ix (me_var (pv 3)) me_int) (ma_cons (me_fl (mf_lst ma_nil)) ma_nil))) rfl) ma_nil)))))
  mss_nil)
  (mss_one (ms_ret (me_tup (ma_cons me_str (ma_cons (me_callF T__law_grows F__law_grows hr rfl (ma_cons (me_var (pv 6)) (ma_cons (me_ix (me_var (pv 3)) me_int) (ma_cons (me_fl (mf_lst (ma_cons (me_var (pv 4)) ma_nil))) ma_nil))) rfl) ma_nil)))))))))))
abbrev st__law_told : Stmt := top 44
theorem sc__law_told : FnScope ["core", "name", "kind", "parameters", "factor", "e"] ["core", "name", "kind", "parameters", "factor"] (defScope st__law_told) := ⟨rfl, rfl, rfl, by decide +kernel, rfl, by decide +kernel, by decide +kernel⟩
/-- names: 0 core, 1 name, 2 kind, 3 parameters, 4 factor, 5 e -/
noncomputable def r__law_told (d_secret_claim : List D → M Rv) (d_growing_claim : List D → M Rv) (d_moved_claim : List D → M Rv) : MP.Env → M Fl :=
  (sTry [5] (fun h => (sSeq (eIf (eB (eBin (gEq false) (eVar 2) (eC (.str "secret"))))
  (sRet (aThen gTup (aCons (eC (.str "claim")) (aCons (eCallT [5] h (lenD 3 d_secret_claim) (aCons (eVar 0) (aCons (eVar 1) (aCons (eVar 3) aNil)))) aNil))))
  sNext)
  (sSeq (eIf (eB (eBin (gEq false) (eVar 2) (eC (.str "growing"))))
  (sRet (aThen gTup (aCons (eC (.str "claim")) (aCons (eCallT [5] h (lenD 3 d_growing_claim) (aCons (eVar 0) (aCons (eVar 1) (aCons (eBin gIx (eVar 3) (eC (.int 0))) aNil)))) aNil))))
  sNext)
  (sRet (aThen gTup (aCons (eC (.str "claim")) (aCons (eCallT [5] h (lenD 4 d_moved_claim) (aCons (eVar 0) (aCons (eVar 1) (aCons (eBin gIx (eVar 3) (eC (.int 0))) (aCons (eVar 4) aNil))))) aNil))))))) [(xt_UnknownName, asH 5 (fun ex => (sSeq (eIf (bOr (eB (eIs xt_BadClaim ex)) (bOr (eB (eIs xt_BadWalk ex)) (bNot (eB (eIs xt_DifferwithinError ex)))))
  (sRet (aThen gTup (aCons (eC (.str "strange")) aNil)))
  sNext)
  (sRet (aThen gTup (aCons (eC (.str "unknown")) (aCons (eFld ft_name "name" ex) aNil))))))), (xt_BadClaim, asH 5 (fun ex => (sSeq (eIf (bOr (eB (eIs xt_BadWalk ex)) (bOr (bNot (eB (eIs xt_DifferwithinError ex))) (bNot (eB (eIs xt_ValueError ex)))))
  (sRet (aThen gTup (aCons (eC (.str "strange")) aNil)))
  sNext)
  (sRet (aThen gTup (aCons (eC (.str "bad")) aNil))))))])
noncomputable def den__law_told (d_secret_claim : List D → M Rv) (d_growing_claim : List D → M Rv) (d_moved_claim : List D → M Rv) : List D → M Rv := fun ds => noX (runB 6 (r__law_told d_secret_claim d_growing_claim d_moved_claim) ds)
theorem mp__law_told {k : Nat} {f : Addr} {fd : FuncData} (F : Fun K "_law_told" "_law_told" st__law_told f fd) {f_secret_claim : Addr} {e_secret_claim : FuncData} {f_growing_claim : Addr} {e_growing_claim : FuncData} {f_moved_claim : Addr} {e_moved_claim : FuncData} {d_secret_claim : List D → M Rv} {d_growing_claim : List D → M Rv} {d_moved_claim : List D → M Rv} (T_secret_claim : FnI K mg "secret_claim" st_secret_claim f_secret_claim e_secret_claim ["core", "name", "secrets"]) (F_secret_claim : FnOk P w K mg base (L2.CX P w) k f_secret_claim e_secret_claim ["core", "name", "secrets"] (sp K mg 3 d_secret_claim)) (T_growing_claim : FnI K mg "growing_claim" st_growing_claim f_growing_claim e_growing_claim ["core", "name", "parameter"]) (F_growing_claim : FnOk P w K mg base (L2.CX P w) k f_growing_claim e_growing_claim ["core", "name", "parameter"] (sp K mg 3 d_growing_claim)) (T_moved_claim : FnI K mg "moved_claim" st_moved_claim f_moved_claim e_moved_claim ["core", "name", "parameter", "factor"]) (F_moved_claim : FnOk P w K mg base (L2.CX P w) k f_moved_claim e_moved_claim ["core", "name", "parameter", "factor"] (sp K mg 4 d_moved_claim)) (z_isinstance : mg "isinstance" = none) (z_ValueError : mg "ValueError" = none) {c_BadClaim : Addr} (g_BadClaim : mg "BadClaim" = some (.ref c_BadClaim)) (tb_BadClaim : ExcTab mg K (.ref c_BadClaim) xt_BadClaim) {c_UnknownName : Addr} (g_UnknownName : mg "UnknownName" = some (.ref c_UnknownName)) (tb_UnknownName : ExcTab mg K (.ref c_UnknownName) xt_UnknownName) {c_BadWalk : Addr} (g_BadWalk : mg "BadWalk" = some (.ref c_BadWalk)) {c_DifferwithinError : Addr} (g_DifferwithinError : mg "DifferwithinError" = some (.ref c_DifferwithinError)) (ti_BadWalk : IsTab mg K (.ref c_BadWalk) xt_BadWalk) (ti_DifferwithinError : IsTab mg K (.ref c_DifferwithinError) xt_DifferwithinError) (ti_ValueError : IsTab mg K (.type "ValueError") xt_ValueError) (ti_BadClaim : IsTab mg K (.ref c_BadClaim) xt_BadClaim) (ff_name : ∀ nm cls, mg nm = some cls → ft_name nm = true → ∃ Dc, cls = .ref Dc ∧ XfC K Dc ∧ PySem.W.findIn K (.ref Dc) "name" = some none) : FnOk P w K mg base CX0 (k + 1) f fd ["core", "name", "kind", "parameters", "factor"] (sp K mg 5 (den__law_told d_secret_claim d_growing_claim d_moved_claim)) :=
  have sc := sc__law_told
  fn_mp (N := ["core", "name", "kind", "parameters", "factor", "e"]) (r := r__law_told d_secret_claim d_growing_claim d_moved_claim) F sc__law_told rfl fun cdv A outer s H E hr =>
  have hu := hr.units
  have hu1 := units1 hr
  (mss_one (ms_try (fg := [5]) rfl rfl sc.nd takes0 serves0 (fun h Ws pn xe tk pa => (mss_cons (ms_if (mt_cmp (op_eqM hu) opm_eq (me_var (pv 2)) me_str (by first | exact nomark _ | rfl))
  (mss_one (ms_ret (me_tup (ma_cons me_str (ma_cons (me_callT T_secret_claim F_secret_claim hr tk rfl (ma_cons (me_var (pv 0)) (ma_cons (me_var (pv 1)) (ma_cons (me_var (pv 3)) ma_nil))) rfl) ma_nil)))))
  mss_nil)
  (mss_cons (ms_if (mt_cmp (op_eqM hu) opm_eq (me_var (pv 2)) me_str (by first | exact nomark _ | rfl))
  (mss_one (ms_ret (me_tup (ma_cons me_str (ma_cons (me_callT T_growing_claim F_growing_claim hr tk rfl (ma_cons (me_var (pv 0)) (ma_cons (me_var (pv 1)) (ma_cons (me_ix (me_var (pv 3)) me_int) ma_nil))) rfl) ma_nil)))))
  mss_nil)
  (mss_one (ms_ret (me_tup (ma_cons me_str (ma_cons (me_callT T_moved_claim F_moved_claim hr tk rfl (ma_cons (me_var (pv 0)) (ma_cons (me_var (pv 1)) (ma_cons (me_ix (me_var (pv 3)) me_int) (ma_cons (me_var (pv 4)) ma_nil)))) rfl) ma_nil)))))))) (MCl.named (i := 5) ⟨rfl, by decide, .inl g_UnknownName⟩ tb_UnknownName rfl rfl (fun ex a oe cls d pn hd => (mssg_cons xrep_st (msg_if xrep_st (MWG.mt (mwg_or xrep_st (mtg_val (meg_isi hd ti_BadClaim (pe_glob (v := .ref c_BadClaim) rfl g_BadClaim rfl) (fun _ h => h) (pv 5) rfl z_isinstance (by decide +kernel))) (mwg_or xrep_st (mtg_val (meg_isi hd ti_BadWalk (pe_glob (v := .ref c_BadWalk) rfl g_BadWalk rfl) (fun _ h => h) (pv 5) rfl z_isinstance (by decide +kernel))) (mwg_or1 (mtg_not (mtg_val (meg_isi hd ti_DifferwithinError (pe_glob (v := .ref c_DifferwithinError) rfl g_DifferwithinError rfl) (fun _ h => h) (pv 5) rfl z_isinstance (by decide +kernel))))))))
  (mssg_one (msg_ret (meg_of (me_tup (ma_cons me_str ma_nil)))))
  mssg_nil)
  (mssg_one (msg_ret (meg_tup (mag_cons xrep_st (meg_of me_str) (mag_cons xrep_st (meg_fld hd ff_name (pv 5)) mag_nil))))))) (MCl.named (i := 5) ⟨rfl, by decide, .inl g_BadClaim⟩ tb_BadClaim rfl rfl (fun ex a oe cls d pn hd => (mssg_cons xrep_st (msg_if xrep_st (MWG.mt (mwg_or xrep_st (mtg_val (meg_isi hd ti_BadWalk (pe_glob (v := .ref c_BadWalk) rfl g_BadWalk rfl) (fun _ h => h) (pv 5) rfl z_isinstance (by decide +kernel))) (mwg_or xrep_st (mtg_not (mtg_val (meg_isi hd ti_DifferwithinError (pe_glob (v := .ref c_DifferwithinError) rfl g_DifferwithinError rfl) (fun _ h => h) (pv 5) rfl z_isinstance (by decide +kernel)))) (mwg_or1 (mtg_not (mtg_val (meg_isi hd ti_ValueError (pe_bltn (v := .ty "ValueError") rfl z_ValueError (by decide +kernel) rfl) (fun _ h => h) (pv 5) rfl z_isinstance (by decide +kernel))))))))
  (mssg_one (msg_ret (meg_of (me_tup (ma_cons me_str ma_nil)))))
  mssg_nil)
  (mssg_one (msg_ret (meg_of (me_tup (ma_cons me_str ma_nil))))))) MCl.nil))))
abbrev st__law_parameters : Stmt := top 45
theorem sc__law_parameters : FnScope ["state", "p", "ints", "strange", "found", "pick", "kind", "x"] ["state", "p"] (defScope st__law_parameters) := ⟨rfl, rfl, rfl, by decide +kernel, rfl, by decide +kernel, by decide +kernel⟩
/-- names: 0 state, 1 p, 2 ints, 3 strange, 4 found, 5 pick, 6 kind, 7 x -/
noncomputable def r__law_parameters (d__law_shuffled : List D → M Rv) (d__law_draw : List D → M Rv) (d__law_one_of : List D → M Rv) : MP.Env → M Fl :=
  (sSeq (sSet 2 (eFl (fComp (eWalk (eBin gIx (eVar 1) (eC (.int 1)))) (asgT 2 (asgCons (asgN 6) (asgCons (asgN 7) asgNil))) (eB (eBin (gEq false) (eVar 6) (eC (.str "int")))) (eVar 7) [6, 7])))
  (sSeq (sSet 3 (eBin gAdd (eFl (fComp (eWalk (eBin gIx (eVar 1) (eC (.int 1)))) (asgT 2 (asgCons (asgN 6) (asgCons (asgN 7) asgNil))) (eB (eBin (gEq false) (eVar 6) (eC (.str "array")))) (eVar 7) [6, 7])) (eFl (fComp (eWalk (eBin gIx (eVar 1) (eC (.int 3)))) (asgT 2 (asgCons (asgN 6) (asgCons (asgN 7) asgNil))) tYesM (eVar 7) [6, 7]))))
  (sSeq (sSet 3 (eBin gAdd (eVar 3) (eFl (aList (aCons (eC (.str "")) (aCons (eBin gAdd (eBin gIx (eVar 1) (eC (.int 0))) (eC (.str "a"))) (aCons (eBin gAdd (eC (.str "@")) (eBin gIx (eBin gIx (eBin gIx (eVar 1) (eC (.int 1))) (eC (.int 0))) (eC (.int 1)))) (aCons (eC (.str "result")) aNil))))))))
  (sSeq (sSet 4 (eNew (fSl (eCall (lenD 2 d__law_shuffled) (aCons (eVar 0) (aCons (eVar 2) aNil))) (oSome (eCall (lenD 2 d__law_draw) (aCons (eVar 0) (aCons (eBin gAdd (aThen (g1 gLen) (aCons (eVar 2) aNil)) (eC (.int 1))) aNil)))) oNone)))
  (sSeq (sSet 5 (eCall (lenD 2 d__law_draw) (aCons (eVar 0) (aCons (eC (.int 6)) aNil))))
  (sSeq (eIf (eB (eBin (gEq false) (eVar 5) (eC (.int 0))))
  (sExpr (eMeth lstK gInsert (eVar 4) (aCons (eCall (lenD 2 d__law_draw) (aCons (eVar 0) (aCons (eBin gAdd (aThen (g1 gLen) (aCons (eVar 4) aNil)) (eC (.int 1))) aNil))) (aCons (eCall (lenD 2 d__law_one_of) (aCons (eVar 0) (aCons (eVar 3) aNil))) aNil))))
  (eIf (eB (eBin (gEq false) (eVar 5) (eC (.int 1))))
  (sSet 4 (eNew (fCat (eVar 4) (eSl (eVar 4) oNone (oSome (eC (.int 1)))))))
  sNext))
  (sRet (aThen (g1 gTuple) (aCons (eVar 4) aNil)))))))))
noncomputable def den__law_parameters (d__law_shuffled : List D → M Rv) (d__law_draw : List D → M Rv) (d__law_one_of : List D → M Rv) : List D → M Rv := fun ds => noX (runB 8 (r__law_parameters d__law_shuffled d__law_draw d__law_one_of) ds)
theorem mp__law_parameters {k : Nat} {f : Addr} {fd : FuncData} (F : Fun K "_law_parameters" "_law_parameters" st__law_parameters f fd) {f__law_shuffled : Addr} {e__law_shuffled : FuncData} {f__law_draw : Addr} {e__law_draw : FuncData} {f__law_one_of : Addr} {e__law_one_of : FuncData} {d__law_shuffled : List D → M Rv} {d__law_draw : List D → M Rv} {d__law_one_of : List D → M Rv} (T__law_shuffled : FnI K mg "_law_shuffled" st__law_shuffled f__law_shuffled e__law_shuffled ["state", "items"]) (F__law_shuffled : FnOk P w K mg base CX0 k f__law_shuffled e__law_shuffled ["state", "items"] (sp K mg 2 d__law_shuffled)) (T__law_draw : FnI K mg "_law_draw" st__law_draw f__law_draw e__law_draw ["state", "most"]) (F__law_draw : FnOk P w K mg base CX0 k f__law_draw e__law_draw ["state", "most"] (sp K mg 2 d__law_draw)) (T__law_one_of : FnI K mg "_law_one_of" st__law_one_of f__law_one_of e__law_one_of ["state", "items"]) (F__law_one_of : FnOk P w K mg base CX0 k f__law_one_of e__law_one_of ["state", "items"] (sp K mg 2 d__law_one_of)) (z_len : mg "len" = none) (z_tuple : mg "tuple" = none) : FnOk P w K mg base CX0 (k + 1) f fd ["state", "p"] (sp K mg 2 (den__law_parameters d__law_shuffled d__law_draw d__law_one_of)) :=
  have sc := sc__law_parameters
  fn_mp (N := ["state", "p", "ints", "strange", "found", "pick", "kind", "x"]) (r := r__law_parameters d__law_shuffled d__law_draw d__law_one_of) F sc__law_parameters rfl fun cdv A outer s H E hr =>
  have hu := hr.units
  have hu1 := units1 hr
  (mss_cons (ms_setC (i := 2) rfl sc.nd rfl rfl (sw_true rfl rfl (by decide +kernel) (by decide +kernel)) (mi_seq (me_ix (me_var (pv 1)) me_int)) (own := [("kind", 6), ("x", 7)]) (blkOk_by (N := ["state", "p", "ints", "strange", "found", "pick", "kind", "x"]) (sc := defScope st__law_parameters) (by decide +kernel)) (by decide) (fun s H C cl fp => (mg_tup rfl (mgs_cons (mg_of (pg_name (i := 6) sc.nd rfl (by first | exact Or.inl rfl | exact Or.inr rfl))) (mgs_cons (mg_of (pg_name (i := 7) sc.nd rfl (by first | exact Or.inl rfl | exact Or.inr rfl))) mgs_nil)))) (fun s H C cl fp => (mts_one (mt_cmp (op_eqM hu) opm_eq (me_var (pv 6)) me_str (by first | exact nomark _ | rfl)))) (fun s H C cl fp => (me_var (pv 7))) fl_go)
  (mss_cons (ms_set (i := 3) sc.nd rfl (by first | exact Or.inl rfl | exact Or.inr rfl) (me_bin op_addM opm_add (me_fl (mf_comp rfl sc.nd (mi_seq (me_ix (me_var (pv 1)) me_int)) (own := [("kind", 6), ("x", 7)]) (blkOk_by (N := ["state", "p", "ints", "strange", "found", "pick", "kind", "x"]) (sc := defScope st__law_parameters) (by decide +kernel)) (by decide) (fun s H C cl fp => (mg_tup rfl (mgs_cons (mg_of (pg_name (i := 6) sc.nd rfl (by first | exact Or.inl rfl | exact Or.inr rfl))) (mgs_cons (mg_of (pg_name (i := 7) sc.nd rfl (by first | exact Or.inl rfl | exact Or.inr rfl))) mgs_nil)))) (fun s H C cl fp => (mts_one (mt_cmp (op_eqM hu) opm_eq (me_var (pv 6)) me_str (by first | exact nomark _ | rfl)))) (fun s H C cl fp => (me_var (pv 7))))) (me_fl (mf_comp rfl sc.nd (mi_seq (me_ix (me_var (pv 1)) me_int)) (own := [("kind", 6), ("x", 7)]) (blkOk_by (N := ["state", "p", "ints", "strange", "found", "pick", "kind", "x"]) (sc := defScope st__law_parameters) (by decide +kernel)) (by decide) (fun s H C cl fp => (mg_tup rfl (mgs_cons (mg_of (pg_name (i := 6) sc.nd rfl (by first | exact Or.inl rfl | exact Or.inr rfl))) (mgs_cons (mg_of (pg_name (i := 7) sc.nd rfl (by first | exact Or.inl rfl | exact Or.inr rfl))) mgs_nil)))) (fun s H C cl fp => mts_nil) (fun s H C cl fp => (me_var (pv 7)))))))
  (mss_cons (ms_set (i := 3) sc.nd rfl (by first | exact Or.inl rfl | exact Or.inr rfl) (me_bin op_addM opm_add (me_var (pv 3)) (me_fl (mf_lst (ma_cons me_str (ma_cons (me_bin op_addM opm_add (me_ix (me_var (pv 1)) me_int) me_str) (ma_cons (me_bin op_addM opm_add me_str (me_ix (me_ix (me_ix (me_var (pv 1)) me_int) me_int) me_int)) (ma_cons me_str ma_nil))))))))
  (mss_cons (ms_set (i := 4) sc.nd rfl (by first | exact Or.inl rfl | exact Or.inr rfl) (me_new (mf_slice (me_callF T__law_shuffled F__law_shuffled hr rfl (ma_cons (me_var (pv 0)) (ma_cons (me_var (pv 2)) ma_nil)) rfl) (mo_some (me_callF T__law_draw F__law_draw hr rfl (ma_cons (me_var (pv 0)) (ma_cons (me_bin op_addM opm_add (me_callB call_lenM callM_len rfl z_len PySem.boot_len (ma_cons (me_var (pv 2)) ma_nil)) me_int) ma_nil)) rfl)) mo_none)))
  (mss_cons (ms_set (i := 5) sc.nd rfl (by first | exact Or.inl rfl | exact Or.inr rfl) (me_callF T__law_draw F__law_draw hr rfl (ma_cons (me_var (pv 0)) (ma_cons me_int ma_nil)) rfl))
  (mss_cons (ms_if (mt_cmp (op_eqM hu) opm_eq (me_var (pv 5)) me_int (by first | exact nomark _ | rfl))
  (mss_one (ms_expr (me_lmeth PySem.F.slot_list_insert PySem.F.type_list_insert mt_insert methM_insert (me_var (pv 4)) (ma_cons (me_callF T__law_draw F__law_draw hr rfl (ma_cons (me_var (pv 0)) (ma_cons (me_bin op_addM opm_add (me_callB call_lenM callM_len rfl z_len PySem.boot_len (ma_cons (me_var (pv 4)) ma_nil)) me_int) ma_nil)) rfl) (ma_cons (me_callF T__law_one_of F__law_one_of hr rfl (ma_cons (me_var (pv 0)) (ma_cons (me_var (pv 3)) ma_nil)) rfl) ma_nil)))))
  (mss_one (ms_if (mt_cmp (op_eqM hu) opm_eq (me_var (pv 5)) me_int (by first | exact nomark _ | rfl))
  (mss_one (ms_set (i := 4) sc.nd rfl (by first | exact Or.inl rfl | exact Or.inr rfl) (me_new (mf_cat (me_var (pv 4)) (me_slice (me_var (pv 4)) mo_none (mo_some me_int))))))
  mss_nil)))
  (mss_one (ms_ret (me_callTy call_tuple_of callM_tuple rfl z_tuple (by decide +kernel) (ma_cons (me_var (pv 4)) ma_nil))))))))))
abbrev st_law : Stmt := top 46
theorem sc_law : FnScope ["script", "state", "core", "turn", "p", "name", "factor", "parameters", "ints", "one", "kind", "due", "x", "q"] ["script"] (defScope st_law) := ⟨rfl, rfl, rfl, by decide +kernel, rfl, by decide +kernel, by decide +kernel⟩
/-- names: 0 script, 1 state, 2 core, 3 turn, 4 p, 5 name, 6 factor, 7 parameters, 8 ints, 9 one, 10 kind, 11 due, 12 x, 13 q -/
noncomputable def r_law (d__law_start : List D → M Rv) (d__law_core_of : List D → M Rv) (d__law_one_of : List D → M Rv) (d__law_draw : List D → M Rv) (d__law_parameters : List D → M Rv) (d__law_same : List D → M Rv) (d__law_due : List D → M Rv) (d__law_told : List D → M Rv) : MP.Env → M Fl :=
  (sSeq (sSet 1 (eNew (fCall (lenD 1 d__law_start) (aCons (eVar 0) aNil))))
  (sSeq (sSet 2 (eCall (lenD 1 d__law_core_of) (aCons (eVar 1) aNil)))
  (sSeq (sFor (wThen wRng1 (aCons (eC (.int 3)) aNil)) (asgN 3)
  (sSeq (sSet 4 (eCall (lenD 2 d__law_one_of) (aCons (eVar 1) (aCons (eVar 2) aNil))))
  (sSeq (eIf (eB (eBin (gEq false) (eCall (lenD 2 d__law_draw) (aCons (eVar 1) (aCons (eC (.int 2)) aNil))) (eC (.int 0))))
  (sSeq (sSet 4 (eBin gAdd (eBin gAdd (eSl (eVar 4) oNone (oSome (eC (.int 2)))) (aThen gTup (aCons (aThen gTup (aCons (eC (.str "result")) aNil)) aNil))) (eSl (eVar 4) (oSome (eC (.int 3))) oNone)))
  (sSet 2 (aThen (g1 gTuple) (aCons (eFl (fComp (eWalk (eVar 2)) (asgN 13) tYesM (eIf (eB (eBin (gEq false) (eBin gIx (eVar 13) (eC (.int 0))) (eBin gIx (eVar 4) (eC (.int 0))))) (eVar 4) (eVar 13)) [13])) aNil))))
  sNext)
  (sSeq (sSet 5 (eBin gIx (eVar 4) (eC (.int 0))))
  (sSeq (eIf (eB (eBin (gEq false) (eCall (lenD 2 d__law_draw) (aCons (eVar 1) (aCons (eC (.int 6)) aNil))) (eC (.int 0))))
  (sSet 5 (eCall (lenD 2 d__law_one_of) (aCons (eVar 1) (aCons (eFl (aList (aCons (eC (.str "")) (aCons (eBin gAdd (eBin gIx (eVar 4) (eC (.int 0))) (eC (.str "a"))) (aCons (eBin gAdd (eC (.str "zz")) (eBin gIx (eVar 4) (eC (.int 0)))) (aCons (eBin gIx (eBin gIx (eBin gIx (eVar 4) (eC (.int 1))) (eC (.int 0))) (eC (.int 1))) aNil)))))) aNil))))
  sNext)
  (sSeq (sSet 6 (eCall (lenD 2 d__law_one_of) (aCons (eVar 1) (aCons (eFl (aList (aCons (eC (.int 0)) (aCons (eC (.int 1)) (aCons (eBin gSub (eCall (lenD 2 d__law_draw) (aCons (eVar 1) (aCons (eC (.int 21)) aNil))) (eC (.int 10))) (aCons (eBin gMul (eBin gSub (eCall (lenD 2 d__law_draw) (aCons (eVar 1) (aCons (eBin gPow (eC (.int 10)) (eC (.int 9))) aNil))) (eC (.int 9))) (eBin gPow (eC (.int 10)) (eC (.int 20)))) aNil)))))) aNil))))
  (sSeq (sSet 7 (eCall (lenD 2 d__law_parameters) (aCons (eVar 1) (aCons (eVar 4) aNil))))
  (sSeq (eIf (bNot (eB (eCall (lenD 2 d__law_same) (aCons (eCall (lenD 5 d__law_told) (aCons (eVar 2) (aCons (eVar 5) (aCons (eC (.str "secret")) (aCons (eVar 7) (aCons (eC (.int 0)) aNil)))))) (aCons (eCall (lenD 5 d__law_due) (aCons (eVar 2) (aCons (eVar 5) (aCons (eC (.str "secret")) (aCons (eVar 7) (aCons (eC (.int 0)) aNil)))))) aNil)))))
  (sRet (eC (.bl false)))
  sNext)
  (sSeq (sSet 8 (eFl (fComp (eWalk (eBin gIx (eVar 4) (eC (.int 1)))) (asgT 2 (asgCons (asgN 10) (asgCons (asgN 12) asgNil))) (eB (eBin (gEq false) (eVar 10) (eC (.str "int")))) (eVar 12) [10, 12])))
  (sSeq (sSet 9 (eSl (eBin gAdd (eBin gAdd (eVar 7) (aThen (g1 gTuple) (aCons (eVar 8) aNil))) (aThen gTup (aCons (eC (.str "zz")) aNil))) oNone (oSome (eC (.int 1)))))
  (sFor (eWalk (eFl (aList (aCons (eC (.str "growing")) (aCons (eC (.str "moved")) aNil))))) (asgN 10)
  (sSeq (sSet 11 (eCall (lenD 5 d__law_due) (aCons (eVar 2) (aCons (eVar 5) (aCons (eVar 10) (aCons (eVar 9) (aCons (eVar 6) aNil)))))))
  (eIf (bNot (eB (eCall (lenD 2 d__law_same) (aCons (eCall (lenD 5 d__law_told) (aCons (eVar 2) (aCons (eVar 5) (aCons (eVar 10) (aCons (eVar 9) (aCons (eVar 6) aNil)))))) (aCons (eVar 11) aNil)))))
  (sRet (eC (.bl false)))
  sNext)) [10, 11])))))))))) [3, 4, 5, 6, 7, 8, 9])
  (sRet (eC (.bl true))))))
noncomputable def den_law (d__law_start : List D → M Rv) (d__law_core_of : List D → M Rv) (d__law_one_of : List D → M Rv) (d__law_draw : List D → M Rv) (d__law_parameters : List D → M Rv) (d__law_same : List D → M Rv) (d__law_due : List D → M Rv) (d__law_told : List D → M Rv) : List D → M Rv := fun ds => noX (runB 14 (r_law d__law_start d__law_core_of d__law_one_of d__law_draw d__law_parameters d__law_same d__law_due d__law_told) ds)
theorem mp_law {k : Nat} {f : Addr} {fd : FuncData} (F : Fun K "law" "law" st_law f fd) {f__law_start : Addr} {e__law_start : FuncData} {f__law_core_of : Addr} {e__law_core_of : FuncData} {f__law_one_of : Addr} {e__law_one_of : FuncData} {f__law_draw : Addr} {e__law_draw : FuncData} {f__law_parameters : Addr} {e__law_parameters : FuncData} {f__law_same : Addr} {e__law_same : FuncData} {f__law_due : Addr} {e__law_due : FuncData} {f__law_told : Addr} {e__law_told : FuncData} {d__law_start : List D → M Rv} {d__law_core_of : List D → M Rv} {d__law_one_of : List D → M Rv} {d__law_draw : List D → M Rv} {d__law_parameters : List D → M Rv} {d__law_same : List D → M Rv} {d__law_due : List D → M Rv} {d__law_told : List D → M Rv} (T__law_start : FnI K mg "_law_start" st__law_start f__law_start e__law_start ["script"]) (F__law_start : FnOk P w K mg base CX0 k f__law_start e__law_start ["script"] (sp K mg 1 d__law_start)) (T__law_core_of : FnI K mg "_law_core_of" st__law_core_of f__law_core_of e__law_core_of ["state"]) (F__law_core_of : FnOk P w K mg base CX0 k f__law_core_of e__law_core_of ["state"] (sp K mg 1 d__law_core_of)) (T__law_one_of : FnI K mg "_law_one_of" st__law_one_of f__law_one_of e__law_one_of ["state", "items"]) (F__law_one_of : FnOk P w K mg base CX0 k f__law_one_of e__law_one_of ["state", "items"] (sp K mg 2 d__law_one_of)) (T__law_draw : FnI K mg "_law_draw" st__law_draw f__law_draw e__law_draw ["state", "most"]) (F__law_draw : FnOk P w K mg base CX0 k f__law_draw e__law_draw ["state", "most"] (sp K mg 2 d__law_draw)) (T__law_parameters : FnI K mg "_law_parameters" st__law_parameters f__law_parameters e__law_parameters ["state", "p"]) (F__law_parameters : FnOk P w K mg base CX0 k f__law_parameters e__law_parameters ["state", "p"] (sp K mg 2 d__law_parameters)) (T__law_same : FnI K mg "_law_same" st__law_same f__law_same e__law_same ["x", "y"]) (F__law_same : FnOk P w K mg base CX0 k f__law_same e__law_same ["x", "y"] (sp K mg 2 d__law_same)) (T__law_due : FnI K mg "_law_due" st__law_due f__law_due e__law_due ["core", "name", "kind", "parameters", "factor"]) (F__law_due : FnOk P w K mg base CX0 k f__law_due e__law_due ["core", "name", "kind", "parameters", "factor"] (sp K mg 5 d__law_due)) (T__law_told : FnI K mg "_law_told" st__law_told f__law_told e__law_told ["core", "name", "kind", "parameters", "factor"]) (F__law_told : FnOk P w K mg base CX0 k f__law_told e__law_told ["core", "name", "kind", "parameters", "factor"] (sp K mg 5 d__law_told)) (z_range : mg "range" = none) (z_tuple : mg "tuple" = none) : FnOk P w K mg base CX0 (k + 1) f fd ["script"] (sp K mg 1 (den_law d__law_start d__law_core_of d__law_one_of d__law_draw d__law_parameters d__law_same d__law_due d__law_told)) :=
  have sc := sc_law
  fn_mp (N := ["script", "state", "core", "turn", "p", "name", "factor", "parameters", "ints", "one", "kind", "due", "x", "q"]) (r := r_law d__law_start d__law_core_of d__law_one_of d__law_draw d__law_parameters d__law_same d__law_due d__law_told) F sc_law rfl fun cdv A outer s H E hr =>
  have hu := hr.units
  have hu1 := units1 hr
  (mss_cons (ms_set (i := 1) sc.nd rfl (by first | exact Or.inl rfl | exact Or.inr rfl) (me_new (mf_callF T__law_start F__law_start hr rfl (ma_cons (me_var (pv 0)) ma_nil) rfl)))
  (mss_cons (ms_set (i := 2) sc.nd rfl (by first | exact Or.inl rfl | exact Or.inr rfl) (me_callF T__law_core_of F__law_core_of hr rfl (ma_cons (me_var (pv 1)) ma_nil) rfl))
  (mss_cons (ms_for (fg := [3, 4, 5, 6, 7, 8, 9]) PassesOwn.never rfl (mi_range1 rfl z_range (ma_cons me_int ma_nil)) (mg_of (pg_name (i := 3) sc.nd rfl (by first | exact Or.inl rfl | exact Or.inr rfl)))
  (mss_cons (ms_set (i := 4) sc.nd rfl (by first | exact Or.inl rfl | exact Or.inr rfl) (me_callF T__law_one_of F__law_one_of hr rfl (ma_cons (me_var (pv 1)) (ma_cons (me_var (pv 2)) ma_nil)) rfl))
  (mss_cons (ms_if (mt_cmp (op_eqM hu) opm_eq (me_callF T__law_draw F__law_draw hr rfl (ma_cons (me_var (pv 1)) (ma_cons me_int ma_nil)) rfl) me_int (by first | exact nomark _ | rfl))
  (mss_cons (ms_set (i := 4) sc.nd rfl (by first | exact Or.inl rfl | exact Or.inr rfl) (me_bin op_addM opm_add (me_bin op_addM opm_add (me_slice (me_var (pv 4)) mo_none (mo_some me_int)) (me_tup (ma_cons (me_tup (ma_cons me_str ma_nil)) ma_nil))) (me_slice (me_var (pv 4)) (mo_some me_int) mo_none)))
  (mss_one (ms_set (i := 2) sc.nd rfl (by first | exact Or.inl rfl | exact Or.inr rfl) (me_callTy call_tuple_of callM_tuple rfl z_tuple (by decide +kernel) (ma_cons (me_fl (mf_comp rfl sc.nd (mi_seq (me_var (pv 2))) (own := [("q", 13)]) (blkOk_by (N := ["script", "state", "core", "turn", "p", "name", "factor", "parameters", "ints", "one", "kind", "due", "x", "q"]) (sc := defScope st_law) (by decide +kernel)) (by decide) (fun s H C cl fp => (mg_of (pg_name (i := 13) sc.nd rfl (by first | exact Or.inl rfl | exact Or.inr rfl)))) (fun s H C cl fp => mts_nil) (fun s H C cl fp => (me_ifExp (mt_cmp (op_eqM hu) opm_eq (me_ix (me_var (pv 13)) me_int) (me_ix (me_var (pv 4)) me_int) (by first | exact nomark _ | rfl)) (me_var (pv 4)) (me_var (pv 13)))))) ma_nil)))))
  mss_nil)
  (mss_cons (ms_set (i := 5) sc.nd rfl (by first | exact Or.inl rfl | exact Or.inr rfl) (me_ix (me_var (pv 4)) me_int))
  (mss_cons (ms_if (mt_cmp (op_eqM hu) opm_eq (me_callF T__law_draw F__law_draw hr rfl (ma_cons (me_var (pv 1)) (ma_cons me_int ma_nil)) rfl) me_int (by first | exact nomark _ | rfl))
  (mss_one (ms_set (i := 5) sc.nd rfl (by first | exact Or.inl rfl | exact Or.inr rfl) (me_callF T__law_one_of F__law_one_of hr rfl (ma_cons (me_var (pv 1)) (ma_cons (me_fl (mf_lst (ma_cons me_str (ma_cons (me_bin op_addM opm_add (me_ix (me_var (pv 4)) me_int) me_str) (ma_cons (me_bin op_addM opm_add me_str (me_ix (me_var (pv 4)) me_int)) (ma_cons (me_ix (me_ix (me_ix (me_var (pv 4)) me_int) me_int) me_int) ma_nil)))))) ma_nil)) rfl)))
  mss_nil)
  (mss_cons (ms_set (i := 6) sc.nd rfl (by first | exact Or.inl rfl | exact Or.inr rfl) (me_callF T__law_one_of F__law_one_of hr rfl (ma_cons (me_var (pv 1)) (ma_cons (me_fl (mf_lst (ma_cons me_int (ma_cons me_int (ma_cons (me_bin op_sub opm_sub (me_callF T__law_draw F__law_draw hr rfl (ma_cons (me_var (pv 1)) (ma_cons me_int ma_nil)) rfl) me_int) (ma_cons (me_bin op_mulM opm_mul (me_bin op_sub opm_sub (me_callF T__law_draw F__law_draw hr rfl (ma_cons (me_var (pv 1)) (ma_cons (me_bin op_pow opm_pow me_int me_int) ma_nil)) rfl) me_int) (me_bin op_pow opm_pow me_int me_int)) ma_nil)))))) ma_nil)) rfl))
  (mss_cons (ms_set (i := 7) sc.nd rfl (by first | exact Or.inl rfl | exact Or.inr rfl) (me_callF T__law_parameters F__law_parameters hr rfl (ma_cons (me_var (pv 1)) (ma_cons (me_var (pv 4)) ma_nil)) rfl))
  (mss_cons (ms_if (mt_not (mt_val (me_callF T__law_same F__law_same hr rfl (ma_cons (me_callF T__law_told F__law_told hr rfl (ma_cons (me_var (pv 2)) (ma_cons (me_var (pv 5)) (ma_cons me_str (ma_cons (me_var (pv 7)) (ma_cons me_int ma_nil))))) rfl) (ma_cons (me_callF T__law_due F__law_due hr rfl (ma_cons (me_var (pv 2)) (ma_cons (me_var (pv 5)) (ma_cons me_str (ma_cons (me_var (pv 7)) (ma_cons me_int ma_nil))))) rfl) ma_nil)) rfl)))
  (mss_one (ms_ret me_bl))
  mss_nil)
  (mss_cons (ms_setC (i := 8) rfl sc.nd rfl rfl (sw_true rfl rfl (by decide +kernel) (by decide +kernel)) (mi_seq (me_ix (me_var (pv 4)) me_int)) (own := [("kind", 10), ("x", 12)]) (blkOk_by (N := ["script", "state", "core", "turn", "p", "name", "factor", "parameters", "ints", "one", "kind", "due", "x", "q"]) (sc := defScope st_law) (by decide +kernel)) (by decide) (fun s H C cl fp => (mg_tup rfl (mgs_cons (mg_of (pg_name (i := 10) sc.nd rfl (by first | exact Or.inl rfl | exact Or.inr rfl))) (mgs_cons (mg_of (pg_name (i := 12) sc.nd rfl (by first | exact Or.inl rfl | exact Or.inr rfl))) mgs_nil)))) (fun s H C cl fp => (mts_one (mt_cmp (op_eqM hu) opm_eq (me_var (pv 10)) me_str (by first | exact nomark _ | rfl)))) (fun s H C cl fp => (me_var (pv 12))) fl_go)
  (mss_cons (ms_set (i := 9) sc.nd rfl (by first | exact Or.inl rfl | exact Or.inr rfl) (me_slice (me_bin op_addM opm_add (me_bin op_addM opm_add (me_var (pv 7)) (me_callTy call_tuple_of callM_tuple rfl z_tuple (by decide +kernel) (ma_cons (me_var (pv 8)) ma_nil))) (me_tup (ma_cons me_str ma_nil))) mo_none (mo_some me_int)))
  (mss_one (ms_for (fg := [10, 11]) PassesOwn.never rfl (mi_seq (me_fl (mf_lst (ma_cons me_str (ma_cons me_str ma_nil))))) (mg_of (pg_name (i := 10) sc.nd rfl (by first | exact Or.inl rfl | exact Or.inr rfl)))
  (mss_cons (ms_set (i := 11) sc.nd rfl (by first | exact Or.inl rfl | exact Or.inr rfl) (me_callF T__law_due F__law_due hr rfl (ma_cons (me_var (pv 2)) (ma_cons (me_var (pv 5)) (ma_cons (me_var (pv 10)) (ma_cons (me_var (pv 9)) (ma_cons (me_var (pv 6)) ma_nil))))) rfl))
  (mss_one (ms_if (mt_not (mt_val (me_callF T__law_same F__law_same hr rfl (ma_cons (me_callF T__law_told F__law_told hr rfl (ma_cons (me_var (pv 2)) (ma_cons (me_var (pv 5)) (ma_cons (me_var (pv 10)) (ma_cons (me_var (pv 9)) (ma_cons (me_var (pv 6)) ma_nil))))) rfl) (ma_cons (me_var (pv 11)) ma_nil)) rfl)))
  (mss_one (ms_ret me_bl))
  mss_nil)))))))))))))))
  (mss_one (ms_ret me_bl)))))
end
end K06
namespace K06
open PySem L2 PyProof.Rows MP
theorem ixD_nat {xs : List D} {k : Nat} {t : D} {mu : List MO} (h : xs[k]? = some t) : ixD xs (k : Int) mu = .ok t mu := ixD_at (by
  have hk := (List.getElem?_eq_some_iff.mp h).1
  unfold atI ixN
  rw [if_pos (by omega), if_pos (by omega)]
  exact h)
/-! ### the drawn procedures -/
inductive Bs where
  | set (x : Str) | push (x : Str) | store (x : Str)
structure Pr where
  name : Str
  items : List (Bool × Str)
  results : List Str
  places : List (Bool × Str)
  body : List Bs
def numD (i : Int) : D := .tup [.str "number", .int i]
def bsD : Bs → D
  | .set x => .tup [.str "set", .tup [.tup [.str x, numD 2]]]
  | .push x => .tup [.str "push", numD 1, .str x]
  | .store x => .tup [.str "store", .str x, numD 0, numD 1]
def kindS (b : Bool) : Str := if b = true then "array" else "int"
def itemD (p : Bool × Str) : D := .tup [.str (kindS p.1), .str p.2]
def procD (p : Pr) : D := .tup [.str p.name, .tup (p.items.map itemD), .tup (p.results.map D.str), .tup (p.places.map itemD), .tup [], .tup [], .tup [], .tup [], .tup (p.body.map bsD)]
def coreD (ps : List Pr) : D := .tup (ps.map procD)
def bsK : Bs → Str
  | .set _ => "set"
  | .push _ => "push"
  | .store _ => "store"
@[simp] theorem ixD4 {a b c e x : D} {xs : List D} {mu : List MO} : ixD (a :: b :: c :: e :: x :: xs) 4 mu = .ok x mu := ixD_nat (k := 4) rfl
@[simp] theorem ixD5 {a b c e f x : D} {xs : List D} {mu : List MO} : ixD (a :: b :: c :: e :: f :: x :: xs) 5 mu = .ok x mu := ixD_nat (k := 5) rfl
@[simp] theorem ixD8 {a b c e f g h i x : D} {xs : List D} {mu : List MO} : ixD (a :: b :: c :: e :: f :: g :: h :: i :: x :: xs) 8 mu = .ok x mu := ixD_nat (k := 8) rfl
theorem proc_named_ok {ps : List Pr} {n : Str} {p : Pr} {mu : List MO} (h : ps.find? (fun q => q.name == n) = some p) : den_proc_named [coreD ps, .str n] mu = .ok (.vl (procD p)) mu := by
  refine noX_ok ?_
  have hl : loopC (asgN 2) (eB (eBin (gEq false) (eBin gIx (eVar 2) (eC (.int 0))) (eVar 1))) (eVar 2) [] (ps.map procD) [some (coreD ps), some (.str n), none] mu = .ok ((ps.filter fun q => q.name == n).map procD) mu := by
    refine loopC_filter' fun q hq => ⟨_, rfl, ?_, fun _ => ?_⟩
    · simp [procD, gEq_strs]
    · simp
  have e : ∃ r, ps.filter (fun q => q.name == n) = p :: r := by
    rw [← List.head?_filter] at h
    cases hf : ps.filter (fun q => q.name == n) with
    | nil => rw [hf] at h; cases h
    | cons q r => rw [hf] at h; cases h; exact ⟨r, rfl⟩
  obtain ⟨r, hr⟩ := e
  rw [hr] at hl
  have w : coreD ps = .tup (ps.map procD) := rfl
  rw [w] at hl
  simp [r_proc_named, startE, w, noX_ok hl]
theorem kind_arr {b : Bool} : (kindS b == Str.ofString "array") = b := by cases b <;> decide +kernel
theorem small_size {n : Nat} (h : n ≤ 10000) : n ≤ sizeLine := by rw [sizeLine_eq]; omega
theorem cutD_take {xs : List D} {k : Nat} : MP.cutD xs none (some (k : Int)) = xs.take k := by
  unfold MP.cutD
  rw [HT.sIx_none, HT.sIx_nat, List.drop_zero, Nat.sub_zero]
  by_cases h : k ≤ xs.length
  · rw [Nat.min_eq_left h]
  · rw [Nat.min_eq_right (by omega), List.take_length, List.take_of_length_le (by omega)]
theorem cutD_drop {xs : List D} {k : Nat} : MP.cutD xs (some (k : Int)) none = xs.drop k := by
  unfold MP.cutD
  rw [HT.sIx_nat, HT.sIx_none]
  by_cases h : k ≤ xs.length
  · rw [Nat.min_eq_left h]
    exact List.take_of_length_le (by rw [List.length_drop]; omega)
  · rw [Nat.min_eq_right (by omega), List.drop_eq_nil_of_le (Nat.le_refl _), List.drop_eq_nil_of_le (by omega)]
    simp
def bsW : Bs → Str
  | .set x => x
  | .push x => x
  | .store x => x
noncomputable def procBody : MP.Env → M Fl :=
  (sSeq (sSet 9 (eCall (lenD 2 den__law_draw) (aCons (eVar 0) (aCons (eC (.int 3)) aNil))))
  (eIf (bAnd (eB (eBin (gEq false) (eVar 7) (eC (.str "int")))) (eB (eBin (gEq false) (eVar 9) (eC (.int 0)))))
  (sSet 5 (eBin gAdd (eVar 5) (aThen gTup (aCons (aThen gTup (aCons (eC (.str "set")) (aCons (aThen gTup (aCons (aThen gTup (aCons (eVar 8) (aCons (aThen gTup (aCons (eC (.str "number")) (aCons (eC (.int 2)) aNil))) aNil))) aNil)) aNil))) aNil))))
  (eIf (bAnd (eB (eBin (gEq false) (eVar 7) (eC (.str "array")))) (eB (eBin (gEq false) (eVar 9) (eC (.int 0)))))
  (sSet 5 (eBin gAdd (eVar 5) (aThen gTup (aCons (aThen gTup (aCons (eC (.str "push")) (aCons (aThen gTup (aCons (eC (.str "number")) (aCons (eC (.int 1)) aNil))) (aCons (eVar 8) aNil)))) aNil))))
  (eIf (bAnd (eB (eBin (gEq false) (eVar 7) (eC (.str "array")))) (eB (eBin (gEq false) (eVar 9) (eC (.int 1)))))
  (sSet 5 (eBin gAdd (eVar 5) (aThen gTup (aCons (aThen gTup (aCons (eC (.str "store")) (aCons (eVar 8) (aCons (aThen gTup (aCons (eC (.str "number")) (aCons (eC (.int 0)) aNil))) (aCons (aThen gTup (aCons (eC (.str "number")) (aCons (eC (.int 1)) aNil))) aNil))))) aNil))))
  sNext))))
theorem kind_int {b : Bool} : (kindS b == Str.ofString "int") = !b := by cases b <;> decide +kernel
def envP (s : Nat) (a b c d e : D) (bs : List Bs) (o6 o7 o8 o9 : Option D) : MP.Env := [some (.ref s), some a, some b, some c, some d, some (.tup (bs.map bsD)), o6, o7, o8, o9]
theorem proc_step {s : Nat} {cs : List Int} {a b c d : D} {bs : List Bs} {it : Bool × Str} {mu : List MO} (A : At s cs mu) (hl : bs.length < 1000) : ∃ (nb : List Bs) (mu' : List MO) (i : Int), procBody [some (.ref s), some a, some b, some c, some d, some (.tup (bs.map bsD)), none, some (.str (kindS it.1)), some (.str it.2), none] mu = .ok (.nx [some (.ref s), some a, some b, some c, some d, some (.tup ((bs ++ nb).map bsD)), none, some (.str (kindS it.1)), some (.str it.2), some (.int i)]) mu' ∧ Nx s cs mu mu' ∧ nb.length ≤ 1 ∧ ∀ x ∈ nb, bsW x = it.2 := by
  obtain ⟨i, mu', e, n, h0, h1⟩ := draw_at (most := 3) A (by decide) (by decide)
  have s1 : (1 : Nat) ≤ sizeLine := by decide
  have s2 : (2 : Nat) ≤ sizeLine := by decide
  have s3 : (3 : Nat) ≤ sizeLine := by decide
  have s4 : (4 : Nat) ≤ sizeLine := by decide
  have hadd : ∀ x : D, gAdd (.tup (bs.map bsD)) (.tup [x]) mu' = .ok (.tup (bs.map bsD ++ [x])) mu' := fun x => gAdd_tup (small_size (by simp; omega))
  obtain ⟨B, hB⟩ : ∃ B, B = bs.map bsD := ⟨_, rfl⟩
  rw [← hB] at hadd
  have hi : i = 0 ∨ i = 1 ∨ i = 2 := by omega
  obtain ⟨k, w⟩ := it
  cases k <;> rcases hi with rfl | rfl | rfl
  · exact ⟨[.set w], mu', 0, by rw [List.map_append, ← hB]; simp [procBody, e, gEq_strs, kind_int, gEq_ints, gTup_ok, s1, s2, hadd, bsD, numD], n, by simp, by simp [bsW]⟩
  · exact ⟨[], mu', 1, by rw [List.append_nil, ← hB]; simp [procBody, e, gEq_strs, kind_int, kind_arr, gEq_ints], n, by simp, by simp⟩
  · exact ⟨[], mu', 2, by rw [List.append_nil, ← hB]; simp [procBody, e, gEq_strs, kind_int, kind_arr, gEq_ints], n, by simp, by simp⟩
  · exact ⟨[.push w], mu', 0, by rw [List.map_append, ← hB]; simp [procBody, e, gEq_strs, kind_int, kind_arr, gEq_ints, gTup_ok, s1, s2, s3, hadd, bsD, numD], n, by simp, by simp [bsW]⟩
  · exact ⟨[.store w], mu', 1, by rw [List.map_append, ← hB]; simp [procBody, e, gEq_strs, kind_int, kind_arr, gEq_ints, gTup_ok, s1, s2, s4, hadd, bsD, numD], n, by simp, by simp [bsW]⟩
  · exact ⟨[], mu', 2, by rw [List.append_nil, ← hB]; simp [procBody, e, gEq_strs, kind_int, kind_arr, gEq_ints], n, by simp, by simp⟩
theorem proc_loop {s : Nat} {cs : List Int} {a b c d : D} : ∀ (its : List (Bool × Str)) (bs : List Bs) (mu : List MO) (o7 o8 o9 : Option D), At s cs mu → bs.length + its.length < 1000 → ∃ (nb : List Bs) (mu' : List MO),
    loopF (asgT 2 (asgCons (asgN 7) (asgCons (asgN 8) asgNil))) procBody [7, 8, 9] [] (its.map itemD) [some (.ref s), some a, some b, some c, some d, some (.tup (bs.map bsD)), none, o7, o8, o9] mu = .ok (.nx [some (.ref s), some a, some b, some c, some d, some (.tup ((bs ++ nb).map bsD)), none, none, none, none]) mu' ∧ Nx s cs mu mu' ∧ nb.length ≤ its.length ∧ ∀ x ∈ nb, ∃ it ∈ its, bsW x = it.2
  | [], bs, mu, o7, o8, o9, A, _ => ⟨[], mu, by
    show loopF _ _ _ [] [] _ _ = _
    rw [loopF_nil, List.append_nil]; rfl, .refl A, by simp, by simp⟩
  | it :: its, bs, mu, o7, o8, o9, A, hl => by
    obtain ⟨nb, mu1, i, h1, n1, l1, w1⟩ := proc_step (a := a) (b := b) (c := c) (d := d) (bs := bs) (it := it) A (by omega)
    obtain ⟨nb', mu2, h2, n2, l2, w2⟩ := proc_loop (a := a) (b := b) (c := c) (d := d) its (bs ++ nb) mu1 (some (.str (kindS it.1))) (some (.str it.2)) (some (.int i)) (n1.at_ A) (by rw [List.length_append]; rw [List.length_cons] at hl; omega)
    refine ⟨nb ++ nb', mu2, ?_, n1.trans n2, by rw [List.length_append, List.length_cons]; omega, fun x hx => ?_⟩
    · rw [List.map_cons, loopF_cons]
      rw [List.append_assoc] at h2
      obtain ⟨B, hB⟩ : ∃ B, B = bs.map bsD := ⟨_, rfl⟩
      obtain ⟨B', hB'⟩ : ∃ B, B = (bs ++ nb).map bsD := ⟨_, rfl⟩
      rw [← hB] at h1 ⊢
      rw [← hB'] at h1 h2
      simp [itemD, h1, h2]
    · rcases List.mem_append.mp hx with z | z
      · exact ⟨it, by simp, w1 x z⟩
      · obtain ⟨j, hj, e⟩ := w2 x z
        exact ⟨j, by simp [hj], e⟩
def unItem : D → Bool × Str
  | .tup [.str k, .str w] => (k == "array", w)
  | _ => (false, Str.empty)
theorem unItem_item (it : Bool × Str) : unItem (itemD it) = it := by
  obtain ⟨k, w⟩ := it
  show (kindS k == Str.ofString "array", w) = (k, w)
  rw [kind_arr]
theorem perm_items {ys : List D} {its : List (Bool × Str)} (h : ys.Perm (its.map itemD)) : ∃ js : List (Bool × Str), ys = js.map itemD ∧ js.Perm its := by
  refine ⟨ys.map unItem, ?_, ?_⟩
  · rw [List.map_map]
    conv => lhs; rw [← List.map_id ys]
    apply List.map_congr_left
    intro y hy
    obtain ⟨it, _, e⟩ := List.mem_map.mp (h.mem_iff.mp hy)
    subst e
    show itemD it = itemD (unItem (itemD it))
    rw [unItem_item]
  · have p := h.map unItem
    rw [List.map_map] at p
    have e : its.map (unItem ∘ itemD) = its := by
      conv => rhs; rw [← List.map_id its]
      apply List.map_congr_left
      intro it _
      exact unItem_item it
    rw [e] at p
    exact p
def its0 (ws : List Str) : List (Bool × Str) := [(false, ws.getD 0 Str.empty), (false, ws.getD 1 Str.empty), (true, ws.getD 2 Str.empty), (true, ws.getD 3 Str.empty)]
def ress : List (List Str) := [[], ["result"], ["result.x", "result.y"]]
structure Drawn (nm : Str) (ws : List Str) (p : Pr) : Prop where
  name : p.name = nm
  items : ∃ (js : List (Bool × Str)) (i : Nat), js.Perm (its0 ws) ∧ i < 4 ∧ p.items = js.drop i
  results : p.results ∈ ress
  places : p.places = [(false, ws.getD 4 Str.empty), (true, ws.getD 5 Str.empty)]
  body : p.body.length ≤ 4 ∧ ∀ b ∈ p.body, ∃ it ∈ p.items, bsW b = it.2
theorem gSl_fl {xs : List D} {k : Nat} {mu : List MO} : gSl (.fl xs) (some (k : Int)) none mu = .ok (.fl (xs.drop k)) mu := by
  have e : gSl (.fl xs) (some (k : Int)) none mu = .ok (.fl (MP.cutD xs (some (k : Int)) none)) mu := rfl
  rw [e, cutD_drop]
theorem proc_of_ok {s : Nat} {cs : List Int} {nm : Str} {ws : List Str} {mu : List MO} (A : At s cs mu) (hw : ws.length = 6) : ∃ (p : Pr) (mu' : List MO), den__law_proc_of shufD den__law_draw [.ref s, .str nm, .fl (ws.map D.str)] mu = .ok (.vl (procD p)) mu' ∧ Nx s cs mu mu' ∧ Drawn nm ws p := by
  match ws, hw with
  | [w0, w1, w2, w3, w4, w5], _ =>
  obtain ⟨ys, m1, e1, n1, p1⟩ := shufD_ok (d := .fl ((its0 [w0, w1, w2, w3, w4, w5]).map itemD)) A rfl (by simp [its0]) (flats_clo _ rfl)
  obtain ⟨js, rfl, pj⟩ := perm_items p1
  obtain ⟨i, m2, e2, n2', i0, i4⟩ := draw_at (most := 4) (n1.at_ A) (by decide) (by decide)
  have n2 := n1.trans n2'
  obtain ⟨i, rfl⟩ := Int.eq_ofNat_of_zero_le i0
  obtain ⟨r, m3, e3, n3', r0, r3⟩ := draw_at (most := 3) (n2.at_ A) (by decide) (by decide)
  have n3 := n2.trans n3'
  have s0 : (0 : Nat) ≤ sizeLine := by decide
  have s1 : (1 : Nat) ≤ sizeLine := by decide
  have s2 : (2 : Nat) ≤ sizeLine := by decide
  have s3 : (3 : Nat) ≤ sizeLine := by decide
  have s4 : (4 : Nat) ≤ sizeLine := by decide
  have s9 : (9 : Nat) ≤ sizeLine := by decide
  have hlen : js.length = 4 := by rw [pj.length_eq]; rfl
  have hi : gSl (.fl (js.map itemD)) (some (i : Int)) none m2 = .ok (.fl ((js.drop i).map itemD)) m2 := by rw [gSl_fl, List.map_drop]
  obtain ⟨rs, hrs, hrm⟩ : ∃ rs : List Str, (∀ mu, ixD [.tup [], .tup [.str "result"], .tup [.str "result.x", .str "result.y"]] r mu = .ok (.tup (rs.map D.str)) mu) ∧ rs ∈ ress := by
    have hr : r = 0 ∨ r = 1 ∨ r = 2 := by omega
    rcases hr with rfl | rfl | rfl
    · exact ⟨[], fun _ => by simp, by simp [ress]⟩
    · exact ⟨["result"], fun _ => by simp, by simp [ress]⟩
    · exact ⟨["result.x", "result.y"], fun _ => by simp, by simp [ress]⟩
  obtain ⟨nb, m4, e4, n4', l4, w4'⟩ := proc_loop (s := s) (cs := cs) (a := .str nm) (b := .fl ([w0, w1, w2, w3, w4, w5].map D.str)) (c := .fl ((js.drop i).map itemD)) (d := .tup (rs.map D.str)) (js.drop i) [] m3 none none none (n3.at_ A) (by rw [List.length_drop]; simp; omega)
  refine ⟨⟨nm, js.drop i, rs, [(false, w4), (true, w5)], nb⟩, m4, ?_, n3.trans n4', rfl, ⟨js, i, pj, by omega, rfl⟩, hrm, rfl, ?_, w4'⟩
  · refine noX_ok ?_
    have hit : D.fl ((its0 [w0, w1, w2, w3, w4, w5]).map itemD) = .fl [.tup [.str "int", .str w0], .tup [.str "int", .str w1], .tup [.str "array", .str w2], .tup [.str "array", .str w3]] := rfl
    rw [hit] at e1
    unfold procBody at e4
    rw [List.nil_append, List.map_nil] at e4
    obtain ⟨JD, hJD⟩ : ∃ J, J = (js.drop i).map itemD := ⟨_, rfl⟩
    obtain ⟨RD, hRD⟩ : ∃ J, J = rs.map D.str := ⟨_, rfl⟩
    obtain ⟨ND, hND⟩ : ∃ J, J = nb.map bsD := ⟨_, rfl⟩
    have hp : procD ⟨nm, js.drop i, rs, [(false, w4), (true, w5)], nb⟩ = .tup [.str nm, .tup JD, .tup RD, .tup [.tup [.str "int", .str w4], .tup [.str "array", .str w5]], .tup [], .tup [], .tup [], .tup [], .tup ND] := by
      rw [hJD, hRD, hND]; rfl
    rw [hp]
    rw [← hJD] at hi e4
    rw [← hRD] at hrs e4
    rw [← hND] at e4
    simp only [List.map_cons, List.map_nil] at e4
    simp [r__law_proc_of, startE, gTup_ok, s0, s1, s2, s3, s4, s9, e1, e2, hi, e3, hrs, e4]
  · rw [List.length_drop] at l4; show nb.length ≤ 4; omega
theorem strsOf_map : ∀ (ws : List Str), strsOf (ws.map D.str) = some ws
  | [] => rfl
  | w :: ws => by
    show (strsOf (ws.map D.str)).map (w :: ·) = _
    rw [strsOf_map ws]; rfl
theorem srtD_strs {ws : List Str} {mu : List MO} (h0 : 0 < ws.length) (h : ws.length < 64) : srtD (ws.map D.str) mu = .ok ((srtS ws).map D.str) mu := by
  unfold srtD
  rw [bind_ap, need_ap, if_pos (by rw [List.length_map]; exact h), strsOf_map]
  match ws, h0 with
  | w :: ws, _ => rfl
structure GoodP (p : Pr) : Prop where
  drawn : ∃ ws : List Str, Drawn p.name ws p ∧ ws.length = 6 ∧ ws.Nodup ∧ ∀ w ∈ ws, GoodW w
noncomputable abbrev dWords : List D → M Rv := den__law_words den__law_draw
noncomputable abbrev dProcOf : List D → M Rv := den__law_proc_of shufD den__law_draw
theorem core_loop {s : Nat} {cs : List Int} {nd : D} : ∀ (ns : List Str) (mu : List MO), At s cs mu → ∃ (ps : List Pr) (mu' : List MO),
    loopC (asgN 2) tYesM (eCall (lenD 3 dProcOf) (aCons (eVar 0) (aCons (eVar 2) (aCons (eCall (lenD 2 dWords) (aCons (eVar 0) (aCons (eC (.int 6)) aNil))) aNil)))) [] (ns.map D.str) [some (.ref s), some nd, none] mu = .ok (ps.map procD) mu' ∧ Nx s cs mu mu' ∧ ps.map (·.name) = ns ∧ ∀ p ∈ ps, GoodP p
  | [], mu, A => ⟨[], mu, loopC_nil, .refl A, rfl, by simp⟩
  | nm :: ns, mu, A => by
    obtain ⟨ws, m1, e1, n1, hl, hnd, hg⟩ := words_ok (n := 6) A (by decide)
    obtain ⟨p, m2, e2, n2, hd⟩ := proc_of_ok (nm := nm) (n1.at_ A) hl
    obtain ⟨ps, m3, e3, n3, hn, hp⟩ := core_loop (s := s) (cs := cs) (nd := nd) ns m2 (n2.at_ (n1.at_ A))
    have e1 : dWords [.ref s, .int 6] mu = .ok (.fr (ws.map D.str)) m1 := e1
    refine ⟨p :: ps, m3, loopC_yes (mu1 := mu) (mu2 := m2) (env1 := [some (.ref s), some nd, some (.str nm)]) rfl rfl ?_ e3, (n1.trans n2).trans n3, by rw [List.map_cons, hd.name, hn], fun q hq => ?_⟩
    · simp [e1, e2]
    · rcases List.mem_cons.mp hq with e | e
      · rw [e]
        exact ⟨ws, by rw [hd.name]; exact hd, hl, hnd, hg⟩
      · exact hp q e
theorem core_of_ok {s : Nat} {cs : List Int} {mu : List MO} (A : At s cs mu) : ∃ (ps : List Pr) (mu' : List MO), den__law_core_of dWords den__law_draw dProcOf [.ref s] mu = .ok (.vl (coreD ps)) mu' ∧ Nx s cs mu mu' ∧ (ps.map (·.name)).Nodup ∧ (∀ n ∈ ps.map (·.name), GoodW n) ∧ 1 ≤ ps.length ∧ ps.length ≤ 3 ∧ ∀ p ∈ ps, GoodP p := by
  obtain ⟨d, m1, e1, n1, d0, d3⟩ := draw_at (most := 3) A (by decide) (by decide)
  obtain ⟨d, rfl⟩ := Int.eq_ofNat_of_zero_le d0
  obtain ⟨ws, m2, e2, n2, hl, hnd, hg⟩ := words_ok (n := 1 + d) (n1.at_ A) (by omega)
  have e2 : dWords [.ref s, .int (1 + (d : Int))] m1 = .ok (.fr (ws.map D.str)) m2 := by
    have e : ((1 + d : Nat) : Int) = 1 + (d : Int) := by omega
    rw [e] at e2; exact e2
  have hs := srtD_strs (ws := ws) (mu := m2) (by omega) (by omega)
  obtain ⟨ps, m3, e3, n3, hn, hp⟩ := core_loop (s := s) (cs := cs) (nd := .fl ((srtS ws).map D.str)) (srtS ws) m2 (n2.at_ (n1.at_ A))
  have hpl : ps.length = 1 + d := by
    have := congrArg List.length hn
    rw [List.length_map, srtS_len, hl] at this
    exact this
  refine ⟨ps, m3, ?_, (n1.trans n2).trans n3, ?_, ?_, by omega, by omega, hp⟩
  · obtain ⟨SN, hSN⟩ : ∃ S, S = (srtS ws).map D.str := ⟨_, rfl⟩
    rw [← hSN] at hs e3
    have w : coreD ps = .tup (ps.map procD) := rfl
    rw [w]
    refine noX_ok ?_
    simp [r__law_core_of, startE, e1, e2, hs, noX_ok e3]
  · rw [hn]
    exact (List.mergeSort_perm ws leS).nodup_iff.mpr hnd
  · rw [hn]
    exact fun n hn' => hg n (srtS_mem.mp hn')
theorem its0_mem {ws : List Str} (hl : ws.length = 6) : ∀ it ∈ its0 ws, it.2 ∈ ws := by
  match ws, hl with
  | [w0, w1, w2, w3, w4, w5], _ =>
    intro it h
    simp [its0] at h
    rcases h with rfl | rfl | rfl | rfl <;> simp
theorem GoodP.word {p : Pr} (h : GoodP p) : ∀ it ∈ p.items, GoodW it.2 := fun it hit => by
  obtain ⟨ws, hd, hl, _, hg⟩ := h.drawn
  obtain ⟨js, i, hp, _, e⟩ := hd.items
  rw [e] at hit
  exact hg _ (its0_mem hl it (hp.mem_iff.mp (List.mem_of_mem_drop hit)))
theorem GoodP.four {p : Pr} (h : GoodP p) : 1 ≤ p.items.length ∧ p.items.length ≤ 4 := by
  obtain ⟨ws, hd, hl, _, hg⟩ := h.drawn
  obtain ⟨js, i, hp, hi, e⟩ := hd.items
  have : js.length = 4 := by rw [hp.length_eq]; rfl
  rw [e, List.length_drop]; omega
theorem ress_ok : ∀ rs ∈ ress, rs.length ≤ 2 ∧ ∀ r ∈ rs, r.length ≤ 8 := by decide +kernel
end K06
namespace MP
open PySem L2 PyProof.Rows
@[simp] theorem sRaise_ap {x : Xn} {env : Env} : sRaise x env = raise x := rfl
@[simp] theorem sRaiseI_ap {x txt : Str} {rs : Env → M (List D)} {env : Env} : sRaiseI x txt rs env = (rs env >>= iniD x txt) := rfl
theorem iniD_ok {x txt y : Str} {mu : List MO} (h : txt.length + y.length ≤ sizeLine) : iniD x txt [.str y] mu = .exc ⟨x, [(("name" : Str), .str y)]⟩ mu := by
  show (if txt.length + y.length ≤ sizeLine then raise ⟨x, [(("name" : Str), .str y)]⟩ else bad : M Fl) mu = _
  rw [if_pos h]
  rfl
@[simp] theorem sTry_ap {fg : List Nat} {rb : Env → Env → M Fl} {hs : List Hd} {env : Env} {mu : List MO} : sTry fg rb hs env mu = tryR hs (wipeE env fg) (rb (wipeE env fg) env mu) := rfl
@[simp] theorem tryR_ok {hs : List Hd} {h : Env} {fl : Fl} {mu : List MO} : tryR hs h (.ok fl mu) = .ok fl mu := rfl
@[simp] theorem tryR_exc {hs : List Hd} {h : Env} {x : Xn} {mu : List MO} : tryR hs h (.exc x mu) = pickH hs x h mu := rfl
theorem pick_yes {t : XTab} {r : Xn → Env → M Fl} {l : List Hd} {x : Xn} {h : Env} {mu : List MO} (e : t x.cls = some true) : pickH ((t, r) :: l) x h mu = noX (r x h) mu := by
  unfold pickH
  rw [e]
theorem pick_no {t : XTab} {r : Xn → Env → M Fl} {l : List Hd} {x : Xn} {h : Env} {mu : List MO} (e : t x.cls = some false) : pickH ((t, r) :: l) x h mu = pickH l x h mu := by
  rw [pickH, e]
/-- the form's pairs are told by the sums -/
theorem canon_congr {ps qs : List (Str × Int)} (h : ∀ s, valOf ps s = valOf qs s) : canon ps = canon qs := by
  have hv : valOf ps = valOf qs := funext h
  unfold canon
  rw [hv]
  congr 1
  have key : ∀ rs : List (Str × Int), ∀ s, valOf rs s ≠ 0 → s ∈ nms rs := fun rs s hs => by
    rw [(nms_spec rs).2.2]
    by_cases hm : s ∈ rs.map (·.1)
    · exact hm
    · refine absurd ?_ hs
      rw [valOf_eq]
      have : rs.filter (fun p => p.1 == s) = [] := by
        rw [List.filter_eq_nil_iff]
        intro p hp e
        exact hm (List.mem_map.mpr ⟨p, hp, eq_of_beq e⟩)
      rw [this]; rfl
  have srt : ∀ rs : List (Str × Int), ((srtS (nms rs)).filter fun s => !(valOf qs s == 0)).Pairwise fun a b => leS a b = true := fun rs =>
    (List.pairwise_mergeSort leS_trans leS_total _).sublist List.filter_sublist
  have nd : ∀ rs : List (Str × Int), ((srtS (nms rs)).filter fun s => !(valOf qs s == 0)).Nodup := fun rs =>
    ((List.mergeSort_perm _ leS).nodup_iff.mpr (nms_spec rs).2.1).sublist List.filter_sublist
  refine List.Perm.eq_of_pairwise (le := fun a b => leS a b = true) (fun a b _ _ x y => leS_anti x y) (srt ps) (srt qs) ?_
  refine (List.perm_ext_iff_of_nodup (nd ps) (nd qs)).mpr fun s => ?_
  rw [List.mem_filter, List.mem_filter, srtS_mem, srtS_mem]
  constructor
  · rintro ⟨_, hz⟩
    exact ⟨key qs s (by simpa using hz), hz⟩
  · rintro ⟨_, hz⟩
    exact ⟨key ps s (by rw [hv]; simpa using hz), hz⟩
theorem perm_sum {l l' : List Int} (h : l.Perm l') : l.sum = l'.sum := by
  induction h with
  | nil => rfl
  | cons x _ ih => simp [ih]
  | swap x y l => simp only [List.sum_cons]; omega
  | trans _ _ a b => exact a.trans b
theorem valOf_perm {ps qs : List (Str × Int)} (h : ps.Perm qs) (s : Str) : valOf ps s = valOf qs s := by
  rw [valOf_eq, valOf_eq]
  exact perm_sum (List.Perm.map _ (h.filter _))
theorem valOf_app {ps qs : List (Str × Int)} (s : Str) : valOf (ps ++ qs) s = valOf ps s + valOf qs s := by
  rw [valOf_eq, valOf_eq, valOf_eq, List.filter_append, List.map_append, List.sum_append]
theorem valOf_mul {ps : List (Str × Int)} (k : Int) (s : Str) : valOf (ps.map fun p => (p.1, k * p.2)) s = k * valOf ps s := by
  rw [valOf_eq, valOf_eq]
  induction ps with
  | nil => simp
  | cons p r ih =>
    rw [List.map_cons]
    by_cases e : (p.1 == s) = true
    · rw [List.filter_cons_of_pos (by exact e), List.filter_cons_of_pos (by exact e), List.map_cons, List.map_cons, List.sum_cons, List.sum_cons, ih, Int.mul_add]
    · rw [List.filter_cons_of_neg (by exact e), List.filter_cons_of_neg (by exact e), ih]
theorem valOf_canon {ps : List (Str × Int)} (s : Str) : valOf (canon ps) s = valOf ps s := by
  have hnd : ((canon ps).map (·.1)).Nodup := by
    unfold canon
    rw [List.map_map]
    have : ((fun p : Str × Int => p.1) ∘ fun s => (s, valOf ps s)) = id := rfl
    rw [this, List.map_id]
    exact ((List.mergeSort_perm _ leS).nodup_iff.mpr (nms_spec ps).2.1).sublist List.filter_sublist
  have one : ∀ (l : List Str) (f : Str → Int), l.Nodup → (((l.map fun s => (s, f s)).filter fun p => p.1 == s).map (·.2)).sum = if s ∈ l then f s else 0 := fun l f hl => by
    induction l with
    | nil => rfl
    | cons x r ih =>
      rw [List.nodup_cons] at hl
      rw [List.map_cons]
      by_cases e : x = s
      · subst e
        rw [List.filter_cons_of_pos (by simp), List.map_cons, List.sum_cons, ih hl.2, if_neg hl.1, if_pos (by simp)]
        simp
      · rw [List.filter_cons_of_neg (by simpa using e), ih hl.2]
        by_cases m : s ∈ r
        · rw [if_pos m, if_pos (by simp [m])]
        · rw [if_neg m, if_neg (by simp [m, Ne.symm e])]
  rw [valOf_eq]
  unfold canon
  have hl : ((srtS (nms ps)).filter fun s => !(valOf ps s == 0)).Nodup := ((List.mergeSort_perm _ leS).nodup_iff.mpr (nms_spec ps).2.1).sublist List.filter_sublist
  rw [one _ _ hl]
  by_cases m : s ∈ (srtS (nms ps)).filter fun s => !(valOf ps s == 0)
  · rw [if_pos m]
  · rw [if_neg m]
    rw [List.mem_filter, srtS_mem, (nms_spec ps).2.2] at m
    by_cases z : valOf ps s = 0
    · exact z.symm
    · have hm : s ∉ ps.map (·.1) := fun h => m ⟨h, by simpa using z⟩
      rw [valOf_eq]
      have : ps.filter (fun p => p.1 == s) = [] := by
        rw [List.filter_eq_nil_iff]
        intro p hp e
        exact hm (List.mem_map.mpr ⟨p, hp, eq_of_beq e⟩)
      rw [this]; rfl
end MP
namespace K06
open PySem L2 PyProof.Rows MP
/-! ### the arithmetic of forms -/
def fD (c : Int) (ps : List (Str × Int)) : D := .tup [.int c, .tup (ps.map MP.pairD)]
theorem formD_fD {c : Int} {ps : List (Str × Int)} : formD (.int c) ps = fD c (canon ps) := rfl
def vD (a : Str) : D := fD 0 [(a, 1)]
def scl (k : Int) (ps : List (Str × Int)) : List (Str × Int) := ps.map fun p => (p.1, k * p.2)
theorem variable_ok {a : Str} {mu : List MO} : den_variable [.str a] mu = .ok (.vl (vD a)) mu := by
  have s1 : (1 : Nat) ≤ sizeLine := by decide
  have s2 : (2 : Nat) ≤ sizeLine := by decide
  refine noX_ok ?_
  simp [r_variable, startE, gTup_ok, s1, s2, vD, fD, MP.pairD]
theorem form_mid {c : Int} {d : D} {ps : List (Str × Int)} {mu : List MO} (h : seqOf d = some (ps.map MP.pairD)) (hl : ps.length < 64) : pureD formF [.int c, d] mu = .ok (.vl (fD c (canon ps))) mu := by
  unfold pureD
  rw [formF_ok h hl]
  rfl
noncomputable abbrev dPlus : List D → M Rv := den_plus (pureD formF)
noncomputable abbrev dMinus : List D → M Rv := den_minus dPlus den_times
noncomputable abbrev dBoth : List D → M Rv := den_both_ways dMinus
theorem plus_ok {c d : Int} {ps qs : List (Str × Int)} {mu : List MO} (hq : qs ≠ []) (hl : ps.length + qs.length < 64) : dPlus [fD c ps, fD d qs] mu = .ok (.vl (fD (c + d) (canon (ps ++ qs)))) mu := by
  have hf : ∀ mu, pureD formF [.int (c + d), .tup (ps.map MP.pairD ++ qs.map MP.pairD)] mu = .ok (.vl (fD (c + d) (canon (ps ++ qs)))) mu := fun mu => form_mid (by rw [List.map_append]; rfl) (by rw [List.length_append]; exact hl)
  have ha := gAdd_tup (xs := ps.map MP.pairD) (ys := qs.map MP.pairD) (mu := mu) (small_size (by simp; omega))
  match qs, hq with
  | q :: r, _ =>
    rw [List.map_cons] at ha hf
    refine noX_ok ?_
    rw [show fD d (q :: r) = .tup [.int d, .tup (MP.pairD q :: r.map MP.pairD)] from rfl, show fD c ps = .tup [.int c, .tup (ps.map MP.pairD)] from rfl]
    generalize ps.map MP.pairD = A at *
    generalize r.map MP.pairD = B at *
    generalize fD (c + d) (canon (ps ++ q :: r)) = R at *
    simp [r_plus, startE, ha, hf]
theorem plus_nil {c d : Int} {ps : List (Str × Int)} {mu : List MO} : dPlus [fD c ps, fD d []] mu = .ok (.vl (fD (c + d) ps)) mu := by
  have s2 : (2 : Nat) ≤ sizeLine := by decide
  refine noX_ok ?_
  simp [r_plus, startE, fD, gTup_ok, s2]
def small (i : Int) : Prop := -(2 ^ 64) < i ∧ i < 2 ^ 64
theorem gMul_small {i j : Int} {mu : List MO} (h : small j) : gMul (.int i) (.int j) mu = .ok (.int (i * j)) mu := by
  have hc : cMul i j := .inl (.inr h)
  show gII cMul _ _ _ _ = _
  simp [gII, hc]
theorem times_ok {k c : Int} {ps : List (Str × Int)} {mu : List MO} (hk : k ≠ 0) (hc : small c) (hp : ∀ p ∈ ps, small p.2) (hl : ps.length < 64) : den_times [.int k, fD c ps] mu = .ok (.vl (fD (k * c) (scl k ps))) mu := by
  have s2 : (2 : Nat) ≤ sizeLine := by decide
  have hk' : (k == 0) = false := by simpa using hk
  have hc' := gMul_small (i := k) (j := c) (mu := mu) hc
  have h3 : loopC (asgT 2 (asgCons (asgN 2) (asgCons (asgN 3) asgNil))) tYesM (aThen gTup (aCons (eVar 2) (aCons (eBin gMul (eVar 0) (eVar 3)) aNil))) [] (ps.map MP.pairD) [some (.int k), some (fD c ps), none, none] mu = .ok (ps.map fun p => MP.pairD (p.1, k * p.2)) mu := by
    refine loopC_map' fun p hp' => ⟨[some (.int k), some (fD c ps), some (.str p.1), some (.int p.2)], ?_, rfl, ?_⟩
    · simp [MP.pairD]
    · have := gMul_small (i := k) (j := p.2) (mu := mu) (hp p hp')
      simp [this, gTup_ok, s2, MP.pairD]
  have e : (scl k ps).map MP.pairD = ps.map fun p => MP.pairD (p.1, k * p.2) := by unfold scl; rw [List.map_map]; rfl
  refine noX_ok ?_
  rw [show fD (k * c) (scl k ps) = .tup [.int (k * c), .tup ((scl k ps).map MP.pairD)] from rfl, e]
  rw [show fD c ps = .tup [.int c, .tup (ps.map MP.pairD)] from rfl] at h3 ⊢
  generalize (ps.map fun p => MP.pairD (p.1, k * p.2)) = R at *
  generalize ps.map MP.pairD = A at *
  simp [r_times, startE, gEq_ints, hk', hk, hc', noX_ok h3, gTup_ok, s2]
theorem times_zero {c : Int} {ps : List (Str × Int)} {mu : List MO} : den_times [.int 0, fD c ps] mu = .ok (.vl (fD 0 [])) mu := by
  refine noX_ok ?_
  simp [r_times, startE, gEq_ints, fD]
theorem minus_ok {c d : Int} {ps qs : List (Str × Int)} {mu : List MO} (hd : small d) (hs : ∀ p ∈ qs, small p.2) (hq : qs ≠ []) (hl : ps.length + qs.length < 64) : dMinus [fD c ps, fD d qs] mu = .ok (.vl (fD (c + -1 * d) (canon (ps ++ scl (-1) qs)))) mu := by
  have h1 := times_ok (k := -1) (c := d) (ps := qs) (mu := mu) (by decide) hd hs (by omega)
  have h2 := plus_ok (c := c) (d := -1 * d) (ps := ps) (qs := scl (-1) qs) (mu := mu) (by unfold scl; simpa using hq) (by unfold scl; rw [List.length_map]; exact hl)
  refine noX_ok ?_
  generalize fD c ps = F at *
  generalize fD (-1 * d) (scl (-1) qs) = G' at *
  generalize fD d qs = G at *
  generalize fD (c + -1 * d) (canon (ps ++ scl (-1) qs)) = R at *
  have h2 : den_plus (pureD formF) [F, G'] mu = .ok (.vl R) mu := h2
  simp [r_minus, startE, gNeg, h1, h2]
/-- a - b -/
def mD (a b : Str) : D := fD 0 (canon [(a, 1), (b, -1)])
def dif (a b : Str) : List D := [mD a b, mD b a]
theorem minus_v {a b : Str} {mu : List MO} : dMinus [vD a, vD b] mu = .ok (.vl (mD a b)) mu := minus_ok (c := 0) (d := 0) (ps := [(a, 1)]) (qs := [(b, 1)]) (by unfold small; omega) (by intro p hp; rw [List.mem_singleton.mp hp]; unfold small; omega) (by simp) (by simp)
theorem both_ok {a b : Str} {mu : List MO} : dBoth [vD a, vD b] mu = .ok (.vl (.tup (dif a b))) mu := by
  have s2 : (2 : Nat) ≤ sizeLine := by decide
  have h1 := minus_v (a := a) (b := b) (mu := mu)
  have h2 := minus_v (a := b) (b := a) (mu := mu)
  refine noX_ok ?_
  unfold dif
  generalize mD a b = R1 at *
  generalize mD b a = R2 at *
  generalize vD a = A at *
  generalize vD b = B at *
  simp [r_both_ways, startE, h1, h2, gTup_ok, s2]
theorem law_dif_ok {a b : Str} {mu : List MO} : den__law_difference (pureD formF) [.str a, .str b] mu = .ok (.vl (.tup (dif a b))) mu := by
  have s2 : (2 : Nat) ≤ sizeLine := by decide
  have h1 := form_mid (c := 0) (d := .fl [.tup [.str a, .int 1], .tup [.str b, .int (-1)]]) (ps := [(a, 1), (b, -1)]) (mu := mu) rfl (by simp)
  have h2 := form_mid (c := 0) (d := .fl [.tup [.str b, .int 1], .tup [.str a, .int (-1)]]) (ps := [(b, 1), (a, -1)]) (mu := mu) rfl (by simp)
  refine noX_ok ?_
  unfold dif mD
  generalize fD 0 (canon [(a, 1), (b, -1)]) = R1 at *
  generalize fD 0 (canon [(b, 1), (a, -1)]) = R2 at *
  simp [r__law_difference, startE, gNeg, h1, h2, gTup_ok, s2]
end K06
namespace K06
open PySem L2 PyProof.Rows MP
/-! ### the program's claims -/
theorem gAdd_strs {x y z : Str} {mu : List MO} (e : x ++ y = z) (h : z.length ≤ 1000) : gAdd (.str x) (.str y) mu = .ok (.str z) mu := by
  have hl : x.length + y.length = z.length := by rw [← e, len_append]
  rw [gAdd_str, if_pos (by rw [hl, sizeLine_eq]; omega), e]
theorem lat_eq : (Str.ofString "l.") ++ (Str.ofString "@") = Str.ofString "l.@" := by decide +kernel
theorem rat_eq : (Str.ofString "r.") ++ (Str.ofString "@") = Str.ofString "r.@" := by decide +kernel
theorem ldd_eq : (Str.ofString "l.") ++ (Str.ofString ".") = Str.ofString "l.." := by decide +kernel
theorem rdd_eq : (Str.ofString "r.") ++ (Str.ofString ".") = Str.ofString "r.." := by decide +kernel
theorem lct_eq : (Str.ofString "l.") ++ (Str.ofString ".count") = Str.ofString "l..count" := by decide +kernel
theorem rct_eq : (Str.ofString "r.") ++ (Str.ofString ".count") = Str.ofString "r..count" := by decide +kernel
theorem three_len : (Str.ofString "l.@").length = 3 ∧ (Str.ofString "r.@").length = 3 ∧ (Str.ofString "l..").length = 3 ∧ (Str.ofString "r..").length = 3 := by decide +kernel
theorem lat {mu : List MO} : gAdd (.str "l.") (.str "@") mu = .ok (.str "l.@") mu := gAdd_strs lat_eq (by decide +kernel)
theorem rat {mu : List MO} : gAdd (.str "r.") (.str "@") mu = .ok (.str "r.@") mu := gAdd_strs rat_eq (by decide +kernel)
theorem ldd {mu : List MO} : gAdd (.str "l.") (.str ".") mu = .ok (.str "l..") mu := gAdd_strs ldd_eq (by decide +kernel)
theorem rdd {mu : List MO} : gAdd (.str "r.") (.str ".") mu = .ok (.str "r..") mu := gAdd_strs rdd_eq (by decide +kernel)
theorem lct {mu : List MO} : gAdd (.str "l.") (.str ".count") mu = .ok (.str "l..count") mu := gAdd_strs lct_eq (by decide +kernel)
theorem rct {mu : List MO} : gAdd (.str "r.") (.str ".count") mu = .ok (.str "r..count") mu := gAdd_strs rct_eq (by decide +kernel)
theorem lat2 {x : Str} {mu : List MO} (h : x.length ≤ 900) : gAdd (.str "l.@") (.str x) mu = .ok (.str ("l.@" ++ x)) mu := gAdd_strs rfl (by rw [len_append, three_len.1]; omega)
theorem rat2 {x : Str} {mu : List MO} (h : x.length ≤ 900) : gAdd (.str "r.@") (.str x) mu = .ok (.str ("r.@" ++ x)) mu := gAdd_strs rfl (by rw [len_append, three_len.2.1]; omega)
theorem ldd2 {x : Str} {mu : List MO} (h : x.length ≤ 900) : gAdd (.str "l..") (.str x) mu = .ok (.str ("l.." ++ x)) mu := gAdd_strs rfl (by rw [len_append, three_len.2.2.1]; omega)
theorem rdd2 {x : Str} {mu : List MO} (h : x.length ≤ 900) : gAdd (.str "r..") (.str x) mu = .ok (.str ("r.." ++ x)) mu := gAdd_strs rfl (by rw [len_append, three_len.2.2.2]; omega)
theorem append_last {mu1 : List MO} {xs : List D} {d : D} {n : Nat} (hn : n = mu1.length) (hz : xs.length < 1000) : gAppend (.ref n) [d] (mu1 ++ [.lst xs]) = .ok .non (mu1 ++ [.lst (xs ++ [d])]) := by
  rw [append_ok (get_last hn) (by rw [sizeLine_eq]; omega), set_last hn]
theorem extendT_ok {n : Nat} {xs ys : List D} {mu : List MO} (h : mu[n]? = some (.lst xs)) (hz : xs.length + ys.length < 1000) : gExtendT (.ref n) [.tup ys] mu = .ok .non (mu.set n (.lst (xs ++ ys))) :=
  modL_at h (by rw [if_pos (by rw [sizeLine_eq]; omega)])
theorem extend_last {mu1 : List MO} {xs ys : List D} {n : Nat} (hn : n = mu1.length) (hz : xs.length + ys.length < 1000) : gExtendT (.ref n) [.tup ys] (mu1 ++ [.lst xs]) = .ok .non (mu1 ++ [.lst (xs ++ ys)]) := by
  rw [extendT_ok (get_last hn) hz, set_last hn]
theorem get_first {mu1 : List MO} {x y : MO} {n : Nat} (hn : n = mu1.length) : (mu1 ++ [x, y])[n]? = some x := by subst hn; simp
theorem get_second {mu1 : List MO} {x y : MO} {n : Nat} (hn : n = mu1.length) : (mu1 ++ [x, y])[n + 1]? = some y := by subst hn; simp
theorem append_second {mu1 : List MO} {x : MO} {xs : List D} {d : D} {n : Nat} (hn : n = mu1.length) (hz : xs.length < 1000) : gAppend (.ref (n + 1)) [d] (mu1 ++ [x, .lst xs]) = .ok .non (mu1 ++ [x, .lst (xs ++ [d])]) := by
  rw [append_ok (get_second hn) (by rw [sizeLine_eq]; omega)]
  subst hn
  simp [List.set_append]
theorem extend_first {mu1 : List MO} {y : MO} {xs ys : List D} {n : Nat} (hn : n = mu1.length) (hz : xs.length + ys.length < 1000) : gExtendT (.ref n) [.tup ys] (mu1 ++ [.lst xs, y]) = .ok .non (mu1 ++ [.lst (xs ++ ys), y]) := by
  rw [extendT_ok (get_first hn) hz]
  subst hn
  simp [List.set_append]
/-- the procedure of a name -/
def findP (ps : List Pr) (n : Str) : Option Pr := ps.find? fun q => q.name == n
theorem unk_len : (Str.ofString "there is no definition of ").length = 26 := by decide +kernel
theorem any_find {ps : List Pr} {n : Str} : (ps.any fun q => q.name == n) = (findP ps n).isSome := by
  unfold findP
  induction ps with
  | nil => rfl
  | cons p r ih =>
    rw [List.any_cons, List.find?_cons]
    cases h : p.name == n with
    | true => rfl
    | false => rw [Bool.false_or, ih]
noncomputable abbrev dPoe : List D → M Rv := den_proc_or_error den_proc_named
theorem any_loop {ps : List Pr} {c nm : D} {n : Str} {mu : List MO} : loopC (asgN 2) tYesM (eBin (gEq false) (eBin gIx (eVar 2) (eC (.int 0))) (eVar 1)) [] (ps.map procD) [some c, some (.str n), none] mu = .ok (ps.map fun p => D.bl (p.name == n)) mu := by
  refine loopC_map' fun p hp => ⟨_, rfl, rfl, ?_⟩
  simp [procD, gEq_strs]
theorem poe_ok {ps : List Pr} {n : Str} {p : Pr} {mu : List MO} (h : findP ps n = some p) : dPoe [coreD ps, .str n] mu = .ok (.vl (procD p)) mu := by
  have h1 := any_loop (ps := ps) (c := coreD ps) (nm := .non) (n := n) (mu := mu)
  have h2 := proc_named_ok (ps := ps) (n := n) (p := p) (mu := mu) h
  have h3 : (ps.any fun q => q.name == n) = true := by rw [any_find, h]; rfl
  show runB 3 (r_proc_or_error den_proc_named) _ mu = _
  have w : coreD ps = .tup (ps.map procD) := rfl
  rw [w] at h1 h2 ⊢
  generalize procD p = PP at *
  have h4 := gAny_map (p := fun q : Pr => q.name == n) (mu := mu) ps
  rw [h3] at h4
  generalize (ps.map fun p => D.bl (p.name == n)) = BB at *
  generalize ps.map procD = CC at *
  simp [r_proc_or_error, startE, noX_ok h1, h4, h2]
theorem poe_no {ps : List Pr} {n : Str} {mu : List MO} (h : findP ps n = none) (hl : n.length ≤ 900) : dPoe [coreD ps, .str n] mu = .exc ⟨"UnknownName", [(("name" : Str), .str n)]⟩ mu := by
  have h1 := any_loop (ps := ps) (c := coreD ps) (nm := .non) (n := n) (mu := mu)
  have h3 : (ps.any fun q => q.name == n) = false := by rw [any_find, h]; rfl
  have h5 := iniD_ok (x := "UnknownName") (txt := "there is no definition of ") (y := n) (mu := mu) (by rw [unk_len, sizeLine_eq]; omega)
  show runB 3 (r_proc_or_error den_proc_named) _ mu = _
  have w : coreD ps = .tup (ps.map procD) := rfl
  rw [w] at h1 ⊢
  have h4 := gAny_map (p := fun q : Pr => q.name == n) (mu := mu) ps
  rw [h3] at h4
  generalize (ps.map fun p => D.bl (p.name == n)) = BB at *
  generalize ps.map procD = CC at *
  simp [r_proc_or_error, startE, noX_ok h1, h4, h5]
/-- the integer parameters -/
def intsP (p : Pr) : List Str := (p.items.filter fun it => !it.1).map (·.2)
noncomputable abbrev dInts : List D → M Rv := den_integers_of den_proc_named
theorem ints_ok {ps : List Pr} {n : Str} {p : Pr} {mu : List MO} (h : findP ps n = some p) : dInts [coreD ps, .str n] mu = .ok (.fr ((intsP p).map D.str)) mu := by
  have h2 := proc_named_ok (ps := ps) (n := n) (p := p) (mu := mu) h
  have h1 : loopC (asgN 2) (eB (eBin (gEq false) (eBin gIx (eVar 2) (eC (.int 0))) (eC (.str "int")))) (eBin gIx (eVar 2) (eC (.int 1))) [] (p.items.map itemD) [some (coreD ps), some (.str n), none] mu = .ok ((p.items.filter fun it => !it.1).map fun it => D.str it.2) mu := by
    refine loopC_filter' fun it hit => ⟨_, rfl, ?_, fun _ => ?_⟩
    · simp [itemD, gEq_strs, kind_int]
    · simp [itemD]
  have e : (intsP p).map D.str = (p.items.filter fun it => !it.1).map fun it => D.str it.2 := by unfold intsP; rw [List.map_map]; rfl
  rw [e]
  have hp : procD p = .tup [.str p.name, .tup (p.items.map itemD), .tup (p.results.map D.str), .tup (p.places.map itemD), .tup [], .tup [], .tup [], .tup [], .tup (p.body.map bsD)] := rfl
  rw [hp] at h2
  generalize ((p.items.filter fun it => !it.1).map fun it => D.str it.2) = R at *
  generalize coreD ps = CC at *
  generalize p.items.map itemD = II at *
  generalize p.results.map D.str = RR at *
  generalize p.places.map itemD = LL at *
  generalize p.body.map bsD = BB at *
  refine noX_ok ?_
  simp [r_integers_of, startE, h2, noX_ok h1]
/-- equal inputs: the givens, the pairs -/
def givI (ns : List Str) (it : Bool × Str) : List D := if it.1 = true then [] else if ns.contains it.2 = true then dif ("l.@" ++ it.2) ("r.@" ++ it.2) else []
def prD2 (x : Str) : D := .tup [.str x, .str x]
def prsL (its : List (Bool × Str)) : List D := (its.filter (·.1)).map fun it => prD2 it.2
noncomputable abbrev dEi : List D → M Rv := den_equal_inputs den_proc_named dBoth den_variable
noncomputable def eiBody : MP.Env → M Fl := (eIf (eB (eBin (gEq false) (eBin gIx (eVar 6) (eC (.int 0))) (eC (.str "array"))))
  (sExpr (eMeth lstK gAppend (eVar 5) (aCons (aThen gTup (aCons (eBin gIx (eVar 6) (eC (.int 1))) (aCons (eBin gIx (eVar 6) (eC (.int 1))) aNil))) aNil)))
  (eIf (eB (eBin (gIn false) (eBin gIx (eVar 6) (eC (.int 1))) (eVar 2)))
  (sExpr (eMeth lstK gExtendT (eVar 4) (aCons (eCall (lenD 2 dBoth) (aCons (eCall (lenD 1 den_variable) (aCons (eBin gAdd (eBin gAdd (eC (.str "l.")) (eC (.str "@"))) (eBin gIx (eVar 6) (eC (.int 1)))) aNil)) (aCons (eCall (lenD 1 den_variable) (aCons (eBin gAdd (eBin gAdd (eC (.str "r.")) (eC (.str "@"))) (eBin gIx (eVar 6) (eC (.int 1)))) aNil)) aNil))) aNil)))
  sNext))
theorem dif_len {a b : Str} : (dif a b).length = 2 := rfl
theorem ei_step {n : Nat} {c nm pr : D} {ns : List Str} {it : Bool × Str} {G Q : List D} {mu1 : List MO} (hn : n = mu1.length) (hG : G.length < 500) (hQ : Q.length < 500) (hw : it.2.length ≤ 900) :
    eiBody [some c, some nm, some (.fl (ns.map D.str)), some pr, some (.ref n), some (.ref (n + 1)), some (itemD it)] (mu1 ++ [.lst G, .lst Q]) = .ok (.nx [some c, some nm, some (.fl (ns.map D.str)), some pr, some (.ref n), some (.ref (n + 1)), some (itemD it)]) (mu1 ++ [.lst (G ++ givI ns it), .lst (Q ++ prsL [it])]) := by
  have s2 : (2 : Nat) ≤ sizeLine := by decide
  obtain ⟨k, w⟩ := it
  cases k with
  | true =>
    have e1 : givI ns (true, w) = [] := rfl
    have e2 : prsL [(true, w)] = [prD2 w] := rfl
    rw [e1, e2, List.append_nil]
    have ha := append_second (x := .lst G) (xs := Q) (d := prD2 w) hn (by omega)
    have hk := get_second (x := .lst G) (y := .lst Q) hn
    unfold prD2 at *
    generalize mu1 ++ [.lst G, .lst (Q ++ [.tup [.str w, .str w]])] = M2 at *
    generalize mu1 ++ [.lst G, .lst Q] = M1 at *
    simp [eiBody, itemD, gEq_strs, kind_arr, gTup_ok, s2, lstK_ref hk, ha]
  | false =>
    have e2 : prsL [(false, w)] = [] := rfl
    rw [e2, List.append_nil]
    have hi := gIn_names (neg := false) (z := w) (ns := ns) (d := .fl (ns.map D.str)) (mu := mu1 ++ [.lst G, .lst Q]) rfl (fun y e => by cases e)
    by_cases hc : ns.contains w = true
    · have e1 : givI ns (false, w) = dif ("l.@" ++ w) ("r.@" ++ w) := by unfold givI; rw [if_neg Bool.false_ne_true, if_pos hc]
      rw [e1]
      rw [hc] at hi
      have hx := extend_first (y := .lst Q) (xs := G) (ys := dif ("l.@" ++ w) ("r.@" ++ w)) hn (by rw [dif_len]; omega)
      have hk := get_first (x := .lst G) (y := .lst Q) hn
      have v1 := variable_ok (a := "l.@" ++ w) (mu := mu1 ++ [.lst G, .lst Q])
      have v2 := variable_ok (a := "r.@" ++ w) (mu := mu1 ++ [.lst G, .lst Q])
      have a1 := lat2 (x := w) (mu := mu1 ++ [.lst G, .lst Q]) hw
      have a2 := rat2 (x := w) (mu := mu1 ++ [.lst G, .lst Q]) hw
      have b1 := both_ok (a := "l.@" ++ w) (b := "r.@" ++ w) (mu := mu1 ++ [.lst G, .lst Q])
      generalize mu1 ++ [.lst (G ++ dif ("l.@" ++ w) ("r.@" ++ w)), .lst Q] = M2 at *
      generalize mu1 ++ [.lst G, .lst Q] = M1 at *
      generalize dif ("l.@" ++ w) ("r.@" ++ w) = DD at *
      generalize vD ("l.@" ++ w) = V1 at *
      generalize vD ("r.@" ++ w) = V2 at *
      generalize ("l.@" ++ w : Str) = S1 at *
      generalize ("r.@" ++ w : Str) = S2 at *
      generalize ns.map D.str = NN at *
      have l0 := lat (mu := M1)
      have r0 := rat (mu := M1)
      simp [-gAdd_str, eiBody, itemD, gEq_strs, kind_arr, hi, l0, r0, a1, a2, v1, v2, b1, lstK_ref hk, hx]
    · have hc' : ns.contains w = false := by simpa using hc
      have e1 : givI ns (false, w) = [] := by unfold givI; rw [if_neg Bool.false_ne_true, if_neg hc]
      rw [e1, List.append_nil]
      rw [hc'] at hi
      generalize ns.map D.str = NN at *
      simp [eiBody, itemD, gEq_strs, kind_arr, hi]
theorem ei_loop {n : Nat} {c nm pr : D} {ns : List Str} : ∀ (its : List (Bool × Str)) (G Q : List D) (mu1 : List MO) (o6 : Option D), n = mu1.length → G.length + 2 * its.length < 500 → Q.length + its.length < 500 → (∀ it ∈ its, it.2.length ≤ 900) →
    loopF (asgN 6) eiBody [6] [] (its.map itemD) [some c, some nm, some (.fl (ns.map D.str)), some pr, some (.ref n), some (.ref (n + 1)), o6] (mu1 ++ [.lst G, .lst Q]) = .ok (.nx [some c, some nm, some (.fl (ns.map D.str)), some pr, some (.ref n), some (.ref (n + 1)), none]) (mu1 ++ [.lst (G ++ its.flatMap (givI ns)), .lst (Q ++ prsL its)])
  | [], G, Q, mu1, o6, hn, _, _, _ => by
    show loopF _ _ _ [] [] _ _ = _
    rw [loopF_nil]
    simp [prsL, wipeE]
  | it :: its, G, Q, mu1, o6, hn, hG, hQ, hw => by
    rw [List.length_cons] at hG hQ
    have hgl : (givI ns it).length ≤ 2 := by
      unfold givI
      split
      · simp
      · split
        · rw [dif_len]; omega
        · simp
    have hpl : (prsL [it]).length ≤ 1 := by unfold prsL; rw [List.length_map]; exact List.length_filter_le _ _
    have st := ei_step (n := n) (c := c) (nm := nm) (pr := pr) (ns := ns) (it := it) (G := G) (Q := Q) (mu1 := mu1) hn (by omega) (by omega) (hw it (by simp))
    have ih := ei_loop (n := n) (c := c) (nm := nm) (pr := pr) (ns := ns) its (G ++ givI ns it) (Q ++ prsL [it]) mu1 (some (itemD it)) hn (by rw [List.length_append]; omega) (by rw [List.length_append]; omega) (fun x hx => hw x (by simp [hx]))
    rw [List.map_cons]
    have e1 : G ++ (it :: its).flatMap (givI ns) = G ++ givI ns it ++ its.flatMap (givI ns) := by rw [List.flatMap_cons, List.append_assoc]
    have e2 : Q ++ prsL (it :: its) = Q ++ prsL [it] ++ prsL its := by
      have : prsL (it :: its) = prsL [it] ++ prsL its := by
        show prsL ([it] ++ its) = _
        unfold prsL
        rw [List.filter_append, List.map_append]
      rw [this, List.append_assoc]
    rw [e1, e2]
    exact (loopF_step rfl st).trans ih
end K06
namespace K06
open PySem L2 PyProof.Rows MP
theorem fD_flat {c : Int} {ps : List (Str × Int)} : flats [fD c ps] = true := by
  have h : flats (ps.map MP.pairD) = true := flats_of fun d hd => by
    obtain ⟨p, _, e⟩ := List.mem_map.mp hd
    subst e; rfl
  show (flat (fD c ps) && true) = true
  have e : flat (fD c ps) = (flat (.int c) && (flats (ps.map MP.pairD) && true)) := rfl
  rw [e, h]; rfl
structure PW (p : Pr) : Prop where
  its : p.items.length ≤ 4
  wd : ∀ it ∈ p.items, it.2.length ≤ 900
  nm : p.name.length ≤ 900
  res : p.results.length ≤ 2
  rw_ : ∀ r ∈ p.results, r.length ≤ 900
def givL (ns : List Str) (p : Pr) : List D := p.items.flatMap (givI ns)
def isF (d : D) : Prop := ∃ c ps, d = fD c ps
theorem dif_isF {a b : Str} : ∀ d ∈ dif a b, isF d := fun d hd => by
  simp [dif] at hd
  rcases hd with rfl | rfl <;> exact ⟨_, _, rfl⟩
theorem givL_isF {ns : List Str} {p : Pr} : ∀ d ∈ givL ns p, isF d := fun d hd => by
  obtain ⟨it, _, h⟩ := List.mem_flatMap.mp hd
  unfold givI at h
  split at h
  · cases h
  · split at h
    · exact dif_isF d h
    · cases h
theorem isF_flats {l : List D} (h : ∀ d ∈ l, isF d) : flats l = true := flats_of fun d hd => by
  obtain ⟨c, ps, rfl⟩ := h d hd
  have := fD_flat (c := c) (ps := ps)
  have e : flats [fD c ps] = (flat (fD c ps) && true) := rfl
  rw [e, Bool.and_true] at this
  exact this
theorem prs_flats {its : List (Bool × Str)} : flats (prsL its) = true := flats_of fun d hd => by
  obtain ⟨it, _, e⟩ := List.mem_map.mp hd
  subst e; rfl
noncomputable abbrev dEiF : List D → M Rv := fgt dEi
theorem gTuple_ref {n : Nat} {xs : List D} {mu : List MO} (h : mu[n]? = some (.lst xs)) : gTuple (.ref n) mu = .ok (.tup xs) mu := by
  unfold gTuple
  have e : rdQ (.ref n) mu = .ok xs mu := by
    show atL mu n = _
    exact atL_lst h
  rw [bind_ap, e]
  rfl
theorem givL_len {ns : List Str} : ∀ (its : List (Bool × Str)), (its.flatMap (givI ns)).length ≤ 2 * its.length
  | [] => by simp
  | it :: r => by
    have ih := givL_len (ns := ns) r
    rw [List.flatMap_cons, List.length_append, List.length_cons]
    have : (givI ns it).length ≤ 2 := by
      unfold givI
      split
      · simp
      · split
        · rw [dif_len]; omega
        · simp
    omega
theorem ei_ok {ps : List Pr} {n : Str} {p : Pr} {ns : List Str} {mu : List MO} (h : findP ps n = some p) (hp : PW p) (hc : CloH mu) : dEiF [coreD ps, .str n, .fl (ns.map D.str)] mu = .ok (.vl (.tup [.tup (givL ns p), .tup (prsL p.items)])) mu := by
  have h2 := proc_named_ok (ps := ps) (n := n) (p := p) (mu := mu) h
  have h4 := hp.its
  have h1 := ei_loop (n := mu.length) (c := coreD ps) (nm := .str n) (pr := procD p) (ns := ns) p.items [] [] mu none rfl (by simp; omega) (by simp; omega) hp.wd
  have gl := givL_len (ns := ns) p.items
  have gp : (prsL p.items).length ≤ p.items.length := by unfold prsL; rw [List.length_map]; exact List.length_filter_le _ _
  have e : dEi [coreD ps, .str n, .fl (ns.map D.str)] mu = .ok (.vl (.tup [.tup (givL ns p), .tup (prsL p.items)])) (mu ++ [.lst (givL ns p), .lst (prsL p.items)]) := by
    have s2 : (2 : Nat) ≤ sizeLine := by decide
    rw [List.nil_append, List.nil_append] at h1
    have hpd : procD p = .tup [.str p.name, .tup (p.items.map itemD), .tup (p.results.map D.str), .tup (p.places.map itemD), .tup [], .tup [], .tup [], .tup [], .tup (p.body.map bsD)] := rfl
    have ix : gIx (procD p) (.int 1) = (pure (.tup (p.items.map itemD)) : M D) := rfl
    have g1 := get_first (mu1 := mu) (x := .lst (givL ns p)) (y := .lst (prsL p.items)) rfl
    have g2 := get_second (mu1 := mu) (x := .lst (givL ns p)) (y := .lst (prsL p.items)) rfl
    refine noX_ok ?_
    show runB 7 (r_equal_inputs den_proc_named dBoth den_variable) _ mu = _
    change loopF (asgN 6) eiBody [6] [] (p.items.map itemD) _ (mu ++ [.lst [], .lst []]) = .ok _ (mu ++ [.lst (givL ns p), .lst (prsL p.items)]) at h1
    unfold eiBody at h1
    generalize (mu ++ [.lst (givL ns p), .lst (prsL p.items)]) = M2 at *
    generalize givL ns p = GG at *
    generalize prsL p.items = QQ at *
    generalize ns.map D.str = NN at *
    generalize coreD ps = CC at *
    generalize p.items.map itemD = II at *
    generalize procD p = PP at *
    simp [r_equal_inputs, startE, h2, ix, h1, gTuple_ref g1, gTuple_ref g2, gTup_ok, s2]
  exact fgt_val e rfl hc (Clo.tup.mpr (flats_clo _ (by
    show (flat (.tup (givL ns p)) && (flat (.tup (prsL p.items)) && true)) = true
    have e1 : flat (.tup (givL ns p)) = flats (givL ns p) := rfl
    have e2 : flat (.tup (prsL p.items)) = flats (prsL p.items) := rfl
    rw [e1, e2, isF_flats givL_isF, prs_flats]; rfl)))
/-- equal results -/
def resL (rs : List Str) : List D := rs.flatMap fun r => dif ("l.." ++ r) ("r.." ++ r)
noncomputable abbrev dEr : List D → M Rv := den_equal_results dBoth den_variable
noncomputable abbrev dErF : List D → M Rv := fgt dEr
noncomputable def erBody : MP.Env → M Fl := (sExpr (eMeth lstK gExtendT (eVar 1) (aCons (eCall (lenD 2 dBoth) (aCons (eCall (lenD 1 den_variable) (aCons (eBin gAdd (eBin gAdd (eC (.str "l.")) (eC (.str "."))) (eVar 2)) aNil)) (aCons (eCall (lenD 1 den_variable) (aCons (eBin gAdd (eBin gAdd (eC (.str "r.")) (eC (.str "."))) (eVar 2)) aNil)) aNil))) aNil)))
theorem er_step {n : Nat} {c : D} {r : Str} {G : List D} {mu1 : List MO} (hn : n = mu1.length) (hG : G.length < 500) (hw : r.length ≤ 900) :
    erBody [some c, some (.ref n), some (.str r)] (mu1 ++ [.lst G]) = .ok (.nx [some c, some (.ref n), some (.str r)]) (mu1 ++ [.lst (G ++ dif ("l.." ++ r) ("r.." ++ r))]) := by
  have hx := extend_last (xs := G) (ys := dif ("l.." ++ r) ("r.." ++ r)) hn (by rw [dif_len]; omega)
  have hk := get_last (x := .lst G) hn
  have v1 := variable_ok (a := "l.." ++ r) (mu := mu1 ++ [.lst G])
  have v2 := variable_ok (a := "r.." ++ r) (mu := mu1 ++ [.lst G])
  have a1 := ldd2 (x := r) (mu := mu1 ++ [.lst G]) hw
  have a2 := rdd2 (x := r) (mu := mu1 ++ [.lst G]) hw
  have b1 := both_ok (a := "l.." ++ r) (b := "r.." ++ r) (mu := mu1 ++ [.lst G])
  generalize mu1 ++ [.lst (G ++ dif ("l.." ++ r) ("r.." ++ r))] = M2 at *
  generalize mu1 ++ [.lst G] = M1 at *
  generalize dif ("l.." ++ r) ("r.." ++ r) = DD at *
  generalize vD ("l.." ++ r) = V1 at *
  generalize vD ("r.." ++ r) = V2 at *
  generalize ("l.." ++ r : Str) = S1 at *
  generalize ("r.." ++ r : Str) = S2 at *
  have l0 := ldd (mu := M1)
  have r0 := rdd (mu := M1)
  simp [-gAdd_str, erBody, l0, r0, a1, a2, v1, v2, b1, lstK_ref hk, hx]
theorem er_loop {n : Nat} {c : D} : ∀ (rs : List Str) (G : List D) (mu1 : List MO) (o2 : Option D), n = mu1.length → G.length + 2 * rs.length < 500 → (∀ r ∈ rs, r.length ≤ 900) →
    loopF (asgN 2) erBody [2] [] (rs.map D.str) [some c, some (.ref n), o2] (mu1 ++ [.lst G]) = .ok (.nx [some c, some (.ref n), none]) (mu1 ++ [.lst (G ++ resL rs)])
  | [], G, mu1, o2, hn, _, _ => by
    show loopF _ _ _ [] [] _ _ = _
    rw [loopF_nil]
    simp [resL, wipeE]
  | r :: rs, G, mu1, o2, hn, hG, hw => by
    rw [List.length_cons] at hG
    have st := er_step (n := n) (c := c) (r := r) (G := G) (mu1 := mu1) hn (by omega) (hw r (by simp))
    have ih := er_loop (n := n) (c := c) rs (G ++ dif ("l.." ++ r) ("r.." ++ r)) mu1 (some (.str r)) hn (by rw [List.length_append, dif_len]; omega) (fun x hx => hw x (by simp [hx]))
    have e1 : G ++ resL (r :: rs) = G ++ dif ("l.." ++ r) ("r.." ++ r) ++ resL rs := by unfold resL; rw [List.flatMap_cons, List.append_assoc]
    rw [List.map_cons, e1]
    exact (loopF_step rfl st).trans ih
theorem resL_isF {rs : List Str} : ∀ d ∈ resL rs, isF d := fun d hd => by
  obtain ⟨r, _, h⟩ := List.mem_flatMap.mp hd
  exact dif_isF d h
theorem er_ok {p : Pr} {mu : List MO} (hp : PW p) (hc : CloH mu) : dErF [procD p] mu = .ok (.fr (resL p.results)) mu := by
  have h4 := hp.res
  have h1 := er_loop (n := mu.length) (c := procD p) p.results [] mu none rfl (by simp; omega) hp.rw_
  rw [List.nil_append] at h1
  have ix : gIx (procD p) (.int 2) = (pure (.tup (p.results.map D.str)) : M D) := rfl
  have e : dEr [procD p] mu = .ok (.vl (.ref mu.length)) (mu ++ [.lst (resL p.results)]) := by
    refine noX_ok ?_
    show runB 3 (r_equal_results dBoth den_variable) _ mu = _
    unfold erBody at h1
    generalize (mu ++ [.lst (resL p.results)]) = M2 at *
    generalize p.results.map D.str = RR at *
    generalize procD p = PP at *
    simp [r_equal_results, startE, ix, h1]
  exact fgt_list e rfl hc (Nat.le_refl _) (get_last rfl) (flats_clo _ (isF_flats resL_isF))
end K06
namespace K06
open PySem L2 PyProof.Rows MP
def without (l os : List Str) : List Str := l.filter fun x => !os.contains x
theorem filt_loop {asg : D → MP.Env → M MP.Env} {t : MP.Env → M Bool} {r : MP.Env → M D} {env : MP.Env} {mu : List MO} {xs os : List Str} (h : ∀ x, ∃ env1, asg (.str x) env mu = .ok env1 mu ∧ t env1 mu = .ok (!os.contains x) mu ∧ r env1 mu = .ok (.str x) mu) :
    loopC asg t r [] (xs.map D.str) env mu = .ok ((without xs os).map D.str) mu := loopC_filter' fun x _ => by
  obtain ⟨e1, h1, h2, h3⟩ := h x
  exact ⟨e1, h1, h2, fun _ => h3⟩
def cntL : List D := dif "l..count" "r..count"
noncomputable abbrev dSec : List D → M Rv := den_secret_claim dPoe dInts dEiF dErF dBoth den_variable den_count_name
noncomputable abbrev dGro : List D → M Rv := den_growing_claim dPoe dInts dEiF dMinus den_variable
noncomputable abbrev dMov : List D → M Rv := den_moved_claim dPoe dInts dEiF dMinus den_variable den_times dPlus
def secD (p : Pr) (ss : List Str) : D := .tup [.str p.name, .str p.name, .tup (givL (without (intsP p) ss) p), .tup (prsL p.items), .tup (resL p.results ++ cntL), .tup (prsL p.items)]
theorem count_ok {m n : Str} {mu : List MO} (h : ∀ mu, gAdd (.str m) (.str ".count") mu = .ok (.str n) mu) : den_count_name [.str m] mu = .ok (.vl (.str n)) mu := by
  refine noX_ok ?_
  have := h mu
  simp [-gAdd_str, r_count_name, startE, this]
theorem find_name {ps : List Pr} {n : Str} {p : Pr} (h : findP ps n = some p) : p.name = n := by
  have := List.find?_some (p := fun q : Pr => q.name == n) h
  exact eq_of_beq this
theorem resL_len : ∀ (rs : List Str), (resL rs).length = 2 * rs.length
  | [] => rfl
  | r :: rs => by
    have ih := resL_len rs
    unfold resL at ih ⊢
    rw [List.flatMap_cons, List.length_append, ih, dif_len, List.length_cons]; omega
theorem sec_no {ps : List Pr} {n : Str} {ss : List Str} {mu : List MO} (h : findP ps n = none) (hl : n.length ≤ 900) : dSec [coreD ps, .str n, .tup (ss.map D.str)] mu = .exc ⟨"UnknownName", [(("name" : Str), .str n)]⟩ mu := by
  have h1 := poe_no (mu := mu) h hl
  show runB 9 (r_secret_claim dPoe dInts dEiF dErF dBoth den_variable den_count_name) _ mu = _
  generalize coreD ps = CC at *
  simp [r_secret_claim, startE, h1]
theorem all_loop {ss ns : List Str} {a b c : D} {mu : List MO} : loopC (asgN 8) tYesM (eBin (gIn false) (eVar 8) (eVar 4)) [] (ss.map D.str) [some a, some b, some (.tup (ss.map D.str)), some c, some (.fl (ns.map D.str)), none, none, none, none] mu = .ok (ss.map fun s => D.bl (ns.contains s)) mu :=
  loopC_map' fun s hs => ⟨_, rfl, rfl, by
    have hi := gIn_names (neg := false) (z := s) (ns := ns) (d := .fl (ns.map D.str)) (mu := mu) rfl (fun y e => by cases e)
    generalize ns.map D.str = NN at *
    simp [hi]⟩
theorem sec_bad {ps : List Pr} {n : Str} {p : Pr} {ss : List Str} {mu : List MO} (h : findP ps n = some p) (hs : (ss.all fun s => (intsP p).contains s) = false) : dSec [coreD ps, .str n, .tup (ss.map D.str)] mu = .exc ⟨"BadClaim", []⟩ mu := by
  have h1 := poe_ok (mu := mu) h
  have h2 := ints_ok (mu := mu) h
  have h3 := all_loop (ss := ss) (ns := intsP p) (a := coreD ps) (b := .str n) (c := procD p) (mu := mu)
  have h4 := gAll_map (p := fun s : Str => (intsP p).contains s) (mu := mu) ss
  rw [hs] at h4
  show runB 9 (r_secret_claim dPoe dInts dEiF dErF dBoth den_variable den_count_name) _ mu = _
  generalize (ss.map fun s => D.bl ((intsP p).contains s)) = BB at *
  generalize ss.map D.str = SS at *
  generalize coreD ps = CC at *
  generalize procD p = PP at *
  generalize (intsP p).map D.str = II at *
  simp [r_secret_claim, startE, h1, h2, noX_ok h3, h4]
theorem sec_ok {ps : List Pr} {n : Str} {p : Pr} {ss : List Str} {mu : List MO} (h : findP ps n = some p) (hp : PW p) (hs : (ss.all fun s => (intsP p).contains s) = true) (hc : CloH mu) : dSec [coreD ps, .str n, .tup (ss.map D.str)] mu = .ok (.vl (secD p ss)) mu := by
  have h1 := poe_ok (mu := mu) h
  have h2 := ints_ok (mu := mu) h
  have h3 := all_loop (ss := ss) (ns := intsP p) (a := coreD ps) (b := .str n) (c := procD p) (mu := mu)
  have h4 := gAll_map (p := fun s : Str => (intsP p).contains s) (mu := mu) ss
  rw [hs] at h4
  have h5 : loopC (asgN 8) (eB (eBin (gIn true) (eVar 8) (eVar 2))) (eVar 8) [] ((intsP p).map D.str) [some (coreD ps), some (.str n), some (.tup (ss.map D.str)), some (procD p), some (.fl ((intsP p).map D.str)), none, none, none, none] mu = .ok ((without (intsP p) ss).map D.str) mu := filt_loop fun x => ⟨_, rfl, by
    have hi := gIn_names (neg := true) (z := x) (ns := ss) (d := .tup (ss.map D.str)) (mu := mu) rfl (fun y e => by cases e)
    generalize ss.map D.str = NN at *
    simp [hi], rfl⟩
  have h6 := ei_ok (ns := without (intsP p) ss) (mu := mu) h hp hc
  have h7 := er_ok (mu := mu) hp hc
  have c1 := count_ok (m := "l.") (n := "l..count") (mu := mu) (fun _ => lct)
  have c2 := count_ok (m := "r.") (n := "r..count") (mu := mu) (fun _ => rct)
  have v1 := variable_ok (a := "l..count") (mu := mu)
  have v2 := variable_ok (a := "r..count") (mu := mu)
  have b1 := both_ok (a := "l..count") (b := "r..count") (mu := mu)
  have ha := gAdd_fl (xs := resL p.results) (ys := dif "l..count" "r..count") (mu := mu) (by rw [resL_len, dif_len, sizeLine_eq]; have := hp.res; omega)
  have s6 : (6 : Nat) ≤ sizeLine := by decide
  show runB 9 (r_secret_claim dPoe dInts dEiF dErF dBoth den_variable den_count_name) _ mu = _
  unfold secD cntL
  rw [find_name h]
  generalize (ss.map fun s => D.bl ((intsP p).contains s)) = BB at *
  generalize ss.map D.str = SS at *
  generalize coreD ps = CC at *
  generalize procD p = PP at *
  generalize (without (intsP p) ss).map D.str = WW at *
  generalize givL (without (intsP p) ss) p = GG at *
  generalize (intsP p).map D.str = II at *
  generalize prsL p.items = QQ at *
  generalize resL p.results ++ dif "l..count" "r..count" = RD at *
  generalize resL p.results = RR at *
  generalize dif "l..count" "r..count" = CD at *
  generalize vD "l..count" = V1 at *
  generalize vD "r..count" = V2 at *
  simp [-gAdd_str, r_secret_claim, startE, h1, h2, noX_ok h3, h4, noX_ok h5, h6, h7, c1, c2, v1, v2, b1, ha, gTup_ok, s6]
/-! growing, moved -/
theorem oneFilt {n : Nat} {ns : List Str} {x : Str} {env : MP.Env} {k : Nat} {mu : List MO} (hk : ∀ z : D, ∃ e1, asgN k z env mu = .ok e1 mu ∧ eVar k e1 mu = .ok z mu ∧ eVar 2 e1 mu = .ok (.str x) mu) :
    loopC (asgN k) (eB (eBin (gEq true) (eVar k) (eVar 2))) (eVar k) [] (ns.map D.str) env mu = .ok ((without ns [x]).map D.str) mu := filt_loop fun z => by
  obtain ⟨e1, a1, a2, a3⟩ := hk (.str z)
  refine ⟨e1, a1, ?_, a2⟩
  have : [x].contains z = (z == x) := by rw [Bool.eq_iff_iff]; simp
  rw [this]
  simp [-eVar_ap, a2, a3, gEq_strs]
def groD (p : Pr) (x r : Str) : D := .tup [.str p.name, .str p.name, .tup (givL (without (intsP p) [x]) p ++ [mD ("r.@" ++ x) ("l.@" ++ x)]), .tup (prsL p.items), .tup [mD ("r.." ++ r) ("l.." ++ r)], .tup []]
theorem gro_no {ps : List Pr} {n x : Str} {mu : List MO} (h : findP ps n = none) (hl : n.length ≤ 900) : dGro [coreD ps, .str n, .str x] mu = .exc ⟨"UnknownName", [(("name" : Str), .str n)]⟩ mu := by
  have h1 := poe_no (mu := mu) h hl
  show runB 10 (r_growing_claim dPoe dInts dEiF dMinus den_variable) _ mu = _
  generalize coreD ps = CC at *
  simp [r_growing_claim, startE, h1]
theorem mov_no {ps : List Pr} {n x : Str} {k : Int} {mu : List MO} (h : findP ps n = none) (hl : n.length ≤ 900) : dMov [coreD ps, .str n, .str x, .int k] mu = .exc ⟨"UnknownName", [(("name" : Str), .str n)]⟩ mu := by
  have h1 := poe_no (mu := mu) h hl
  show runB 12 (r_moved_claim dPoe dInts dEiF dMinus den_variable den_times dPlus) _ mu = _
  generalize coreD ps = CC at *
  simp [r_moved_claim, startE, h1]
theorem pr_res (p : Pr) (mu : List MO) : gIx (procD p) (.int 2) mu = .ok (.tup (p.results.map D.str)) mu := rfl
theorem len_res {rs : List Str} {mu : List MO} : gLen (.tup (rs.map D.str)) mu = .ok (.int rs.length) mu := by
  have e : gLen (.tup (rs.map D.str)) mu = .ok (.int (rs.map D.str).length) mu := by first | rfl | simp [gLen]
  rw [e, List.length_map]
theorem gro_bad {ps : List Pr} {n x : Str} {p : Pr} {mu : List MO} (h : findP ps n = some p) (hs : ((intsP p).contains x && p.results.length == 1) = false) : dGro [coreD ps, .str n, .str x] mu = .exc ⟨"BadClaim", []⟩ mu := by
  have h1 := poe_ok (mu := mu) h
  have h2 := ints_ok (mu := mu) h
  have hi := gIn_names (neg := true) (z := x) (ns := intsP p) (d := .fl ((intsP p).map D.str)) (mu := mu) rfl (fun y e => by cases e)
  have h3 := pr_res p mu
  have h4 := len_res (rs := p.results) (mu := mu)
  show runB 10 (r_growing_claim dPoe dInts dEiF dMinus den_variable) _ mu = _
  generalize coreD ps = CC at *
  generalize procD p = PP at *
  generalize p.results.map D.str = RR at *
  cases hc : (intsP p).contains x with
  | false =>
    rw [hc] at hi
    generalize (intsP p).map D.str = II at *
    simp [r_growing_claim, startE, h1, h2, hi]
  | true =>
    rw [hc] at hi hs
    have hr : ¬ p.results.length = 1 := by simpa using hs
    have hr2 : (((p.results.length : Nat) : Int) == 1) = false := beq_eq_false_iff_ne.mpr (by omega)
    generalize (intsP p).map D.str = II at *
    simp [r_growing_claim, startE, h1, h2, hi, h3, h4, gEq_ints, hr2, hr]
theorem mov_bad {ps : List Pr} {n x : Str} {k : Int} {p : Pr} {mu : List MO} (h : findP ps n = some p) (hs : ((intsP p).contains x && p.results.length == 1) = false) : dMov [coreD ps, .str n, .str x, .int k] mu = .exc ⟨"BadClaim", []⟩ mu := by
  have h1 := poe_ok (mu := mu) h
  have h2 := ints_ok (mu := mu) h
  have hi := gIn_names (neg := true) (z := x) (ns := intsP p) (d := .fl ((intsP p).map D.str)) (mu := mu) rfl (fun y e => by cases e)
  have h3 := pr_res p mu
  have h4 := len_res (rs := p.results) (mu := mu)
  show runB 12 (r_moved_claim dPoe dInts dEiF dMinus den_variable den_times dPlus) _ mu = _
  generalize coreD ps = CC at *
  generalize procD p = PP at *
  generalize p.results.map D.str = RR at *
  cases hc : (intsP p).contains x with
  | false =>
    rw [hc] at hi
    generalize (intsP p).map D.str = II at *
    simp [r_moved_claim, startE, h1, h2, hi]
  | true =>
    rw [hc] at hi hs
    have hr : ¬ p.results.length = 1 := by simpa using hs
    have hr2 : (((p.results.length : Nat) : Int) == 1) = false := beq_eq_false_iff_ne.mpr (by omega)
    generalize (intsP p).map D.str = II at *
    simp [r_moved_claim, startE, h1, h2, hi, h3, h4, gEq_ints, hr2, hr]
theorem rat_len {x : Str} (h : x.length ≤ 900) : True := trivial
theorem gro_ok {ps : List Pr} {n x r : Str} {p : Pr} {mu : List MO} (h : findP ps n = some p) (hp : PW p) (hx : (intsP p).contains x = true) (hxl : x.length ≤ 900) (hr : p.results = [r]) (hc : CloH mu) : dGro [coreD ps, .str n, .str x] mu = .ok (.vl (groD p x r)) mu := by
  have h1 := poe_ok (mu := mu) h
  have h2 := ints_ok (mu := mu) h
  have hi := gIn_names (neg := true) (z := x) (ns := intsP p) (d := .fl ((intsP p).map D.str)) (mu := mu) rfl (fun y e => by cases e)
  rw [hx] at hi
  have h3 := pr_res p mu
  have h4 := len_res (rs := p.results) (mu := mu)
  rw [hr] at h3 h4
  have hrl : r.length ≤ 900 := hp.rw_ r (by rw [hr]; simp)
  have h5 := oneFilt (n := 0) (k := 9) (ns := intsP p) (x := x) (env := [some (coreD ps), some (.str n), some (.str x), some (procD p), some (.fl ((intsP p).map D.str)), none, none, none, none, none]) (mu := mu) fun z => ⟨_, rfl, rfl, rfl⟩
  have h6 := ei_ok (ns := without (intsP p) [x]) (mu := mu) h hp hc
  have a1 := lat2 (x := x) (mu := mu) hxl
  have a2 := rat2 (x := x) (mu := mu) hxl
  have a3 := ldd2 (x := r) (mu := mu) hrl
  have a4 := rdd2 (x := r) (mu := mu) hrl
  have v1 := variable_ok (a := "l.@" ++ x) (mu := mu)
  have v2 := variable_ok (a := "r.@" ++ x) (mu := mu)
  have v3 := variable_ok (a := "l.." ++ r) (mu := mu)
  have v4 := variable_ok (a := "r.." ++ r) (mu := mu)
  have m1 := minus_v (a := "r.@" ++ x) (b := "l.@" ++ x) (mu := mu)
  have m2 := minus_v (a := "r.." ++ r) (b := "l.." ++ r) (mu := mu)
  have gl := givL_len (ns := without (intsP p) [x]) p.items
  have ha := gAdd_tup (xs := givL (without (intsP p) [x]) p) (ys := [mD ("r.@" ++ x) ("l.@" ++ x)]) (mu := mu) (small_size (by have := hp.its; unfold givL; rw [List.length_singleton]; omega))
  have s0 : (0 : Nat) ≤ sizeLine := by decide
  have s1 : (1 : Nat) ≤ sizeLine := by decide
  have s6 : (6 : Nat) ≤ sizeLine := by decide
  have l0 := lat (mu := mu)
  have r0 := rat (mu := mu)
  have l1 := ldd (mu := mu)
  have r1 := rdd (mu := mu)
  show runB 10 (r_growing_claim dPoe dInts dEiF dMinus den_variable) _ mu = _
  unfold groD
  rw [find_name h]
  generalize coreD ps = CC at *
  generalize procD p = PP at *
  generalize (without (intsP p) [x]).map D.str = WW at *
  generalize mD ("r.@" ++ x) ("l.@" ++ x) = MM at *
  generalize mD ("r.." ++ r) ("l.." ++ r) = MR at *
  generalize givL (without (intsP p) [x]) p ++ [MM] = GM at *
  generalize givL (without (intsP p) [x]) p = GG at *
  generalize (intsP p).map D.str = II at *
  generalize prsL p.items = QQ at *
  generalize vD ("l.@" ++ x) = V1 at *
  generalize vD ("r.@" ++ x) = V2 at *
  generalize vD ("l.." ++ r) = V3 at *
  generalize vD ("r.." ++ r) = V4 at *
  generalize ("l.@" ++ x : Str) = S1 at *
  generalize ("r.@" ++ x : Str) = S2 at *
  generalize ("l.." ++ r : Str) = S3 at *
  generalize ("r.." ++ r : Str) = S4 at *
  simp only [List.map_cons, List.map_nil] at h3 h4
  simp [-gAdd_str, r_growing_claim, startE, h1, h2, hi, h3, h4, gEq_ints, h5, noX_ok h5, h6, l0, r0, l1, r1, a1, a2, a3, a4, v1, v2, v3, v4, m1, m2, ha, gTup_ok, s0, s1, s6]
end K06
namespace K06
open PySem L2 PyProof.Rows MP
theorem valOf_nil (s : Str) : valOf [] s = 0 := by rw [valOf_eq]; rfl
theorem valOf_cons (a s : Str) (i : Int) (r : List (Str × Int)) : valOf ((a, i) :: r) s = (if (a == s) = true then i else 0) + valOf r s := by
  rw [valOf_eq, valOf_eq]
  by_cases e : (a == s) = true
  · rw [List.filter_cons_of_pos (by exact e), List.map_cons, List.sum_cons, if_pos e]
  · rw [List.filter_cons_of_neg (by exact e), if_neg e, Int.zero_add]
theorem valOf_scl {ps : List (Str × Int)} (k : Int) (s : Str) : valOf (scl k ps) s = k * valOf ps s := valOf_mul k s
def two (a b : Str) : List (Str × Int) := [(a, 1), (b, -1)]
theorem two_val {a b : Str} (s : Str) : -1 ≤ valOf (two a b) s ∧ valOf (two a b) s ≤ 1 := by
  unfold two
  rw [valOf_cons, valOf_cons, valOf_nil]
  split <;> split <;> omega
theorem two_small {a b : Str} : ∀ p ∈ canon (two a b), small p.2 := fun p hp => by
  unfold canon at hp
  obtain ⟨s, _, e⟩ := List.mem_map.mp hp
  subst e
  have := two_val (a := a) (b := b) s
  show small (valOf (two a b) s)
  unfold small
  omega
theorem two_ne {a b : Str} (h : a ≠ b) : canon (two a b) ≠ [] := fun z => by
  have h1 := valOf_canon (ps := two a b) a
  rw [z, valOf_nil] at h1
  unfold two at h1
  rw [valOf_cons, valOf_cons, valOf_nil, if_pos (by simp), if_neg (by simpa using Ne.symm h)] at h1
  omega
theorem two_len {a b : Str} : (canon (two a b)).length ≤ 2 := canon_len _
theorem rl_ne {r : Str} : ((Str.ofString "r..") ++ r : Str) ≠ (Str.ofString "l..") ++ r := fun e => by
  have h := congrArg (fun s : Str => s.cps.toList.head?) e
  simp only [cps_append] at h
  have h1 : (Str.ofString "r..").cps.toList = [114, 46, 46] := by decide +kernel
  have h2 : (Str.ofString "l..").cps.toList = [108, 46, 46] := by decide +kernel
  rw [h1, h2] at h
  simp at h
/-- k (a - b) -+ (c - d) -/
def four (i j : Int) (a b c d : Str) : List (Str × Int) := [(a, i), (b, -i), (c, j), (d, -j)]
theorem four_val {i j : Int} {a b c d : Str} (s : Str) : valOf (four i j a b c d) s = i * valOf (two a b) s + j * valOf (two c d) s := by
  unfold four two
  simp only [valOf_cons, valOf_nil]
  split <;> split <;> split <;> split <;> simp <;> omega
def roomD (k : Int) (a b : Str) : D := if k = 0 then fD 0 [] else fD 0 (scl k (canon (two a b)))
theorem room_ok {k : Int} {a b : Str} {mu : List MO} : den_times [.int k, mD a b] mu = .ok (.vl (roomD k a b)) mu := by
  unfold roomD mD
  by_cases h : k = 0
  · subst h
    rw [if_pos rfl]
    exact times_zero
  · rw [if_neg h]
    have := times_ok (k := k) (c := 0) (ps := canon (two a b)) (mu := mu) h (by unfold small; omega) two_small (by have := two_len (a := a) (b := b); omega)
    rw [Int.mul_zero] at this
    exact this
theorem room_minus {k : Int} {a b c d : Str} {mu : List MO} (h : c ≠ d) : dMinus [roomD k a b, mD c d] mu = .ok (.vl (fD 0 (canon (four k (-1) a b c d)))) mu := by
  have hl := two_len (a := c) (b := d)
  have hl2 := two_len (a := a) (b := b)
  unfold roomD mD
  by_cases hk : k = 0
  · subst hk
    rw [if_pos rfl]
    have := minus_ok (c := 0) (d := 0) (ps := []) (qs := canon (two c d)) (mu := mu) (by unfold small; omega) two_small (two_ne h) (by simp; omega)
    have e : canon ([] ++ scl (-1) (canon (two c d))) = canon (four 0 (-1) a b c d) := canon_congr fun s => by
      rw [List.nil_append, valOf_scl, valOf_canon, four_val]; omega
    rw [e] at this
    exact this
  · rw [if_neg hk]
    have := minus_ok (c := 0) (d := 0) (ps := scl k (canon (two a b))) (qs := canon (two c d)) (mu := mu) (by unfold small; omega) two_small (two_ne h) (by unfold scl; rw [List.length_map]; omega)
    have e : canon (scl k (canon (two a b)) ++ scl (-1) (canon (two c d))) = canon (four k (-1) a b c d) := canon_congr fun s => by
      rw [valOf_app, valOf_scl, valOf_scl, valOf_canon, valOf_canon, four_val]
    rw [e] at this
    exact this
theorem room_plus {k : Int} {a b c d : Str} {mu : List MO} (h : c ≠ d) : dPlus [roomD k a b, mD c d] mu = .ok (.vl (fD 0 (canon (four k 1 a b c d)))) mu := by
  have hl := two_len (a := c) (b := d)
  have hl2 := two_len (a := a) (b := b)
  unfold roomD mD
  by_cases hk : k = 0
  · subst hk
    rw [if_pos rfl]
    have := plus_ok (c := 0) (d := 0) (ps := []) (qs := canon (two c d)) (mu := mu) (two_ne h) (by simp; omega)
    have e : canon ([] ++ canon (two c d)) = canon (four 0 1 a b c d) := canon_congr fun s => by
      rw [List.nil_append, valOf_canon, four_val]; omega
    rw [e] at this
    exact this
  · rw [if_neg hk]
    have := plus_ok (c := 0) (d := 0) (ps := scl k (canon (two a b))) (qs := canon (two c d)) (mu := mu) (two_ne h) (by unfold scl; rw [List.length_map]; omega)
    have e : canon (scl k (canon (two a b)) ++ canon (two c d)) = canon (four k 1 a b c d) := canon_congr fun s => by
      rw [valOf_app, valOf_scl, valOf_canon, valOf_canon, four_val]; omega
    rw [e] at this
    exact this
def movD (p : Pr) (x r : Str) (k : Int) : D := .tup [.str p.name, .str p.name, .tup (givL (without (intsP p) [x]) p ++ [mD ("r.@" ++ x) ("l.@" ++ x)]), .tup (prsL p.items),
  .tup [fD 0 (canon (four k (-1) ("r.@" ++ x) ("l.@" ++ x) ("r.." ++ r) ("l.." ++ r))), fD 0 (canon (four k 1 ("r.@" ++ x) ("l.@" ++ x) ("r.." ++ r) ("l.." ++ r)))], .tup []]
theorem mov_ok {ps : List Pr} {n x r : Str} {k : Int} {p : Pr} {mu : List MO} (h : findP ps n = some p) (hp : PW p) (hx : (intsP p).contains x = true) (hxl : x.length ≤ 900) (hr : p.results = [r]) (hc : CloH mu) : dMov [coreD ps, .str n, .str x, .int k] mu = .ok (.vl (movD p x r k)) mu := by
  have h1 := poe_ok (mu := mu) h
  have h2 := ints_ok (mu := mu) h
  have hi := gIn_names (neg := true) (z := x) (ns := intsP p) (d := .fl ((intsP p).map D.str)) (mu := mu) rfl (fun y e => by cases e)
  rw [hx] at hi
  have h3 := pr_res p mu
  have h4 := len_res (rs := p.results) (mu := mu)
  rw [hr] at h3 h4
  have hrl : r.length ≤ 900 := hp.rw_ r (by rw [hr]; simp)
  have h5 := oneFilt (n := 0) (k := 11) (ns := intsP p) (x := x) (env := [some (coreD ps), some (.str n), some (.str x), some (.int k), some (procD p), some (.fl ((intsP p).map D.str)), none, none, none, none, none, none]) (mu := mu) fun z => ⟨_, rfl, rfl, rfl⟩
  have h6 := ei_ok (ns := without (intsP p) [x]) (mu := mu) h hp hc
  have a1 := lat2 (x := x) (mu := mu) hxl
  have a2 := rat2 (x := x) (mu := mu) hxl
  have a3 := ldd2 (x := r) (mu := mu) hrl
  have a4 := rdd2 (x := r) (mu := mu) hrl
  have v1 := variable_ok (a := "l.@" ++ x) (mu := mu)
  have v2 := variable_ok (a := "r.@" ++ x) (mu := mu)
  have v3 := variable_ok (a := "l.." ++ r) (mu := mu)
  have v4 := variable_ok (a := "r.." ++ r) (mu := mu)
  have m1 := minus_v (a := "r.@" ++ x) (b := "l.@" ++ x) (mu := mu)
  have m2 := minus_v (a := "r.." ++ r) (b := "l.." ++ r) (mu := mu)
  have t1 := room_ok (k := k) (a := "r.@" ++ x) (b := "l.@" ++ x) (mu := mu)
  have t2 := room_minus (k := k) (a := "r.@" ++ x) (b := "l.@" ++ x) (c := "r.." ++ r) (d := "l.." ++ r) (mu := mu) rl_ne
  have t3 := room_plus (k := k) (a := "r.@" ++ x) (b := "l.@" ++ x) (c := "r.." ++ r) (d := "l.." ++ r) (mu := mu) rl_ne
  have gl := givL_len (ns := without (intsP p) [x]) p.items
  have ha := gAdd_tup (xs := givL (without (intsP p) [x]) p) (ys := [mD ("r.@" ++ x) ("l.@" ++ x)]) (mu := mu) (small_size (by have := hp.its; unfold givL; rw [List.length_singleton]; omega))
  have s0 : (0 : Nat) ≤ sizeLine := by decide
  have s1 : (1 : Nat) ≤ sizeLine := by decide
  have s2 : (2 : Nat) ≤ sizeLine := by decide
  have s6 : (6 : Nat) ≤ sizeLine := by decide
  have l0 := lat (mu := mu)
  have r0 := rat (mu := mu)
  have l1 := ldd (mu := mu)
  have r1 := rdd (mu := mu)
  show runB 12 (r_moved_claim dPoe dInts dEiF dMinus den_variable den_times dPlus) _ mu = _
  unfold movD
  rw [find_name h]
  generalize fD 0 (canon (four k (-1) ("r.@" ++ x) ("l.@" ++ x) ("r.." ++ r) ("l.." ++ r))) = F1 at *
  generalize fD 0 (canon (four k 1 ("r.@" ++ x) ("l.@" ++ x) ("r.." ++ r) ("l.." ++ r))) = F2 at *
  generalize roomD k ("r.@" ++ x) ("l.@" ++ x) = RM at *
  generalize coreD ps = CC at *
  generalize procD p = PP at *
  generalize (without (intsP p) [x]).map D.str = WW at *
  generalize mD ("r.@" ++ x) ("l.@" ++ x) = MM at *
  generalize mD ("r.." ++ r) ("l.." ++ r) = MR at *
  generalize givL (without (intsP p) [x]) p ++ [MM] = GM at *
  generalize givL (without (intsP p) [x]) p = GG at *
  generalize (intsP p).map D.str = II at *
  generalize prsL p.items = QQ at *
  generalize vD ("l.@" ++ x) = V1 at *
  generalize vD ("r.@" ++ x) = V2 at *
  generalize vD ("l.." ++ r) = V3 at *
  generalize vD ("r.." ++ r) = V4 at *
  generalize ("l.@" ++ x : Str) = S1 at *
  generalize ("r.@" ++ x : Str) = S2 at *
  generalize ("l.." ++ r : Str) = S3 at *
  generalize ("r.." ++ r : Str) = S4 at *
  simp only [List.map_cons, List.map_nil] at h3 h4
  simp [-gAdd_str, r_moved_claim, startE, h1, h2, hi, h3, h4, gEq_ints, noX_ok h5, h6, l0, r0, l1, r1, a1, a2, a3, a4, v1, v2, v3, v4, m1, m2, t1, t2, t3, ha, gTup_ok, s0, s1, s2, s6]
end K06
namespace K06
open PySem L2 PyProof.Rows MP
/-! ### the law's claims -/
structure Names (d : D) (ns : List Str) : Prop where
  rd : ∀ mu, rdQ d mu = .ok (ns.map D.str) mu
  ns : ∀ y, d ≠ .str y
theorem Names.gIn {d : D} {ns : List Str} {neg : Bool} {z : Str} {mu : List MO} (h : Names d ns) : MP.gIn neg (.str z) d mu = .ok (.bl (ns.contains z != neg)) mu := gIn_names (h.rd mu) h.ns
theorem names_tup (ns : List Str) : Names (.tup (ns.map D.str)) ns := ⟨fun _ => rfl, fun y e => by cases e⟩
theorem names_fl (ns : List Str) : Names (.fl (ns.map D.str)) ns := ⟨fun _ => rfl, fun y e => by cases e⟩
noncomputable abbrev dDif : List D → M Rv := den__law_difference (pureD formF)
noncomputable abbrev dAli : List D → M Rv := den__law_alike dDif
def lawI (os : List Str) (it : Bool × Str) : List D := if it.1 = true then [] else if os.contains it.2 = true then [] else dif ("l.@" ++ it.2) ("r.@" ++ it.2)
noncomputable def laBody : MP.Env → M Fl := (eIf (eB (eBin (gEq false) (eVar 4) (eC (.str "array"))))
  (sSet 3 (eBin gAdd (eVar 3) (aThen gTup (aCons (aThen gTup (aCons (eVar 5) (aCons (eVar 5) aNil))) aNil))))
  (eIf (eB (eBin (gIn true) (eVar 5) (eVar 1)))
  (sSet 2 (eBin gAdd (eVar 2) (eCall (lenD 2 dDif) (aCons (eBin gAdd (eC (.str "l.@")) (eVar 5)) (aCons (eBin gAdd (eC (.str "r.@")) (eVar 5)) aNil)))))
  sNext))
theorem la_step {a od : D} {os : List Str} {it : Bool × Str} {G Q : List D} {mu : List MO} (ho : Names od os) (hG : G.length < 500) (hQ : Q.length < 500) (hw : it.2.length ≤ 900) :
    laBody [some a, some od, some (.tup G), some (.tup Q), some (.str (kindS it.1)), some (.str it.2)] mu = .ok (.nx [some a, some od, some (.tup (G ++ lawI os it)), some (.tup (Q ++ prsL [it])), some (.str (kindS it.1)), some (.str it.2)]) mu := by
  have s1 : (1 : Nat) ≤ sizeLine := by decide
  have s2 : (2 : Nat) ≤ sizeLine := by decide
  obtain ⟨k, w⟩ := it
  cases k with
  | true =>
    have e1 : lawI os (true, w) = [] := rfl
    have e2 : prsL [(true, w)] = [prD2 w] := rfl
    rw [e1, e2, List.append_nil]
    have ha := gAdd_tup (xs := Q) (ys := [prD2 w]) (mu := mu) (small_size (by rw [List.length_singleton]; omega))
    unfold prD2 at *
    simp [laBody, gEq_strs, kind_arr, gTup_ok, s1, s2, ha]
  | false =>
    have e2 : prsL [(false, w)] = [] := rfl
    rw [e2, List.append_nil]
    have hi := ho.gIn (neg := true) (z := w) (mu := mu)
    by_cases hc : os.contains w = true
    · have e1 : lawI os (false, w) = [] := by unfold lawI; rw [if_neg Bool.false_ne_true, if_pos hc]
      rw [e1, List.append_nil]
      rw [hc] at hi
      simp [laBody, gEq_strs, kind_arr, hi]
    · have hc' : os.contains w = false := by simpa using hc
      have e1 : lawI os (false, w) = dif ("l.@" ++ w) ("r.@" ++ w) := by unfold lawI; rw [if_neg Bool.false_ne_true, if_neg hc]
      rw [e1]
      rw [hc'] at hi
      have a1 := lat2 (x := w) (mu := mu) hw
      have a2 := rat2 (x := w) (mu := mu) hw
      have b1 := law_dif_ok (a := "l.@" ++ w) (b := "r.@" ++ w) (mu := mu)
      have ha := gAdd_tup (xs := G) (ys := dif ("l.@" ++ w) ("r.@" ++ w)) (mu := mu) (small_size (by rw [dif_len]; omega))
      generalize dif ("l.@" ++ w) ("r.@" ++ w) = DD at *
      generalize ("l.@" ++ w : Str) = S1 at *
      generalize ("r.@" ++ w : Str) = S2 at *
      simp [-gAdd_str, laBody, gEq_strs, kind_arr, hi, a1, a2, b1, ha]
theorem la_loop {a od : D} {os : List Str} {mu : List MO} (ho : Names od os) : ∀ (its : List (Bool × Str)) (G Q : List D) (o4 o5 : Option D), G.length + 2 * its.length < 500 → Q.length + its.length < 500 → (∀ it ∈ its, it.2.length ≤ 900) →
    loopF (asgT 2 (asgCons (asgN 4) (asgCons (asgN 5) asgNil))) laBody [4, 5] [] (its.map itemD) [some a, some od, some (.tup G), some (.tup Q), o4, o5] mu = .ok (.nx [some a, some od, some (.tup (G ++ its.flatMap (lawI os))), some (.tup (Q ++ prsL its)), none, none]) mu
  | [], G, Q, o4, o5, _, _, _ => by
    show loopF _ _ _ [] [] _ _ = _
    rw [loopF_nil]
    simp [prsL, wipeE]
  | it :: its, G, Q, o4, o5, hG, hQ, hw => by
    rw [List.length_cons] at hG hQ
    have hgl : (lawI os it).length ≤ 2 := by
      unfold lawI
      split
      · simp
      · split
        · simp
        · rw [dif_len]; omega
    have hpl : (prsL [it]).length ≤ 1 := by unfold prsL; rw [List.length_map]; exact List.length_filter_le _ _
    have st := la_step (a := a) (it := it) (G := G) (Q := Q) (mu := mu) ho (by omega) (by omega) (hw it (by simp))
    have ih := la_loop (a := a) (mu := mu) ho its (G ++ lawI os it) (Q ++ prsL [it]) (some (.str (kindS it.1))) (some (.str it.2)) (by rw [List.length_append]; omega) (by rw [List.length_append]; omega) (fun x hx => hw x (by simp [hx]))
    rw [List.map_cons]
    have e1 : G ++ (it :: its).flatMap (lawI os) = G ++ lawI os it ++ its.flatMap (lawI os) := by rw [List.flatMap_cons, List.append_assoc]
    have e2 : Q ++ prsL (it :: its) = Q ++ prsL [it] ++ prsL its := by
      have : prsL (it :: its) = prsL [it] ++ prsL its := by
        show prsL ([it] ++ its) = _
        unfold prsL
        rw [List.filter_append, List.map_append]
      rw [this, List.append_assoc]
    rw [e1, e2]
    exact (loopF_step rfl st).trans ih
theorem law_giv {p : Pr} {os : List Str} : p.items.flatMap (lawI os) = givL (without (intsP p) os) p := by
  unfold givL
  have key : ∀ it ∈ p.items, lawI os it = givI (without (intsP p) os) it := fun it hit => by
    unfold lawI givI
    by_cases h1 : it.1 = true
    · rw [if_pos h1, if_pos h1]
    · rw [if_neg h1, if_neg h1]
      have hm : it.2 ∈ intsP p := by
        unfold intsP
        exact List.mem_map.mpr ⟨it, List.mem_filter.mpr ⟨hit, by simpa using h1⟩, rfl⟩
      have : (without (intsP p) os).contains it.2 = !os.contains it.2 := by
        unfold without
        rw [Bool.eq_iff_iff, List.contains_iff_mem, List.mem_filter]
        simp [hm]
      rw [this]
      cases os.contains it.2 <;> rfl
  have gen : ∀ l : List (Bool × Str), (∀ it ∈ l, lawI os it = givI (without (intsP p) os) it) → l.flatMap (lawI os) = l.flatMap (givI (without (intsP p) os)) := fun l => by
    induction l with
    | nil => intro _; rfl
    | cons x r ih =>
      intro h
      rw [List.flatMap_cons, List.flatMap_cons, h x (by simp), ih fun it hit => h it (by simp [hit])]
  exact gen _ key
theorem pr_its (p : Pr) (mu : List MO) : gIx (procD p) (.int 1) mu = .ok (.tup (p.items.map itemD)) mu := rfl
theorem pr_nm (p : Pr) (mu : List MO) : gIx (procD p) (.int 0) mu = .ok (.str p.name) mu := rfl
theorem alike_ok {p : Pr} {od : D} {os : List Str} {mu : List MO} (hp : PW p) (ho : Names od os) : dAli [procD p, od] mu = .ok (.vl (.tup [.tup (givL (without (intsP p) os) p), .tup (prsL p.items)])) mu := by
  have h4 := hp.its
  have h1 := la_loop (a := procD p) (mu := mu) ho p.items [] [] none none (by simp; omega) (by simp; omega) hp.wd
  rw [List.nil_append, List.nil_append, law_giv] at h1
  have h2 := pr_its p mu
  have s0 : (0 : Nat) ≤ sizeLine := by decide
  have s2 : (2 : Nat) ≤ sizeLine := by decide
  refine noX_ok ?_
  unfold laBody at h1
  generalize givL (without (intsP p) os) p = GG at *
  generalize prsL p.items = QQ at *
  generalize p.items.map itemD = II at *
  generalize procD p = PP at *
  simp [r__law_alike, startE, gTup_ok, s0, s2, h2, h1]
noncomputable def lsBody : MP.Env → M Fl := (sSet 2 (eBin gAdd (eVar 2) (eCall (lenD 2 dDif) (aCons (eBin gAdd (eC (.str "l..")) (eVar 3)) (aCons (eBin gAdd (eC (.str "r..")) (eVar 3)) aNil)))))
theorem ls_loop {a b e f : D} {mu : List MO} : ∀ (rs : List Str) (G : List D) (o3 : Option D), G.length + 2 * rs.length < 500 → (∀ r ∈ rs, r.length ≤ 900) →
    loopF (asgN 3) lsBody [3] [] (rs.map D.str) [some a, some b, some (.tup G), o3, some e, some f] mu = .ok (.nx [some a, some b, some (.tup (G ++ resL rs)), none, some e, some f]) mu
  | [], G, o3, _, _ => by
    show loopF _ _ _ [] [] _ _ = _
    rw [loopF_nil]
    simp [resL, wipeE]
  | r :: rs, G, o3, hG, hw => by
    rw [List.length_cons] at hG
    have hr := hw r (by simp)
    have a1 := ldd2 (x := r) (mu := mu) hr
    have a2 := rdd2 (x := r) (mu := mu) hr
    have b1 := law_dif_ok (a := "l.." ++ r) (b := "r.." ++ r) (mu := mu)
    have ha := gAdd_tup (xs := G) (ys := dif ("l.." ++ r) ("r.." ++ r)) (mu := mu) (small_size (by rw [dif_len]; omega))
    have ih := ls_loop (a := a) (b := b) (e := e) (f := f) (mu := mu) rs (G ++ dif ("l.." ++ r) ("r.." ++ r)) (some (.str r)) (by rw [List.length_append, dif_len]; omega) (fun x hx => hw x (by simp [hx]))
    have e1 : G ++ resL (r :: rs) = G ++ dif ("l.." ++ r) ("r.." ++ r) ++ resL rs := by unfold resL; rw [List.flatMap_cons, List.append_assoc]
    have st : lsBody [some a, some b, some (.tup G), some (.str r), some e, some f] mu = .ok (.nx [some a, some b, some (.tup (G ++ dif ("l.." ++ r) ("r.." ++ r))), some (.str r), some e, some f]) mu := by
      generalize dif ("l.." ++ r) ("r.." ++ r) = DD at *
      generalize ("l.." ++ r : Str) = S1 at *
      generalize ("r.." ++ r : Str) = S2 at *
      simp [-gAdd_str, lsBody, a1, a2, b1, ha]
    rw [List.map_cons, e1]
    exact (loopF_step rfl st).trans ih
noncomputable abbrev dLse : List D → M Rv := den__law_secret dAli dDif
noncomputable abbrev dLgr : List D → M Rv := den__law_grows dAli (pureD formF)
theorem lsec_ok {p : Pr} {od : D} {ss : List Str} {mu : List MO} (hp : PW p) (ho : Names od ss) : dLse [procD p, od] mu = .ok (.vl (secD p ss)) mu := by
  have h4 := hp.res
  have h0 := alike_ok (mu := mu) hp ho
  have h1 := ls_loop (a := procD p) (b := od) (e := .tup (givL (without (intsP p) ss) p)) (f := .tup (prsL p.items)) (mu := mu) p.results [] none (by simp; omega) hp.rw_
  rw [List.nil_append] at h1
  have h2 := pr_res p mu
  have h3 := pr_nm p mu
  have b1 := law_dif_ok (a := "l..count") (b := "r..count") (mu := mu)
  have ha := gAdd_tup (xs := resL p.results) (ys := dif "l..count" "r..count") (mu := mu) (small_size (by rw [resL_len, dif_len]; omega))
  have s0 : (0 : Nat) ≤ sizeLine := by decide
  have s6 : (6 : Nat) ≤ sizeLine := by decide
  refine noX_ok ?_
  unfold lsBody at h1
  unfold secD cntL
  generalize resL p.results ++ dif "l..count" "r..count" = RD at *
  generalize resL p.results = RR at *
  generalize dif "l..count" "r..count" = CD at *
  generalize givL (without (intsP p) ss) p = GG at *
  generalize prsL p.items = QQ at *
  generalize p.results.map D.str = II at *
  generalize procD p = PP at *
  generalize p.name = NN at *
  simp [r__law_secret, startE, h0, gTup_ok, s0, s6, h2, h1, h3, b1, ha]
theorem form4 {i j : Int} {a b c d : Str} {mu : List MO} : pureD formF [.int 0, .fl [.tup [.str a, .int i], .tup [.str b, .int (-i)], .tup [.str c, .int j], .tup [.str d, .int (-j)]]] mu = .ok (.vl (fD 0 (canon (four i j a b c d)))) mu :=
  form_mid (c := 0) (ps := four i j a b c d) rfl (by simp [four])
theorem form2 {a b : Str} {mu : List MO} : pureD formF [.int 0, .fl [.tup [.str a, .int 1], .tup [.str b, .int (-1)]]] mu = .ok (.vl (mD a b)) mu :=
  form_mid (c := 0) (ps := [(a, 1), (b, -1)]) rfl (by simp)
theorem lgr_ok0 {p : Pr} {x r : Str} {mu : List MO} (hp : PW p) (hxl : x.length ≤ 900) (hr : p.results = [r]) : dLgr [procD p, .str x, .fl []] mu = .ok (.vl (groD p x r)) mu := by
  have h0 := alike_ok (od := .fl [.str x]) (mu := mu) hp (names_fl [x])
  have h2 := pr_res p mu
  rw [hr] at h2
  have h3 := pr_nm p mu
  have hrl : r.length ≤ 900 := hp.rw_ r (by rw [hr]; simp)
  have a1 := lat2 (x := x) (mu := mu) hxl
  have a2 := rat2 (x := x) (mu := mu) hxl
  have a3 := ldd2 (x := r) (mu := mu) hrl
  have a4 := rdd2 (x := r) (mu := mu) hrl
  have f1 := form2 (a := "r.@" ++ x) (b := "l.@" ++ x) (mu := mu)
  have f2 := form2 (a := "r.." ++ r) (b := "l.." ++ r) (mu := mu)
  have gl := givL_len (ns := without (intsP p) [x]) p.items
  have ha := gAdd_tup (xs := givL (without (intsP p) [x]) p) (ys := [mD ("r.@" ++ x) ("l.@" ++ x)]) (mu := mu) (small_size (by have := hp.its; unfold givL; rw [List.length_singleton]; omega))
  have s0 : (0 : Nat) ≤ sizeLine := by decide
  have s1 : (1 : Nat) ≤ sizeLine := by decide
  have s2 : (2 : Nat) ≤ sizeLine := by decide
  have s6 : (6 : Nat) ≤ sizeLine := by decide
  have ee : gEq false (.tup []) (.tup []) mu = .ok (.bl true) mu := rfl
  refine noX_ok ?_
  unfold groD
  generalize mD ("r.@" ++ x) ("l.@" ++ x) = MM at *
  generalize mD ("r.." ++ r) ("l.." ++ r) = MR at *
  generalize givL (without (intsP p) [x]) p ++ [MM] = GM at *
  generalize givL (without (intsP p) [x]) p = GG at *
  generalize prsL p.items = QQ at *
  generalize procD p = PP at *
  generalize p.name = NN at *
  generalize ("l.@" ++ x : Str) = S1 at *
  generalize ("r.@" ++ x : Str) = S2 at *
  generalize ("l.." ++ r : Str) = S3 at *
  generalize ("r.." ++ r : Str) = S4 at *
  simp only [List.map_cons, List.map_nil] at h2
  simp [-gAdd_str, r__law_grows, startE, h0, gTup_ok, s0, s1, s2, s6, h2, h3, a1, a2, a3, a4, gNeg, f1, f2, ha, loopF_nil, wipeE, ee]
theorem gAdd_fl4 {a b c d : D} {mu : List MO} : gAdd (.fl [a, b]) (.fl [c, d]) mu = .ok (.fl [a, b, c, d]) mu := gAdd_fl (xs := [a, b]) (ys := [c, d]) (small_size (by simp))
theorem lgr_ok1 {p : Pr} {x r : Str} {k : Int} {mu : List MO} (hp : PW p) (hxl : x.length ≤ 900) (hr : p.results = [r]) : dLgr [procD p, .str x, .fl [.int k]] mu = .ok (.vl (movD p x r k)) mu := by
  have h0 := alike_ok (od := .fl [.str x]) (mu := mu) hp (names_fl [x])
  have h2 := pr_res p mu
  rw [hr] at h2
  have h3 := pr_nm p mu
  have hrl : r.length ≤ 900 := hp.rw_ r (by rw [hr]; simp)
  have a1 := lat2 (x := x) (mu := mu) hxl
  have a2 := rat2 (x := x) (mu := mu) hxl
  have a3 := ldd2 (x := r) (mu := mu) hrl
  have a4 := rdd2 (x := r) (mu := mu) hrl
  have f1 := form2 (a := "r.@" ++ x) (b := "l.@" ++ x) (mu := mu)
  have f2 := form4 (i := k) (j := -1) (a := "r.@" ++ x) (b := "l.@" ++ x) (c := "r.." ++ r) (d := "l.." ++ r) (mu := mu)
  have f3 := form4 (i := k) (j := 1) (a := "r.@" ++ x) (b := "l.@" ++ x) (c := "r.." ++ r) (d := "l.." ++ r) (mu := mu)
  rw [Int.neg_neg] at f2
  have gl := givL_len (ns := without (intsP p) [x]) p.items
  have ha := gAdd_tup (xs := givL (without (intsP p) [x]) p) (ys := [mD ("r.@" ++ x) ("l.@" ++ x)]) (mu := mu) (small_size (by have := hp.its; unfold givL; rw [List.length_singleton]; omega))
  have s0 : (0 : Nat) ≤ sizeLine := by decide
  have s1 : (1 : Nat) ≤ sizeLine := by decide
  have s2 : (2 : Nat) ≤ sizeLine := by decide
  have s6 : (6 : Nat) ≤ sizeLine := by decide
  have f4 : ∀ a b c d : D, gAdd (.fl [a, b]) (.fl [c, d]) mu = .ok (.fl [a, b, c, d]) mu := fun a b c d => gAdd_fl4
  have t0 : ∀ a : D, gAdd (.tup []) (.tup [a]) mu = .ok (.tup [a]) mu := fun a => gAdd_tup (xs := []) (ys := [a]) (small_size (by simp))
  have t1 : ∀ a b : D, gAdd (.tup [a]) (.tup [b]) mu = .ok (.tup [a, b]) mu := fun a b => gAdd_tup (xs := [a]) (ys := [b]) (small_size (by simp))
  have okf : ∀ c ps, okE (fD c ps) = true ∧ dep (fD c ps) ≤ 4 := fun c ps => by
    have h1 : okEs (ps.map MP.pairD) = true ∧ deps (ps.map MP.pairD) ≤ 1 := by
      induction ps with
      | nil => exact ⟨rfl, by simp [deps]⟩
      | cons p r ih =>
        rw [List.map_cons, okEs, deps, ih.1]
        refine ⟨rfl, ?_⟩
        have : dep (MP.pairD p) = 1 := rfl
        rw [this]
        have := ih.2
        omega
    have e1 : okE (fD c ps) = (okE (.int c) && (okEs (ps.map MP.pairD) && true)) := rfl
    have e2 : dep (fD c ps) = max (dep (.int c)) (max (deps (ps.map MP.pairD) + 1) 0) + 1 := rfl
    have e3 : dep (.int c) = 0 := rfl
    rw [e1, e2, h1.1, e3]
    exact ⟨rfl, by omega⟩
  have ee : ∀ a b : D, okE a = true ∧ dep a ≤ 4 → okE b = true ∧ dep b ≤ 4 → gEq false (.tup [a, b]) (.tup []) mu = .ok (.bl false) mu := fun a b ha hb => by
    unfold gEq
    have o1 : okE (.tup [a, b]) = true := by show (okE a && (okE b && true)) = true; rw [ha.1, hb.1]; rfl
    have d1 : dep (.tup [a, b]) = max (dep a) (max (dep b) 0) + 1 := rfl
    have hd1 := ha.2
    have hd2 := hb.2
    have o2 : okE (.tup []) = true := rfl
    have d2 : dep (.tup []) = 1 := rfl
    have q : eqD (.tup [a, b]) (.tup []) = false := rfl
    have d3 : dep (.tup [a, b]) < 64 := by rw [d1]; omega
    rw [bind_ap, need_ap, if_pos ⟨o1, o2, d3⟩, q]
    rfl
  have ee1 := ee _ _ (okf 0 (canon (four k (-1) ("r.@" ++ x) ("l.@" ++ x) ("r.." ++ r) ("l.." ++ r)))) (okf 0 (canon (four k 1 ("r.@" ++ x) ("l.@" ++ x) ("r.." ++ r) ("l.." ++ r))))
  refine noX_ok ?_
  unfold movD
  generalize fD 0 (canon (four k (-1) ("r.@" ++ x) ("l.@" ++ x) ("r.." ++ r) ("l.." ++ r))) = F1 at *
  generalize fD 0 (canon (four k 1 ("r.@" ++ x) ("l.@" ++ x) ("r.." ++ r) ("l.." ++ r))) = F2 at *
  generalize mD ("r.@" ++ x) ("l.@" ++ x) = MM at *
  generalize givL (without (intsP p) [x]) p ++ [MM] = GM at *
  generalize givL (without (intsP p) [x]) p = GG at *
  generalize prsL p.items = QQ at *
  generalize procD p = PP at *
  generalize p.name = NN at *
  generalize ("l.@" ++ x : Str) = S1 at *
  generalize ("r.@" ++ x : Str) = S2 at *
  generalize ("l.." ++ r : Str) = S3 at *
  generalize ("r.." ++ r : Str) = S4 at *
  simp only [List.map_cons, List.map_nil] at h2
  simp [-gAdd_str, r__law_grows, startE, h0, gTup_ok, s0, s1, s2, s6, h2, h3, a1, a2, a3, a4, gNeg, f1, f2, f3, f4, t0, t1, ha, loopF_cons, loopF_nil, wipeE, ee1]
end K06
namespace K06
open PySem L2 PyProof.Rows MP
theorem oks_map {α : Type} {f : α → D} {k : Nat} (h : ∀ a, okE (f a) = true ∧ dep (f a) ≤ k) : ∀ l : List α, okEs (l.map f) = true ∧ deps (l.map f) ≤ k
  | [] => ⟨rfl, Nat.zero_le _⟩
  | a :: l => by
    obtain ⟨h1, h2⟩ := oks_map h l
    obtain ⟨h3, h4⟩ := h a
    rw [List.map_cons, okEs, deps, h1, h3]
    exact ⟨rfl, by omega⟩
theorem item_okE (it : Bool × Str) : okE (itemD it) = true ∧ dep (itemD it) ≤ 1 := ⟨rfl, by show 1 ≤ 1; omega⟩
theorem bs_okE (b : Bs) : okE (bsD b) = true ∧ dep (bsD b) ≤ 5 := by cases b <;> exact ⟨rfl, by simp [bsD, numD, dep, deps]⟩
theorem proc_okE (p : Pr) : okE (procD p) = true ∧ dep (procD p) ≤ 8 := by
  obtain ⟨i1, i2⟩ := oks_map item_okE p.items
  obtain ⟨j1, j2⟩ := oks_map item_okE p.places
  obtain ⟨b1, b2⟩ := oks_map bs_okE p.body
  obtain ⟨r1, r2⟩ := oks_map (f := D.str) (k := 0) (fun _ => ⟨rfl, Nat.le_refl _⟩) p.results
  have e1 : okE (procD p) = (okE (.str p.name) && (okEs (p.items.map itemD) && (okEs (p.results.map D.str) && (okEs (p.places.map itemD) && (true && (true && (true && (true && (okEs (p.body.map bsD) && true))))))))) := rfl
  have e2 : dep (procD p) = max 0 (max (deps (p.items.map itemD) + 1) (max (deps (p.results.map D.str) + 1) (max (deps (p.places.map itemD) + 1) (max (0 + 1) (max (0 + 1) (max (0 + 1) (max (0 + 1) (max (deps (p.body.map bsD) + 1) 0)))))))) + 1 := rfl
  rw [e1, e2, i1, r1, j1, b1]
  exact ⟨rfl, by omega⟩
theorem gEq_procs {l : List Pr} {mu : List MO} : gEq false (.fl (l.map procD)) (.fl []) mu = .ok (.bl l.isEmpty) mu := by
  obtain ⟨h1, h2⟩ := oks_map proc_okE l
  unfold gEq
  have o1 : okE (.fl (l.map procD)) = true := h1
  have d1 : dep (.fl (l.map procD)) = deps (l.map procD) + 1 := rfl
  have d3 : dep (.fl (l.map procD)) < 64 := by rw [d1]; omega
  rw [bind_ap, need_ap, if_pos ⟨o1, rfl, d3⟩]
  cases l <;> rfl
theorem intsP_any {p : Pr} {x : Str} : ((p.items.map itemD).any fun y => eqD y (.tup [.str "int", .str x])) = (intsP p).contains x := by
  rw [List.any_map, Bool.eq_iff_iff, List.contains_iff_mem, List.any_eq_true]
  unfold intsP
  rw [List.mem_map]
  have e : ∀ it : Bool × Str, eqD (itemD it) (.tup [.str "int", .str x]) = (!it.1 && it.2 == x) := fun it => by
    obtain ⟨k, w⟩ := it
    have q : eqD (itemD (k, w)) (.tup [.str "int", .str x]) = ((kindS k == Str.ofString "int") && ((w == x) && true)) := rfl
    rw [q, kind_int, Bool.and_true]
  constructor
  · rintro ⟨it, hm, h⟩
    have h : eqD (itemD it) (.tup [.str "int", .str x]) = true := h
    rw [e, Bool.and_eq_true] at h
    exact ⟨it, List.mem_filter.mpr ⟨hm, h.1⟩, eq_of_beq h.2⟩
  · rintro ⟨it, hm, h⟩
    obtain ⟨hm, h1⟩ := List.mem_filter.mp hm
    refine ⟨it, hm, ?_⟩
    show eqD (itemD it) (.tup [.str "int", .str x]) = true
    rw [e, Bool.and_eq_true]
    exact ⟨h1, by rw [h]; simp⟩
theorem gIn_items {p : Pr} {x : Str} {mu : List MO} : gIn true (.tup [.str "int", .str x]) (.tup (p.items.map itemD)) mu = .ok (.bl !(intsP p).contains x) mu := by
  obtain ⟨i1, i2⟩ := oks_map item_okE p.items
  have e : gIn true (.tup [.str "int", .str x]) (.tup (p.items.map itemD)) = (rdQ (.tup (p.items.map itemD)) >>= fun ys => need (okE (.tup [.str "int", .str x]) = true ∧ okEs ys = true ∧ deps ys < 60) >>= fun _ => pure (.bl ((ys.any fun y => eqD y (.tup [.str "int", .str x])) != true)) : M D) := rfl
  rw [e]
  have r : rdQ (.tup (p.items.map itemD)) mu = .ok (p.items.map itemD) mu := rfl
  rw [bind_ap, r]
  show (need (okE (.tup [.str "int", .str x]) = true ∧ okEs (p.items.map itemD) = true ∧ deps (p.items.map itemD) < 60) >>= fun _ => pure (.bl (((p.items.map itemD).any fun y => eqD y (.tup [.str "int", .str x])) != true)) : M D) mu = _
  rw [bind_ap, need_ap, if_pos ⟨rfl, i1, by omega⟩, intsP_any]
  show R.ok (D.bl ((intsP p).contains x != true)) mu = _
  cases (intsP p).contains x <;> rfl
theorem due_any {p : Pr} {ss : List Str} {a b c e f : D} {mu : List MO} : loopC (asgN 7) tYesM (eBin (gIn true) (aThen gTup (aCons (eC (.str "int")) (aCons (eVar 7) aNil))) (eBin gIx (eVar 6) (eC (.int 1)))) [] (ss.map D.str) [some a, some b, some c, some (.tup (ss.map D.str)), some e, some f, some (procD p), none] mu = .ok (ss.map fun s => D.bl !(intsP p).contains s) mu :=
  loopC_map' fun s hs => ⟨_, rfl, rfl, by
    have hi := gIn_items (p := p) (x := s) (mu := mu)
    have h1 := pr_its p mu
    have s2 : (2 : Nat) ≤ sizeLine := by decide
    generalize p.items.map itemD = II at *
    generalize procD p = PP at *
    generalize ss.map D.str = SS at *
    simp [gTup_ok, s2, h1, hi]⟩
noncomputable abbrev dDue : List D → M Rv := den__law_due dLse dLgr
def unkD (n : Str) : D := .tup [.str "unknown", .str n]
def badD : D := .tup [.str "bad"]
def claimD (d : D) : D := .tup [.str "claim", d]
theorem due_filter {ps : List Pr} {n : Str} {b c e : D} {mu : List MO} : loopC (asgN 6) (eB (eBin (gEq false) (eBin gIx (eVar 6) (eC (.int 0))) (eVar 1))) (eVar 6) [] (ps.map procD) [some (coreD ps), some (.str n), some b, some c, some e, none, none, none] mu = .ok ((ps.filter fun q => q.name == n).map procD) mu :=
  loopC_filter' fun q hq => ⟨_, rfl, by simp [procD, gEq_strs], fun _ => by simp⟩
theorem filter_none {ps : List Pr} {n : Str} (h : findP ps n = none) : ps.filter (fun q => q.name == n) = [] := by
  have := List.find?_eq_none.mp h
  rw [List.filter_eq_nil_iff]
  exact this
theorem filter_some {ps : List Pr} {n : Str} {p : Pr} (h : findP ps n = some p) : ∃ r, ps.filter (fun q => q.name == n) = p :: r := by
  unfold findP at h
  rw [← List.head?_filter] at h
  cases hf : ps.filter (fun q => q.name == n) with
  | nil => rw [hf] at h; cases h
  | cons q r => rw [hf] at h; cases h; exact ⟨r, rfl⟩
theorem due_no {ps : List Pr} {n kind : Str} {ss : List Str} {k : Int} {mu : List MO} (h : findP ps n = none) : dDue [coreD ps, .str n, .str kind, .tup (ss.map D.str), .int k] mu = .ok (.vl (unkD n)) mu := by
  have h1 := due_filter (ps := ps) (n := n) (b := .str kind) (c := .tup (ss.map D.str)) (e := .int k) (mu := mu)
  rw [filter_none h] at h1
  have s2 : (2 : Nat) ≤ sizeLine := by decide
  have ee : gEq false (.fl []) (.fl []) mu = .ok (.bl true) mu := rfl
  have w : coreD ps = .tup (ps.map procD) := rfl
  rw [w] at h1 ⊢
  generalize ps.map procD = CC at *
  generalize ss.map D.str = SS at *
  refine noX_ok ?_
  simp only [List.map_nil] at h1
  simp [r__law_due, startE, noX_ok h1, ee, gTup_ok, s2, unkD]
theorem due_bad {ps : List Pr} {n kind : Str} {p : Pr} {ss : List Str} {k : Int} {mu : List MO} (h : findP ps n = some p)
    (hb : (ss.any fun s => !(intsP p).contains s) = true ∨ (kind == "secret") = false ∧ ¬ p.results.length = 1) : dDue [coreD ps, .str n, .str kind, .tup (ss.map D.str), .int k] mu = .ok (.vl badD) mu := by
  obtain ⟨r, hr⟩ := filter_some h
  have h1 := due_filter (ps := ps) (n := n) (b := .str kind) (c := .tup (ss.map D.str)) (e := .int k) (mu := mu)
  have h2 := gEq_procs (l := ps.filter fun q => q.name == n) (mu := mu)
  rw [hr] at h1 h2
  have h3 := due_any (p := p) (ss := ss) (a := coreD ps) (b := .str n) (c := .str kind) (e := .int k) (f := .fl ((p :: r).map procD)) (mu := mu)
  have h4 := gAny_map (p := fun s : Str => !(intsP p).contains s) (mu := mu) ss
  have h5 := pr_res p mu
  have h6 := len_res (rs := p.results) (mu := mu)
  have s1 : (1 : Nat) ≤ sizeLine := by decide
  have w : coreD ps = .tup (ps.map procD) := rfl
  have hl : (((p.results.length : Nat) : Int) == 1) = decide (p.results.length = 1) := by
    rw [Bool.eq_iff_iff]; simp; omega
  rw [w] at h1 h3 ⊢
  rw [List.map_cons] at h1 h2 h3
  have h2 : gEq false (.fl (procD p :: r.map procD)) (.fl []) mu = .ok (.bl false) mu := h2
  generalize (ss.map fun s => D.bl !(intsP p).contains s) = BB at *
  generalize (ss.any fun s => !(intsP p).contains s) = any at *
  generalize ps.map procD = CC at *
  generalize ss.map D.str = SS at *
  generalize p.results.map D.str = RR at *
  generalize r.map procD = RP at *
  generalize procD p = PP at *
  refine noX_ok ?_
  cases any with
  | true => simp [r__law_due, startE, noX_ok h1, h2, noX_ok h3, h4, gTup_ok, s1, badD]
  | false =>
    obtain ⟨k1, k2⟩ := hb.resolve_left (by decide)
    have kk : gEq true (.str kind) (.str (Str.ofString "secret")) mu = .ok (.bl true) mu := by rw [gEq_strs, k1]; rfl
    simp [r__law_due, startE, noX_ok h1, h2, noX_ok h3, h4, h5, h6, gTup_ok, s1, badD, kk, gEq_ints, hl, k2]
theorem due_sec {ps : List Pr} {n : Str} {p : Pr} {ss : List Str} {k : Int} {mu : List MO} (h : findP ps n = some p) (hp : PW p) (hs : (ss.any fun s => !(intsP p).contains s) = false) : dDue [coreD ps, .str n, .str "secret", .tup (ss.map D.str), .int k] mu = .ok (.vl (claimD (secD p ss))) mu := by
  obtain ⟨r, hr⟩ := filter_some h
  have h1 := due_filter (ps := ps) (n := n) (b := .str "secret") (c := .tup (ss.map D.str)) (e := .int k) (mu := mu)
  have h2 := gEq_procs (l := ps.filter fun q => q.name == n) (mu := mu)
  rw [hr] at h1 h2
  have h3 := due_any (p := p) (ss := ss) (a := coreD ps) (b := .str n) (c := .str "secret") (e := .int k) (f := .fl ((p :: r).map procD)) (mu := mu)
  have h4 := gAny_map (p := fun s : Str => !(intsP p).contains s) (mu := mu) ss
  have h5 := lsec_ok (mu := mu) hp (names_tup ss)
  have s2 : (2 : Nat) ≤ sizeLine := by decide
  have w : coreD ps = .tup (ps.map procD) := rfl
  rw [w] at h1 h3 ⊢
  rw [List.map_cons] at h1 h2 h3
  have h2 : gEq false (.fl (procD p :: r.map procD)) (.fl []) mu = .ok (.bl false) mu := h2
  rw [hs] at h4
  unfold claimD
  generalize (ss.map fun s => D.bl !(intsP p).contains s) = BB at *
  generalize ps.map procD = CC at *
  generalize secD p ss = FF at *
  generalize ss.map D.str = SS at *
  generalize r.map procD = RP at *
  generalize procD p = PP at *
  refine noX_ok ?_
  simp [r__law_due, startE, noX_ok h1, h2, noX_ok h3, h4, h5, gTup_ok, s2, gEq_strs]
theorem kinds_ne : (Str.ofString "growing" == Str.ofString "secret") = false ∧ (Str.ofString "moved" == Str.ofString "secret") = false ∧ (Str.ofString "moved" == Str.ofString "growing") = false := by decide +kernel
theorem due_gro {ps : List Pr} {n x r0 : Str} {p : Pr} {k : Int} {mu : List MO} (h : findP ps n = some p) (hp : PW p) (hs : (intsP p).contains x = true) (hxl : x.length ≤ 900) (hrs : p.results = [r0]) : dDue [coreD ps, .str n, .str "growing", .tup [.str x], .int k] mu = .ok (.vl (claimD (groD p x r0))) mu := by
  obtain ⟨r, hr⟩ := filter_some h
  have h1 := due_filter (ps := ps) (n := n) (b := .str "growing") (c := .tup ([x].map D.str)) (e := .int k) (mu := mu)
  have h2 := gEq_procs (l := ps.filter fun q => q.name == n) (mu := mu)
  rw [hr] at h1 h2
  have h3 := due_any (p := p) (ss := [x]) (a := coreD ps) (b := .str n) (c := .str "growing") (e := .int k) (f := .fl ((p :: r).map procD)) (mu := mu)
  have h4 := gAny_map (p := fun s : Str => !(intsP p).contains s) (mu := mu) [x]
  have h5 := lgr_ok0 (p := p) (x := x) (r := r0) (mu := mu) hp hxl hrs
  have h6 := pr_res p mu
  have h7 := len_res (rs := p.results) (mu := mu)
  rw [hrs] at h6 h7
  have s2 : (2 : Nat) ≤ sizeLine := by decide
  have w : coreD ps = .tup (ps.map procD) := rfl
  rw [w] at h1 h3 ⊢
  rw [List.map_cons] at h1 h2 h3
  have h2 : gEq false (.fl (procD p :: r.map procD)) (.fl []) mu = .ok (.bl false) mu := h2
  have ha : ([x].any fun s => !(intsP p).contains s) = false := by simp only [List.any_cons, List.any_nil, hs]; rfl
  rw [ha] at h4
  have k1 : gEq true (.str (Str.ofString "growing")) (.str (Str.ofString "secret")) mu = .ok (.bl true) mu := by rw [gEq_strs, kinds_ne.1]; rfl
  have k2 : gEq false (.str (Str.ofString "growing")) (.str (Str.ofString "secret")) mu = .ok (.bl false) mu := by rw [gEq_strs, kinds_ne.1]; rfl
  have k3 : gEq false (.str (Str.ofString "growing")) (.str (Str.ofString "growing")) mu = .ok (.bl true) mu := by rw [gEq_strs]; simp
  unfold claimD
  simp only [List.map_cons, List.map_nil] at h1 h3 h4 h6 h7
  generalize D.bl (!(intsP p).contains x) = BB at *
  generalize ps.map procD = CC at *
  generalize groD p x r0 = FF at *
  generalize r.map procD = RP at *
  generalize procD p = PP at *
  refine noX_ok ?_
  simp [r__law_due, startE, noX_ok h1, h2, noX_ok h3, h4, h5, h6, h7, gTup_ok, s2, gEq_ints, k1, k2, k3]
theorem due_mov {ps : List Pr} {n x r0 : Str} {p : Pr} {k : Int} {mu : List MO} (h : findP ps n = some p) (hp : PW p) (hs : (intsP p).contains x = true) (hxl : x.length ≤ 900) (hrs : p.results = [r0]) : dDue [coreD ps, .str n, .str "moved", .tup [.str x], .int k] mu = .ok (.vl (claimD (movD p x r0 k))) mu := by
  obtain ⟨r, hr⟩ := filter_some h
  have h1 := due_filter (ps := ps) (n := n) (b := .str "moved") (c := .tup ([x].map D.str)) (e := .int k) (mu := mu)
  have h2 := gEq_procs (l := ps.filter fun q => q.name == n) (mu := mu)
  rw [hr] at h1 h2
  have h3 := due_any (p := p) (ss := [x]) (a := coreD ps) (b := .str n) (c := .str "moved") (e := .int k) (f := .fl ((p :: r).map procD)) (mu := mu)
  have h4 := gAny_map (p := fun s : Str => !(intsP p).contains s) (mu := mu) [x]
  have h5 := lgr_ok1 (p := p) (x := x) (r := r0) (k := k) (mu := mu) hp hxl hrs
  have h6 := pr_res p mu
  have h7 := len_res (rs := p.results) (mu := mu)
  rw [hrs] at h6 h7
  have s1 : (1 : Nat) ≤ sizeLine := by decide
  have s2 : (2 : Nat) ≤ sizeLine := by decide
  have w : coreD ps = .tup (ps.map procD) := rfl
  rw [w] at h1 h3 ⊢
  rw [List.map_cons] at h1 h2 h3
  have h2 : gEq false (.fl (procD p :: r.map procD)) (.fl []) mu = .ok (.bl false) mu := h2
  have ha : ([x].any fun s => !(intsP p).contains s) = false := by simp only [List.any_cons, List.any_nil, hs]; rfl
  rw [ha] at h4
  have k1 : gEq true (.str (Str.ofString "moved")) (.str (Str.ofString "secret")) mu = .ok (.bl true) mu := by rw [gEq_strs, kinds_ne.2.1]; rfl
  have k2 : gEq false (.str (Str.ofString "moved")) (.str (Str.ofString "secret")) mu = .ok (.bl false) mu := by rw [gEq_strs, kinds_ne.2.1]; rfl
  have k3 : gEq false (.str (Str.ofString "moved")) (.str (Str.ofString "growing")) mu = .ok (.bl false) mu := by rw [gEq_strs, kinds_ne.2.2]; rfl
  unfold claimD
  simp only [List.map_cons, List.map_nil] at h1 h3 h4 h6 h7
  generalize D.bl (!(intsP p).contains x) = BB at *
  generalize ps.map procD = CC at *
  generalize movD p x r0 k = FF at *
  generalize r.map procD = RP at *
  generalize procD p = PP at *
  refine noX_ok ?_
  simp [r__law_due, startE, noX_ok h1, h2, noX_ok h3, h4, h5, h6, h7, gTup_ok, s1, s2, gEq_ints, k1, k2, k3]
/-! ### what is told -/
noncomputable abbrev dTold : List D → M Rv := den__law_told dSec dGro dMov
theorem hd_unk (n : Str) : xt_UnknownName "UnknownName" = some true ∧ xt_BadClaim "UnknownName" = some false ∧ xt_BadWalk "UnknownName" = some false ∧ xt_DifferwithinError "UnknownName" = some true := ⟨by decide +kernel, by decide +kernel, by decide +kernel, by decide +kernel⟩
theorem hd_bad : xt_UnknownName "BadClaim" = some false ∧ xt_BadClaim "BadClaim" = some true ∧ xt_BadWalk "BadClaim" = some false ∧ xt_DifferwithinError "BadClaim" = some true ∧ xt_ValueError "BadClaim" = some true := ⟨by decide +kernel, by decide +kernel, by decide +kernel, by decide +kernel, by decide +kernel⟩
noncomputable def tdH : List Hd := [(xt_UnknownName, asH 5 (fun ex => (sSeq (eIf (bOr (eB (eIs xt_BadClaim ex)) (bOr (eB (eIs xt_BadWalk ex)) (bNot (eB (eIs xt_DifferwithinError ex)))))
  (sRet (aThen gTup (aCons (eC (.str "strange")) aNil)))
  sNext)
  (sRet (aThen gTup (aCons (eC (.str "unknown")) (aCons (eFld ft_name "name" ex) aNil))))))), (xt_BadClaim, asH 5 (fun ex => (sSeq (eIf (bOr (eB (eIs xt_BadWalk ex)) (bOr (bNot (eB (eIs xt_DifferwithinError ex))) (bNot (eB (eIs xt_ValueError ex)))))
  (sRet (aThen gTup (aCons (eC (.str "strange")) aNil)))
  sNext)
  (sRet (aThen gTup (aCons (eC (.str "bad")) aNil))))))]
theorem pick_unk {n : Str} {a b c d e : D} {mu : List MO} : pickH tdH ⟨"UnknownName", [(("name" : Str), .str n)]⟩ [some a, some b, some c, some d, some e, none] mu = .ok (.rt (.vl (unkD n))) mu := by
  have s2 : (2 : Nat) ≤ sizeLine := by decide
  obtain ⟨h1, h2, h3, h4⟩ := hd_unk n
  unfold tdH
  rw [pick_yes h1]
  have f1 : ft_name "UnknownName" = true := by decide +kernel
  have f2 : List.lookup ("name" : Str) [(("name" : Str), D.str n)] = some (.str n) := by simp [List.lookup]
  refine noX_ok ?_
  show asH 5 _ _ [some a, some b, some c, some d, some e, none] mu = _
  unfold asH
  simp [h2, h3, h4, f1, f2, gTup_ok, s2, unkD, goneR]
theorem pick_bad {a b c d e : D} {mu : List MO} : pickH tdH ⟨"BadClaim", []⟩ [some a, some b, some c, some d, some e, none] mu = .ok (.rt (.vl badD)) mu := by
  have s1 : (1 : Nat) ≤ sizeLine := by decide
  obtain ⟨h1, h2, h3, h4, h5⟩ := hd_bad
  unfold tdH
  rw [pick_no h1, pick_yes h2]
  refine noX_ok ?_
  show asH 5 _ _ [some a, some b, some c, some d, some e, none] mu = _
  unfold asH
  simp [h3, h4, h5, gTup_ok, s1, badD, goneR]
end K06
namespace K06
open PySem L2 PyProof.Rows MP
noncomputable def tdB : MP.Env → MP.Env → M Fl := fun h => (sSeq (eIf (eB (eBin (gEq false) (eVar 2) (eC (.str "secret"))))
  (sRet (aThen gTup (aCons (eC (.str "claim")) (aCons (eCallT [5] h (lenD 3 dSec) (aCons (eVar 0) (aCons (eVar 1) (aCons (eVar 3) aNil)))) aNil))))
  sNext)
  (sSeq (eIf (eB (eBin (gEq false) (eVar 2) (eC (.str "growing"))))
  (sRet (aThen gTup (aCons (eC (.str "claim")) (aCons (eCallT [5] h (lenD 3 dGro) (aCons (eVar 0) (aCons (eVar 1) (aCons (eBin gIx (eVar 3) (eC (.int 0))) aNil)))) aNil))))
  sNext)
  (sRet (aThen gTup (aCons (eC (.str "claim")) (aCons (eCallT [5] h (lenD 4 dMov) (aCons (eVar 0) (aCons (eVar 1) (aCons (eBin gIx (eVar 3) (eC (.int 0))) (aCons (eVar 4) aNil))))) aNil))))))
def tdE (a b c d e : D) : MP.Env := [some a, some b, some c, some d, some e, none]
theorem told_ok {a b c d e v : D} {mu : List MO} (h : tdB (tdE a b c d e) (tdE a b c d e) mu = .ok (.rt (.vl v)) mu) : dTold [a, b, c, d, e] mu = .ok (.vl v) mu := by
  have e1 : sTry [5] tdB tdH (tdE a b c d e) mu = tryR tdH (tdE a b c d e) (tdB (tdE a b c d e) (tdE a b c d e) mu) := rfl
  rw [h] at e1
  refine noX_ok ?_
  show (match sTry [5] tdB tdH (tdE a b c d e) mu with
    | .ok (.rt rv) mu' => .ok rv mu'
    | .ok (.nx _) mu' => .ok (.vl .non) mu'
    | .ok _ _ => .bad
    | .exc x mu' => .exc x mu'
    | .bad => .bad : MP.R Rv) = _
  rw [e1]
  rfl
theorem told_exc {a b c d e v : D} {x : Xn} {mu : List MO} (h : tdB (tdE a b c d e) (tdE a b c d e) mu = .exc x mu) (hp : pickH tdH x (tdE a b c d e) mu = .ok (.rt (.vl v)) mu) : dTold [a, b, c, d, e] mu = .ok (.vl v) mu := by
  have e1 : sTry [5] tdB tdH (tdE a b c d e) mu = tryR tdH (tdE a b c d e) (tdB (tdE a b c d e) (tdE a b c d e) mu) := rfl
  rw [h, tryR_exc, hp] at e1
  refine noX_ok ?_
  show (match sTry [5] tdB tdH (tdE a b c d e) mu with
    | .ok (.rt rv) mu' => .ok rv mu'
    | .ok (.nx _) mu' => .ok (.vl .non) mu'
    | .ok _ _ => .bad
    | .exc x mu' => .exc x mu'
    | .bad => .bad : MP.R Rv) = _
  rw [e1]
/-- what a call within the try gives -/
theorem callT_ok {den : List D → M Rv} {rs : MP.Env → M (List D)} {E : MP.Env} {xs : List D} {v : D} {mu : List MO} (hE : wipeE E [5] = E) (h1 : rs E mu = .ok xs mu) (h2 : den xs mu = .ok (.vl v) mu) : eCallT [5] E den rs E mu = .ok v mu := by
  rw [eCallT_ap (fg := [5]) (h := E) (env := E) (den := den) (rs := rs) hE, bind_ap, h1]
  show (den xs >>= fun rv => pure (rvD rv) : M D) mu = _
  rw [bind_ap, h2]
  rfl
theorem callT_exc {den : List D → M Rv} {rs : MP.Env → M (List D)} {E : MP.Env} {xs : List D} {x : Xn} {mu : List MO} (hE : wipeE E [5] = E) (h1 : rs E mu = .ok xs mu) (h2 : den xs mu = .exc x mu) : eCallT [5] E den rs E mu = .exc x mu := by
  rw [eCallT_ap (fg := [5]) (h := E) (env := E) (den := den) (rs := rs) hE, bind_ap, h1]
  show (den xs >>= fun rv => pure (rvD rv) : M D) mu = _
  rw [bind_ap, h2]
theorem sec_sec {mu : List MO} : gEq false (.str (Str.ofString "secret")) (.str (Str.ofString "secret")) mu = .ok (.bl true) mu := by rw [gEq_strs]; simp
theorem gro_sec {mu : List MO} : gEq false (.str (Str.ofString "growing")) (.str (Str.ofString "secret")) mu = .ok (.bl false) mu := by rw [gEq_strs, kinds_ne.1]; rfl
theorem gro_gro {mu : List MO} : gEq false (.str (Str.ofString "growing")) (.str (Str.ofString "growing")) mu = .ok (.bl true) mu := by rw [gEq_strs]; simp
theorem mov_sec {mu : List MO} : gEq false (.str (Str.ofString "moved")) (.str (Str.ofString "secret")) mu = .ok (.bl false) mu := by rw [gEq_strs, kinds_ne.2.1]; rfl
theorem mov_gro {mu : List MO} : gEq false (.str (Str.ofString "moved")) (.str (Str.ofString "growing")) mu = .ok (.bl false) mu := by rw [gEq_strs, kinds_ne.2.2]; rfl
noncomputable abbrev rs3 : MP.Env → M (List D) := (aCons (eVar 0) (aCons (eVar 1) (aCons (eVar 3) aNil)))
noncomputable abbrev rs3x : MP.Env → M (List D) := (aCons (eVar 0) (aCons (eVar 1) (aCons (eBin gIx (eVar 3) (eC (.int 0))) aNil)))
noncomputable abbrev rs4x : MP.Env → M (List D) := (aCons (eVar 0) (aCons (eVar 1) (aCons (eBin gIx (eVar 3) (eC (.int 0))) (aCons (eVar 4) aNil))))
theorem tdB_sec {a b d e v : D} {mu : List MO} (h : dSec [a, b, d] mu = .ok (.vl v) mu) : tdB (tdE a b (.str "secret") d e) (tdE a b (.str "secret") d e) mu = .ok (.rt (.vl (claimD v))) mu := by
  have s2 : (2 : Nat) ≤ sizeLine := by decide
  have c := callT_ok (den := lenD 3 dSec) (rs := rs3) (E := tdE a b (.str "secret") d e) (xs := [a, b, d]) (v := v) (mu := mu) rfl rfl h
  unfold tdE at *
  simp [tdB, sec_sec, c, gTup_ok, s2, claimD]
theorem tdB_sec_x {a b d e : D} {x : Xn} {mu : List MO} (h : dSec [a, b, d] mu = .exc x mu) : tdB (tdE a b (.str "secret") d e) (tdE a b (.str "secret") d e) mu = .exc x mu := by
  have c := callT_exc (den := lenD 3 dSec) (rs := rs3) (E := tdE a b (.str "secret") d e) (xs := [a, b, d]) (x := x) (mu := mu) rfl rfl h
  unfold tdE at *
  simp [tdB, sec_sec, c]
theorem tdB_gro {a b z e v : D} {mu : List MO} (h : dGro [a, b, z] mu = .ok (.vl v) mu) : tdB (tdE a b (.str "growing") (.tup [z]) e) (tdE a b (.str "growing") (.tup [z]) e) mu = .ok (.rt (.vl (claimD v))) mu := by
  have s2 : (2 : Nat) ≤ sizeLine := by decide
  have c := callT_ok (den := lenD 3 dGro) (rs := rs3x) (E := tdE a b (.str "growing") (.tup [z]) e) (xs := [a, b, z]) (v := v) (mu := mu) rfl rfl h
  unfold tdE at *
  simp [tdB, gro_sec, gro_gro, c, gTup_ok, s2, claimD]
theorem tdB_gro_x {a b z e : D} {x : Xn} {mu : List MO} (h : dGro [a, b, z] mu = .exc x mu) : tdB (tdE a b (.str "growing") (.tup [z]) e) (tdE a b (.str "growing") (.tup [z]) e) mu = .exc x mu := by
  have c := callT_exc (den := lenD 3 dGro) (rs := rs3x) (E := tdE a b (.str "growing") (.tup [z]) e) (xs := [a, b, z]) (x := x) (mu := mu) rfl rfl h
  unfold tdE at *
  simp [tdB, gro_sec, gro_gro, c]
theorem tdB_mov {a b z e v : D} {mu : List MO} (h : dMov [a, b, z, e] mu = .ok (.vl v) mu) : tdB (tdE a b (.str "moved") (.tup [z]) e) (tdE a b (.str "moved") (.tup [z]) e) mu = .ok (.rt (.vl (claimD v))) mu := by
  have s2 : (2 : Nat) ≤ sizeLine := by decide
  have c := callT_ok (den := lenD 4 dMov) (rs := rs4x) (E := tdE a b (.str "moved") (.tup [z]) e) (xs := [a, b, z, e]) (v := v) (mu := mu) rfl rfl h
  unfold tdE at *
  simp [tdB, mov_sec, mov_gro, c, gTup_ok, s2, claimD]
theorem tdB_mov_x {a b z e : D} {x : Xn} {mu : List MO} (h : dMov [a, b, z, e] mu = .exc x mu) : tdB (tdE a b (.str "moved") (.tup [z]) e) (tdE a b (.str "moved") (.tup [z]) e) mu = .exc x mu := by
  have c := callT_exc (den := lenD 4 dMov) (rs := rs4x) (E := tdE a b (.str "moved") (.tup [z]) e) (xs := [a, b, z, e]) (x := x) (mu := mu) rfl rfl h
  unfold tdE at *
  simp [tdB, mov_sec, mov_gro, c]
/-! ### plain data -/
theorem plains_of {n : Nat} : ∀ {l : List D}, (∀ d ∈ l, plainD n d = true) → plainDs n l = true
  | [], _ => rfl
  | d :: l, h => by
    rw [plainDs, h d (by simp), plains_of fun x hx => h x (by simp [hx])]
    rfl
theorem plain_tup {n : Nat} {l : List D} (hl : l.length ≤ 1000) (h : ∀ d ∈ l, plainD n d = true) : plainD (n + 1) (.tup l) = true := by
  show (decide (l.length ≤ 1000) && plainDs n l) = true
  rw [decide_eq_true hl, plains_of h]
  rfl
theorem fD_plain {n : Nat} {c : Int} {ps : List (Str × Int)} (h : ps.length ≤ 900) : plainD (n + 4) (fD c ps) = true := by
  refine plain_tup (by simp) fun d hd => ?_
  simp at hd
  rcases hd with rfl | rfl
  · rfl
  · refine plain_tup (by rw [List.length_map]; omega) fun d hd => ?_
    obtain ⟨p, _, e⟩ := List.mem_map.mp hd
    subst e
    exact plain_tup (by simp) fun d hd => by
      simp at hd
      rcases hd with rfl | rfl <;> rfl
theorem mD_plain {n : Nat} {a b : Str} : plainD (n + 4) (mD a b) = true := fD_plain (by have := two_len (a := a) (b := b); unfold two at this; omega)
theorem dif_plain {n : Nat} {a b : Str} : ∀ d ∈ dif a b, plainD (n + 4) d = true := fun d hd => by
  simp [dif] at hd
  rcases hd with rfl | rfl <;> exact mD_plain
theorem giv_plain {n : Nat} {ns : List Str} {p : Pr} : ∀ d ∈ givL ns p, plainD (n + 4) d = true := fun d hd => by
  obtain ⟨it, _, h⟩ := List.mem_flatMap.mp hd
  unfold givI at h
  split at h
  · cases h
  · split at h
    · exact dif_plain d h
    · cases h
theorem res_plain {n : Nat} {rs : List Str} : ∀ d ∈ resL rs, plainD (n + 4) d = true := fun d hd => by
  obtain ⟨r, _, h⟩ := List.mem_flatMap.mp hd
  exact dif_plain d h
theorem prs_plain {n : Nat} {its : List (Bool × Str)} : ∀ d ∈ prsL its, plainD (n + 2) d = true := fun d hd => by
  obtain ⟨it, _, e⟩ := List.mem_map.mp hd
  subst e
  exact plain_tup (by simp) fun d hd => by
    simp at hd
    subst hd; rfl
theorem giv_len {p : Pr} {ns : List Str} (hp : PW p) : (givL ns p).length ≤ 8 := by
  have := givL_len (ns := ns) p.items
  have := hp.its
  unfold givL; omega
theorem prs_len {p : Pr} (hp : PW p) : (prsL p.items).length ≤ 4 := by
  have : (prsL p.items).length ≤ p.items.length := by unfold prsL; rw [List.length_map]; exact List.length_filter_le _ _
  have := hp.its
  omega
theorem claim_plain {d : D} (h : plainD 38 d = true) : plainD 39 (claimD d) = true := plain_tup (by simp) fun x hx => by
  simp at hx
  rcases hx with rfl | rfl
  · rfl
  · exact h
theorem secD_plain {p : Pr} {ss : List Str} (hp : PW p) : plainD 38 (secD p ss) = true := plain_tup (by simp) fun x hx => by
  simp at hx
  rcases hx with rfl | rfl | rfl | rfl | rfl
  · rfl
  · exact plain_tup (by have := giv_len (ns := without (intsP p) ss) hp; omega) fun d hd => giv_plain d hd
  · exact plain_tup (by have := prs_len hp; omega) fun d hd => prs_plain d hd
  · refine plain_tup (by have := hp.res; rw [List.length_append, resL_len]; show 2 * p.results.length + 2 ≤ 1000; omega) fun d hd => ?_
    rcases List.mem_append.mp hd with z | z
    · exact res_plain d z
    · exact dif_plain d z
  · exact plain_tup (by have := prs_len hp; omega) fun d hd => prs_plain d hd
theorem groD_plain {p : Pr} {x r : Str} (hp : PW p) : plainD 38 (groD p x r) = true := plain_tup (by simp) fun y hy => by
  simp at hy
  rcases hy with rfl | rfl | rfl | rfl | rfl
  · rfl
  · refine plain_tup (by have := giv_len (ns := without (intsP p) [x]) hp; rw [List.length_append, List.length_singleton]; omega) fun d hd => ?_
    rcases List.mem_append.mp hd with z | z
    · exact giv_plain d z
    · rw [List.mem_singleton.mp z]; exact mD_plain
  · exact plain_tup (by have := prs_len hp; omega) fun d hd => prs_plain d hd
  · exact plain_tup (by simp) fun d hd => by rw [List.mem_singleton.mp hd]; exact mD_plain
  · rfl
theorem movD_plain {p : Pr} {x r : Str} {k : Int} (hp : PW p) : plainD 38 (movD p x r k) = true := plain_tup (by simp) fun y hy => by
  simp at hy
  have h4 : ∀ i j a b c d, (canon (four i j a b c d)).length ≤ 900 := fun i j a b c d => by have := canon_len (four i j a b c d); have e : (four i j a b c d).length = 4 := rfl; rw [e] at this; omega
  rcases hy with rfl | rfl | rfl | rfl | rfl
  · rfl
  · refine plain_tup (by have := giv_len (ns := without (intsP p) [x]) hp; rw [List.length_append, List.length_singleton]; omega) fun d hd => ?_
    rcases List.mem_append.mp hd with z | z
    · exact giv_plain d z
    · rw [List.mem_singleton.mp z]; exact mD_plain
  · exact plain_tup (by have := prs_len hp; omega) fun d hd => prs_plain d hd
  · exact plain_tup (by simp) fun d hd => by
      simp at hd
      rcases hd with rfl | rfl <;> exact fD_plain (h4 ..)
  · rfl
theorem unk_plain {n : Str} : plainD 39 (unkD n) = true := rfl
theorem bad_plain : plainD 39 badD = true := rfl
/-! ### told and due agree -/
structure Agree (core n kind parm k : D) (mu : List MO) : Prop where
  ex : ∃ v, dTold [core, n, kind, parm, k] mu = .ok (.vl v) mu ∧ dDue [core, n, kind, parm, k] mu = .ok (.vl v) mu ∧ plainD 39 v = true
structure CW (ps : List Pr) : Prop where
  pr : ∀ p ∈ ps, PW p
theorem CW.find {ps : List Pr} {n : Str} {p : Pr} (h : CW ps) (hf : findP ps n = some p) : PW p := h.pr p (List.mem_of_find?_eq_some hf)
theorem all_any {ss is : List Str} : (ss.any fun s => !is.contains s) = !(ss.all fun s => is.contains s) := by
  induction ss with
  | nil => rfl
  | cons s r ih => rw [List.any_cons, List.all_cons, ih, Bool.not_and]
theorem agree_sec {ps : List Pr} {n : Str} {ss : List Str} {k : Int} {mu : List MO} (hw : CW ps) (hn : n.length ≤ 900) (hc : CloH mu) : Agree (coreD ps) (.str n) (.str "secret") (.tup (ss.map D.str)) (.int k) mu := by
  cases hf : findP ps n with
  | none => exact ⟨unkD n, told_exc (tdB_sec_x (sec_no hf hn)) pick_unk, due_no hf, unk_plain⟩
  | some p =>
    have hp := hw.find hf
    cases ha : (ss.all fun s => (intsP p).contains s) with
    | false => exact ⟨badD, told_exc (tdB_sec_x (sec_bad hf ha)) pick_bad, due_bad hf (.inl (by rw [all_any, ha]; rfl)), bad_plain⟩
    | true => exact ⟨claimD (secD p ss), told_ok (tdB_sec (sec_ok hf hp ha hc)), due_sec hf hp (by rw [all_any, ha]; rfl), claim_plain (secD_plain hp)⟩
theorem one_res {rs : List Str} (h : rs.length = 1) : ∃ r, rs = [r] := by
  match rs, h with
  | [r], _ => exact ⟨r, rfl⟩
theorem bad_of {p : Pr} {x : Str} {kind : Str} (hk : (kind == "secret") = false) (h : ((intsP p).contains x && p.results.length == 1) = false) : ([x].any fun s => !(intsP p).contains s) = true ∨ (kind == "secret") = false ∧ ¬ p.results.length = 1 := by
  cases hc : (intsP p).contains x with
  | false => exact .inl (by simp only [List.any_cons, List.any_nil, hc]; rfl)
  | true =>
    rw [hc] at h
    exact .inr ⟨hk, by simpa using h⟩
theorem agree_gro {ps : List Pr} {n x : Str} {k : Int} {mu : List MO} (hw : CW ps) (hn : n.length ≤ 900) (hx : x.length ≤ 900) (hc : CloH mu) : Agree (coreD ps) (.str n) (.str "growing") (.tup [.str x]) (.int k) mu := by
  cases hf : findP ps n with
  | none => exact ⟨unkD n, told_exc (tdB_gro_x (gro_no hf hn)) pick_unk, due_no (ss := [x]) hf, unk_plain⟩
  | some p =>
    have hp := hw.find hf
    cases ha : ((intsP p).contains x && p.results.length == 1) with
    | false => exact ⟨badD, told_exc (tdB_gro_x (gro_bad hf ha)) pick_bad, due_bad (ss := [x]) hf (bad_of kinds_ne.1 ha), bad_plain⟩
    | true =>
      rw [Bool.and_eq_true] at ha
      obtain ⟨r, hr⟩ := one_res (rs := p.results) (by simpa using ha.2)
      exact ⟨claimD (groD p x r), told_ok (tdB_gro (gro_ok hf hp ha.1 hx hr hc)), due_gro hf hp ha.1 hx hr, claim_plain (groD_plain hp)⟩
theorem agree_mov {ps : List Pr} {n x : Str} {k : Int} {mu : List MO} (hw : CW ps) (hn : n.length ≤ 900) (hx : x.length ≤ 900) (hc : CloH mu) : Agree (coreD ps) (.str n) (.str "moved") (.tup [.str x]) (.int k) mu := by
  cases hf : findP ps n with
  | none => exact ⟨unkD n, told_exc (tdB_mov_x (mov_no hf hn)) pick_unk, due_no (ss := [x]) hf, unk_plain⟩
  | some p =>
    have hp := hw.find hf
    cases ha : ((intsP p).contains x && p.results.length == 1) with
    | false => exact ⟨badD, told_exc (tdB_mov_x (mov_bad hf ha)) pick_bad, due_bad (ss := [x]) hf (bad_of kinds_ne.2.1 ha), bad_plain⟩
    | true =>
      rw [Bool.and_eq_true] at ha
      obtain ⟨r, hr⟩ := one_res (rs := p.results) (by simpa using ha.2)
      exact ⟨claimD (movD p x r k), told_ok (tdB_mov (mov_ok hf hp ha.1 hx hr hc)), due_mov hf hp ha.1 hx hr, claim_plain (movD_plain hp)⟩
end K06
namespace K06
open PySem L2 PyProof.Rows MP
/-! ### the drawn parameters -/
noncomputable abbrev dOne : List D → M Rv := den__law_one_of den__law_draw
noncomputable abbrev dPar : List D → M Rv := den__law_parameters shufD den__law_draw dOne
noncomputable abbrev dParF : List D → M Rv := fgt dPar
def arrsP (p : Pr) : List Str := (p.items.filter (·.1)).map (·.2)
theorem ints_loop2 {p : Pr} {a b c d e f : D} {o2 o3 o4 o5 : Option D} {mu : List MO} : loopC (asgT 2 (asgCons (asgN 6) (asgCons (asgN 7) asgNil))) (eB (eBin (gEq false) (eVar 6) (eC (.str "int")))) (eVar 7) [] (p.items.map itemD) [some a, some b, o2, o3, o4, o5, none, none] mu = .ok ((intsP p).map D.str) mu := by
  have e : (intsP p).map D.str = (p.items.filter fun it => !it.1).map fun it => D.str it.2 := by unfold intsP; rw [List.map_map]; rfl
  rw [e]
  refine loopC_filter' fun it hit => ⟨[some a, some b, o2, o3, o4, o5, some (.str (kindS it.1)), some (.str it.2)], ?_, ?_, fun _ => ?_⟩
  · simp [itemD]
  · simp [gEq_strs, kind_int]
  · simp
theorem arrs_loop2 {p : Pr} {a b : D} {o2 o3 o4 o5 : Option D} {mu : List MO} : loopC (asgT 2 (asgCons (asgN 6) (asgCons (asgN 7) asgNil))) (eB (eBin (gEq false) (eVar 6) (eC (.str "array")))) (eVar 7) [] (p.items.map itemD) [some a, some b, o2, o3, o4, o5, none, none] mu = .ok ((arrsP p).map D.str) mu := by
  have e : (arrsP p).map D.str = (p.items.filter fun it => it.1).map fun it => D.str it.2 := by unfold arrsP; rw [List.map_map]; rfl
  rw [e]
  refine loopC_filter' fun it hit => ⟨[some a, some b, o2, o3, o4, o5, some (.str (kindS it.1)), some (.str it.2)], ?_, ?_, fun _ => ?_⟩
  · simp [itemD]
  · simp [gEq_strs, kind_arr]
  · simp
theorem plcs_loop2 {p : Pr} {a b : D} {o2 o3 o4 o5 : Option D} {mu : List MO} : loopC (asgT 2 (asgCons (asgN 6) (asgCons (asgN 7) asgNil))) tYesM (eVar 7) [] (p.places.map itemD) [some a, some b, o2, o3, o4, o5, none, none] mu = .ok ((p.places.map (·.2)).map D.str) mu := by
  have e : (p.places.map (·.2)).map D.str = p.places.map fun it => D.str it.2 := by rw [List.map_map]; rfl
  rw [e]
  refine loopC_map' fun it hit => ⟨[some a, some b, o2, o3, o4, o5, some (.str (kindS it.1)), some (.str it.2)], ?_, rfl, ?_⟩
  · simp [itemD]
  · simp
structure PP (p : Pr) : Prop where
  w : PW p
  one : 1 ≤ p.items.length
  pl : p.places.length ≤ 2
  plw : ∀ it ∈ p.places, it.2.length ≤ 900
  nm : p.name.length ≤ 800
  its : ∀ it ∈ p.items, it.2.length ≤ 800
/-- strings of bounded length -/
def Sm (ws : List Str) : Prop := ∀ w ∈ ws, w.length ≤ 900
theorem sm_of {ys : List D} {ws : List Str} (h : ys.Perm (ws.map D.str)) (hs : Sm ws) : ∃ vs : List Str, ys = vs.map D.str ∧ Sm vs ∧ vs.length = ws.length := by
  let un : D → Str := fun d => match d with | .str x => x | _ => Str.empty
  refine ⟨ys.map un, ?_, ?_, ?_⟩
  · rw [List.map_map]
    conv => lhs; rw [← List.map_id ys]
    apply List.map_congr_left
    intro y hy
    obtain ⟨w, _, e⟩ := List.mem_map.mp (h.mem_iff.mp hy)
    subst e; rfl
  · intro w hw
    obtain ⟨y, hy, e⟩ := List.mem_map.mp hw
    obtain ⟨v, hv, e2⟩ := List.mem_map.mp (h.mem_iff.mp hy)
    subst e2
    have e : v = w := e
    rw [← e]
    exact hs v hv
  · rw [List.length_map, h.length_eq, List.length_map]
theorem gLen_fl' {xs : List D} {mu : List MO} : gLen (.fl xs) mu = .ok (.int xs.length) mu := by first | rfl | simp [gLen]
theorem gLen_ref' {n : Nat} {xs : List D} {mu : List MO} (h : mu[n]? = some (.lst xs)) : gLen (.ref n) mu = .ok (.int xs.length) mu := by
  unfold gLen
  simp [h]
theorem it0 {p : Pr} (h : 1 ≤ p.items.length) : ∃ it, it ∈ p.items ∧ ∀ mu, gIx (.tup (p.items.map itemD)) (.int 0) mu = .ok (itemD it) mu := by
  cases hp : p.items with
  | nil => rw [hp] at h; simp at h
  | cons it r => exact ⟨it, by simp, fun mu => by simp⟩
theorem par_ok {s : Nat} {cs : List Int} {p : Pr} {mu : List MO} (A : At s cs mu) (hp : PP p) (hc : CloH mu) : ∃ (ws : List Str) (mu' : List MO), dParF [.ref s, procD p] mu = .ok (.vl (.tup (ws.map D.str))) mu' ∧ Nx s cs mu mu' ∧ ws.length ≤ 10 ∧ Sm ws := by
  have w := hp.w
  have hi := w.its
  have hil : (intsP p).length ≤ 4 := by unfold intsP; rw [List.length_map]; exact Nat.le_trans (List.length_filter_le _ _) hi
  have hal : (arrsP p).length ≤ 4 := by unfold arrsP; rw [List.length_map]; exact Nat.le_trans (List.length_filter_le _ _) hi
  have his : Sm (intsP p) := fun x hx => by
    obtain ⟨it, hit, e⟩ := List.mem_map.mp hx
    rw [← e]; exact w.wd it (List.mem_filter.mp hit).1
  have has : Sm (arrsP p) := fun x hx => by
    obtain ⟨it, hit, e⟩ := List.mem_map.mp hx
    rw [← e]; exact w.wd it (List.mem_filter.mp hit).1
  have hps : Sm (p.places.map (·.2)) := fun x hx => by
    obtain ⟨it, hit, e⟩ := List.mem_map.mp hx
    rw [← e]; exact hp.plw it hit
  obtain ⟨it, hit, hix⟩ := it0 hp.one
  have hitl := hp.its it hit
  have la : (Str.ofString "a").length = 1 := by decide +kernel
  have lt : (Str.ofString "@").length = 1 := by decide +kernel
  obtain ⟨strange, hst⟩ : ∃ z : List Str, z = (arrsP p ++ p.places.map (·.2)) ++ [Str.ofString "", p.name ++ "a", "@" ++ it.2, "result"] := ⟨_, rfl⟩
  have hss : Sm strange := fun x hx => by
    rw [hst] at hx
    rcases List.mem_append.mp hx with z | z
    · rcases List.mem_append.mp z with z | z
      · exact has x z
      · exact hps x z
    · simp at z
      rcases z with rfl | rfl | rfl | rfl
      · decide +kernel
      · rw [len_append, la]; have := hp.nm; omega
      · rw [len_append, lt]; omega
      · decide +kernel
  have hsl : strange.length ≤ 10 ∧ 0 < strange.length := by
    rw [hst]
    rw [List.length_append, List.length_append, List.length_map]
    have := hp.pl
    simp only [List.length_cons, List.length_nil]
    omega
  have t1 := ints_loop2 (p := p) (a := .ref s) (b := procD p) (c := .non) (d := .non) (e := .non) (f := .non) (o2 := none) (o3 := none) (o4 := none) (o5 := none) (mu := mu)
  have t2 := arrs_loop2 (p := p) (a := .ref s) (b := procD p) (o2 := some (.fl ((intsP p).map D.str))) (o3 := none) (o4 := none) (o5 := none) (mu := mu)
  have t3 := plcs_loop2 (p := p) (a := .ref s) (b := procD p) (o2 := some (.fl ((intsP p).map D.str))) (o3 := none) (o4 := none) (o5 := none) (mu := mu)
  have g1 := gAdd_fl (xs := (arrsP p).map D.str) (ys := (p.places.map (·.2)).map D.str) (mu := mu) (small_size (by have := hp.pl; simp only [List.length_map]; omega))
  have g2 := gAdd_fl (xs := (arrsP p).map D.str ++ (p.places.map (·.2)).map D.str) (ys := [.str "", .str (p.name ++ "a"), .str ("@" ++ it.2), .str "result"]) (mu := mu) (small_size (by have := hp.pl; simp only [List.length_map, List.length_append, List.length_cons, List.length_nil]; omega))
  have es : (arrsP p).map D.str ++ (p.places.map (·.2)).map D.str ++ [.str "", .str (p.name ++ "a"), .str ("@" ++ it.2), .str "result"] = strange.map D.str := by
    rw [hst, List.map_append, List.map_append]
    rfl
  rw [es] at g2
  have x1 := pr_its p mu
  have x3 : gIx (procD p) (.int 3) mu = .ok (.tup (p.places.map itemD)) mu := rfl
  have x0 := pr_nm p mu
  have x5 := hix mu
  have x6 : gIx (itemD it) (.int 1) mu = .ok (.str it.2) mu := rfl
  have s1 := gAdd_strs (x := p.name) (y := "a") (mu := mu) rfl (by rw [len_append, la]; have := hp.nm; omega)
  have s2 := gAdd_strs (x := "@") (y := it.2) (mu := mu) rfl (by rw [len_append, lt]; omega)
  obtain ⟨ys, m1, e1, n1, p1⟩ := shufD_ok (d := .fl ((intsP p).map D.str)) A rfl (by rw [List.length_map]; omega) (flats_clo _ (flats_of fun d hd => by
    obtain ⟨z, _, e⟩ := List.mem_map.mp hd
    subst e; rfl))
  obtain ⟨vs, rfl, hvs, hvl⟩ := sm_of p1 his
  obtain ⟨i, m2, e2, n2', i0, i1⟩ := draw_at (most := ((intsP p).length : Int) + 1) (n1.at_ A) (by omega) (log2_small (by omega))
  have n2 := n1.trans n2'
  obtain ⟨i, rfl⟩ := Int.eq_ofNat_of_zero_le i0
  have ec : MP.cutD (vs.map D.str) (some (i : Int)) none = (vs.drop i).map D.str := by rw [cutD_drop, List.map_drop]
  obtain ⟨f0, hf0e⟩ : ∃ z, z = vs.drop i := ⟨_, rfl⟩
  rw [← hf0e] at ec
  have hf0 : Sm f0 := fun x hx => hvs x (List.mem_of_mem_drop (by rw [← hf0e]; exact hx))
  have hf0l : f0.length ≤ 4 := by rw [hf0e, List.length_drop]; omega
  have A2 := n2.at_ A
  obtain ⟨q, m3', e3, n3', q0, q6⟩ := draw_at (most := 6) (A2.app [.lst (f0.map D.str)]) (by decide) (by decide)
  obtain ⟨m3, rfl, n3x⟩ := n3'.app A2
  have n3 := n2.trans n3x
  have A3 := n3.at_ A
  have l3 : m2.length = m3.length := n3x.len.symm
  have gl := get_last (x := .lst (f0.map D.str)) l3
  have er : r__law_parameters shufD den__law_draw dOne = r__law_parameters shufD den__law_draw dOne := rfl
  have cl3 := n3.clo hc
  by_cases c0 : q = 0
  · -- a strange one put in
    subst c0
    obtain ⟨j, m4', e4, n4', j0, j1⟩ := draw_at (most := ((f0.map D.str).length : Int) + 1) (A3.app [.lst (f0.map D.str)]) (by omega) (log2_small (by rw [List.length_map]; omega))
    obtain ⟨m4, rfl, n4x⟩ := n4'.app A3
    have A4 := n4x.at_ A3
    obtain ⟨x, m5', e5, n5', hx⟩ := one_of_at (xs := strange.map D.str) (A4.app [.lst (f0.map D.str)]) (by rw [List.length_map]; omega) (by rw [List.length_map]; omega)
    obtain ⟨m5, rfl, n5x⟩ := n5'.app A4
    obtain ⟨xw, hxw, rfl⟩ := List.mem_map.mp hx
    have n5 := (n3.trans n4x).trans n5x
    have l5 : m2.length = m5.length := by rw [n5x.len, n4x.len]; exact l3
    have g5 := get_last (x := .lst (f0.map D.str)) l5
    have gi := insert_ok (d := .str xw) (i := j) g5 (by rw [List.length_map, sizeLine_eq]; omega) j0 (by rw [List.length_map] at j1; omega)
    rw [set_last l5] at gi
    have ef : (f0.map D.str).take j.toNat ++ [.str xw] ++ (f0.map D.str).drop j.toNat = ((f0.take j.toNat ++ [xw]) ++ f0.drop j.toNat).map D.str := by
      rw [List.map_append, List.map_append, List.map_take, List.map_drop]; rfl
    rw [ef] at gi
    obtain ⟨ws, hwe⟩ : ∃ z, z = (f0.take j.toNat ++ [xw]) ++ f0.drop j.toNat := ⟨_, rfl⟩
    rw [← hwe] at gi
    have hws : Sm ws := fun z hz => by
      rw [hwe] at hz
      rcases List.mem_append.mp hz with q | q
      · rcases List.mem_append.mp q with q | q
        · exact hf0 z (List.mem_of_mem_take q)
        · rw [List.mem_singleton.mp q]; exact hss xw hxw
      · exact hf0 z (List.mem_of_mem_drop q)
    have hwl : ws.length ≤ 10 := by
      rw [hwe, List.length_append, List.length_append, List.length_take, List.length_drop, List.length_singleton]; omega
    have g6 := get_last (x := .lst (ws.map D.str)) l5
    have ht := gTuple_ref g6
    have ll : gLen (.ref m2.length) (m3 ++ [.lst (f0.map D.str)]) = .ok (.int (f0.map D.str).length) (m3 ++ [.lst (f0.map D.str)]) := gLen_ref' gl
    have hk := lstK_ref g5
    have hk3 := lstK_ref gl
    refine ⟨ws, m5, ?_, n5, hwl, hws⟩
    have e : dPar [.ref s, procD p] mu = .ok (.vl (.tup (ws.map D.str))) (m5 ++ [.lst (ws.map D.str)]) := by
      have lf : ((intsP p).map D.str).length = (intsP p).length := List.length_map _
      have e6 : gLen (.fl ((intsP p).map D.str)) m1 = .ok (.int (intsP p).length) m1 := by rw [gLen_fl', lf]
      show noX (runB 8 (r__law_parameters shufD den__law_draw dOne) _) mu = _
      refine noX_ok ?_
      generalize (m5 ++ [MO.lst (ws.map D.str)]) = M6 at *
      generalize (ws.map D.str) = WS at *
      generalize f0.map D.str = F0 at *
      generalize (m5 ++ [MO.lst F0]) = M5 at *
      generalize (m4 ++ [MO.lst F0]) = M4 at *
      generalize (m3 ++ [MO.lst F0]) = M3 at *
      generalize strange.map D.str = SG at *
      generalize (arrsP p).map D.str ++ (p.places.map (·.2)).map D.str = AP at *
      generalize (arrsP p).map D.str = AR at *
      generalize (p.places.map (·.2)).map D.str = PL at *
      generalize (intsP p).map D.str = IN at *
      generalize vs.map D.str = VS at *
      generalize p.items.map itemD = II at *
      generalize p.places.map itemD = QQ at *
      generalize (p.name ++ "a" : Str) = NA at *
      generalize ("@" ++ it.2 : Str) = AT' at *
      generalize itemD it = IT at *
      generalize procD p = PD at *
      have s4 : (4 : Nat) ≤ sizeLine := by decide
      simp [-gAdd_str, r__law_parameters, startE, s4, x1, x3, x0, x5, x6, noX_ok t1, noX_ok t2, noX_ok t3, g1, g2, s1, s2, e1, e6, e2, ec, e3, gEq_ints, ll, e4, e5, gi, hk, hk3, ht]
    exact fgt_val e n5.len (n5.clo hc) (Clo.tup.mpr (flats_clo _ (flats_of fun d hd => by
      obtain ⟨z, _, e⟩ := List.mem_map.mp hd
      subst e; rfl)))
  · by_cases c1 : q = 1
    · subst c1
      obtain ⟨ws, hwe⟩ : ∃ z, z = f0 ++ f0.take 1 := ⟨_, rfl⟩
      have hws : Sm ws := fun z hz => by
        rw [hwe] at hz
        rcases List.mem_append.mp hz with q | q
        · exact hf0 z q
        · exact hf0 z (List.mem_of_mem_take q)
      have hwl : ws.length ≤ 10 := by
        rw [hwe, List.length_append, List.length_take]; omega
      have gs : gSl (.ref m2.length) none (some 1) (m3 ++ [.lst (f0.map D.str)]) = .ok (.fl ((f0.map D.str).take 1)) (m3 ++ [.lst (f0.map D.str)]) := by
        have e0 : rdL (.ref m2.length) (m3 ++ [.lst (f0.map D.str)]) = .ok (f0.map D.str) (m3 ++ [.lst (f0.map D.str)]) := atL_lst gl
        show (rdL (.ref m2.length) >>= fun xs => pure (.fl (MP.cutD xs none (some ((1 : Nat) : Int)))) : M D) _ = _
        rw [bind_ap, e0]
        show R.ok (D.fl (MP.cutD (f0.map D.str) none (some ((1 : Nat) : Int)))) _ = _
        rw [cutD_take]
      have gm : rdM (.ref m2.length) (m3 ++ [.lst (f0.map D.str)]) = .ok (f0.map D.str) (m3 ++ [.lst (f0.map D.str)]) := atL_lst gl
      have ew : f0.map D.str ++ (f0.map D.str).take 1 = ws.map D.str := by rw [hwe, List.map_append, List.map_take]
      have hz : (f0.map D.str).length + ((f0.map D.str).take 1).length ≤ sizeLine := small_size (by rw [List.length_take, List.length_map]; omega)
      have lM : (m3 ++ [MO.lst (f0.map D.str)]).length = m3.length + 1 := by simp
      have g7 : ((m3 ++ [MO.lst (f0.map D.str)]) ++ [MO.lst (ws.map D.str)])[m3.length + 1]? = some (.lst (ws.map D.str)) := get_last (by simp)
      have ht := gTuple_ref g7
      refine ⟨ws, m3, ?_, n3, hwl, hws⟩
      have e : dPar [.ref s, procD p] mu = .ok (.vl (.tup (ws.map D.str))) (m3 ++ [.lst (f0.map D.str), .lst (ws.map D.str)]) := by
        have eM : m3 ++ [MO.lst (f0.map D.str), .lst (ws.map D.str)] = (m3 ++ [MO.lst (f0.map D.str)]) ++ [.lst (ws.map D.str)] := by simp
        rw [eM]
        have lf : ((intsP p).map D.str).length = (intsP p).length := List.length_map _
        have e6 : gLen (.fl ((intsP p).map D.str)) m1 = .ok (.int (intsP p).length) m1 := by rw [gLen_fl', lf]
        show noX (runB 8 (r__law_parameters shufD den__law_draw dOne) _) mu = _
        refine noX_ok ?_
        generalize (ws.map D.str) = WS at *
        generalize (f0.map D.str).take 1 = T1 at *
        generalize f0.map D.str = F0 at *
        generalize hM3 : (m3 ++ [MO.lst F0]) = M3 at *
        generalize strange.map D.str = SG at *
        generalize (arrsP p).map D.str ++ (p.places.map (·.2)).map D.str = AP at *
        generalize (arrsP p).map D.str = AR at *
        generalize (p.places.map (·.2)).map D.str = PL at *
        generalize (intsP p).map D.str = IN at *
        generalize vs.map D.str = VS at *
        generalize p.items.map itemD = II at *
        generalize p.places.map itemD = QQ at *
        generalize (p.name ++ "a" : Str) = NA at *
        generalize ("@" ++ it.2 : Str) = AT' at *
        generalize itemD it = IT at *
        generalize procD p = PD at *
        have s4 : (4 : Nat) ≤ sizeLine := by decide
        simp [-gAdd_str, r__law_parameters, startE, s4, x1, x3, x0, x5, x6, noX_ok t1, noX_ok t2, noX_ok t3, g1, g2, s1, s2, e1, e6, e2, ec, e3, gEq_ints, gs, gm, hz, ew, lM, ht]
      exact fgt_val e n3.len (n3.clo hc) (Clo.tup.mpr (flats_clo _ (flats_of fun d hd => by
        obtain ⟨z, _, e⟩ := List.mem_map.mp hd
        subst e; rfl)))
    · have g7 := get_last (x := .lst (f0.map D.str)) l3
      have ht := gTuple_ref g7
      refine ⟨f0, m3, ?_, n3, by omega, hf0⟩
      have e : dPar [.ref s, procD p] mu = .ok (.vl (.tup (f0.map D.str))) (m3 ++ [.lst (f0.map D.str)]) := by
        have lf : ((intsP p).map D.str).length = (intsP p).length := List.length_map _
        have e6 : gLen (.fl ((intsP p).map D.str)) m1 = .ok (.int (intsP p).length) m1 := by rw [gLen_fl', lf]
        show noX (runB 8 (r__law_parameters shufD den__law_draw dOne) _) mu = _
        refine noX_ok ?_
        generalize f0.map D.str = F0 at *
        generalize (m3 ++ [MO.lst F0]) = M3 at *
        generalize strange.map D.str = SG at *
        generalize (arrsP p).map D.str ++ (p.places.map (·.2)).map D.str = AP at *
        generalize (arrsP p).map D.str = AR at *
        generalize (p.places.map (·.2)).map D.str = PL at *
        generalize (intsP p).map D.str = IN at *
        generalize vs.map D.str = VS at *
        generalize p.items.map itemD = II at *
        generalize p.places.map itemD = QQ at *
        generalize (p.name ++ "a" : Str) = NA at *
        generalize ("@" ++ it.2 : Str) = AT' at *
        generalize itemD it = IT at *
        generalize procD p = PD at *
        have s4 : (4 : Nat) ≤ sizeLine := by decide
        simp [-gAdd_str, r__law_parameters, startE, s4, x1, x3, x0, x5, x6, noX_ok t1, noX_ok t2, noX_ok t3, g1, g2, s1, s2, e1, e6, e2, ec, e3, gEq_ints, c0, c1, ht]
      exact fgt_val e n3.len (n3.clo hc) (Clo.tup.mpr (flats_clo _ (flats_of fun d hd => by
        obtain ⟨z, _, e⟩ := List.mem_map.mp hd
        subst e; rfl)))
end K06
namespace MP
open PySem L2 PyProof.Rows
theorem one_of_tup {s : Nat} {cs : List Int} {xs : List D} {mu : List MO} (h : At s cs mu) (h0 : 0 < xs.length) (h1 : xs.length < 1000) : ∃ x mu', den__law_one_of den__law_draw [.ref s, .tup xs] mu = .ok (.vl x) mu' ∧ Nx s cs mu mu' ∧ x ∈ xs := by
  obtain ⟨d, mu', e, n, d0, d1⟩ := draw_at (most := (xs.length : Int)) h (by omega) (log2_small (by simp; omega))
  obtain ⟨x, hx, hi⟩ := atI_of d0 d1
  refine ⟨x, mu', ?_, n, hx⟩
  refine noX_ok ?_
  simp [r__law_one_of, startE, e, ixD_at hi]
theorem gMul_ok {i j : Int} {mu : List MO} (h : cMul i j) : gMul (.int i) (.int j) mu = .ok (.int (i * j)) mu := by
  show gII cMul _ _ _ _ = _
  simp [gII, h]
theorem seq_nx {a b : Env → M Fl} {env e' : Env} {mu mu' : List MO} (h : a env mu = .ok (.nx e') mu') : sSeq a b env mu = b e' mu' := by
  simp [h]
end MP
namespace K06
open PySem L2 PyProof.Rows MP
/-! ### the law -/
structure Core8 (ps : List Pr) : Prop where
  pr : ∀ p ∈ ps, PP p
  one : 1 ≤ ps.length
  few : ps.length ≤ 3
theorem Core8.cw {ps : List Pr} (h : Core8 ps) : CW ps := ⟨fun p hp => (h.pr p hp).w⟩
theorem PP.of {p : Pr} (h : GoodP p) (hn : GoodW p.name) : PP p := by
  have h4 := h.four
  have hw := h.word
  obtain ⟨ws, hd, hl, _, hg⟩ := h.drawn
  obtain ⟨r1, r2⟩ := ress_ok _ hd.results
  have hle : ∀ it ∈ p.items, it.2.length ≤ 4 := fun it hit => (hw it hit).le
  refine ⟨⟨h4.2, fun it hit => by have := hle it hit; omega, by have := hn.le; omega, r1, fun r hr => by have := r2 r hr; omega⟩, h4.1, by rw [hd.places]; simp, fun it hit => ?_, by have := hn.le; omega, fun it hit => by have := hle it hit; omega⟩
  rw [hd.places] at hit
  match ws, hl with
  | [w0, w1, w2, w3, w4, w5], _ =>
    simp at hit
    rcases hit with rfl | rfl
    · have := (hg w4 (by simp)).le; show w4.length ≤ 900; omega
    · have := (hg w5 (by simp)).le; show w5.length ≤ 900; omega
theorem res_len : (Str.ofString "result").length = 6 := by decide +kernel
def oneRes (p : Pr) : Pr := { p with results := ["result"] }
theorem PP.oneRes {p : Pr} (h : PP p) : PP (oneRes p) :=
  ⟨⟨h.w.its, h.w.wd, h.w.nm, by show 1 ≤ 2; omega, fun r hr => by
    have : r = "result" := List.mem_singleton.mp hr
    rw [this, res_len]; omega⟩, h.one, h.pl, h.plw, h.nm, h.its⟩
noncomputable abbrev dSame : List D → M Rv := sameL 40
noncomputable abbrev dCoreOf : List D → M Rv := den__law_core_of dWords den__law_draw dProcOf
noncomputable def a1 : MP.Env → M Fl := (sSet 4 (eCall (lenD 2 dOne) (aCons (eVar 1) (aCons (eVar 2) aNil))))
noncomputable def a2 : MP.Env → M Fl := (eIf (eB (eBin (gEq false) (eCall (lenD 2 den__law_draw) (aCons (eVar 1) (aCons (eC (.int 2)) aNil))) (eC (.int 0))))
  (sSeq (sSet 4 (eBin gAdd (eBin gAdd (eSl (eVar 4) oNone (oSome (eC (.int 2)))) (aThen gTup (aCons (aThen gTup (aCons (eC (.str "result")) aNil)) aNil))) (eSl (eVar 4) (oSome (eC (.int 3))) oNone)))
  (sSet 2 (aThen (g1 gTuple) (aCons (eFl (fComp (eWalk (eVar 2)) (asgN 13) tYesM (eIf (eB (eBin (gEq false) (eBin gIx (eVar 13) (eC (.int 0))) (eBin gIx (eVar 4) (eC (.int 0))))) (eVar 4) (eVar 13)) [13])) aNil))))
  sNext)
noncomputable def a3 : MP.Env → M Fl := (sSet 5 (eBin gIx (eVar 4) (eC (.int 0))))
noncomputable def a4 : MP.Env → M Fl := (eIf (eB (eBin (gEq false) (eCall (lenD 2 den__law_draw) (aCons (eVar 1) (aCons (eC (.int 6)) aNil))) (eC (.int 0))))
  (sSet 5 (eCall (lenD 2 dOne) (aCons (eVar 1) (aCons (eFl (aList (aCons (eC (.str "")) (aCons (eBin gAdd (eBin gIx (eVar 4) (eC (.int 0))) (eC (.str "a"))) (aCons (eBin gAdd (eC (.str "zz")) (eBin gIx (eVar 4) (eC (.int 0)))) (aCons (eBin gIx (eBin gIx (eBin gIx (eVar 4) (eC (.int 1))) (eC (.int 0))) (eC (.int 1))) aNil)))))) aNil))))
  sNext)
noncomputable def a5 : MP.Env → M Fl := (sSet 6 (eCall (lenD 2 dOne) (aCons (eVar 1) (aCons (eFl (aList (aCons (eC (.int 0)) (aCons (eC (.int 1)) (aCons (eBin gSub (eCall (lenD 2 den__law_draw) (aCons (eVar 1) (aCons (eC (.int 21)) aNil))) (eC (.int 10))) (aCons (eBin gMul (eBin gSub (eCall (lenD 2 den__law_draw) (aCons (eVar 1) (aCons (eBin gPow (eC (.int 10)) (eC (.int 9))) aNil))) (eC (.int 9))) (eBin gPow (eC (.int 10)) (eC (.int 20)))) aNil)))))) aNil))))
noncomputable def a6 : MP.Env → M Fl := (sSet 7 (eCall (lenD 2 dParF) (aCons (eVar 1) (aCons (eVar 4) aNil))))
noncomputable def a7 : MP.Env → M Fl := (eIf (bNot (eB (eCall (lenD 2 dSame) (aCons (eCall (lenD 5 dTold) (aCons (eVar 2) (aCons (eVar 5) (aCons (eC (.str "secret")) (aCons (eVar 7) (aCons (eC (.int 0)) aNil)))))) (aCons (eCall (lenD 5 dDue) (aCons (eVar 2) (aCons (eVar 5) (aCons (eC (.str "secret")) (aCons (eVar 7) (aCons (eC (.int 0)) aNil)))))) aNil)))))
  (sRet (eC (.bl false)))
  sNext)
noncomputable def a8 : MP.Env → M Fl := (sSet 8 (eFl (fComp (eWalk (eBin gIx (eVar 4) (eC (.int 1)))) (asgT 2 (asgCons (asgN 10) (asgCons (asgN 12) asgNil))) (eB (eBin (gEq false) (eVar 10) (eC (.str "int")))) (eVar 12) [10, 12])))
noncomputable def a9 : MP.Env → M Fl := (sSet 9 (eSl (eBin gAdd (eBin gAdd (eVar 7) (aThen (g1 gTuple) (aCons (eVar 8) aNil))) (aThen gTup (aCons (eC (.str "zz")) aNil))) oNone (oSome (eC (.int 1)))))
noncomputable def aT : MP.Env → M Fl := (sSeq (sSet 11 (eCall (lenD 5 dDue) (aCons (eVar 2) (aCons (eVar 5) (aCons (eVar 10) (aCons (eVar 9) (aCons (eVar 6) aNil)))))))
  (eIf (bNot (eB (eCall (lenD 2 dSame) (aCons (eCall (lenD 5 dTold) (aCons (eVar 2) (aCons (eVar 5) (aCons (eVar 10) (aCons (eVar 9) (aCons (eVar 6) aNil)))))) (aCons (eVar 11) aNil)))))
  (sRet (eC (.bl false)))
  sNext))
noncomputable def aL : MP.Env → M Fl := (sFor (eWalk (eFl (aList (aCons (eC (.str "growing")) (aCons (eC (.str "moved")) aNil))))) (asgN 10) aT [10, 11])
noncomputable def lawBody : MP.Env → M Fl := sSeq a1 (sSeq a2 (sSeq a3 (sSeq a4 (sSeq a5 (sSeq a6 (sSeq a7 (sSeq a8 (sSeq a9 aL))))))))
def lE (sc : D) (ps : List Pr) (t p n f w i o : Option D) : MP.Env := [some sc, some (.ref 0), some (coreD ps), t, p, n, f, w, i, o, none, none, none, none]
theorem st1 {sc : D} {ps : List Pr} {t : Option D} {cs : List Int} {mu : List MO} (A : At 0 cs mu) (hc : Core8 ps) : ∃ p mu', a1 (lE sc ps t none none none none none none) mu = .ok (.nx (lE sc ps t (some (procD p)) none none none none none)) mu' ∧ Nx 0 cs mu mu' ∧ p ∈ ps := by
  obtain ⟨x, mu', e, n, hx⟩ := one_of_tup (xs := ps.map procD) A (by rw [List.length_map]; exact hc.one) (by rw [List.length_map]; have := hc.few; omega)
  obtain ⟨p, hp, rfl⟩ := List.mem_map.mp hx
  refine ⟨p, mu', ?_, n, hp⟩
  have w : coreD ps = .tup (ps.map procD) := rfl
  unfold lE
  rw [← w] at e
  generalize coreD ps = CC at *
  generalize procD p = PD at *
  simp [a1, e]
theorem st2 {sc : D} {ps : List Pr} {t : Option D} {cs : List Int} {p : Pr} {mu : List MO} (A : At 0 cs mu) (hc : Core8 ps) (hp : p ∈ ps) : ∃ ps' p' mu', a2 (lE sc ps t (some (procD p)) none none none none none) mu = .ok (.nx (lE sc ps' t (some (procD p')) none none none none none)) mu' ∧ Nx 0 cs mu mu' ∧ Core8 ps' ∧ PP p' := by
  obtain ⟨d, mu', e, n, d0, d1⟩ := draw_at (most := 2) A (by decide) (by decide)
  by_cases hd : d = 0
  · subst hd
    have hpp := hc.pr p hp
    let g : Pr → Pr := fun q => if q.name == p.name then oneRes p else q
    refine ⟨ps.map g, oneRes p, mu', ?_, n, ⟨fun q hq => ?_, by rw [List.length_map]; exact hc.one, by rw [List.length_map]; exact hc.few⟩, hpp.oneRes⟩
    · have c1 : gSl (procD p) none (some 2) mu' = .ok (.tup [.str p.name, .tup (p.items.map itemD)]) mu' := by
        show R.ok (D.tup (MP.cutD _ none (some ((2 : Nat) : Int)))) mu' = _
        rw [cutD_take]; rfl
      have c2 : gSl (procD p) (some 3) none mu' = .ok (.tup [.tup (p.places.map itemD), .tup [], .tup [], .tup [], .tup [], .tup (p.body.map bsD)]) mu' := by
        show R.ok (D.tup (MP.cutD _ (some ((3 : Nat) : Int)) none)) mu' = _
        rw [cutD_drop]; rfl
      have g1' := gAdd_tup (xs := [.str p.name, .tup (p.items.map itemD)]) (ys := [.tup [.str "result"]]) (mu := mu') (small_size (by simp))
      have g2' := gAdd_tup (xs := [.str p.name, .tup (p.items.map itemD)] ++ [.tup [.str "result"]]) (ys := [.tup (p.places.map itemD), .tup [], .tup [], .tup [], .tup [], .tup (p.body.map bsD)]) (mu := mu') (small_size (by simp))
      have ep : ([.str p.name, .tup (p.items.map itemD)] ++ [.tup [.str "result"]] ++ [.tup (p.places.map itemD), .tup [], .tup [], .tup [], .tup [], .tup (p.body.map bsD)] : List D) = [.str p.name, .tup (p.items.map itemD), .tup [.str "result"], .tup (p.places.map itemD), .tup [], .tup [], .tup [], .tup [], .tup (p.body.map bsD)] := rfl
      rw [ep] at g2'
      have epp : D.tup [.str p.name, .tup (p.items.map itemD), .tup [.str "result"], .tup (p.places.map itemD), .tup [], .tup [], .tup [], .tup [], .tup (p.body.map bsD)] = procD (oneRes p) := rfl
      rw [epp] at g2'
      have hl : loopC (asgN 13) tYesM (eIf (eB (eBin (gEq false) (eBin gIx (eVar 13) (eC (.int 0))) (eBin gIx (eVar 4) (eC (.int 0))))) (eVar 4) (eVar 13)) [] (ps.map procD) [some sc, some (.ref 0), some (coreD ps), t, some (procD (oneRes p)), none, none, none, none, none, none, none, none, none] mu' = .ok (ps.map fun q => procD (g q)) mu' := by
        refine loopC_map' fun q hq => ⟨_, rfl, rfl, ?_⟩
        have x1 := pr_nm q mu'
        have x2 : gIx (procD (oneRes p)) (.int 0) mu' = .ok (.str p.name) mu' := rfl
        show _ = R.ok (procD (if q.name == p.name then oneRes p else q)) mu'
        generalize coreD ps = CC at *
        by_cases h : (q.name == p.name) = true
        · rw [if_pos h]
          generalize procD (oneRes p) = PO at *
          generalize procD q = PQ at *
          simp [x1, x2, gEq_strs, h]
        · rw [if_neg h]
          have h' : (q.name == p.name) = false := by simpa using h
          generalize procD (oneRes p) = PO at *
          generalize procD q = PQ at *
          simp [x1, x2, gEq_strs, h']
      have el : (ps.map g).map procD = ps.map fun q => procD (g q) := by rw [List.map_map]; rfl
      have ec : coreD (ps.map g) = .tup (ps.map fun q => procD (g q)) := by rw [← el]; rfl
      have s1 : (1 : Nat) ≤ sizeLine := by decide
      unfold lE
      rw [ec]
      rw [show coreD ps = .tup (ps.map procD) from rfl] at hl ⊢
      generalize (ps.map fun q => procD (g q)) = CG at *
      generalize ps.map procD = CP at *
      generalize procD (oneRes p) = PO at *
      generalize procD p = PD at *
      generalize p.items.map itemD = II at *
      generalize p.places.map itemD = LL at *
      generalize p.body.map bsD = BB at *
      have g1' : gAdd (.tup [.str p.name, .tup II]) (.tup [.tup [.str (Str.ofString "result")]]) mu' = .ok (.tup [.str p.name, .tup II, .tup [.str (Str.ofString "result")]]) mu' := g1'
      have g2' : gAdd (.tup [.str p.name, .tup II, .tup [.str (Str.ofString "result")]]) (.tup [.tup LL, .tup [], .tup [], .tup [], .tup [], .tup BB]) mu' = .ok PO mu' := g2'
      simp [a2, -gSl_tup, e, gEq_ints, c1, c2, g1', g2', gTup_ok, s1, noX_ok hl]
    · obtain ⟨r, hr, e2⟩ := List.mem_map.mp hq
      rw [← e2]
      show PP (if r.name == p.name then oneRes p else r)
      split
      · exact hpp.oneRes
      · exact hc.pr r hr
  · refine ⟨ps, p, mu', ?_, n, hc, hc.pr p hp⟩
    unfold lE
    generalize coreD ps = CC at *
    generalize procD p = PD at *
    simp [a2, e, gEq_ints, hd]
theorem a_len : (Str.ofString "a").length = 1 ∧ (Str.ofString "zz").length = 2 ∧ (Str.ofString "").length = 0 := by decide +kernel
theorem st34 {sc : D} {ps : List Pr} {t : Option D} {cs : List Int} {p : Pr} {mu : List MO} {b : MP.Env → M Fl} (A : At 0 cs mu) (hp : PP p) : ∃ n mu', (sSeq a3 (sSeq a4 b)) (lE sc ps t (some (procD p)) none none none none none) mu = b (lE sc ps t (some (procD p)) (some (.str n)) none none none none) mu' ∧ Nx 0 cs mu mu' ∧ n.length ≤ 900 := by
  obtain ⟨d, m1, e1, n1, d0, d1⟩ := draw_at (most := 6) A (by decide) (by decide)
  have x0 : ∀ mu, gIx (procD p) (.int 0) mu = .ok (.str p.name) mu := pr_nm p
  by_cases hd : d = 0
  · subst hd
    obtain ⟨it, hit, hix⟩ := it0 hp.one
    have hitl := hp.its it hit
    have hnl := hp.nm
    obtain ⟨x, m2, e2, n2, hx⟩ := one_of_at (xs := [.str "", .str (p.name ++ "a"), .str ("zz" ++ p.name), .str it.2]) (n1.at_ A) (by simp) (by simp)
    obtain ⟨z, rfl, hz⟩ : ∃ z : Str, x = .str z ∧ z.length ≤ 900 := by
      simp at hx
      rcases hx with rfl | rfl | rfl | rfl
      · exact ⟨_, rfl, by rw [a_len.2.2]; omega⟩
      · exact ⟨_, rfl, by rw [len_append, a_len.1]; omega⟩
      · exact ⟨_, rfl, by rw [len_append, a_len.2.1]; omega⟩
      · exact ⟨_, rfl, by omega⟩
    refine ⟨z, m2, ?_, n1.trans n2, hz⟩
    have x1 : ∀ mu, gIx (procD p) (.int 1) mu = .ok (.tup (p.items.map itemD)) mu := pr_its p
    have x5 := hix
    have x6 : ∀ mu, gIx (itemD it) (.int 1) mu = .ok (.str it.2) mu := fun _ => rfl
    have s1 := fun mu => gAdd_strs (x := p.name) (y := "a") (mu := mu) rfl (by rw [len_append, a_len.1]; omega)
    have s2 := fun mu => gAdd_strs (x := "zz") (y := p.name) (mu := mu) rfl (by rw [len_append, a_len.2.1]; omega)
    have s4 : (4 : Nat) ≤ sizeLine := by decide
    unfold lE
    generalize coreD ps = CC at *
    generalize p.items.map itemD = II at *
    generalize itemD it = IT at *
    generalize procD p = PD at *
    generalize (p.name ++ "a" : Str) = NA at *
    generalize ("zz" ++ p.name : Str) = ZN at *
    simp [-gAdd_str, a3, a4, x0, e1, gEq_ints, x1, x5, x6, s1, s2, s4, e2]
  · refine ⟨p.name, m1, ?_, n1, hp.w.nm⟩
    unfold lE
    generalize coreD ps = CC at *
    generalize procD p = PD at *
    simp [a3, a4, x0, e1, gEq_ints, hd]
theorem st5 {sc : D} {ps : List Pr} {t p n : Option D} {cs : List Int} {mu : List MO} (A : At 0 cs mu) : ∃ k mu', a5 (lE sc ps t p n none none none none) mu = .ok (.nx (lE sc ps t p n (some (.int k)) none none none)) mu' ∧ Nx 0 cs mu mu' := by
  obtain ⟨d1, m1, e1, n1, _, _⟩ := draw_at (most := 21) A (by decide) (by decide)
  obtain ⟨d2, m2, e2, n2', h20, h21⟩ := draw_at (most := 1000000000) (n1.at_ A) (by decide) (by decide)
  have n2 := n1.trans n2'
  obtain ⟨x, m3, e3, n3, hx⟩ := one_of_at (xs := [.int 0, .int 1, .int (d1 - 10), .int ((d2 - 9) * 10 ^ 20)]) (n2.at_ A) (by simp) (by simp)
  obtain ⟨k, rfl⟩ : ∃ k, x = .int k := by
    simp at hx
    rcases hx with rfl | rfl | rfl | rfl <;> exact ⟨_, rfl⟩
  refine ⟨k, m3, ?_, n2.trans n3⟩
  have hm : gMul (.int (d2 - 9)) (.int (10 ^ 20)) m2 = .ok (.int ((d2 - 9) * 10 ^ 20)) m2 := gMul_ok (.inl (.inl (by omega)))
  have p9 : gPow (.int 10) (.int 9) m1 = .ok (.int 1000000000) m1 := by rw [gPow_int (by decide)]; rfl
  have p20 : gPow (.int 10) (.int 20) m2 = .ok (.int (10 ^ 20)) m2 := by rw [gPow_int (by decide)]; rfl
  have s4 : (4 : Nat) ≤ sizeLine := by decide
  unfold lE
  generalize coreD ps = CC at *
  generalize (10 ^ 20 : Int) = BIG at *
  generalize (d2 - 9) * BIG = PR at *
  simp [a5, -gPow_int, e1, p9, e2, p20, hm, s4, e3]
theorem st6 {sc : D} {ps : List Pr} {t n f : Option D} {p : Pr} {cs : List Int} {mu : List MO} (A : At 0 cs mu) (hc : CloH mu) (hp : PP p) : ∃ ws mu', a6 (lE sc ps t (some (procD p)) n f none none none) mu = .ok (.nx (lE sc ps t (some (procD p)) n f (some (.tup (ws.map D.str))) none none)) mu' ∧ Nx 0 cs mu mu' ∧ ws.length ≤ 10 ∧ Sm ws := by
  obtain ⟨ws, mu', e, n', hl, hs⟩ := par_ok A hp hc
  refine ⟨ws, mu', ?_, n', hl, hs⟩
  unfold lE
  generalize coreD ps = CC at *
  generalize procD p = PD at *
  generalize ws.map D.str = WS at *
  simp [a6, e]
theorem same40 {v : D} {mu : List MO} (h : plainD 39 v = true) : dSame [v, v] mu = .ok (.vl (.bl true)) mu := same_ok 39 v mu h
theorem st7 {sc : D} {ps : List Pr} {t p : Option D} {n : Str} {f : Option D} {ws : List Str} {mu : List MO} (hc : Core8 ps) (hm : CloH mu) (hn : n.length ≤ 900) : a7 (lE sc ps t p (some (.str n)) f (some (.tup (ws.map D.str))) none none) mu = .ok (.nx (lE sc ps t p (some (.str n)) f (some (.tup (ws.map D.str))) none none)) mu := by
  obtain ⟨v, h1, h2, h3⟩ := (agree_sec (ss := ws) (k := 0) hc.cw hn hm).ex
  have h4 := same40 (mu := mu) h3
  unfold lE
  generalize coreD ps = CC at *
  generalize ws.map D.str = WS at *
  simp [a7, h1, h2, h4]
theorem st8 {sc : D} {ps : List Pr} {t n f w : Option D} {p : Pr} {mu : List MO} : a8 (lE sc ps t (some (procD p)) n f w none none) mu = .ok (.nx (lE sc ps t (some (procD p)) n f w (some (.fl ((intsP p).map D.str))) none)) mu := by
  have e : (intsP p).map D.str = (p.items.filter fun it => !it.1).map fun it => D.str it.2 := by unfold intsP; rw [List.map_map]; rfl
  have h1 : loopC (asgT 2 (asgCons (asgN 10) (asgCons (asgN 12) asgNil))) (eB (eBin (gEq false) (eVar 10) (eC (.str "int")))) (eVar 12) [] (p.items.map itemD) [some sc, some (.ref 0), some (coreD ps), t, some (procD p), n, f, w, none, none, none, none, none, none] mu = .ok ((intsP p).map D.str) mu := by
    rw [e]
    refine loopC_filter' fun it hit => ⟨[some sc, some (.ref 0), some (coreD ps), t, some (procD p), n, f, w, none, none, some (.str (kindS it.1)), none, some (.str it.2), none], ?_, ?_, fun _ => ?_⟩
    · simp [itemD]
    · simp [gEq_strs, kind_int]
    · simp
  have x1 := pr_its p mu
  unfold lE
  generalize coreD ps = CC at *
  generalize p.items.map itemD = II at *
  generalize procD p = PD at *
  generalize (intsP p).map D.str = IN at *
  simp [a8, x1, noX_ok h1]
theorem zz_len : (Str.ofString "zz").length = 2 := by decide +kernel
theorem st9 {sc : D} {ps : List Pr} {t p n f : Option D} {ws is : List Str} {mu : List MO} (hw : ws.length ≤ 10) (hi : is.length ≤ 4) (sw : Sm ws) (si : Sm is) : ∃ x, a9 (lE sc ps t p n f (some (.tup (ws.map D.str))) (some (.fl (is.map D.str))) none) mu = .ok (.nx (lE sc ps t p n f (some (.tup (ws.map D.str))) (some (.fl (is.map D.str))) (some (.tup [.str x])))) mu ∧ x.length ≤ 900 := by
  obtain ⟨x, r, hx⟩ : ∃ x r, ws ++ is ++ [Str.ofString "zz"] = x :: r := by
    cases h : ws ++ is ++ [Str.ofString "zz"] with
    | nil => simp at h
    | cons x r => exact ⟨x, r, rfl⟩
  have hs : Sm (ws ++ is ++ [Str.ofString "zz"]) := fun z hz => by
    rcases List.mem_append.mp hz with q | q
    · rcases List.mem_append.mp q with q | q
      · exact sw z q
      · exact si z q
    · rw [List.mem_singleton.mp q, zz_len]; omega
  refine ⟨x, ?_, hs x (by rw [hx]; simp)⟩
  have g1' := gAdd_tup (xs := ws.map D.str) (ys := is.map D.str) (mu := mu) (small_size (by rw [List.length_map, List.length_map]; omega))
  have g2' := gAdd_tup (xs := ws.map D.str ++ is.map D.str) (ys := [.str (Str.ofString "zz")]) (mu := mu) (small_size (by simp; omega))
  have e : ws.map D.str ++ is.map D.str ++ [.str (Str.ofString "zz")] = (ws ++ is ++ [Str.ofString "zz"]).map D.str := by rw [List.map_append, List.map_append]; rfl
  rw [e, hx] at g2'
  have c1 : gSl (.tup ((x :: r).map D.str)) none (some 1) mu = .ok (.tup [.str x]) mu := by
    show R.ok (D.tup (MP.cutD _ none (some ((1 : Nat) : Int)))) mu = _
    rw [cutD_take]; rfl
  have s1 : (1 : Nat) ≤ sizeLine := by decide
  unfold lE
  generalize coreD ps = CC at *
  generalize (x :: r).map D.str = XR at *
  generalize ws.map D.str ++ is.map D.str = WI at *
  generalize ws.map D.str = WS at *
  generalize is.map D.str = IS at *
  simp [a9, -gSl_tup, g1', g2', gTup_ok, s1, c1]
theorem stL {sc : D} {ps : List Pr} {t p : Option D} {n x : Str} {k : Int} {w i : Option D} {mu : List MO} (hc : Core8 ps) (hm : CloH mu) (hn : n.length ≤ 900) (hx : x.length ≤ 900) : aL (lE sc ps t p (some (.str n)) (some (.int k)) w i (some (.tup [.str x]))) mu = .ok (.nx (lE sc ps t p (some (.str n)) (some (.int k)) w i (some (.tup [.str x])))) mu := by
  obtain ⟨v1, h1, h2, h3⟩ := (agree_gro (k := k) hc.cw hn hx hm).ex
  obtain ⟨v2, h4, h5, h6⟩ := (agree_mov (k := k) hc.cw hn hx hm).ex
  have q1 := same40 (mu := mu) h3
  have q2 := same40 (mu := mu) h6
  have s2 : (2 : Nat) ≤ sizeLine := by decide
  unfold lE
  generalize coreD ps = CC at *
  simp [aL, aT, s2, loopF_cons, loopF_nil, h1, h2, q1, h4, h5, q2, wipeE]
theorem ints_few {p : Pr} (h : PW p) : (intsP p).length ≤ 4 ∧ Sm (intsP p) := by
  refine ⟨by unfold intsP; rw [List.length_map]; exact Nat.le_trans (List.length_filter_le _ _) h.its, fun x hx => ?_⟩
  obtain ⟨it, hit, e⟩ := List.mem_map.mp hx
  rw [← e]; exact h.wd it (List.mem_filter.mp hit).1
theorem body_ok {sc : D} {ps : List Pr} {t : Option D} {cs : List Int} {mu : List MO} (A : At 0 cs mu) (hc : Core8 ps) (hm : CloH mu) : ∃ ps' o4 o5 o6 o7 o8 o9 mu', lawBody (lE sc ps t none none none none none none) mu = .ok (.nx (lE sc ps' t o4 o5 o6 o7 o8 o9)) mu' ∧ Nx 0 cs mu mu' ∧ Core8 ps' := by
  obtain ⟨p, m1, e1, n1, hp⟩ := st1 (sc := sc) (t := t) A hc
  obtain ⟨ps', p', m2, e2, n2', hc', hp'⟩ := st2 (sc := sc) (t := t) (n1.at_ A) hc hp
  have n2 := n1.trans n2'
  obtain ⟨n, m3, e3, n3', hn⟩ := st34 (sc := sc) (ps := ps') (t := t) (b := sSeq a5 (sSeq a6 (sSeq a7 (sSeq a8 (sSeq a9 aL))))) (n2.at_ A) hp'
  have n3 := n2.trans n3'
  obtain ⟨k, m4, e4, n4'⟩ := st5 (sc := sc) (ps := ps') (t := t) (p := some (procD p')) (n := some (.str n)) (n3.at_ A)
  have n4 := n3.trans n4'
  obtain ⟨ws, m5, e5, n5', hw, sw⟩ := st6 (sc := sc) (ps := ps') (t := t) (n := some (.str n)) (f := some (.int k)) (n4.at_ A) (n4.clo hm) hp'
  have n5 := n4.trans n5'
  have hm5 := n5.clo hm
  have e7 := st7 (sc := sc) (t := t) (p := some (procD p')) (f := some (.int k)) (ws := ws) hc' hm5 hn
  have e8 := st8 (sc := sc) (ps := ps') (t := t) (n := some (.str n)) (f := some (.int k)) (w := some (.tup (ws.map D.str))) (p := p') (mu := m5)
  obtain ⟨hi, si⟩ := ints_few hp'.w
  obtain ⟨x, e9, hx⟩ := st9 (sc := sc) (ps := ps') (t := t) (p := some (procD p')) (n := some (.str n)) (f := some (.int k)) (mu := m5) hw hi sw si
  have eL := stL (sc := sc) (t := t) (p := some (procD p')) (k := k) (w := some (.tup (ws.map D.str))) (i := some (.fl ((intsP p').map D.str))) hc' hm5 hn hx
  refine ⟨ps', some (procD p'), some (.str n), some (.int k), some (.tup (ws.map D.str)), some (.fl ((intsP p').map D.str)), some (.tup [.str x]), m5, ?_, n5, hc'⟩
  exact (seq_nx e1).trans ((seq_nx e2).trans (e3.trans ((seq_nx e4).trans ((seq_nx e5).trans ((seq_nx e7).trans ((seq_nx e8).trans ((seq_nx e9).trans eL)))))))
noncomputable abbrev dLaw : List D → M Rv := den_law den__law_start dCoreOf dOne den__law_draw dParF dSame dDue dTold
theorem law_ok {cs : List Int} (h : cs.length ≤ 63) : ∃ mu', dLaw [.ro (cs.map .int)] [] = .ok (.vl (.bl true)) mu' := by
  have e0 := start_ok (mu := []) h
  generalize hm1 : ([st cs 0 0 0] : List MO) = m1
  have A1 : At 0 cs m1 := ⟨0, 0, 0, by rw [← hm1]; rfl⟩
  have c1 : CloH m1 := fun o ho => by
    rw [← hm1] at ho
    rw [List.mem_singleton.mp ho]
    exact st_clo
  obtain ⟨ps, m2, e2, n2, nd, gn, l1, l3, gp⟩ := core_of_ok A1
  have hc : Core8 ps := ⟨fun p hp => .of (gp p hp) (gn _ (List.mem_map.mpr ⟨p, hp, rfl⟩)), l1, l3⟩
  obtain ⟨e', m3, e3, ⟨ps', o3, o4, o5, o6, o7, o8, o9, rfl, n3, hc3⟩⟩ := loopF_inv (asg := asgN 3) (body := lawBody) (fg := [3, 4, 5, 6, 7, 8, 9]) (ds := rngD 0 (3 : Int).toNat)
    (I := fun k env m => ∃ ps' o3 o4 o5 o6 o7 o8 o9, env = lE (.ro (cs.map .int)) ps' o3 o4 o5 o6 o7 o8 o9 ∧ Nx 0 cs m1 m ∧ Core8 ps') (env := lE (.ro (cs.map .int)) ps none none none none none none none) (mu := m2)
    (fun d hd k env m ⟨ps', o3, o4, o5, o6, o7, o8, o9, e, n, hc'⟩ => by
      subst e
      obtain ⟨qs, p4, p5, p6, p7, p8, p9, m', eb, nb, hq⟩ := body_ok (sc := .ro (cs.map .int)) (t := some d) (n.at_ A1) hc' (n.clo c1)
      exact ⟨lE (.ro (cs.map .int)) ps' (some d) none none none none none none, _, m', rfl, eb, qs, some d, p4, p5, p6, p7, p8, p9, rfl, n.trans nb, hq⟩) ⟨ps, none, none, none, none, none, none, none, rfl, n2, hc⟩
  refine ⟨m3, noX_ok ?_⟩
  have er : r_law den__law_start dCoreOf dOne den__law_draw dParF dSame dDue dTold = (sSeq (sSet 1 (eNew (fCall (lenD 1 den__law_start) (aCons (eVar 0) aNil))))
  (sSeq (sSet 2 (eCall (lenD 1 dCoreOf) (aCons (eVar 1) aNil)))
  (sSeq (sFor (wThen wRng1 (aCons (eC (.int 3)) aNil)) (asgN 3) lawBody [3, 4, 5, 6, 7, 8, 9])
  (sRet (eC (.bl true)))))) := rfl
  rw [er]
  have w3 : ∀ mu, wRng1 [.int 3] mu = .ok (rngD 0 (3 : Int).toNat, []) mu := fun mu => wRng1_ok (by omega)
  have em : ([] : List MO) ++ [MO.lst [.fl (cs.map .int), .int 0, .int 0, .int 0]] = m1 := by rw [← hm1]; rfl
  unfold lE at e3
  generalize coreD ps = CC at *
  generalize coreD ps' = CQ at *
  generalize rngD 0 (3 : Int).toNat = RN at *
  generalize lawBody = LB at *
  generalize cs.map D.int = CS at *
  simp only [List.nil_append] at em
  simp [startE, e0, em, e2, w3, e3]
end K06
namespace K06
open PySem L2 PyProof.Rows MP
theorem all_mk {l : PySem.W.OpenLaw} {w : World} {K : PySem.W.Frag} {h : Heap} {mg : Str → Option Value} {fa f0 f1 f2 f3 f4 f5 f6 f7 f8 f9 f10 f11 f12 f13 f14 f15 f16 f17 f18 f19 f20 f21 f22 f23 f24 f25 f26 f27 f28 f29 f30 f31 f32 : Addr} (X : K.In h) (G : h.Ns mainGlobals mg) (hfa : mg "law" = some (.ref fa))
    {od0 an0 : Option Addr} {sl0 : Array (Option Value)} {oc0 kV0 dc0 pm0 cd0 ct0 : Value}
    {od1 an1 : Option Addr} {sl1 : Array (Option Value)} {oc1 kV1 dc1 pm1 cd1 ct1 : Value}
    {od2 an2 : Option Addr} {sl2 : Array (Option Value)} {oc2 kV2 dc2 pm2 cd2 ct2 : Value}
    {od3 an3 : Option Addr} {sl3 : Array (Option Value)} {oc3 kV3 dc3 pm3 cd3 ct3 : Value}
    {od4 an4 : Option Addr} {sl4 : Array (Option Value)} {oc4 kV4 dc4 pm4 cd4 ct4 : Value}
    {od5 an5 : Option Addr} {sl5 : Array (Option Value)} {oc5 kV5 dc5 pm5 cd5 ct5 : Value}
    {od6 an6 : Option Addr} {sl6 : Array (Option Value)} {oc6 kV6 dc6 pm6 cd6 ct6 : Value}
    {od7 an7 : Option Addr} {sl7 : Array (Option Value)} {oc7 kV7 dc7 pm7 cd7 ct7 : Value}
    {od8 an8 : Option Addr} {sl8 : Array (Option Value)} {oc8 kV8 dc8 pm8 cd8 ct8 : Value}
    {od9 an9 : Option Addr} {sl9 : Array (Option Value)} {oc9 kV9 dc9 pm9 cd9 ct9 : Value}
    {od10 an10 : Option Addr} {sl10 : Array (Option Value)} {oc10 kV10 dc10 pm10 cd10 ct10 : Value}
    {od11 an11 : Option Addr} {sl11 : Array (Option Value)} {oc11 kV11 dc11 pm11 cd11 ct11 : Value}
    {od12 an12 : Option Addr} {sl12 : Array (Option Value)} {oc12 kV12 dc12 pm12 cd12 ct12 : Value}
    {od13 an13 : Option Addr} {sl13 : Array (Option Value)} {oc13 kV13 dc13 pm13 cd13 ct13 : Value}
    {od14 an14 : Option Addr} {sl14 : Array (Option Value)} {oc14 kV14 dc14 pm14 cd14 ct14 : Value}
    {od15 an15 : Option Addr} {sl15 : Array (Option Value)} {oc15 kV15 dc15 pm15 cd15 ct15 : Value}
    {od16 an16 : Option Addr} {sl16 : Array (Option Value)} {oc16 kV16 dc16 pm16 cd16 ct16 : Value}
    {od17 an17 : Option Addr} {sl17 : Array (Option Value)} {oc17 kV17 dc17 pm17 cd17 ct17 : Value}
    {od18 an18 : Option Addr} {sl18 : Array (Option Value)} {oc18 kV18 dc18 pm18 cd18 ct18 : Value}
    {od19 an19 : Option Addr} {sl19 : Array (Option Value)} {oc19 kV19 dc19 pm19 cd19 ct19 : Value}
    {od20 an20 : Option Addr} {sl20 : Array (Option Value)} {oc20 kV20 dc20 pm20 cd20 ct20 : Value}
    {od21 an21 : Option Addr} {sl21 : Array (Option Value)} {oc21 kV21 dc21 pm21 cd21 ct21 : Value}
    {od22 an22 : Option Addr} {sl22 : Array (Option Value)} {oc22 kV22 dc22 pm22 cd22 ct22 : Value}
    {od23 an23 : Option Addr} {sl23 : Array (Option Value)} {oc23 kV23 dc23 pm23 cd23 ct23 : Value}
    {od24 an24 : Option Addr} {sl24 : Array (Option Value)} {oc24 kV24 dc24 pm24 cd24 ct24 : Value}
    {od25 an25 : Option Addr} {sl25 : Array (Option Value)} {oc25 kV25 dc25 pm25 cd25 ct25 : Value}
    {od26 an26 : Option Addr} {sl26 : Array (Option Value)} {oc26 kV26 dc26 pm26 cd26 ct26 : Value}
    {od27 an27 : Option Addr} {sl27 : Array (Option Value)} {oc27 kV27 dc27 pm27 cd27 ct27 : Value}
    {od28 an28 : Option Addr} {sl28 : Array (Option Value)} {oc28 kV28 dc28 pm28 cd28 ct28 : Value}
    {od29 an29 : Option Addr} {sl29 : Array (Option Value)} {oc29 kV29 dc29 pm29 cd29 ct29 : Value}
    {od30 an30 : Option Addr} {sl30 : Array (Option Value)} {oc30 kV30 dc30 pm30 cd30 ct30 : Value}
    {od31 an31 : Option Addr} {sl31 : Array (Option Value)} {oc31 kV31 dc31 pm31 cd31 ct31 : Value}
    {od32 an32 : Option Addr} {sl32 : Array (Option Value)} {oc32 kV32 dc32 pm32 cd32 ct32 : Value}
    (a0 : PySem.W.nsIn K mainGlobals "_law_start" = some (some (.ref f0))) (l0 : K.lookup f0 = some ⟨oc0, od0, .func (PySem.W.fnOf "_law_start" "_law_start" (defArgs st__law_start) (defBody st__law_start) (defScope st__law_start) .none kV0 dc0 pm0 an0 cd0 ct0), sl0⟩) (c0 : PySem.W.codeIn K cd0 "_law_start" = true) (k0 : PySem.W.keepIn K (.ref f0) = true)
    (a1 : PySem.W.nsIn K mainGlobals "_law_draw" = some (some (.ref f1))) (l1 : K.lookup f1 = some ⟨oc1, od1, .func (PySem.W.fnOf "_law_draw" "_law_draw" (defArgs st__law_draw) (defBody st__law_draw) (defScope st__law_draw) .none kV1 dc1 pm1 an1 cd1 ct1), sl1⟩) (c1 : PySem.W.codeIn K cd1 "_law_draw" = true) (k1 : PySem.W.keepIn K (.ref f1) = true)
    (a2 : PySem.W.nsIn K mainGlobals "_law_words" = some (some (.ref f2))) (l2 : K.lookup f2 = some ⟨oc2, od2, .func (PySem.W.fnOf "_law_words" "_law_words" (defArgs st__law_words) (defBody st__law_words) (defScope st__law_words) .none kV2 dc2 pm2 an2 cd2 ct2), sl2⟩) (c2 : PySem.W.codeIn K cd2 "_law_words" = true) (k2 : PySem.W.keepIn K (.ref f2) = true)
    (a3 : PySem.W.nsIn K mainGlobals "_law_shuffled" = some (some (.ref f3))) (l3 : K.lookup f3 = some ⟨oc3, od3, .func (PySem.W.fnOf "_law_shuffled" "_law_shuffled" (defArgs st__law_shuffled) (defBody st__law_shuffled) (defScope st__law_shuffled) .none kV3 dc3 pm3 an3 cd3 ct3), sl3⟩) (c3 : PySem.W.codeIn K cd3 "_law_shuffled" = true) (k3 : PySem.W.keepIn K (.ref f3) = true)
    (a4 : PySem.W.nsIn K mainGlobals "_law_proc_of" = some (some (.ref f4))) (l4 : K.lookup f4 = some ⟨oc4, od4, .func (PySem.W.fnOf "_law_proc_of" "_law_proc_of" (defArgs st__law_proc_of) (defBody st__law_proc_of) (defScope st__law_proc_of) .none kV4 dc4 pm4 an4 cd4 ct4), sl4⟩) (c4 : PySem.W.codeIn K cd4 "_law_proc_of" = true) (k4 : PySem.W.keepIn K (.ref f4) = true)
    (a5 : PySem.W.nsIn K mainGlobals "_law_core_of" = some (some (.ref f5))) (l5 : K.lookup f5 = some ⟨oc5, od5, .func (PySem.W.fnOf "_law_core_of" "_law_core_of" (defArgs st__law_core_of) (defBody st__law_core_of) (defScope st__law_core_of) .none kV5 dc5 pm5 an5 cd5 ct5), sl5⟩) (c5 : PySem.W.codeIn K cd5 "_law_core_of" = true) (k5 : PySem.W.keepIn K (.ref f5) = true)
    (a6 : PySem.W.nsIn K mainGlobals "_law_one_of" = some (some (.ref f6))) (l6 : K.lookup f6 = some ⟨oc6, od6, .func (PySem.W.fnOf "_law_one_of" "_law_one_of" (defArgs st__law_one_of) (defBody st__law_one_of) (defScope st__law_one_of) .none kV6 dc6 pm6 an6 cd6 ct6), sl6⟩) (c6 : PySem.W.codeIn K cd6 "_law_one_of" = true) (k6 : PySem.W.keepIn K (.ref f6) = true)
    (a7 : PySem.W.nsIn K mainGlobals "_law_parameters" = some (some (.ref f7))) (l7 : K.lookup f7 = some ⟨oc7, od7, .func (PySem.W.fnOf "_law_parameters" "_law_parameters" (defArgs st__law_parameters) (defBody st__law_parameters) (defScope st__law_parameters) .none kV7 dc7 pm7 an7 cd7 ct7), sl7⟩) (c7 : PySem.W.codeIn K cd7 "_law_parameters" = true) (k7 : PySem.W.keepIn K (.ref f7) = true)
    (a8 : PySem.W.nsIn K mainGlobals "_law_is_int" = some (some (.ref f8))) (l8 : K.lookup f8 = some ⟨oc8, od8, .func (PySem.W.fnOf "_law_is_int" "_law_is_int" (defArgs st__law_is_int) (defBody st__law_is_int) (defScope st__law_is_int) .none kV8 dc8 pm8 an8 cd8 ct8), sl8⟩) (c8 : PySem.W.codeIn K cd8 "_law_is_int" = true) (k8 : PySem.W.keepIn K (.ref f8) = true)
    (a9 : PySem.W.nsIn K mainGlobals "_law_same" = some (some (.ref f9))) (l9 : K.lookup f9 = some ⟨oc9, od9, .func (PySem.W.fnOf "_law_same" "_law_same" (defArgs st__law_same) (defBody st__law_same) (defScope st__law_same) .none kV9 dc9 pm9 an9 cd9 ct9), sl9⟩) (c9 : PySem.W.codeIn K cd9 "_law_same" = true) (k9 : PySem.W.keepIn K (.ref f9) = true)
    (a10 : PySem.W.nsIn K mainGlobals "_law_form" = some (some (.ref f10))) (l10 : K.lookup f10 = some ⟨oc10, od10, .func (PySem.W.fnOf "_law_form" "_law_form" (defArgs st__law_form) (defBody st__law_form) (defScope st__law_form) .none kV10 dc10 pm10 an10 cd10 ct10), sl10⟩) (c10 : PySem.W.codeIn K cd10 "_law_form" = true) (k10 : PySem.W.keepIn K (.ref f10) = true)
    (a11 : PySem.W.nsIn K mainGlobals "_law_difference" = some (some (.ref f11))) (l11 : K.lookup f11 = some ⟨oc11, od11, .func (PySem.W.fnOf "_law_difference" "_law_difference" (defArgs st__law_difference) (defBody st__law_difference) (defScope st__law_difference) .none kV11 dc11 pm11 an11 cd11 ct11), sl11⟩) (c11 : PySem.W.codeIn K cd11 "_law_difference" = true) (k11 : PySem.W.keepIn K (.ref f11) = true)
    (a12 : PySem.W.nsIn K mainGlobals "_law_alike" = some (some (.ref f12))) (l12 : K.lookup f12 = some ⟨oc12, od12, .func (PySem.W.fnOf "_law_alike" "_law_alike" (defArgs st__law_alike) (defBody st__law_alike) (defScope st__law_alike) .none kV12 dc12 pm12 an12 cd12 ct12), sl12⟩) (c12 : PySem.W.codeIn K cd12 "_law_alike" = true) (k12 : PySem.W.keepIn K (.ref f12) = true)
    (a13 : PySem.W.nsIn K mainGlobals "_law_secret" = some (some (.ref f13))) (l13 : K.lookup f13 = some ⟨oc13, od13, .func (PySem.W.fnOf "_law_secret" "_law_secret" (defArgs st__law_secret) (defBody st__law_secret) (defScope st__law_secret) .none kV13 dc13 pm13 an13 cd13 ct13), sl13⟩) (c13 : PySem.W.codeIn K cd13 "_law_secret" = true) (k13 : PySem.W.keepIn K (.ref f13) = true)
    (a14 : PySem.W.nsIn K mainGlobals "_law_grows" = some (some (.ref f14))) (l14 : K.lookup f14 = some ⟨oc14, od14, .func (PySem.W.fnOf "_law_grows" "_law_grows" (defArgs st__law_grows) (defBody st__law_grows) (defScope st__law_grows) .none kV14 dc14 pm14 an14 cd14 ct14), sl14⟩) (c14 : PySem.W.codeIn K cd14 "_law_grows" = true) (k14 : PySem.W.keepIn K (.ref f14) = true)
    (a15 : PySem.W.nsIn K mainGlobals "_law_due" = some (some (.ref f15))) (l15 : K.lookup f15 = some ⟨oc15, od15, .func (PySem.W.fnOf "_law_due" "_law_due" (defArgs st__law_due) (defBody st__law_due) (defScope st__law_due) .none kV15 dc15 pm15 an15 cd15 ct15), sl15⟩) (c15 : PySem.W.codeIn K cd15 "_law_due" = true) (k15 : PySem.W.keepIn K (.ref f15) = true)
    (a16 : PySem.W.nsIn K mainGlobals "proc_named" = some (some (.ref f16))) (l16 : K.lookup f16 = some ⟨oc16, od16, .func (PySem.W.fnOf "proc_named" "proc_named" (defArgs st_proc_named) (defBody st_proc_named) (defScope st_proc_named) .none kV16 dc16 pm16 an16 cd16 ct16), sl16⟩) (c16 : PySem.W.codeIn K cd16 "proc_named" = true) (k16 : PySem.W.keepIn K (.ref f16) = true)
    (a17 : PySem.W.nsIn K mainGlobals "proc_or_error" = some (some (.ref f17))) (l17 : K.lookup f17 = some ⟨oc17, od17, .func (PySem.W.fnOf "proc_or_error" "proc_or_error" (defArgs st_proc_or_error) (defBody st_proc_or_error) (defScope st_proc_or_error) .none kV17 dc17 pm17 an17 cd17 ct17), sl17⟩) (c17 : PySem.W.codeIn K cd17 "proc_or_error" = true) (k17 : PySem.W.keepIn K (.ref f17) = true)
    (a18 : PySem.W.nsIn K mainGlobals "integers_of" = some (some (.ref f18))) (l18 : K.lookup f18 = some ⟨oc18, od18, .func (PySem.W.fnOf "integers_of" "integers_of" (defArgs st_integers_of) (defBody st_integers_of) (defScope st_integers_of) .none kV18 dc18 pm18 an18 cd18 ct18), sl18⟩) (c18 : PySem.W.codeIn K cd18 "integers_of" = true) (k18 : PySem.W.keepIn K (.ref f18) = true)
    (a19 : PySem.W.nsIn K mainGlobals "form" = some (some (.ref f19))) (l19 : K.lookup f19 = some ⟨oc19, od19, .func (PySem.W.fnOf "form" "form" (defArgs st_form) (defBody st_form) (defScope st_form) .none kV19 dc19 pm19 an19 cd19 ct19), sl19⟩) (c19 : PySem.W.codeIn K cd19 "form" = true) (k19 : PySem.W.keepIn K (.ref f19) = true)
    (a20 : PySem.W.nsIn K mainGlobals "plus" = some (some (.ref f20))) (l20 : K.lookup f20 = some ⟨oc20, od20, .func (PySem.W.fnOf "plus" "plus" (defArgs st_plus) (defBody st_plus) (defScope st_plus) .none kV20 dc20 pm20 an20 cd20 ct20), sl20⟩) (c20 : PySem.W.codeIn K cd20 "plus" = true) (k20 : PySem.W.keepIn K (.ref f20) = true)
    (a21 : PySem.W.nsIn K mainGlobals "times" = some (some (.ref f21))) (l21 : K.lookup f21 = some ⟨oc21, od21, .func (PySem.W.fnOf "times" "times" (defArgs st_times) (defBody st_times) (defScope st_times) .none kV21 dc21 pm21 an21 cd21 ct21), sl21⟩) (c21 : PySem.W.codeIn K cd21 "times" = true) (k21 : PySem.W.keepIn K (.ref f21) = true)
    (a22 : PySem.W.nsIn K mainGlobals "minus" = some (some (.ref f22))) (l22 : K.lookup f22 = some ⟨oc22, od22, .func (PySem.W.fnOf "minus" "minus" (defArgs st_minus) (defBody st_minus) (defScope st_minus) .none kV22 dc22 pm22 an22 cd22 ct22), sl22⟩) (c22 : PySem.W.codeIn K cd22 "minus" = true) (k22 : PySem.W.keepIn K (.ref f22) = true)
    (a23 : PySem.W.nsIn K mainGlobals "both_ways" = some (some (.ref f23))) (l23 : K.lookup f23 = some ⟨oc23, od23, .func (PySem.W.fnOf "both_ways" "both_ways" (defArgs st_both_ways) (defBody st_both_ways) (defScope st_both_ways) .none kV23 dc23 pm23 an23 cd23 ct23), sl23⟩) (c23 : PySem.W.codeIn K cd23 "both_ways" = true) (k23 : PySem.W.keepIn K (.ref f23) = true)
    (a24 : PySem.W.nsIn K mainGlobals "variable" = some (some (.ref f24))) (l24 : K.lookup f24 = some ⟨oc24, od24, .func (PySem.W.fnOf "variable" "variable" (defArgs st_variable) (defBody st_variable) (defScope st_variable) .none kV24 dc24 pm24 an24 cd24 ct24), sl24⟩) (c24 : PySem.W.codeIn K cd24 "variable" = true) (k24 : PySem.W.keepIn K (.ref f24) = true)
    (a25 : PySem.W.nsIn K mainGlobals "equal_inputs" = some (some (.ref f25))) (l25 : K.lookup f25 = some ⟨oc25, od25, .func (PySem.W.fnOf "equal_inputs" "equal_inputs" (defArgs st_equal_inputs) (defBody st_equal_inputs) (defScope st_equal_inputs) .none kV25 dc25 pm25 an25 cd25 ct25), sl25⟩) (c25 : PySem.W.codeIn K cd25 "equal_inputs" = true) (k25 : PySem.W.keepIn K (.ref f25) = true)
    (a26 : PySem.W.nsIn K mainGlobals "equal_results" = some (some (.ref f26))) (l26 : K.lookup f26 = some ⟨oc26, od26, .func (PySem.W.fnOf "equal_results" "equal_results" (defArgs st_equal_results) (defBody st_equal_results) (defScope st_equal_results) .none kV26 dc26 pm26 an26 cd26 ct26), sl26⟩) (c26 : PySem.W.codeIn K cd26 "equal_results" = true) (k26 : PySem.W.keepIn K (.ref f26) = true)
    (a27 : PySem.W.nsIn K mainGlobals "count_name" = some (some (.ref f27))) (l27 : K.lookup f27 = some ⟨oc27, od27, .func (PySem.W.fnOf "count_name" "count_name" (defArgs st_count_name) (defBody st_count_name) (defScope st_count_name) .none kV27 dc27 pm27 an27 cd27 ct27), sl27⟩) (c27 : PySem.W.codeIn K cd27 "count_name" = true) (k27 : PySem.W.keepIn K (.ref f27) = true)
    (a28 : PySem.W.nsIn K mainGlobals "secret_claim" = some (some (.ref f28))) (l28 : K.lookup f28 = some ⟨oc28, od28, .func (PySem.W.fnOf "secret_claim" "secret_claim" (defArgs st_secret_claim) (defBody st_secret_claim) (defScope st_secret_claim) .none kV28 dc28 pm28 an28 cd28 ct28), sl28⟩) (c28 : PySem.W.codeIn K cd28 "secret_claim" = true) (k28 : PySem.W.keepIn K (.ref f28) = true)
    (a29 : PySem.W.nsIn K mainGlobals "growing_claim" = some (some (.ref f29))) (l29 : K.lookup f29 = some ⟨oc29, od29, .func (PySem.W.fnOf "growing_claim" "growing_claim" (defArgs st_growing_claim) (defBody st_growing_claim) (defScope st_growing_claim) .none kV29 dc29 pm29 an29 cd29 ct29), sl29⟩) (c29 : PySem.W.codeIn K cd29 "growing_claim" = true) (k29 : PySem.W.keepIn K (.ref f29) = true)
    (a30 : PySem.W.nsIn K mainGlobals "moved_claim" = some (some (.ref f30))) (l30 : K.lookup f30 = some ⟨oc30, od30, .func (PySem.W.fnOf "moved_claim" "moved_claim" (defArgs st_moved_claim) (defBody st_moved_claim) (defScope st_moved_claim) .none kV30 dc30 pm30 an30 cd30 ct30), sl30⟩) (c30 : PySem.W.codeIn K cd30 "moved_claim" = true) (k30 : PySem.W.keepIn K (.ref f30) = true)
    (a31 : PySem.W.nsIn K mainGlobals "_law_told" = some (some (.ref f31))) (l31 : K.lookup f31 = some ⟨oc31, od31, .func (PySem.W.fnOf "_law_told" "_law_told" (defArgs st__law_told) (defBody st__law_told) (defScope st__law_told) .none kV31 dc31 pm31 an31 cd31 ct31), sl31⟩) (c31 : PySem.W.codeIn K cd31 "_law_told" = true) (k31 : PySem.W.keepIn K (.ref f31) = true)
    (a32 : PySem.W.nsIn K mainGlobals "law" = some (some (.ref f32))) (l32 : K.lookup f32 = some ⟨oc32, od32, .func (PySem.W.fnOf "law" "law" (defArgs st_law) (defBody st_law) (defScope st_law) .none kV32 dc32 pm32 an32 cd32 ct32), sl32⟩) (c32 : PySem.W.codeIn K cd32 "law" = true) (k32 : PySem.W.keepIn K (.ref f32) = true)
    {u_ZERO_0 : Tok} {a_ZERO_1 : Addr} {n_ZERO_1 : Nat} {a_ZERO : Addr} {n_ZERO : Nat} (w_ZERO_1 : K.lookup a_ZERO_1 = some ⟨.type "tuple", none, .seq #[] n_ZERO_1, #[]⟩) (w_ZERO : K.lookup a_ZERO = some ⟨.type "tuple", none, .seq #[.int 0 u_ZERO_0, .ref a_ZERO_1] n_ZERO, #[]⟩) (x_ZERO : PySem.W.nsIn K mainGlobals "ZERO" = some (some (.ref a_ZERO)))
    {u_RIGHT : Tok} (x_RIGHT : PySem.W.nsIn K mainGlobals "RIGHT" = some (some (.str "r." u_RIGHT)))
    {u_LEFT : Tok} (x_LEFT : PySem.W.nsIn K mainGlobals "LEFT" = some (some (.str "l." u_LEFT)))
    {c_UnknownName : Addr}
    (xa_UnknownName : PySem.W.nsIn K mainGlobals "UnknownName" = some (some (.ref c_UnknownName)))
    (xk_UnknownName : PySem.W.keepIn K (.ref c_UnknownName) = true)
    (xb_UnknownName : PySem.W.subIn K (.ref c_UnknownName) (.type "BaseException") = some true)
    (xy_UnknownName : PySem.W.typeIn K (.ref c_UnknownName) = some (.type "type"))
    (xd_UnknownName : PySem.W.hasDictIn K c_UnknownName = true)
    {c_BadClaim : Addr}
    (xa_BadClaim : PySem.W.nsIn K mainGlobals "BadClaim" = some (some (.ref c_BadClaim)))
    (xk_BadClaim : PySem.W.keepIn K (.ref c_BadClaim) = true)
    (xb_BadClaim : PySem.W.subIn K (.ref c_BadClaim) (.type "BaseException") = some true)
    (xy_BadClaim : PySem.W.typeIn K (.ref c_BadClaim) = some (.type "type"))
    (xd_BadClaim : PySem.W.hasDictIn K c_BadClaim = true)
    {c_BadWalk : Addr}
    (xa_BadWalk : PySem.W.nsIn K mainGlobals "BadWalk" = some (some (.ref c_BadWalk)))
    (xk_BadWalk : PySem.W.keepIn K (.ref c_BadWalk) = true)
    (xb_BadWalk : PySem.W.subIn K (.ref c_BadWalk) (.type "BaseException") = some true)
    (xy_BadWalk : PySem.W.typeIn K (.ref c_BadWalk) = some (.type "type"))
    (xd_BadWalk : PySem.W.hasDictIn K c_BadWalk = true)
    {c_DifferwithinError : Addr}
    (xa_DifferwithinError : PySem.W.nsIn K mainGlobals "DifferwithinError" = some (some (.ref c_DifferwithinError)))
    (xk_DifferwithinError : PySem.W.keepIn K (.ref c_DifferwithinError) = true)
    (xb_DifferwithinError : PySem.W.subIn K (.ref c_DifferwithinError) (.type "BaseException") = some true)
    (xy_DifferwithinError : PySem.W.typeIn K (.ref c_DifferwithinError) = some (.type "type"))
    (xd_DifferwithinError : PySem.W.hasDictIn K c_DifferwithinError = true)
    {i_UnknownName cc_UnknownName cda_UnknownName N_UnknownName b0_UnknownName : Addr} {nm_UnknownName q_UnknownName file_UnknownName : Str} {bs_UnknownName sub_UnknownName : List Value} {sn_UnknownName : List Str} {ab_UnknownName : Bool} {col_UnknownName : Option Bool} {dd_UnknownName odi_UnknownName ani_UnknownName cdd_UnknownName cld_UnknownName : Option Addr} {m0_UnknownName m1_UnknownName m2_UnknownName m3_UnknownName m5_UnknownName : Option Value} {oci_UnknownName dci_UnknownName pmi_UnknownName cti_UnknownName ccl_UnknownName cl_UnknownName : Value} {sli_UnknownName ccs_UnknownName csl_UnknownName : Array (Option Value)} {vs_UnknownName : Array Value} {tf_UnknownName : Tok}
    (xl_UnknownName : K.lookup c_UnknownName = some (excClassObj nm_UnknownName q_UnknownName c_UnknownName N_UnknownName bs_UnknownName [.ref b0_UnknownName, .type "ValueError", .type "Exception", .type "BaseException", .type "object"] true sn_UnknownName sub_UnknownName ab_UnknownName col_UnknownName dd_UnknownName m0_UnknownName m1_UnknownName m2_UnknownName m3_UnknownName m5_UnknownName "ValueError.__new__"))
    (xsa_UnknownName : PySem.W.findIn K (.ref c_UnknownName) "__setattr__" = some (some (.builtin "object.__setattr__")))
    (xnn_UnknownName : PySem.W.findIn K (.ref c_UnknownName) "name" = some none)
    (xic_UnknownName : PySem.W.findIn K (.ref c_UnknownName) "__init__" = some (some (.ref i_UnknownName)))
    (xti_UnknownName : PySem.W.typeIn K (.ref i_UnknownName) = some (.type "function"))
    (xfn_UnknownName : K.lookup i_UnknownName = some ⟨oci_UnknownName, odi_UnknownName, .func (PySem.W.ksFn "__init__" "UnknownName.__init__" (OIX.iA ⟨6, 17, 6, 21⟩ ⟨6, 23, 6, 27⟩) (OIX.iB "there is no definition of " ⟨7, 8, 7, 13⟩ ⟨7, 8, 7, 15⟩ ⟨7, 8, 7, 24⟩ ⟨7, 25, 7, 53⟩ ⟨7, 56, 7, 60⟩ ⟨7, 25, 7, 60⟩ ⟨7, 8, 7, 61⟩ ⟨7, 8, 7, 61⟩ ⟨8, 8, 8, 12⟩ ⟨8, 8, 8, 17⟩ ⟨8, 20, 8, 24⟩ ⟨8, 8, 8, 24⟩) OIX.iS .none .none dci_UnknownName pmi_UnknownName ani_UnknownName (.ref cda_UnknownName) cti_UnknownName cc_UnknownName), sli_UnknownName⟩)
    (xci_UnknownName : PySem.W.codeIn K (.ref cda_UnknownName) "UnknownName.__init__" = true)
    (xco_UnknownName : K.lookup cda_UnknownName = some ⟨ccl_UnknownName, cdd_UnknownName, .fields vs_UnknownName, ccs_UnknownName⟩)
    (xcv_UnknownName : vs_UnknownName[2]? = some (.str file_UnknownName tf_UnknownName))
    (xcf_UnknownName : ((l.prog.main.file : Str) == file_UnknownName) = true)
    (xce_UnknownName : K.lookup cc_UnknownName = some ⟨cl_UnknownName, cld_UnknownName, .cell (some (.ref c_UnknownName)), csl_UnknownName⟩)
    (xsu_UnknownName : PySem.W.ks_superIn K c_UnknownName c_UnknownName "__init__" = some (some (.builtin "ValueError.__init__")))
    (xop_UnknownName : PySem.W.nsIn K cStatics "thirdparty.any" = some none)
    (xsv_UnknownName : PySem.W.subIn K (.ref c_UnknownName) (.type "ValueError") = some true)
    (xsc_UnknownName : PySem.W.mroIn K c_UnknownName (.ref c_UnknownName) = some true)
    (xtp_UnknownName : (l.prog.main.scope.names.lookup ("super" : Str)).isSome = false)
    (xsp_UnknownName : PySem.W.nsIn K mainGlobals "super" = some none)
    (xq_BadClaim : PySem.W.excIn K c_BadClaim veMro "ValueError.__new__" = true)
    (xm_BadClaim_UnknownName : PySem.W.subIn K (.ref c_UnknownName) (.ref c_BadClaim) = some false)
    (xm_BadClaim_BadClaim : PySem.W.subIn K (.ref c_BadClaim) (.ref c_BadClaim) = some true)
    (xm_UnknownName_UnknownName : PySem.W.subIn K (.ref c_UnknownName) (.ref c_UnknownName) = some true)
    (xm_UnknownName_BadClaim : PySem.W.subIn K (.ref c_BadClaim) (.ref c_UnknownName) = some false)
    (ehg_UnknownName : PySem.W.findIn K (.ref c_UnknownName) "__getattribute__" = some (some (.builtin "BaseException.__getattribute__")))
    (ehk_UnknownName : PySem.W.findIn K (.ref c_UnknownName) "__getattr__" = some none)
    (eha_UnknownName : PySem.W.findIn K (.ref c_UnknownName) "__class__" = some (some (.builtin "object.__class__")))
    (ehm_UnknownName : PySem.W.mroIn K c_UnknownName (.type "object") = some true)
    (ehg_BadClaim : PySem.W.findIn K (.ref c_BadClaim) "__getattribute__" = some (some (.builtin "BaseException.__getattribute__")))
    (ehk_BadClaim : PySem.W.findIn K (.ref c_BadClaim) "__getattr__" = some none)
    (eha_BadClaim : PySem.W.findIn K (.ref c_BadClaim) "__class__" = some (some (.builtin "object.__class__")))
    (ehm_BadClaim : PySem.W.mroIn K c_BadClaim (.type "object") = some true)
    (e_hn : PySem.W.specialIn K (.builtin "object.__class__") "__get__" = some (some (.builtin "getset_descriptor.__get__")))
    (e_ht : PySem.W.takesIn K (.builtin "object.__class__") = some true)
    (xi_BadWalk_UnknownName : PySem.W.kitOne K (.ref c_UnknownName) (.ref c_BadWalk) = some false)
    (xi_BadWalk_BadClaim : PySem.W.kitOne K (.ref c_BadClaim) (.ref c_BadWalk) = some false)
    (xi_DifferwithinError_UnknownName : PySem.W.kitOne K (.ref c_UnknownName) (.ref c_DifferwithinError) = some true)
    (xi_DifferwithinError_BadClaim : PySem.W.kitOne K (.ref c_BadClaim) (.ref c_DifferwithinError) = some true)
    (xi_ValueError_UnknownName : PySem.W.kitOne K (.ref c_UnknownName) (.type "ValueError") = some true)
    (xi_ValueError_BadClaim : PySem.W.kitOne K (.ref c_BadClaim) (.type "ValueError") = some true)
    (xi_BadClaim_UnknownName : PySem.W.kitOne K (.ref c_UnknownName) (.ref c_BadClaim) = some false)
    (xi_BadClaim_BadClaim : PySem.W.kitOne K (.ref c_BadClaim) (.ref c_BadClaim) = some true)
    (xf_name_UnknownName : PySem.W.findIn K (.ref c_UnknownName) "name" = some none)
    (y_list : PySem.W.nsIn K mainGlobals "list" = some none) (y_int : PySem.W.nsIn K mainGlobals "int" = some none) (y_len : PySem.W.nsIn K mainGlobals "len" = some none) (y_abs : PySem.W.nsIn K mainGlobals "abs" = some none) (y_range : PySem.W.nsIn K mainGlobals "range" = some none) (y_tuple : PySem.W.nsIn K mainGlobals "tuple" = some none) (y_sorted : PySem.W.nsIn K mainGlobals "sorted" = some none) (y_isinstance : PySem.W.nsIn K mainGlobals "isinstance" = some none) (y_bool : PySem.W.nsIn K mainGlobals "bool" = some none) (y_all : PySem.W.nsIn K mainGlobals "all" = some none) (y_str : PySem.W.nsIn K mainGlobals "str" = some none) (y_any : PySem.W.nsIn K mainGlobals "any" = some none) (y_ValueError : PySem.W.nsIn K mainGlobals "ValueError" = some none) :
    ∃ fd : FuncData, (∀ (s : Shared) (v : Value), BindsTo s fd ⟨[v], []⟩ [("script", v)]) ∧ ∀ base : Heap, K.In base → base.Ns mainGlobals mg → FnOk l.prog w K mg base CX0 43 fa fd ["script"] (spLaw K 63) := by
  have e := hfa.symm.trans (PySem.W.mg_of X G a32)
  cases e
  have U0 := fun_mk (st := st__law_start) l0 c0 k0
  have T__law_start : FnI K mg "_law_start" st__law_start _ _ ["script"] := ⟨U0, PySem.W.mg_of X G a0, U0.binds (ps := ["script"]) fun _ _ _ _ _ _ us hl => match us, hl with | [_], _ => rfl⟩
  have U1 := fun_mk (st := st__law_draw) l1 c1 k1
  have T__law_draw : FnI K mg "_law_draw" st__law_draw _ _ ["state", "most"] := ⟨U1, PySem.W.mg_of X G a1, U1.binds (ps := ["state", "most"]) fun _ _ _ _ _ _ us hl => match us, hl with | [_, _], _ => rfl⟩
  have U2 := fun_mk (st := st__law_words) l2 c2 k2
  have T__law_words : FnI K mg "_law_words" st__law_words _ _ ["state", "many"] := ⟨U2, PySem.W.mg_of X G a2, U2.binds (ps := ["state", "many"]) fun _ _ _ _ _ _ us hl => match us, hl with | [_, _], _ => rfl⟩
  have U3 := fun_mk (st := st__law_shuffled) l3 c3 k3
  have T__law_shuffled : FnI K mg "_law_shuffled" st__law_shuffled _ _ ["state", "items"] := ⟨U3, PySem.W.mg_of X G a3, U3.binds (ps := ["state", "items"]) fun _ _ _ _ _ _ us hl => match us, hl with | [_, _], _ => rfl⟩
  have U4 := fun_mk (st := st__law_proc_of) l4 c4 k4
  have T__law_proc_of : FnI K mg "_law_proc_of" st__law_proc_of _ _ ["state", "name", "words"] := ⟨U4, PySem.W.mg_of X G a4, U4.binds (ps := ["state", "name", "words"]) fun _ _ _ _ _ _ us hl => match us, hl with | [_, _, _], _ => rfl⟩
  have U5 := fun_mk (st := st__law_core_of) l5 c5 k5
  have T__law_core_of : FnI K mg "_law_core_of" st__law_core_of _ _ ["state"] := ⟨U5, PySem.W.mg_of X G a5, U5.binds (ps := ["state"]) fun _ _ _ _ _ _ us hl => match us, hl with | [_], _ => rfl⟩
  have U6 := fun_mk (st := st__law_one_of) l6 c6 k6
  have T__law_one_of : FnI K mg "_law_one_of" st__law_one_of _ _ ["state", "items"] := ⟨U6, PySem.W.mg_of X G a6, U6.binds (ps := ["state", "items"]) fun _ _ _ _ _ _ us hl => match us, hl with | [_, _], _ => rfl⟩
  have U7 := fun_mk (st := st__law_parameters) l7 c7 k7
  have T__law_parameters : FnI K mg "_law_parameters" st__law_parameters _ _ ["state", "p"] := ⟨U7, PySem.W.mg_of X G a7, U7.binds (ps := ["state", "p"]) fun _ _ _ _ _ _ us hl => match us, hl with | [_, _], _ => rfl⟩
  have U8 := fun_mk (st := st__law_is_int) l8 c8 k8
  have T__law_is_int : FnI K mg "_law_is_int" st__law_is_int _ _ ["x"] := ⟨U8, PySem.W.mg_of X G a8, U8.binds (ps := ["x"]) fun _ _ _ _ _ _ us hl => match us, hl with | [_], _ => rfl⟩
  have U9 := fun_mk (st := st__law_same) l9 c9 k9
  have T__law_same : FnI K mg "_law_same" st__law_same _ _ ["x", "y"] := ⟨U9, PySem.W.mg_of X G a9, U9.binds (ps := ["x", "y"]) fun _ _ _ _ _ _ us hl => match us, hl with | [_, _], _ => rfl⟩
  have U10 := fun_mk (st := st__law_form) l10 c10 k10
  have T__law_form : FnI K mg "_law_form" st__law_form _ _ ["constant", "pairs"] := ⟨U10, PySem.W.mg_of X G a10, U10.binds (ps := ["constant", "pairs"]) fun _ _ _ _ _ _ us hl => match us, hl with | [_, _], _ => rfl⟩
  have U11 := fun_mk (st := st__law_difference) l11 c11 k11
  have T__law_difference : FnI K mg "_law_difference" st__law_difference _ _ ["name", "other"] := ⟨U11, PySem.W.mg_of X G a11, U11.binds (ps := ["name", "other"]) fun _ _ _ _ _ _ us hl => match us, hl with | [_, _], _ => rfl⟩
  have U12 := fun_mk (st := st__law_alike) l12 c12 k12
  have T__law_alike : FnI K mg "_law_alike" st__law_alike _ _ ["p", "others"] := ⟨U12, PySem.W.mg_of X G a12, U12.binds (ps := ["p", "others"]) fun _ _ _ _ _ _ us hl => match us, hl with | [_, _], _ => rfl⟩
  have U13 := fun_mk (st := st__law_secret) l13 c13 k13
  have T__law_secret : FnI K mg "_law_secret" st__law_secret _ _ ["p", "secrets"] := ⟨U13, PySem.W.mg_of X G a13, U13.binds (ps := ["p", "secrets"]) fun _ _ _ _ _ _ us hl => match us, hl with | [_, _], _ => rfl⟩
  have U14 := fun_mk (st := st__law_grows) l14 c14 k14
  have T__law_grows : FnI K mg "_law_grows" st__law_grows _ _ ["p", "x", "factors"] := ⟨U14, PySem.W.mg_of X G a14, U14.binds (ps := ["p", "x", "factors"]) fun _ _ _ _ _ _ us hl => match us, hl with | [_, _, _], _ => rfl⟩
  have U15 := fun_mk (st := st__law_due) l15 c15 k15
  have T__law_due : FnI K mg "_law_due" st__law_due _ _ ["core", "name", "kind", "parameters", "factor"] := ⟨U15, PySem.W.mg_of X G a15, U15.binds (ps := ["core", "name", "kind", "parameters", "factor"]) fun _ _ _ _ _ _ us hl => match us, hl with | [_, _, _, _, _], _ => rfl⟩
  have U16 := fun_mk (st := st_proc_named) l16 c16 k16
  have T_proc_named : FnI K mg "proc_named" st_proc_named _ _ ["core", "name"] := ⟨U16, PySem.W.mg_of X G a16, U16.binds (ps := ["core", "name"]) fun _ _ _ _ _ _ us hl => match us, hl with | [_, _], _ => rfl⟩
  have U17 := fun_mk (st := st_proc_or_error) l17 c17 k17
  have T_proc_or_error : FnI K mg "proc_or_error" st_proc_or_error _ _ ["core", "name"] := ⟨U17, PySem.W.mg_of X G a17, U17.binds (ps := ["core", "name"]) fun _ _ _ _ _ _ us hl => match us, hl with | [_, _], _ => rfl⟩
  have U18 := fun_mk (st := st_integers_of) l18 c18 k18
  have T_integers_of : FnI K mg "integers_of" st_integers_of _ _ ["core", "name"] := ⟨U18, PySem.W.mg_of X G a18, U18.binds (ps := ["core", "name"]) fun _ _ _ _ _ _ us hl => match us, hl with | [_, _], _ => rfl⟩
  have U19 := fun_mk (st := st_form) l19 c19 k19
  have T_form : FnI K mg "form" st_form _ _ ["constant", "pairs"] := ⟨U19, PySem.W.mg_of X G a19, U19.binds (ps := ["constant", "pairs"]) fun _ _ _ _ _ _ us hl => match us, hl with | [_, _], _ => rfl⟩
  have U20 := fun_mk (st := st_plus) l20 c20 k20
  have T_plus : FnI K mg "plus" st_plus _ _ ["f", "g"] := ⟨U20, PySem.W.mg_of X G a20, U20.binds (ps := ["f", "g"]) fun _ _ _ _ _ _ us hl => match us, hl with | [_, _], _ => rfl⟩
  have U21 := fun_mk (st := st_times) l21 c21 k21
  have T_times : FnI K mg "times" st_times _ _ ["k", "f"] := ⟨U21, PySem.W.mg_of X G a21, U21.binds (ps := ["k", "f"]) fun _ _ _ _ _ _ us hl => match us, hl with | [_, _], _ => rfl⟩
  have U22 := fun_mk (st := st_minus) l22 c22 k22
  have T_minus : FnI K mg "minus" st_minus _ _ ["f", "g"] := ⟨U22, PySem.W.mg_of X G a22, U22.binds (ps := ["f", "g"]) fun _ _ _ _ _ _ us hl => match us, hl with | [_, _], _ => rfl⟩
  have U23 := fun_mk (st := st_both_ways) l23 c23 k23
  have T_both_ways : FnI K mg "both_ways" st_both_ways _ _ ["f", "g"] := ⟨U23, PySem.W.mg_of X G a23, U23.binds (ps := ["f", "g"]) fun _ _ _ _ _ _ us hl => match us, hl with | [_, _], _ => rfl⟩
  have U24 := fun_mk (st := st_variable) l24 c24 k24
  have T_variable : FnI K mg "variable" st_variable _ _ ["name"] := ⟨U24, PySem.W.mg_of X G a24, U24.binds (ps := ["name"]) fun _ _ _ _ _ _ us hl => match us, hl with | [_], _ => rfl⟩
  have U25 := fun_mk (st := st_equal_inputs) l25 c25 k25
  have T_equal_inputs : FnI K mg "equal_inputs" st_equal_inputs _ _ ["core", "name", "names"] := ⟨U25, PySem.W.mg_of X G a25, U25.binds (ps := ["core", "name", "names"]) fun _ _ _ _ _ _ us hl => match us, hl with | [_, _, _], _ => rfl⟩
  have U26 := fun_mk (st := st_equal_results) l26 c26 k26
  have T_equal_results : FnI K mg "equal_results" st_equal_results _ _ ["proc"] := ⟨U26, PySem.W.mg_of X G a26, U26.binds (ps := ["proc"]) fun _ _ _ _ _ _ us hl => match us, hl with | [_], _ => rfl⟩
  have U27 := fun_mk (st := st_count_name) l27 c27 k27
  have T_count_name : FnI K mg "count_name" st_count_name _ _ ["mark"] := ⟨U27, PySem.W.mg_of X G a27, U27.binds (ps := ["mark"]) fun _ _ _ _ _ _ us hl => match us, hl with | [_], _ => rfl⟩
  have U28 := fun_mk (st := st_secret_claim) l28 c28 k28
  have T_secret_claim : FnI K mg "secret_claim" st_secret_claim _ _ ["core", "name", "secrets"] := ⟨U28, PySem.W.mg_of X G a28, U28.binds (ps := ["core", "name", "secrets"]) fun _ _ _ _ _ _ us hl => match us, hl with | [_, _, _], _ => rfl⟩
  have U29 := fun_mk (st := st_growing_claim) l29 c29 k29
  have T_growing_claim : FnI K mg "growing_claim" st_growing_claim _ _ ["core", "name", "parameter"] := ⟨U29, PySem.W.mg_of X G a29, U29.binds (ps := ["core", "name", "parameter"]) fun _ _ _ _ _ _ us hl => match us, hl with | [_, _, _], _ => rfl⟩
  have U30 := fun_mk (st := st_moved_claim) l30 c30 k30
  have T_moved_claim : FnI K mg "moved_claim" st_moved_claim _ _ ["core", "name", "parameter", "factor"] := ⟨U30, PySem.W.mg_of X G a30, U30.binds (ps := ["core", "name", "parameter", "factor"]) fun _ _ _ _ _ _ us hl => match us, hl with | [_, _, _, _], _ => rfl⟩
  have U31 := fun_mk (st := st__law_told) l31 c31 k31
  have T__law_told : FnI K mg "_law_told" st__law_told _ _ ["core", "name", "kind", "parameters", "factor"] := ⟨U31, PySem.W.mg_of X G a31, U31.binds (ps := ["core", "name", "kind", "parameters", "factor"]) fun _ _ _ _ _ _ us hl => match us, hl with | [_, _, _, _, _], _ => rfl⟩
  have U32 := fun_mk (st := st_law) l32 c32 k32
  have T_law : FnI K mg "law" st_law _ _ ["script"] := ⟨U32, PySem.W.mg_of X G a32, U32.binds (ps := ["script"]) fun _ _ _ _ _ _ us hl => match us, hl with | [_], _ => rfl⟩
  have z_list := PySem.W.mg_none_of X G y_list
  have z_int := PySem.W.mg_none_of X G y_int
  have z_len := PySem.W.mg_none_of X G y_len
  have z_abs := PySem.W.mg_none_of X G y_abs
  have z_range := PySem.W.mg_none_of X G y_range
  have z_tuple := PySem.W.mg_none_of X G y_tuple
  have z_sorted := PySem.W.mg_none_of X G y_sorted
  have z_isinstance := PySem.W.mg_none_of X G y_isinstance
  have z_bool := PySem.W.mg_none_of X G y_bool
  have z_all := PySem.W.mg_none_of X G y_all
  have z_str := PySem.W.mg_none_of X G y_str
  have z_any := PySem.W.mg_none_of X G y_any
  have z_ValueError := PySem.W.mg_none_of X G y_ValueError
  have h_ZERO_1 : ∀ m H, Rep K m H (.tup []) (.ref a_ZERO_1) := ktup_of w_ZERO_1 (by show 0 ≤ sizeLine; decide) fun m H => ⟨[], .nil, (Reps.nil_iff.mpr rfl)⟩
  have h_ZERO : ∀ m H, Rep K m H (.tup [.int 0, .tup []]) (.ref a_ZERO) := ktup_of w_ZERO (by show 2 ≤ sizeLine; decide) fun m H => ⟨[.int 0, .ref a_ZERO_1], (.cons ⟨_, rfl⟩ (.cons rfl .nil)), (Reps.cons_iff.mpr ⟨_, _, rfl, (by simp only [Rep]), (Reps.cons_iff.mpr ⟨_, _, rfl, (h_ZERO_1 m H), (Reps.nil_iff.mpr rfl)⟩)⟩)⟩
  have g_ZERO := PySem.W.mg_of X G x_ZERO
  have q_RIGHT := PySem.W.mg_of X G x_RIGHT
  have q_LEFT := PySem.W.mg_of X G x_LEFT
  have g_UnknownName := PySem.W.mg_of X G xa_UnknownName
  have g_BadClaim := PySem.W.mg_of X G xa_BadClaim
  have g_BadWalk := PySem.W.mg_of X G xa_BadWalk
  have g_DifferwithinError := PySem.W.mg_of X G xa_DifferwithinError
  have XI_UnknownName : ExcI l.prog K mg "UnknownName" c_UnknownName "there is no definition of " := ⟨⟨g_UnknownName, xk_UnknownName, xb_UnknownName, xy_UnknownName, xd_UnknownName⟩, ⟨i_UnknownName, cc_UnknownName, cda_UnknownName, _, { cls := ⟨_, _, _, _, _, _, _, _, _, _, _, _, _, _, _, xl_UnknownName, rfl⟩, sa := xsa_UnknownName, noN := xnn_UnknownName, iC := xic_UnknownName, tI := xti_UnknownName, fn := ⟨_, _, _, _, _, _, _, _, _, _, _, _, _, _, _, _, _, _, _, _, _, xfn_UnknownName, xci_UnknownName, rfl⟩, code := ⟨_, _, _, _, _, _, xco_UnknownName, xcv_UnknownName, xcf_UnknownName⟩, cell := ⟨_, _, _, xce_UnknownName⟩, sup := xsu_UnknownName, opq := xop_UnknownName, subV := xsv_UnknownName, subC := xsc_UnknownName, top := xtp_UnknownName }⟩, PySem.W.mg_none_of X G xsp_UnknownName⟩
  have XK_BadClaim : ExcK K mg "BadClaim" c_BadClaim := ⟨g_BadClaim, xk_BadClaim, xb_BadClaim, xy_BadClaim, xd_BadClaim⟩
  have XQ_BadClaim := xq_BadClaim
  have tb_BadClaim : ExcTab mg K (.ref c_BadClaim) xt_BadClaim := by
    intro n cls b hm ht
    have ht := xtab_mem ht
    simp only [List.mem_cons, List.not_mem_nil, or_false, Prod.mk.injEq] at ht
    rcases ht with ⟨rfl, rfl⟩ | ⟨rfl, rfl⟩
    · have e := hm.symm.trans g_UnknownName
      cases e
      exact PySem.W.exm_ref xb_BadClaim xd_BadClaim xy_BadClaim xm_BadClaim_UnknownName
    · have e := hm.symm.trans g_BadClaim
      cases e
      exact PySem.W.exm_ref xb_BadClaim xd_BadClaim xy_BadClaim xm_BadClaim_BadClaim
  have tb_UnknownName : ExcTab mg K (.ref c_UnknownName) xt_UnknownName := by
    intro n cls b hm ht
    have ht := xtab_mem ht
    simp only [List.mem_cons, List.not_mem_nil, or_false, Prod.mk.injEq] at ht
    rcases ht with ⟨rfl, rfl⟩ | ⟨rfl, rfl⟩
    · have e := hm.symm.trans g_UnknownName
      cases e
      exact PySem.W.exm_ref xb_UnknownName xd_UnknownName xy_UnknownName xm_UnknownName_UnknownName
    · have e := hm.symm.trans g_BadClaim
      cases e
      exact PySem.W.exm_ref xb_UnknownName xd_UnknownName xy_UnknownName xm_UnknownName_BadClaim
  have EC_UnknownName : ExcC K c_UnknownName := ⟨ehg_UnknownName, ehk_UnknownName, xb_UnknownName, xd_UnknownName, eha_UnknownName, e_hn, e_ht, ehm_UnknownName⟩
  have EC_BadClaim : ExcC K c_BadClaim := ⟨ehg_BadClaim, ehk_BadClaim, xb_BadClaim, xd_BadClaim, eha_BadClaim, e_hn, e_ht, ehm_BadClaim⟩
  have ti_BadWalk : IsTab mg K (.ref c_BadWalk) xt_BadWalk := by
    intro n cls b hm ht
    have ht := xtab_mem ht
    simp only [List.mem_cons, List.not_mem_nil, or_false, Prod.mk.injEq] at ht
    rcases ht with ⟨rfl, rfl⟩ | ⟨rfl, rfl⟩
    · have e := hm.symm.trans g_UnknownName
      cases e
      exact ⟨_, rfl, EC_UnknownName, xi_BadWalk_UnknownName⟩
    · have e := hm.symm.trans g_BadClaim
      cases e
      exact ⟨_, rfl, EC_BadClaim, xi_BadWalk_BadClaim⟩
  have ti_DifferwithinError : IsTab mg K (.ref c_DifferwithinError) xt_DifferwithinError := by
    intro n cls b hm ht
    have ht := xtab_mem ht
    simp only [List.mem_cons, List.not_mem_nil, or_false, Prod.mk.injEq] at ht
    rcases ht with ⟨rfl, rfl⟩ | ⟨rfl, rfl⟩
    · have e := hm.symm.trans g_UnknownName
      cases e
      exact ⟨_, rfl, EC_UnknownName, xi_DifferwithinError_UnknownName⟩
    · have e := hm.symm.trans g_BadClaim
      cases e
      exact ⟨_, rfl, EC_BadClaim, xi_DifferwithinError_BadClaim⟩
  have ti_ValueError : IsTab mg K (.type "ValueError") xt_ValueError := by
    intro n cls b hm ht
    have ht := xtab_mem ht
    simp only [List.mem_cons, List.not_mem_nil, or_false, Prod.mk.injEq] at ht
    rcases ht with ⟨rfl, rfl⟩ | ⟨rfl, rfl⟩
    · have e := hm.symm.trans g_UnknownName
      cases e
      exact ⟨_, rfl, EC_UnknownName, xi_ValueError_UnknownName⟩
    · have e := hm.symm.trans g_BadClaim
      cases e
      exact ⟨_, rfl, EC_BadClaim, xi_ValueError_BadClaim⟩
  have ti_BadClaim : IsTab mg K (.ref c_BadClaim) xt_BadClaim := by
    intro n cls b hm ht
    have ht := xtab_mem ht
    simp only [List.mem_cons, List.not_mem_nil, or_false, Prod.mk.injEq] at ht
    rcases ht with ⟨rfl, rfl⟩ | ⟨rfl, rfl⟩
    · have e := hm.symm.trans g_UnknownName
      cases e
      exact ⟨_, rfl, EC_UnknownName, xi_BadClaim_UnknownName⟩
    · have e := hm.symm.trans g_BadClaim
      cases e
      exact ⟨_, rfl, EC_BadClaim, xi_BadClaim_BadClaim⟩
  have ff_name : ∀ nm cls, mg nm = some cls → ft_name nm = true → ∃ Dc, cls = .ref Dc ∧ XfC K Dc ∧ PySem.W.findIn K (.ref Dc) "name" = some none := by
    intro n cls hm ht
    simp only [ft_name, Bool.or_eq_true, beq_iff_eq] at ht
    rcases ht with rfl
    · have e := hm.symm.trans g_UnknownName
      cases e
      exact ⟨_, rfl, ⟨ehg_UnknownName, ehk_UnknownName, xb_UnknownName, xd_UnknownName⟩, xf_name_UnknownName⟩
  refine ⟨PySem.W.fnOf "law" "law" (defArgs st_law) (defBody st_law) (defScope st_law) .none kV32 dc32 pm32 an32 cd32 ct32, fun s v => .of_eq rfl, fun base _ _ => ?_⟩
  have F__law_start := mp__law_start (P := l.prog) (mg := mg) (w := w) (base := base) (k := 0) T__law_start.fn z_list
  have F__law_draw := mp__law_draw (P := l.prog) (mg := mg) (w := w) (base := base) (k := 0) T__law_draw.fn z_int z_len z_abs
  have F__law_words := mp__law_words (P := l.prog) (mg := mg) (w := w) (base := base) (k := 1) T__law_words.fn T__law_draw (F__law_draw.mono (by decide)) z_range z_int
  have F0__law_shuffled := mp__law_shuffled (P := l.prog) (mg := mg) (w := w) (base := base) (k := 1) T__law_shuffled.fn T__law_draw (F__law_draw.mono (by decide)) z_len
  have F__law_shuffled := sp_gc F0__law_shuffled gc_shuf
  have F__law_proc_of := mp__law_proc_of (P := l.prog) (mg := mg) (w := w) (base := base) (k := 2) T__law_proc_of.fn T__law_shuffled (F__law_shuffled.mono (by decide)) T__law_draw (F__law_draw.mono (by decide)) z_tuple
  have F__law_core_of := mp__law_core_of (P := l.prog) (mg := mg) (w := w) (base := base) (k := 3) T__law_core_of.fn T__law_words (F__law_words.mono (by decide)) T__law_draw (F__law_draw.mono (by decide)) T__law_proc_of (F__law_proc_of.mono (by decide)) z_sorted z_tuple
  have F__law_one_of := mp__law_one_of (P := l.prog) (mg := mg) (w := w) (base := base) (k := 1) T__law_one_of.fn T__law_draw (F__law_draw.mono (by decide)) z_len
  have F0__law_parameters := mp__law_parameters (P := l.prog) (mg := mg) (w := w) (base := base) (k := 2) T__law_parameters.fn T__law_shuffled (F__law_shuffled.mono (by decide)) T__law_draw (F__law_draw.mono (by decide)) T__law_one_of (F__law_one_of.mono (by decide)) z_len z_tuple
  have F__law_parameters := sp_gc F0__law_parameters gc_fgt
  have F__law_is_int := mp__law_is_int (P := l.prog) (mg := mg) (w := w) (base := base) (k := 0) T__law_is_int.fn z_isinstance z_int z_bool
  have FR__law_same : ∀ n : Nat, FnOk l.prog w K mg base CX0 (n + 2) f9 _ ["x", "y"] (sp K mg 2 (sameL n)) := fun n => by
    induction n with
    | zero => exact fn_bad
    | succ n ih => exact mp__law_same T__law_same ih T__law_is_int (F__law_is_int.mono (by omega)) z_isinstance z_tuple z_len z_range z_all z_str
  have F__law_same := FR__law_same 40
  have F0__law_form := mp__law_form (P := l.prog) (mg := mg) (w := w) (base := base) (k := 0) T__law_form.fn z_sorted z_tuple
  have F__law_form := sp_gc F0__law_form gc_form
  have F__law_difference := mp__law_difference (P := l.prog) (mg := mg) (w := w) (base := base) (k := 1) T__law_difference.fn T__law_form (F__law_form.mono (by decide))
  have F__law_alike := mp__law_alike (P := l.prog) (mg := mg) (w := w) (base := base) (k := 2) T__law_alike.fn T__law_difference (F__law_difference.mono (by decide))
  have F__law_secret := mp__law_secret (P := l.prog) (mg := mg) (w := w) (base := base) (k := 3) T__law_secret.fn T__law_alike (F__law_alike.mono (by decide)) T__law_difference (F__law_difference.mono (by decide))
  have F__law_grows := mp__law_grows (P := l.prog) (mg := mg) (w := w) (base := base) (k := 3) T__law_grows.fn T__law_alike (F__law_alike.mono (by decide)) T__law_form (F__law_form.mono (by decide))
  have F__law_due := mp__law_due (P := l.prog) (mg := mg) (w := w) (base := base) (k := 4) T__law_due.fn T__law_secret (F__law_secret.mono (by decide)) T__law_grows (F__law_grows.mono (by decide)) z_any z_len
  have F_proc_named := mp_proc_named (P := l.prog) (mg := mg) (w := w) (base := base) (k := 0) T_proc_named.fn
  have F_proc_or_error := mp_proc_or_error (P := l.prog) (mg := mg) (w := w) (base := base) (k := 0) T_proc_or_error.fn T_proc_named (F_proc_named.mono (by decide)) z_any XI_UnknownName
  have F_integers_of := mp_integers_of (P := l.prog) (mg := mg) (w := w) (base := base) (k := 1) T_integers_of.fn T_proc_named (F_proc_named.mono (by decide))
  have F0_form := mp_form (P := l.prog) (mg := mg) (w := w) (base := base) (k := 0) T_form.fn z_sorted z_tuple
  have F_form := sp_gc F0_form gc_form
  have F_plus := mp_plus (P := l.prog) (mg := mg) (w := w) (base := base) (k := 1) T_plus.fn T_form (F_form.mono (by decide))
  have F_times := mp_times (P := l.prog) (mg := mg) (w := w) (base := base) (k := 0) T_times.fn z_tuple g_ZERO h_ZERO
  have F_minus := mp_minus (P := l.prog) (mg := mg) (w := w) (base := base) (k := 2) T_minus.fn T_plus (F_plus.mono (by decide)) T_times (F_times.mono (by decide))
  have F_both_ways := mp_both_ways (P := l.prog) (mg := mg) (w := w) (base := base) (k := 3) T_both_ways.fn T_minus (F_minus.mono (by decide))
  have F_variable := mp_variable (P := l.prog) (mg := mg) (w := w) (base := base) (k := 0) T_variable.fn
  have F0_equal_inputs := mp_equal_inputs (P := l.prog) (mg := mg) (w := w) (base := base) (k := 4) T_equal_inputs.fn T_proc_named (F_proc_named.mono (by decide)) T_both_ways (F_both_ways.mono (by decide)) T_variable (F_variable.mono (by decide)) z_tuple q_RIGHT q_LEFT
  have F_equal_inputs := sp_gc F0_equal_inputs gc_fgt
  have F0_equal_results := mp_equal_results (P := l.prog) (mg := mg) (w := w) (base := base) (k := 4) T_equal_results.fn T_both_ways (F_both_ways.mono (by decide)) T_variable (F_variable.mono (by decide)) q_RIGHT q_LEFT
  have F_equal_results := sp_gc F0_equal_results gc_fgt
  have F_count_name := mp_count_name (P := l.prog) (mg := mg) (w := w) (base := base) (k := 0) T_count_name.fn
  have F_secret_claim := mp_secret_claim (P := l.prog) (mg := mg) (w := w) (base := base) (k := 5) T_secret_claim.fn T_proc_or_error (F_proc_or_error.mono (by decide)) T_integers_of (F_integers_of.mono (by decide)) T_equal_inputs (F_equal_inputs.mono (by decide)) T_equal_results (F_equal_results.mono (by decide)) T_both_ways (F_both_ways.mono (by decide)) T_variable (F_variable.mono (by decide)) T_count_name (F_count_name.mono (by decide)) z_all z_list z_tuple q_RIGHT q_LEFT XK_BadClaim XQ_BadClaim
  have F_growing_claim := mp_growing_claim (P := l.prog) (mg := mg) (w := w) (base := base) (k := 5) T_growing_claim.fn T_proc_or_error (F_proc_or_error.mono (by decide)) T_integers_of (F_integers_of.mono (by decide)) T_equal_inputs (F_equal_inputs.mono (by decide)) T_minus (F_minus.mono (by decide)) T_variable (F_variable.mono (by decide)) z_len q_LEFT q_RIGHT XK_BadClaim XQ_BadClaim
  have F_moved_claim := mp_moved_claim (P := l.prog) (mg := mg) (w := w) (base := base) (k := 5) T_moved_claim.fn T_proc_or_error (F_proc_or_error.mono (by decide)) T_integers_of (F_integers_of.mono (by decide)) T_equal_inputs (F_equal_inputs.mono (by decide)) T_minus (F_minus.mono (by decide)) T_variable (F_variable.mono (by decide)) T_times (F_times.mono (by decide)) T_plus (F_plus.mono (by decide)) z_len q_LEFT q_RIGHT XK_BadClaim XQ_BadClaim
  have F__law_told := mp__law_told (P := l.prog) (mg := mg) (w := w) (base := base) (k := 6) T__law_told.fn T_secret_claim (F_secret_claim.mono (by decide)) T_growing_claim (F_growing_claim.mono (by decide)) T_moved_claim (F_moved_claim.mono (by decide)) z_isinstance z_ValueError g_BadClaim tb_BadClaim g_UnknownName tb_UnknownName g_BadWalk g_DifferwithinError ti_BadWalk ti_DifferwithinError ti_ValueError ti_BadClaim ff_name
  have F_law := mp_law (P := l.prog) (mg := mg) (w := w) (base := base) (k := 42) T_law.fn T__law_start (F__law_start.mono (by decide)) T__law_core_of (F__law_core_of.mono (by decide)) T__law_one_of (F__law_one_of.mono (by decide)) T__law_draw (F__law_draw.mono (by decide)) T__law_parameters (F__law_parameters.mono (by decide)) T__law_same (F__law_same.mono (by decide)) T__law_due (F__law_due.mono (by decide)) T__law_told (F__law_told.mono (by decide)) z_range z_tuple
  exact law_of F_law fun cs hc => law_ok hc
end K06
open PySem PySem.W PyProof.Rows
set_option maxRecDepth 100000 in
set_option maxHeartbeats 0 in
theorem PySem.Challenge.cw_differwithin_k08_twice_claims_holds : PySem.Challenge.rw_differwithin_k08_twice_claims.Holds := by
  w_on; o_law; k_head; (case hw => w_witness2)
  k_fill
  refine MP.walkM (l := PySem.Challenge.rw_differwithin_k08_twice_claims) (n := 63) (k := 43) rfl (by decide) rfl ⟨rfl, by decide, by decide⟩ (fun w h Y => PySem.W.kIn_of Y) ?F
  case F =>
    intro w mg fa h KX G hmg
    refine' K06.all_mk KX G hmg ?a0 ?l0 ?c0 ?k0 ?a1 ?l1 ?c1 ?k1 ?a2 ?l2 ?c2 ?k2 ?a3 ?l3 ?c3 ?k3 ?a4 ?l4 ?c4 ?k4 ?a5 ?l5 ?c5 ?k5 ?a6 ?l6 ?c6 ?k6 ?a7 ?l7 ?c7 ?k7 ?a8 ?l8 ?c8 ?k8 ?a9 ?l9 ?c9 ?k9 ?a10 ?l10 ?c10 ?k10 ?a11 ?l11 ?c11 ?k11 ?a12 ?l12 ?c12 ?k12 ?a13 ?l13 ?c13 ?k13 ?a14 ?l14 ?c14 ?k14 ?a15 ?l15 ?c15 ?k15 ?a16 ?l16 ?c16 ?k16 ?a17 ?l17 ?c17 ?k17 ?a18 ?l18 ?c18 ?k18 ?a19 ?l19 ?c19 ?k19 ?a20 ?l20 ?c20 ?k20 ?a21 ?l21 ?c21 ?k21 ?a22 ?l22 ?c22 ?k22 ?a23 ?l23 ?c23 ?k23 ?a24 ?l24 ?c24 ?k24 ?a25 ?l25 ?c25 ?k25 ?a26 ?l26 ?c26 ?k26 ?a27 ?l27 ?c27 ?k27 ?a28 ?l28 ?c28 ?k28 ?a29 ?l29 ?c29 ?k29 ?a30 ?l30 ?c30 ?k30 ?a31 ?l31 ?c31 ?k31 ?a32 ?l32 ?c32 ?k32 ?w_ZERO_1 ?w_ZERO ?x_ZERO ?x_RIGHT ?x_LEFT ?xa_UnknownName ?xk_UnknownName ?xb_UnknownName ?xy_UnknownName ?xd_UnknownName ?xa_BadClaim ?xk_BadClaim ?xb_BadClaim ?xy_BadClaim ?xd_BadClaim ?xa_BadWalk ?xk_BadWalk ?xb_BadWalk ?xy_BadWalk ?xd_BadWalk ?xa_DifferwithinError ?xk_DifferwithinError ?xb_DifferwithinError ?xy_DifferwithinError ?xd_DifferwithinError ?xl_UnknownName ?xsa_UnknownName ?xnn_UnknownName ?xic_UnknownName ?xti_UnknownName ?xfn_UnknownName ?xci_UnknownName ?xco_UnknownName ?xcv_UnknownName ?xcf_UnknownName ?xce_UnknownName ?xsu_UnknownName ?xop_UnknownName ?xsv_UnknownName ?xsc_UnknownName ?xtp_UnknownName ?xsp_UnknownName ?xq_BadClaim ?xm_BadClaim_UnknownName ?xm_BadClaim_BadClaim ?xm_UnknownName_UnknownName ?xm_UnknownName_BadClaim ?ehg_UnknownName ?ehk_UnknownName ?eha_UnknownName ?ehm_UnknownName ?ehg_BadClaim ?ehk_BadClaim ?eha_BadClaim ?ehm_BadClaim ?e_hn ?e_ht ?xi_BadWalk_UnknownName ?xi_BadWalk_BadClaim ?xi_DifferwithinError_UnknownName ?xi_DifferwithinError_BadClaim ?xi_ValueError_UnknownName ?xi_ValueError_BadClaim ?xi_BadClaim_UnknownName ?xi_BadClaim_BadClaim ?xf_name_UnknownName ?y_list ?y_int ?y_len ?y_abs ?y_range ?y_tuple ?y_sorted ?y_isinstance ?y_bool ?y_all ?y_str ?y_any ?y_ValueError
    (case a0 => k_is); (case l0 => k_is); (case c0 => k_is); (case k0 => k_is)
    (case a1 => k_is); (case l1 => k_is); (case c1 => k_is); (case k1 => k_is)
    (case a2 => k_is); (case l2 => k_is); (case c2 => k_is); (case k2 => k_is)
    (case a3 => k_is); (case l3 => k_is); (case c3 => k_is); (case k3 => k_is)
    (case a4 => k_is); (case l4 => k_is); (case c4 => k_is); (case k4 => k_is)
    (case a5 => k_is); (case l5 => k_is); (case c5 => k_is); (case k5 => k_is)
    (case a6 => k_is); (case l6 => k_is); (case c6 => k_is); (case k6 => k_is)
    (case a7 => k_is); (case l7 => k_is); (case c7 => k_is); (case k7 => k_is)
    (case a8 => k_is); (case l8 => k_is); (case c8 => k_is); (case k8 => k_is)
    (case a9 => k_is); (case l9 => k_is); (case c9 => k_is); (case k9 => k_is)
    (case a10 => k_is); (case l10 => k_is); (case c10 => k_is); (case k10 => k_is)
    (case a11 => k_is); (case l11 => k_is); (case c11 => k_is); (case k11 => k_is)
    (case a12 => k_is); (case l12 => k_is); (case c12 => k_is); (case k12 => k_is)
    (case a13 => k_is); (case l13 => k_is); (case c13 => k_is); (case k13 => k_is)
    (case a14 => k_is); (case l14 => k_is); (case c14 => k_is); (case k14 => k_is)
    (case a15 => k_is); (case l15 => k_is); (case c15 => k_is); (case k15 => k_is)
    (case a16 => k_is); (case l16 => k_is); (case c16 => k_is); (case k16 => k_is)
    (case a17 => k_is); (case l17 => k_is); (case c17 => k_is); (case k17 => k_is)
    (case a18 => k_is); (case l18 => k_is); (case c18 => k_is); (case k18 => k_is)
    (case a19 => k_is); (case l19 => k_is); (case c19 => k_is); (case k19 => k_is)
    (case a20 => k_is); (case l20 => k_is); (case c20 => k_is); (case k20 => k_is)
    (case a21 => k_is); (case l21 => k_is); (case c21 => k_is); (case k21 => k_is)
    (case a22 => k_is); (case l22 => k_is); (case c22 => k_is); (case k22 => k_is)
    (case a23 => k_is); (case l23 => k_is); (case c23 => k_is); (case k23 => k_is)
    (case a24 => k_is); (case l24 => k_is); (case c24 => k_is); (case k24 => k_is)
    (case a25 => k_is); (case l25 => k_is); (case c25 => k_is); (case k25 => k_is)
    (case a26 => k_is); (case l26 => k_is); (case c26 => k_is); (case k26 => k_is)
    (case a27 => k_is); (case l27 => k_is); (case c27 => k_is); (case k27 => k_is)
    (case a28 => k_is); (case l28 => k_is); (case c28 => k_is); (case k28 => k_is)
    (case a29 => k_is); (case l29 => k_is); (case c29 => k_is); (case k29 => k_is)
    (case a30 => k_is); (case l30 => k_is); (case c30 => k_is); (case k30 => k_is)
    (case a31 => k_is); (case l31 => k_is); (case c31 => k_is); (case k31 => k_is)
    (case a32 => k_is); (case l32 => k_is); (case c32 => k_is); (case k32 => k_is)
    (case x_ZERO => k_is); (case w_ZERO => k_is); (case w_ZERO_1 => k_is); (case x_RIGHT => k_is); (case x_LEFT => k_is); (case xa_UnknownName => k_is); (case xk_UnknownName => k_is); (case xb_UnknownName => k_is); (case xy_UnknownName => k_is); (case xd_UnknownName => k_is); (case xa_BadClaim => k_is); (case xk_BadClaim => k_is); (case xb_BadClaim => k_is); (case xy_BadClaim => k_is); (case xd_BadClaim => k_is); (case xa_BadWalk => k_is); (case xk_BadWalk => k_is); (case xb_BadWalk => k_is); (case xy_BadWalk => k_is); (case xd_BadWalk => k_is); (case xa_DifferwithinError => k_is); (case xk_DifferwithinError => k_is); (case xb_DifferwithinError => k_is); (case xy_DifferwithinError => k_is); (case xd_DifferwithinError => k_is); (case xl_UnknownName => k_is); (case xsa_UnknownName => k_is); (case xnn_UnknownName => k_is); (case xic_UnknownName => k_is); (case xti_UnknownName => k_is); (case xfn_UnknownName => k_is); (case xci_UnknownName => k_is); (case xco_UnknownName => k_is); (case xcv_UnknownName => first | rfl | decide +kernel); (case xcf_UnknownName => first | rfl | decide +kernel); (case xce_UnknownName => k_is); (case xsu_UnknownName => ks_is); (case xop_UnknownName => k_is); (case xsv_UnknownName => k_is); (case xsc_UnknownName => k_is); (case xtp_UnknownName => first | rfl | decide +kernel); (case xsp_UnknownName => k_is); (case xq_BadClaim => k_exc); (case xm_BadClaim_UnknownName => k_is); (case xm_BadClaim_BadClaim => k_is); (case xm_UnknownName_UnknownName => k_is); (case xm_UnknownName_BadClaim => k_is); (case ehg_UnknownName => k_is); (case ehk_UnknownName => k_is); (case eha_UnknownName => k_is); (case ehm_UnknownName => k_is); (case ehg_BadClaim => k_is); (case ehk_BadClaim => k_is); (case eha_BadClaim => k_is); (case ehm_BadClaim => k_is); (case e_hn => k_is); (case e_ht => k_is); (case xi_BadWalk_UnknownName => kit_is); (case xi_BadWalk_BadClaim => kit_is); (case xi_DifferwithinError_UnknownName => kit_is); (case xi_DifferwithinError_BadClaim => kit_is); (case xi_ValueError_UnknownName => kit_is); (case xi_ValueError_BadClaim => kit_is); (case xi_BadClaim_UnknownName => kit_is); (case xi_BadClaim_BadClaim => kit_is); (case xf_name_UnknownName => k_is)
    (case y_list => k_is); (case y_int => k_is); (case y_len => k_is); (case y_abs => k_is); (case y_range => k_is); (case y_tuple => k_is); (case y_sorted => k_is); (case y_isinstance => k_is); (case y_bool => k_is); (case y_all => k_is); (case y_str => k_is); (case y_any => k_is); (case y_ValueError => k_is)
