import PyProof.Rows.All
import Wide.All
import OpenK.AllK
import Wide.FinOn
import HandS.ForMost
import HandS.TupAny
import HandS.IsInst
import HandS.Wide
import HandS.WordsDict
import HandS.Zip
import HandS.Flow
import HandS.Exc
import HandS.SortKw
import HandS.More
import PySem.Challenge.RW_differwithin_k05_sided
set_option Elab.async false
set_option linter.all false
set_option maxRecDepth 100000
set_option maxHeartbeats 400000
/-! MP: a small semantics of plain data over the hand layer -/
namespace MP
open PySem L2 PyProof.Rows

/-- deep data: fl, fd are lists and dicts that nobody changes any more, ref a place of the small heap, ro a list that is locked or written -/
inductive D where
  | non | bl (b : Bool) | int (i : Int) | str (x : Str)
  | tup (xs : List D) | fl (xs : List D) | ro (xs : List D) | fd (ks : List Key) (xs : List D) | ref (n : Nat)
  deriving Inhabited
/-- what stands in the small heap -/
inductive MO where
  | lst (xs : List D) | dk (kvs : List (Key × D))
/-- an exception: its class's name, its own attributes -/
structure Xn where
  cls : Str
  fs : List (Str × D)
inductive R (α : Type) where
  | ok (a : α) (mu : List MO) | exc (x : Xn) (mu : List MO) | bad
def M (α : Type) := List MO → R α
def M.pure {α : Type} (a : α) : M α := fun mu => .ok a mu
def M.bind {α β : Type} (c : M α) (f : α → M β) : M β := fun mu => match c mu with
  | .ok a mu' => f a mu'
  | .exc x mu' => .exc x mu'
  | .bad => .bad
instance : Monad M where
  pure := M.pure
  bind := M.bind
def bad {α : Type} : M α := fun _ => .bad
def raise {α : Type} (x : Xn) : M α := fun mu => .exc x mu
theorem M.bind_ok {α β : Type} {c : M α} {f : α → M β} {mu mu' : List MO} {a : α} (h : c mu = .ok a mu') : (c >>= f) mu = f a mu' := by
  show M.bind c f mu = _
  unfold M.bind
  rw [h]
theorem M.bind_def {α β : Type} {c : M α} {f : α → M β} {mu : List MO} : (c >>= f) mu = match c mu with
  | .ok a mu' => f a mu'
  | .exc x mu' => .exc x mu'
  | .bad => .bad := rfl
theorem M.pure_def {α : Type} {a : α} {mu : List MO} : (Pure.pure a : M α) mu = .ok a mu := rfl

/-- where the small heap's places stand; further places that no datum may name -/
structure Mp where
  ad : List Addr
  no : List Addr
def Mp.Out (m : Mp) (a : Addr) : Prop := a ∉ m.ad ∧ a ∉ m.no
def Mp.add (m : Mp) (a : Addr) : Mp := ⟨m.ad ++ [a], m.no⟩
def Mp.shut (m : Mp) (a : Addr) : Mp := ⟨m.ad, m.no ++ [a]⟩
/-- a list of the written part; a list that is locked or written -/
def KL (K : PySem.W.Frag) (a : Addr) (xs : List V) : Prop := ∃ (o : Obj) (its : Array Value) (n : Nat), K.lookup a = some o ∧ o.cls = .type "list" ∧ o.dict = none ∧ o.data = .seq its n ∧ its.size ≤ sizeLine ∧ Vals xs its.toList
def RoAt (K : PySem.W.Frag) (H : Hp) (a : Addr) (xs : List V) : Prop := (∃ o, H a = some (.frz o (.lst xs))) ∨ KL K a xs
theorem RoAt.sqL {K : PySem.W.Frag} {H : Hp} {a : Addr} {xs : List V} (h : RoAt K H a xs) : SqL K H a xs := by
  rcases h with ⟨o, h⟩ | h
  · exact .inl (.inr ⟨o, h⟩)
  · exact .inr h
section
variable (K : PySem.W.Frag) (m : Mp) (H : Hp)
mutual
def Rep : D → V → Prop
  | .non, v => v = .non
  | .bl b, v => v = .bl b
  | .int i, v => v = .int i
  | .str x, v => v = .str x
  | .tup ds, v => ∃ a vs, v = .ref a ∧ SqT K H a vs ∧ Reps ds vs
  | .fl ds, v => ∃ a vs, v = .ref a ∧ H a = some (.lst vs) ∧ m.Out a ∧ Reps ds vs
  | .ro ds, v => ∃ a vs, v = .ref a ∧ RoAt K H a vs ∧ Reps ds vs
  | .fd ks ds, v => ∃ a vs, v = .ref a ∧ H a = some (.dK (ks.zip vs)) ∧ m.Out a ∧ ks.length = ds.length ∧ Reps ds vs
  | .ref n, v => ∃ a, v = .ref a ∧ m.ad[n]? = some a
def Reps : List D → List V → Prop
  | [], vs => vs = []
  | d :: ds, vs => ∃ v r, vs = v :: r ∧ Rep d v ∧ Reps ds r
end
def RepO (a : Addr) : MO → Prop
  | .lst ds => ∃ vs, H a = some (.lst vs) ∧ Reps K m H ds vs
  | .dk kvs => ∃ vs, H a = some (.dK ((kvs.map (·.1)).zip vs)) ∧ Reps K m H (kvs.map (·.2)) vs
end

/-- the heap grows: new places, what stands outside of m stays -/
structure Grow (m m' : Mp) (H H' : Hp) : Prop where
  ext : ∃ l k, m'.ad = m.ad ++ l ∧ m'.no = m.no ++ k ∧ (∀ a ∈ l, H a = none) ∧ ∀ a ∈ k, H a = none
  oth : ∀ a o, H a = some o → a ∉ m.ad → H' a = some o
  tups : ∀ a xs, H a = some (.tup xs) → H' a = some (.tup xs)
  frzs : ∀ a o u, H a = some (.frz o u) → H' a = some (.frz o u)
  trk : ∀ a o, H a = some o → ∃ o', H' a = some o'
theorem nodup_ix' {N : List Addr} (hN : N.Nodup) {i j : Nat} {x : Addr} (a : N[i]? = some x) (b : N[j]? = some x) : i = j := by
  obtain ⟨h1, e1⟩ := List.getElem?_eq_some_iff.mp a
  obtain ⟨h2, e2⟩ := List.getElem?_eq_some_iff.mp b
  exact (List.getElem_inj hN).mp (by rw [e1, e2])
theorem Grow.refl {m : Mp} {H : Hp} : Grow m m H H := ⟨⟨[], [], by simp, by simp, by simp, by simp⟩, fun _ _ h _ => h, fun _ _ h => h, fun _ _ _ h => h, fun _ o h => ⟨o, h⟩⟩
theorem Grow.notin {m m' : Mp} {H H' : Hp} (g : Grow m m' H H') {a : Addr} {o : HO} (h : H a = some o) (n : a ∉ m.ad) : a ∉ m'.ad := by
  obtain ⟨l, k, e, _, hl, _⟩ := g.ext
  rw [e]
  intro hm
  rcases List.mem_append.mp hm with z | z
  · exact n z
  · rw [hl a z] at h; cases h
theorem Grow.out {m m' : Mp} {H H' : Hp} (g : Grow m m' H H') {a : Addr} {o : HO} (h : H a = some o) (n : m.Out a) : m'.Out a := by
  refine ⟨g.notin h n.1, ?_⟩
  obtain ⟨l, k, _, e, _, hk⟩ := g.ext
  rw [e]
  intro hm
  rcases List.mem_append.mp hm with z | z
  · exact n.2 z
  · rw [hk a z] at h; cases h
theorem Grow.trans {m m1 m2 : Mp} {H H1 H2 : Hp} (g : Grow m m1 H H1) (g' : Grow m1 m2 H1 H2) : Grow m m2 H H2 := by
  have back : ∀ a, H1 a = none → H a = none := fun a h => by
    cases e : H a with
    | none => rfl
    | some o =>
      obtain ⟨o', h'⟩ := g.trk a o e
      rw [h] at h'; cases h'
  refine ⟨?_, fun a o h n => g'.oth a o (g.oth a o h n) (g.notin h n), fun a xs h => g'.tups a xs (g.tups a xs h), fun a o u h => g'.frzs a o u (g.frzs a o u h), fun a o h => ?_⟩
  · obtain ⟨l, k, e1, e2, hl, hk⟩ := g.ext
    obtain ⟨l', k', e1', e2', hl', hk'⟩ := g'.ext
    refine ⟨l ++ l', k ++ k', by rw [e1', e1, List.append_assoc], by rw [e2', e2, List.append_assoc], fun a ha => ?_, fun a ha => ?_⟩
    · rcases List.mem_append.mp ha with z | z
      · exact hl a z
      · exact back a (hl' a z)
    · rcases List.mem_append.mp ha with z | z
      · exact hk a z
      · exact back a (hk' a z)
  · obtain ⟨o1, h1⟩ := g.trk a o h
    exact g'.trk a o1 h1
theorem Grow.get {m m' : Mp} {H H' : Hp} (g : Grow m m' H H') {n : Nat} {a : Addr} (h : m.ad[n]? = some a) : m'.ad[n]? = some a := by
  obtain ⟨l, k, e, _⟩ := g.ext
  rw [e, List.getElem?_append_left (List.getElem?_eq_some_iff.mp h).1]; exact h
theorem Grow.sqT {K : PySem.W.Frag} {m m' : Mp} {H H' : Hp} (g : Grow m m' H H') {a : Addr} {xs : List V} (h : SqT K H a xs) : SqT K H' a xs := by
  rcases h with (h | ⟨o, h⟩) | h
  · exact .inl (.inl (g.tups a xs h))
  · exact .inl (.inr ⟨o, g.frzs a o _ h⟩)
  · exact .inr h
theorem Grow.roAt {K : PySem.W.Frag} {m m' : Mp} {H H' : Hp} (g : Grow m m' H H') {a : Addr} {xs : List V} (h : RoAt K H a xs) : RoAt K H' a xs := by
  rcases h with ⟨o, h⟩ | h
  · exact .inl ⟨o, g.frzs a o _ h⟩
  · exact .inr h
section
variable {K : PySem.W.Frag} {m m' : Mp} {H H' : Hp}
/-- what the data lean on stays -/
structure Keep (m m' : Mp) (H H' : Hp) : Prop where
  get : ∀ (n : Nat) (a : Addr), m.ad[n]? = some a → m'.ad[n]? = some a
  fl : ∀ a o, H a = some o → m.Out a → H' a = some o ∧ m'.Out a
  tups : ∀ a xs, H a = some (.tup xs) → H' a = some (.tup xs)
  frzs : ∀ a o u, H a = some (.frz o u) → H' a = some (.frz o u)
theorem Grow.keep (g : Grow m m' H H') : Keep m m' H H' := ⟨fun _ _ h => g.get h, fun a o h n => ⟨g.oth a o h n.1, g.out h n⟩, g.tups, g.frzs⟩
theorem Keep.sqT (g : Keep m m' H H') {a : Addr} {xs : List V} (h : SqT K H a xs) : SqT K H' a xs := by
  rcases h with (h | ⟨o, h⟩) | h
  · exact .inl (.inl (g.tups a xs h))
  · exact .inl (.inr ⟨o, g.frzs a o _ h⟩)
  · exact .inr h
theorem Keep.roAt (g : Keep m m' H H') {a : Addr} {xs : List V} (h : RoAt K H a xs) : RoAt K H' a xs := by
  rcases h with ⟨o, h⟩ | h
  · exact .inl ⟨o, g.frzs a o _ h⟩
  · exact .inr h
mutual
theorem Rep.keep (g : Keep m m' H H') : ∀ (d : D) (v : V), Rep K m H d v → Rep K m' H' d v
  | .non, v, h => by simp only [Rep] at h ⊢; exact h
  | .bl b, v, h => by simp only [Rep] at h ⊢; exact h
  | .int i, v, h => by simp only [Rep] at h ⊢; exact h
  | .str x, v, h => by simp only [Rep] at h ⊢; exact h
  | .tup ds, v, h => by
    simp only [Rep] at h ⊢
    obtain ⟨a, vs, e, hs, hr⟩ := h
    exact ⟨a, vs, e, g.sqT hs, Reps.keep g ds vs hr⟩
  | .fl ds, v, h => by
    simp only [Rep] at h ⊢
    obtain ⟨a, vs, e, hs, hn, hr⟩ := h
    exact ⟨a, vs, e, (g.fl a _ hs hn).1, (g.fl a _ hs hn).2, Reps.keep g ds vs hr⟩
  | .ro ds, v, h => by
    simp only [Rep] at h ⊢
    obtain ⟨a, vs, e, hs, hr⟩ := h
    exact ⟨a, vs, e, g.roAt hs, Reps.keep g ds vs hr⟩
  | .fd ks ds, v, h => by
    simp only [Rep] at h ⊢
    obtain ⟨a, vs, e, hs, hn, hl, hr⟩ := h
    exact ⟨a, vs, e, (g.fl a _ hs hn).1, (g.fl a _ hs hn).2, hl, Reps.keep g ds vs hr⟩
  | .ref n, v, h => by
    simp only [Rep] at h ⊢
    obtain ⟨a, e, hm⟩ := h
    exact ⟨a, e, g.get n a hm⟩
theorem Reps.keep (g : Keep m m' H H') : ∀ (ds : List D) (vs : List V), Reps K m H ds vs → Reps K m' H' ds vs
  | [], vs, h => by simp only [Reps] at h ⊢; exact h
  | d :: ds, vs, h => by
    simp only [Reps] at h ⊢
    obtain ⟨v, r, e, h1, h2⟩ := h
    exact ⟨v, r, e, Rep.keep g d v h1, Reps.keep g ds r h2⟩
end
theorem Rep.grow (g : Grow m m' H H') (d : D) (v : V) (h : Rep K m H d v) : Rep K m' H' d v := Rep.keep g.keep d v h
theorem Reps.grow (g : Grow m m' H H') (ds : List D) (vs : List V) (h : Reps K m H ds vs) : Reps K m' H' ds vs := Reps.keep g.keep ds vs h
theorem Reps.nil_iff {vs : List V} : Reps K m H [] vs ↔ vs = [] := by simp only [Reps]
theorem Reps.cons_iff {d : D} {ds : List D} {vs : List V} : Reps K m H (d :: ds) vs ↔ ∃ v r, vs = v :: r ∧ Rep K m H d v ∧ Reps K m H ds r := by simp only [Reps]
theorem Reps.length : ∀ {ds : List D} {vs : List V}, Reps K m H ds vs → ds.length = vs.length
  | [], vs, h => by rw [Reps.nil_iff] at h; subst h; rfl
  | d :: ds, vs, h => by
    obtain ⟨v, r, e, _, h2⟩ := Reps.cons_iff.mp h
    subst e
    rw [List.length_cons, List.length_cons, Reps.length h2]
theorem Reps.get : ∀ {ds : List D} {vs : List V} {i : Nat} {d : D}, Reps K m H ds vs → ds[i]? = some d → ∃ v, vs[i]? = some v ∧ Rep K m H d v
  | [], vs, i, d, _, e => by simp at e
  | d' :: ds, vs, i, d, h, e => by
    obtain ⟨v, r, ev, h1, h2⟩ := Reps.cons_iff.mp h
    subst ev
    cases i with
    | zero => simp at e; subst e; exact ⟨v, rfl, h1⟩
    | succ i =>
      obtain ⟨w, hw, rw'⟩ := Reps.get (i := i) (d := d) h2 (by simpa using e)
      exact ⟨w, by simpa using hw, rw'⟩
theorem Reps.append : ∀ {ds es : List D} {vs ws : List V}, Reps K m H ds vs → Reps K m H es ws → Reps K m H (ds ++ es) (vs ++ ws)
  | [], es, vs, ws, h, h' => by rw [Reps.nil_iff] at h; subst h; exact h'
  | d :: ds, es, vs, ws, h, h' => by
    obtain ⟨v, r, ev, h1, h2⟩ := Reps.cons_iff.mp h
    subst ev
    exact Reps.cons_iff.mpr ⟨v, r ++ ws, rfl, h1, Reps.append h2 h'⟩
theorem Reps.one {d : D} {v : V} (h : Rep K m H d v) : Reps K m H [d] [v] := Reps.cons_iff.mpr ⟨v, [], rfl, h, Reps.nil_iff.mpr rfl⟩
theorem Reps.take (n : Nat) : ∀ {ds : List D} {vs : List V}, Reps K m H ds vs → Reps K m H (ds.take n) (vs.take n) := by
  induction n with
  | zero => intro ds vs _; exact Reps.nil_iff.mpr rfl
  | succ n ih =>
    intro ds vs h
    cases ds with
    | nil => rw [Reps.nil_iff] at h; subst h; exact Reps.nil_iff.mpr rfl
    | cons d ds =>
      obtain ⟨v, r, ev, h1, h2⟩ := Reps.cons_iff.mp h
      subst ev
      exact Reps.cons_iff.mpr ⟨v, r.take n, rfl, h1, ih h2⟩
theorem Reps.drop (n : Nat) : ∀ {ds : List D} {vs : List V}, Reps K m H ds vs → Reps K m H (ds.drop n) (vs.drop n) := by
  induction n with
  | zero => intro ds vs h; exact h
  | succ n ih =>
    intro ds vs h
    cases ds with
    | nil => rw [Reps.nil_iff] at h; subst h; exact Reps.nil_iff.mpr rfl
    | cons d ds =>
      obtain ⟨v, r, ev, h1, h2⟩ := Reps.cons_iff.mp h
      subst ev
      exact ih h2
theorem Reps.set {d : D} {v : V} (hd : Rep K m H d v) : ∀ {ds : List D} {vs : List V} (i : Nat), Reps K m H ds vs → Reps K m H (ds.set i d) (vs.set i v)
  | [], vs, i, h => by rw [Reps.nil_iff] at h; subst h; exact Reps.nil_iff.mpr rfl
  | e :: ds, vs, i, h => by
    obtain ⟨w, r, ev, h1, h2⟩ := Reps.cons_iff.mp h
    subst ev
    cases i with
    | zero => exact Reps.cons_iff.mpr ⟨v, r, rfl, hd, h2⟩
    | succ i => exact Reps.cons_iff.mpr ⟨w, r.set i v, rfl, h1, Reps.set hd i h2⟩
theorem Reps.of_ints : ∀ {ns : List Int} {vs : List V}, Reps K m H (ns.map D.int) vs ↔ vs = ns.map V.int
  | [], vs => Reps.nil_iff
  | n :: ns, vs => by
    rw [List.map_cons, Reps.cons_iff, List.map_cons]
    constructor
    · rintro ⟨v, r, e, h1, h2⟩
      simp only [Rep] at h1
      rw [e, h1, Reps.of_ints.mp h2]
    · rintro rfl
      exact ⟨_, _, rfl, by simp only [Rep], Reps.of_ints.mpr rfl⟩
theorem Reps.of_strs : ∀ {ns : List Str} {vs : List V}, Reps K m H (ns.map D.str) vs ↔ vs = ns.map V.str
  | [], vs => Reps.nil_iff
  | n :: ns, vs => by
    rw [List.map_cons, Reps.cons_iff, List.map_cons]
    constructor
    · rintro ⟨v, r, e, h1, h2⟩
      simp only [Rep] at h1
      rw [e, h1, Reps.of_strs.mp h2]
    · rintro rfl
      exact ⟨_, _, rfl, by simp only [Rep], Reps.of_strs.mpr rfl⟩
theorem Reps.of_bls : ∀ {ns : List Bool} {vs : List V}, Reps K m H (ns.map D.bl) vs ↔ vs = ns.map V.bl
  | [], vs => Reps.nil_iff
  | n :: ns, vs => by
    rw [List.map_cons, Reps.cons_iff, List.map_cons]
    constructor
    · rintro ⟨v, r, e, h1, h2⟩
      simp only [Rep] at h1
      rw [e, h1, Reps.of_bls.mp h2]
    · rintro rfl
      exact ⟨_, _, rfl, by simp only [Rep], Reps.of_bls.mpr rfl⟩
theorem RepO.keep (g : Keep m m' H H') {a : Addr} (hk : ∀ o, H a = some o → H' a = some o) : ∀ {o : MO}, RepO K m H a o → RepO K m' H' a o
  | .lst ds, ⟨vs, h, r⟩ => ⟨vs, hk _ h, Reps.keep g ds vs r⟩
  | .dk kvs, ⟨vs, h, r⟩ => ⟨vs, hk _ h, Reps.keep g _ vs r⟩
theorem RepO.grow (g : Grow m m' H H') {a : Addr} (hk : ∀ o, H a = some o → H' a = some o) : ∀ {o : MO}, RepO K m H a o → RepO K m' H' a o
  | .lst ds, ⟨vs, h, r⟩ => ⟨vs, hk _ h, Reps.grow g ds vs r⟩
  | .dk kvs, ⟨vs, h, r⟩ => ⟨vs, hk _ h, Reps.grow g _ vs r⟩
/-- the small heap stands -/
structure Rel (K : PySem.W.Frag) (m : Mp) (mu : List MO) (H : Hp) : Prop where
  len : m.ad.length = mu.length
  nd : m.ad.Nodup
  nos : ∀ a, a ∈ m.no → ∃ o, H a = some o
  dj : ∀ a, a ∈ m.ad → a ∉ m.no
  obj : ∀ (n : Nat) (o : MO) (a : Addr), mu[n]? = some o → m.ad[n]? = some a → RepO K m H a o
theorem Rel.at {mu : List MO} (r : Rel K m mu H) {n : Nat} {o : MO} (h : mu[n]? = some o) : ∃ a, m.ad[n]? = some a ∧ RepO K m H a o := by
  have hn : n < m.ad.length := by rw [r.len]; exact (List.getElem?_eq_some_iff.mp h).1
  exact ⟨m.ad[n], List.getElem?_eq_getElem hn, r.obj n o _ h (List.getElem?_eq_getElem hn)⟩
theorem Rel.at' {mu : List MO} (r : Rel K m mu H) {n : Nat} {a : Addr} (h : m.ad[n]? = some a) : ∃ o, mu[n]? = some o ∧ RepO K m H a o := by
  have hn : n < mu.length := by rw [← r.len]; exact (List.getElem?_eq_some_iff.mp h).1
  exact ⟨mu[n], List.getElem?_eq_getElem hn, r.obj n _ a (List.getElem?_eq_getElem hn) h⟩
theorem RepO.there {a : Addr} : ∀ {o : MO}, RepO K m H a o → (∃ vs, H a = some (.lst vs)) ∨ ∃ kvs, H a = some (.dK kvs)
  | .lst _, ⟨vs, h, _⟩ => .inl ⟨vs, h⟩
  | .dk _, ⟨_, h, _⟩ => .inr ⟨_, h⟩
theorem Rel.mem {mu : List MO} (r : Rel K m mu H) {a : Addr} (h : a ∈ m.ad) : (∃ vs, H a = some (.lst vs)) ∨ ∃ kvs, H a = some (.dK kvs) := by
  obtain ⟨n, hn⟩ := List.mem_iff_getElem?.mp h
  obtain ⟨o, _, ho⟩ := r.at' hn
  exact ho.there
/-- a place that is free may be taken for an object outside of m -/
theorem Grow.laid {a : Addr} {o : HO} (h : H a = none) : Grow m m H (upd H a o) :=
  ⟨⟨[], [], by simp, by simp, by simp, by simp⟩, fun b u e _ => by rw [upd_ne (ne_of_none e h)]; exact e, fun b u e => by rw [upd_ne (ne_of_none e h)]; exact e, fun b u w e => by rw [upd_ne (ne_of_none e h)]; exact e, fun b u e => ⟨u, by rw [upd_ne (ne_of_none e h)]; exact e⟩⟩
theorem Rel.laid {mu : List MO} {a : Addr} {o : HO} (r : Rel K m mu H) (h : H a = none) : Rel K m mu (upd H a o) :=
  ⟨r.len, r.nd, fun b hb => (Grow.laid (m := m) h).trk b _ (r.nos b hb).choose_spec, r.dj, fun n ob b e e' => (r.obj n ob b e e').grow (.laid h) fun u q => by rw [upd_ne (ne_of_none q h)]; exact q⟩
theorem Rel.free {mu : List MO} {a : Addr} (r : Rel K m mu H) (h : H a = none) : m.Out a := ⟨fun z => by
  rcases r.mem z with ⟨_, q⟩ | ⟨_, q⟩ <;> (rw [h] at q; cases q), fun z => by
  obtain ⟨o, q⟩ := r.nos a z
  rw [h] at q; cases q⟩
/-- an object that is not yet of the small heap is taken into it -/
theorem Grow.adopt {H0 : Hp} {a : Addr} (g : Grow m m' H0 H) (h0 : H0 a = none) : Grow m (m'.add a) H0 H := by
  obtain ⟨l, k, e, e2, hl, hk⟩ := g.ext
  refine ⟨⟨l ++ [a], k, by show m'.ad ++ [a] = _; rw [e, List.append_assoc], e2, fun b hb => ?_, hk⟩, g.oth, g.tups, g.frzs, g.trk⟩
  rcases List.mem_append.mp hb with z | z
  · exact hl b z
  · rw [List.mem_singleton.mp z]; exact h0
/-- an object of the small heap is changed -/
theorem Grow.write {mu : List MO} {n : Nat} {a : Addr} {ho : HO} (r : Rel K m mu H) (hm : m.ad[n]? = some a) : Grow m m H (upd H a ho) := by
  have hmem : a ∈ m.ad := List.mem_of_getElem? hm
  have hin := r.mem hmem
  refine ⟨⟨[], [], by simp, by simp, by simp, by simp⟩, fun b u e nb => ?_, fun b u e => ?_, fun b u w e => ?_, fun b u e => ?_⟩
  · rw [upd_ne (show b ≠ a from fun z => nb (by rw [z]; exact hmem))]; exact e
  · rw [upd_ne (show b ≠ a from fun z => by rw [z] at e; rcases hin with ⟨_, q⟩ | ⟨_, q⟩ <;> (rw [q] at e; cases e))]; exact e
  · rw [upd_ne (show b ≠ a from fun z => by rw [z] at e; rcases hin with ⟨_, q⟩ | ⟨_, q⟩ <;> (rw [q] at e; cases e))]; exact e
  · by_cases z : b = a
    · subst z; exact ⟨ho, upd_same⟩
    · exact ⟨u, by rw [upd_ne z]; exact e⟩
theorem Rel.write {mu : List MO} {n : Nat} {a : Addr} {o : MO} {ho : HO} (r : Rel K m mu H) (hm : m.ad[n]? = some a) (hnew : RepO K m (upd H a ho) a o) : Rel K m (mu.set n o) (upd H a ho) := by
  have g : Grow m m H (upd H a ho) := .write r hm
  refine ⟨by rw [List.length_set]; exact r.len, r.nd, fun b hb => g.trk b _ (r.nos b hb).choose_spec, r.dj, fun k ob b e e' => ?_⟩
  by_cases hk : k = n
  · subst hk
    rw [hm] at e'; cases e'
    rw [List.getElem?_set_self (by rw [← r.len]; exact (List.getElem?_eq_some_iff.mp hm).1)] at e
    cases e
    exact hnew
  · rw [List.getElem?_set_ne (Ne.symm hk)] at e
    have hba : b ≠ a := fun z => hk (nodup_ix' r.nd e' (z ▸ hm))
    exact (r.obj k ob b e e').grow g fun u q => by rw [upd_ne hba]; exact q
end
end MP
namespace MP
open PySem L2 PyProof.Rows

abbrev Env := List (Option D)
structure RepE (K : PySem.W.Frag) (m : Mp) (H : Hp) (env : Env) (σ : L2.St) : Prop where
  len : env.length = σ.length
  get : ∀ (i : Nat) (d : D), env[i]? = some (some d) → ∃ v, σ[i]? = some (some v) ∧ Rep K m H d v
abbrev Wx := Xn → Mp → Hp → Prop
def Post (K : PySem.W.Frag) (W : Wx) (m : Mp) (H : Hp) {α : Type} (r : R α) (Q : α → Mp → List MO → Hp → Prop) : Prop := match r with
  | .ok a mu' => ∀ m' H', Grow m m' H H' → Rel K m' mu' H' → Q a m' mu' H'
  | .exc x mu' => ∀ m' H', Grow m m' H H' → Rel K m' mu' H' → W x m' H'
  | .bad => False
section
variable {K : PySem.W.Frag} {W : Wx} {m m' : Mp} {H H' : Hp} {α β : Type} {env : Env} {σ : L2.St} {mu : List MO}
theorem RepE.grow (r : RepE K m H env σ) (g : Grow m m' H H') : RepE K m' H' env σ :=
  ⟨r.len, fun i d e => let ⟨v, h, q⟩ := r.get i d e; ⟨v, h, Rep.grow g d v q⟩⟩
theorem RepE.keep (r : RepE K m H env σ) (g : Keep m m' H H') : RepE K m' H' env σ :=
  ⟨r.len, fun i d e => let ⟨v, h, q⟩ := r.get i d e; ⟨v, h, Rep.keep g d v q⟩⟩
theorem RepE.set (r : RepE K m H env σ) {i : Nat} {d : D} {v : V} (h : Rep K m H d v) : RepE K m H (env.set i (some d)) (σ.set i (some v)) := by
  refine ⟨by rw [List.length_set, List.length_set, r.len], fun j e he => ?_⟩
  by_cases hj : i = j
  · subst hj
    by_cases hi : i < env.length
    · rw [List.getElem?_set_self hi] at he
      cases he
      exact ⟨v, List.getElem?_set_self (by rw [← r.len]; exact hi), h⟩
    · rw [List.getElem?_eq_none (by rw [List.length_set]; omega)] at he
      cases he
  · rw [List.getElem?_set_ne hj] at he
    obtain ⟨w, hw, q⟩ := r.get j e he
    exact ⟨w, by rw [List.getElem?_set_ne hj]; exact hw, q⟩
/-- slots forgotten -/
def wipeE (env : Env) : List Nat → Env
  | [] => env
  | i :: is => (wipeE env is).set i none
theorem wipeE_length : ∀ (is : List Nat), (wipeE env is).length = env.length
  | [] => rfl
  | i :: is => by unfold wipeE; rw [List.length_set, wipeE_length is]
theorem wipeE_some {i : Nat} {d : D} : ∀ {is : List Nat}, (wipeE env is)[i]? = some (some d) → env[i]? = some (some d) ∧ i ∉ is
  | [], h => ⟨h, by simp⟩
  | j :: is, h => by
    unfold wipeE at h
    by_cases hi : j = i
    · subst hi
      by_cases hv : j < (wipeE env is).length
      · rw [List.getElem?_set_self hv] at h; cases h
      · rw [List.getElem?_eq_none (by simpa using hv)] at h; cases h
    · rw [List.getElem?_set_ne hi] at h
      obtain ⟨h1, h2⟩ := wipeE_some h
      exact ⟨h1, by simp only [List.mem_cons, not_or]; exact ⟨fun e => hi e.symm, h2⟩⟩
theorem RepE.wipeL (r : RepE K m H env σ) (is : List Nat) : RepE K m H (wipeE env is) σ :=
  ⟨by rw [wipeE_length]; exact r.len, fun i d e => r.get i d (wipeE_some e).1⟩
theorem L2wipe_get {i : Nat} : ∀ {is : List Nat}, i ∉ is → (L2.wipe σ is)[i]? = σ[i]?
  | [], _ => rfl
  | j :: is, h => by
    simp only [List.mem_cons, not_or] at h
    unfold L2.wipe
    rw [List.getElem?_set_ne (Ne.symm h.1), L2wipe_get h.2]
theorem RepE.wipe (r : RepE K m H env σ) (is : List Nat) : RepE K m H (wipeE env is) (L2.wipe σ is) :=
  ⟨by rw [wipeE_length, L2.wipe_length]; exact r.len, fun i d e => by
    obtain ⟨h1, h2⟩ := wipeE_some e
    obtain ⟨v, h, q⟩ := r.get i d h1
    exact ⟨v, by rw [L2wipe_get h2]; exact h, q⟩⟩
theorem Post.mono {r : R α} {Q Q' : α → Mp → List MO → Hp → Prop} (h : Post K W m H r Q) (hQ : ∀ a m' mu' H', Grow m m' H H' → Rel K m' mu' H' → Q a m' mu' H' → Q' a m' mu' H') : Post K W m H r Q' := by
  cases r with
  | ok a mu' => exact fun m' H' g rl => hQ a m' mu' H' g rl (h m' H' g rl)
  | exc x mu' => exact h
  | bad => exact h
theorem Post.grow {r : R α} {Q : α → Mp → List MO → Hp → Prop} (h : Post K W m H r Q) (g : Grow m m' H H') : Post K W m' H' r Q := by
  cases r with
  | ok a mu' => exact fun m2 H2 g2 rl => h m2 H2 (g.trans g2) rl
  | exc x mu' => exact fun m2 H2 g2 rl => h m2 H2 (g.trans g2) rl
  | bad => exact h
theorem Post.bind {c : M α} {f : α → M β} {Q : β → Mp → List MO → Hp → Prop} (h : Post K W m H ((c >>= f) mu) Q) : Post K W m H (c mu) (fun a m' mu' H' => Post K W m' H' (f a mu') Q) := by
  rw [M.bind_def] at h
  cases e : c mu with
  | ok a mu' =>
    rw [e] at h
    exact fun m' H' g rl => h.grow g
  | exc x mu' => rw [e] at h; exact h
  | bad => rw [e] at h; exact h
theorem Post.pure {a : α} {Q : α → Mp → List MO → Hp → Prop} (h : Post K W m H ((Pure.pure a : M α) mu) Q) (rl : Rel K m mu H) : Q a m mu H := h m H .refl rl
theorem Post.wx {W' : Wx} {r : R α} {Q : α → Mp → List MO → Hp → Prop} (h : Post K W m H r Q) (hw : ∀ x m H, W x m H → W' x m H) : Post K W' m H r Q := by
  cases r with
  | ok a mu' => exact h
  | exc x mu' => exact fun m' H' g rl => hw _ _ _ (h m' H' g rl)
  | bad => exact h
end

/-! ### readings -/
def tE (K : PySem.W.Frag) (W : Wx) (r : Env → M D) : TE := fun σ H Q => ∃ env m mu, RepE K m H env σ ∧ Rel K m mu H ∧ Post K W m H (r env mu) fun d m' _ H' => ∀ v, Rep K m' H' d v → Q v H'
def tT (K : PySem.W.Frag) (W : Wx) (r : Env → M Bool) : TT := fun σ H Q => ∃ env m mu, RepE K m H env σ ∧ Rel K m mu H ∧ Post K W m H (r env mu) fun b _ _ H' => Q b H'
def tA (K : PySem.W.Frag) (W : Wx) (r : Env → M (List D)) : TA := fun σ H Q => ∃ env m mu, RepE K m H env σ ∧ Rel K m mu H ∧ Post K W m H (r env mu) fun ds m' _ H' => ∀ vs, Reps K m' H' ds vs → Q vs H'
/-- what a def hands back: a datum, or a list that is new -/
inductive Rv where
  | vl (d : D) | fr (ds : List D)
inductive Fl where
  | nx (e : Env) | rt (rv : Rv) | bk (e : Env) | ct (e : Env)
/-- a list that was not there ahead of H, and that nothing else holds -/
def NewL (K : PySem.W.Frag) (H : Hp) (ds : List D) (m' : Mp) (mu' : List MO) (H' : Hp) (Q : VK) : Prop :=
  ∀ a vs, H a = none → H' a = some (.lst vs) → m'.Out a → Reps K m' H' ds vs → Rel K (m'.add a) (mu' ++ [.lst ds]) H' → Q (.ref a) H'
def RvQ (K : PySem.W.Frag) (H : Hp) (rv : Rv) (m' : Mp) (mu' : List MO) (H' : Hp) (Q : VK) : Prop := match rv with
  | .vl d => ∀ v, Rep K m' H' d v → Q v H'
  | .fr ds => NewL K H ds m' mu' H' Q
theorem Grow.none_of {m m1 : Mp} {H H1 : Hp} (g : Grow m m1 H H1) {a : Addr} (h : H1 a = none) : H a = none := by
  cases e : H a with
  | none => rfl
  | some o =>
    obtain ⟨o', h'⟩ := g.trk a o e
    rw [h] at h'; cases h'
theorem NewL.from {K : PySem.W.Frag} {m m1 m' : Mp} {mu' : List MO} {H H1 H' : Hp} {ds : List D} {Q : VK} (h : NewL K H ds m' mu' H' Q) (g : Grow m m1 H H1) : NewL K H1 ds m' mu' H' Q := fun a vs h1 => h a vs (g.none_of h1)
theorem RvQ.from {K : PySem.W.Frag} {m m1 m' : Mp} {mu' : List MO} {H H1 H' : Hp} {rv : Rv} {Q : VK} (h : RvQ K H rv m' mu' H' Q) (g : Grow m m1 H H1) : RvQ K H1 rv m' mu' H' Q := by
  cases rv with
  | vl d => exact h
  | fr ds => exact NewL.from h g
def FlQ (K : PySem.W.Frag) (D : Ends) (H : Hp) (fl : Fl) (m' : Mp) (mu' : List MO) (H' : Hp) : Prop := match fl with
  | .nx e => ∀ σ', RepE K m' H' e σ' → D.nx σ' H'
  | .rt rv => RvQ K H rv m' mu' H' D.rt
  | .bk e => ∀ σ', RepE K m' H' e σ' → D.bk σ' H'
  | .ct e => ∀ σ', RepE K m' H' e σ' → D.ct σ' H'
def tS (K : PySem.W.Frag) (W : Wx) (r : Env → M Fl) : TS := fun D σ H => ∃ env m mu, RepE K m H env σ ∧ Rel K m mu H ∧ Post K W m H (r env mu) fun fl m' mu' H' => FlQ K D H fl m' mu' H'
def tF (K : PySem.W.Frag) (W : Wx) (r : Env → M (List D)) : TE := fun σ H Q => ∃ env m mu, RepE K m H env σ ∧ Rel K m mu H ∧ Post K W m H (r env mu) fun ds m' mu' H' => NewL K H ds m' mu' H' Q
structure ME (X : Cx) (W : Wx) (e : Expr) (r : Env → M D) : Prop where
  pe : PE X e (tE X.K W r)
structure MF (X : Cx) (W : Wx) (e : Expr) (r : Env → M (List D)) : Prop where
  pe : PE X e (tF X.K W r)
structure MT (X : Cx) (W : Wx) (e : Expr) (r : Env → M Bool) : Prop where
  pt : PT X e (tT X.K W r)
structure MA (X : Cx) (W : Wx) (es : List Expr) (r : Env → M (List D)) : Prop where
  pa : PA X es (tA X.K W r)
structure MS (X : Cx) (W : Wx) (st : Stmt) (r : Env → M Fl) : Prop where
  ps : PS X st (tS X.K W r)
structure MSs (X : Cx) (W : Wx) (st : List Stmt) (r : Env → M Fl) : Prop where
  ps : PSs X st (tS X.K W r)
section
variable {X : Cx} {W : Wx} {e a b : Expr} {pos : Pos}
theorem _root_.L2.PE.imp {t t' : TE} (h : PE X e t) (i : ∀ σ H Q, t' σ H Q → t σ H Q) : PE X e t' := ⟨fun pins s σ H Q I q => h.run pins s σ H Q I (i σ H Q q)⟩
theorem _root_.L2.PT.imp {t t' : TT} (h : PT X e t) (i : ∀ σ H Q, t' σ H Q → t σ H Q) : PT X e t' := ⟨fun pins s σ H Q I q => h.run pins s σ H Q I (i σ H Q q)⟩
theorem _root_.L2.PW.imp {t t' : TT} (h : PW X e t) (i : ∀ σ H Q, t' σ H Q → t σ H Q) : PW X e t' := ⟨fun wh pins s σ H Q I q => h.run wh pins s σ H Q I (i σ H Q q)⟩
theorem _root_.L2.PA.imp {es : List Expr} {t t' : TA} (h : PA X es t) (i : ∀ σ H Q, t' σ H Q → t σ H Q) : PA X es t' := ⟨fun p pins s σ H Q I q => h.run p pins s σ H Q I (i σ H Q q)⟩
theorem _root_.L2.PS.imp {st : Stmt} {t t' : TS} (h : PS X st t) (i : ∀ D σ H, t' D σ H → t D σ H) : PS X st t' := ⟨fun pins s σ H D I q => h.run pins s σ H D I (i D σ H q)⟩
theorem _root_.L2.PSs.imp {st : List Stmt} {t t' : TS} (h : PSs X st t) (i : ∀ D σ H, t' D σ H → t D σ H) : PSs X st t' := ⟨fun pins s σ H D I q => h.run pins s σ H D I (i D σ H q)⟩
theorem _root_.L2.PE.or {t t' : TE} (h : PE X e t) (h' : PE X e t') : PE X e (fun σ H Q => t σ H Q ∨ t' σ H Q) := ⟨fun pins s σ H Q I q => q.elim (h.run pins s σ H Q I) (h'.run pins s σ H Q I)⟩
theorem ME.eq {r r' : Env → M D} (h : ME X W e r) (i : ∀ env mu, r' env mu = r env mu) : ME X W e r' := by
  rw [show r' = r from funext fun env => funext fun mu => i env mu]; exact h

/-! ### names, constants -/
def eVar (i : Nat) : Env → M D := fun env => match env[i]? with
  | some (some d) => pure d
  | _ => bad
def eC (d : D) : Env → M D := fun _ => pure d
theorem me_var {i : Nat} {x : Str} (h : PE X (.Name x pos) (tVar i)) : ME X W (.Name x pos) (eVar i) := ⟨h.imp fun σ H Q ⟨env, m, mu, hE, hR, hp⟩ => by
  cases e : env[i]? with
  | none => unfold eVar at hp; rw [e] at hp; exact hp.elim
  | some o =>
    cases o with
    | none => unfold eVar at hp; rw [e] at hp; exact hp.elim
    | some d =>
      unfold eVar at hp
      rw [e] at hp
      obtain ⟨v, hv, rv⟩ := hE.get i d e
      exact ⟨v, hv, Post.pure hp hR v rv⟩⟩
theorem me_c {d : D} {v : V} (h : PE X e (tC v)) (hr : ∀ m H, Rep X.K m H d v) : ME X W e (eC d) := ⟨h.imp fun σ H Q ⟨env, m, mu, hE, hR, hp⟩ => Post.pure hp hR v (hr m H)⟩
theorem me_int {i j} : ME X W (.Constant (.int i) j pos) (eC (.int i)) := me_c pe_int fun m H => by simp only [Rep]
theorem me_bl {i j} : ME X W (.Constant (.bool i) j pos) (eC (.bl i)) := me_c pe_bl fun m H => by simp only [Rep]
theorem me_non {j} : ME X W (.Constant .none j pos) (eC .non) := me_c pe_non fun m H => by simp only [Rep]
theorem me_str {i j} : ME X W (.Constant (.str i) j pos) (eC (.str i)) := me_c pe_str fun m H => by simp only [Rep]

/-! ### operators by values -/
/-- a reading of two values is a function of two data -/
structure OpM (K : PySem.W.Frag) (W : Wx) (r : R2) (g : D → D → M D) : Prop where
  go : ∀ (x y : D) (v w : V) (m : Mp) (mu : List MO) (H : Hp) (Q : VK), Rel K m mu H → Rep K m H x v → Rep K m H y w → Post K W m H (g x y mu) (fun d m' _ H' => ∀ u, Rep K m' H' d u → Q u H') → r v w H Q
def eBin (g : D → D → M D) (ra rb : Env → M D) : Env → M D := fun env => ra env >>= fun x => rb env >>= fun y => g x y
theorem tE_bin {r : R2} {g : D → D → M D} {ra rb : Env → M D} (o : OpM X.K W r g) : ∀ σ H Q, tE X.K W (eBin g ra rb) σ H Q → tOp r (tE X.K W ra) (tE X.K W rb) σ H Q := fun σ H Q ⟨env, m, mu, hE, hR, hp⟩ =>
  ⟨env, m, mu, hE, hR, (Post.bind hp).mono fun x m1 mu1 H1 g1 R1 hp1 v rv => ⟨env, m1, mu1, hE.grow g1, R1, (Post.bind hp1).mono fun y m2 mu2 H2 g2 R2 hp2 w rw' => o.go x y v w m2 mu2 H2 Q R2 (Rep.grow g2 x v rv) rw' hp2⟩⟩
theorem me_bin {op : Operator} {r : R2} {g : D → D → M D} {ra rb : Env → M D} (ho : OpR X (binaryOp op) r) (o : OpM X.K W r g) (ha : ME X W a ra) (hb : ME X W b rb) : ME X W (.BinOp a op b pos) (eBin g ra rb) :=
  ⟨(pe_op ho ha.pe hb.pe).imp (tE_bin o)⟩
theorem me_cmp {op : CmpOp} {r : R2} {g : D → D → M D} {ra rb : Env → M D} (ho : OpR X (compareOp op) r) (o : OpM X.K W r g) (ha : ME X W a ra) (hb : ME X W b rb) (hm : behindInMarks op b = false) : ME X W (.Compare a [op] [b] pos) (eBin g ra rb) :=
  ⟨(pe_cmpR ho ha.pe hb.pe hm).imp (tE_bin o)⟩
def asB : D → M Bool
  | .bl b => pure b
  | _ => bad
def eB (r : Env → M D) : Env → M Bool := fun env => r env >>= asB
theorem tT_of {r : Env → M D} {t : TE} (h : ∀ σ H Q, tE X.K W r σ H Q → t σ H Q) : ∀ σ H Q, tT X.K W (eB r) σ H Q → t σ H (fun x H' => ∃ k, x = .bl k ∧ Q k H') := fun σ H Q ⟨env, m, mu, hE, hR, hp⟩ =>
  h σ H _ ⟨env, m, mu, hE, hR, (Post.bind hp).mono fun x m1 mu1 H1 g1 R1 hp1 v rv => by
    cases x with
    | bl b =>
      simp only [Rep] at rv
      exact ⟨b, rv, Post.pure hp1 R1⟩
    | _ => exact hp1.elim⟩
theorem mt_cmp {op : CmpOp} {r : R2} {g : D → D → M D} {ra rb : Env → M D} (ho : OpR X (compareOp op) r) (o : OpM X.K W r g) (ha : ME X W a ra) (hb : ME X W b rb) (hm : behindInMarks op b = false) : MT X W (.Compare a [op] [b] pos) (eB (eBin g ra rb)) :=
  ⟨(pt_cmpR ho ha.pe hb.pe hm).imp (tT_of (tE_bin o))⟩
/-- any expression that gives True or False -/
theorem mt_val {r : Env → M D} (h : ME X W e r) (he : ∀ whole, isTrue e X.env whole = (do let v ← whole; standAt e.pos; holding [v] (truthy v)) := by intro _; rfl) : MT X W e (eB r) :=
  ⟨(pt_val h.pe he).imp (tT_of fun _ _ _ q => q)⟩
end
end MP
namespace MP
open PySem L2 PyProof.Rows

def b2n (b : Bool) : Int := if b = true then 1 else 0
mutual
/-- == of data -/
def eqD : D → D → Bool
  | .non, .non => true
  | .bl a, .bl b => a == b
  | .bl a, .int j => b2n a == j
  | .int i, .bl b => i == b2n b
  | .int i, .int j => i == j
  | .str x, .str y => x == y
  | .tup xs, .tup ys => eqDs xs ys
  | .fl xs, .fl ys => eqDs xs ys
  | .fl xs, .ro ys => eqDs xs ys
  | .ro xs, .fl ys => eqDs xs ys
  | .ro xs, .ro ys => eqDs xs ys
  | _, _ => false
def eqDs : List D → List D → Bool
  | [], [] => true
  | x :: xs, y :: ys => eqD x y && eqDs xs ys
  | _, _ => false
end
mutual
/-- == is served -/
def okE : D → Bool
  | .ref _ => false
  | .fd _ _ => false
  | .tup xs => okEs xs
  | .fl xs => okEs xs
  | .ro xs => okEs xs
  | _ => true
def okEs : List D → Bool
  | [] => true
  | x :: xs => okE x && okEs xs
end
mutual
def dep : D → Nat
  | .tup xs => deps xs + 1
  | .fl xs => deps xs + 1
  | .ro xs => deps xs + 1
  | _ => 0
def deps : List D → Nat
  | [] => 0
  | x :: xs => max (dep x) (deps xs)
end
theorem eqDs_range : ∀ (xs ys : List D), (((List.range (min xs.length ys.length)).all fun j => eqD (xs.getD j .non) (ys.getD j .non)) && xs.length == ys.length) = eqDs xs ys
  | [], [] => by simp [eqDs]
  | [], _ :: _ => by simp [eqDs]
  | _ :: _, [] => by simp [eqDs]
  | x :: xs, y :: ys => by
    have ih := eqDs_range xs ys
    rw [List.length_cons, List.length_cons, Nat.succ_min_succ, List.range_succ_eq_map, List.all_cons, List.all_map]
    rw [show eqDs (x :: xs) (y :: ys) = (eqD x y && eqDs xs ys) from by simp only [eqDs], ← ih, Bool.and_assoc]
    congr 2
    rw [Bool.eq_iff_iff]; simp
theorem eqDs_len : ∀ {xs ys : List D}, xs.length ≠ ys.length → eqDs xs ys = false
  | [], [], h => absurd rfl h
  | [], _ :: _, _ => by simp only [eqDs]
  | _ :: _, [], _ => by simp only [eqDs]
  | x :: xs, y :: ys, h => by
    simp only [eqDs]
    rw [eqDs_len (xs := xs) (ys := ys) (fun z => h (by rw [List.length_cons, List.length_cons, z])), Bool.and_false]
theorem eqDs_all {xs ys : List D} (h : xs.length = ys.length) : ((List.range xs.length).all fun j => eqD (xs.getD j .non) (ys.getD j .non)) = eqDs xs ys := by
  rw [← eqDs_range, h, Nat.min_self]
  simp
theorem okEs_get : ∀ {xs : List D} {j : Nat} {d : D}, okEs xs = true → xs[j]? = some d → okE d = true
  | [], _, _, _, e => by simp at e
  | x :: xs, 0, d, h, e => by simp only [okEs, Bool.and_eq_true] at h; simp at e; rw [← e]; exact h.1
  | x :: xs, j + 1, d, h, e => by simp only [okEs, Bool.and_eq_true] at h; exact okEs_get h.2 (by simpa using e)
theorem deps_get : ∀ {xs : List D} {j : Nat} {d : D}, xs[j]? = some d → dep d ≤ deps xs
  | [], _, _, e => by simp at e
  | x :: xs, 0, d, e => by simp at e; rw [← e]; simp only [deps]; exact Nat.le_max_left _ _
  | x :: xs, j + 1, d, e => by simp only [deps]; exact Nat.le_trans (deps_get (xs := xs) (j := j) (by simpa using e)) (Nat.le_max_right _ _)

section
variable {X : Cx} {pins : List (Addr × Obj)} {σ : L2.St} {H : Hp} {s : Shared} {m : Mp}
theorem Inv.list_not_tuple (I : Inv X pins σ H s) {a : Addr} {xs ys : List V} (h : SqL X.K H a xs) (h' : SqT X.K H a ys) : False := by
  obtain ⟨its, r, pl, _⟩ := I.list h
  obtain ⟨its', r', pt, _⟩ := I.tuple h'
  exact SeqAt.ne_of_list_tuple pl.isList (show s.heap.IsTuple a its'.toArray from pt) rfl
mutual
/-- one value's data are equal -/
theorem rep_same (I : Inv X pins σ H s) : ∀ (d e : D) (v : V), Rep X.K m H d v → Rep X.K m H e v → okE d = true → okE e = true → eqD d e = true
  | .non, e, v, h, h', _, ok => by
    simp only [Rep] at h; subst h
    cases e <;> simp only [Rep] at h' <;> first | (simp only [eqD]; done) | (cases h' <;> done) | (obtain ⟨_, _, z, _⟩ := h'; cases z; done) | (obtain ⟨_, z, _⟩ := h'; cases z; done) | (cases h'; simp [eqD]; done)
  | .bl b, e, v, h, h', _, ok => by
    simp only [Rep] at h; subst h
    cases e <;> simp only [Rep] at h' <;> first | (simp only [eqD]; done) | (cases h' <;> done) | (obtain ⟨_, _, z, _⟩ := h'; cases z; done) | (obtain ⟨_, z, _⟩ := h'; cases z; done) | (cases h'; simp [eqD]; done)
  | .int i, e, v, h, h', _, ok => by
    simp only [Rep] at h; subst h
    cases e <;> simp only [Rep] at h' <;> first | (simp only [eqD]; done) | (cases h' <;> done) | (obtain ⟨_, _, z, _⟩ := h'; cases z; done) | (obtain ⟨_, z, _⟩ := h'; cases z; done) | (cases h'; simp [eqD]; done)
  | .str x, e, v, h, h', _, ok => by
    simp only [Rep] at h; subst h
    cases e <;> simp only [Rep] at h' <;> first | (simp only [eqD]; done) | (cases h' <;> done) | (obtain ⟨_, _, z, _⟩ := h'; cases z; done) | (obtain ⟨_, z, _⟩ := h'; cases z; done) | (cases h'; simp [eqD]; done)
  | .tup ds, e, v, h, h', ok, ok' => by
    simp only [Rep] at h
    obtain ⟨a, vs, rfl, hs, hr⟩ := h
    cases e <;> simp only [Rep] at h'
    case tup es =>
      obtain ⟨b, ws, eb, hs', hr'⟩ := h'
      cases eb
      rw [I.tuple_inj hs' hs] at hr'
      simp only [eqD]
      exact reps_same I ds es vs hr hr' (by simpa [okE] using ok) (by simpa [okE] using ok')
    case fl es =>
      obtain ⟨b, ws, eb, hs', _⟩ := h'
      cases eb
      exact (Inv.list_not_tuple I (.of hs') hs).elim
    case ro es =>
      obtain ⟨b, ws, eb, hs', _⟩ := h'
      cases eb
      exact (Inv.list_not_tuple I hs'.sqL hs).elim
    all_goals first | (cases h' <;> done) | (simp [okE] at ok'; done)
  | .fl ds, e, v, h, h', ok, ok' => by
    simp only [Rep] at h
    obtain ⟨a, vs, rfl, hs, hn, hr⟩ := h
    cases e <;> simp only [Rep] at h'
    case tup es =>
      obtain ⟨b, ws, eb, hs', hr'⟩ := h'
      cases eb
      exact (Inv.list_not_tuple I (.of hs) hs').elim
    case fl es =>
      obtain ⟨b, ws, eb, hs', _, hr'⟩ := h'
      cases eb
      rw [I.list_inj (.of hs') (.of hs)] at hr'
      simp only [eqD]
      exact reps_same I ds es vs hr hr' (by simpa [okE] using ok) (by simpa [okE] using ok')
    case ro es =>
      obtain ⟨b, ws, eb, hs', hr'⟩ := h'
      cases eb
      rw [I.list_inj hs'.sqL (.of hs)] at hr'
      simp only [eqD]
      exact reps_same I ds es vs hr hr' (by simpa [okE] using ok) (by simpa [okE] using ok')
    all_goals first | (cases h' <;> done) | (simp [okE] at ok'; done)
  | .ro ds, e, v, h, h', ok, ok' => by
    simp only [Rep] at h
    obtain ⟨a, vs, rfl, hs, hr⟩ := h
    cases e <;> simp only [Rep] at h'
    case tup es =>
      obtain ⟨b, ws, eb, hs', hr'⟩ := h'
      cases eb
      exact (Inv.list_not_tuple I hs.sqL hs').elim
    case fl es =>
      obtain ⟨b, ws, eb, hs', _, hr'⟩ := h'
      cases eb
      rw [I.list_inj (.of hs') hs.sqL] at hr'
      simp only [eqD]
      exact reps_same I ds es vs hr hr' (by simpa [okE] using ok) (by simpa [okE] using ok')
    case ro es =>
      obtain ⟨b, ws, eb, hs', hr'⟩ := h'
      cases eb
      rw [I.list_inj hs'.sqL hs.sqL] at hr'
      simp only [eqD]
      exact reps_same I ds es vs hr hr' (by simpa [okE] using ok) (by simpa [okE] using ok')
    all_goals first | (cases h' <;> done) | (simp [okE] at ok'; done)
  | .fd _ _, _, _, _, _, ok, _ => by simp [okE] at ok
  | .ref _, _, _, _, _, ok, _ => by simp [okE] at ok
theorem reps_same (I : Inv X pins σ H s) : ∀ (ds es : List D) (vs : List V), Reps X.K m H ds vs → Reps X.K m H es vs → okEs ds = true → okEs es = true → eqDs ds es = true
  | [], es, vs, h, h', _, _ => by
    rw [Reps.nil_iff] at h; subst h
    cases es with
    | nil => simp only [eqDs]
    | cons e es => obtain ⟨_, _, z, _⟩ := Reps.cons_iff.mp h'; cases z
  | d :: ds, es, vs, h, h', ok, ok' => by
    obtain ⟨v, r, rfl, h1, h2⟩ := Reps.cons_iff.mp h
    cases es with
    | nil => rw [Reps.nil_iff] at h'; cases h'
    | cons e es =>
      obtain ⟨v', r', z, h1', h2'⟩ := Reps.cons_iff.mp h'
      cases z
      simp only [okEs, Bool.and_eq_true] at ok ok'
      simp only [eqDs, Bool.and_eq_true]
      exact ⟨rep_same I d e _ h1 h1' ok.1 ok'.1, reps_same I ds es _ h2 h2' ok.2 ok'.2⟩
end
end
end MP
namespace MP
open PySem L2 PyProof.Rows
open PySem.SeqAt (EqAt RcAt)
theorem in1_units (A : Around) : A.in1.units = A.units + 1 := rfl
section
variable {X : Cx} {pins : List (Addr × Obj)} {σ : L2.St} {H : Hp} {s : Shared} {m : Mp}
theorem vals_at {vs : List V} {its : List Value} (r : Vals vs its) {j : Nat} (h : j < its.toArray.size) : ∃ v, vs[j]? = some v ∧ RelV v (its.toArray[j]) := by
  have hj : j < its.length := by simpa using h
  have hl := r.length
  have e : vs[j]? = some vs[j] := List.getElem?_eq_getElem (by omega)
  obtain ⟨u, hu, ru⟩ := r.get e
  refine ⟨_, e, ?_⟩
  rw [List.getElem?_eq_getElem hj] at hu
  cases hu
  simpa using ru
theorem getD_at {ds : List D} {j : Nat} {d : D} (h : ds[j]? = some d) : ds.getD j .non = d := by rw [List.getD_eq_getElem?_getD, h]; rfl
theorem Reps.at {K : PySem.W.Frag} {ds : List D} {vs : List V} (r : Reps K m H ds vs) {j : Nat} {v : V} (h : vs[j]? = some v) : ∃ d, ds[j]? = some d ∧ Rep K m H d v := by
  have hj : j < ds.length := by rw [r.length]; exact (List.getElem?_eq_some_iff.mp h).1
  obtain ⟨w, hw, q⟩ := r.get (List.getElem?_eq_getElem hj)
  rw [h] at hw; cases hw
  exact ⟨_, List.getElem?_eq_getElem hj, q⟩
/-- items by items, then the lists -/
theorem eq_lists {a b : Addr} {ds es : List D} {vs ws : List V} {A : Around} (I : Inv X pins σ H s) (ha : SqL X.K H a vs) (hb : SqL X.K H b ws) (ra : Reps X.K m H ds vs) (rb : Reps X.K m H es ws) (ok : okEs ds = true) (ok' : okEs es = true) (hu : A.units + (deps ds + 1) < cLine)
    (ih : ∀ (j : Nat) d e v w u u', ds[j]? = some d → es[j]? = some e → Rep X.K m H d v → Rep X.K m H e w → RelV v u → RelV w u' → EqAt A.in1 s u u' (eqD d e)) :
    RcAt A s (.ref a) (.ref b) (eqDs ds es) ∧ EqAt A s (.ref a) (.ref b) (eqDs ds es) := by
  obtain ⟨its, r, pl, _⟩ := I.list ha
  obtain ⟨its', r', pl', _⟩ := I.list hb
  have h1 := ra.length
  have h2 := rb.length
  have h3 := r.length
  have h4 := r'.length
  have rc : RcAt A s (.ref a) (.ref b) (eqDs ds es) := by
    by_cases hsz : its.toArray.size = its'.toArray.size
    · have hl : ds.length = es.length := by simp only [List.size_toArray] at hsz; omega
      rw [← eqDs_all hl]
      have q := RcAt.lists (A := A) (e := fun j => eqD (ds.getD j .non) (es.getD j .non)) pl.isList pl'.isList hsz (by omega) fun j j1 j2 => by
        obtain ⟨v, hv, rv⟩ := vals_at r j1
        obtain ⟨w, hw, rw'⟩ := vals_at r' j2
        obtain ⟨d, hd, qd⟩ := ra.at hv
        obtain ⟨e, he, qe⟩ := rb.at hw
        show EqAt A.in1 s _ _ (eqD (ds.getD j .non) (es.getD j .non))
        rw [getD_at hd, getD_at he]
        exact ih j d e v w _ _ hd he qd qe rv rw'
      rw [show ds.length = its.toArray.size by simp only [List.size_toArray]; omega]
      exact q
    · rw [eqDs_len (by simp only [List.size_toArray] at hsz; omega)]
      exact RcAt.lists_lengths pl.isList pl'.isList (by simpa using hsz) (by omega)
  refine ⟨rc, ?_⟩
  by_cases z : a = b
  · subst z
    rw [I.list_inj hb ha] at rb
    rw [reps_same I ds es vs ra rb ok ok']
    exact EqAt.same _
  · exact EqAt.of_refs z rc
theorem eq_tuples {a b : Addr} {ds es : List D} {vs ws : List V} {A : Around} (I : Inv X pins σ H s) (ha : SqT X.K H a vs) (hb : SqT X.K H b ws) (ra : Reps X.K m H ds vs) (rb : Reps X.K m H es ws) (ok : okEs ds = true) (ok' : okEs es = true) (hu : A.units + (deps ds + 1) < cLine)
    (ih : ∀ (j : Nat) d e v w u u', ds[j]? = some d → es[j]? = some e → Rep X.K m H d v → Rep X.K m H e w → RelV v u → RelV w u' → EqAt A.in1 s u u' (eqD d e)) :
    RcAt A s (.ref a) (.ref b) (eqDs ds es) ∧ EqAt A s (.ref a) (.ref b) (eqDs ds es) := by
  obtain ⟨its, r, pl, _⟩ := I.tuple ha
  obtain ⟨its', r', pl', _⟩ := I.tuple hb
  have h1 := ra.length
  have h2 := rb.length
  have h3 := r.length
  have h4 := r'.length
  have rc : RcAt A s (.ref a) (.ref b) (eqDs ds es) := by
    rw [← eqDs_range]
    have q := RcAt.tuples (A := A) (e := fun j => eqD (ds.getD j .non) (es.getD j .non)) (show s.heap.IsTuple a its.toArray from pl) (show s.heap.IsTuple b its'.toArray from pl') (by omega) fun j j1 j2 => by
      obtain ⟨v, hv, rv⟩ := vals_at r j1
      obtain ⟨w, hw, rw'⟩ := vals_at r' j2
      obtain ⟨d, hd, qd⟩ := ra.at hv
      obtain ⟨e, he, qe⟩ := rb.at hw
      show EqAt A.in1 s _ _ (eqD (ds.getD j .non) (es.getD j .non))
      rw [getD_at hd, getD_at he]
      exact ih j d e v w _ _ hd he qd qe rv rw'
    have e1 : its.toArray.size = ds.length := by simp only [List.size_toArray]; omega
    have e2 : its'.toArray.size = es.length := by simp only [List.size_toArray]; omega
    rw [e1, e2] at q
    exact q
  refine ⟨rc, ?_⟩
  by_cases z : a = b
  · subst z
    rw [I.tuple_inj hb ha] at rb
    rw [reps_same I ds es vs ra rb ok ok']
    exact EqAt.same _
  · exact EqAt.of_refs z rc
theorem list_at (I : Inv X pins σ H s) {a : Addr} {vs : List V} (h : SqL X.K H a vs) : ∃ its, s.heap.IsList a its := by
  obtain ⟨its, _, pl, _⟩ := I.list h
  exact ⟨_, pl.isList⟩
theorem tuple_at (I : Inv X pins σ H s) {a : Addr} {vs : List V} (h : SqT X.K H a vs) : ∃ its, s.heap.IsTuple a its := by
  obtain ⟨its, _, pl, _⟩ := I.tuple h
  exact ⟨its.toArray, pl⟩
/-- what a datum is, for == -/
inductive Kd (K : PySem.W.Frag) (m : Mp) (H : Hp) : D → Value → Prop where
  | non : Kd K m H .non .none
  | bl (b : Bool) : Kd K m H (.bl b) (.bool b)
  | int (i : Int) (t : Tok) : Kd K m H (.int i) (.int i t)
  | str (x : Str) (t : Tok) : Kd K m H (.str x) (.str x t)
  | tup {ds : List D} {a : Addr} {vs : List V} : SqT K H a vs → Reps K m H ds vs → Kd K m H (.tup ds) (.ref a)
  | fl {ds : List D} {a : Addr} {vs : List V} : SqL K H a vs → Reps K m H ds vs → Kd K m H (.fl ds) (.ref a)
  | ro {ds : List D} {a : Addr} {vs : List V} : SqL K H a vs → Reps K m H ds vs → Kd K m H (.ro ds) (.ref a)
theorem kd_of {K : PySem.W.Frag} {d : D} {v : V} {u : Value} (h : Rep K m H d v) (r : RelV v u) (ok : okE d = true) : Kd K m H d u := by
  cases d <;> simp only [Rep] at h
  case non => subst h; cases r; exact .non
  case bl b => subst h; cases r; exact .bl b
  case int i => subst h; obtain ⟨t, rfl⟩ := r; exact .int i t
  case str x => subst h; obtain ⟨t, rfl⟩ := r; exact .str x t
  case tup ds => obtain ⟨a, vs, rfl, hs, hr⟩ := h; cases r; exact .tup hs hr
  case fl ds => obtain ⟨a, vs, rfl, hs, _, hr⟩ := h; cases r; exact .fl (.of hs) hr
  case ro ds => obtain ⟨a, vs, rfl, hs, hr⟩ := h; cases r; exact .ro hs.sqL hr
  all_goals simp [okE] at ok
mutual
theorem eq_at (I : Inv X pins σ H s) : ∀ (d e : D) (u u' : Value) (A : Around), Kd X.K m H d u → Kd X.K m H e u' → okE d = true → okE e = true → A.units + dep d < cLine → RcAt A s u u' (eqD d e) ∧ EqAt A s u u' (eqD d e)
  | .non, e, u, u', A, h, h', ok, ok', hu => by
    cases h
    cases h' <;> simp only [eqD, dep, Nat.add_zero] at hu ⊢
    case non => exact ⟨RcAt.none_none, EqAt.same _⟩
    case bl b => exact ⟨RcAt.none_bool _, EqAt.none_bool _⟩
    case int i t => exact ⟨RcAt.none_int _ _, EqAt.none_int _ _⟩
    case str x t => exact ⟨RcAt.none_str _ _, EqAt.none_str _ _⟩
    case tup hs hr => obtain ⟨_, p⟩ := tuple_at I hs; exact ⟨RcAt.none_tuple p hu, EqAt.none_tuple p hu⟩
    case fl hs hr => obtain ⟨_, p⟩ := list_at I hs; exact ⟨RcAt.none_list p hu, EqAt.none_list p hu⟩
    case ro hs hr => obtain ⟨_, p⟩ := list_at I hs; exact ⟨RcAt.none_list p hu, EqAt.none_list p hu⟩
  | .bl b, e, u, u', A, h, h', ok, ok', hu => by
    cases h
    cases h' <;> simp only [eqD, dep, Nat.add_zero] at hu ⊢
    case non => exact ⟨RcAt.bool_none _, EqAt.bool_none _⟩
    case bl b => exact ⟨RcAt.bool_bool _ _, EqAt.bool_bool _ _⟩
    case int i t => exact ⟨RcAt.bool_int _ _ _, EqAt.bool_int _ _ _⟩
    case str x t => exact ⟨RcAt.bool_str _ _ _, EqAt.bool_str _ _ _⟩
    case tup hs hr => obtain ⟨_, p⟩ := tuple_at I hs; exact ⟨RcAt.bool_tuple _ p hu, EqAt.bool_tuple _ p hu⟩
    case fl hs hr => obtain ⟨_, p⟩ := list_at I hs; exact ⟨RcAt.bool_list _ p hu, EqAt.bool_list _ p hu⟩
    case ro hs hr => obtain ⟨_, p⟩ := list_at I hs; exact ⟨RcAt.bool_list _ p hu, EqAt.bool_list _ p hu⟩
  | .int i, e, u, u', A, h, h', ok, ok', hu => by
    cases h
    cases h' <;> simp only [eqD, dep, Nat.add_zero] at hu ⊢
    case non => exact ⟨RcAt.int_none _ _, EqAt.int_none _ _⟩
    case bl b => exact ⟨RcAt.int_bool _ _ _, EqAt.int_bool _ _ _⟩
    case int i t => exact ⟨RcAt.int_int _ _ _ _, EqAt.int_int _ _ _ _⟩
    case str x t => exact ⟨RcAt.int_str _ _ _ _, EqAt.int_str _ _ _ _⟩
    case tup hs hr => obtain ⟨_, p⟩ := tuple_at I hs; exact ⟨RcAt.int_tuple _ _ p hu, EqAt.int_tuple _ _ p hu⟩
    case fl hs hr => obtain ⟨_, p⟩ := list_at I hs; exact ⟨RcAt.int_list _ _ p hu, EqAt.int_list _ _ p hu⟩
    case ro hs hr => obtain ⟨_, p⟩ := list_at I hs; exact ⟨RcAt.int_list _ _ p hu, EqAt.int_list _ _ p hu⟩
  | .str x, e, u, u', A, h, h', ok, ok', hu => by
    cases h
    cases h' <;> simp only [eqD, dep, Nat.add_zero] at hu ⊢
    case non => exact ⟨RcAt.str_none _ _, EqAt.str_none _ _⟩
    case bl b => exact ⟨RcAt.str_bool _ _ _, EqAt.str_bool _ _ _⟩
    case int i t => exact ⟨RcAt.str_int _ _ _ _, EqAt.str_int _ _ _ _⟩
    case str x t => exact ⟨RcAt.str_str _ _ _ _, EqAt.str_str _ _ _ _⟩
    case tup hs hr => obtain ⟨_, p⟩ := tuple_at I hs; exact ⟨RcAt.str_tuple _ _ p hu, EqAt.str_tuple _ _ p hu⟩
    case fl hs hr => obtain ⟨_, p⟩ := list_at I hs; exact ⟨RcAt.str_list _ _ p hu, EqAt.str_list _ _ p hu⟩
    case ro hs hr => obtain ⟨_, p⟩ := list_at I hs; exact ⟨RcAt.str_list _ _ p hu, EqAt.str_list _ _ p hu⟩
  | .tup ds, e, u, u', A, h, h', ok, ok', hu => by
    cases h with
    | tup hs hr =>
    have hu0 : A.units < cLine := by omega
    cases h' <;> simp only [eqD]
    case non => obtain ⟨_, p⟩ := tuple_at I hs; exact ⟨RcAt.tuple_none p hu0, EqAt.tuple_none p hu0⟩
    case bl b => obtain ⟨_, p⟩ := tuple_at I hs; exact ⟨RcAt.tuple_bool _ p hu0, EqAt.tuple_bool _ p hu0⟩
    case int i t => obtain ⟨_, p⟩ := tuple_at I hs; exact ⟨RcAt.tuple_int _ _ p hu0, EqAt.tuple_int _ _ p hu0⟩
    case str x t => obtain ⟨_, p⟩ := tuple_at I hs; exact ⟨RcAt.tuple_str _ _ p hu0, EqAt.tuple_str _ _ p hu0⟩
    case tup es b ws hs' hr' =>
      simp only [okE] at ok ok'
      simp only [dep] at hu
      exact eq_tuples I hs hs' hr hr' ok ok' hu fun j d e v w u u' hd he qd qe rv rw' => (eq_ats I ds j d hd e u u' A.in1 (kd_of qd rv (okEs_get ok hd)) (kd_of qe rw' (okEs_get ok' he)) ok (okEs_get ok' he) (by rw [in1_units]; omega))
    case fl es b ws hs' hr' => obtain ⟨_, p⟩ := tuple_at I hs; obtain ⟨_, p'⟩ := list_at I hs'; exact ⟨RcAt.tuple_list p p' hu0, EqAt.tuple_list p p' hu0⟩
    case ro es b ws hs' hr' => obtain ⟨_, p⟩ := tuple_at I hs; obtain ⟨_, p'⟩ := list_at I hs'; exact ⟨RcAt.tuple_list p p' hu0, EqAt.tuple_list p p' hu0⟩
  | .fl ds, e, u, u', A, h, h', ok, ok', hu => by
    cases h with
    | fl hs hr =>
    have hu0 : A.units < cLine := by omega
    simp only [dep] at hu
    cases h' <;> simp only [eqD]
    case non => obtain ⟨_, p⟩ := list_at I hs; exact ⟨RcAt.list_none p hu0, EqAt.list_none p hu0⟩
    case bl b => obtain ⟨_, p⟩ := list_at I hs; exact ⟨RcAt.list_bool _ p hu0, EqAt.list_bool _ p hu0⟩
    case int i t => obtain ⟨_, p⟩ := list_at I hs; exact ⟨RcAt.list_int _ _ p hu0, EqAt.list_int _ _ p hu0⟩
    case str x t => obtain ⟨_, p⟩ := list_at I hs; exact ⟨RcAt.list_str _ _ p hu0, EqAt.list_str _ _ p hu0⟩
    case tup es b ws hs' hr' => obtain ⟨_, p⟩ := list_at I hs; obtain ⟨_, p'⟩ := tuple_at I hs'; exact ⟨RcAt.list_tuple p p' hu0, EqAt.list_tuple p p' hu0⟩
    case fl es b ws hs' hr' =>
      simp only [okE] at ok ok'
      exact eq_lists I hs hs' hr hr' ok ok' hu fun j d e v w u u' hd he qd qe rv rw' => (eq_ats I ds j d hd e u u' A.in1 (kd_of qd rv (okEs_get ok hd)) (kd_of qe rw' (okEs_get ok' he)) ok (okEs_get ok' he) (by rw [in1_units]; omega))
    case ro es b ws hs' hr' =>
      simp only [okE] at ok ok'
      exact eq_lists I hs hs' hr hr' ok ok' hu fun j d e v w u u' hd he qd qe rv rw' => (eq_ats I ds j d hd e u u' A.in1 (kd_of qd rv (okEs_get ok hd)) (kd_of qe rw' (okEs_get ok' he)) ok (okEs_get ok' he) (by rw [in1_units]; omega))
  | .ro ds, e, u, u', A, h, h', ok, ok', hu => by
    cases h with
    | ro hs hr =>
    have hu0 : A.units < cLine := by omega
    simp only [dep] at hu
    cases h' <;> simp only [eqD]
    case non => obtain ⟨_, p⟩ := list_at I hs; exact ⟨RcAt.list_none p hu0, EqAt.list_none p hu0⟩
    case bl b => obtain ⟨_, p⟩ := list_at I hs; exact ⟨RcAt.list_bool _ p hu0, EqAt.list_bool _ p hu0⟩
    case int i t => obtain ⟨_, p⟩ := list_at I hs; exact ⟨RcAt.list_int _ _ p hu0, EqAt.list_int _ _ p hu0⟩
    case str x t => obtain ⟨_, p⟩ := list_at I hs; exact ⟨RcAt.list_str _ _ p hu0, EqAt.list_str _ _ p hu0⟩
    case tup es b ws hs' hr' => obtain ⟨_, p⟩ := list_at I hs; obtain ⟨_, p'⟩ := tuple_at I hs'; exact ⟨RcAt.list_tuple p p' hu0, EqAt.list_tuple p p' hu0⟩
    case fl es b ws hs' hr' =>
      simp only [okE] at ok ok'
      exact eq_lists I hs hs' hr hr' ok ok' hu fun j d e v w u u' hd he qd qe rv rw' => (eq_ats I ds j d hd e u u' A.in1 (kd_of qd rv (okEs_get ok hd)) (kd_of qe rw' (okEs_get ok' he)) ok (okEs_get ok' he) (by rw [in1_units]; omega))
    case ro es b ws hs' hr' =>
      simp only [okE] at ok ok'
      exact eq_lists I hs hs' hr hr' ok ok' hu fun j d e v w u u' hd he qd qe rv rw' => (eq_ats I ds j d hd e u u' A.in1 (kd_of qd rv (okEs_get ok hd)) (kd_of qe rw' (okEs_get ok' he)) ok (okEs_get ok' he) (by rw [in1_units]; omega))
  | .fd _ _, _, _, _, _, _, _, ok, _, _ => by simp [okE] at ok
  | .ref _, _, _, _, _, _, _, ok, _, _ => by simp [okE] at ok
theorem eq_ats (I : Inv X pins σ H s) : ∀ (ds : List D) (j : Nat) (d : D), ds[j]? = some d → ∀ (e : D) (u u' : Value) (A : Around), Kd X.K m H d u → Kd X.K m H e u' → okEs ds = true → okE e = true → A.units + deps ds < cLine → EqAt A s u u' (eqD d e)
  | [], _, _, h => by simp at h
  | x :: xs, 0, d, h => fun e u u' A k k' ok ok' hu => by
    simp only [okEs, Bool.and_eq_true] at ok
    simp only [deps] at hu
    have : x = d := by simpa using h
    subst this
    exact (eq_at I x e u u' A k k' ok.1 ok' (by have := Nat.le_max_left (dep x) (deps xs); omega)).2
  | x :: xs, j + 1, d, h => fun e u u' A k k' ok ok' hu => by
    simp only [okEs, Bool.and_eq_true] at ok
    simp only [deps] at hu
    exact eq_ats I xs j d (by simpa using h) e u u' A k k' ok.2 ok' (by have := Nat.le_max_right (dep x) (deps xs); omega)
end
end
end MP
namespace MP
open PySem L2 PyProof.Rows

/-- the list at a place -/
def atL (mu : List MO) (n : Nat) : R (List D) := match mu[n]? with
  | some (.lst xs) => .ok xs mu
  | _ => .bad
theorem atL_lst {mu : List MO} {n : Nat} {xs : List D} (h : mu[n]? = some (.lst xs)) : atL mu n = .ok xs mu := by unfold atL; rw [h]
theorem atL_dk {mu : List MO} {n : Nat} {kvs : List (Key × D)} (h : mu[n]? = some (.dk kvs)) : atL mu n = .bad := by unfold atL; rw [h]
/-- the items of a list, as it stands -/
def rdL : D → M (List D)
  | .fl xs => pure xs
  | .ro xs => pure xs
  | .ref n => fun mu => atL mu n
  | _ => bad
/-- of a list that is not locked -/
def rdM : D → M (List D)
  | .fl xs => pure xs
  | .ref n => fun mu => atL mu n
  | _ => bad
section
variable {K : PySem.W.Frag} {W : Wx} {m m' : Mp} {H H' : Hp} {mu : List MO}
theorem rdL_ok {d : D} {v : V} {Q : List D → Mp → List MO → Hp → Prop} (rl : Rel K m mu H) (h : Rep K m H d v) (hp : Post K W m H (rdL d mu) Q) : ∃ a xs vs, v = .ref a ∧ SqL K H a vs ∧ Reps K m H xs vs ∧ rdL d mu = .ok xs mu ∧ Q xs m mu H := by
  cases d <;> simp only [Rep] at h
  case fl ds => obtain ⟨a, vs, rfl, hs, _, hr⟩ := h; exact ⟨a, ds, vs, rfl, .of hs, hr, rfl, hp m H .refl rl⟩
  case ro ds => obtain ⟨a, vs, rfl, hs, hr⟩ := h; exact ⟨a, ds, vs, rfl, hs.sqL, hr, rfl, hp m H .refl rl⟩
  case ref n =>
    obtain ⟨a, rfl, hm⟩ := h
    obtain ⟨o, ho, hr⟩ := rl.at' hm
    cases o with
    | lst xs =>
      obtain ⟨vs, hH, hr⟩ := hr
      have e : rdL (.ref n) mu = .ok xs mu := atL_lst ho
      rw [e] at hp
      exact ⟨a, xs, vs, rfl, .of hH, hr, e, hp m H .refl rl⟩
    | dk kvs =>
      have e : rdL (.ref n) mu = .bad := atL_dk ho
      rw [e] at hp
      exact hp.elim
  all_goals exact (show False from hp).elim
theorem rdM_ok {d : D} {v : V} {Q : List D → Mp → List MO → Hp → Prop} (rl : Rel K m mu H) (h : Rep K m H d v) (hp : Post K W m H (rdM d mu) Q) : ∃ a xs vs, v = .ref a ∧ H a = some (.lst vs) ∧ Reps K m H xs vs ∧ rdM d mu = .ok xs mu ∧ Q xs m mu H := by
  cases d <;> simp only [Rep] at h
  case fl ds => obtain ⟨a, vs, rfl, hs, _, hr⟩ := h; exact ⟨a, ds, vs, rfl, hs, hr, rfl, hp m H .refl rl⟩
  case ref n =>
    obtain ⟨a, rfl, hm⟩ := h
    obtain ⟨o, ho, hr⟩ := rl.at' hm
    cases o with
    | lst xs =>
      obtain ⟨vs, hH, hr⟩ := hr
      have e : rdM (.ref n) mu = .ok xs mu := atL_lst ho
      rw [e] at hp
      exact ⟨a, xs, vs, rfl, hH, hr, e, hp m H .refl rl⟩
    | dk kvs =>
      have e : rdM (.ref n) mu = .bad := atL_dk ho
      rw [e] at hp
      exact hp.elim
  all_goals exact (show False from hp).elim
theorem Post.ok_of {α : Type} {a : α} {r : R α} {Q : α → Mp → List MO → Hp → Prop} {mu' : List MO} (e : r = .ok a mu') (hp : Post K W m H r Q) (rl : Rel K m mu' H) : Q a m mu' H := by
  rw [e] at hp; exact hp m H .refl rl
/-- a new list outside of the small heap -/
theorem new_fl {ds : List D} {vs : List V} {p : Addr} (rl : Rel K m mu H) (hr : Reps K m H ds vs) (hp : H p = none) : Grow m m H (upd H p (.lst vs)) ∧ Rel K m mu (upd H p (.lst vs)) ∧ Rep K m (upd H p (.lst vs)) (.fl ds) (.ref p) := by
  have g : Grow m m H (upd H p (.lst vs)) := .laid hp
  exact ⟨g, rl.laid hp, by simp only [Rep]; exact ⟨p, vs, rfl, upd_same, rl.free hp, Reps.grow g ds vs hr⟩⟩
theorem new_tup {ds : List D} {vs : List V} {p : Addr} (rl : Rel K m mu H) (hr : Reps K m H ds vs) (hp : H p = none) : Grow m m H (upd H p (.tup vs)) ∧ Rel K m mu (upd H p (.tup vs)) ∧ Rep K m (upd H p (.tup vs)) (.tup ds) (.ref p) := by
  have g : Grow m m H (upd H p (.tup vs)) := .laid hp
  exact ⟨g, rl.laid hp, by simp only [Rep]; exact ⟨p, vs, rfl, .of upd_same, Reps.grow g ds vs hr⟩⟩
end

/-! ### views -/
def toI : D → M Int
  | .int i => pure i
  | _ => bad
def toS : D → M Str
  | .str x => pure x
  | _ => bad
def toT : D → M (List D)
  | .tup xs => pure xs
  | _ => bad
def toB : D → M Bool
  | .bl b => pure b
  | _ => bad
section
variable {K : PySem.W.Frag} {W : Wx} {m m' : Mp} {H H' : Hp} {mu : List MO}
theorem toI_ok {d : D} {v : V} {Q : Int → Mp → List MO → Hp → Prop} (rl : Rel K m mu H) (h : Rep K m H d v) (hp : Post K W m H (toI d mu) Q) : ∃ i, d = .int i ∧ v = .int i ∧ Q i m mu H := by
  cases d
  case int i => simp only [Rep] at h; exact ⟨i, rfl, h, hp m H .refl rl⟩
  all_goals exact (show False from hp).elim
theorem toS_ok {d : D} {v : V} {Q : Str → Mp → List MO → Hp → Prop} (rl : Rel K m mu H) (h : Rep K m H d v) (hp : Post K W m H (toS d mu) Q) : ∃ i, d = .str i ∧ v = .str i ∧ Q i m mu H := by
  cases d
  case str i => simp only [Rep] at h; exact ⟨i, rfl, h, hp m H .refl rl⟩
  all_goals exact (show False from hp).elim
theorem toB_ok {d : D} {v : V} {Q : Bool → Mp → List MO → Hp → Prop} (rl : Rel K m mu H) (h : Rep K m H d v) (hp : Post K W m H (toB d mu) Q) : ∃ i, d = .bl i ∧ v = .bl i ∧ Q i m mu H := by
  cases d
  case bl i => simp only [Rep] at h; exact ⟨i, rfl, h, hp m H .refl rl⟩
  all_goals exact (show False from hp).elim
theorem toT_ok {d : D} {v : V} {Q : List D → Mp → List MO → Hp → Prop} (rl : Rel K m mu H) (h : Rep K m H d v) (hp : Post K W m H (toT d mu) Q) : ∃ xs a vs, d = .tup xs ∧ v = .ref a ∧ SqT K H a vs ∧ Reps K m H xs vs ∧ Q xs m mu H := by
  cases d
  case tup xs => simp only [Rep] at h; obtain ⟨a, vs, e, hs, hr⟩ := h; exact ⟨xs, a, vs, rfl, e, hs, hr, hp m H .refl rl⟩
  all_goals exact (show False from hp).elim
/-- a condition that the data must meet -/
def need (c : Prop) [Decidable c] : M Unit := if c then pure () else bad
theorem need_ok {c : Prop} [Decidable c] {Q : Unit → Mp → List MO → Hp → Prop} (rl : Rel K m mu H) (hp : Post K W m H (need c mu) Q) : c ∧ Q () m mu H := by
  by_cases h : c
  · unfold need at hp
    rw [if_pos h] at hp
    exact ⟨h, hp m H .refl rl⟩
  · unfold need at hp
    rw [if_neg h] at hp
    exact (show False from hp).elim
end

/-! ### arithmetic, +, comparisons -/
def gII (c : Int → Int → Prop) [∀ i j, Decidable (c i j)] (f : Int → Int → D) (x y : D) : M D := do
  let i ← toI x
  let j ← toI y
  need (c i j)
  pure (f i j)
def gCat (x y : D) : M D := do
  let xs ← rdM x
  let ys ← rdM y
  need (xs.length + ys.length ≤ sizeLine)
  pure (.fl (xs ++ ys))
def gAdd : D → D → M D
  | .int i, y => do
    let j ← toI y
    pure (.int (i + j))
  | .str x, y => do
    let z ← toS y
    need (x.length + z.length ≤ sizeLine)
    pure (.str (x ++ z))
  | .tup xs, y => do
    let ys ← toT y
    need (xs.length + ys.length ≤ sizeLine)
    pure (.tup (xs ++ ys))
  | x, y => gCat x y
def cAny (_ _ : Int) : Prop := True
instance (i j : Int) : Decidable (cAny i j) := isTrue trivial
instance (i j : Int) : Decidable (CMulW i j) := inferInstanceAs (Decidable (_ < _))
instance (i j : Int) : Decidable (CDivW i j) := inferInstanceAs (Decidable (_ ∧ _))
instance (i j : Int) : Decidable (CPow i j) := inferInstanceAs (Decidable (_ ∧ _ ∧ _))
def cPos (_ j : Int) : Prop := 0 < j
instance (i j : Int) : Decidable (cPos i j) := inferInstanceAs (Decidable (_ < _))
def gSub : D → D → M D := gII cAny fun i j => .int (i - j)
def cMul (i j : Int) : Prop := CMul i j ∨ CMulW i j
instance (i j : Int) : Decidable (CMul i j) := inferInstanceAs (Decidable ((-(2 ^ 64) < i ∧ i < 2 ^ 64) ∨ (-(2 ^ 64) < j ∧ j < 2 ^ 64)))
instance (i j : Int) : Decidable (cMul i j) := inferInstanceAs (Decidable (CMul i j ∨ CMulW i j))
def gMul : D → D → M D := gII cMul fun i j => .int (i * j)
def gDiv : D → D → M D := gII CDivW fun i j => .int (i / j)
def gMod : D → D → M D := gII cPos fun i j => .int (i % j)
def gPow : D → D → M D := gII CPow fun i j => .int (i ^ j.toNat)
def gCmp (f : Int → Int → Bool) : D → D → M D := gII cAny fun i j => .bl (f i j)
def ltS (x y : Str) : Bool := decide (x.cps.toList < y.cps.toList)
def gLt : D → D → M D
  | .str x, y => do
    let z ← toS y
    pure (.bl (ltS x z))
  | x, y => gCmp (fun i j => decide (i < j)) x y
def gEq (neg : Bool) (x y : D) : M D := do
  need (okE x = true ∧ okE y = true ∧ dep x < 64)
  pure (.bl (eqD x y != neg))
def isN : D → Bool
  | .non => true
  | _ => false
def gIsN (neg : Bool) (x y : D) : M D := do
  need (isN y = true)
  pure (.bl (isN x != neg))
section
variable {X : Cx} {W : Wx}
theorem opm_ii {c : Int → Int → Prop} [∀ i j, Decidable (c i j)] {f : Int → Int → D} {fv : Int → Int → V} (hf : ∀ i j m H, Rep X.K m H (f i j) (fv i j)) : OpM X.K W (rI c fv) (gII c f) := ⟨fun x y v w m mu H Q rl hx hy hp => by
  obtain ⟨i, rfl, rfl, hp⟩ := toI_ok rl hx (Post.bind hp)
  obtain ⟨j, rfl, rfl, hp⟩ := toI_ok rl hy (Post.bind hp)
  obtain ⟨hc, hp⟩ := need_ok rl (Post.bind hp)
  exact ⟨i, j, rfl, rfl, hc, Post.pure hp rl _ (hf i j _ _)⟩⟩
theorem rI0_any {g : Int → Int → V} {x y : V} {H : Hp} {Q : VK} (h : rI cAny g x y H Q) : rI0 g x y H Q := let ⟨i, j, e, e', _, q⟩ := h; ⟨i, j, e, e', q⟩
theorem OpM.imp {K : PySem.W.Frag} {r r' : R2} {g : D → D → M D} (o : OpM K W r g) (h : ∀ x y H Q, r x y H Q → r' x y H Q) : OpM K W r' g := ⟨fun x y v w m mu H Q rl hx hy hp => h _ _ _ _ (o.go x y v w m mu H Q rl hx hy hp)⟩
theorem opm_sub : OpM X.K W (rI0 fun i j => .int (i - j)) gSub := (opm_ii (c := cAny) fun i j m H => by simp only [Rep]).imp fun _ _ _ _ => rI0_any
def rMulM : R2 := fun x y H Q => rI CMul (fun i j => .int (i * j)) x y H Q ∨ rI CMulW (fun i j => .int (i * j)) x y H Q
theorem op_mulM : OpR X (binaryOp .Mult) rMulM := op_mul.or op_mulW
theorem opm_mul : OpM X.K W rMulM gMul := (opm_ii (c := cMul) (fv := fun i j => .int (i * j)) fun i j m H => by simp only [Rep]).imp fun _ _ _ _ ⟨i, j, e, e', c, q⟩ => c.elim (fun c => .inl ⟨i, j, e, e', c, q⟩) (fun c => .inr ⟨i, j, e, e', c, q⟩)
theorem opm_div : OpM X.K W (rI CDivW fun i j => .int (i / j)) gDiv := opm_ii fun i j m H => by simp only [Rep]
theorem opm_mod : OpM X.K W (rI (fun _ j => 0 < j) fun i j => .int (i % j)) gMod := opm_ii (c := cPos) fun i j m H => by simp only [Rep]
theorem opm_pow : OpM X.K W (rI CPow fun i j => .int (i ^ j.toNat)) gPow := opm_ii fun i j m H => by simp only [Rep]
theorem opm_cmp {f : Int → Int → Bool} : OpM X.K W (rI0 fun i j => .bl (f i j)) (gCmp f) := (opm_ii (c := cAny) fun i j m H => by simp only [Rep]).imp fun _ _ _ _ => rI0_any
def rLtM : R2 := fun x y H Q => rI0 (fun i j => .bl (decide (i < j))) x y H Q ∨ ∃ i j, x = .str i ∧ y = .str j ∧ Q (.bl (decide (i.cps.toList < j.cps.toList))) H
theorem op_ltM : OpR X (compareOp .Lt) rLtM := op_lt.or op_lt_str
theorem opm_lt : OpM X.K W rLtM gLt := ⟨fun x y v w m mu H Q rl hx hy hp => by
  cases x
  case str x =>
    obtain ⟨z, rfl, rfl, hp⟩ := toS_ok rl hy (Post.bind hp)
    simp only [Rep] at hx
    exact .inr ⟨x, z, hx, rfl, Post.pure hp rl _ (by simp only [Rep, ltS])⟩
  all_goals exact .inl (opm_cmp.go _ y v w m mu H Q rl hx hy hp)⟩
/-- + of anything -/
def rAddM (K : PySem.W.Frag) : R2 := fun x y H Q => rI0 (fun i j => .int (i + j)) x y H Q ∨ (∃ i j, x = .str i ∧ y = .str j ∧ i.length + j.length ≤ sizeLine ∧ Q (.str (i ++ j)) H) ∨ rCatA K x y H Q ∨ rCat x y H Q
theorem op_addM : OpR X (binaryOp .Add) (rAddM X.K) := op_add.or (op_add_str.or (op_catA.or op_cat))
theorem opm_addL {x y : D} {v w : V} {m : Mp} {mu : List MO} {H : Hp} {Q : VK} (rl : Rel X.K m mu H) (hx : Rep X.K m H x v) (hy : Rep X.K m H y w)
    (hp : Post X.K W m H (gCat x y mu) (fun d m' _ H' => ∀ u, Rep X.K m' H' d u → Q u H')) : rAddM X.K v w H Q := by
  obtain ⟨a, xs, vs, rfl, ha, ra, ea, hp⟩ := rdM_ok rl hx (Post.bind hp)
  obtain ⟨b, ys, ws, rfl, hb, rb, eb, hp⟩ := rdM_ok rl hy (Post.bind hp)
  obtain ⟨c, hp⟩ := need_ok rl (Post.bind hp)
  refine .inr (.inr (.inr ⟨a, b, vs, ws, rfl, rfl, ha, hb, by rw [← ra.length, ← rb.length]; exact c, fun p hn => ?_⟩))
  obtain ⟨g, R', rp⟩ := new_fl rl (ra.append rb) hn
  exact hp m _ g R' _ rp
theorem opm_add : OpM X.K W (rAddM X.K) gAdd := ⟨fun x y v w m mu H Q rl hx hy hp => by
  cases x
  case int i =>
    obtain ⟨j, rfl, rfl, hp⟩ := toI_ok rl hy (Post.bind hp)
    simp only [Rep] at hx
    exact .inl ⟨i, j, hx, rfl, Post.pure hp rl _ (by simp only [Rep])⟩
  case str x =>
    obtain ⟨z, rfl, rfl, hp⟩ := toS_ok rl hy (Post.bind hp)
    obtain ⟨c, hp⟩ := need_ok rl (Post.bind hp)
    simp only [Rep] at hx
    exact .inr (.inl ⟨x, z, hx, rfl, c, Post.pure hp rl _ (by simp only [Rep])⟩)
  case tup xs =>
    obtain ⟨ys, b, ws, rfl, rfl, hb, rb, hp⟩ := toT_ok rl hy (Post.bind hp)
    obtain ⟨c, hp⟩ := need_ok rl (Post.bind hp)
    simp only [Rep] at hx
    obtain ⟨a, vs, rfl, ha, ra⟩ := hx
    refine .inr (.inr (.inl ⟨a, b, vs, ws, rfl, rfl, ha, hb, by rw [← ra.length, ← rb.length]; exact c, fun e => ?_, fun _ e => ?_, fun _ _ p hn => ?_⟩))
    · subst e
      have z : xs = [] := List.eq_nil_of_length_eq_zero (by rw [ra.length]; rfl)
      subst z
      exact Post.pure hp rl _ (by simp only [Rep]; exact ⟨b, ws, rfl, hb, rb⟩)
    · subst e
      have z : ys = [] := List.eq_nil_of_length_eq_zero (by rw [rb.length]; rfl)
      subst z
      rw [List.append_nil] at hp
      exact Post.pure hp rl _ (by simp only [Rep]; exact ⟨a, vs, rfl, ha, ra⟩)
    · obtain ⟨g, R', rp⟩ := new_tup rl (ra.append rb) hn
      exact hp m _ g R' _ rp
  all_goals exact opm_addL rl hx hy hp⟩
/-- ==, != of data -/
def rEqM (neg : Bool) (K : PySem.W.Frag) : R2 := fun x y H Q => ∃ d e m, Rep K m H d x ∧ Rep K m H e y ∧ okE d = true ∧ okE e = true ∧ dep d < 64 ∧ Q (.bl (eqD d e != neg)) H
theorem op_eqM (hu : X.A.units + 64 < cLine) : OpR X (compareOp .Eq) (rEqM false X.K) := by
  intro pins s σ H x y v u Q I rx ry h
  obtain ⟨d, e, m, hd, he, ok, ok', hdep, q⟩ := h
  have z := (eq_at I d e v u X.A (kd_of hd rx ok) (kd_of he ry ok') ok ok' (by omega)).1
  rw [Bool.bne_false] at q
  exact z X.prog X.w _ _ ⟨.bl _, H, I, rfl, q⟩
theorem opm_eq {neg : Bool} : OpM X.K W (rEqM neg X.K) (gEq neg) := ⟨fun x y v w m mu H Q rl hx hy hp => by
  obtain ⟨⟨h1, h2, h3⟩, hp⟩ := need_ok rl (Post.bind hp)
  exact ⟨x, y, m, hx, hy, h1, h2, h3, Post.pure hp rl _ (by simp only [Rep])⟩⟩
def rIsNM (neg : Bool) : R2 := fun x y H Q => y = .non ∧ Q (.bl (decide (x = .non) != neg)) H
theorem op_isNM : OpR X (compareOp .Is) (rIsNM false) := fun pins s σ H x y v u Q I rx ry h => op_isN pins s σ H x y v u Q I rx ry ⟨h.1, by have := h.2; rw [Bool.bne_false] at this; exact this⟩
theorem op_notNM : OpR X (compareOp .IsNot) (rIsNM true) := fun pins s σ H x y v u Q I rx ry h => op_notN pins s σ H x y v u Q I rx ry ⟨h.1, by have := h.2; rw [Bool.bne_true] at this; exact this⟩
theorem isN_eq {K : PySem.W.Frag} {m : Mp} {H : Hp} {d : D} {v : V} (h : Rep K m H d v) : isN d = decide (v = .non) := by
  cases d <;> simp only [Rep] at h
  case non => subst h; rfl
  case bl => subst h; rfl
  case int => subst h; rfl
  case str => subst h; rfl
  all_goals (obtain ⟨a, h⟩ := h)
  case tup => obtain ⟨vs, rfl, _⟩ := h; rfl
  case fl => obtain ⟨vs, rfl, _⟩ := h; rfl
  case ro => obtain ⟨vs, rfl, _⟩ := h; rfl
  case fd => obtain ⟨vs, rfl, _⟩ := h; rfl
  case ref => obtain ⟨rfl, _⟩ := h; rfl
theorem opm_isN {neg : Bool} : OpM X.K W (rIsNM neg) (gIsN neg) := ⟨fun x y v w m mu H Q rl hx hy hp => by
  obtain ⟨h1, hp⟩ := need_ok rl (Post.bind hp)
  rw [isN_eq hy] at h1
  rw [isN_eq hx] at hp
  exact ⟨of_decide_eq_true h1, Post.pure hp rl _ (by simp only [Rep])⟩⟩
end
end MP
namespace MP
open PySem L2 PyProof.Rows
open PySem.SeqAt (EqAt RcAt)
mutual
/-- the one form of equal data -/
def nf : D → D
  | .non => .non
  | .bl b => .int (b2n b)
  | .int i => .int i
  | .str x => .str x
  | .tup xs => .tup (nfs xs)
  | .fl xs => .fl (nfs xs)
  | .ro xs => .fl (nfs xs)
  | .fd ks xs => .fd ks xs
  | .ref n => .ref n
def nfs : List D → List D
  | [] => []
  | x :: xs => nf x :: nfs xs
end
mutual
theorem eqD_nf : ∀ (d e : D), okE d = true → okE e = true → (eqD d e = true ↔ nf d = nf e)
  | .non, e, _, h => by cases e <;> simp [eqD, nf, okE] at h ⊢
  | .bl b, e, _, h => by cases e <;> simp [eqD, nf, okE] at h ⊢ <;> (cases b <;> simp [b2n]) <;> rename_i c <;> cases c <;> simp
  | .int i, e, _, h => by cases e <;> simp [eqD, nf, okE] at h ⊢
  | .str x, e, _, h => by cases e <;> simp [eqD, nf, okE] at h ⊢
  | .tup xs, e, h, h' => by
    simp only [okE] at h
    cases e <;> simp only [eqD, nf, D.tup.injEq, reduceCtorEq, Bool.false_eq_true]
    case tup ys => exact eqDs_nf xs ys h (by simpa [okE] using h')
  | .fl xs, e, h, h' => by
    simp only [okE] at h
    cases e <;> simp only [eqD, nf, D.fl.injEq, reduceCtorEq, Bool.false_eq_true]
    case fl ys => exact eqDs_nf xs ys h (by simpa [okE] using h')
    case ro ys => exact eqDs_nf xs ys h (by simpa [okE] using h')
  | .ro xs, e, h, h' => by
    simp only [okE] at h
    cases e <;> simp only [eqD, nf, D.fl.injEq, reduceCtorEq, Bool.false_eq_true]
    case fl ys => exact eqDs_nf xs ys h (by simpa [okE] using h')
    case ro ys => exact eqDs_nf xs ys h (by simpa [okE] using h')
  | .fd _ _, _, h, _ => by simp [okE] at h
  | .ref _, _, h, _ => by simp [okE] at h
theorem eqDs_nf : ∀ (ds es : List D), okEs ds = true → okEs es = true → (eqDs ds es = true ↔ nfs ds = nfs es)
  | [], [], _, _ => by simp [eqDs, nfs]
  | [], _ :: _, _, _ => by simp [eqDs, nfs]
  | _ :: _, [], _, _ => by simp [eqDs, nfs]
  | d :: ds, e :: es, h, h' => by
    simp only [okEs, Bool.and_eq_true] at h h'
    simp only [eqDs, nfs, Bool.and_eq_true, List.cons.injEq]
    rw [eqD_nf d e h.1 h'.1, eqDs_nf ds es h.2 h'.2]
end
theorem eqD_trans {d e x : D} (hd : okE d = true) (he : okE e = true) (hx : okE x = true) (h : eqD d e = true) : eqD d x = eqD e x := by
  have h1 := (eqD_nf d e hd he).mp h
  rw [Bool.eq_iff_iff, eqD_nf d x hd hx, eqD_nf e x he hx, h1]

/-! ### in -/
def inS (x y : Str) : Bool := !(Builtin.Str.occurrences y x 0 y.length 1).isEmpty
/-- the items of a list or a tuple -/
def rdQ : D → M (List D)
  | .tup xs => pure xs
  | d => rdL d
def gIn (neg : Bool) : D → D → M D
  | x, .str y => do
    let z ← toS x
    pure (.bl (inS z y != neg))
  | x, y => do
    let ys ← rdQ y
    need (okE x = true ∧ okEs ys = true ∧ deps ys < 60)
    pure (.bl ((ys.any fun y => eqD y x) != neg))
section
variable {X : Cx} {W : Wx} {K : PySem.W.Frag} {m m' : Mp} {H H' : Hp} {mu : List MO}
theorem rdQ_ok {d : D} {v : V} {Q : List D → Mp → List MO → Hp → Prop} (rl : Rel K m mu H) (h : Rep K m H d v) (hp : Post K W m H (rdQ d mu) Q) : ∃ a xs vs, v = .ref a ∧ (SqL K H a vs ∨ SqT K H a vs) ∧ Reps K m H xs vs ∧ Q xs m mu H := by
  cases d
  case tup xs =>
    simp only [Rep] at h
    obtain ⟨a, vs, e, hs, hr⟩ := h
    exact ⟨a, xs, vs, e, .inr hs, hr, hp m H .refl rl⟩
  all_goals (
    obtain ⟨a, xs, vs, e, hs, hr, _, q⟩ := rdL_ok rl h hp
    exact ⟨a, xs, vs, e, .inl hs, hr, q⟩)
def rInM (neg : Bool) (K : PySem.W.Frag) : R2 := fun x y H Q => (∃ i j, x = .str i ∧ y = .str j ∧ Q (.bl (inS i j != neg)) H) ∨
  ∃ d p ds vs m, y = .ref p ∧ (SqL K H p vs ∨ SqT K H p vs) ∧ Rep K m H d x ∧ Reps K m H ds vs ∧ okE d = true ∧ okEs ds = true ∧ deps ds < 60 ∧ Q (.bl ((ds.any fun y => eqD y d) != neg)) H
open Classical in
theorem in_fun {pins : List (Addr × Obj)} {σ : L2.St} {s : Shared} {A : Around} (I : Inv X pins σ H s) {d : D} {x : V} {v : Value} {ds : List D} {vs : List V} {its : List Value} (hx : Rep X.K m H d x) (rx : RelV x v) (hr : Reps X.K m H ds vs) (r : Vals vs its)
    (ok : okE d = true) (oks : okEs ds = true) (hu : A.units + deps ds < cLine) : ∃ e : Value → Bool, (∀ u ∈ its, EqAt A s u v (e u)) ∧ its.any e = ds.any fun y => eqD y d := by
  have kx := kd_of hx rx ok
  have hl := hr.length
  have hl' := r.length
  have key : ∀ (i : Nat) (u : Value) (y : D), its[i]? = some u → ds[i]? = some y → Kd X.K m H y u ∧ okE y = true ∧ EqAt A s u v (eqD y d) := fun i u y hi hy => by
    obtain ⟨w, hw, qw⟩ := hr.get hy
    obtain ⟨u', hu', ru⟩ := r.get hw
    rw [hi] at hu'; cases hu'
    have oky := okEs_get oks hy
    have k := kd_of qw ru oky
    exact ⟨k, oky, eq_ats I ds i y hy d u v A k kx oks ok hu⟩
  have uniq : ∀ (i j : Nat) (u : Value) (y z : D), its[i]? = some u → its[j]? = some u → ds[i]? = some y → ds[j]? = some z → eqD y d = eqD z d := fun i j u y z hi hj hy hz => by
    obtain ⟨w, hw, qw⟩ := hr.get hy
    obtain ⟨w', hw', qw'⟩ := hr.get hz
    obtain ⟨u1, hu1, r1⟩ := r.get hw
    obtain ⟨u2, hu2, r2⟩ := r.get hw'
    rw [hi] at hu1; cases hu1
    rw [hj] at hu2; cases hu2
    have ew : w = w' := r1.inj r2
    subst ew
    have oky := okEs_get oks hy
    have okz := okEs_get oks hz
    exact eqD_trans oky okz ok (rep_same I y z w qw qw' oky okz)
  refine ⟨fun u => decide (∃ (i : Nat) (y : D), its[i]? = some u ∧ ds[i]? = some y ∧ eqD y d = true), fun u hm => ?_, ?_⟩
  · obtain ⟨i, hi⟩ := List.mem_iff_getElem?.mp hm
    have hil : i < ds.length := by have := (List.getElem?_eq_some_iff.mp hi).1; omega
    have hy : ds[i]? = some ds[i] := List.getElem?_eq_getElem hil
    have e : decide (∃ (i : Nat) (y : D), its[i]? = some u ∧ ds[i]? = some y ∧ eqD y d = true) = eqD ds[i] d := by
      rw [Bool.eq_iff_iff, decide_eq_true_iff]
      constructor
      · rintro ⟨j, z, hj, hz, q⟩
        rw [uniq i j u _ z hi hj hy hz]; exact q
      · intro q
        exact ⟨i, _, hi, hy, q⟩
    show EqAt A s u v (decide _)
    rw [e]
    exact (key i u _ hi hy).2.2
  · rw [Bool.eq_iff_iff, List.any_eq_true, List.any_eq_true]
    constructor
    · rintro ⟨u, hm, q⟩
      obtain ⟨i, y, hi, hy, q⟩ := of_decide_eq_true q
      exact ⟨y, List.mem_of_getElem? hy, q⟩
    · rintro ⟨y, hm, q⟩
      obtain ⟨i, hy⟩ := List.mem_iff_getElem?.mp hm
      have hil : i < its.length := by have := (List.getElem?_eq_some_iff.mp hy).1; omega
      exact ⟨its[i], List.getElem_mem hil, decide_eq_true ⟨i, y, List.getElem?_eq_getElem hil, hy, q⟩⟩
theorem op_inM (hu : X.A.units + 64 < cLine) : OpR X (compareOp .In) (rInM false X.K) := by
  intro pins s σ H x y v u Q I rx ry h
  rcases h with ⟨i, j, rfl, rfl, q⟩ | ⟨d, p, ds, vs, m, rfl, hq, hx, hr, ok, oks, hd, q⟩
  · rw [Bool.bne_false] at q
    exact op_in_str pins s σ H _ _ v u Q I rx ry ⟨i, j, rfl, rfl, q⟩
  · rw [Bool.bne_false] at q
    cases ry
    rcases hq with hq | hq
    · obtain ⟨its, r, pl, hz⟩ := I.list hq
      obtain ⟨e, he, ha⟩ := in_fun (A := X.A.in1) I hx rx hr r ok oks (by rw [in1_units]; omega)
      refine SeqAt.in_listAt e pl.isList (fun w hw => he w (by simpa using hw)) ⟨.bl _, H, I, rfl, ?_⟩
      rw [show its.toArray.any e = its.any e by simp, ha]
      exact q
    · obtain ⟨its, r, pl, hz⟩ := I.tuple hq
      obtain ⟨e, he, ha⟩ := in_fun (A := X.A.in1) I hx rx hr r ok oks (by rw [in1_units]; omega)
      refine SeqAt.in_tupleAt e pl (fun w hw => he w (by simpa using hw)) ⟨.bl _, H, I, rfl, ?_⟩
      rw [show its.toArray.any e = its.any e by simp, ha]
      exact q
theorem op_notInM (hu : X.A.units + 64 < cLine) : OpR X (compareOp .NotIn) (rInM true X.K) := by
  intro pins s σ H x y v u Q I rx ry h
  rcases h with ⟨i, j, rfl, rfl, q⟩ | ⟨d, p, ds, vs, m, rfl, hq, hx, hr, ok, oks, hd, q⟩
  · rw [Bool.bne_true] at q
    exact L2.op_notIn_str pins s σ H _ _ v u Q I rx ry ⟨i, j, rfl, rfl, q⟩
  · rw [Bool.bne_true] at q
    cases ry
    rcases hq with hq | hq
    · obtain ⟨its, r, pl, hz⟩ := I.list hq
      obtain ⟨e, he, ha⟩ := in_fun (A := X.A.in1) I hx rx hr r ok oks (by rw [in1_units]; omega)
      refine SeqAt.notIn_listAt e pl.isList (fun w hw => he w (by simpa using hw)) ⟨.bl _, H, I, rfl, ?_⟩
      rw [show its.toArray.any e = its.any e by simp, ha]
      exact q
    · obtain ⟨its, r, pl, hz⟩ := I.tuple hq
      obtain ⟨e, he, ha⟩ := in_fun (A := X.A.in1) I hx rx hr r ok oks (by rw [in1_units]; omega)
      refine SeqAt.notIn_tupleAt e pl (fun w hw => he w (by simpa using hw)) ⟨.bl _, H, I, rfl, ?_⟩
      rw [show its.toArray.any e = its.any e by simp, ha]
      exact q
theorem opm_in {neg : Bool} : OpM X.K W (rInM neg X.K) (gIn neg) := ⟨fun x y v w m mu H Q rl hx hy hp => by
  have seq : ∀ y, Rep X.K m H y w → Post X.K W m H ((do let ys ← rdQ y; need (okE x = true ∧ okEs ys = true ∧ deps ys < 60); pure (D.bl ((ys.any fun y => eqD y x) != neg))) mu) (fun d m' _ H' => ∀ u, Rep X.K m' H' d u → Q u H') → rInM neg X.K v w H Q := fun y hy hp => by
    obtain ⟨a, ys, vs, rfl, hs, hr, hp⟩ := rdQ_ok rl hy (Post.bind hp)
    obtain ⟨⟨h1, h2, h3⟩, hp⟩ := need_ok rl (Post.bind hp)
    exact .inr ⟨x, a, ys, vs, m, rfl, hs, hx, hr, h1, h2, h3, Post.pure hp rl _ (by simp only [Rep])⟩
  cases y
  case str y =>
    obtain ⟨z, rfl, rfl, hp⟩ := toS_ok rl hx (Post.bind hp)
    simp only [Rep] at hy
    exact .inl ⟨z, y, rfl, hy, Post.pure hp rl _ (by simp only [Rep])⟩
  all_goals exact seq _ hy hp⟩
open PySem.SeqAt (RcNeAt) in
theorem ne_lists {pins : List (Addr × Obj)} {σ : L2.St} {s : Shared} {a b : Addr} {ds es : List D} {vs ws : List V} {A : Around} (I : Inv X pins σ H s) (ha : SqL X.K H a vs) (hb : SqL X.K H b ws) (ra : Reps X.K m H ds vs) (rb : Reps X.K m H es ws) (ok : okEs ds = true) (hu : A.units + (deps ds + 1) < cLine)
    (ih : ∀ (j : Nat) d e v w u u', ds[j]? = some d → es[j]? = some e → Rep X.K m H d v → Rep X.K m H e w → RelV v u → RelV w u' → EqAt A.in1 s u u' (eqD d e)) : RcNeAt A s (.ref a) (.ref b) (!eqDs ds es) := by
  obtain ⟨its, r, pl, _⟩ := I.list ha
  obtain ⟨its', r', pl', _⟩ := I.list hb
  have h1 := ra.length
  have h2 := rb.length
  have h3 := r.length
  have h4 := r'.length
  by_cases hsz : its.toArray.size = its'.toArray.size
  · have hl : ds.length = es.length := by simp only [List.size_toArray] at hsz; omega
    rw [← eqDs_all hl]
    have q := RcNeAt.lists (A := A) (e := fun j => eqD (ds.getD j .non) (es.getD j .non)) pl.isList pl'.isList hsz (by omega) fun j j1 j2 => by
      obtain ⟨v, hv, rv⟩ := vals_at r j1
      obtain ⟨w, hw, rw'⟩ := vals_at r' j2
      obtain ⟨d, hd, qd⟩ := ra.at hv
      obtain ⟨e, he, qe⟩ := rb.at hw
      show EqAt A.in1 s _ _ (eqD (ds.getD j .non) (es.getD j .non))
      rw [getD_at hd, getD_at he]
      exact ih j d e v w _ _ hd he qd qe rv rw'
    rw [show ds.length = its.toArray.size by simp only [List.size_toArray]; omega]
    exact q
  · rw [eqDs_len (by simp only [List.size_toArray] at hsz; omega)]
    exact RcNeAt.lists_lengths pl.isList pl'.isList (by simpa using hsz) (by omega)
open PySem.SeqAt (RcNeAt) in
theorem ne_tuples {pins : List (Addr × Obj)} {σ : L2.St} {s : Shared} {a b : Addr} {ds es : List D} {vs ws : List V} {A : Around} (I : Inv X pins σ H s) (ha : SqT X.K H a vs) (hb : SqT X.K H b ws) (ra : Reps X.K m H ds vs) (rb : Reps X.K m H es ws) (ok : okEs ds = true) (hu : A.units + (deps ds + 1) < cLine)
    (ih : ∀ (j : Nat) d e v w u u', ds[j]? = some d → es[j]? = some e → Rep X.K m H d v → Rep X.K m H e w → RelV v u → RelV w u' → EqAt A.in1 s u u' (eqD d e)) : RcNeAt A s (.ref a) (.ref b) (!eqDs ds es) := by
  obtain ⟨its, r, pl, _⟩ := I.tuple ha
  obtain ⟨its', r', pl', _⟩ := I.tuple hb
  have h1 := ra.length
  have h2 := rb.length
  have h3 := r.length
  have h4 := r'.length
  rw [← eqDs_range]
  have q := RcNeAt.tuples (A := A) (e := fun j => eqD (ds.getD j .non) (es.getD j .non)) (show s.heap.IsTuple a its.toArray from pl) (show s.heap.IsTuple b its'.toArray from pl') (by omega) fun j j1 j2 => by
    obtain ⟨v, hv, rv⟩ := vals_at r j1
    obtain ⟨w, hw, rw'⟩ := vals_at r' j2
    obtain ⟨d, hd, qd⟩ := ra.at hv
    obtain ⟨e, he, qe⟩ := rb.at hw
    show EqAt A.in1 s _ _ (eqD (ds.getD j .non) (es.getD j .non))
    rw [getD_at hd, getD_at he]
    exact ih j d e v w _ _ hd he qd qe rv rw'
  have e1 : its.toArray.size = ds.length := by simp only [List.size_toArray]; omega
  have e2 : its'.toArray.size = es.length := by simp only [List.size_toArray]; omega
  rw [e1, e2] at q
  exact q
open PySem.SeqAt (RcNeAt) in
theorem ne_at {pins : List (Addr × Obj)} {σ : L2.St} {s : Shared} (I : Inv X pins σ H s) (d e : D) (u u' : Value) (A : Around) (h : Kd X.K m H d u) (h' : Kd X.K m H e u') (ok : okE d = true) (ok' : okE e = true) (hu : A.units + dep d < cLine) : RcNeAt A s u u' (!eqD d e) := by
  have hu0 : A.units < cLine := by omega
  cases h with
  | non =>
    cases h' <;> simp only [eqD, Bool.not_false, Bool.not_true]
    case non => exact RcNeAt.none_none
    case bl c => exact RcNeAt.none_bool _
    case int j t2 => exact RcNeAt.none_int _ _
    case str y t2 => exact RcNeAt.none_str _ _
    case tup es b ws hs' hr' => obtain ⟨_, p⟩ := tuple_at I hs'; exact RcNeAt.none_tuple p hu0
    case fl es b ws hs' hr' => obtain ⟨_, p⟩ := list_at I hs'; exact RcNeAt.none_list p hu0
    case ro es b ws hs' hr' => obtain ⟨_, p⟩ := list_at I hs'; exact RcNeAt.none_list p hu0
  | bl b =>
    cases h' <;> simp only [eqD, Bool.not_false, Bool.not_true]
    case non => exact RcNeAt.bool_none _
    case bl c => exact RcNeAt.bool_bool _ _
    case int j t2 => exact RcNeAt.bool_int _ _ _
    case str y t2 => exact RcNeAt.bool_str _ _ _
    case tup es b ws hs' hr' => obtain ⟨_, p⟩ := tuple_at I hs'; exact RcNeAt.bool_tuple _ p hu0
    case fl es b ws hs' hr' => obtain ⟨_, p⟩ := list_at I hs'; exact RcNeAt.bool_list _ p hu0
    case ro es b ws hs' hr' => obtain ⟨_, p⟩ := list_at I hs'; exact RcNeAt.bool_list _ p hu0
  | int i t =>
    cases h' <;> simp only [eqD, Bool.not_false, Bool.not_true]
    case non => exact RcNeAt.int_none _ _
    case bl c => exact RcNeAt.int_bool _ _ _
    case int j t2 => exact RcNeAt.int_int _ _ _ _
    case str y t2 => exact RcNeAt.int_str _ _ _ _
    case tup es b ws hs' hr' => obtain ⟨_, p⟩ := tuple_at I hs'; exact RcNeAt.int_tuple _ _ p hu0
    case fl es b ws hs' hr' => obtain ⟨_, p⟩ := list_at I hs'; exact RcNeAt.int_list _ _ p hu0
    case ro es b ws hs' hr' => obtain ⟨_, p⟩ := list_at I hs'; exact RcNeAt.int_list _ _ p hu0
  | str x t =>
    cases h' <;> simp only [eqD, Bool.not_false, Bool.not_true]
    case non => exact RcNeAt.str_none _ _
    case bl c => exact RcNeAt.str_bool _ _ _
    case int j t2 => exact RcNeAt.str_int _ _ _ _
    case str y t2 => exact RcNeAt.str_str _ _ _ _
    case tup es b ws hs' hr' => obtain ⟨_, p⟩ := tuple_at I hs'; exact RcNeAt.str_tuple _ _ p hu0
    case fl es b ws hs' hr' => obtain ⟨_, p⟩ := list_at I hs'; exact RcNeAt.str_list _ _ p hu0
    case ro es b ws hs' hr' => obtain ⟨_, p⟩ := list_at I hs'; exact RcNeAt.str_list _ _ p hu0
  | @tup ds a vs hs hr =>
    simp only [okE] at ok
    simp only [dep] at hu
    obtain ⟨_, p⟩ := tuple_at I hs
    cases h' <;> simp only [eqD, Bool.not_false, Bool.not_true]
    case non => exact RcNeAt.tuple_none p hu0
    case bl c => exact RcNeAt.tuple_bool _ p hu0
    case int j t2 => exact RcNeAt.tuple_int _ _ p hu0
    case str y t2 => exact RcNeAt.tuple_str _ _ p hu0
    case tup es b ws hs' hr' => simp only [okE] at ok'; exact ne_tuples I hs hs' hr hr' ok hu fun j d e v w u u' hd he qd qe rv rw' => (eq_ats I ds j d hd e u u' A.in1 (kd_of qd rv (okEs_get ok hd)) (kd_of qe rw' (okEs_get ok' he)) ok (okEs_get ok' he) (by rw [in1_units]; omega))
    case fl es b ws hs' hr' => obtain ⟨_, p'⟩ := list_at I hs'; exact RcNeAt.tuple_list p p' hu0
    case ro es b ws hs' hr' => obtain ⟨_, p'⟩ := list_at I hs'; exact RcNeAt.tuple_list p p' hu0
  | @fl ds a vs hs hr =>
    simp only [okE] at ok
    simp only [dep] at hu
    obtain ⟨_, p⟩ := list_at I hs
    cases h' <;> simp only [eqD, Bool.not_false, Bool.not_true]
    case non => exact RcNeAt.list_none p hu0
    case bl c => exact RcNeAt.list_bool _ p hu0
    case int j t2 => exact RcNeAt.list_int _ _ p hu0
    case str y t2 => exact RcNeAt.list_str _ _ p hu0
    case tup es b ws hs' hr' => obtain ⟨_, p'⟩ := tuple_at I hs'; exact RcNeAt.list_tuple p p' hu0
    case fl es b ws hs' hr' => simp only [okE] at ok'; exact ne_lists I hs hs' hr hr' ok hu fun j d e v w u u' hd he qd qe rv rw' => (eq_ats I ds j d hd e u u' A.in1 (kd_of qd rv (okEs_get ok hd)) (kd_of qe rw' (okEs_get ok' he)) ok (okEs_get ok' he) (by rw [in1_units]; omega))
    case ro es b ws hs' hr' => simp only [okE] at ok'; exact ne_lists I hs hs' hr hr' ok hu fun j d e v w u u' hd he qd qe rv rw' => (eq_ats I ds j d hd e u u' A.in1 (kd_of qd rv (okEs_get ok hd)) (kd_of qe rw' (okEs_get ok' he)) ok (okEs_get ok' he) (by rw [in1_units]; omega))
  | @ro ds a vs hs hr =>
    simp only [okE] at ok
    simp only [dep] at hu
    obtain ⟨_, p⟩ := list_at I hs
    cases h' <;> simp only [eqD, Bool.not_false, Bool.not_true]
    case non => exact RcNeAt.list_none p hu0
    case bl c => exact RcNeAt.list_bool _ p hu0
    case int j t2 => exact RcNeAt.list_int _ _ p hu0
    case str y t2 => exact RcNeAt.list_str _ _ p hu0
    case tup es b ws hs' hr' => obtain ⟨_, p'⟩ := tuple_at I hs'; exact RcNeAt.list_tuple p p' hu0
    case fl es b ws hs' hr' => simp only [okE] at ok'; exact ne_lists I hs hs' hr hr' ok hu fun j d e v w u u' hd he qd qe rv rw' => (eq_ats I ds j d hd e u u' A.in1 (kd_of qd rv (okEs_get ok hd)) (kd_of qe rw' (okEs_get ok' he)) ok (okEs_get ok' he) (by rw [in1_units]; omega))
    case ro es b ws hs' hr' => simp only [okE] at ok'; exact ne_lists I hs hs' hr hr' ok hu fun j d e v w u u' hd he qd qe rv rw' => (eq_ats I ds j d hd e u u' A.in1 (kd_of qd rv (okEs_get ok hd)) (kd_of qe rw' (okEs_get ok' he)) ok (okEs_get ok' he) (by rw [in1_units]; omega))
theorem op_neM (hu : X.A.units + 64 < cLine) : OpR X (compareOp .NotEq) (rEqM true X.K) := by
  intro pins s σ H x y v u Q I rx ry h
  obtain ⟨d, e, m, hd, he, ok, ok', hdep, q⟩ := h
  have z := ne_at I d e v u X.A (kd_of hd rx ok) (kd_of he ry ok') ok ok' (by omega)
  rw [Bool.bne_true] at q
  exact z X.prog X.w _ _ ⟨.bl _, H, I, rfl, q⟩
end
end MP
namespace MP
open PySem L2 PyProof.Rows
/-! ### expressions made of expressions -/
section
variable {X : Cx} {W : Wx} {e a b : Expr} {es : List Expr} {pos : Pos}
def eMap (f : D → M D) (r : Env → M D) : Env → M D := fun env => r env >>= f
def gNeg (x : D) : M D := do
  let i ← toI x
  pure (.int (-i))
theorem me_neg {r : Env → M D} (h : ME X W a r) : ME X W (.UnaryOp .USub a pos) (eMap gNeg r) := ⟨(pe_un un_neg h.pe).imp fun σ H Q ⟨env, m, mu, hE, hR, hp⟩ =>
  ⟨env, m, mu, hE, hR, (Post.bind hp).mono fun x m1 mu1 H1 g1 R1 hp v rv => by
    obtain ⟨i, rfl, rfl, hp⟩ := toI_ok R1 rv (Post.bind hp)
    exact ⟨i, rfl, Post.pure hp R1 _ (by simp only [Rep])⟩⟩⟩
def gNot (x : D) : M D := do
  let b ← toB x
  pure (.bl (!b))
theorem me_not {r : Env → M D} (h : ME X W a r) : ME X W (.UnaryOp .Not a pos) (eMap gNot r) := ⟨(pe_not h.pe).imp fun σ H Q ⟨env, m, mu, hE, hR, hp⟩ =>
  ⟨env, m, mu, hE, hR, (Post.bind hp).mono fun x m1 mu1 H1 g1 R1 hp v rv => by
    obtain ⟨i, rfl, rfl, hp⟩ := toB_ok R1 rv (Post.bind hp)
    exact ⟨i, rfl, Post.pure hp R1 _ (by simp only [Rep])⟩⟩⟩
theorem tT_bind {α : Type} {r : Env → M Bool} {t : TT} {f : Bool → Env → M Bool} (h : ∀ σ H Q, tT X.K W r σ H Q → t σ H Q) {σ : L2.St} {H : Hp} {Q : Bool → Hp → Prop} {Q' : Bool → Hp → Prop}
    (hq : tT X.K W (fun env => r env >>= fun b => f b env) σ H Q) (hn : ∀ b H1, tT X.K W (f b) σ H1 Q → Q' b H1) : t σ H Q' := by
  obtain ⟨env, m, mu, hE, hR, hp⟩ := hq
  exact h σ H _ ⟨env, m, mu, hE, hR, (Post.bind hp).mono fun b m1 mu1 H1 g1 R1 hp => hn b H1 ⟨env, m1, mu1, hE.grow g1, R1, hp⟩⟩
theorem tT_pure {c : Bool} {σ : L2.St} {H : Hp} {Q : Bool → Hp → Prop} (h : tT X.K W (fun _ => pure c) σ H Q) : Q c H := by
  obtain ⟨env, m, mu, hE, hR, hp⟩ := h
  exact Post.pure hp hR
def bNot (r : Env → M Bool) : Env → M Bool := fun env => r env >>= fun b => pure (!b)
def bAnd (r r' : Env → M Bool) : Env → M Bool := fun env => r env >>= fun b => if b = true then r' env else pure false
def bOr (r r' : Env → M Bool) : Env → M Bool := fun env => r env >>= fun b => if b = true then pure true else r' env
theorem mt_not {r : Env → M Bool} (h : MT X W a r) : MT X W (.UnaryOp .Not a pos) (bNot r) :=
  ⟨(pt_not h.pt).imp fun σ H Q hq => tT_bind (α := Bool) (f := fun b _ => pure (!b)) (fun _ _ _ q => q) hq fun b H1 q => tT_pure q⟩
/-- and, or as tests -/
structure MW (X : Cx) (W : Wx) (e : Expr) (r : Env → M Bool) : Prop where
  pw : PW X e (tT X.K W r)
theorem MW.mt {r : Env → M Bool} (h : MW X W e r) : MT X W e r := ⟨h.pw.pt⟩
theorem mw_and1 {r : Env → M Bool} (h : MT X W a r) : MW X W (.BoolOp .And [a] pos) r := ⟨pw_and1 h.pt⟩
theorem mw_or1 {r : Env → M Bool} (h : MT X W a r) : MW X W (.BoolOp .Or [a] pos) r := ⟨pw_or1 h.pt⟩
theorem mw_and {r r' : Env → M Bool} (h : MT X W a r) (h' : MW X W (.BoolOp .And (b :: es) pos) r') : MW X W (.BoolOp .And (a :: b :: es) pos) (bAnd r r') :=
  ⟨(pw_and h.pt h'.pw).imp fun σ H Q hq => tT_bind (α := Bool) (f := fun b env => if b = true then r' env else pure false) (fun _ _ _ q => q) hq fun b H1 q => by
    cases b
    · exact tT_pure q
    · exact q⟩
theorem mw_or {r r' : Env → M Bool} (h : MT X W a r) (h' : MW X W (.BoolOp .Or (b :: es) pos) r') : MW X W (.BoolOp .Or (a :: b :: es) pos) (bOr r r') :=
  ⟨(pw_or h.pt h'.pw).imp fun σ H Q hq => tT_bind (α := Bool) (f := fun b env => if b = true then pure true else r' env) (fun _ _ _ q => q) hq fun b H1 q => by
    cases b
    · exact q
    · exact tT_pure q⟩
/-- .. as values, of bools -/
def eAnd (r r' : Env → M D) : Env → M D := fun env => r env >>= fun x => toB x >>= fun b => if b = true then r' env else pure (.bl false)
def eOr (r r' : Env → M D) : Env → M D := fun env => r env >>= fun x => toB x >>= fun b => if b = true then pure (.bl true) else r' env
theorem me_one {op} {r : Env → M D} (h : ME X W a r) : ME X W (.BoolOp op [a] pos) r := ⟨pe_one h.pe⟩
theorem me_and {r r' : Env → M D} (h : ME X W a r) (h' : ME X W (.BoolOp .And (b :: es) pos) r') : ME X W (.BoolOp .And (a :: b :: es) pos) (eAnd r r') := ⟨(pe_and h.pe h'.pe).imp fun σ H Q ⟨env, m, mu, hE, hR, hp⟩ =>
  ⟨env, m, mu, hE, hR, (Post.bind hp).mono fun x m1 mu1 H1 g1 R1 hp v rv => by
    obtain ⟨c, rfl, rfl, hp⟩ := toB_ok R1 rv (Post.bind hp)
    refine ⟨c, rfl, ?_⟩
    cases c
    · exact Post.pure hp R1 _ (by simp only [Rep])
    · exact ⟨env, m1, mu1, hE.grow g1, R1, hp⟩⟩⟩
theorem me_or {r r' : Env → M D} (h : ME X W a r) (h' : ME X W (.BoolOp .Or (b :: es) pos) r') : ME X W (.BoolOp .Or (a :: b :: es) pos) (eOr r r') := ⟨(pe_or h.pe h'.pe).imp fun σ H Q ⟨env, m, mu, hE, hR, hp⟩ =>
  ⟨env, m, mu, hE, hR, (Post.bind hp).mono fun x m1 mu1 H1 g1 R1 hp v rv => by
    obtain ⟨c, rfl, rfl, hp⟩ := toB_ok R1 rv (Post.bind hp)
    refine ⟨c, rfl, ?_⟩
    cases c
    · exact ⟨env, m1, mu1, hE.grow g1, R1, hp⟩
    · exact Post.pure hp R1 _ (by simp only [Rep])⟩⟩
def eIf {α : Type} (t : Env → M Bool) (r r' : Env → M α) : Env → M α := fun env => t env >>= fun b => if b = true then r env else r' env
theorem me_ifExp {c : Expr} {t : Env → M Bool} {r r' : Env → M D} (hc : MT X W c t) (h : ME X W a r) (h' : ME X W b r') : ME X W (.IfExp c a b pos) (eIf t r r') := ⟨(pe_ifExp hc.pt h.pe h'.pe).imp fun σ H Q ⟨env, m, mu, hE, hR, hp⟩ =>
  ⟨env, m, mu, hE, hR, (Post.bind hp).mono fun b m1 mu1 H1 g1 R1 hp => by
    cases b
    · exact ⟨env, m1, mu1, hE.grow g1, R1, hp⟩
    · exact ⟨env, m1, mu1, hE.grow g1, R1, hp⟩⟩⟩

/-! ### argument lists, displays -/
def aNil : Env → M (List D) := fun _ => pure []
def aCons (r : Env → M D) (rs : Env → M (List D)) : Env → M (List D) := fun env => r env >>= fun x => rs env >>= fun xs => pure (x :: xs)
theorem ma_nil : MA X W [] aNil := ⟨pa_nil.imp fun σ H Q ⟨env, m, mu, hE, hR, hp⟩ => Post.pure hp hR [] (Reps.nil_iff.mpr rfl)⟩
theorem ma_cons {r : Env → M D} {rs : Env → M (List D)} (h : ME X W e r) (hs : MA X W es rs) (he : starEach (e :: es) X.env = (false, eval e X.env) :: starEach es X.env := by rfl) : MA X W (e :: es) (aCons r rs) :=
  ⟨(pa_cons h.pe hs.pa he).imp fun σ H Q ⟨env, m, mu, hE, hR, hp⟩ =>
    ⟨env, m, mu, hE, hR, (Post.bind hp).mono fun x m1 mu1 H1 g1 R1 hp v rv => ⟨env, m1, mu1, hE.grow g1, R1, (Post.bind hp).mono fun xs m2 mu2 H2 g2 R2 hp vs rvs =>
      Post.pure hp R2 (v :: vs) (Reps.cons_iff.mpr ⟨v, vs, rfl, Rep.grow g2 x v rv, rvs⟩)⟩⟩⟩
def gTup (xs : List D) : M D := do
  need (xs.length ≤ sizeLine)
  pure (.tup xs)
def aThen (f : List D → M D) (rs : Env → M (List D)) : Env → M D := fun env => rs env >>= f
theorem me_tup {x1} {rs : Env → M (List D)} (h : MA X W es rs) : ME X W (.Tuple es x1 pos) (aThen gTup rs) := ⟨(pe_tup h.pa).imp fun σ H Q ⟨env, m, mu, hE, hR, hp⟩ =>
  ⟨env, m, mu, hE, hR, (Post.bind hp).mono fun xs m1 mu1 H1 g1 R1 hp vs rv => by
    obtain ⟨c, hp⟩ := need_ok R1 (Post.bind hp)
    refine ⟨by rw [← rv.length]; exact c, fun p hn => ?_⟩
    obtain ⟨g, R', rp⟩ := new_tup R1 rv hn
    exact hp m1 _ g R' _ rp⟩⟩
/-- a new object is taken into the small heap -/
theorem Rel.adopt {K : PySem.W.Frag} {m : Mp} {H H' : Hp} {mu : List MO} (R : Rel K m mu H) {a : Addr} {o : MO} (hn : m.Out a) (hg : Grow m (m.add a) H H') (hk : ∀ b u, H b = some u → H' b = some u) (ho : RepO K (m.add a) H' a o) : Rel K (m.add a) (mu ++ [o]) H' := by
  refine ⟨by show (m.ad ++ [a]).length = _; rw [List.length_append, List.length_append, R.len]; rfl, ?_, fun b hb => hg.trk b _ (R.nos b hb).choose_spec, fun b hb => ?_, fun n ob b h1 h2 => ?_⟩
  · show (m.ad ++ [a]).Nodup
    rw [List.nodup_append]
    refine ⟨R.nd, by simp, fun x hx y hy => ?_⟩
    rw [List.mem_singleton.mp hy]
    rintro rfl
    exact hn.1 hx
  · rcases List.mem_append.mp (show b ∈ m.ad ++ [a] from hb) with z | z
    · exact R.dj b z
    · rw [List.mem_singleton.mp z]; exact hn.2
  · have h2 : (m.ad ++ [a])[n]? = some b := h2
    by_cases h : n < mu.length
    · rw [List.getElem?_append_left h] at h1
      rw [List.getElem?_append_left (by rw [R.len]; exact h)] at h2
      exact (R.obj n ob b h1 h2).grow hg fun u q => hk b u q
    · by_cases hl : n = mu.length
      · subst hl
        rw [List.getElem?_append_right (Nat.le_refl _), Nat.sub_self] at h1
        rw [List.getElem?_append_right (by rw [R.len]; exact Nat.le_refl _), ← R.len, Nat.sub_self] at h2
        cases h1
        cases h2
        exact ho
      · rw [List.getElem?_eq_none (by rw [List.length_append]; simp only [List.length_cons, List.length_nil]; omega)] at h1
        cases h1
theorem add_get {K : PySem.W.Frag} {m : Mp} {H : Hp} {mu : List MO} (R : Rel K m mu H) {a : Addr} : (m.add a).ad[mu.length]? = some a := by
  show (m.ad ++ [a])[mu.length]? = some a
  rw [List.getElem?_append_right (by rw [R.len]; exact Nat.le_refl _), ← R.len, Nat.sub_self]
  rfl
theorem Grow.fresh {m : Mp} {H : Hp} {p : Addr} {o : HO} (hn : H p = none) : Grow m (m.add p) H (upd H p o) :=
  let g : Grow m m H (upd H p o) := .laid hn
  ⟨⟨[p], [], rfl, by simp [Mp.add], fun a ha => by rw [List.mem_singleton.mp ha]; exact hn, by simp⟩, g.oth, g.tups, g.frzs, g.trk⟩
theorem upd_keeps {H : Hp} {p : Addr} {o : HO} (hn : H p = none) : ∀ b u, H b = some u → upd H p o b = some u := fun b u e => by rw [upd_ne (ne_of_none e hn)]; exact e
/-- a new list: from its reading -/
theorem tF_new {K : PySem.W.Frag} {W : Wx} {m m1 : Mp} {H H1 : Hp} {mu1 : List MO} {ds : List D} {vs : List V} {Q : VK} (g : Grow m m1 H H1) (R1 : Rel K m1 mu1 H1) (r : Reps K m1 H1 ds vs) (hp : Post K W m1 H1 ((pure ds : M (List D)) mu1) fun ds m' mu' H' => NewL K H ds m' mu' H' Q) : ∀ p, H1 p = none → Q (.ref p) (upd H1 p (.lst vs)) := fun p hn => by
  have g1 : Grow m1 m1 H1 (upd H1 p (.lst vs)) := .laid hn
  have q := hp m1 _ g1 (R1.laid hn)
  exact q p vs (g.none_of hn) upd_same (R1.free hn) (Reps.grow g1 ds vs r) (R1.adopt (R1.free hn) (.fresh hn) (upd_keeps hn) ⟨vs, upd_same, Reps.grow (.fresh hn) ds vs r⟩)
def aList (rs : Env → M (List D)) : Env → M (List D) := fun env => rs env >>= fun xs => need (xs.length ≤ sizeLine) >>= fun _ => pure xs
theorem mf_lst {rs : Env → M (List D)} (h : MA X W es rs) : MF X W (.List es pos) (aList rs) := ⟨(pe_lst h.pa).imp fun σ H Q ⟨env, m, mu, hE, hR, hp⟩ =>
  ⟨env, m, mu, hE, hR, (Post.bind hp).mono fun xs m1 mu1 H1 g1 R1 hp vs rv => by
    obtain ⟨c, hp⟩ := need_ok R1 (Post.bind hp)
    exact ⟨by rw [← rv.length]; exact c, tF_new g1 R1 rv hp⟩⟩⟩
def eFl (r : Env → M (List D)) : Env → M D := fun env => r env >>= fun xs => pure (.fl xs)
def alloc (o : MO) : M D := fun mu => .ok (.ref mu.length) (mu ++ [o])
def eNew (r : Env → M (List D)) : Env → M D := fun env => r env >>= fun xs => alloc (.lst xs)
/-- a new list, from now on read alone -/
theorem me_fl {r : Env → M (List D)} (h : MF X W e r) : ME X W e (eFl r) := ⟨h.pe.imp fun σ H Q ⟨env, m, mu, hE, hR, hp⟩ =>
  ⟨env, m, mu, hE, hR, (Post.bind hp).mono fun xs m1 mu1 H1 g1 R1 hp a vs h0 h1 hn hr _ => Post.pure hp R1 _ (by simp only [Rep]; exact ⟨a, vs, rfl, h1, hn, hr⟩)⟩⟩
/-- a new list, taken into the small heap -/
theorem me_new {r : Env → M (List D)} (h : MF X W e r) : ME X W e (eNew r) := ⟨h.pe.imp fun σ H Q ⟨env, m, mu, hE, hR, hp⟩ => by
  refine ⟨env, m, mu, hE, hR, ?_⟩
  have e0 : eNew r env mu = M.bind (r env) (fun xs => alloc (.lst xs)) mu := rfl
  rw [e0] at hp
  unfold M.bind at hp
  cases hr : r env mu with
  | ok xs mu1 =>
    rw [hr] at hp
    intro m1 H1 g1 R1 a vs h0 h1 hn hrs ha
    have q := hp (m1.add a) H1 (g1.adopt h0) ha (.ref a)
    exact q (by simp only [Rep]; exact ⟨a, rfl, add_get R1⟩)
  | exc x mu1 => rw [hr] at hp; exact hp
  | bad => rw [hr] at hp; exact hp⟩
/-- {} , taken into the small heap -/
def eNewD : Env → M D := fun _ => alloc (.dk [])
theorem me_dict0 : ME X W (.Dict [] [] pos) eNewD := ⟨pe_dnewK.imp fun σ H Q ⟨env, m, mu, hE, hR, hp⟩ p hn => by
  have q := hp (m.add p) (upd H p (.dK [])) (.fresh hn) (hR.adopt (hR.free hn) (.fresh hn) (upd_keeps hn) ⟨[], upd_same, Reps.nil_iff.mpr rfl⟩) (.ref p)
  exact q (by simp only [Rep]; exact ⟨p, rfl, add_get hR⟩)⟩

/-! ### subscripts -/
def ixD (xs : List D) (i : Int) : M D := match atI xs i with
  | some d => pure d
  | none => bad
def gIx : D → D → M D
  | .str z, y => do
    let i ← toI y
    need (z.length ≤ sizeLine)
    match atI z.cps.toList i with
    | some c => pure (.str ⟨#[c]⟩)
    | none => bad
  | x, y => do
    let xs ← rdQ x
    let i ← toI y
    ixD xs i
theorem ixD_ok {K : PySem.W.Frag} {m : Mp} {H : Hp} {mu : List MO} {xs : List D} {vs : List V} {i : Int} {Q : D → Mp → List MO → Hp → Prop} (R : Rel K m mu H) (r : Reps K m H xs vs) (hp : Post K W m H (ixD xs i mu) Q) : ∃ d v, atI vs i = some v ∧ Rep K m H d v ∧ Q d m mu H := by
  unfold ixD at hp
  cases e : atI xs i with
  | none => rw [e] at hp; exact (show False from hp).elim
  | some d =>
    rw [e] at hp
    unfold atI at e
    rw [r.length] at e
    cases e2 : ixN vs.length i with
    | none => rw [e2] at e; cases e
    | some j =>
      rw [e2] at e
      obtain ⟨v, hv, rv⟩ := r.get (show xs[j]? = some d from e)
      exact ⟨d, v, by unfold atI; rw [e2]; exact hv, rv, Post.pure hp R⟩
theorem opm_ix : OpM X.K W (rIx X.K) gIx := ⟨fun x y v w m mu H Q rl hx hy hp => by
  have seq : ∀ x, Rep X.K m H x v → Post X.K W m H ((do let xs ← rdQ x; let i ← toI y; ixD xs i) mu) (fun d m' _ H' => ∀ u, Rep X.K m' H' d u → Q u H') → rIx X.K v w H Q := fun x hx hp => by
    obtain ⟨a, xs, vs, rfl, hs, hr, hp⟩ := rdQ_ok rl hx (Post.bind hp)
    obtain ⟨i, rfl, rfl, hp⟩ := toI_ok rl hy (Post.bind hp)
    obtain ⟨d, v, hv, rv, hp⟩ := ixD_ok rl hr hp
    rcases hs with hs | hs
    · exact .inl ⟨a, vs, i, v, rfl, rfl, hs, hv, hp v rv⟩
    · exact .inr (.inl ⟨a, vs, i, v, rfl, rfl, hs, hv, hp v rv⟩)
  cases x
  case str z =>
    obtain ⟨i, rfl, rfl, hp⟩ := toI_ok rl hy (Post.bind hp)
    obtain ⟨c, hp⟩ := need_ok rl (Post.bind hp)
    simp only [Rep] at hx
    cases e : atI z.cps.toList i with
    | none => rw [e] at hp; exact (show False from hp).elim
    | some k =>
      rw [e] at hp
      exact .inr (.inr ⟨z, i, k, hx, rfl, c, e, Post.pure hp rl _ (by simp only [Rep])⟩)
  all_goals exact seq _ hx hp⟩
theorem me_ix {ra rb : Env → M D} (ha : ME X W a ra) (hb : ME X W b rb) (hs : PlainIx b := by intro _ _; rfl) : ME X W (.Subscript a b pos) (eBin gIx ra rb) := ⟨(pe_ix ix_seq ha.pe hb.pe hs).imp (tE_bin opm_ix)⟩
/-- keys of a dict -/
def toK : D → M Key
  | .int i => pure (.inl i)
  | .str x => pure (.inr x)
  | _ => bad
theorem toK_ok {K : PySem.W.Frag} {m : Mp} {H : Hp} {mu : List MO} {d : D} {v : V} {Q : Key → Mp → List MO → Hp → Prop} (R : Rel K m mu H) (h : Rep K m H d v) (hp : Post K W m H (toK d mu) Q) : ∃ k, v = kV k ∧ Q k m mu H := by
  cases d
  case int i => simp only [Rep] at h; exact ⟨.inl i, h, hp m H .refl R⟩
  case str i => simp only [Rep] at h; exact ⟨.inr i, h, hp m H .refl R⟩
  all_goals exact (show False from hp).elim
/-- what a dict holds at a key -/
def valD (kvs : List (Key × D)) (k : Key) : Option D := (kvs.find? fun kv => decide (kv.1 = k)).map (·.2)
def atD (mu : List MO) (n : Nat) : R (List (Key × D)) := match mu[n]? with
  | some (.dk kvs) => .ok kvs mu
  | _ => .bad
theorem atD_dk {mu : List MO} {n : Nat} {kvs : List (Key × D)} (h : mu[n]? = some (.dk kvs)) : atD mu n = .ok kvs mu := by unfold atD; rw [h]
theorem atD_lst {mu : List MO} {n : Nat} {xs : List D} (h : mu[n]? = some (.lst xs)) : atD mu n = .bad := by unfold atD; rw [h]
def rdD : D → M (List (Key × D))
  | .fd ks xs => pure (ks.zip xs)
  | .ref n => fun mu => atD mu n
  | _ => bad
theorem zip_keys {α β : Type} : ∀ (kvs : List (α × β)), (kvs.map (·.1)).zip (kvs.map (·.2)) = kvs
  | [] => rfl
  | (k, v) :: r => by rw [List.map_cons, List.map_cons, List.zip_cons_cons, zip_keys r]
theorem valD_rep {K : PySem.W.Frag} {m : Mp} {H : Hp} {k : Key} : ∀ {ks : List Key} {ds : List D} {vs : List V}, Reps K m H ds vs → match valD (ks.zip ds) k with
    | some d => ∃ v, valV (ks.zip vs) k = some v ∧ Rep K m H d v
    | none => valV (ks.zip vs) k = none
  | [], ds, vs, _ => by simp [valD, valV]
  | _ :: _, [], vs, h => by rw [Reps.nil_iff] at h; subst h; simp [valD, valV]
  | j :: ks, d :: ds, vs, h => by
    obtain ⟨v, r, rfl, h1, h2⟩ := Reps.cons_iff.mp h
    have ih := valD_rep (k := k) (ks := ks) h2
    by_cases e : j = k
    · subst e
      simp only [valD, valV, List.zip_cons_cons, List.find?_cons, decide_true, Option.map_some]
      exact ⟨v, rfl, h1⟩
    · simp only [valD, valV, List.zip_cons_cons, List.find?_cons, decide_eq_false e] at ih ⊢
      exact ih
theorem rdD_ok {K : PySem.W.Frag} {m : Mp} {H : Hp} {mu : List MO} {d : D} {v : V} {Q : List (Key × D) → Mp → List MO → Hp → Prop} (R : Rel K m mu H) (h : Rep K m H d v) (hp : Post K W m H (rdD d mu) Q) : ∃ a kvs vs, v = .ref a ∧ H a = some (.dK ((kvs.map (·.1)).zip vs)) ∧ Reps K m H (kvs.map (·.2)) vs ∧ Q kvs m mu H := by
  cases d <;> simp only [Rep] at h
  case fd ks ds =>
    obtain ⟨a, vs, rfl, hs, _, hl, hr⟩ := h
    refine ⟨a, ks.zip ds, vs, rfl, ?_, ?_, hp m H .refl R⟩
    · rw [List.map_fst_zip (by omega)]; exact hs
    · rw [List.map_snd_zip (by omega)]; exact hr
  case ref n =>
    obtain ⟨a, rfl, hm⟩ := h
    obtain ⟨o, ho, hr⟩ := R.at' hm
    cases o with
    | dk kvs =>
      obtain ⟨vs, hH, hr⟩ := hr
      have e : rdD (.ref n) mu = .ok kvs mu := atD_dk ho
      rw [e] at hp
      exact ⟨a, kvs, vs, rfl, hH, hr, hp m H .refl R⟩
    | lst xs =>
      have e : rdD (.ref n) mu = .bad := atD_lst ho
      rw [e] at hp
      exact hp.elim
  all_goals exact (show False from hp).elim
theorem valD_get {K : PySem.W.Frag} {m : Mp} {H : Hp} {kvs : List (Key × D)} {vs : List V} {a : Addr} (k : Key) (hH : H a = some (.dK ((kvs.map (·.1)).zip vs))) (hr : Reps K m H (kvs.map (·.2)) vs) : (∃ d v, valD kvs k = some d ∧ Rep K m H d v ∧ DGet H a (kV k) (some v)) ∨ (valD kvs k = none ∧ DGet H a (kV k) none) := by
  have q := valD_rep (k := k) (ks := kvs.map (·.1)) hr
  rw [zip_keys] at q
  have g := DGet.k (k := k) hH
  cases e : valD kvs k with
  | none =>
    rw [e] at q
    rw [show valV ((kvs.map (·.1)).zip vs) k = none from q] at g
    exact .inr ⟨rfl, g⟩
  | some d =>
    rw [e] at q
    obtain ⟨v, hv, rv⟩ := q
    rw [hv] at g
    exact .inl ⟨d, v, rfl, rv, g⟩
def gDget (x y : D) : M D := do
  let kvs ← rdD x
  let k ← toK y
  match valD kvs k with
  | some d => pure d
  | none => bad
theorem me_dget {ra rb : Env → M D} (hu : X.A.units + 1 < cLine) (ha : ME X W a ra) (hb : ME X W b rb) (hs : NoSl b := by intro _ _; rfl) : ME X W (.Subscript a b pos) (eBin gDget ra rb) := ⟨(pe_dget hu ha.pe hb.pe hs).imp fun σ H Q ⟨env, m, mu, hE, hR, hp⟩ =>
  ⟨env, m, mu, hE, hR, (Post.bind hp).mono fun x m1 mu1 H1 g1 R1 hp1 v rv => ⟨env, m1, mu1, hE.grow g1, R1, (Post.bind hp1).mono fun y m2 mu2 H2 g2 R2 hp w rw' => by
    obtain ⟨p, kvs, vs, rfl, hH, hr, hp⟩ := rdD_ok R2 (Rep.grow g2 x v rv) (Post.bind hp)
    obtain ⟨k, rfl, hp⟩ := toK_ok R2 rw' (Post.bind hp)
    rcases valD_get k hH hr with ⟨d, z, e, rz, g⟩ | ⟨e, g⟩
    · rw [e] at hp
      exact ⟨p, z, rfl, g, Post.pure hp R2 z rz⟩
    · rw [e] at hp
      exact (show False from hp).elim⟩⟩⟩
/-- in a dict -/
def gDin (neg : Bool) (y x : D) : M D := do
  let kvs ← rdD x
  let k ← toK y
  pure (.bl ((valD kvs k).isSome != neg))
theorem din_go {neg : Bool} {σ : L2.St} {ra rb : Env → M D} {H : Hp} {Q : VK} (h : tE X.K W (eBin (gDin neg) ra rb) σ H Q) : (tE X.K W ra) σ H fun y H1 => (tE X.K W rb) σ H1 fun x H2 => ∃ a o, x = .ref a ∧ DGet H2 a y o ∧ Q (.bl (o.isSome != neg)) H2 := by
  obtain ⟨env, m, mu, hE, hR, hp⟩ := h
  exact ⟨env, m, mu, hE, hR, (Post.bind hp).mono fun y m1 mu1 H1 g1 R1 hp1 v rv => ⟨env, m1, mu1, hE.grow g1, R1, (Post.bind hp1).mono fun x m2 mu2 H2 g2 R2 hp w rw' => by
    obtain ⟨p, kvs, vs, rfl, hH, hr, hp⟩ := rdD_ok R2 rw' (Post.bind hp)
    obtain ⟨k, rfl, hp⟩ := toK_ok R2 (Rep.grow g2 y v rv) (Post.bind hp)
    rcases valD_get k hH hr with ⟨d, z, e, rz, g⟩ | ⟨e, g⟩
    · rw [e] at hp
      exact ⟨p, _, rfl, g, Post.pure hp R2 _ (by simp only [Rep, Option.isSome_some])⟩
    · rw [e] at hp
      exact ⟨p, _, rfl, g, Post.pure hp R2 _ (by simp only [Rep, Option.isSome_none])⟩⟩⟩
theorem pc_dinM {ra rb : Env → M D} (hu : X.A.units + 1 < cLine) (ha : ME X W a ra) (hb : ME X W b rb) : PC X .In a b (tE X.K W (eBin (gDin false) ra rb)) := ⟨fun pins s σ H Q I h => (pc_din hu ha.pe hb.pe).run pins s σ H Q I (by
  have q := din_go h
  simp only [Bool.bne_false] at q
  exact q)⟩
theorem pc_dnotinM {ra rb : Env → M D} (hu : X.A.units + 1 < cLine) (ha : ME X W a ra) (hb : ME X W b rb) : PC X .NotIn a b (tE X.K W (eBin (gDin true) ra rb)) := ⟨fun pins s σ H Q I h => (pc_dnotin hu ha.pe hb.pe).run pins s σ H Q I (by
  have q := din_go h
  simp only [Bool.bne_true] at q
  exact q)⟩
theorem me_pc {op : CmpOp} {r : Env → M D} (h : PC X op a b (tE X.K W r)) (h1 : behindInMarks op b = false := by first | exact nobehind _ (by decide) (by decide) | rfl) : ME X W (.Compare a [op] [b] pos) r := ⟨pe_cmp h h1⟩
theorem mt_pc {op : CmpOp} {r : Env → M D} (h : PC X op a b (tE X.K W r)) (h1 : behindInMarks op b = false := by first | exact nobehind _ (by decide) (by decide) | rfl) : MT X W (.Compare a [op] [b] pos) (eB r) := ⟨(pt_cmp h h1).imp (tT_of fun _ _ _ q => q)⟩
end
end MP
namespace MP
open PySem L2 PyProof.Rows
/-! ### slices, built-ins -/
section
variable {X : Cx} {W : Wx} {e a b : Expr} {es : List Expr} {pos p : Pos}
structure MO_ (X : Cx) (W : Wx) (e : Option Expr) (r : Env → M (Option Int)) : Prop where
  po : PO X e fun σ H Q => ∃ env m mu, RepE X.K m H env σ ∧ Rel X.K m mu H ∧ Post X.K W m H (r env mu) fun o _ _ H' => Q o H'
theorem _root_.L2.PO.imp {e : Option Expr} {t t' : TO} (h : PO X e t) (i : ∀ σ H Q, t' σ H Q → t σ H Q) : PO X e t' := ⟨fun pins s σ H Q I q => h.run pins s σ H Q I (i σ H Q q)⟩
def oNone : Env → M (Option Int) := fun _ => pure none
def oSome (r : Env → M D) : Env → M (Option Int) := fun env => r env >>= fun x => toI x >>= fun i => pure (some i)
theorem mo_none : MO_ X W none oNone := ⟨po_none.imp fun σ H Q ⟨env, m, mu, hE, hR, hp⟩ => Post.pure hp hR⟩
theorem mo_some {r : Env → M D} (h : ME X W e r) : MO_ X W (some e) (oSome r) := ⟨(po_some h.pe).imp fun σ H Q ⟨env, m, mu, hE, hR, hp⟩ =>
  ⟨env, m, mu, hE, hR, (Post.bind hp).mono fun x m1 mu1 H1 g1 R1 hp v rv => by
    obtain ⟨i, rfl, rfl, hp⟩ := toI_ok R1 rv (Post.bind hp)
    exact ⟨i, rfl, Post.pure hp R1⟩⟩⟩
def cutD (xs : List D) (lo hi : Option Int) : List D := (xs.drop (HT.sIx xs.length 0 lo)).take (HT.sIx xs.length xs.length hi - HT.sIx xs.length 0 lo)
theorem cut_rep {K : PySem.W.Frag} {m : Mp} {H : Hp} {xs : List D} {vs : List V} {lo hi : Option Int} (h : Reps K m H xs vs) : Reps K m H (cutD xs lo hi) (cutV vs lo hi) := by
  unfold cutD cutV
  rw [h.length]
  exact (h.drop _).take _
def gSl (x : D) (lo hi : Option Int) : M D := match x with
  | .str z => do
    need (z.length ≤ sizeLine)
    pure (.str (cutS z lo hi))
  | .tup xs => pure (.tup (cutD xs lo hi))
  | x => do
    let xs ← rdL x
    pure (.fl (cutD xs lo hi))
def rSlM (K : PySem.W.Frag) : V → Option Int → Option Int → Hp → VK → Prop := fun x lo hi H Q => rSlS x lo hi H Q ∨ rSlA K x lo hi H Q ∨ rSlL K x lo hi H Q
theorem sl_M : SlR X (rSlM X.K) := sl_str.or (sl_tupA.or sl_list)
def eSl (r : Env → M D) (rl rh : Env → M (Option Int)) : Env → M D := fun env => r env >>= fun x => rl env >>= fun lo => rh env >>= fun hi => gSl x lo hi
theorem cut_whole {vs : List V} {lo hi : Option Int} (h : HT.sIx vs.length 0 lo = 0 ∧ HT.sIx vs.length vs.length hi = vs.length) : cutV vs lo hi = vs := by
  unfold cutV
  rw [h.1, h.2, List.drop_zero, Nat.sub_zero, List.take_length]
theorem slice_go {x : D} {v : V} {l u : Option Int} {m3 : Mp} {mu3 : List MO} {H3 : Hp} {Q : VK} (R3 : Rel X.K m3 mu3 H3) (rv3 : Rep X.K m3 H3 x v) (hp : Post X.K W m3 H3 (gSl x l u mu3) fun d m' _ H' => ∀ u, Rep X.K m' H' d u → Q u H') : rSlM X.K v l u H3 Q := by
    have lst : ∀ x, Rep X.K m3 H3 x v → Post X.K W m3 H3 ((do let xs ← rdL x; pure (D.fl (cutD xs l u))) mu3) (fun d m' _ H' => ∀ u, Rep X.K m' H' d u → Q u H') → rSlM X.K v l u H3 Q := fun x rv3 hp => by
      obtain ⟨a, xs, vs, rfl, hs, hr, _, hp⟩ := rdL_ok R3 rv3 (Post.bind hp)
      refine .inr (.inr ⟨a, vs, rfl, hs, fun p hn => ?_⟩)
      obtain ⟨g, R', rp⟩ := new_fl R3 (cut_rep (lo := l) (hi := u) hr) hn
      exact hp m3 _ g R' _ rp
    cases x
    case str z =>
      obtain ⟨c, hp⟩ := need_ok R3 (Post.bind hp)
      simp only [Rep] at rv3
      exact .inl ⟨z, rv3, c, Post.pure hp R3 _ (by simp only [Rep])⟩
    case tup xs =>
      simp only [Rep] at rv3
      obtain ⟨a, vs, rfl, hs, hr⟩ := rv3
      refine .inr (.inl ⟨a, vs, rfl, hs, fun hw => ?_, fun _ p hn => ?_⟩)
      · refine Post.pure hp R3 _ ?_
        simp only [Rep]
        exact ⟨a, vs, rfl, hs, by have q := cut_rep (lo := l) (hi := u) hr; rw [cut_whole hw] at q; exact q⟩
      · obtain ⟨g, R', rp⟩ := new_tup R3 (cut_rep (lo := l) (hi := u) hr) hn
        exact hp m3 _ g R' _ rp
    all_goals exact lst _ rv3 hp
theorem me_slice {p2 : Pos} {lo hi : Option Expr} {r : Env → M D} {rl rh : Env → M (Option Int)} (h : ME X W e r) (hl : MO_ X W lo rl) (hh : MO_ X W hi rh) : ME X W (.Subscript e (.Slice lo hi none p2) pos) (eSl r rl rh) := ⟨(pe_slice sl_M h.pe hl.po hh.po).imp fun σ H Q ⟨env, m, mu, hE, hR, hp⟩ =>
  ⟨env, m, mu, hE, hR, (Post.bind hp).mono fun x m1 mu1 H1 g1 R1 hpa v rv => ⟨env, m1, mu1, hE.grow g1, R1, (Post.bind hpa).mono fun l m2 mu2 H2 g2 R2 hpb => ⟨env, m2, mu2, (hE.grow g1).grow g2, R2, (Post.bind hpb).mono fun u m3 mu3 H3 g3 R3 hpc => slice_go R3 (Rep.grow g3 x v (Rep.grow g2 x v rv)) hpc⟩⟩⟩⟩
/-- .. of a list, as a new list -/
def fSl (r : Env → M D) (rl rh : Env → M (Option Int)) : Env → M (List D) := fun env => r env >>= fun x => rl env >>= fun lo => rh env >>= fun hi => rdL x >>= fun xs => pure (cutD xs lo hi)
theorem mf_slice {p2 : Pos} {lo hi : Option Expr} {r : Env → M D} {rl rh : Env → M (Option Int)} (h : ME X W e r) (hl : MO_ X W lo rl) (hh : MO_ X W hi rh) : MF X W (.Subscript e (.Slice lo hi none p2) pos) (fSl r rl rh) := ⟨(pe_slice sl_list h.pe hl.po hh.po).imp fun σ H Q ⟨env, m, mu, hE, hR, hp⟩ =>
  ⟨env, m, mu, hE, hR, (Post.bind hp).mono fun x m1 mu1 H1 g1 R1 hp v rv => ⟨env, m1, mu1, hE.grow g1, R1, (Post.bind hp).mono fun l m2 mu2 H2 g2 R2 hp => ⟨env, m2, mu2, (hE.grow g1).grow g2, R2, (Post.bind hp).mono fun u m3 mu3 H3 g3 R3 hp => by
    obtain ⟨a, xs, vs, rfl, hs, hr, _, hp⟩ := rdL_ok R3 (Rep.grow g3 x v (Rep.grow g2 x v rv)) (Post.bind hp)
    exact ⟨a, vs, rfl, hs, tF_new ((g1.trans g2).trans g3) R3 (cut_rep hr) hp⟩⟩⟩⟩⟩
/-- xs + ys, a new list -/
def fCat (ra rb : Env → M D) : Env → M (List D) := fun env => ra env >>= fun x => rb env >>= fun y => rdM x >>= fun xs => rdM y >>= fun ys => need (xs.length + ys.length ≤ sizeLine) >>= fun _ => pure (xs ++ ys)
theorem mf_cat {ra rb : Env → M D} (ha : ME X W a ra) (hb : ME X W b rb) : MF X W (.BinOp a .Add b pos) (fCat ra rb) := ⟨(pe_op op_cat ha.pe hb.pe).imp fun σ H Q ⟨env, m, mu, hE, hR, hp⟩ =>
  ⟨env, m, mu, hE, hR, (Post.bind hp).mono fun x m1 mu1 H1 g1 R1 hp1 v rv => ⟨env, m1, mu1, hE.grow g1, R1, (Post.bind hp1).mono fun y m2 mu2 H2 g2 R2 hp w rw' => by
    obtain ⟨a, xs, vs, rfl, ha, ra, ea, hp⟩ := rdM_ok R2 (Rep.grow g2 x v rv) (Post.bind hp)
    obtain ⟨b, ys, ws, rfl, hb, rb, eb, hp⟩ := rdM_ok R2 rw' (Post.bind hp)
    obtain ⟨c, hp⟩ := need_ok R2 (Post.bind hp)
    exact ⟨a, b, vs, ws, rfl, rfl, ha, hb, by rw [← ra.length, ← rb.length]; exact c, tF_new (g1.trans g2) R2 (ra.append rb) hp⟩⟩⟩⟩

/-! ### built-ins by their values -/
structure CallM (K : PySem.W.Frag) (W : Wx) (r : List V → Hp → VK → Prop) (g : List D → M D) : Prop where
  go : ∀ (ds : List D) (vs : List V) (m : Mp) (mu : List MO) (H : Hp) (Q : VK), Rel K m mu H → Reps K m H ds vs → Post K W m H (g ds mu) (fun d m' _ H' => ∀ u, Rep K m' H' d u → Q u H') → r vs H Q
theorem tCB_of {r : List V → Hp → VK → Prop} {g : List D → M D} {rs : Env → M (List D)} (c : CallM X.K W r g) : ∀ σ H Q, tE X.K W (aThen g rs) σ H Q → tCB r (tA X.K W rs) σ H Q := fun σ H Q ⟨env, m, mu, hE, hR, hp⟩ =>
  ⟨env, m, mu, hE, hR, (Post.bind hp).mono fun xs m1 mu1 H1 g1 R1 hp vs rv => c.go xs vs m1 mu1 H1 Q R1 rv hp⟩
/-- one argument -/
def g1 (g : D → M D) : List D → M D
  | [x] => g x
  | _ => bad
def g2 (g : D → D → M D) : List D → M D
  | [x, y] => g x y
  | _ => bad
theorem callM1 {r : List V → Hp → VK → Prop} {g : D → M D} {K : PySem.W.Frag} (h : ∀ (x : D) (v : V) (m : Mp) (mu : List MO) (H : Hp) (Q : VK), Rel K m mu H → Rep K m H x v → Post K W m H (g x mu) (fun d m' _ H' => ∀ u, Rep K m' H' d u → Q u H') → r [v] H Q) : CallM K W r (g1 g) := ⟨fun ds vs m mu H Q R hr hp => by
  match ds, hr, hp with
  | [x], hr, hp =>
    obtain ⟨v, r', rfl, h1, h2⟩ := Reps.cons_iff.mp hr
    rw [Reps.nil_iff] at h2
    subst h2
    exact h x v m mu H Q R h1 hp
  | [], _, hp => exact (show False from hp).elim
  | _ :: _ :: _, _, hp => exact (show False from hp).elim⟩
theorem callM2 {r : List V → Hp → VK → Prop} {g : D → D → M D} {K : PySem.W.Frag} (h : ∀ (x y : D) (v w : V) (m : Mp) (mu : List MO) (H : Hp) (Q : VK), Rel K m mu H → Rep K m H x v → Rep K m H y w → Post K W m H (g x y mu) (fun d m' _ H' => ∀ u, Rep K m' H' d u → Q u H') → r [v, w] H Q) : CallM K W r (g2 g) := ⟨fun ds vs m mu H Q R hr hp => by
  match ds, hr, hp with
  | [x, y], hr, hp =>
    obtain ⟨v, r', rfl, h1, h2⟩ := Reps.cons_iff.mp hr
    obtain ⟨w, r2, rfl, h3, h4⟩ := Reps.cons_iff.mp h2
    rw [Reps.nil_iff] at h4
    subst h4
    exact h x y v w m mu H Q R h1 h3 hp
  | [], _, hp => exact (show False from hp).elim
  | [_], _, hp => exact (show False from hp).elim
  | _ :: _ :: _ :: _, _, hp => exact (show False from hp).elim⟩
/-- len -/
def gLen : D → M D
  | .str z => do
    need (z.length ≤ sizeLine)
    pure (.int z.length)
  | .fd ks xs => pure (.int xs.length)
  | .ref n => fun mu => match mu[n]? with
    | some (.lst xs) => .ok (.int xs.length) mu
    | some (.dk kvs) => .ok (.int kvs.length) mu
    | none => .bad
  | x => do
    let xs ← rdQ x
    pure (.int xs.length)
def rLenM (K : PySem.W.Frag) : List V → Hp → VK → Prop := fun xs H Q => (∃ x n, xs = [x] ∧ LenV K x H n ∧ Q (.int n) H) ∨ ∃ a kvs, xs = [V.ref a] ∧ H a = some (.dK kvs) ∧ Q (.int kvs.length) H
theorem call_lenM : CallR X (.builtin "len") (rLenM X.K) := call_len.or call_lenD
theorem callM_len : CallM X.K W (rLenM X.K) (g1 gLen) := callM1 fun x v m mu H Q R hx hp => by
  have seq : ∀ x, Rep X.K m H x v → Post X.K W m H ((do let xs ← rdQ x; pure (D.int xs.length)) mu) (fun d m' _ H' => ∀ u, Rep X.K m' H' d u → Q u H') → rLenM X.K [v] H Q := fun x hx hp => by
    obtain ⟨a, xs, vs, rfl, hs, hr, hp⟩ := rdQ_ok R hx (Post.bind hp)
    refine .inl ⟨_, vs.length, rfl, ?_, ?_⟩
    · rcases hs with hs | hs
      · exact .inl ⟨vs, hs, rfl⟩
      · exact .inr ⟨vs, hs, rfl⟩
    · rw [← hr.length]
      exact Post.pure hp R _ (by simp only [Rep])
  cases x
  case str z =>
    obtain ⟨c, hp⟩ := need_ok R (Post.bind hp)
    simp only [Rep] at hx
    exact .inl ⟨v, z.length, rfl, by rw [hx]; exact ⟨c, rfl⟩, Post.pure hp R _ (by simp only [Rep])⟩
  case fd ks xs =>
    simp only [Rep] at hx
    obtain ⟨a, vs, rfl, hs, _, hl, hr⟩ := hx
    refine .inr ⟨a, _, rfl, hs, ?_⟩
    rw [List.length_zip, ← hr.length, hl, Nat.min_self]
    exact Post.pure hp R _ (by simp only [Rep])
  case ref n =>
    simp only [Rep] at hx
    obtain ⟨a, rfl, hm⟩ := hx
    obtain ⟨o, ho, hr⟩ := R.at' hm
    have e : gLen (.ref n) mu = (match mu[n]? with
      | some (.lst xs) => MP.R.ok (.int xs.length) mu
      | some (.dk kvs) => .ok (.int kvs.length) mu
      | none => .bad) := rfl
    rw [e, ho] at hp
    cases o with
    | lst xs =>
      obtain ⟨vs, hH, hr⟩ := hr
      refine .inl ⟨_, vs.length, rfl, .inl ⟨vs, .of hH, rfl⟩, ?_⟩
      rw [← hr.length]
      exact hp m H .refl R _ (by simp only [Rep])
    | dk kvs =>
      obtain ⟨vs, hH, hr⟩ := hr
      refine .inr ⟨a, _, rfl, hH, ?_⟩
      have := hr.length
      rw [List.length_map] at this
      rw [List.length_zip, List.length_map, ← this, Nat.min_self]
      exact hp m H .refl R _ (by simp only [Rep])
  all_goals exact seq _ hx hp
/-- abs, int -/
def gAbs (x : D) : M D := do
  let i ← toI x
  pure (.int (if i < 0 then -i else i))
theorem callM_abs : CallM X.K W (fun xs H Q => ∃ i, xs = [.int i] ∧ Q (.int (if i < 0 then -i else i)) H) (g1 gAbs) := callM1 fun x v m mu H Q R hx hp => by
  obtain ⟨i, rfl, rfl, hp⟩ := toI_ok R hx (Post.bind hp)
  exact ⟨i, rfl, Post.pure hp R _ (by simp only [Rep])⟩
def gInt : D → M D
  | .bl b => pure (.int (b2n b))
  | x => do
    let i ← toI x
    pure (.int i)
theorem callM_int : CallM X.K W (fun xs H Q => (∃ i, xs = [.int i] ∧ Q (.int i) H) ∨ ∃ k, xs = [.bl k] ∧ Q (.int (if k then 1 else 0)) H) (g1 gInt) := callM1 fun x v m mu H Q R hx hp => by
  have oth : ∀ x, Rep X.K m H x v → Post X.K W m H ((do let i ← toI x; pure (D.int i)) mu) (fun d m' _ H' => ∀ u, Rep X.K m' H' d u → Q u H') → (∃ i, [v] = [V.int i] ∧ Q (.int i) H) := fun x hx hp => by
    obtain ⟨i, rfl, rfl, hp⟩ := toI_ok R hx (Post.bind hp)
    exact ⟨i, rfl, Post.pure hp R _ (by simp only [Rep])⟩
  cases x
  case bl b =>
    simp only [Rep] at hx
    refine .inr ⟨b, by rw [hx], Post.pure hp R _ (by simp only [Rep]; cases b <;> rfl)⟩
  all_goals exact .inl (oth _ hx hp)
/-- tuple(x) of a list or a tuple -/
def gTuple (x : D) : M D := do
  let xs ← rdQ x
  pure (.tup xs)
theorem callM_tuple : CallM X.K W (fun xs H Q => ∃ p ys, xs = [.ref p] ∧ ((SqL X.K H p ys ∧ ∀ l, H l = none → Q (.ref l) (upd H l (.tup ys))) ∨ (SqT X.K H p ys ∧ Q (.ref p) H))) (g1 gTuple) := callM1 fun x v m mu H Q R hx hp => by
  obtain ⟨a, xs, vs, rfl, hs, hr, hp⟩ := rdQ_ok R hx (Post.bind hp)
  refine ⟨a, vs, rfl, ?_⟩
  rcases hs with hs | hs
  · refine .inl ⟨hs, fun p hn => ?_⟩
    obtain ⟨g, R', rp⟩ := new_tup R hr hn
    exact hp m _ g R' _ rp
  · exact .inr ⟨hs, Post.pure hp R _ (by simp only [Rep]; exact ⟨a, vs, rfl, hs, hr⟩)⟩
/-- list(x) -/
def fThen1 (g : D → M (List D)) (rs : Env → M (List D)) : Env → M (List D) := fun env => rs env >>= fun xs => match xs with
  | [x] => g x
  | _ => bad
theorem mf_list1 {rs : Env → M (List D)} {x : Str} (hg : Gl X x) (hm : X.mg x = none) (hv : bootBuiltins x = some (.type "list")) (h : MA X W (e :: es) rs) (hn : x ≠ "__name__" := by decide) (hdb : (x == ("__debug__" : Str)) = false := by decide)
    (he : starEach (e :: es) X.env = (false, eval e X.env) :: starEach es X.env := by rfl) (hpl : (backTo pos (starEach es X.env)).any (·.1) = false := by rfl) : MF X W (.Call (.Name x p) (e :: es) [] pos) (fThen1 rdQ rs) :=
  ⟨(pe_callTy call_list_of hg hm hv h.pa hn hdb he hpl).imp fun σ H Q ⟨env, m, mu, hE, hR, hp⟩ => ⟨env, m, mu, hE, hR, (Post.bind hp).mono fun xs m1 mu1 H1 g1 R1 hp vs rv => by
    match xs, rv, hp with
    | [x], rv, hp =>
      obtain ⟨v, r', rfl, h1, h2⟩ := Reps.cons_iff.mp rv
      rw [Reps.nil_iff] at h2
      subst h2
      have hp2 : Post X.K W m1 H1 ((rdQ x >>= fun ys => pure ys) mu1) fun ds m' mu' H' => NewL X.K H ds m' mu' H' Q := by
        have e : (rdQ x >>= fun ys => pure ys) mu1 = rdQ x mu1 := by rw [M.bind_def]; cases rdQ x mu1 <;> rfl
        rw [e]; exact hp
      obtain ⟨a, ys, vs, rfl, hs, hr, hp⟩ := rdQ_ok R1 h1 (Post.bind hp2)
      exact ⟨a, vs, rfl, hs, tF_new g1 R1 hr hp⟩
    | [], _, hp => exact (show False from hp).elim
    | _ :: _ :: _, _, hp => exact (show False from hp).elim⟩⟩
theorem me_callB {x : Str} {id : String} {r : List V → Hp → VK → Prop} {g : List D → M D} {rs : Env → M (List D)} (hc : CallR X (.builtin id) r) (c : CallM X.K W r g) (hg : Gl X x) (hm : X.mg x = none) (hv : bootBuiltins x = some (.builtin id)) (h : MA X W (e :: es) rs) (hn : x ≠ "__name__" := by decide) (hdb : (x == ("__debug__" : Str)) = false := by decide)
    (he : starEach (e :: es) X.env = (false, eval e X.env) :: starEach es X.env := by rfl) (hpl : (backTo pos (starEach es X.env)).any (·.1) = false := by rfl) : ME X W (.Call (.Name x p) (e :: es) [] pos) (aThen g rs) := ⟨(pe_callB hc hg hm hv h.pa hn hdb he hpl).imp (tCB_of c)⟩
theorem me_callTy {x : Str} {T : String} {r : List V → Hp → VK → Prop} {g : List D → M D} {rs : Env → M (List D)} (hc : CallR X (.type T) r) (c : CallM X.K W r g) (hg : Gl X x) (hm : X.mg x = none) (hv : bootBuiltins x = some (.type T)) (h : MA X W (e :: es) rs) (hn : x ≠ "__name__" := by decide) (hdb : (x == ("__debug__" : Str)) = false := by decide)
    (he : starEach (e :: es) X.env = (false, eval e X.env) :: starEach es X.env := by rfl) (hpl : (backTo pos (starEach es X.env)).any (·.1) = false := by rfl) : ME X W (.Call (.Name x p) (e :: es) [] pos) (aThen g rs) := ⟨(pe_callTy hc hg hm hv h.pa hn hdb he hpl).imp (tCB_of c)⟩
/-- all, any of a list of truth values -/
def toBs : List D → M (List Bool)
  | [] => pure []
  | x :: xs => toB x >>= fun b => toBs xs >>= fun bs => pure (b :: bs)
theorem toBs_ok {K : PySem.W.Frag} {m : Mp} {H : Hp} {mu : List MO} (R : Rel K m mu H) : ∀ {xs : List D} {vs : List V} {Q : List Bool → Mp → List MO → Hp → Prop}, Reps K m H xs vs → Post K W m H (toBs xs mu) Q → ∃ bs, vs = bs.map V.bl ∧ Q bs m mu H
  | [], vs, Q, h, hp => by rw [Reps.nil_iff] at h; subst h; exact ⟨[], rfl, Post.pure hp R⟩
  | x :: xs, vs, Q, h, hp => by
    obtain ⟨v, r, rfl, h1, h2⟩ := Reps.cons_iff.mp h
    obtain ⟨b, rfl, rfl, hp⟩ := toB_ok R h1 (Post.bind hp)
    obtain ⟨bs, rfl, hp⟩ := toBs_ok R h2 (Post.bind hp)
    exact ⟨b :: bs, rfl, Post.pure hp R⟩
def gAll (x : D) : M D := do
  let xs ← rdL x
  let bs ← toBs xs
  pure (.bl (bs.all id))
def gAny (x : D) : M D := do
  let xs ← rdL x
  let bs ← toBs xs
  pure (.bl (bs.any id))
theorem callM_all : CallM X.K W (rAll X.K) (g1 gAll) := callM1 fun x v m mu H Q R hx hp => by
  obtain ⟨a, xs, vs, rfl, hs, hr, _, hp⟩ := rdL_ok R hx (Post.bind hp)
  obtain ⟨bs, rfl, hp⟩ := toBs_ok R hr (Post.bind hp)
  exact ⟨a, bs, rfl, hs, Post.pure hp R _ (by simp only [Rep])⟩
theorem callM_any : CallM X.K W (rAny X.K) (g1 gAny) := callM1 fun x v m mu H Q R hx hp => by
  obtain ⟨a, xs, vs, rfl, hs, hr, _, hp⟩ := rdL_ok R hx (Post.bind hp)
  obtain ⟨bs, rfl, hp⟩ := toBs_ok R hr (Post.bind hp)
  exact ⟨a, bs, rfl, hs, Post.pure hp R _ (by simp only [Rep])⟩
/-- sum, max, min of a list of ints -/
def toIs : List D → M (List Int)
  | [] => pure []
  | x :: xs => toI x >>= fun b => toIs xs >>= fun bs => pure (b :: bs)
theorem toIs_ok {K : PySem.W.Frag} {m : Mp} {H : Hp} {mu : List MO} (R : Rel K m mu H) : ∀ {xs : List D} {vs : List V} {Q : List Int → Mp → List MO → Hp → Prop}, Reps K m H xs vs → Post K W m H (toIs xs mu) Q → ∃ bs, vs = bs.map V.int ∧ Q bs m mu H
  | [], vs, Q, h, hp => by rw [Reps.nil_iff] at h; subst h; exact ⟨[], rfl, Post.pure hp R⟩
  | x :: xs, vs, Q, h, hp => by
    obtain ⟨v, r, rfl, h1, h2⟩ := Reps.cons_iff.mp h
    obtain ⟨b, rfl, rfl, hp⟩ := toI_ok R h1 (Post.bind hp)
    obtain ⟨bs, rfl, hp⟩ := toIs_ok R h2 (Post.bind hp)
    exact ⟨b :: bs, rfl, Post.pure hp R⟩
def gSum (x : D) : M D := do
  let xs ← rdL x
  let bs ← toIs xs
  pure (.int bs.sum)
theorem callM_sum : CallM X.K W (rSum X.K) (g1 gSum) := callM1 fun x v m mu H Q R hx hp => by
  obtain ⟨a, xs, vs, rfl, hs, hr, _, hp⟩ := rdL_ok R hx (Post.bind hp)
  obtain ⟨bs, rfl, hp⟩ := toIs_ok R hr (Post.bind hp)
  exact ⟨a, bs, rfl, hs, Post.pure hp R _ (by simp only [Rep])⟩
/-- max, min of two ints -/
theorem callM_max2 : CallM X.K W (fun xs H Q => ∃ i j, xs = [.int i, .int j] ∧ Q (.int (if j > i then j else i)) H) (g2 (gII cAny fun i j => .int (if j > i then j else i))) := callM2 fun x y v w m mu H Q R hx hy hp => by
  obtain ⟨i, rfl, rfl, hp⟩ := toI_ok R hx (Post.bind hp)
  obtain ⟨j, rfl, rfl, hp⟩ := toI_ok R hy (Post.bind hp)
  obtain ⟨_, hp⟩ := need_ok R (Post.bind hp)
  exact ⟨i, j, rfl, Post.pure hp R _ (by simp only [Rep])⟩
theorem callM_min2 : CallM X.K W (fun xs H Q => ∃ i j, xs = [.int i, .int j] ∧ Q (.int (if j < i then j else i)) H) (g2 (gII cAny fun i j => .int (if j < i then j else i))) := callM2 fun x y v w m mu H Q R hx hy hp => by
  obtain ⟨i, rfl, rfl, hp⟩ := toI_ok R hx (Post.bind hp)
  obtain ⟨j, rfl, rfl, hp⟩ := toI_ok R hy (Post.bind hp)
  obtain ⟨_, hp⟩ := need_ok R (Post.bind hp)
  exact ⟨i, j, rfl, Post.pure hp R _ (by simp only [Rep])⟩
end
end MP
namespace MP
open PySem L2 PyProof.Rows
/-! ### what is walked -/
/-- at each turn the iterator gives the data in their order; g: a list of the small heap that must not change meanwhile -/
def ItOk (K : PySem.W.Frag) (g : List (Nat × List D)) (its : List D) (J : It) (m0 : Mp) (H0 : Hp) : Prop := ∀ (m : Mp) (mu : List MO) (H : Hp), Grow m0 m H0 H → Rel K m mu H → (∀ p ∈ g, mu[p.1]? = some (.lst p.2)) →
  (∀ i, its.length ≤ i → J.stop i H) ∧ ∀ (i : Nat) (d : D), its[i]? = some d → J.go i H ∧ ∀ x H', J.yld i H x H' → Grow m m H H' ∧ Rel K m mu H' ∧ Rep K m H' d x
/-- the items, and the lists of the small heap that are walked -/
abbrev Wk := List D × List (Nat × List D)
def tI (K : PySem.W.Frag) (W : Wx) (r : Env → M Wk) : TI := fun σ H R => ∃ env m mu, RepE K m H env σ ∧ Rel K m mu H ∧ Post K W m H (r env mu) fun p m' _ H' => p.1.length ≤ sizeLine → ∀ J, ItOk K p.2 p.1 J m' H' → R J H'
structure MI (X : Cx) (W : Wx) (tg iter : Expr) (r : Env → M Wk) : Prop where
  pi : PI X tg iter (tI X.K W r)
/-- sizes that hold wherever the abstract heap is held -/
def Sz (K : PySem.W.Frag) (H : Hp) : Prop := (∀ a xs, SqL K H a xs → xs.length ≤ sizeLine) ∧ ∀ a xs, SqT K H a xs → xs.length ≤ sizeLine
section
variable {X : Cx} {W : Wx} {e a b tg iter : Expr} {es : List Expr} {pos p : Pos}
theorem sz_of {pins : List (Addr × Obj)} {σ : L2.St} {H : Hp} {s : Shared} (I : Inv X pins σ H s) : Sz X.K H := ⟨fun a xs h => let ⟨_, _, _, z⟩ := I.list h; z, fun a xs h => let ⟨_, _, _, z⟩ := I.tuple h; z⟩
theorem pi_sz {t : TI} (h : PI X tg iter t) : PI X tg iter (fun σ H R => t σ H fun J H' => Sz X.K H' → R J H') := ⟨fun pins s σ H R I q =>
  thn (h.run pins s σ H _ I q) fun v s1 h1 => thn h1 fun itv s2 ⟨it, fp, tn, J, H', e, I2, T, st, f2, q2⟩ => ⟨it, fp, tn, J, H', e, I2, T, st, f2, q2 (sz_of I2)⟩⟩
theorem pe_sz {t : TE} (h : PE X e t) : PE X e (fun σ H Q => t σ H fun v H' => Sz X.K H' → Q v H') := ⟨fun pins s σ H Q I q =>
  thn (h.run pins s σ H _ I q) fun v s1 ⟨x, H1, I1, r, q1⟩ => ⟨x, H1, I1, r, q1 (sz_of I1)⟩⟩
theorem pi_imp {t t' : TI} (h : PI X tg iter t) (i : ∀ σ H R, t' σ H R → t σ H R) : PI X tg iter t' := ⟨fun pins s σ H R I q => h.run pins s σ H R I (i σ H R q)⟩
theorem pi_or {t t' : TI} (h : PI X tg iter t) (h' : PI X tg iter t') : PI X tg iter (fun σ H R => t σ H R ∨ t' σ H R) := ⟨fun pins s σ H R I q => q.elim (h.run pins s σ H R I) (h'.run pins s σ H R I)⟩
theorem itOk_list {K : PySem.W.Frag} {m0 : Mp} {H0 : Hp} {ds : List D} {vs : List V} {a : Addr} {g : List (Nat × List D)} (hk : ∀ (m : Mp) (mu : List MO) (H : Hp), Grow m0 m H0 H → Rel K m mu H → (∀ p ∈ g, mu[p.1]? = some (.lst p.2)) → ∃ vs, SqL K H a vs ∧ Reps K m H ds vs) : ItOk K g ds (Itl K a) m0 H0 := fun m mu H gr R hg => by
  obtain ⟨vs, hs, hr⟩ := hk m mu H gr R hg
  refine ⟨fun i hi => ⟨vs, hs, by rw [← hr.length]; exact hi⟩, fun i d hd => ?_⟩
  obtain ⟨v, hv, rv⟩ := hr.get hd
  refine ⟨⟨vs, v, hs, hv⟩, fun x H' y => ?_⟩
  obtain ⟨e, y⟩ := y
  subst e
  have e2 := y vs hs
  rw [hv] at e2
  cases e2
  exact ⟨.refl, R, rv⟩
theorem itOk_tup {K : PySem.W.Frag} {m0 : Mp} {H0 : Hp} {ds : List D} {vs : List V} {a : Addr} (hs : SqT K H0 a vs) (hr : Reps K m0 H0 ds vs) : ItOk K [] ds (Itt K a) m0 H0 := fun m mu H gr R hg => by
  have hs' := gr.sqT hs
  have hr' := Reps.grow gr ds vs hr
  refine ⟨fun i hi => ⟨vs, hs', by rw [← hr.length]; exact hi⟩, fun i d hd => ?_⟩
  obtain ⟨v, hv, rv⟩ := hr'.get hd
  refine ⟨⟨vs, v, hs', hv⟩, fun x H' y => ?_⟩
  obtain ⟨e, y⟩ := y
  subst e
  have e2 := y vs hs'
  rw [hv] at e2
  cases e2
  exact ⟨.refl, R, rv⟩
/-- the items of a walked thing -/
def walkD : D → M Wk
  | .tup xs => pure (xs, [])
  | .fl xs => pure (xs, [])
  | .ro xs => pure (xs, [])
  | .ref n => fun mu => match atL mu n with
    | .ok xs mu => .ok (xs, [(n, xs)]) mu
    | _ => .bad
  | .str z => do
    need (z.length ≤ sizeLine)
    pure (z.cps.toList.map fun c => D.str ⟨#[c]⟩, [])
  | _ => bad
def eWalk (r : Env → M D) : Env → M Wk := fun env => r env >>= walkD
theorem mi_seq {r : Env → M D} (h : ME X W iter r) : MI X W tg iter (eWalk r) := ⟨pi_imp (pi_sz (pi_or (pi_list h.pe) (pi_or (pi_tup h.pe) (pi_str h.pe)))) fun σ H Q ⟨env, m, mu, hE, hR, hp⟩ => by
  have e0 : eWalk r env mu = M.bind (r env) walkD mu := rfl
  rw [e0] at hp
  unfold M.bind at hp
  cases hr : r env mu with
  | exc x mu1 => rw [hr] at hp; exact .inl ⟨env, m, mu, hE, hR, by rw [hr]; exact hp⟩
  | bad => rw [hr] at hp; exact hp.elim
  | ok x mu1 =>
    rw [hr] at hp
    cases x
    case tup xs =>
      refine .inr (.inl ⟨env, m, mu, hE, hR, ?_⟩)
      rw [hr]
      intro m' H' g R v rv
      simp only [Rep] at rv
      obtain ⟨a, vs, rfl, hs, hq⟩ := rv
      refine ⟨a, rfl, ⟨vs, hs⟩, fun sz => hp m' H' g R (by show xs.length ≤ _; rw [hq.length]; exact sz.2 a vs hs) _ (itOk_tup hs hq)⟩
    case fl xs =>
      refine .inl ⟨env, m, mu, hE, hR, ?_⟩
      rw [hr]
      intro m' H' g R v rv
      simp only [Rep] at rv
      obtain ⟨a, vs, rfl, hs, hn, hq⟩ := rv
      exact ⟨a, rfl, ⟨vs, .of hs⟩, fun sz => hp m' H' g R (by show xs.length ≤ _; rw [hq.length]; exact sz.1 a vs (.of hs)) _ (itOk_list (vs := vs) (fun m mu H gr R hg => ⟨vs, .of (gr.oth a _ hs hn.1), Reps.grow gr xs vs hq⟩))⟩
    case ro xs =>
      refine .inl ⟨env, m, mu, hE, hR, ?_⟩
      rw [hr]
      intro m' H' g R v rv
      simp only [Rep] at rv
      obtain ⟨a, vs, rfl, hs, hq⟩ := rv
      exact ⟨a, rfl, ⟨vs, hs.sqL⟩, fun sz => hp m' H' g R (by show xs.length ≤ _; rw [hq.length]; exact sz.1 a vs hs.sqL) _ (itOk_list (vs := vs) (fun m mu H gr R hg => ⟨vs, (gr.roAt hs).sqL, Reps.grow gr xs vs hq⟩))⟩
    case ref n =>
      refine .inl ⟨env, m, mu, hE, hR, ?_⟩
      rw [hr]
      intro m' H' g R v rv
      simp only [Rep] at rv
      obtain ⟨a, rfl, hm⟩ := rv
      obtain ⟨o, ho, hro⟩ := R.at' hm
      have e1 : walkD (.ref n) mu1 = match atL mu1 n with
        | .ok xs mu => MP.R.ok (xs, [(n, xs)]) mu
        | _ => .bad := rfl
      have hp : Post X.K W m H (walkD (.ref n) mu1) fun p m' _ H' => p.1.length ≤ sizeLine → ∀ J, ItOk X.K p.2 p.1 J m' H' → Q J H' := hp
      rw [e1] at hp
      cases o with
      | dk kvs => rw [atL_dk ho] at hp; exact (show False from hp).elim
      | lst xs =>
        rw [atL_lst ho] at hp
        obtain ⟨vs, hH, hq⟩ := hro
        refine ⟨a, rfl, ⟨vs, .of hH⟩, fun sz => hp m' H' g R (by show xs.length ≤ _; rw [hq.length]; exact sz.1 a vs (.of hH)) _ (itOk_list (vs := vs) (fun m mu H gr R hg => ?_))⟩
        obtain ⟨ws, h1, h2⟩ := R.obj n _ a (hg (n, xs) (by simp)) (gr.get hm)
        exact ⟨ws, .of h1, h2⟩
    case str z =>
      refine .inr (.inr ⟨env, m, mu, hE, hR, ?_⟩)
      rw [hr]
      intro m' H' g R v rv
      simp only [Rep] at rv
      refine ⟨z, rv, fun sz => ?_⟩
      have hp : Post X.K W m H ((need (z.length ≤ sizeLine) >>= fun _ => (pure (z.cps.toList.map fun c => D.str ⟨#[c]⟩, []) : M Wk)) mu1) fun p m' _ H' => p.1.length ≤ sizeLine → ∀ J, ItOk X.K p.2 p.1 J m' H' → Q J H' := hp
      obtain ⟨hz, hp⟩ := need_ok R (Post.bind (hp.grow g))
      have ok : ItOk X.K [] (z.cps.toList.map fun c => D.str ⟨#[c]⟩) (Its z) m' H' := fun m2 mu2 H2 gr R2 hg => by
        refine ⟨fun i hi => by show z.cps.size ≤ i; simpa using hi, fun i d hd => ?_⟩
        rw [List.getElem?_map] at hd
        obtain ⟨c, hc, ed⟩ := Option.map_eq_some_iff.mp hd
        have hc' : z.cps[i]? = some c := by simpa using hc
        refine ⟨by show i < z.cps.size; exact (Array.getElem?_eq_some_iff.mp hc').1, fun x H' y => ?_⟩
        obtain ⟨e1, c2, h2, e2⟩ := y
        rw [hc'] at h2
        cases h2
        subst e1 e2 ed
        exact ⟨.refl, R2, by simp only [Rep]⟩
      exact Post.pure hp R (by show (z.cps.toList.map _).length ≤ _; rw [List.length_map, Array.length_toList]; exact hz) _ ok
    all_goals exact (show False from hp).elim⟩
/-- range(n), range(a, b) -/
def rngD (lo : Int) (n : Nat) : List D := (List.range n).map fun (i : Nat) => D.int (lo + (i : Int))
theorem itOk_range {K : PySem.W.Frag} {lo : Int} {n : Nat} {m0 : Mp} {H0 : Hp} : ItOk K [] (rngD lo n) (Itr lo n) m0 H0 := fun m mu H gr R hg => by
  refine ⟨fun i hi => by show n ≤ i; unfold rngD at hi; simpa using hi, fun i d hd => ?_⟩
  unfold rngD at hd
  rw [List.getElem?_map] at hd
  obtain ⟨c, hc, ed⟩ := Option.map_eq_some_iff.mp hd
  obtain ⟨hi, ei⟩ := List.getElem?_eq_some_iff.mp hc
  rw [List.getElem_range] at ei
  subst ei ed
  rw [List.length_range] at hi
  refine ⟨hi, fun x H' y => ?_⟩
  obtain ⟨e1, e2⟩ := y
  subst e1 e2
  exact ⟨.refl, R, by simp only [Rep]⟩
def wRng1 : List D → M Wk
  | [x] => do
    let n ← toI x
    need (-16777216 ≤ n ∧ n ≤ 16777216)
    pure (rngD 0 n.toNat, [])
  | _ => bad
def wRng2 : List D → M Wk
  | [x, y] => do
    let lo ← toI x
    let hi ← toI y
    need (-16777216 ≤ lo ∧ lo ≤ 16777216 ∧ -16777216 ≤ hi ∧ hi ≤ 16777216 ∧ hi - lo ≤ 16777216)
    pure (rngD lo (hi - lo).toNat, [])
  | _ => bad
def wThen (g : List D → M Wk) (rs : Env → M (List D)) : Env → M Wk := fun env => rs env >>= g
theorem rep1 {K : PySem.W.Frag} {m : Mp} {H : Hp} {x : D} {vs : List V} (h : Reps K m H [x] vs) : ∃ v, vs = [v] ∧ Rep K m H x v := by
  obtain ⟨v, r', rfl, h1, h2⟩ := Reps.cons_iff.mp h
  rw [Reps.nil_iff] at h2
  subst h2
  exact ⟨v, rfl, h1⟩
theorem rep2 {K : PySem.W.Frag} {m : Mp} {H : Hp} {x y : D} {vs : List V} (h : Reps K m H [x, y] vs) : ∃ v w, vs = [v, w] ∧ Rep K m H x v ∧ Rep K m H y w := by
  obtain ⟨v, r', rfl, h1, h2⟩ := Reps.cons_iff.mp h
  obtain ⟨w, rfl, h3⟩ := rep1 h2
  exact ⟨v, w, rfl, h1, h3⟩
theorem rngD_len (lo : Int) (n : Nat) : (rngD lo n).length = n := by unfold rngD; rw [List.length_map, List.length_range]
theorem mi_range1 {rs : Env → M (List D)} (hg : Gl X "range") (hm : X.mg "range" = none) (h : MA X W [a] rs) (hs : starEach [a] X.env = [(false, eval a X.env)] := by rfl) : MI X W tg (.Call (.Name "range" p) [a] [] pos) (wThen wRng1 rs) :=
  ⟨pi_imp (pi_range1 hg hm h.pa hs) fun σ H Q ⟨env, m, mu, hE, hR, hp⟩ => ⟨env, m, mu, hE, hR, (Post.bind hp).mono fun xs m1 mu1 H1 g1 R1 hp vs rv => by
    match xs, rv, hp with
    | [x], rv, hp =>
      obtain ⟨v, rfl, h1⟩ := rep1 rv
      obtain ⟨n, rfl, rfl, hp⟩ := toI_ok R1 h1 (Post.bind hp)
      obtain ⟨hc, hp⟩ := need_ok R1 (Post.bind hp)
      exact ⟨n, rfl, by omega, by omega, Post.pure hp R1 (by show (rngD 0 n.toNat).length ≤ _; rw [rngD_len, sizeLine_eq]; omega) _ itOk_range⟩
    | [], _, hp => exact (show False from hp).elim
    | _ :: _ :: _, _, hp => exact (show False from hp).elim⟩⟩
theorem mi_range2 {rs : Env → M (List D)} (hg : Gl X "range") (hm : X.mg "range" = none) (h : MA X W [a, b] rs) (hs : starEach [a, b] X.env = [(false, eval a X.env), (false, eval b X.env)] := by rfl) (hs2 : starEach [b] X.env = [(false, eval b X.env)] := by rfl) :
    MI X W tg (.Call (.Name "range" p) [a, b] [] pos) (wThen wRng2 rs) :=
  ⟨pi_imp (pi_range2 hg hm h.pa hs hs2) fun σ H Q ⟨env, m, mu, hE, hR, hp⟩ => ⟨env, m, mu, hE, hR, (Post.bind hp).mono fun xs m1 mu1 H1 g1 R1 hp vs rv => by
    match xs, rv, hp with
    | [x, y], rv, hp =>
      obtain ⟨v, w, rfl, h1, h2⟩ := rep2 rv
      obtain ⟨n, rfl, rfl, hp⟩ := toI_ok R1 h1 (Post.bind hp)
      obtain ⟨k, rfl, rfl, hp⟩ := toI_ok R1 h2 (Post.bind hp)
      obtain ⟨hc, hp⟩ := need_ok R1 (Post.bind hp)
      exact ⟨n, k, rfl, ⟨by omega, by omega, by omega, by omega⟩, Post.pure hp R1 (by show (rngD n (k - n).toNat).length ≤ _; rw [rngD_len, sizeLine_eq]; omega) _ itOk_range⟩
    | [], _, hp => exact (show False from hp).elim
    | [_], _, hp => exact (show False from hp).elim
    | _ :: _ :: _ :: _, _, hp => exact (show False from hp).elim⟩⟩
/-- enumerate(xs) -/
def enumD : Int → List D → List D
  | _, [] => []
  | k, d :: ds => .tup [.int k, d] :: enumD (k + 1) ds
theorem enumD_get : ∀ (ds : List D) (k : Int) (i : Nat), (enumD k ds)[i]? = (ds[i]?).map fun d => .tup [.int (k + (i : Int)), d]
  | [], _, _ => by simp [enumD]
  | d :: ds, k, 0 => by simp [enumD]
  | d :: ds, k, i + 1 => by
    simp only [enumD, List.getElem?_cons_succ]
    rw [enumD_get ds (k + 1) i]
    have e : k + 1 + (i : Int) = k + ((i + 1 : Nat) : Int) := by omega
    rw [e]
theorem enumD_len : ∀ (ds : List D) (k : Int), (enumD k ds).length = ds.length
  | [], _ => rfl
  | d :: ds, k => by simp only [enumD, List.length_cons]; rw [enumD_len ds]
/-- a list that is walked, at its address -/
def LsAt (K : PySem.W.Frag) (g : List (Nat × List D)) (ds : List D) (a : Addr) (m0 : Mp) (H0 : Hp) : Prop := ∀ (m : Mp) (mu : List MO) (H : Hp), Grow m0 m H0 H → Rel K m mu H → (∀ p ∈ g, mu[p.1]? = some (.lst p.2)) → ∃ vs, SqL K H a vs ∧ Reps K m H ds vs
/-- a list, and how it is held still -/
def rdW : D → M Wk
  | .fl xs => pure (xs, [])
  | .ro xs => pure (xs, [])
  | .ref n => fun mu => match atL mu n with
    | .ok xs mu => .ok (xs, [(n, xs)]) mu
    | _ => .bad
  | _ => bad
theorem rdW_ok {K : PySem.W.Frag} {W : Wx} {m : Mp} {H : Hp} {mu : List MO} {d : D} {v : V} {Q : Wk → Mp → List MO → Hp → Prop} (R : Rel K m mu H) (h : Rep K m H d v) (hp : Post K W m H (rdW d mu) Q) : ∃ a xs g vs, v = .ref a ∧ SqL K H a vs ∧ Reps K m H xs vs ∧ LsAt K g xs a m H ∧ Q (xs, g) m mu H := by
  cases d <;> simp only [Rep] at h
  case fl ds =>
    obtain ⟨a, vs, rfl, hs, hn, hr⟩ := h
    exact ⟨a, ds, [], vs, rfl, .of hs, hr, fun m2 mu2 H2 gr R2 _ => ⟨vs, .of (gr.oth a _ hs hn.1), Reps.grow gr ds vs hr⟩, hp m H .refl R⟩
  case ro ds =>
    obtain ⟨a, vs, rfl, hs, hr⟩ := h
    exact ⟨a, ds, [], vs, rfl, hs.sqL, hr, fun m2 mu2 H2 gr R2 _ => ⟨vs, (gr.roAt hs).sqL, Reps.grow gr ds vs hr⟩, hp m H .refl R⟩
  case ref n =>
    obtain ⟨a, rfl, hm⟩ := h
    obtain ⟨o, ho, hro⟩ := R.at' hm
    have e1 : rdW (.ref n) mu = match atL mu n with
      | .ok xs mu => MP.R.ok (xs, [(n, xs)]) mu
      | _ => .bad := rfl
    rw [e1] at hp
    cases o with
    | dk kvs => rw [atL_dk ho] at hp; exact (show False from hp).elim
    | lst xs =>
      rw [atL_lst ho] at hp
      obtain ⟨vs, hH, hq⟩ := hro
      refine ⟨a, xs, [(n, xs)], vs, rfl, .of hH, hq, fun m2 mu2 H2 gr R2 hg => ?_, hp m H .refl R⟩
      obtain ⟨ws, h1, h2⟩ := R2.obj n _ a (hg (n, xs) (by simp)) (gr.get hm)
      exact ⟨ws, .of h1, h2⟩
  all_goals exact (show False from hp).elim
theorem pairT {K : PySem.W.Frag} {m : Mp} {mu : List MO} {H : Hp} {x y : D} {v w : V} {T : Addr} (R : Rel K m mu H) (h1 : Rep K m H x v) (h2 : Rep K m H y w) (hn : H T = none) : Grow m m H (upd H T (.tup [v, w])) ∧ Rel K m mu (upd H T (.tup [v, w])) ∧ Rep K m (upd H T (.tup [v, w])) (.tup [x, y]) (.ref T) :=
  new_tup R (Reps.cons_iff.mpr ⟨v, [w], rfl, h1, Reps.one h2⟩) hn
theorem itOk_enum {K : PySem.W.Frag} {m0 : Mp} {H0 : Hp} {ds : List D} {a : Addr} {g : List (Nat × List D)} (hk : LsAt K g ds a m0 H0) : ItOk K g (enumD 0 ds) (Ite K a) m0 H0 := fun m mu H gr R hg => by
  obtain ⟨vs, hs, hr⟩ := hk m mu H gr R hg
  refine ⟨fun i hi => ⟨vs, hs, by rw [← hr.length, ← enumD_len ds 0]; exact hi⟩, fun i d hd => ?_⟩
  rw [enumD_get] at hd
  obtain ⟨x, hx, ed⟩ := Option.map_eq_some_iff.mp hd
  obtain ⟨v, hv, rv⟩ := hr.get hx
  refine ⟨⟨vs, v, hs, hv⟩, fun y H' yy => ?_⟩
  obtain ⟨T, z, rfl, hn, rfl, u⟩ := yy
  have e2 := u vs hs
  rw [hv] at e2
  cases e2
  subst ed
  rw [Int.zero_add]
  exact pairT R (by simp only [Rep]) rv hn
def wEnum : List D → M Wk
  | [x] => do
    let p ← rdW x
    pure (enumD 0 p.1, p.2)
  | _ => bad
theorem mi_enum {elts : List Expr} {kk : Nat} {tpos : Pos} {rs : Env → M (List D)} (hg : Gl X "enumerate") (hm : X.mg "enumerate" = none) (h : MA X W [a] rs) (hs : starEach [a] X.env = [(false, eval a X.env)] := by rfl) : MI X W (.Tuple elts kk tpos) (.Call (.Name "enumerate" p) [a] [] pos) (wThen wEnum rs) :=
  ⟨pi_imp (pi_sz (pi_enum hg hm h.pa hs)) fun σ H Q ⟨env, m, mu, hE, hR, hp⟩ => ⟨env, m, mu, hE, hR, (Post.bind hp).mono fun xs m1 mu1 H1 g1 R1 hp vs rv => by
    match xs, rv, hp with
    | [x], rv, hp =>
      obtain ⟨v, rfl, h1⟩ := rep1 rv
      obtain ⟨a, ds, g, vs, rfl, hs, hr, hk, hp⟩ := rdW_ok R1 h1 (Post.bind hp)
      exact ⟨a, vs, rfl, hs, fun sz => Post.pure hp R1 (by show (enumD 0 ds).length ≤ _; rw [enumD_len, hr.length]; exact sz.1 a vs hs) _ (itOk_enum hk)⟩
    | [], _, hp => exact (show False from hp).elim
    | _ :: _ :: _, _, hp => exact (show False from hp).elim⟩⟩
/-- zip(xs, ys): two lists, or two tuples -/
def zipD (xs ys : List D) : List D := List.zipWith (fun x y => .tup [x, y]) xs ys
theorem zipD_len (xs ys : List D) : (zipD xs ys).length = min xs.length ys.length := by unfold zipD; rw [List.length_zipWith]
theorem zipD_get {xs ys : List D} {i : Nat} {d : D} (h : (zipD xs ys)[i]? = some d) : ∃ x y, xs[i]? = some x ∧ ys[i]? = some y ∧ d = .tup [x, y] := by
  unfold zipD at h
  rw [List.getElem?_zipWith] at h
  cases ex : xs[i]? with
  | none => rw [ex] at h; simp at h
  | some x =>
    cases ey : ys[i]? with
    | none => rw [ex, ey] at h; simp at h
    | some y => rw [ex, ey] at h; simp at h; exact ⟨x, y, rfl, rfl, h.symm⟩
theorem itOk_zip {K : PySem.W.Frag} {m0 : Mp} {H0 : Hp} {ds es : List D} {a b : Addr} {g g' : List (Nat × List D)} (hk : LsAt K g ds a m0 H0) (hk' : LsAt K g' es b m0 H0) : ItOk K (g ++ g') (zipD ds es) (Itz K a b) m0 H0 := fun m mu H gr R hg => by
  obtain ⟨vs, hs, hr⟩ := hk m mu H gr R fun p hp => hg p (List.mem_append_left _ hp)
  obtain ⟨ws, hs', hr'⟩ := hk' m mu H gr R fun p hp => hg p (List.mem_append_right _ hp)
  refine ⟨fun i hi => ⟨vs, ws, hs, hs', by rw [← hr.length, ← hr'.length]; rw [zipD_len] at hi; omega⟩, fun i d hd => ?_⟩
  obtain ⟨x, y, hx, hy, rfl⟩ := zipD_get hd
  obtain ⟨v, hv, rv⟩ := hr.get hx
  obtain ⟨w, hw, rw'⟩ := hr'.get hy
  refine ⟨⟨vs, ws, v, w, hs, hs', hv, hw⟩, fun z H' yy => ?_⟩
  obtain ⟨T, x2, y2, rfl, hn, rfl, u, u'⟩ := yy
  have e2 := u vs hs
  rw [hv] at e2
  cases e2
  have e3 := u' ws hs'
  rw [hw] at e3
  cases e3
  exact pairT R rv rw' hn
theorem itOk_zipT {K : PySem.W.Frag} {m0 : Mp} {H0 : Hp} {ds es : List D} {vs ws : List V} {a b : Addr} (hs0 : SqT K H0 a vs) (hr0 : Reps K m0 H0 ds vs) (hs0' : SqT K H0 b ws) (hr0' : Reps K m0 H0 es ws) : ItOk K [] (zipD ds es) (RZ.ItzT K a b) m0 H0 := fun m mu H gr R hg => by
  have hs := gr.sqT hs0
  have hr := Reps.grow gr _ _ hr0
  have hs' := gr.sqT hs0'
  have hr' := Reps.grow gr _ _ hr0'
  refine ⟨fun i hi => ⟨vs, ws, hs, hs', by rw [← hr.length, ← hr'.length]; rw [zipD_len] at hi; omega⟩, fun i d hd => ?_⟩
  obtain ⟨x, y, hx, hy, rfl⟩ := zipD_get hd
  obtain ⟨v, hv, rv⟩ := hr.get hx
  obtain ⟨w, hw, rw'⟩ := hr'.get hy
  refine ⟨⟨vs, ws, v, w, hs, hs', hv, hw⟩, fun z H' yy => ?_⟩
  obtain ⟨T, x2, y2, rfl, hn, rfl, u, u'⟩ := yy
  have e2 := u vs hs
  rw [hv] at e2
  cases e2
  have e3 := u' ws hs'
  rw [hw] at e3
  cases e3
  exact pairT R rv rw' hn
def zip2 : D → D → M Wk
  | .tup xs, y => do
    let ys ← toT y
    pure (zipD xs ys, [])
  | x, y => do
    let p ← rdW x
    let q ← rdW y
    pure (zipD p.1 q.1, p.2 ++ q.2)
def wZip : List D → M Wk
  | [x, y] => zip2 x y
  | _ => bad
theorem mi_zip {elts : List Expr} {kk : Nat} {tpos : Pos} {rs : Env → M (List D)} (hg : Gl X "zip") (hm : X.mg "zip" = none) (h : MA X W [a, b] rs) (hs : starEach [a, b] X.env = (false, eval a X.env) :: starEach [b] X.env := by rfl) (hpl : (backTo pos (starEach [b] X.env)).any (·.1) = false := by rfl) :
    MI X W (.Tuple elts kk tpos) (.Call (.Name "zip" p) [a, b] [] pos) (wThen wZip rs) :=
  ⟨pi_imp (pi_sz (RZ.pi_zipA hg hm h.pa hs hpl)) fun σ H Q ⟨env, m, mu, hE, hR, hp⟩ => ⟨env, m, mu, hE, hR, (Post.bind hp).mono fun xs m1 mu1 H1 g1 R1 hp vs rv => by
    match xs, rv, hp with
    | [x, y], rv, hp =>
      obtain ⟨v, w, rfl, h1, h2⟩ := rep2 rv
      have lst : ∀ x, Rep X.K m1 H1 x v → Post X.K W m1 H1 ((do let p ← rdW x; let q ← rdW y; pure (zipD p.1 q.1, p.2 ++ q.2)) mu1) (fun (p : Wk) m' _ H' => p.1.length ≤ sizeLine → ∀ J, ItOk X.K p.2 p.1 J m' H' → Q J H') → ∃ a b xs ys, [v, w] = [V.ref a, V.ref b] ∧ ((SqL X.K H1 a xs ∧ SqL X.K H1 b ys ∧ (Sz X.K H1 → Q (Itz X.K a b) H1)) ∨ (SqT X.K H1 a xs ∧ SqT X.K H1 b ys ∧ (Sz X.K H1 → Q (RZ.ItzT X.K a b) H1))) := fun x h1 hp => by
        obtain ⟨a, ds, g, vs, rfl, hs, hr, hk, hp⟩ := rdW_ok R1 h1 (Post.bind hp)
        obtain ⟨b, es, g', ws, rfl, hs', hr', hk', hp⟩ := rdW_ok R1 h2 (Post.bind hp)
        exact ⟨a, b, vs, ws, rfl, .inl ⟨hs, hs', fun sz => Post.pure hp R1 (by show (zipD ds es).length ≤ _; have := sz.1 a vs hs; rw [zipD_len, hr.length]; omega) _ (itOk_zip hk hk')⟩⟩
      cases x
      case tup xs =>
        obtain ⟨ys, b, ws, rfl, rfl, hs', hr', hp⟩ := toT_ok R1 h2 (Post.bind hp)
        simp only [Rep] at h1
        obtain ⟨a, vs, rfl, hs, hr⟩ := h1
        exact ⟨a, b, vs, ws, rfl, .inr ⟨hs, hs', fun sz => Post.pure hp R1 (by show (zipD xs ys).length ≤ _; have := sz.2 a vs hs; rw [zipD_len, hr.length]; omega) _ (itOk_zipT hs hr hs' hr')⟩⟩
      all_goals exact lst _ h1 hp
    | [], _, hp => exact (show False from hp).elim
    | [_], _, hp => exact (show False from hp).elim
    | _ :: _ :: _ :: _, _, hp => exact (show False from hp).elim⟩⟩
end
end MP
namespace MP
open PySem L2 PyProof.Rows
/-! ### targets -/
/-- the slots outside of l are as they were -/
def Off (l : List Nat) (σ' σ : L2.St) : Prop := σ'.length = σ.length ∧ ∀ i, i ∉ l → σ'[i]? = σ[i]?
def tG (K : PySem.W.Frag) (W : Wx) (l : List Nat) (asg : D → Env → M Env) : TG := fun v σ H Q => ∃ d env m mu, RepE K m H env σ ∧ Rel K m mu H ∧ Rep K m H d v ∧ Post K W m H (asg d env mu) fun env' m' _ H' => ∀ σ', RepE K m' H' env' σ' → Off l σ' σ → Q σ' H'
def tGs (K : PySem.W.Frag) (W : Wx) (l : List Nat) (asg : List D → Env → M Env) : TGs := fun vs σ H Q => ∃ ds env m mu, RepE K m H env σ ∧ Rel K m mu H ∧ Reps K m H ds vs ∧ Post K W m H (asg ds env mu) fun env' m' _ H' => ∀ σ', RepE K m' H' env' σ' → Off l σ' σ → Q σ' H'
structure MG (X : Cx) (W : Wx) (tg : Expr) (l : List Nat) (asg : D → Env → M Env) : Prop where
  pg : PG X tg (tG X.K W l asg)
structure MGs (X : Cx) (W : Wx) (tg : List Expr) (l : List Nat) (asg : List D → Env → M Env) : Prop where
  pg : PGs X tg (tGs X.K W l asg)
section
variable {X : Cx} {W : Wx} {e a b tg iter : Expr} {es : List Expr} {pos p : Pos}
theorem Off.refl {l : List Nat} {σ : L2.St} : Off l σ σ := ⟨rfl, fun _ _ => rfl⟩
theorem Off.trans {l l' : List Nat} {σ σ1 σ2 : L2.St} (h : Off l σ1 σ) (h' : Off l' σ2 σ1) : Off (l ++ l') σ2 σ := ⟨h'.1.trans h.1, fun i hi => by
  rw [List.mem_append, not_or] at hi
  rw [h'.2 i hi.2, h.2 i hi.1]⟩
theorem _root_.L2.PG.imp {t t' : TG} (h : PG X tg t) (i : ∀ v σ H Q, t' v σ H Q → t v σ H Q) : PG X tg t' := ⟨fun pins s σ H v u Q I r q => h.run pins s σ H v u Q I r (i v σ H Q q)⟩
theorem _root_.L2.PGs.imp {ts : List Expr} {t t' : TGs} (h : PGs X ts t) (i : ∀ v σ H Q, t' v σ H Q → t v σ H Q) : PGs X ts t' := ⟨fun pins s σ H v u Q I r q => h.run pins s σ H v u Q I r (i v σ H Q q)⟩
def asgN (i : Nat) : D → Env → M Env := fun d env => pure (env.set i (some d))
theorem mg_of {i : Nat} (h : PG X tg (gName i)) : MG X W tg [i] (asgN i) := ⟨h.imp fun v σ H Q ⟨d, env, m, mu, hE, hR, hd, hp⟩ =>
  Post.pure hp hR _ (hE.set hd) ⟨by rw [List.length_set], fun j hj => by rw [List.getElem?_set_ne (fun z => hj (by rw [z]; exact List.mem_singleton.mpr rfl))]⟩⟩
def asgNil : List D → Env → M Env := fun ds env => match ds with
  | [] => pure env
  | _ => bad
def asgCons (f : D → Env → M Env) (g : List D → Env → M Env) : List D → Env → M Env := fun ds env => match ds with
  | d :: ds => f d env >>= fun env' => g ds env'
  | [] => bad
theorem mgs_nil : MGs X W [] [] asgNil := ⟨pgs_nil.imp fun vs σ H Q ⟨ds, env, m, mu, hE, hR, hd, hp⟩ => by
  match ds, hd, hp with
  | [], hd, hp =>
    rw [Reps.nil_iff] at hd
    exact ⟨hd, Post.pure hp hR _ hE .refl⟩
  | _ :: _, _, hp => exact (show False from hp).elim⟩
theorem mgs_cons {l l' : List Nat} {f : D → Env → M Env} {g : List D → Env → M Env} (h : MG X W e l f) (h' : MGs X W es l' g) (hs : (assignEach (e :: es) X.env).map (·.2) = assign e X.env :: (assignEach es X.env).map (·.2) := by rfl) : MGs X W (e :: es) (l ++ l') (asgCons f g) :=
  ⟨(pgs_cons h.pg h'.pg hs).imp fun vs σ H Q ⟨ds, env, m, mu, hE, hR, hd, hp⟩ => by
    match ds, hd, hp with
    | [], _, hp => exact (show False from hp).elim
    | d :: ds, hd, hp =>
      obtain ⟨v, r, rfl, h1, h2⟩ := Reps.cons_iff.mp hd
      exact ⟨v, r, rfl, d, env, m, mu, hE, hR, h1, (Post.bind hp).mono fun env1 m1 mu1 H1 g1 R1 hp σ1 hE1 o1 =>
        ⟨ds, env1, m1, mu1, hE1, R1, Reps.grow g1 ds r h2, hp.mono fun env2 m2 mu2 H2 g2 R2 hq σ2 hE2 o2 => hq σ2 hE2 (o1.trans o2)⟩⟩⟩
def asgT (n : Nat) (g : List D → Env → M Env) : D → Env → M Env := fun d env => toT d >>= fun xs => need (xs.length = n) >>= fun _ => g xs env
theorem mg_tup {k : Nat} {l : List Nat} {g : List D → Env → M Env} {n : Nat} (hc : X.calm = true) (h : MGs X W es l g) (hn : (assignEach es X.env).length = n := by rfl) (hst : (assignEach es X.env).findIdx? (·.1) = none := by rfl) : MG X W (.Tuple es k pos) l (asgT n g) :=
  ⟨(pg_tup hc h.pg hn hst).imp fun v σ H Q ⟨d, env, m, mu, hE, hR, hd, hp⟩ => by
    obtain ⟨xs, a, vs, rfl, rfl, hs, hr, hp⟩ := toT_ok hR hd (Post.bind hp)
    obtain ⟨c, hp⟩ := need_ok hR (Post.bind hp)
    exact ⟨a, vs, rfl, hs, by rw [← hr.length]; exact c, xs, env, m, mu, hE, hR, hr, hp⟩⟩
theorem mg_par {l : List Nat} {g : D → Env → M Env} (h : MG X W tg l g) : MG X W tg l g := h

/-! ### loops -/
open Classical in
/-- the walked lists stand as they stood -/
noncomputable def chk (g : List (Nat × List D)) : M Unit := fun mu => if ∀ p ∈ g, mu[p.1]? = some (.lst p.2) then .ok () mu else .bad
theorem chk_ok {K : PySem.W.Frag} {m : Mp} {H : Hp} {mu : List MO} {g : List (Nat × List D)} {Q : Unit → Mp → List MO → Hp → Prop} (R : Rel K m mu H) (hp : Post K W m H (chk g mu) Q) : (∀ p ∈ g, mu[p.1]? = some (.lst p.2)) ∧ Q () m mu H := by
  unfold chk at hp
  split at hp
  · rename_i h
    exact ⟨h, hp m H .refl R⟩
  · exact (show False from hp).elim
/-- for: over the items; fg: the slots that are forgotten ahead of each turn and behind the loop -/
noncomputable def loopF (asg : D → Env → M Env) (body : Env → M Fl) (fg : List Nat) (g : List (Nat × List D)) : List D → Env → M Fl
  | [], env => chk g >>= fun _ => pure (.nx (wipeE env fg))
  | d :: ds, env => chk g >>= fun _ => asg d (wipeE env fg) >>= fun env1 => body env1 >>= fun fl => match fl with
    | .nx e => loopF asg body fg g ds e
    | .ct e => loopF asg body fg g ds e
    | .bk e => pure (.nx (wipeE e fg))
    | .rt rv => pure (.rt rv)
noncomputable def sFor (r : Env → M Wk) (asg : D → Env → M Env) (body : Env → M Fl) (fg : List Nat) : Env → M Fl := fun env => r env >>= fun p => loopF asg body fg p.2 p.1 env
theorem FlQ.from {K : PySem.W.Frag} {D : Ends} {m m1 m' : Mp} {H H1 H' : Hp} {mu' : List MO} {fl : Fl} (h : FlQ K D H fl m' mu' H') (g : Grow m m1 H H1) : FlQ K D H1 fl m' mu' H' := by
  cases fl with
  | rt rv => exact RvQ.from h g
  | nx e => exact h
  | bk e => exact h
  | ct e => exact h
theorem ms_for {fg l : List Nat} {r : Env → M Wk} {asg : D → Env → M Env} {body : List Stmt} {rb : Env → M Fl} (hp : PassesOwn (model X.prog X.w) X.A X.env X.xe) (hc : X.calm = true) (hi : MI X W tg iter r) (hg : MG X W tg l asg) (hb : MSs X W body rb)
    (hs : ∀ x, foldedSetIterable iter X.env x = pure x := by intro _; rfl) : MS X W (.For tg iter body [] pos) (sFor r asg rb fg) := ⟨(ps_for hp hc hi.pi hg.pg hb.ps hs).imp fun D σ H ⟨env, m, mu, hE, hR, hp⟩ =>
  ⟨env, m, mu, hE, hR, (Post.bind hp).mono fun p m1 mu1 H1 g1 R1 hp _ J ok => by
    refine ⟨fun i k σ2 H2 => ∃ rest env2 m2 mu2, k = rest.length ∧ p.1.drop i = rest ∧ RepE X.K m2 H2 env2 σ2 ∧ Rel X.K m2 mu2 H2 ∧ Grow m1 m2 H1 H2 ∧ Post X.K W m2 H2 (loopF asg rb fg p.2 rest env2 mu2) fun fl m' mu' H' => FlQ X.K D H fl m' mu' H', ⟨_, p.1, env, m1, mu1, rfl, rfl, hE.grow g1, R1, .refl, hp⟩, ?_⟩
    rintro i k σ2 H2 ⟨rest, env2, m2, mu2, rfl, hd, hE2, R2, g2, hp2⟩
    cases rest with
    | nil =>
      obtain ⟨hch, hp2⟩ := chk_ok R2 (Post.bind hp2)
      have q := Post.pure hp2 R2
      refine .inl ⟨((ok m2 mu2 H2 g2 R2 hch).1 i) (by rw [List.drop_eq_nil_iff] at hd; exact hd), q σ2 (hE2.wipeL fg)⟩
    | cons d ds =>
      obtain ⟨hch, hp2⟩ := chk_ok R2 (Post.bind hp2)
      have hdi : p.1[i]? = some d := by
        have e : (p.1.drop i)[0]? = some d := by rw [hd]; rfl
        rw [List.getElem?_drop] at e
        simpa using e
      have hds : p.1.drop (i + 1) = ds := by
        have e := congrArg List.tail hd
        rw [List.tail_drop] at e
        exact e
      obtain ⟨go, yl⟩ := (ok m2 mu2 H2 g2 R2 hch).2 i d hdi
      refine .inr ⟨go, fun σ3 H3 => ∃ env3 m3 mu3, RepE X.K m3 H3 env3 σ3 ∧ Rel X.K m3 mu3 H3 ∧ Grow m1 m3 H1 H3 ∧ Post X.K W m3 H3 (loopF asg rb fg p.2 ds env3 mu3) fun fl m' mu' H' => FlQ X.K D H fl m' mu' H',
        fun σ3 H3 ⟨env3, m3, mu3, hE3, R3, g3, hp3⟩ => ⟨ds.length, Nat.lt_succ_self _, ds, env3, m3, mu3, rfl, hds, hE3, R3, g3, hp3⟩, fun x H3 y => ?_⟩
      obtain ⟨gy, Ry, rx⟩ := yl x H3 y
      refine ⟨d, wipeE env2 fg, m2, mu2, (hE2.grow gy).wipeL fg, Ry, rx, (Post.bind (hp2.grow gy)).mono fun env4 m4 mu4 H4 g4 R4 hp4 σ4 hE4 _ => ⟨env4, m4, mu4, hE4, R4, ?_⟩⟩
      have e0 : (rb env4 >>= fun fl => match fl with
        | .nx e => loopF asg rb fg p.2 ds e
        | .ct e => loopF asg rb fg p.2 ds e
        | .bk e => pure (.nx (wipeE e fg))
        | .rt rv => pure (.rt rv)) mu4 = M.bind (rb env4) _ mu4 := rfl
      rw [e0] at hp4
      unfold M.bind at hp4
      cases hr : rb env4 mu4 with
      | bad => rw [hr] at hp4; exact hp4
      | exc x mu5 => rw [hr] at hp4; exact hp4
      | ok fl mu5 =>
        rw [hr] at hp4
        intro m5 H5 g5 R5
        cases fl with
        | nx e => exact fun σ5 hE5 => ⟨e, m5, mu5, hE5, R5, (((g2.trans gy).trans g4).trans g5), hp4.grow g5⟩
        | ct e => exact fun σ5 hE5 => ⟨e, m5, mu5, hE5, R5, (((g2.trans gy).trans g4).trans g5), hp4.grow g5⟩
        | bk e => exact fun σ5 hE5 => (hp4 m5 H5 g5 R5) σ5 (hE5.wipeL fg)
        | rt rv => exact RvQ.from (hp4 m5 H5 g5 R5) ((g1.trans (g2.trans gy)).trans g4)⟩⟩
end
end MP
namespace MP
open PySem L2 PyProof.Rows
section
variable {X : Cx} {W : Wx} {e a b tg iter : Expr} {es : List Expr} {pos p : Pos} {st : Stmt} {rest : List Stmt}
/-! ### while -/
/-- a lid on the turns; never reckoned with -/
def lid : Nat := 10 ^ 12
def loopW (c : Env → M Bool) (body : Env → M Fl) (fg : List Nat) : Nat → Env → M Fl
  | 0, _ => bad
  | n + 1, env => c (wipeE env fg) >>= fun b => if b = true then (body (wipeE env fg) >>= fun fl => match fl with
    | .nx e => loopW c body fg n e
    | .ct e => loopW c body fg n e
    | .bk e => pure (.nx (wipeE e fg))
    | .rt rv => pure (.rt rv)) else pure (.nx (wipeE env fg))
def sWhile (c : Env → M Bool) (body : Env → M Fl) (fg : List Nat) : Env → M Fl := fun env => loopW c body fg lid env
theorem ms_while {fg : List Nat} {c : Expr} {body : List Stmt} {rc : Env → M Bool} {rb : Env → M Fl} (hp : PassesOwn (model X.prog X.w) X.A X.env X.xe) (hc : MT X W c rc) (hb : MSs X W body rb) : MS X W (.While c body [] pos) (sWhile rc rb fg) := ⟨(ps_while hp hc.pt hb.ps).imp fun D σ H ⟨env, m, mu, hE, hR, hp⟩ => by
  refine ⟨fun k σ2 H2 => ∃ env2 m2 mu2, RepE X.K m2 H2 env2 σ2 ∧ Rel X.K m2 mu2 H2 ∧ Grow m m2 H H2 ∧ Post X.K W m2 H2 (loopW rc rb fg k env2 mu2) fun fl m' mu' H' => FlQ X.K D H fl m' mu' H', ⟨_, env, m, mu, hE, hR, .refl, hp⟩, ?_⟩
  rintro k σ2 H2 ⟨env2, m2, mu2, hE2, R2, g2, hp2⟩
  cases k with
  | zero => exact (show False from hp2).elim
  | succ k =>
    refine ⟨wipeE env2 fg, m2, mu2, hE2.wipeL fg, R2, (Post.bind hp2).mono fun b m3 mu3 H3 g3 R3 hp3 => ?_⟩
    cases b with
    | false =>
      rw [if_neg Bool.false_ne_true]
      exact (Post.pure hp3 R3) σ2 ((hE2.grow g3).wipeL fg)
    | true =>
      rw [if_pos rfl]
      rw [if_pos rfl] at hp3
      refine ⟨fun σ5 H5 => ∃ env5 m5 mu5, RepE X.K m5 H5 env5 σ5 ∧ Rel X.K m5 mu5 H5 ∧ Grow m m5 H H5 ∧ Post X.K W m5 H5 (loopW rc rb fg k env5 mu5) fun fl m' mu' H' => FlQ X.K D H fl m' mu' H',
        fun σ5 H5 h => ⟨k, Nat.lt_succ_self _, h⟩, wipeE env2 fg, m3, mu3, (hE2.grow g3).wipeL fg, R3, ?_⟩
      have e0 : (rb (wipeE env2 fg) >>= fun fl => match fl with
        | .nx e => loopW rc rb fg k e
        | .ct e => loopW rc rb fg k e
        | .bk e => pure (.nx (wipeE e fg))
        | .rt rv => pure (.rt rv)) mu3 = M.bind (rb (wipeE env2 fg)) _ mu3 := rfl
      rw [e0] at hp3
      unfold M.bind at hp3
      cases hr : rb (wipeE env2 fg) mu3 with
      | bad => rw [hr] at hp3; exact hp3
      | exc x mu5 => rw [hr] at hp3; exact hp3
      | ok fl mu5 =>
        rw [hr] at hp3
        intro m5 H5 g5 R5
        cases fl with
        | nx e => exact fun σ5 hE5 => ⟨e, m5, mu5, hE5, R5, (g2.trans g3).trans g5, hp3.grow g5⟩
        | ct e => exact fun σ5 hE5 => ⟨e, m5, mu5, hE5, R5, (g2.trans g3).trans g5, hp3.grow g5⟩
        | bk e => exact fun σ5 hE5 => (hp3 m5 H5 g5 R5) σ5 (hE5.wipeL fg)
        | rt rv => exact RvQ.from (hp3 m5 H5 g5 R5) (g2.trans g3)⟩

/-! ### small statements -/
def sNext : Env → M Fl := fun env => pure (.nx env)
def sSeq (r r' : Env → M Fl) : Env → M Fl := fun env => r env >>= fun fl => match fl with
  | .nx e => r' e
  | fl => pure fl
theorem mss_nil : MSs X W [] sNext := ⟨pss_nil.imp fun D σ H ⟨env, m, mu, hE, hR, hp⟩ => Post.pure hp hR σ hE⟩
theorem mss_one {r : Env → M Fl} (h : MS X W st r) : MSs X W [st] r := ⟨pss_one h.ps⟩
theorem mss_cons {r r' : Env → M Fl} (h : MS X W st r) (h' : MSs X W rest r') : MSs X W (st :: rest) (sSeq r r') := ⟨(pss_cons h.ps h'.ps).imp fun D σ H ⟨env, m, mu, hE, hR, hp⟩ => by
  refine ⟨env, m, mu, hE, hR, ?_⟩
  have e0 : sSeq r r' env mu = M.bind (r env) (fun fl => match fl with
    | .nx e => r' e
    | fl => pure fl) mu := rfl
  rw [e0] at hp
  unfold M.bind at hp
  cases hr : r env mu with
  | bad => rw [hr] at hp; exact hp
  | exc x mu5 => rw [hr] at hp; exact hp
  | ok fl mu5 =>
    rw [hr] at hp
    intro m5 H5 g5 R5
    cases fl with
    | nx e => exact fun σ5 hE5 => ⟨e, m5, mu5, hE5, R5, (hp.grow g5).mono fun fl m' mu' H' _ _ q => FlQ.from q g5⟩
    | ct e => exact hp m5 H5 g5 R5
    | bk e => exact hp m5 H5 g5 R5
    | rt rv => exact hp m5 H5 g5 R5⟩
theorem ms_pass : MS X W (.Pass pos) sNext := ⟨ps_pass.imp fun D σ H ⟨env, m, mu, hE, hR, hp⟩ => Post.pure hp hR σ hE⟩
def sBreak : Env → M Fl := fun env => pure (.bk env)
def sCont : Env → M Fl := fun env => pure (.ct env)
theorem ms_break : MS X W (.Break pos) sBreak := ⟨ps_break.imp fun D σ H ⟨env, m, mu, hE, hR, hp⟩ => Post.pure hp hR σ hE⟩
theorem ms_continue : MS X W (.Continue pos) sCont := ⟨ps_continue.imp fun D σ H ⟨env, m, mu, hE, hR, hp⟩ => Post.pure hp hR σ hE⟩
def sExpr (r : Env → M D) : Env → M Fl := fun env => r env >>= fun _ => pure (.nx env)
theorem ms_expr {r : Env → M D} (h : ME X W e r) (hs : swapsWith e none pos.line X.env = pure false := by rfl) : MS X W (.Expr e pos) (sExpr r) := ⟨(ps_expr h.pe hs).imp fun D σ H ⟨env, m, mu, hE, hR, hp⟩ =>
  ⟨env, m, mu, hE, hR, (Post.bind hp).mono fun x m1 mu1 H1 g1 R1 hp v rv => (Post.pure hp R1) σ (hE.grow g1)⟩⟩
def sRet (r : Env → M D) : Env → M Fl := fun env => r env >>= fun d => pure (.rt (.vl d))
theorem ms_ret {r : Env → M D} (h : ME X W e r) : MS X W (.Return (some e) pos) (sRet r) := ⟨(ps_ret h.pe).imp fun D σ H ⟨env, m, mu, hE, hR, hp⟩ =>
  ⟨env, m, mu, hE, hR, (Post.bind hp).mono fun x m1 mu1 H1 g1 R1 hp v rv => (Post.pure hp R1) v rv⟩⟩
def sRetF (r : Env → M (List D)) : Env → M Fl := fun env => r env >>= fun ds => pure (.rt (.fr ds))
theorem ms_retF {r : Env → M (List D)} (h : MF X W e r) : MS X W (.Return (some e) pos) (sRetF r) := ⟨(ps_ret h.pe).imp fun D σ H ⟨env, m, mu, hE, hR, hp⟩ =>
  ⟨env, m, mu, hE, hR, (Post.bind hp).mono fun x m1 mu1 H1 g1 R1 hp => Post.pure hp R1⟩⟩
def sRetN : Env → M Fl := fun env => pure (.rt (.vl .non))
theorem ms_retN : MS X W (.Return none pos) sRetN := ⟨ps_retN.imp fun D σ H ⟨env, m, mu, hE, hR, hp⟩ => (Post.pure hp hR) .non (by simp only [Rep])⟩
theorem ms_if {c : Expr} {s1 s2 : List Stmt} {t : Env → M Bool} {r r' : Env → M Fl} (hc : MT X W c t) (h : MSs X W s1 r) (h' : MSs X W s2 r') : MS X W (.If c s1 s2 pos) (eIf t r r') := ⟨(ps_if hc.pt h.ps h'.ps).imp fun D σ H ⟨env, m, mu, hE, hR, hp⟩ =>
  ⟨env, m, mu, hE, hR, (Post.bind hp).mono fun b m1 mu1 H1 g1 R1 hp => by
    cases b
    · exact ⟨env, m1, mu1, hE.grow g1, R1, hp.mono fun fl m' mu' H' _ _ q => FlQ.from q g1⟩
    · exact ⟨env, m1, mu1, hE.grow g1, R1, hp.mono fun fl m' mu' H' _ _ q => FlQ.from q g1⟩⟩⟩
def sAsg (r : Env → M D) (asg : D → Env → M Env) : Env → M Fl := fun env => r env >>= fun d => asg d env >>= fun env' => pure (.nx env')
theorem asg_go {l : List Nat} {r : Env → M D} {asg : D → Env → M Env} : ∀ D σ H, tS X.K W (sAsg r asg) D σ H → tAsg (tE X.K W r) (tG X.K W l asg) D σ H := fun D σ H ⟨env, m, mu, hE, hR, hp⟩ =>
  ⟨env, m, mu, hE, hR, (Post.bind hp).mono fun x m1 mu1 H1 g1 R1 hp v rv => ⟨x, env, m1, mu1, hE.grow g1, R1, rv, (Post.bind hp).mono fun env2 m2 mu2 H2 g2 R2 hp σ2 hE2 _ => (Post.pure hp R2) σ2 hE2⟩⟩
theorem ms_asg {l : List Nat} {r : Env → M D} {asg : D → Env → M Env} (h : ME X W e r) (hg : MG X W tg l asg) (hs : swapsWithSole [tg] e pos.line X.env = pure false := by rfl) (hw : swappedStores [tg] e X.env = pure none := by rfl) (h1 : (assignEach [tg] X.env).map (·.2) = [assign tg X.env] := by rfl) : MS X W (.Assign [tg] e pos) (sAsg r asg) :=
  ⟨(ps_asg h.pe hg.pg hs hw h1).imp (asg_go (l := l))⟩
/-- name = value -/
def sSet (i : Nat) (r : Env → M D) : Env → M Fl := fun env => r env >>= fun d => pure (.nx (env.set i (some d)))
theorem set_go {i : Nat} {r : Env → M D} : ∀ D σ H, tS X.K W (sSet i r) D σ H → tAsg (tE X.K W r) (gName i) D σ H := fun D σ H ⟨env, m, mu, hE, hR, hp⟩ =>
  ⟨env, m, mu, hE, hR, (Post.bind hp).mono fun x m1 mu1 H1 g1 R1 hp v rv => (Post.pure hp R1) _ ((hE.grow g1).set rv)⟩
theorem ms_set {i : Nat} {x : Str} {r : Env → M D} {pos' : Pos} (hN : X.N.Nodup) (hi : X.N[i]? = some x) (hx : Loc X.env.scope x) (h : ME X W e r) (hs : swapsWith e (some (.Name x pos')) pos.line X.env = pure false := by rfl) (hf : X.fn x = true ∨ X.env.scope.names.lookup x = some .local := by first | exact .inl rfl | exact .inr rfl | assumption) :
    MS X W (.Assign [.Name x pos'] e pos) (sSet i r) := ⟨(ps_set hN hi hx h.pe hs hf).imp set_go⟩
/-- name op= value -/
def sAug (i : Nat) (g : D → D → M D) (r : Env → M D) : Env → M Fl := fun env => eVar i env >>= fun x => r env >>= fun y => g x y >>= fun z => pure (.nx (env.set i (some z)))
theorem ms_aug {i : Nat} {x : Str} {op : Operator} {rr : R2} {g : D → D → M D} {r : Env → M D} {pos' : Pos} (hN : X.N.Nodup) (hi : X.N[i]? = some x) (hx : Loc X.env.scope x) (h : ME X W e r) (ho : OpR X (inplaceOp op) rr) (o : OpM X.K W rr g) (hf : X.fn x = true ∨ X.env.scope.names.lookup x = some .local := by first | exact .inl rfl | exact .inr rfl | assumption) :
    MS X W (.AugAssign (.Name x pos') op e pos) (sAug i g r) := ⟨(ps_aug (ti := fun x y H Q => rr x y H Q) hN hi hx h.pe (fun pins s σ H x y v u Q I r1 r2 h => ho pins s σ H x y v u Q I r1 r2 h) hf).imp fun D σ H ⟨env, m, mu, hE, hR, hp⟩ => by
  have hp0 := Post.bind hp
  cases ev : env[i]? with
  | none => unfold eVar at hp0; rw [ev] at hp0; exact (show False from hp0).elim
  | some o2 =>
    cases o2 with
    | none => unfold eVar at hp0; rw [ev] at hp0; exact (show False from hp0).elim
    | some d =>
      unfold eVar at hp0
      rw [ev] at hp0
      obtain ⟨v, hv, rv⟩ := hE.get i d ev
      have hp1 := Post.pure hp0 hR
      exact ⟨v, hv, env, m, mu, hE, hR, (Post.bind hp1).mono fun y m1 mu1 H1 g1 R1 hp2 w rw' => o.go d y v w m1 mu1 H1 _ R1 (Rep.grow g1 d v rv) rw' ((Post.bind hp2).mono fun z m2 mu2 H2 g2 R2 hp3 u ru => (Post.pure hp3 R2) _ (((hE.grow g1).grow g2).set ru))⟩⟩
end
end MP
namespace MP
open PySem L2 PyProof.Rows
/-! ### objects of the small heap that change -/
/-- the list at a place is changed by f, which hands back what the method gives -/
def modLr (o : Option MO) (n : Nat) (f : List D → Option (List D × D)) (mu : List MO) : R D := match o with
  | some (.lst xs) => match f xs with
    | some (ys, d) => .ok d (mu.set n (.lst ys))
    | none => .bad
  | _ => .bad
def modL (n : Nat) (f : List D → Option (List D × D)) : M D := fun mu => modLr mu[n]? n f mu
def modDr (o : Option MO) (n : Nat) (f : List (Key × D) → Option (List (Key × D) × D)) (mu : List MO) : R D := match o with
  | some (.dk xs) => match f xs with
    | some (ys, d) => .ok d (mu.set n (.dk ys))
    | none => .bad
  | _ => .bad
def modD (n : Nat) (f : List (Key × D) → Option (List (Key × D) × D)) : M D := fun mu => modDr mu[n]? n f mu
def toR : D → M Nat
  | .ref n => pure n
  | _ => bad
section
variable {K : PySem.W.Frag} {W : Wx} {m m' : Mp} {H H' : Hp} {mu : List MO}
theorem toR_ok {d : D} {v : V} {Q : Nat → Mp → List MO → Hp → Prop} (rl : Rel K m mu H) (h : Rep K m H d v) (hp : Post K W m H (toR d mu) Q) : ∃ n a, d = .ref n ∧ v = .ref a ∧ m.ad[n]? = some a ∧ Q n m mu H := by
  cases d
  case ref n => simp only [Rep] at h; obtain ⟨a, e, hm⟩ := h; exact ⟨n, a, rfl, e, hm, hp m H .refl rl⟩
  all_goals exact (show False from hp).elim
theorem modL_ok {n : Nat} {f : List D → Option (List D × D)} {a : Addr} {Q : D → Mp → List MO → Hp → Prop} (R : Rel K m mu H) (hm : m.ad[n]? = some a) (hp : Post K W m H (modL n f mu) Q) : ∃ xs vs ys d, H a = some (.lst vs) ∧ Reps K m H xs vs ∧ f xs = some (ys, d) ∧
    (∀ ws, Grow m m H (upd H a (.lst ws))) ∧ ∀ ws, Reps K m (upd H a (.lst ws)) ys ws → Q d m (mu.set n (.lst ys)) (upd H a (.lst ws)) := by
  unfold modL at hp
  obtain ⟨o, ho, hr⟩ := R.at' hm
  rw [ho] at hp
  cases o with
  | dk _ => exact (show False from hp).elim
  | lst xs =>
    obtain ⟨vs, hH, hr⟩ := hr
    cases e : f xs with
    | none =>
      have hp : Post K W m H (match f xs with
        | some (ys, d) => MP.R.ok d (mu.set n (.lst ys))
        | none => .bad) Q := hp
      rw [e] at hp; exact (show False from hp).elim
    | some p =>
      obtain ⟨ys, d⟩ := p
      have hp : Post K W m H (match f xs with
        | some (ys, d) => MP.R.ok d (mu.set n (.lst ys))
        | none => .bad) Q := hp
      rw [e] at hp
      exact ⟨xs, vs, ys, d, hH, hr, e, fun ws => .write R hm, fun ws hw => hp m _ (.write R hm) (R.write hm ⟨ws, upd_same, hw⟩)⟩
theorem modD_ok {n : Nat} {f : List (Key × D) → Option (List (Key × D) × D)} {a : Addr} {Q : D → Mp → List MO → Hp → Prop} (R : Rel K m mu H) (hm : m.ad[n]? = some a) (hp : Post K W m H (modD n f mu) Q) : ∃ xs vs ys d, H a = some (.dK ((xs.map (·.1)).zip vs)) ∧ Reps K m H (xs.map (·.2)) vs ∧ f xs = some (ys, d) ∧
    (∀ ws, Grow m m H (upd H a (.dK ws))) ∧ ∀ ws, Reps K m (upd H a (.dK ((ys.map (·.1)).zip ws))) (ys.map (·.2)) ws → Q d m (mu.set n (.dk ys)) (upd H a (.dK ((ys.map (·.1)).zip ws))) := by
  unfold modD at hp
  obtain ⟨o, ho, hr⟩ := R.at' hm
  rw [ho] at hp
  cases o with
  | lst _ => exact (show False from hp).elim
  | dk xs =>
    obtain ⟨vs, hH, hr⟩ := hr
    have hp : Post K W m H (match f xs with
      | some (ys, d) => MP.R.ok d (mu.set n (.dk ys))
      | none => .bad) Q := hp
    cases e : f xs with
    | none => rw [e] at hp; exact (show False from hp).elim
    | some p =>
      obtain ⟨ys, d⟩ := p
      rw [e] at hp
      exact ⟨xs, vs, ys, d, hH, hr, e, fun ws => .write R hm, fun ws hw => hp m _ (.write R hm) (R.write hm ⟨ws, upd_same, hw⟩)⟩
end
/-- it is a list -/
def lstK : D → M Unit
  | .fl _ => pure ()
  | .ro _ => pure ()
  | .ref n => fun mu => match mu[n]? with
    | some (.lst _) => .ok () mu
    | _ => .bad
  | _ => bad
def eMeth (k : D → M Unit) (g : D → List D → M D) (ro : Env → M D) (rs : Env → M (List D)) : Env → M D := fun env => ro env >>= fun o => k o >>= fun _ => rs env >>= fun xs => g o xs
structure MethM (K : PySem.W.Frag) (W : Wx) (r : V → List V → Hp → VK → Prop) (g : D → List D → M D) : Prop where
  go : ∀ (o : D) (ds : List D) (v : V) (vs : List V) (m : Mp) (mu : List MO) (H : Hp) (Q : VK), Rel K m mu H → Rep K m H o v → Reps K m H ds vs → Post K W m H (g o ds mu) (fun d m' _ H' => ∀ u, Rep K m' H' d u → Q u H') → r v vs H Q
section
variable {X : Cx} {W : Wx} {e o a b tg iter : Expr} {es : List Expr} {pos apos cpos p : Pos}
theorem lstK_ok {K : PySem.W.Frag} {m : Mp} {H : Hp} {mu : List MO} {d : D} {v : V} {Q : Unit → Mp → List MO → Hp → Prop} (R : Rel K m mu H) (h : Rep K m H d v) (hp : Post K W m H (lstK d mu) Q) : ∃ a vs, v = .ref a ∧ SqL K H a vs ∧ Q () m mu H := by
  cases d <;> simp only [Rep] at h
  case fl ds => obtain ⟨a, vs, rfl, hs, _, _⟩ := h; exact ⟨a, vs, rfl, .of hs, hp m H .refl R⟩
  case ro ds => obtain ⟨a, vs, rfl, hs, _⟩ := h; exact ⟨a, vs, rfl, hs.sqL, hp m H .refl R⟩
  case ref n =>
    obtain ⟨a, rfl, hm⟩ := h
    obtain ⟨o, ho, hr⟩ := R.at' hm
    have e1 : lstK (.ref n) mu = match mu[n]? with
      | some (.lst _) => MP.R.ok () mu
      | _ => .bad := rfl
    rw [e1, ho] at hp
    cases o with
    | dk _ => exact (show False from hp).elim
    | lst xs => obtain ⟨vs, hH, _⟩ := hr; exact ⟨a, vs, rfl, .of hH, hp m H .refl R⟩
  all_goals exact (show False from hp).elim
theorem meth_go {T : String} {k : D → M Unit} {r : V → List V → Hp → VK → Prop} {g : D → List D → M D} {ro : Env → M D} {rs : Env → M (List D)} (c : MethM X.K W r g)
    (hk : ∀ (m : Mp) (mu : List MO) (H : Hp) (d : D) (v : V) (Q : Unit → Mp → List MO → Hp → Prop), Rel X.K m mu H → Rep X.K m H d v → Post X.K W m H (k d mu) Q → tyV X.K T v H ∧ Q () m mu H) : ∀ σ H Q, tE X.K W (eMeth k g ro rs) σ H Q → tBM X.K T r (tE X.K W ro) (tA X.K W rs) σ H Q := fun σ H Q ⟨env, m, mu, hE, hR, hp⟩ =>
  ⟨env, m, mu, hE, hR, (Post.bind hp).mono fun x m1 mu1 H1 g1 R1 hp1 v rv => by
    obtain ⟨ty, hp2⟩ := hk m1 mu1 H1 x v _ R1 rv (Post.bind hp1)
    exact ⟨ty, env, m1, mu1, hE.grow g1, R1, (Post.bind hp2).mono fun xs m2 mu2 H2 g2 R2 hp3 vs rvs => c.go x xs v vs m2 mu2 H2 Q R2 (Rep.grow g2 x v rv) rvs hp3⟩⟩
theorem me_lmeth {id : String} {name : Str} {r : V → List V → Hp → VK → Prop} {g : D → List D → M D} {ro : Env → M D} {rs : Env → M (List D)} (slot : Slot "list" name id) (hty : typeOf (.builtin id) = pure (.type "method_descriptor")) (hm : MtR X id r) (c : MethM X.K W r g) (h : ME X W o ro) (hs : MA X W (e :: es) rs)
    (hbase : attributeBase o name X.env (eval o X.env) = eval o X.env := by rfl)
    (hfew : ((backTo cpos (starEach (e :: es) X.env)).all (fun x => !x.1) && (backToKw cpos (keywordEach [] X.env)).all (fun x => x.1.isSome)
      && decide ((e :: es).length + ([] : List Keyword).length + (if ([] : List Keyword).isEmpty then 0 else 1) < 30)) = true := by rfl)
    (hline : (apos.endLine == cpos.line) = true := by rfl) (hst : starEach (e :: es) X.env = (false, eval e X.env) :: starEach es X.env := by rfl) (hplain : (backTo cpos (starEach es X.env)).any (·.1) = false := by rfl) :
    ME X W (.Call (.Attribute o name apos) (e :: es) [] cpos) (eMeth lstK g ro rs) :=
  ⟨(pe_bm PySem.F.plainAttrs_list slot hty hm h.pe hs.pa hbase hfew hline hst hplain).imp (meth_go c fun m mu H d v Q R hd hp => by
    obtain ⟨a, vs, rfl, hs, q⟩ := lstK_ok R hd hp
    exact ⟨.inl ⟨rfl, vs, hs⟩, q⟩)⟩
theorem me_lmeth0 {id : String} {name : Str} {r : V → List V → Hp → VK → Prop} {g : D → List D → M D} {ro : Env → M D} (slot : Slot "list" name id) (hty : typeOf (.builtin id) = pure (.type "method_descriptor")) (hm : MtR X id r) (c : MethM X.K W r g) (h : ME X W o ro)
    (hbase : attributeBase o name X.env (eval o X.env) = eval o X.env := by rfl) (hline : (apos.endLine == cpos.line) = true := by rfl) :
    ME X W (.Call (.Attribute o name apos) [] [] cpos) (eMeth lstK g ro aNil) :=
  ⟨(pe_bm0 PySem.F.plainAttrs_list slot hty hm h.pe hbase hline).imp fun σ H Q hq => by
    obtain ⟨env, m, mu, hE, hR, hp⟩ := hq
    exact ⟨env, m, mu, hE, hR, (Post.bind hp).mono fun x m1 mu1 H1 g1 R1 hp1 v rv => by
      obtain ⟨a, vs, rfl, hs, hp2⟩ := lstK_ok R1 rv (Post.bind hp1)
      exact ⟨.inl ⟨rfl, vs, hs⟩, c.go x [] _ [] m1 mu1 H1 Q R1 rv (Reps.nil_iff.mpr rfl) (Post.pure (Post.bind hp2) R1)⟩⟩⟩
/-- append -/
def gAppend : D → List D → M D
  | .ref n, [y] => modL n fun xs => if xs.length < sizeLine then some (xs ++ [y], .non) else none
  | _, _ => bad
theorem methM_append : MethM X.K W rAppend gAppend := ⟨fun o ds v vs m mu H Q R ho hr hp => by
  cases o
  case ref n =>
    match ds, hr, hp with
    | [y], hr, hp =>
      obtain ⟨w, rfl, hw⟩ := rep1 hr
      simp only [Rep] at ho
      obtain ⟨a, rfl, hm⟩ := ho
      obtain ⟨xs, us, ys, d, hH, hrs, hf, hg, hq⟩ := modL_ok R hm hp
      by_cases c : xs.length < sizeLine
      · rw [if_pos c] at hf
        cases hf
        refine ⟨a, us, w, rfl, rfl, hH, by rw [← hrs.length]; exact c, ?_⟩
        exact hq (us ++ [w]) ((Reps.grow (hg _) xs us hrs).append (Reps.one (Rep.grow (hg _) y w hw))) .non (by simp only [Rep])
      · rw [if_neg c] at hf; cases hf
    | [], _, hp => exact (show False from hp).elim
    | _ :: _ :: _, _, hp => exact (show False from hp).elim
  all_goals exact (show False from hp).elim⟩
/-- extend -/
def gExtend : D → List D → M D
  | .ref n, [y] => rdM y >>= fun zs => modL n fun xs => if xs.length + zs.length ≤ sizeLine then some (xs ++ zs, .non) else none
  | _, _ => bad
theorem methM_extend : MethM X.K W rExtend gExtend := ⟨fun o ds v vs m mu H Q R ho hr hp => by
  cases o
  case ref n =>
    match ds, hr, hp with
    | [y], hr, hp =>
      obtain ⟨w, rfl, hw⟩ := rep1 hr
      simp only [Rep] at ho
      obtain ⟨a, rfl, hm⟩ := ho
      obtain ⟨b, zs, ws, rfl, hb, hz, _, hp⟩ := rdM_ok R hw (Post.bind hp)
      obtain ⟨xs, us, ys, d, hH, hrs, hf, hg, hq⟩ := modL_ok R hm hp
      by_cases c : xs.length + zs.length ≤ sizeLine
      · rw [if_pos c] at hf
        cases hf
        refine ⟨a, b, us, ws, rfl, rfl, hH, hb, by rw [← hrs.length, ← hz.length]; exact c, ?_⟩
        exact hq (us ++ ws) ((Reps.grow (hg _) xs us hrs).append (Reps.grow (hg _) zs ws hz)) .non (by simp only [Rep])
      · rw [if_neg c] at hf; cases hf
    | [], _, hp => exact (show False from hp).elim
    | _ :: _ :: _, _, hp => exact (show False from hp).elim
  all_goals exact (show False from hp).elim⟩
/-- insert -/
def gInsert : D → List D → M D
  | .ref n, [x, y] => toI x >>= fun i => modL n fun xs => if xs.length < sizeLine ∧ 0 ≤ i ∧ i < 2 ^ 63 then some (xs.take i.toNat ++ [y] ++ xs.drop i.toNat, .non) else none
  | _, _ => bad
def rInsert : V → List V → Hp → VK → Prop := fun x vs H Q => ∃ (l : Addr) (xs : List V) (i : Int) (y : V), x = .ref l ∧ vs = [.int i, y] ∧ H l = some (.lst xs) ∧ xs.length < sizeLine ∧ 0 ≤ i ∧ i < 2 ^ 63 ∧ Q .non (upd H l (.lst (xs.take i.toNat ++ [y] ++ xs.drop i.toNat)))
theorem methM_insert : MethM X.K W rInsert gInsert := ⟨fun o ds v vs m mu H Q R ho hr hp => by
  cases o
  case ref n =>
    match ds, hr, hp with
    | [x, y], hr, hp =>
      obtain ⟨v, w, rfl, hv, hw⟩ := rep2 hr
      simp only [Rep] at ho
      obtain ⟨a, rfl, hm⟩ := ho
      obtain ⟨i, rfl, rfl, hp⟩ := toI_ok R hv (Post.bind hp)
      obtain ⟨xs, us, ys, d, hH, hrs, hf, hg, hq⟩ := modL_ok R hm hp
      by_cases c : xs.length < sizeLine ∧ 0 ≤ i ∧ i < 2 ^ 63
      · rw [if_pos c] at hf
        cases hf
        refine ⟨a, us, i, w, rfl, rfl, hH, by rw [← hrs.length]; exact c.1, c.2.1, c.2.2, ?_⟩
        have hrs' : ∀ ws, Reps X.K m (upd H a (.lst ws)) xs us := fun ws => Reps.grow (hg ws) xs us hrs
        exact hq _ ((((hrs' _).take _).append (Reps.one (Rep.grow (hg _) y w hw))).append ((hrs' _).drop _)) .non (by simp only [Rep])
      · rw [if_neg c] at hf; cases hf
    | [], _, hp => exact (show False from hp).elim
    | [_], _, hp => exact (show False from hp).elim
    | _ :: _ :: _ :: _, _, hp => exact (show False from hp).elim
  all_goals exact (show False from hp).elim⟩
/-- pop(), pop(i) -/
def gPop0 : D → List D → M D
  | .ref n, [] => modL n fun xs => match xs[xs.length - 1]? with
    | some y => some (xs.dropLast, y)
    | none => none
  | _, _ => bad
theorem Reps.dropLast {K : PySem.W.Frag} {m : Mp} {H : Hp} {ds : List D} {vs : List V} (h : Reps K m H ds vs) : Reps K m H ds.dropLast vs.dropLast := by
  rw [List.dropLast_eq_take, List.dropLast_eq_take, h.length]
  exact h.take _
theorem methM_pop0 : MethM X.K W rPop gPop0 := ⟨fun o ds v vs m mu H Q R ho hr hp => by
  cases o
  case ref n =>
    match ds, hr, hp with
    | [], hr, hp =>
      rw [Reps.nil_iff] at hr
      subst hr
      simp only [Rep] at ho
      obtain ⟨a, rfl, hm⟩ := ho
      obtain ⟨xs, us, ys, d, hH, hrs, hf, hg, hq⟩ := modL_ok R hm hp
      cases e : xs[xs.length - 1]? with
      | none => rw [e] at hf; cases hf
      | some y =>
        rw [e] at hf
        cases hf
        obtain ⟨w, hw, rw'⟩ := hrs.get e
        refine ⟨a, us, w, rfl, rfl, hH, by rw [← hrs.length]; exact hw, ?_⟩
        exact hq _ (Reps.dropLast (Reps.grow (hg _) xs us hrs)) w (Rep.grow (hg _) _ w rw')
    | _ :: _, _, hp => exact (show False from hp).elim
  all_goals exact (show False from hp).elim⟩
def gPopAt : D → List D → M D
  | .ref n, [x] => toI x >>= fun i => modL n fun xs => if -(2 ^ 63) ≤ i ∧ i < 2 ^ 63 then match seqIndex? i xs.length with
    | some k => match xs[k]? with
      | some y => some (xs.eraseIdx k, y)
      | none => none
    | none => none else none
  | _, _ => bad
theorem Reps.eraseIdx {K : PySem.W.Frag} {m : Mp} {H : Hp} : ∀ {ds : List D} {vs : List V} (i : Nat), Reps K m H ds vs → Reps K m H (ds.eraseIdx i) (vs.eraseIdx i)
  | [], vs, i, h => by rw [Reps.nil_iff] at h; subst h; exact Reps.nil_iff.mpr rfl
  | d :: ds, vs, i, h => by
    obtain ⟨v, r, rfl, h1, h2⟩ := Reps.cons_iff.mp h
    cases i with
    | zero => exact h2
    | succ i => exact Reps.cons_iff.mpr ⟨v, _, rfl, h1, Reps.eraseIdx i h2⟩
theorem methM_popAt : MethM X.K W rPopAt gPopAt := ⟨fun o ds v vs m mu H Q R ho hr hp => by
  cases o
  case ref n =>
    match ds, hr, hp with
    | [y], hr, hp =>
      obtain ⟨w, rfl, hw⟩ := rep1 hr
      simp only [Rep] at ho
      obtain ⟨a, rfl, hm⟩ := ho
      obtain ⟨i, rfl, rfl, hp⟩ := toI_ok R hw (Post.bind hp)
      obtain ⟨xs, us, ys, d, hH, hrs, hf, hg, hq⟩ := modL_ok R hm hp
      by_cases c : -(2 ^ 63) ≤ i ∧ i < 2 ^ 63
      · rw [if_pos c] at hf
        cases ek : seqIndex? i xs.length with
        | none => rw [ek] at hf; cases hf
        | some k =>
          rw [ek] at hf
          cases e : xs[k]? with
          | none => simp only [e] at hf; cases hf
          | some y =>
            simp only [e] at hf
            cases hf
            obtain ⟨w, hw, rw'⟩ := hrs.get e
            refine ⟨a, us, i, k, w, rfl, rfl, hH, c.1, c.2, by rw [← hrs.length]; exact ek, hw, ?_⟩
            exact hq _ (Reps.eraseIdx k (Reps.grow (hg _) xs us hrs)) w (Rep.grow (hg _) _ w rw')
      · rw [if_neg c] at hf; cases hf
    | [], _, hp => exact (show False from hp).elim
    | _ :: _ :: _, _, hp => exact (show False from hp).elim
  all_goals exact (show False from hp).elim⟩
/-- xs[i] = e -/
def setL (o i v : D) : M D := toR o >>= fun n => toI i >>= fun k => modL n fun xs => match ixN xs.length k with
  | some j => some (xs.set j v, .non)
  | none => none
def sSub (ro ri rv : Env → M D) : Env → M Fl := fun env => rv env >>= fun v => ro env >>= fun o => ri env >>= fun i => setL o i v >>= fun _ => pure (.nx env)
theorem ms_sub {ro ri rv : Env → M D} {sp : Pos} (ho : ME X W o ro) (hi : ME X W a ri) (hv : ME X W e rv)
    (ha : ∀ v, assign (.Subscript o a sp) X.env v = (do
      let ov ← holding [v] (eval o X.env)
      let iv ← holding [v, ov] (eval a X.env)
      standAt sp
      holding [v, ov, iv] (setItem ov iv v)
      release [v, ov, iv] []) := by intro _; rfl)
    (hs : swapsWithSole [.Subscript o a sp] e pos.line X.env = pure false := by rfl) (hw : swappedStores [.Subscript o a sp] e X.env = pure none := by rfl) (h1 : (assignEach [.Subscript o a sp] X.env).map (·.2) = [assign (.Subscript o a sp) X.env] := by rfl) :
    MS X W (.Assign [.Subscript o a sp] e pos) (sSub ro ri rv) := ⟨(ps_asg hv.pe (pg_sub ho.pe hi.pe set_list ha) hs hw h1).imp fun D σ H ⟨env, m, mu, hE, hR, hp⟩ =>
  ⟨env, m, mu, hE, hR, (Post.bind hp).mono fun v m1 mu1 H1 g1 R1 hp vv rv => ⟨env, m1, mu1, hE.grow g1, R1, (Post.bind hp).mono fun o m2 mu2 H2 g2 R2 hp ov ro => ⟨env, m2, mu2, (hE.grow g1).grow g2, R2, (Post.bind hp).mono fun i m3 mu3 H3 g3 R3 hp iv ri => by
    have hp := Post.bind hp
    unfold setL at hp
    obtain ⟨n, a, rfl, rfl, hm, hp⟩ := toR_ok R3 (Rep.grow g3 o ov ro) (Post.bind hp)
    obtain ⟨k, rfl, rfl, hp⟩ := toI_ok R3 ri (Post.bind hp)
    obtain ⟨xs, us, ys, d, hH, hrs, hf, hg, hq⟩ := modL_ok R3 hm hp
    cases ej : ixN xs.length k with
    | none => rw [ej] at hf; cases hf
    | some j =>
      rw [ej] at hf
      cases hf
      refine ⟨a, us, k, j, rfl, rfl, hH, by rw [← hrs.length]; exact ej, ?_⟩
      have gg := hg (us.set j vv)
      have q := hq (us.set j vv) (Reps.set (Rep.grow gg v vv (Rep.grow g3 v vv (Rep.grow g2 v vv rv))) j (Reps.grow gg xs us hrs))
      exact (Post.pure q (R3.write hm ⟨_, upd_same, Reps.set (Rep.grow gg v vv (Rep.grow g3 v vv (Rep.grow g2 v vv rv))) j (Reps.grow gg xs us hrs)⟩)) σ (((hE.grow g1).grow g2).grow g3 |>.grow gg)⟩⟩⟩⟩
end
end MP
namespace MP
open PySem L2 PyProof.Rows
/-! ### list comprehensions -/
/-- no exception -/
def noX {α : Type} (c : M α) : M α := fun mu => match c mu with
  | .exc _ _ => .bad
  | r => r
abbrev W0 : Wx := fun _ _ _ => False
theorem noX_post {K : PySem.W.Frag} {W : Wx} {m : Mp} {H : Hp} {mu : List MO} {α : Type} {c : M α} {Q : α → Mp → List MO → Hp → Prop} (h : Post K W m H (noX c mu) Q) : Post K W0 m H (c mu) Q := by
  have e : noX c mu = match c mu with
    | .exc _ _ => .bad
    | r => r := rfl
  rw [e] at h
  cases hc : c mu with
  | ok a mu' => rw [hc] at h; exact h
  | exc x mu' => rw [hc] at h; exact (show False from h).elim
  | bad => rw [hc] at h; exact h
noncomputable def loopC (asg : D → Env → M Env) (t : Env → M Bool) (r : Env → M D) (g : List (Nat × List D)) : List D → Env → M (List D)
  | [], _ => chk g >>= fun _ => pure []
  | d :: ds, env => chk g >>= fun _ => asg d env >>= fun env1 => t env1 >>= fun b => if b = true then (r env1 >>= fun x => loopC asg t r g ds env >>= fun xs => pure (x :: xs)) else loopC asg t r g ds env
/-- [elt for .. in .. if ..]; vs: the slots of the comprehension's own names -/
noncomputable def fComp (w : Env → M Wk) (asg : D → Env → M Env) (t : Env → M Bool) (r : Env → M D) (vs : List Nat) : Env → M (List D) := fun env => w env >>= fun p => noX (loopC asg t r p.2 p.1 (wipeE env vs))
def tYesM : Env → M Bool := fun _ => pure true
structure MTs (X : Cx) (W : Wx) (ifs : List Expr) (r : Env → M Bool) : Prop where
  pt : PTs X ifs (tT X.K W r)
theorem _root_.L2.PTs.imp {X : Cx} {ifs : List Expr} {t t' : TT} (h : PTs X ifs t) (i : ∀ σ H Q, t' σ H Q → t σ H Q) : PTs X ifs t' := ⟨fun pins s σ H Q I q => h.run pins s σ H Q I (i σ H Q q)⟩
section
variable {X : Cx} {W : Wx} {e o a b tg iter elt : Expr} {es ifs : List Expr} {pos apos cpos p : Pos}
theorem mts_nil : MTs X W [] tYesM := ⟨pts_nil.imp fun σ H Q ⟨env, m, mu, hE, hR, hp⟩ => Post.pure hp hR⟩
theorem mts_one {r : Env → M Bool} (h : MT X W e r) : MTs X W [e] r := ⟨pts_one h.pt⟩
theorem wipe_off {vs : List Nat} {σ' σ : L2.St} {l : List Nat} (h : Off l σ' (L2.wipe σ vs)) (hl : ∀ i ∈ l, i ∈ vs) : L2.wipe σ' vs = L2.wipe σ vs := by
  have len : σ'.length = σ.length := by rw [h.1, L2.wipe_length]
  apply List.ext_getElem?
  intro i
  by_cases hi : i ∈ vs
  · have none_at : ∀ (τ : L2.St), τ.length = σ.length → (L2.wipe τ vs)[i]? = if i < σ.length then some none else none := by
      intro τ ht
      clear h hl len
      induction vs with
      | nil => cases hi
      | cons j vs ih =>
        show ((L2.wipe τ vs).set j none)[i]? = _
        by_cases hj : j = i
        · subst hj
          by_cases hlt : j < σ.length
          · rw [List.getElem?_set_self (by rw [L2.wipe_length, ht]; exact hlt), if_pos hlt]
          · rw [List.getElem?_eq_none (by rw [List.length_set, L2.wipe_length, ht]; omega), if_neg hlt]
        · rw [List.getElem?_set_ne hj]
          exact ih (by rcases List.mem_cons.mp hi with z | z; exact absurd z.symm hj; exact z)
    rw [none_at σ' len, none_at σ rfl]
  · rw [L2wipe_get hi, h.2 i (fun z => hi (hl i z))]
/-- the comprehension's list, for its reading -/
theorem comp_go {wi : TI} {vs l : List Nat} {w : Env → M Wk} {asg : D → Env → M Env} {t : Env → M Bool} {r : Env → M D} (hl : ∀ i ∈ l, i ∈ vs) (hwi : wi = tI X.K W w) : ∀ σ H Q, tF X.K W (fComp w asg t r vs) σ H Q → tLc wi (tG X.K W0 l asg) (tT X.K W0 t) (tE X.K W0 r) vs σ H Q := by
  subst hwi
  rintro σ H Q ⟨env, m, mu, hE, hR, hp⟩
  refine ⟨env, m, mu, hE, hR, (Post.bind hp).mono fun p m1 mu1 H1 g1 R1 hp0 hz J ok => ?_⟩
  have hp0 := noX_post hp0
  intro Dd hDn
  have hdead : ∀ b o, H1 b = some o → b ≠ Dd := fun b o e z => by rw [z, hDn] at e; cases e
  have hD0 : H Dd = none := g1.none_of hDn
  refine ⟨fun i k H2 => ∃ rest acc vs2 m2 mu2, k = rest.length ∧ p.1.drop i = rest ∧ acc.length ≤ i ∧ H2 Dd = some (.lst vs2) ∧ Dd ∈ m2.no ∧ Dd ∉ m2.ad ∧ Reps X.K m2 H2 acc vs2 ∧ Rel X.K m2 mu2 H2 ∧ RepE X.K m2 H2 (wipeE env vs) (L2.wipe σ vs) ∧ Grow m1 m2 H1 H2 ∧
      Post X.K W0 m1 H1 (loopC asg t r p.2 rest (wipeE env vs) mu2) fun xs m' mu' H' => NewL X.K H (acc ++ xs) m' mu' H' Q, ⟨_, p.1, [], [], m1.shut Dd, mu1, rfl, rfl, Nat.le_refl _, upd_same, by simp [Mp.shut], ?_, Reps.nil_iff.mpr rfl, ?_, ?_, ?_, ?_⟩, ?_⟩
  · exact (R1.free hDn).1
  · have g : Grow m1 m1 H1 (upd H1 Dd (.lst [])) := .laid hDn
    have kp : Keep m1 (m1.shut Dd) H1 (upd H1 Dd (.lst [])) := ⟨fun _ _ h => h, fun a o h n => ⟨by rw [upd_ne (hdead a o h)]; exact h, n.1, fun z => by
      rcases List.mem_append.mp z with z | z
      · exact n.2 z
      · exact hdead a o h (List.mem_singleton.mp z)⟩, g.tups, g.frzs⟩
    refine ⟨R1.len, R1.nd, fun a ha => ?_, fun a ha z => ?_, fun n o a h1 h2 => (R1.obj n o a h1 h2).keep kp fun u q => by rw [upd_ne (hdead a u q)]; exact q⟩
    · rcases List.mem_append.mp ha with z | z
      · exact g.trk a _ (R1.nos a z).choose_spec
      · rw [List.mem_singleton.mp z]; exact ⟨_, upd_same⟩
    · rcases List.mem_append.mp z with z | z
      · exact R1.dj a ha z
      · exact (R1.free hDn).1 (by rw [← List.mem_singleton.mp z]; exact ha)
  · have g : Grow m1 m1 H1 (upd H1 Dd (.lst [])) := .laid hDn
    have kp : Keep m1 (m1.shut Dd) H1 (upd H1 Dd (.lst [])) := ⟨fun _ _ h => h, fun a o h n => ⟨by rw [upd_ne (hdead a o h)]; exact h, n.1, fun z => by
      rcases List.mem_append.mp z with z | z
      · exact n.2 z
      · exact hdead a o h (List.mem_singleton.mp z)⟩, g.tups, g.frzs⟩
    exact ((hE.grow g1).wipe vs).keep kp
  · have g : Grow m1 m1 H1 (upd H1 Dd (.lst [])) := .laid hDn
    exact ⟨⟨[], [Dd], by simp [Mp.shut], rfl, by simp, fun a ha => by rw [List.mem_singleton.mp ha]; exact hDn⟩, g.oth, g.tups, g.frzs, g.trk⟩
  · exact hp0
  rintro i k H2 ⟨rest, acc, vs2, m2, mu2, rfl, hd, ha, hH2, hno, had, hacc, R2, hE2, g2, hp2⟩
  cases rest with
  | nil =>
    have e0 : loopC asg t r p.2 [] (wipeE env vs) mu2 = M.bind (chk p.2) (fun _ => pure []) mu2 := rfl
    rw [e0] at hp2
    unfold M.bind at hp2
    have hch : ∀ q ∈ p.2, mu2[q.1]? = some (.lst q.2) := by
      unfold chk at hp2
      by_cases z : ∀ q ∈ p.2, mu2[q.1]? = some (.lst q.2)
      · exact z
      · rw [if_neg z] at hp2; exact (show False from hp2).elim
    have ec : chk p.2 mu2 = .ok () mu2 := by unfold chk; rw [if_pos hch]
    rw [ec] at hp2
    refine .inl ⟨((ok m2 mu2 H2 g2 R2 hch).1 i) (by rw [List.drop_eq_nil_iff] at hd; exact hd), ?_⟩
    obtain ⟨l', k', e1, e2, hl', hk'⟩ := g2.ext
    have n1 : Dd ∉ m1.no := (R1.free hDn).2
    have kp : ∀ m3 : Mp, (∀ n a, m2.ad[n]? = some a → m3.ad[n]? = some a) → (∀ a, m2.Out a → m3.Out a) → Keep m2 m3 H2 H2 := fun m3 h1 h2 => ⟨h1, fun a o h n => ⟨h, h2 a n⟩, fun _ _ h => h, fun _ _ _ h => h⟩
    have k3 : Keep m2 ⟨m2.ad, m1.no⟩ H2 H2 := kp _ (fun _ _ h => h) fun a n => ⟨n.1, fun z => n.2 (by rw [e2]; exact List.mem_append_left _ z)⟩
    have g3 : Grow m1 ⟨m2.ad, m1.no⟩ H1 H2 := ⟨⟨l', [], e1, by simp, hl', by simp⟩, g2.oth, g2.tups, g2.frzs, g2.trk⟩
    have R3 : Rel X.K ⟨m2.ad, m1.no⟩ mu2 H2 := ⟨R2.len, R2.nd, fun a z => R2.nos a (by rw [e2]; exact List.mem_append_left _ z), fun a ha z => R2.dj a ha (by rw [e2]; exact List.mem_append_left _ z), fun n o a h1 h2 => (R2.obj n o a h1 h2).keep k3 fun _ q => q⟩
    have k4 : Keep m2 ((⟨m2.ad, m1.no⟩ : Mp).add Dd) H2 H2 := kp _ (fun n a h => by
      show (m2.ad ++ [Dd])[n]? = some a
      rw [List.getElem?_append_left (List.getElem?_eq_some_iff.mp h).1]; exact h) fun a n => ⟨fun z => by
        rcases List.mem_append.mp z with z | z
        · exact n.1 z
        · exact n.2 (by rw [List.mem_singleton.mp z]; exact hno), fun z => n.2 (by rw [e2]; exact List.mem_append_left _ z)⟩
    have q := hp2 ⟨m2.ad, m1.no⟩ H2 g3 R3 Dd vs2 hD0 hH2 ⟨had, n1⟩ (by rw [List.append_nil]; exact Reps.keep k3 acc vs2 hacc)
    refine q ?_
    rw [List.append_nil]
    refine ⟨by show (m2.ad ++ [Dd]).length = _; rw [List.length_append, List.length_append, R2.len]; rfl, ?_, fun a z => R3.nos a z, fun a ha z => ?_, fun n ob b h1 h2 => ?_⟩
    · show (m2.ad ++ [Dd]).Nodup
      rw [List.nodup_append]
      refine ⟨R2.nd, by simp, fun x hx y hy => ?_⟩
      rw [List.mem_singleton.mp hy]
      rintro rfl
      exact had hx
    · rcases List.mem_append.mp (show a ∈ m2.ad ++ [Dd] from ha) with z' | z'
      · exact R3.dj a z' z
      · exact n1 (by rw [← List.mem_singleton.mp z']; exact z)
    · have h2 : (m2.ad ++ [Dd])[n]? = some b := h2
      by_cases h : n < mu2.length
      · rw [List.getElem?_append_left h] at h1
        rw [List.getElem?_append_left (by rw [R2.len]; exact h)] at h2
        exact (R2.obj n ob b h1 h2).keep k4 fun _ q => q
      · by_cases hl : n = mu2.length
        · subst hl
          rw [List.getElem?_append_right (Nat.le_refl _), Nat.sub_self] at h1
          rw [List.getElem?_append_right (by rw [R2.len]; exact Nat.le_refl _), ← R2.len, Nat.sub_self] at h2
          cases h1
          cases h2
          exact ⟨vs2, hH2, Reps.keep k4 acc vs2 hacc⟩
        · rw [List.getElem?_eq_none (by rw [List.length_append]; simp only [List.length_cons, List.length_nil]; omega)] at h1
          cases h1
  | cons d ds =>
    have e0 : loopC asg t r p.2 (d :: ds) (wipeE env vs) mu2 = M.bind (chk p.2) (fun _ => M.bind (asg d (wipeE env vs)) fun env1 => M.bind (t env1) fun b => if b = true then (r env1 >>= fun x => loopC asg t r p.2 ds (wipeE env vs) >>= fun xs => pure (x :: xs)) else loopC asg t r p.2 ds (wipeE env vs)) mu2 := rfl
    rw [e0] at hp2
    unfold M.bind at hp2
    have hch : ∀ q ∈ p.2, mu2[q.1]? = some (.lst q.2) := by
      unfold chk at hp2
      by_cases z : ∀ q ∈ p.2, mu2[q.1]? = some (.lst q.2)
      · exact z
      · rw [if_neg z] at hp2; exact (show False from hp2).elim
    have ec : chk p.2 mu2 = .ok () mu2 := by unfold chk; rw [if_pos hch]
    rw [ec] at hp2
    dsimp only at hp2
    have hdi : p.1[i]? = some d := by
      have e : (p.1.drop i)[0]? = some d := by rw [hd]; rfl
      rw [List.getElem?_drop] at e
      simpa using e
    have hds : p.1.drop (i + 1) = ds := by
      have e := congrArg List.tail hd
      rw [List.tail_drop] at e
      exact e
    have hil : i < p.1.length := (List.getElem?_eq_some_iff.mp hdi).1
    obtain ⟨go, yl⟩ := (ok m2 mu2 H2 g2 R2 hch).2 i d hdi
    -- the turn's end: nothing is added, or a datum
    have fin : ∀ (acc' : List D) (vs' : List V) (m3 : Mp) (mu3 : List MO) (H3 : Hp), acc'.length ≤ i + 1 → H3 Dd = some (.lst vs') → Dd ∈ m3.no → Dd ∉ m3.ad → Reps X.K m3 H3 acc' vs' → Rel X.K m3 mu3 H3 → RepE X.K m3 H3 (wipeE env vs) (L2.wipe σ vs) → Grow m1 m3 H1 H3 →
        (Post X.K W0 m1 H1 (loopC asg t r p.2 ds (wipeE env vs) mu3) fun xs m' mu' H' => NewL X.K H (acc' ++ xs) m' mu' H' Q) → ∃ m', m' < (d :: ds).length ∧ ∃ rest acc vs2 m2 mu2, m' = rest.length ∧ p.1.drop (i + 1) = rest ∧ acc.length ≤ i + 1 ∧ H3 Dd = some (.lst vs2) ∧ Dd ∈ m2.no ∧ Dd ∉ m2.ad ∧ Reps X.K m2 H3 acc vs2 ∧ Rel X.K m2 mu2 H3 ∧ RepE X.K m2 H3 (wipeE env vs) (L2.wipe σ vs) ∧ Grow m1 m2 H1 H3 ∧
      Post X.K W0 m1 H1 (loopC asg t r p.2 rest (wipeE env vs) mu2) fun xs m' mu' H' => NewL X.K H (acc ++ xs) m' mu' H' Q := fun acc' vs' m3 mu3 H3 a1 a2 a3 a4 a5 a6 a7 a8 a9 =>
      ⟨ds.length, Nat.lt_succ_self _, ds, acc', vs', m3, mu3, rfl, hds, a1, a2, a3, a4, a5, a6, a7, a8, a9⟩
    refine .inr ⟨go, fun H3 => ∃ m', m' < (d :: ds).length ∧ ∃ rest acc vs2 m2 mu2, m' = rest.length ∧ p.1.drop (i + 1) = rest ∧ acc.length ≤ i + 1 ∧ H3 Dd = some (.lst vs2) ∧ Dd ∈ m2.no ∧ Dd ∉ m2.ad ∧ Reps X.K m2 H3 acc vs2 ∧ Rel X.K m2 mu2 H3 ∧ RepE X.K m2 H3 (wipeE env vs) (L2.wipe σ vs) ∧ Grow m1 m2 H1 H3 ∧
      Post X.K W0 m1 H1 (loopC asg t r p.2 rest (wipeE env vs) mu2) fun xs m' mu' H' => NewL X.K H (acc ++ xs) m' mu' H' Q, fun H3 h => h, fun x H3 y => ?_⟩
    obtain ⟨gy, Ry, rx⟩ := yl x H3 y
    refine ⟨d, wipeE env vs, m2, mu2, hE2.grow gy, Ry, rx, ?_⟩
    have stay : ∀ (m3 : Mp) (H4 : Hp), Grow m2 m3 H2 H4 → H4 Dd = some (.lst vs2) ∧ Dd ∈ m3.no ∧ Dd ∉ m3.ad := fun m3 H4 g => by
      obtain ⟨l', k', e1, e2, _, _⟩ := g.ext
      exact ⟨g.oth Dd _ hH2 had, by rw [e2]; exact List.mem_append_left _ hno, g.notin hH2 had⟩
    cases ha1 : asg d (wipeE env vs) mu2 with
    | bad => rw [ha1] at hp2; exact (show False from hp2).elim
    | exc ex mu4 => rw [ha1] at hp2; exact fun m4 H4 g4 R4 => hp2 m4 H4 ((g2.trans gy).trans g4) R4
    | ok env1 mu4 =>
      rw [ha1] at hp2
      dsimp only at hp2
      intro m4 H4 g4 R4 σ2 hE4 off
      refine ⟨wipe_off off hl, env1, m4, mu4, hE4, R4, ?_⟩
      cases ht1 : t env1 mu4 with
      | bad => rw [ht1] at hp2; exact (show False from hp2).elim
      | exc ex mu5 => rw [ht1] at hp2; exact fun m5 H5 g5 R5 => hp2 m5 H5 (((g2.trans gy).trans g4).trans g5) R5
      | ok b mu5 =>
        rw [ht1] at hp2
        dsimp only at hp2
        intro m5 H5 g5 R5
        have g25 : Grow m2 m5 H2 H5 := (gy.trans g4).trans g5
        cases b with
        | false =>
          simp only [Bool.false_eq_true, if_false] at hp2 ⊢
          obtain ⟨s1, s2, s3⟩ := stay m5 H5 g25
          exact fin acc vs2 m5 mu5 H5 (Nat.le_succ_of_le ha) s1 s2 s3 (Reps.grow g25 acc vs2 hacc) R5 (hE2.grow g25) (g2.trans g25) hp2
        | true =>
          simp only [if_true] at hp2 ⊢
          refine ⟨env1, m5, mu5, hE4.grow g5, R5, ?_⟩
          have hp2 : Post X.K W0 m1 H1 (M.bind (r env1) (fun x => loopC asg t r p.2 ds (wipeE env vs) >>= fun xs => pure (x :: xs)) mu5) fun xs m' mu' H' => NewL X.K H (acc ++ xs) m' mu' H' Q := hp2
          unfold M.bind at hp2
          cases hr1 : r env1 mu5 with
          | bad => rw [hr1] at hp2; exact (show False from hp2).elim
          | exc ex mu6 => rw [hr1] at hp2; exact fun m6 H6 g6 R6 => hp2 m6 H6 ((g2.trans g25).trans g6) R6
          | ok yd mu6 =>
            rw [hr1] at hp2
            dsimp only at hp2
            intro m6 H6 g6 R6 v rv
            have g26 : Grow m2 m6 H2 H6 := g25.trans g6
            obtain ⟨s1, s2, s3⟩ := stay m6 H6 g26
            have hlen := hacc.length
            refine ⟨vs2, s1, by omega, ?_⟩
            have nD : ∀ b o, H6 b = some o → m6.Out b → b ≠ Dd := fun b o _ n z => n.2 (by rw [z]; exact s2)
            have kp : Keep m6 m6 H6 (upd H6 Dd (.lst (vs2 ++ [v]))) := ⟨fun _ _ h => h, fun a o h n => ⟨by rw [upd_ne (nD a o h n)]; exact h, n⟩, fun a xs h => by rw [upd_ne (fun z => by rw [z, s1] at h; cases h)]; exact h, fun a u xs h => by rw [upd_ne (fun z => by rw [z, s1] at h; cases h)]; exact h⟩
            have g6f : Grow m1 m6 H1 (upd H6 Dd (.lst (vs2 ++ [v]))) := by
              have g16 := g2.trans g26
              refine ⟨g16.ext, fun a o h n => ?_, fun a xs h => ?_, fun a o u h => ?_, fun a o h => ?_⟩
              · rw [upd_ne (hdead a o h)]; exact g16.oth a o h n
              · rw [upd_ne (hdead a _ h)]; exact g16.tups a xs h
              · rw [upd_ne (hdead a _ h)]; exact g16.frzs a o u h
              · rw [upd_ne (hdead a o h)]; exact g16.trk a o h
            refine fin (acc ++ [yd]) (vs2 ++ [v]) m6 mu6 _ (by rw [List.length_append]; simp only [List.length_cons, List.length_nil]; omega) upd_same s2 s3 ((Reps.keep kp acc vs2 (Reps.grow g26 acc vs2 hacc)).append (Reps.one (Rep.keep kp yd v rv))) ?_ ((hE2.grow g26).keep kp) g6f ?_
            · refine ⟨R6.len, R6.nd, fun a z => ?_, R6.dj, fun n ob a h1 h2 => (R6.obj n ob a h1 h2).keep kp fun u q => ?_⟩
              · by_cases za : a = Dd
                · subst za; exact ⟨_, upd_same⟩
                · rw [upd_ne za]; exact R6.nos a z
              · rw [upd_ne (fun z => s3 (by rw [← z]; exact List.mem_of_getElem? h2))]; exact q
            · refine (Post.bind hp2).mono fun xs m' mu' H' _ R' q => ?_
              have q2 := Post.pure q R'
              rw [show acc ++ [yd] ++ xs = acc ++ yd :: xs by simp]
              exact q2
theorem mf_comp {scope : Scope} {own : List (Str × Nat)} {w : Env → M Wk} {asg : D → Env → M Env} {t : Env → M Bool} {r : Env → M D} {l : List Nat} (hc : X.calm = true) (hN : X.N.Nodup) (hi : MI X W tg iter w) (ok : BlkOk X.N X.env.scope scope own) (hl : ∀ i ∈ l, i ∈ own.map (·.2))
    (hg : ∀ (s : Shared) (H : Hp) (C : Addr) (cl : List (Str × Addr)) (fp : List Addr), MG (X.blk s H scope (compEnvC scope cl C X.env) fp) W0 tg l asg) (ht : ∀ (s : Shared) (H : Hp) (C : Addr) (cl : List (Str × Addr)) (fp : List Addr), MTs (X.blk s H scope (compEnvC scope cl C X.env) fp) W0 ifs t)
    (he : ∀ (s : Shared) (H : Hp) (C : Addr) (cl : List (Str × Addr)) (fp : List Addr), ME (X.blk s H scope (compEnvC scope cl C X.env) fp) W0 elt r) (hs : ∀ x, foldedSetIterable iter X.env x = pure x := by intro _; rfl) :
    MF X W (.ListComp elt [⟨tg, iter, ifs, 0⟩] scope pos) (fComp w asg t r (own.map (·.2))) :=
  ⟨(pe_lc hc hN hi.pi ok (fun s H C cl fp => (hg s H C cl fp).pg) (fun s H C cl fp => (ht s H C cl fp).pt) (fun s H C cl fp => (he s H C cl fp).pe) hs).imp (comp_go hl rfl)⟩
/-- name = [..], by what becomes of the new list -/
theorem tAsg_imp {te te' : TE} {i : Nat} (h : ∀ σ H Q, te' σ H Q → te σ H Q) : ∀ D σ H, tAsg te' (gName i) D σ H → tAsg te (gName i) D σ H := fun D σ H q => h σ H _ q
theorem ms_setC {i : Nat} {y : Str} {py spos : Pos} {scope : Scope} {own : List (Str × Nat)} {w : Env → M Wk} {asg : D → Env → M Env} {t : Env → M Bool} {r : Env → M D} {l : List Nat} {rr : Env → M D} (hc : X.calm = true) (hN : X.N.Nodup) (hy : X.N[i]? = some y) (hyl : X.env.scope.names.lookup y = some .local)
    (hsw : swapsWith (.ListComp elt [⟨tg, iter, ifs, 0⟩] scope pos) (some (.Name y py)) spos.line X.env = pure true) (hi : MI X W tg iter w) (ok : BlkOk X.N X.env.scope scope own) (hl : ∀ i ∈ l, i ∈ own.map (·.2))
    (hg : ∀ (s : Shared) (H : Hp) (C : Addr) (cl : List (Str × Addr)) (fp : List Addr), MG (X.blk s H scope (compEnvC scope cl C X.env) fp) W0 tg l asg) (ht : ∀ (s : Shared) (H : Hp) (C : Addr) (cl : List (Str × Addr)) (fp : List Addr), MTs (X.blk s H scope (compEnvC scope cl C X.env) fp) W0 ifs t)
    (he : ∀ (s : Shared) (H : Hp) (C : Addr) (cl : List (Str × Addr)) (fp : List Addr), ME (X.blk s H scope (compEnvC scope cl C X.env) fp) W0 elt r)
    (hrr : ∀ σ H Q, tE X.K W rr σ H Q → tF X.K W (fComp w asg t r (own.map (·.2))) σ H Q) (hs : ∀ x, foldedSetIterable iter X.env x = pure x := by intro _; rfl) :
    MS X W (.Assign [.Name y py] (.ListComp elt [⟨tg, iter, ifs, 0⟩] scope pos) spos) (sSet i rr) :=
  ⟨(ps_setLc hc hN hy hyl hsw hi.pi ok (fun s H C cl fp => (hg s H C cl fp).pg) (fun s H C cl fp => (ht s H C cl fp).pt) (fun s H C cl fp => (he s H C cl fp).pe) hs).imp fun D σ H q => comp_go hl rfl σ H _ (hrr σ H _ (set_go D σ H q))⟩
theorem fl_go {r : Env → M (List D)} : ∀ σ H Q, tE X.K W (eFl r) σ H Q → tF X.K W r σ H Q := fun σ H Q ⟨env, m, mu, hE, hR, hp⟩ =>
  ⟨env, m, mu, hE, hR, (Post.bind hp).mono fun xs m1 mu1 H1 g1 R1 hp a vs h0 h1 hn hr _ => Post.pure hp R1 _ (by simp only [Rep]; exact ⟨a, vs, rfl, h1, hn, hr⟩)⟩
theorem new_go {r : Env → M (List D)} : ∀ σ H Q, tE X.K W (eNew r) σ H Q → tF X.K W r σ H Q := fun σ H Q ⟨env, m, mu, hE, hR, hp⟩ => by
  refine ⟨env, m, mu, hE, hR, ?_⟩
  have e0 : eNew r env mu = M.bind (r env) (fun xs => alloc (.lst xs)) mu := rfl
  rw [e0] at hp
  unfold M.bind at hp
  cases hr : r env mu with
  | ok xs mu1 =>
    rw [hr] at hp
    intro m1 H1 g1 R1 a vs h0 h1 hn hrs ha
    have q := hp (m1.add a) H1 (g1.adopt h0) ha (.ref a)
    exact q (by simp only [Rep]; exact ⟨a, rfl, add_get R1⟩)
  | exc x mu1 => rw [hr] at hp; exact hp
  | bad => rw [hr] at hp; exact hp
end
end MP
namespace MP
open PySem L2 PyProof.Rows
/-! ### what a def promises -/
/-- an exception as it flies -/
def XRep (mg : Str → Option Value) (K : PySem.W.Frag) (m : Mp) (H : Hp) (x : Xn) (cls : Value) (d : Option Addr) : Prop := mg x.cls = some cls ∧ match d with
  | none => x.fs = []
  | some p => ∃ gs : List (Str × V), H p = some (.xd gs) ∧ gs.map (·.1) = x.fs.map (·.1) ∧ Reps K m H (x.fs.map (·.2)) (gs.map (·.2))
def WE (mg : Str → Option Value) (K : PySem.W.Frag) (E : XK) : Wx := fun x m H => ∀ cls d, XRep mg K m H x cls d → E cls d H
def sp (K : PySem.W.Frag) (mg : Str → Option Value) (n : Nat) (den : List D → M Rv) : Sp := fun vs H Q E => vs.length = n ∧ ∃ ds m mu, Reps K m H ds vs ∧ Rel K m mu H ∧ Post K (WE mg K E) m H (den ds mu) fun rv m' mu' H' => RvQ K H rv m' mu' H' Q
def startE (n : Nat) (ds : List D) : Env := ds.map some ++ List.replicate (n - ds.length) none
/-- a body run at its arguments -/
def runB (n : Nat) (r : Env → M Fl) (ds : List D) : M Rv := fun mu => match r (startE n ds) mu with
  | .ok (.rt rv) mu' => .ok rv mu'
  | .ok (.nx _) mu' => .ok (.vl .non) mu'
  | .ok _ _ => .bad
  | .exc x mu' => .exc x mu'
  | .bad => .bad
/-- a datum out of what comes back -/
def rvD : Rv → D
  | .vl d => d
  | .fr ds => .fl ds
section
variable {P : Program} {w : World} {K : PySem.W.Frag} {mg : Str → Option Value} {base : Heap}
theorem startE_rep {m : Mp} {H : Hp} {ds : List D} {vs : List V} {N : List Str} (h : Reps K m H ds vs) : RepE K m H (startE N.length ds) (L2.start N vs) := by
  refine ⟨by unfold startE L2.start; rw [List.length_append, List.length_append, List.length_map, List.length_map, List.length_replicate, List.length_replicate, h.length], fun i d e => ?_⟩
  unfold startE at e
  by_cases hi : i < ds.length
  · rw [List.getElem?_append_left (by rw [List.length_map]; exact hi), List.getElem?_map] at e
    obtain ⟨x, hx, ex⟩ := Option.map_eq_some_iff.mp e
    cases ex
    obtain ⟨v, hv, rv⟩ := h.get hx
    refine ⟨v, ?_, rv⟩
    unfold L2.start
    rw [List.getElem?_append_left (by rw [List.length_map, ← h.length]; exact hi), List.getElem?_map, hv]
    rfl
  · rw [List.getElem?_append_right (by rw [List.length_map]; omega), List.getElem?_replicate] at e
    split at e <;> cases e
/-- a def that raises nothing, by its body -/
theorem fn_mp {x qual : Str} {st : Stmt} {f : Addr} {fd : FuncData} {N ps : List Str} {k n : Nat} {r : Env → M Fl} (F : Fun K x qual st f fd) (S : FnScope N ps (defScope st)) (hn : ps.length = n)
    (hbody : ∀ (cdv : Value) (A : Around) (outer : List PySem.Env) (s : Shared) (H : Hp) (E : XK), Room k (A.deeper (envOfC qual (defScope st) s.heap.objs.size f cdv)) → MSs (cxOf CX0 P w K mg base N qual (defScope st) f cdv A outer s H E).nox W0 (defBody st) r) :
    FnOk P w K mg base CX0 (k + 1) f fd ps (sp K mg n fun ds => noX (runB N.length r ds)) := by
  refine F.ok S (fun vs H Q E h => h.1.trans hn.symm) fun cdv A outer s H vs Q E hr h => ?_
  obtain ⟨_, ds, m, mu, hr1, R, hp⟩ := h
  refine ⟨_, (hbody cdv A outer s H E hr).ps, startE N.length ds, m, mu, startE_rep hr1, R, ?_⟩
  have hp := noX_post hp
  have e : runB N.length r ds mu = match r (startE N.length ds) mu with
    | .ok (.rt rv) mu' => .ok rv mu'
    | .ok (.nx _) mu' => .ok (.vl .non) mu'
    | .ok _ _ => .bad
    | .exc x mu' => .exc x mu'
    | .bad => .bad := rfl
  rw [e] at hp
  cases hq : r (startE N.length ds) mu with
  | bad => rw [hq] at hp; exact hp
  | exc x mu' => rw [hq] at hp; exact hp
  | ok fl mu' =>
    rw [hq] at hp
    cases fl with
    | rt rv => exact hp
    | nx e => exact fun m' H' g R' σ' _ => hp m' H' g R' .non (by simp only [Rep])
    | bk e => exact (show False from hp).elim
    | ct e => exact (show False from hp).elim
end
section
variable {X : Cx} {W : Wx} {CX : CXT} {k n : Nat} {f : Addr} {fd : FuncData} {ps : List Str} {den : List D → M Rv} {E : XK} {x : Str} {p pos : Pos} {e : Expr} {es : List Expr} {ds : List Value}
/-- what a callee lets out is wanted here -/
def XOk (CX : CXT) (X : Cx) (W : Wx) : Prop := ∃ E : XK, Passes CX X E ∧ ∀ x m H, W x m H → WE X.mg X.K E x m H
theorem xok0 {W : Wx} : XOk CX0 X W := ⟨fun _ _ _ => True, fun _ _ _ _ _ _ _ h => h.elim, fun _ _ _ _ _ _ _ => trivial⟩
def eCall (den : List D → M Rv) (rs : Env → M (List D)) : Env → M D := fun env => rs env >>= fun xs => den xs >>= fun rv => pure (rvD rv)
theorem Post.wx' {K : PySem.W.Frag} {W W' : Wx} {m : Mp} {H : Hp} {α : Type} {r : R α} {Q : α → Mp → List MO → Hp → Prop} (h : Post K W m H r Q) (hw : ∀ x m H, W x m H → W' x m H) : Post K W' m H r Q := Post.wx h hw
/-- f(e, ..) -/
theorem me_call {rs : Env → M (List D)} (F : FnOk X.prog X.w X.K X.mg X.base CX k f fd ps (sp X.K X.mg n den)) (hr : Room k X.A) (hg : Gl X x) (hm : X.mg x = some (.ref f)) (hk : PySem.W.keepIn X.K (.ref f) = true) (hb : Binds X.K fd ps []) (hx : XOk CX X W)
    (ha : MA X W (e :: es) rs) (hl : n = (e :: es).length) (hdb : (x == ("__debug__" : Str)) = false := by decide) (he : starEach (e :: es) X.env = (false, eval e X.env) :: starEach es X.env := by rfl) (hpl : (backTo pos (starEach es X.env)).any (·.1) = false := by rfl) :
    ME X W (.Call (.Name x p) (e :: es) [] pos) (eCall (fun ds mu => if ds.length = n then den ds mu else .bad) rs) := by
  obtain ⟨E, hE0, hW⟩ := hx
  refine ⟨(pe_call F hr hg hm hk hb .nil hE0 ha.pa hdb he hpl).imp fun σ H Q ⟨env, m, mu, hE, hR, hp⟩ => ⟨env, m, mu, hE, hR, (Post.bind hp).mono fun xs m1 mu1 H1 g1 R1 hp1 vs rv => ?_⟩⟩
  by_cases hlen : xs.length = n
  · have hp2 : Post X.K W m1 H1 (if xs.length = n then den xs mu1 else .bad) _ := Post.bind hp1
    rw [if_pos hlen] at hp2
    have hp1 := hp2
    refine ⟨by rw [List.append_nil, ← rv.length]; exact hlen, xs, m1, mu1, by rw [List.append_nil]; exact rv, R1, (Post.wx hp1 hW).mono fun r2 m2 mu2 H2 g2 R2 hp2 => ?_⟩
    cases r2 with
    | vl d => exact fun v rv => Post.pure (a := d) hp2 R2 v rv
    | fr ds => exact fun a vs h0 h1 hn hr _ => Post.pure (a := D.fl ds) hp2 R2 _ (by simp only [Rep]; exact ⟨a, vs, rfl, h1, hn, hr⟩)
  · have hp2 : Post X.K W m1 H1 (if xs.length = n then den xs mu1 else .bad) _ := Post.bind hp1
    rw [if_neg hlen] at hp2
    exact (show False from hp2).elim
/-- .. that hands back a new list -/
def fCall (den : List D → M Rv) (rs : Env → M (List D)) : Env → M (List D) := fun env => rs env >>= fun xs => den xs >>= fun rv => match rv with
  | .fr ds => pure ds
  | .vl _ => bad
theorem mf_call {rs : Env → M (List D)} (F : FnOk X.prog X.w X.K X.mg X.base CX k f fd ps (sp X.K X.mg n den)) (hr : Room k X.A) (hg : Gl X x) (hm : X.mg x = some (.ref f)) (hk : PySem.W.keepIn X.K (.ref f) = true) (hb : Binds X.K fd ps []) (hx : XOk CX X W)
    (ha : MA X W (e :: es) rs) (hl : n = (e :: es).length) (hdb : (x == ("__debug__" : Str)) = false := by decide) (he : starEach (e :: es) X.env = (false, eval e X.env) :: starEach es X.env := by rfl) (hpl : (backTo pos (starEach es X.env)).any (·.1) = false := by rfl) :
    MF X W (.Call (.Name x p) (e :: es) [] pos) (fCall (fun ds mu => if ds.length = n then den ds mu else .bad) rs) := by
  obtain ⟨E, hE0, hW⟩ := hx
  refine ⟨(pe_call F hr hg hm hk hb .nil hE0 ha.pa hdb he hpl).imp fun σ H Q ⟨env, m, mu, hE, hR, hp⟩ => ⟨env, m, mu, hE, hR, (Post.bind hp).mono fun xs m1 mu1 H1 g1 R1 hp1 vs rv => ?_⟩⟩
  by_cases hlen : xs.length = n
  · have hp2 : Post X.K W m1 H1 (if xs.length = n then den xs mu1 else .bad) _ := Post.bind hp1
    rw [if_pos hlen] at hp2
    have hp1 := hp2
    refine ⟨by rw [List.append_nil, ← rv.length]; exact hlen, xs, m1, mu1, by rw [List.append_nil]; exact rv, R1, (Post.wx hp1 hW).mono fun r2 m2 mu2 H2 g2 R2 hp2 => ?_⟩
    cases r2 with
    | vl d => exact (show False from hp2).elim
    | fr ds => exact NewL.from (Post.pure (a := ds) hp2 R2) g1
  · have hp2 : Post X.K W m1 H1 (if xs.length = n then den xs mu1 else .bad) _ := Post.bind hp1
    rw [if_neg hlen] at hp2
    exact (show False from hp2).elim
end
/-! ### what is left behind is forgotten, what comes back is frozen -/
mutual
/-- refs from k on are read as they stand at the end; ok: the places that may be frozen -/
inductive Frz (mu : List MO) (k : Nat) (ok : Nat → Prop) : D → D → Prop
  | non : Frz mu k ok .non .non
  | bl (b : Bool) : Frz mu k ok (.bl b) (.bl b)
  | int (i : Int) : Frz mu k ok (.int i) (.int i)
  | str (x : Str) : Frz mu k ok (.str x) (.str x)
  | tup {xs ys : List D} : Frzs mu k ok xs ys → Frz mu k ok (.tup xs) (.tup ys)
  | fl {xs ys : List D} : Frzs mu k ok xs ys → Frz mu k ok (.fl xs) (.fl ys)
  | ro {xs ys : List D} : Frzs mu k ok xs ys → Frz mu k ok (.ro xs) (.ro ys)
  | fd {ks : List Key} {xs ys : List D} : Frzs mu k ok xs ys → Frz mu k ok (.fd ks xs) (.fd ks ys)
  | ref {n : Nat} : n < k → Frz mu k ok (.ref n) (.ref n)
  | lst {n : Nat} {xs ys : List D} : k ≤ n → ok n → mu[n]? = some (.lst xs) → Frzs mu k ok xs ys → Frz mu k ok (.ref n) (.fl ys)
  | dk {n : Nat} {kvs : List (Key × D)} {ys : List D} : k ≤ n → ok n → mu[n]? = some (.dk kvs) → Frzs mu k ok (kvs.map (·.2)) ys → Frz mu k ok (.ref n) (.fd (kvs.map (·.1)) ys)
inductive Frzs (mu : List MO) (k : Nat) (ok : Nat → Prop) : List D → List D → Prop
  | nil : Frzs mu k ok [] []
  | cons {x y : D} {xs ys : List D} : Frz mu k ok x y → Frzs mu k ok xs ys → Frzs mu k ok (x :: xs) (y :: ys)
end
inductive FrzO (mu : List MO) (k : Nat) (ok : Nat → Prop) : MO → MO → Prop
  | lst {xs ys : List D} : Frzs mu k ok xs ys → FrzO mu k ok (.lst xs) (.lst ys)
  | dk {kvs kws : List (Key × D)} : kvs.map (·.1) = kws.map (·.1) → Frzs mu k ok (kvs.map (·.2)) (kws.map (·.2)) → FrzO mu k ok (.dk kvs) (.dk kws)
/-- the first places, frozen -/
structure FrzH (mu : List MO) (ok : Nat → Prop) (nu : List MO) : Prop where
  le : nu.length ≤ mu.length
  at_ : ∀ (n : Nat) (o o' : MO), mu[n]? = some o → nu[n]? = some o' → FrzO mu nu.length ok o o'
inductive FrzR (mu nu : List MO) : Rv → Rv → Prop
  | vl {d d' : D} : FrzH mu (fun _ => True) nu → Frz mu nu.length (fun _ => True) d d' → FrzR mu nu (.vl d) (.vl d')
  | newL {n : Nat} {xs ys : List D} : nu.length ≤ n → mu[n]? = some (.lst xs) → FrzH mu (fun j => j ≠ n) nu → Frzs mu nu.length (fun j => j ≠ n) xs ys → FrzR mu nu (.vl (.ref n)) (.fr ys)
  | fr {xs ys : List D} : FrzH mu (fun _ => True) nu → Frzs mu nu.length (fun _ => True) xs ys → FrzR mu nu (.fr xs) (.fr ys)
  | frv {xs ys : List D} : FrzH mu (fun _ => True) nu → Frzs mu nu.length (fun _ => True) xs ys → FrzR mu nu (.fr xs) (.vl (.fl ys))
section
variable {K : PySem.W.Frag} {m mm : Mp} {H : Hp} {mu nu : List MO} {k : Nat} {ok : Nat → Prop}
theorem zip_len {α β : Type} : ∀ {ks : List α} {vs : List β}, ks.length = vs.length → (ks.zip vs).map (·.2) = vs
  | [], [], _ => rfl
  | _ :: ks, v :: vs, h => by rw [List.zip_cons_cons, List.map_cons, zip_len (by simpa using h)]
mutual
theorem Frz.rep (R : Rel K m mu H) (h1 : ∀ n a, n < k → m.ad[n]? = some a → mm.ad[n]? = some a) (h2 : ∀ a, m.Out a → mm.Out a) (h3 : ∀ n a, k ≤ n → ok n → m.ad[n]? = some a → mm.Out a) : ∀ {d d' : D} {v : V}, Frz mu k ok d d' → Rep K m H d v → Rep K mm H d' v
  | _, _, v, .non, h => by simp only [Rep] at h ⊢; exact h
  | _, _, v, .bl _, h => by simp only [Rep] at h ⊢; exact h
  | _, _, v, .int _, h => by simp only [Rep] at h ⊢; exact h
  | _, _, v, .str _, h => by simp only [Rep] at h ⊢; exact h
  | _, _, v, .tup q, h => by
    simp only [Rep] at h ⊢
    obtain ⟨a, vs, e, hs, hr⟩ := h
    exact ⟨a, vs, e, hs, Frzs.rep R h1 h2 h3 q hr⟩
  | _, _, v, .fl q, h => by
    simp only [Rep] at h ⊢
    obtain ⟨a, vs, e, hs, hn, hr⟩ := h
    exact ⟨a, vs, e, hs, h2 a hn, Frzs.rep R h1 h2 h3 q hr⟩
  | _, _, v, .ro q, h => by
    simp only [Rep] at h ⊢
    obtain ⟨a, vs, e, hs, hr⟩ := h
    exact ⟨a, vs, e, hs, Frzs.rep R h1 h2 h3 q hr⟩
  | _, _, v, .fd q, h => by
    simp only [Rep] at h ⊢
    obtain ⟨a, vs, e, hs, hn, hl, hr⟩ := h
    have hr' := Frzs.rep R h1 h2 h3 q hr
    exact ⟨a, vs, e, hs, h2 a hn, by rw [hl, hr.length, hr'.length], hr'⟩
  | _, _, v, .ref hk, h => by
    simp only [Rep] at h ⊢
    obtain ⟨a, e, hm⟩ := h
    exact ⟨a, e, h1 _ a hk hm⟩
  | _, _, v, .lst hk ho hx q, h => by
    simp only [Rep] at h ⊢
    obtain ⟨a, e, hm⟩ := h
    obtain ⟨vs, hH, hr⟩ := R.obj _ _ a hx hm
    exact ⟨a, vs, e, hH, h3 _ a hk ho hm, Frzs.rep R h1 h2 h3 q hr⟩
  | _, _, v, .dk hk ho hx q, h => by
    simp only [Rep] at h ⊢
    obtain ⟨a, e, hm⟩ := h
    obtain ⟨vs, hH, hr⟩ := R.obj _ _ a hx hm
    have hr' := Frzs.rep R h1 h2 h3 q hr
    refine ⟨a, vs, e, hH, h3 _ a hk ho hm, ?_, hr'⟩
    have := hr.length
    rw [List.length_map] at this
    rw [List.length_map, this, hr'.length]
theorem Frzs.rep (R : Rel K m mu H) (h1 : ∀ n a, n < k → m.ad[n]? = some a → mm.ad[n]? = some a) (h2 : ∀ a, m.Out a → mm.Out a) (h3 : ∀ n a, k ≤ n → ok n → m.ad[n]? = some a → mm.Out a) : ∀ {ds es : List D} {vs : List V}, Frzs mu k ok ds es → Reps K m H ds vs → Reps K mm H es vs
  | _, _, vs, .nil, h => by rw [Reps.nil_iff] at h ⊢; exact h
  | _, _, vs, .cons q qs, h => by
    obtain ⟨v, r, e, r1, r2⟩ := Reps.cons_iff.mp h
    exact Reps.cons_iff.mpr ⟨v, r, e, Frz.rep R h1 h2 h3 q r1, Frzs.rep R h1 h2 h3 qs r2⟩
end
theorem FrzO.rep (R : Rel K m mu H) (h1 : ∀ n a, n < k → m.ad[n]? = some a → mm.ad[n]? = some a) (h2 : ∀ a, m.Out a → mm.Out a) (h3 : ∀ n a, k ≤ n → ok n → m.ad[n]? = some a → mm.Out a) {a : Addr} {o o' : MO} (q : FrzO mu k ok o o') (h : RepO K m H a o) : RepO K mm H a o' := by
  cases q with
  | lst q => obtain ⟨vs, hH, hr⟩ := h; exact ⟨vs, hH, Frzs.rep R h1 h2 h3 q hr⟩
  | dk e q => obtain ⟨vs, hH, hr⟩ := h; exact ⟨vs, by rw [← e]; exact hH, Frzs.rep R h1 h2 h3 q hr⟩
/-- the first places alone -/
def Mp.cut (m : Mp) (k : Nat) : Mp := ⟨m.ad.take k, m.no⟩
theorem cut_get {n : Nat} {a : Addr} (hn : n < k) (h : m.ad[n]? = some a) : (m.cut k).ad[n]? = some a := by
  show (m.ad.take k)[n]? = some a
  rw [List.getElem?_take_of_lt hn]; exact h
theorem cut_out {a : Addr} (h : m.Out a) : (m.cut k).Out a := ⟨fun z => h.1 (List.mem_of_mem_take z), h.2⟩
theorem cut_not {n : Nat} {a : Addr} (R : Rel K m mu H) (hk : k ≤ n) (h : m.ad[n]? = some a) : (m.cut k).Out a := by
  refine ⟨fun z => ?_, R.dj a (List.mem_of_getElem? h)⟩
  obtain ⟨j, hj⟩ := List.mem_iff_getElem?.mp (show a ∈ m.ad.take k from z)
  have hjk : j < k := by
    have := (List.getElem?_eq_some_iff.mp hj).1
    rw [List.length_take] at this
    omega
  rw [List.getElem?_take_of_lt hjk] at hj
  have := nodup_ix' R.nd hj h
  omega
theorem FrzH.rel (R : Rel K m mu H) {ok : Nat → Prop} (q : FrzH mu ok nu) (mm : Mp) (he : mm.ad = m.ad.take nu.length) (hno : mm.no = m.no) : Rel K mm nu H := by
  have e : mm = m.cut nu.length := by cases mm; simp only at he hno; rw [he, hno]; rfl
  subst e
  refine ⟨by show (m.ad.take nu.length).length = _; rw [List.length_take, R.len]; have := q.le; omega, R.nd.sublist (List.take_sublist _ _), R.nos, fun a ha => R.dj a (List.mem_of_mem_take ha), fun n o' a h1 h2 => ?_⟩
  have hn : n < nu.length := (List.getElem?_eq_some_iff.mp h1).1
  have h2' : m.ad[n]? = some a := by
    have h2 : (m.ad.take nu.length)[n]? = some a := h2
    rw [List.getElem?_take_of_lt hn] at h2; exact h2
  obtain ⟨o, ho, hr⟩ := R.at' h2'
  exact (q.at_ n o o' ho h1).rep R (fun n a hk h => cut_get hk h) (fun a h => cut_out h) (fun n a hk _ h => cut_not R hk h) hr
end
end MP
namespace MP
open PySem L2 PyProof.Rows
/-! ### a datum that names only old places is its own freezing -/
def Clo (k : Nat) (d : D) : Prop := ∀ mu ok, Frz mu k ok d d
def Clos (k : Nat) (ds : List D) : Prop := ∀ mu ok, Frzs mu k ok ds ds
theorem Clos.nil {k : Nat} : Clos k [] := fun _ _ => .nil
theorem Clos.cons {k : Nat} {d : D} {ds : List D} (h : Clo k d) (hs : Clos k ds) : Clos k (d :: ds) := fun mu ok => .cons (h mu ok) (hs mu ok)
theorem Clos.inv {k : Nat} {d : D} {ds : List D} (h : Clos k (d :: ds)) : Clo k d ∧ Clos k ds := ⟨fun mu ok => by
  have := h mu ok
  cases this with
  | cons a b => exact a, fun mu ok => by
  have := h mu ok
  cases this with
  | cons a b => exact b⟩
theorem Clos.mem {k : Nat} : ∀ {ds : List D}, Clos k ds → ∀ d ∈ ds, Clo k d
  | d :: ds, h, x, hx => by
    rcases List.mem_cons.mp hx with e | e
    · rw [e]; exact h.inv.1
    · exact Clos.mem h.inv.2 x e
theorem Clos.of {k : Nat} : ∀ {ds : List D}, (∀ d ∈ ds, Clo k d) → Clos k ds
  | [], _ => .nil
  | d :: ds, h => .cons (h d (by simp)) (Clos.of fun x hx => h x (by simp [hx]))
theorem Clo.tup {k : Nat} {ds : List D} : Clo k (.tup ds) ↔ Clos k ds := ⟨fun h mu ok => by
  have := h mu ok
  cases this with
  | tup q => exact q, fun h mu ok => .tup (h mu ok)⟩
theorem Clo.fl {k : Nat} {ds : List D} : Clo k (.fl ds) ↔ Clos k ds := ⟨fun h mu ok => by
  have := h mu ok
  cases this with
  | fl q => exact q, fun h mu ok => .fl (h mu ok)⟩
theorem Clo.ro {k : Nat} {ds : List D} : Clo k (.ro ds) ↔ Clos k ds := ⟨fun h mu ok => by
  have := h mu ok
  cases this with
  | ro q => exact q, fun h mu ok => .ro (h mu ok)⟩
theorem Clo.fd {k : Nat} {ks : List Key} {ds : List D} : Clo k (.fd ks ds) ↔ Clos k ds := ⟨fun h mu ok => by
  have := h mu ok
  cases this with
  | fd q => exact q, fun h mu ok => .fd (h mu ok)⟩
theorem Clo.ref {k n : Nat} : Clo k (.ref n) ↔ n < k := ⟨fun h => by
  have := h [] (fun _ => False)
  cases this with
  | ref h => exact h, fun h mu ok => .ref h⟩
theorem Clo.non {k : Nat} : Clo k .non := fun _ _ => .non
theorem Clo.bl {k : Nat} {b : Bool} : Clo k (.bl b) := fun _ _ => .bl b
theorem Clo.int {k : Nat} {i : Int} : Clo k (.int i) := fun _ _ => .int i
theorem Clo.str {k : Nat} {x : Str} : Clo k (.str x) := fun _ _ => .str x
section
variable {K : PySem.W.Frag} {m mm : Mp} {H : Hp} {mu nu : List MO} {k : Nat} {ok : Nat → Prop}
mutual
theorem Rep.clo : ∀ {d : D} {v : V}, Rep K m H d v → Clo m.ad.length d
  | .non, v, _ => Clo.non
  | .bl b, v, _ => Clo.bl
  | .int i, v, _ => Clo.int
  | .str x, v, _ => Clo.str
  | .tup ds, v, h => by
    simp only [Rep] at h
    obtain ⟨a, vs, e, hs, hr⟩ := h
    exact Clo.tup.mpr (Reps.clo hr)
  | .fl ds, v, h => by
    simp only [Rep] at h
    obtain ⟨a, vs, e, hs, hn, hr⟩ := h
    exact Clo.fl.mpr (Reps.clo hr)
  | .ro ds, v, h => by
    simp only [Rep] at h
    obtain ⟨a, vs, e, hs, hr⟩ := h
    exact Clo.ro.mpr (Reps.clo hr)
  | .fd ks ds, v, h => by
    simp only [Rep] at h
    obtain ⟨a, vs, e, hs, hn, hl, hr⟩ := h
    exact Clo.fd.mpr (Reps.clo hr)
  | .ref n, v, h => by
    simp only [Rep] at h
    obtain ⟨a, e, hm⟩ := h
    exact Clo.ref.mpr (List.getElem?_eq_some_iff.mp hm).1
theorem Reps.clo : ∀ {ds : List D} {vs : List V}, Reps K m H ds vs → Clos m.ad.length ds
  | [], vs, _ => Clos.nil
  | d :: ds, vs, h => by
    obtain ⟨v, r, e, r1, r2⟩ := Reps.cons_iff.mp h
    exact Clos.cons (Rep.clo r1) (Reps.clo r2)
end
def CloO (k : Nat) : MO → Prop
  | .lst xs => Clos k xs
  | .dk kvs => Clos k (kvs.map (·.2))
/-- a small heap that names only its own places -/
def CloH (mu : List MO) : Prop := ∀ o ∈ mu, CloO mu.length o
theorem Rel.clo (R : Rel K m mu H) : CloH mu := fun o ho => by
  obtain ⟨n, hn⟩ := List.mem_iff_getElem?.mp ho
  obtain ⟨a, _, hr⟩ := R.at hn
  rw [← R.len]
  cases o with
  | lst xs => obtain ⟨vs, _, h⟩ := hr; exact Reps.clo h
  | dk kvs => obtain ⟨vs, _, h⟩ := hr; exact Reps.clo h
theorem CloO.frz {o : MO} (h : CloO k o) : FrzO mu k ok o o := by
  cases o with
  | lst xs => exact .lst (h mu ok)
  | dk kvs => exact .dk rfl (h mu ok)
/-- what stands ahead of new places stays as it is -/
theorem CloH.frz (h : CloH mu) (ex : List MO) : FrzH (mu ++ ex) ok mu := ⟨by rw [List.length_append]; omega, fun n o o' h1 h2 => by
  rw [List.getElem?_append_left (List.getElem?_eq_some_iff.mp h2).1, h2] at h1
  cases h1
  exact (h o (List.mem_of_getElem? h2)).frz⟩
theorem Frz.weak {mu mu' : List MO} {k : Nat} {ok ok' : Nat → Prop} (h : ∀ n o, mu[n]? = some o → ok n → mu'[n]? = some o ∧ ok' n) : (∀ {d d' : D}, Frz mu k ok d d' → Frz mu' k ok' d d') ∧ (∀ {d d' : List D}, Frzs mu k ok d d' → Frzs mu' k ok' d d') := by
  have key : ∀ {d d' : D} (q : Frz mu k ok d d'), Frz mu' k ok' d d' := by
    intro d d' q
    exact Frz.rec (motive_1 := fun d d' _ => Frz mu' k ok' d d') (motive_2 := fun d d' _ => Frzs mu' k ok' d d') .non .bl .int .str (fun _ q => .tup q) (fun _ q => .fl q) (fun _ q => .ro q) (fun _ q => .fd q) .ref (fun hk ho hx _ q => .lst hk (h _ _ hx ho).2 (h _ _ hx ho).1 q) (fun hk ho hx _ q => .dk hk (h _ _ hx ho).2 (h _ _ hx ho).1 q) .nil (fun _ _ q qs => .cons q qs) q
  refine ⟨key, ?_⟩
  intro d d' q
  exact Frzs.rec (motive_1 := fun d d' _ => Frz mu' k ok' d d') (motive_2 := fun d d' _ => Frzs mu' k ok' d d') .non .bl .int .str (fun _ q => .tup q) (fun _ q => .fl q) (fun _ q => .ro q) (fun _ q => .fd q) .ref (fun hk ho hx _ q => .lst hk (h _ _ hx ho).2 (h _ _ hx ho).1 q) (fun hk ho hx _ q => .dk hk (h _ _ hx ho).2 (h _ _ hx ho).1 q) .nil (fun _ _ q qs => .cons q qs) q
theorem FrzO.weak {mu mu' : List MO} {k : Nat} {ok ok' : Nat → Prop} (h : ∀ n o, mu[n]? = some o → ok n → mu'[n]? = some o ∧ ok' n) {o o' : MO} (q : FrzO mu k ok o o') : FrzO mu' k ok' o o' := by
  cases q with
  | lst q => exact .lst ((Frz.weak h).2 q)
  | dk e q => exact .dk e ((Frz.weak h).2 q)
/-- a list handed out of the small heap -/
theorem frz_add {n : Nat} {a : Addr} {vs : List V} {xs ys : List D} (R : Rel K m mu H) (q : FrzH mu (fun j => j ≠ n) nu) (hk : nu.length ≤ n) (hx : mu[n]? = some (.lst xs)) (hm : m.ad[n]? = some a) (hys : Frzs mu nu.length (fun j => j ≠ n) xs ys) (hv : H a = some (.lst vs)) (hr : Reps K m H xs vs) :
    (m.cut nu.length).Out a ∧ Reps K (m.cut nu.length) H ys vs ∧ Rel K ((m.cut nu.length).add a) (nu ++ [.lst ys]) H := by
  have hout := cut_not (k := nu.length) R hk hm
  have R1 := q.rel R (m.cut nu.length) rfl rfl
  have g1 : ∀ n' a', n' < nu.length → m.ad[n']? = some a' → ((m.cut nu.length).add a).ad[n']? = some a' := fun n' a' h e => by
    show ((m.cut nu.length).ad ++ [a])[n']? = some a'
    rw [List.getElem?_append_left (by rw [R1.len]; exact h)]
    exact cut_get h e
  have g2 : ∀ a', m.Out a' → ((m.cut nu.length).add a).Out a' := fun a' h => ⟨fun z => by
    rcases List.mem_append.mp (show a' ∈ (m.cut nu.length).ad ++ [a] from z) with z | z
    · exact (cut_out h).1 z
    · rw [List.mem_singleton.mp z] at h
      exact h.1 (List.mem_of_getElem? hm), h.2⟩
  have g3 : ∀ n' a', nu.length ≤ n' → n' ≠ n → m.ad[n']? = some a' → ((m.cut nu.length).add a).Out a' := fun n' a' h1 h2 e => ⟨fun z => by
    rcases List.mem_append.mp (show a' ∈ (m.cut nu.length).ad ++ [a] from z) with z | z
    · exact (cut_not R h1 e).1 z
    · rw [List.mem_singleton.mp z] at e
      exact h2 (nodup_ix' R.nd e hm), R.dj a' (List.mem_of_getElem? e)⟩
  refine ⟨hout, hys.rep R (fun n a hk h => cut_get hk h) (fun a h => cut_out h) (fun n a hk _ h => cut_not R hk h) hr, ?_⟩
  refine ⟨?_, ?_, R.nos, ?_, ?_⟩
  · show ((m.cut nu.length).ad ++ [a]).length = _
    rw [List.length_append, List.length_append, R1.len]; rfl
  · show ((m.cut nu.length).ad ++ [a]).Nodup
    rw [List.nodup_append]
    exact ⟨R1.nd, by simp, fun x hx y hy e => by rw [List.mem_singleton.mp hy] at e; rw [e] at hx; exact hout.1 hx⟩
  · intro a' ha'
    rcases List.mem_append.mp (show a' ∈ (m.cut nu.length).ad ++ [a] from ha') with z | z
    · exact R1.dj a' z
    · rw [List.mem_singleton.mp z]; exact hout.2
  · intro n' o' a' h1 h2
    have h2 : ((m.cut nu.length).ad ++ [a])[n']? = some a' := h2
    by_cases hn' : n' < nu.length
    · rw [List.getElem?_append_left hn'] at h1
      rw [List.getElem?_append_left (by rw [R1.len]; exact hn')] at h2
      have h2 : (m.ad.take nu.length)[n']? = some a' := h2
      rw [List.getElem?_take_of_lt hn'] at h2
      obtain ⟨o, ho, hr'⟩ := R.at' h2
      exact (q.at_ n' o o' ho h1).rep R g1 g2 g3 hr'
    · rw [List.getElem?_append_right (by omega)] at h1
      rw [List.getElem?_append_right (by rw [R1.len]; omega), R1.len] at h2
      have e0 : n' - nu.length = 0 := by
        have := (List.getElem?_eq_some_iff.mp h1).1
        simp only [List.length_cons, List.length_nil] at this
        omega
      rw [e0] at h1 h2
      simp only [List.getElem?_cons_zero, Option.some.injEq] at h1 h2
      subst h1 h2
      exact ⟨vs, hv, hys.rep R g1 g2 g3 hr⟩
/-- the law of an answer that has been frozen -/
inductive FrzX (mu nu : List MO) : Xn → Xn → Prop
  | mk {c : Str} {ks : List Str} {xs ys : List D} : ks.length = xs.length → ks.length = ys.length → FrzH mu (fun _ => True) nu → Frzs mu nu.length (fun _ => True) xs ys → FrzX mu nu ⟨c, ks.zip xs⟩ ⟨c, ks.zip ys⟩
/-- den is as den' says, but for what is left behind -/
def GC (n : Nat) (den den' : List D → M Rv) : Prop := ∀ ds mu, ds.length = n → Clos mu.length ds → CloH mu → match den' ds mu with
  | .bad => True
  | .ok rv' nu => ∃ rv mu', den ds mu = .ok rv mu' ∧ mu.length ≤ nu.length ∧ FrzR mu' nu rv rv'
  | .exc x' nu => ∃ x mu', den ds mu = .exc x mu' ∧ mu.length ≤ nu.length ∧ FrzX mu' nu x x'
theorem Grow.cut {m m' : Mp} {H H' : Hp} {k : Nat} (g : Grow m m' H H') (hk : m.ad.length ≤ k) : Grow m (m'.cut k) H H' := by
  obtain ⟨l, j, e1, e2, hl, hj⟩ := g.ext
  refine ⟨⟨l.take (k - m.ad.length), j, ?_, e2, fun a ha => hl a (List.mem_of_mem_take ha), hj⟩, g.oth, g.tups, g.frzs, g.trk⟩
  show m'.ad.take k = _
  rw [e1, List.take_append, List.take_of_length_le hk]
theorem Grow.new {m m' : Mp} {H H' : Hp} (g : Grow m m' H H') {n : Nat} {a : Addr} (hn : m.ad.length ≤ n) (h : m'.ad[n]? = some a) : H a = none := by
  obtain ⟨l, j, e1, _, hl, _⟩ := g.ext
  rw [e1, List.getElem?_append_right hn] at h
  exact hl a (List.mem_of_getElem? h)
theorem Post.gc {W : Wx} {m : Mp} {den den' : List D → M Rv} {n : Nat} {ds : List D} {vs : List V} {Q : VK} (hg : GC n den den') (hn : ds.length = n) (hr : Reps K m H ds vs) (R : Rel K m mu H)
    (hW : ∀ x x' mu' nu m' H', FrzX mu' nu x x' → Rel K m' mu' H' → W x' (m'.cut nu.length) H' → W x m' H')
    (hp : Post K W m H (den' ds mu) fun rv m' mu' H' => RvQ K H rv m' mu' H' Q) : Post K W m H (den ds mu) fun rv m' mu' H' => RvQ K H rv m' mu' H' Q := by
  have hc := hg ds mu hn (by rw [← R.len]; exact hr.clo) R.clo
  cases e : den' ds mu with
  | bad => rw [e] at hp; exact (show False from hp).elim
  | exc x' nu =>
    rw [e] at hc hp
    obtain ⟨x, mu', e', hl, hx⟩ := hc
    rw [e']
    intro m' H' g R'
    refine hW x x' mu' nu m' H' hx R' (hp _ H' (g.cut (by rw [R.len]; exact hl)) ?_)
    cases hx with
    | mk _ _ hh _ => exact hh.rel R' _ rfl rfl
  | ok rv' nu =>
    rw [e] at hc hp
    obtain ⟨rv, mu', e', hl, hf⟩ := hc
    rw [e']
    intro m' H' g R'
    have gc := g.cut (k := nu.length) (by rw [R.len]; exact hl)
    cases hf with
    | vl hh hd =>
      have hq := hp _ H' gc (hh.rel R' _ rfl rfl)
      exact fun v rv => hq v (hd.rep R' (fun n a hk h => cut_get hk h) (fun a h => cut_out h) (fun n a hk _ h => cut_not R' hk h) rv)
    | newL hk hx hh hys =>
      have hq := hp _ H' gc (hh.rel R' _ rfl rfl)
      intro v rv
      simp only [Rep] at rv
      obtain ⟨a, ev, hm⟩ := rv
      obtain ⟨vs, hv, hr'⟩ := R'.obj _ _ a hx hm
      obtain ⟨h1, h2, h3⟩ := frz_add R' hh hk hx hm hys hv hr'
      rw [ev]
      exact hq a vs (g.new (by rw [R.len]; omega) hm) hv h1 h2 h3
    | fr hh hys =>
      have hq := hp _ H' gc (hh.rel R' _ rfl rfl)
      rename_i xs ys
      intro a vs h0 h1 ho hr' R2
      have hm : (m'.add a).ad[mu'.length]? = some a := by
        show (m'.ad ++ [a])[mu'.length]? = some a
        rw [List.getElem?_append_right (by rw [R'.len]; exact Nat.le_refl _), R'.len]; simp
      have hx : (mu' ++ [MO.lst xs])[mu'.length]? = some (.lst xs) := by
        rw [List.getElem?_append_right (Nat.le_refl _)]; simp
      have wk : ∀ n o, mu'[n]? = some o → True → (mu' ++ [MO.lst xs])[n]? = some o ∧ n ≠ mu'.length := fun n o h _ => by
        have := (List.getElem?_eq_some_iff.mp h).1
        exact ⟨by rw [List.getElem?_append_left this]; exact h, by omega⟩
      have hh' : FrzH (mu' ++ [MO.lst xs]) (fun j => j ≠ mu'.length) nu := ⟨by rw [List.length_append]; have := hh.le; omega, fun n o o' h1 h2 => by
        have hlt : n < mu'.length := Nat.lt_of_lt_of_le (List.getElem?_eq_some_iff.mp h2).1 hh.le
        rw [List.getElem?_append_left hlt] at h1
        exact (hh.at_ n o o' h1 h2).weak wk⟩
      have hr2 : Reps K (m'.add a) H' xs vs := by
        obtain ⟨vs2, hv2, hr2⟩ := R2.obj _ _ a hx hm
        rw [h1] at hv2
        cases hv2
        exact hr2
      obtain ⟨q1, q2, q3⟩ := frz_add R2 hh' (by have := hh.le; omega) hx hm ((Frz.weak wk).2 hys) h1 hr2
      have ec : (m'.add a).cut nu.length = m'.cut nu.length := by
        show Mp.mk ((m'.ad ++ [a]).take nu.length) m'.no = Mp.mk (m'.ad.take nu.length) m'.no
        rw [List.take_append_of_le_length (by rw [R'.len]; exact hh.le)]
      rw [ec] at q1 q2 q3
      exact hq a vs h0 h1 q1 q2 q3
    | frv hh hys =>
      have hq := hp _ H' gc (hh.rel R' _ rfl rfl)
      intro a vs h0 h1 ho hr' R2
      refine hq (.ref a) ?_
      simp only [Rep]
      exact ⟨a, vs, rfl, h1, cut_out ho, hys.rep R' (fun n a hk h => cut_get hk h) (fun a h => cut_out h) (fun n a hk _ h => cut_not R' hk h) hr'⟩
theorem XRep.gc {mg : Str → Option Value} {m : Mp} {x x' : Xn} (hx : FrzX mu nu x x') (R : Rel K m mu H) {cls : Value} {d : Option Addr} (h : XRep mg K m H x cls d) : XRep mg K (m.cut nu.length) H x' cls d := by
  cases hx with
  | @mk c ks xs ys l1 l2 hh hf =>
    obtain ⟨h1, h2⟩ := h
    refine ⟨h1, ?_⟩
    cases d with
    | none =>
      have h2 : ks.zip xs = [] := h2
      show ks.zip ys = []
      cases ks with
      | nil => rfl
      | cons k ks => cases xs with
        | nil => simp at l1
        | cons x xs => simp at h2
    | some p =>
      obtain ⟨gs, g1, g2, g3⟩ := h2
      refine ⟨gs, g1, ?_, ?_⟩
      · rw [g2]
        show (ks.zip xs).map (·.1) = (ks.zip ys).map (·.1)
        rw [List.map_fst_zip (by omega), List.map_fst_zip (by omega)]
      · show Reps K _ H ((ks.zip ys).map (·.2)) _
        have g3 : Reps K m H ((ks.zip xs).map (·.2)) _ := g3
        rw [zip_len l2]
        rw [zip_len l1] at g3
        exact hf.rep R (fun n a hk h => cut_get hk h) (fun a h => cut_out h) (fun n a hk _ h => cut_not R hk h) g3
end
/-- a def's promise, without what it leaves behind -/
theorem sp_gc {P : Program} {w : World} {K : PySem.W.Frag} {mg : Str → Option Value} {base : Heap} {CX : CXT} {k n : Nat} {f : Addr} {fd : FuncData} {ps : List Str} {den den' : List D → M Rv} (F : FnOk P w K mg base CX k f fd ps (sp K mg n den)) (hg : GC n den den') : FnOk P w K mg base CX k f fd ps (sp K mg n den') :=
  F.imp fun vs H Q E ⟨h1, ds, m, mu, hr, R, hp⟩ => ⟨h1, ds, m, mu, hr, R, Post.gc hg (by rw [hr.length]; exact h1) hr R (fun x x' mu' nu m' H' hx R' hw cls d h => hw cls d (XRep.gc hx R' h)) hp⟩
end MP
namespace MP
open PySem L2 PyProof.Rows
/-! ### dicts that change -/
def mapV {β : Type} (kvs : List (Key × β)) (k : Key) (y : β) : List (Key × β) := kvs.map fun kv => if kv.1 = k then (kv.1, y) else kv
def putD {β : Type} (kvs : List (Key × β)) (k : Key) (y : β) : List (Key × β) := if (kvs.any fun kv => decide (kv.1 = k)) = true then mapV kvs k y else kvs ++ [(k, y)]
theorem mapV_keys {β : Type} {k : Key} {y : β} : ∀ (kvs : List (Key × β)), (mapV kvs k y).map (·.1) = kvs.map (·.1)
  | [] => rfl
  | p :: r => by
    have ih := mapV_keys (k := k) (y := y) r
    unfold mapV at ih ⊢
    rw [List.map_cons, List.map_cons, List.map_cons, ih]
    by_cases e : p.1 = k
    · rw [if_pos e]
    · rw [if_neg e]
theorem any_zip {α : Type} {k : Key} : ∀ (kvs : List (Key × α)) {β : Type} (vs : List β), kvs.length = vs.length → (((kvs.map (·.1)).zip vs).any fun kv => decide (kv.1 = k)) = kvs.any fun kv => decide (kv.1 = k)
  | [], _, _, _ => by simp
  | p :: r, _, [], h => by simp at h
  | p :: r, _, v :: vs, h => by
    rw [List.map_cons, List.zip_cons_cons, List.any_cons, List.any_cons, any_zip r vs (by simpa using h)]
theorem mapV_rep {K : PySem.W.Frag} {m : Mp} {H : Hp} {k : Key} {d : D} {v : V} (hd : Rep K m H d v) : ∀ {kvs : List (Key × D)} {vs : List V}, Reps K m H (kvs.map (·.2)) vs → Reps K m H ((mapV kvs k d).map (·.2)) ((mapV ((kvs.map (·.1)).zip vs) k v).map (·.2))
  | [], vs, h => by rw [List.map_nil, Reps.nil_iff] at h; subst h; exact Reps.nil_iff.mpr rfl
  | p :: r, vs, h => by
    rw [List.map_cons] at h
    obtain ⟨w, ws, rfl, h1, h2⟩ := Reps.cons_iff.mp h
    have ih := mapV_rep (k := k) hd h2
    unfold mapV at ih ⊢
    rw [List.map_cons, List.map_cons, List.map_cons, List.zip_cons_cons, List.map_cons, List.map_cons]
    refine Reps.cons_iff.mpr ⟨_, _, rfl, ?_, ih⟩
    by_cases e : p.1 = k
    · rw [if_pos e, if_pos e]; exact hd
    · rw [if_neg e, if_neg e]; exact h1
theorem put_rep {K : PySem.W.Frag} {m : Mp} {H : Hp} {k : Key} {d : D} {v : V} {kvs : List (Key × D)} {vs : List V} (h : Reps K m H (kvs.map (·.2)) vs) (hd : Rep K m H d v) : ∃ ws, putK ((kvs.map (·.1)).zip vs) k v = ((putD kvs k d).map (·.1)).zip ws ∧ ∀ m' H', Reps K m' H' (kvs.map (·.2)) vs → Rep K m' H' d v → Reps K m' H' ((putD kvs k d).map (·.2)) ws := by
  have hl : kvs.length = vs.length := by have := h.length; rwa [List.length_map] at this
  unfold putK putD
  rw [any_zip kvs vs hl]
  by_cases a : (kvs.any fun kv => decide (kv.1 = k)) = true
  · rw [if_pos a, if_pos a]
    refine ⟨(mapV ((kvs.map (·.1)).zip vs) k v).map (·.2), ?_, fun m' H' h hd => mapV_rep hd h⟩
    rw [mapV_keys]
    have e : (mapV ((kvs.map (·.1)).zip vs) k v).map (·.1) = kvs.map (·.1) := by rw [mapV_keys, List.map_fst_zip (by rw [List.length_map]; omega)]
    have z := zip_keys (mapV ((kvs.map (·.1)).zip vs) k v)
    rw [e] at z
    exact z.symm
  · rw [if_neg a, if_neg a]
    refine ⟨vs ++ [v], ?_, fun m' H' h hd => ?_⟩
    · rw [List.map_append, List.zip_append (by rw [List.length_map]; exact hl)]; rfl
    · rw [List.map_append]; exact h.append (Reps.one hd)
def putM (o k v : D) : M D := toR o >>= fun n => toK k >>= fun kk => modD n fun kvs => if kvs.length < sizeLine then some (putD kvs kk v, .non) else none
section
variable {X : Cx} {W : Wx} {e o a b c value i : Expr} {es : List Expr} {pos apos cpos tpos p pos' : Pos}
theorem putM_ok {K : PySem.W.Frag} {W : Wx} {m : Mp} {H : Hp} {mu : List MO} {o k d : D} {x y v : V} {Q : D → Mp → List MO → Hp → Prop} (R : Rel K m mu H) (ho : Rep K m H o x) (hk : Rep K m H k y) (hd : Rep K m H d v) (hp : Post K W m H (putM o k d mu) Q) :
    ∃ a H4 mu', x = .ref a ∧ DPut H a y v H4 ∧ Grow m m H H4 ∧ Rel K m mu' H4 ∧ Q .non m mu' H4 := by
  unfold putM at hp
  obtain ⟨n, a, rfl, rfl, hm, hp⟩ := toR_ok R ho (Post.bind hp)
  obtain ⟨kk, rfl, hp⟩ := toK_ok R hk (Post.bind hp)
  obtain ⟨kvs, us, ys, d', hH, hrs, hf, hg, hq⟩ := modD_ok R hm hp
  by_cases hl : kvs.length < sizeLine
  · rw [if_pos hl] at hf
    cases hf
    obtain ⟨ws, e, hr⟩ := put_rep (k := kk) hrs hd
    have gg := hg (((putD kvs kk d).map (·.1)).zip ws)
    have rr := hr m _ (Reps.grow gg _ _ hrs) (Rep.grow gg _ _ hd)
    have hlen : ((kvs.map (·.1)).zip us).length = kvs.length := by have := hrs.length; rw [List.length_map] at this; rw [List.length_zip, List.length_map, ← this, Nat.min_self]
    exact ⟨a, _, _, rfl, by rw [← e]; exact DPut.k hH (by rw [hlen]; exact hl), gg, R.write hm (show RepO K m _ a (.dk (putD kvs kk d)) from ⟨ws, upd_same, rr⟩), hq ws rr⟩
  · rw [if_neg hl] at hf; cases hf
/-- d[k] = v -/
def sDput (ro ri rv : Env → M D) : Env → M Fl := fun env => rv env >>= fun v => ro env >>= fun o => ri env >>= fun i => putM o i v >>= fun _ => pure (.nx env)
theorem ms_dput {ro ri rv : Env → M D} (hu : X.A.units + 1 < cLine) (ho : ME X W o ro) (hi : ME X W i ri) (hv : ME X W value rv) (hs : swapsWith value (some (.Subscript o i pos')) pos.line X.env = pure false := by rfl) :
    MS X W (.Assign [.Subscript o i pos'] value pos) (sDput ro ri rv) := ⟨(ps_dput hu ho.pe hi.pe hv.pe hs).imp fun D σ H ⟨env, m, mu, hE, hR, hp⟩ =>
  ⟨env, m, mu, hE, hR, (Post.bind hp).mono fun v m1 mu1 H1 g1 R1 hp vv rv => ⟨env, m1, mu1, hE.grow g1, R1, (Post.bind hp).mono fun o m2 mu2 H2 g2 R2 hp ov ro => ⟨env, m2, mu2, (hE.grow g1).grow g2, R2, (Post.bind hp).mono fun i m3 mu3 H3 g3 R3 hp iv ri => by
    obtain ⟨a, H4, mu4, ex, hd, g4, R4, hq⟩ := putM_ok R3 (Rep.grow g3 o ov ro) ri (Rep.grow g3 v vv (Rep.grow g2 v vv rv)) (Post.bind hp)
    exact ⟨a, H4, ex, hd, (Post.pure hq R4) σ ((((hE.grow g1).grow g2).grow g3).grow g4)⟩⟩⟩⟩⟩
/-- d.get(k), d.get(k, x) -/
def dctK (o : D) : M Unit := rdD o >>= fun _ => pure ()
def eGet1 (ro ri : Env → M D) : Env → M D := fun env => ro env >>= fun o => dctK o >>= fun _ => ri env >>= fun y => rdD o >>= fun kvs => toK y >>= fun k => pure ((valD kvs k).getD .non)
def eGet2 (ro ri rx : Env → M D) : Env → M D := fun env => ro env >>= fun o => dctK o >>= fun _ => ri env >>= fun y => rx env >>= fun x => rdD o >>= fun kvs => toK y >>= fun k => pure ((valD kvs k).getD x)
theorem dctK_ok {K : PySem.W.Frag} {W : Wx} {m : Mp} {H : Hp} {mu : List MO} {d : D} {v : V} {Q : Unit → Mp → List MO → Hp → Prop} (R : Rel K m mu H) (h : Rep K m H d v) (hp : Post K W m H (dctK d mu) Q) : ∃ a, v = .ref a ∧ IsD H a ∧ Q () m mu H := by
  obtain ⟨a, kvs, vs, rfl, hH, hr, hp⟩ := rdD_ok R h (Post.bind hp)
  exact ⟨a, rfl, .inl ⟨_, .inl hH⟩, Post.pure hp R⟩
theorem me_get1 {ro ri : Env → M D} (hu : X.A.units + 1 < cLine) (ho : ME X W o ro) (hi : ME X W e ri) (m : M1 X o "get" apos e cpos := by exact ⟨rfl, rfl, rfl, rfl⟩) : ME X W (.Call (.Attribute o "get" apos) [e] [] cpos) (eGet1 ro ri) := ⟨(pe_dget1 hu ho.pe hi.pe m).imp fun σ H Q ⟨env, m, mu, hE, hR, hp⟩ =>
  ⟨env, m, mu, hE, hR, (Post.bind hp).mono fun o m1 mu1 H1 g1 R1 hp ov ro => by
    obtain ⟨a, rfl, hi, hp⟩ := dctK_ok R1 ro (Post.bind hp)
    refine ⟨a, rfl, hi, env, m1, mu1, hE.grow g1, R1, (Post.bind hp).mono fun y m2 mu2 H2 g2 R2 hp yv ry => ?_⟩
    obtain ⟨p, kvs, vs, e, hH, hr, hp⟩ := rdD_ok R2 (Rep.grow g2 o _ ro) (Post.bind hp)
    cases e
    obtain ⟨k, rfl, hp⟩ := toK_ok R2 ry (Post.bind hp)
    rcases valD_get k hH hr with ⟨d, z, e, rz, g⟩ | ⟨e, g⟩
    · rw [e] at hp
      exact ⟨_, g, Post.pure hp R2 z rz⟩
    · rw [e] at hp
      exact ⟨_, g, Post.pure hp R2 .non (by simp only [Rep, Option.getD_none])⟩⟩⟩
theorem me_get2 {ro ri rx : Env → M D} (hu : X.A.units + 1 < cLine) (ho : ME X W o ro) (hi : ME X W e ri) (hx : ME X W c rx) (m : M2 X o "get" apos e c cpos := by exact ⟨rfl, rfl, rfl, rfl⟩) : ME X W (.Call (.Attribute o "get" apos) [e, c] [] cpos) (eGet2 ro ri rx) := ⟨(pe_dget2 hu ho.pe hi.pe hx.pe m).imp fun σ H Q ⟨env, m, mu, hE, hR, hp⟩ =>
  ⟨env, m, mu, hE, hR, (Post.bind hp).mono fun o m1 mu1 H1 g1 R1 hp ov ro => by
    obtain ⟨a, rfl, hi, hp⟩ := dctK_ok R1 ro (Post.bind hp)
    refine ⟨a, rfl, hi, env, m1, mu1, hE.grow g1, R1, (Post.bind hp).mono fun y m2 mu2 H2 g2 R2 hp yv ry => ⟨env, m2, mu2, (hE.grow g1).grow g2, R2, (Post.bind hp).mono fun x m3 mu3 H3 g3 R3 hp xv rx => ?_⟩⟩
    obtain ⟨p, kvs, vs, e, hH, hr, hp⟩ := rdD_ok R3 (Rep.grow g3 o _ (Rep.grow g2 o _ ro)) (Post.bind hp)
    cases e
    obtain ⟨k, rfl, hp⟩ := toK_ok R3 (Rep.grow g3 y _ ry) (Post.bind hp)
    rcases valD_get k hH hr with ⟨d, z, e, rz, g⟩ | ⟨e, g⟩
    · rw [e] at hp
      exact ⟨_, g, Post.pure hp R3 z rz⟩
    · rw [e] at hp
      exact ⟨_, g, Post.pure hp R3 xv rx⟩⟩⟩
/-! ### isinstance -/
def tyD : D → M String
  | .non => pure "NoneType"
  | .bl _ => pure "bool"
  | .int _ => pure "int"
  | .str _ => pure "str"
  | .tup _ => pure "tuple"
  | .fl _ => pure "list"
  | .ro _ => pure "list"
  | .fd _ _ => pure "dict"
  | .ref n => fun mu => match mu[n]? with
    | some (.lst _) => .ok "list" mu
    | some (.dk _) => .ok "dict" mu
    | none => .bad
def tys : List String := ["NoneType", "bool", "int", "str", "tuple", "list", "dict"]
theorem tyD_ok {K : PySem.W.Frag} {W : Wx} {m : Mp} {H : Hp} {mu : List MO} {d : D} {v : V} {Q : String → Mp → List MO → Hp → Prop} (R : Rel K m mu H) (h : Rep K m H d v) (hp : Post K W m H (tyD d mu) Q) : ∃ t, t ∈ tys ∧ TyX K H v (.type t) ∧ Q t m mu H := by
  cases d <;> simp only [Rep] at h
  case non => subst h; exact ⟨_, by simp [tys], .base .non, Post.pure hp R⟩
  case bl b => subst h; exact ⟨_, by simp [tys], .base (.bl b), Post.pure hp R⟩
  case int b => subst h; exact ⟨_, by simp [tys], .base (.int b), Post.pure hp R⟩
  case str b => subst h; exact ⟨_, by simp [tys], .base (.str b), Post.pure hp R⟩
  case tup ds =>
    obtain ⟨a, vs, rfl, hs, _⟩ := h
    refine ⟨"tuple", by simp [tys], ?_, Post.pure hp R⟩
    rcases hs with (hs | ⟨o, hs⟩) | ⟨o, its, n, hs, hc, _⟩
    · exact .base (.tup hs)
    · exact .fTuple hs
    · exact .kTuple hs hc
  case fl ds =>
    obtain ⟨a, vs, rfl, hs, _⟩ := h
    exact ⟨"list", by simp [tys], .base (.lst hs), Post.pure hp R⟩
  case ro ds =>
    obtain ⟨a, vs, rfl, hs, _⟩ := h
    refine ⟨"list", by simp [tys], ?_, Post.pure hp R⟩
    rcases hs with ⟨o, hs⟩ | ⟨o, its, n, hs, hc, _⟩
    · exact .base (.frz hs)
    · exact .kList hs hc
  case fd ks ds =>
    obtain ⟨a, vs, rfl, hs, _⟩ := h
    exact ⟨"dict", by simp [tys], .base (.dK hs), Post.pure hp R⟩
  case ref n =>
    obtain ⟨a, rfl, hm⟩ := h
    obtain ⟨o, ho, hr⟩ := R.at' hm
    have e1 : tyD (.ref n) mu = match mu[n]? with
      | some (.lst _) => MP.R.ok "list" mu
      | some (.dk _) => .ok "dict" mu
      | none => .bad := rfl
    rw [e1, ho] at hp
    cases o with
    | lst xs => obtain ⟨vs, hH, _⟩ := hr; exact ⟨"list", by simp [tys], .base (.lst hH), hp m H .refl R⟩
    | dk xs => obtain ⟨vs, hH, _⟩ := hr; exact ⟨"dict", by simp [tys], .base (.dK hH), hp m H .refl R⟩
def isiB (t T : String) : Bool := t == T || (t == "bool" && T == "int")
theorem isi_tab : ∀ T ∈ (["bool", "int", "str", "tuple", "list", "dict"] : List String), ∀ t ∈ tys, kitB t T = some (isiB t T) := by decide +kernel
def gIsi (T : String) (x : D) : M D := tyD x >>= fun t => pure (.bl (isiB t T))
theorem me_isi {T : String} {x y : Str} {r : Env → M D} (hT : T ∈ (["bool", "int", "str", "tuple", "list", "dict"] : List String)) (hg : Gl X x) (hm : X.mg x = none) (hv : bootBuiltins x = some (.builtin "isinstance")) (hg' : Gl X y) (hm' : X.mg y = none) (hv' : bootBuiltins y = some (.type T)) (h : ME X W e r)
    (hn : x ≠ "__name__" := by decide) (hdb : (x == ("__debug__" : Str)) = false := by decide) (hn' : y ≠ "__name__" := by decide) (hdb' : (y == ("__debug__" : Str)) = false := by decide)
    (h1 : starEach [.Name y pos'] X.env = (false, eval (.Name y pos') X.env) :: starEach [] X.env := by rfl)
    (he : starEach [e, .Name y pos'] X.env = (false, eval e X.env) :: starEach [.Name y pos'] X.env := by rfl) (hpl : (backTo pos (starEach [.Name y pos'] X.env)).any (·.1) = false := by rfl) : ME X W (.Call (.Name x p) [e, .Name y pos'] [] pos) (eMap (gIsi T) r) :=
  ⟨(pe_callB call_isi hg hm hv (pa_cons h.pe (pa_cons (pe_bltn hg' hm' hv' (v := .ty T) rfl hn' hdb') pa_nil h1) he) hn hdb he hpl).imp fun σ H Q ⟨env, m, mu, hE, hR, hp⟩ =>
    ⟨env, m, mu, hE, hR, (Post.bind hp).mono fun d m1 mu1 H1 g1 R1 hp v rv => by
      obtain ⟨t, ht, ty, hp⟩ := tyD_ok R1 rv (Post.bind hp)
      exact ⟨v, .ty T, .type t, .type T, isiB t T, rfl, .ty T, ty, kit_ty (isi_tab T hT t ht), Post.pure hp R1 _ (by simp only [Rep])⟩⟩⟩
end
/-! ### sorted -/
def leS (x y : Str) : Bool := !Spec.ltCps y.cps.toList x.cps.toList
theorem leS_iff {x y : Str} : leS x y = true ↔ x.cps.toList ≤ y.cps.toList := by
  unfold leS
  rw [ltCps_eq, Bool.not_eq_true', decide_eq_false_iff_not]
  exact Iff.rfl
theorem leS_trans (a b c : Str) (h : leS a b = true) (h' : leS b c = true) : leS a c = true := leS_iff.mpr (List.le_trans (leS_iff.mp h) (leS_iff.mp h'))
theorem leS_total (a b : Str) : (leS a b || leS b a) = true := by
  rw [Bool.or_eq_true, leS_iff, leS_iff]
  exact List.le_total _ _
theorem leS_anti {a b : Str} (h : leS a b = true) (h' : leS b a = true) : a = b := by
  have e := List.le_antisymm (leS_iff.mp h) (leS_iff.mp h')
  cases a; cases b
  simp only at e
  congr 1
  exact Array.toList_inj.mp e
theorem risingS_pw : ∀ (l : List Str) (p : Str), risingS p l = true → (p :: l).Pairwise fun a b => leS a b = true
  | [], p, _ => List.pairwise_singleton ..
  | x :: r, p, h => by
    rw [risingS, Bool.and_eq_true] at h
    have ih := risingS_pw r x h.2
    refine List.pairwise_cons.mpr ⟨fun y hy => ?_, ih⟩
    rcases List.mem_cons.mp hy with e | hy
    · rw [e]; exact h.1
    · exact leS_trans p x y h.1 ((List.pairwise_cons.mp ih).1 y hy)
theorem sortedS_pw : ∀ {l : List Str}, sortedS l = true → l.Pairwise fun a b => leS a b = true
  | [], _ => List.Pairwise.nil
  | x :: r, h => risingS_pw r x h
def srtS (xs : List Str) : List Str := xs.mergeSort leS
def srtI (xs : List Int) : List Int := xs.mergeSort fun a b => decide (a ≤ b)
theorem srtS_eq {xs ys : List Str} (h : ys.Perm xs) (hs : sortedS ys = true) : ys = srtS xs :=
  List.Perm.eq_of_pairwise (le := fun a b => leS a b = true) (fun a b _ _ h h' => leS_anti h h') (sortedS_pw hs) (List.pairwise_mergeSort leS_trans leS_total xs) (h.trans (List.mergeSort_perm xs leS).symm)
theorem srtI_eq {xs ys : List Int} (h : ys.Perm xs) (hs : ys.Pairwise (· ≤ ·)) : ys = srtI xs := by
  refine List.Perm.eq_of_pairwise (le := fun a b => a ≤ b) (fun a b _ _ h h' => Int.le_antisymm h h') hs ?_ (h.trans (List.mergeSort_perm xs _).symm)
  have q := List.pairwise_mergeSort (le := fun a b : Int => decide (a ≤ b)) (fun a b c h h' => by simp only [decide_eq_true_eq] at h h' ⊢; omega) (fun a b => by simp only [Bool.or_eq_true, decide_eq_true_eq]; omega) xs
  exact q.imp fun h => by simpa using h
def strsOf : List D → Option (List Str)
  | [] => some []
  | .str x :: r => (strsOf r).map (x :: ·)
  | _ => none
def intsOf : List D → Option (List Int)
  | [] => some []
  | .int x :: r => (intsOf r).map (x :: ·)
  | _ => none
theorem strsOf_eq : ∀ {ds : List D} {xs : List Str}, strsOf ds = some xs → ds = xs.map D.str
  | [], xs, h => by cases h; rfl
  | .str x :: r, xs, h => by
    obtain ⟨ys, hy, e⟩ := Option.map_eq_some_iff.mp (show (strsOf r).map (x :: ·) = some xs from h)
    subst e
    rw [List.map_cons, ← strsOf_eq hy]
theorem intsOf_eq : ∀ {ds : List D} {xs : List Int}, intsOf ds = some xs → ds = xs.map D.int
  | [], xs, h => by cases h; rfl
  | .int x :: r, xs, h => by
    obtain ⟨ys, hy, e⟩ := Option.map_eq_some_iff.mp (show (intsOf r).map (x :: ·) = some xs from h)
    subst e
    rw [List.map_cons, ← intsOf_eq hy]
/-- sorted(x): a list of texts or of ints, fewer than 64 -/
def srtT : Option (List Int) → Option (List Str) → M (List D)
  | some is, _ => pure ((srtI is).map D.int)
  | none, some ss => pure ((srtS ss).map D.str)
  | none, none => bad
def srtD (xs : List D) : M (List D) := need (xs.length < 64) >>= fun _ => srtT (intsOf xs) (strsOf xs)
def keyStrs : List Key → Option (List Str)
  | [] => some []
  | .inr x :: r => (keyStrs r).map (x :: ·)
  | _ => none
theorem keyStrs_eq : ∀ {ds : List Key} {xs : List Str}, keyStrs ds = some xs → ds = xs.map Sum.inr
  | [], xs, h => by cases h; rfl
  | .inr x :: r, xs, h => by
    obtain ⟨ys, hy, e⟩ := Option.map_eq_some_iff.mp (show (keyStrs r).map (x :: ·) = some xs from h)
    subst e
    rw [List.map_cons, ← keyStrs_eq hy]
def srtK (ks : List Key) : M (List D) := need (ks.length < 64) >>= fun _ => match keyStrs ks with
  | some ss => pure ((srtS ss).map D.str)
  | none => bad
section
variable {X : Cx} {W : Wx} {e : Expr} {es : List Expr} {pos p : Pos}
/-- sorted of a list -/
def rSrt (K : PySem.W.Frag) : List V → Hp → VK → Prop := fun xs H Q => rSorted K xs H Q ∨ rSortedS K xs H Q
theorem callM_srt {x : D} {v : V} {m : Mp} {mu : List MO} {H : Hp} {Q : VK} {H0 : Hp} {m0 : Mp} (g0 : Grow m0 m H0 H) (R : Rel X.K m mu H) (hx : Rep X.K m H x v) (hp : Post X.K W m H ((rdL x >>= srtD) mu) (fun ds m' mu' H' => NewL X.K H0 ds m' mu' H' Q)) : rSrt X.K [v] H Q := by
  obtain ⟨a, xs, vs, rfl, hs, hr, _, hp⟩ := rdL_ok R hx (Post.bind hp)
  unfold srtD at hp
  obtain ⟨hl, hp3⟩ := need_ok R (Post.bind hp)
  cases hi : intsOf xs with
  | some is =>
    rw [hi] at hp3
    have e := intsOf_eq hi
    subst e
    have ev := Reps.of_ints.mp hr
    refine .inl ⟨a, is, rfl, by rw [← ev]; exact hs, by simpa using hl, fun ns' q h1 h2 hn => ?_⟩
    rw [srtI_eq h1 h2]
    have q2 := tF_new g0 R (Reps.of_ints.mpr rfl) hp3
    exact q2 q hn
  | none =>
    rw [hi] at hp3
    cases hs' : strsOf xs with
    | none => rw [hs'] at hp3; exact (show False from hp3).elim
    | some ss =>
      rw [hs'] at hp3
      have e := strsOf_eq hs'
      subst e
      have ev := Reps.of_strs.mp hr
      refine .inr ⟨a, ss, rfl, by rw [← ev]; exact hs, by simpa using hl, fun ys q h1 h2 hn => ?_⟩
      rw [srtS_eq h1 h2]
      exact tF_new g0 R (Reps.of_strs.mpr rfl) hp3 q hn
theorem mf_sorted {x : Str} {r : Env → M D} (hg : Gl X x) (hm : X.mg x = none) (hv : bootBuiltins x = some (.builtin "sorted")) (h : ME X W e r) (hn : x ≠ "__name__" := by decide) (hdb : (x == ("__debug__" : Str)) = false := by decide)
    (he : starEach [e] X.env = (false, eval e X.env) :: starEach [] X.env := by rfl) (hpl : (backTo pos (starEach [] X.env)).any (·.1) = false := by rfl) : MF X W (.Call (.Name x p) [e] [] pos) (fun env => r env >>= fun x => rdL x >>= srtD) :=
  ⟨(pe_callB (cr_sorted.or cr_sortedS) hg hm hv (pa_cons h.pe pa_nil he) hn hdb he hpl).imp fun σ H Q ⟨env, m, mu, hE, hR, hp⟩ =>
    ⟨env, m, mu, hE, hR, (Post.bind hp).mono fun d m1 mu1 H1 g1 R1 hp v rv => callM_srt g1 R1 rv hp⟩⟩
theorem mf_sortedD {x : Str} {r : Env → M D} (hc : X.calm = true) (hg : Gl X x) (hm : X.mg x = none) (hv : bootBuiltins x = some (.builtin "sorted")) (h : ME X W e r) (hn : x ≠ "__name__" := by decide) (hdb : (x == ("__debug__" : Str)) = false := by decide)
    (he : starEach [e] X.env = (false, eval e X.env) :: starEach [] X.env := by rfl) (hpl : (backTo pos (starEach [] X.env)).any (·.1) = false := by rfl) : MF X W (.Call (.Name x p) [e] [] pos) (fun env => r env >>= fun x => rdD x >>= fun kvs => srtK (kvs.map (·.1))) :=
  ⟨(pe_callB (call_sortedD hc) hg hm hv (pa_cons h.pe pa_nil he) hn hdb he hpl).imp fun σ H Q ⟨env, m, mu, hE, hR, hp⟩ =>
    ⟨env, m, mu, hE, hR, (Post.bind hp).mono fun d m1 mu1 H1 g1 R1 hp v rv => by
      obtain ⟨a, kvs, vs, rfl, hH, hr, hp⟩ := rdD_ok R1 rv (Post.bind hp)
      unfold srtK at hp
      obtain ⟨hl, hp⟩ := need_ok R1 (Post.bind hp)
      cases hk : keyStrs (kvs.map (·.1)) with
      | none => rw [hk] at hp; exact (show False from hp).elim
      | some ss =>
        rw [hk] at hp
        have e := keyStrs_eq hk
        have hz : (kvs.map (·.1)).length = vs.length := by have := hr.length; rw [List.length_map] at this ⊢; exact this
        refine ⟨a, _, ss, rfl, .inl hH, by rw [List.map_fst_zip (by omega)]; exact e, by rw [e] at hl; simpa using hl, fun ys q h1 h2 hn => ?_⟩
        rw [srtS_eq h1 h2]
        exact tF_new g1 R1 (Reps.of_strs.mpr rfl) hp q hn⟩⟩
end
end MP
namespace MP
open PySem L2 PyProof.Rows
/-! ### what a printed walk leans on -/
structure FnI (K : PySem.W.Frag) (mg : Str → Option Value) (x : Str) (st : Stmt) (f : Addr) (fd : FuncData) (ps : List Str) : Prop where
  fn : Fun K x x st f fd
  mg : mg x = some (.ref f)
  bi : Binds K fd ps []
def lenD (n : Nat) (den : List D → M Rv) : List D → M Rv := fun ds mu => if ds.length = n then den ds mu else .bad
theorem lenD_eq {n : Nat} {den : List D → M Rv} {ds : List D} (h : ds.length = n) : lenD n den ds = den ds := by
  funext mu
  unfold lenD
  rw [if_pos h]
theorem units1 {k : Nat} {A : Around} (r : Room k A) : A.units + 1 < cLine := by have := r.units; omega
def fSrt (r : Env → M D) : Env → M (List D) := fun env => r env >>= fun x => rdL x >>= srtD
def fSrtD (r : Env → M D) : Env → M (List D) := fun env => r env >>= fun x => rdD x >>= fun kvs => srtK (kvs.map (·.1))
section
variable {X : Cx} {W : Wx} {k n : Nat} {f : Addr} {fd : FuncData} {ps : List Str} {den : List D → M Rv} {x : Str} {st : Stmt} {p pos : Pos} {e : Expr} {es : List Expr}
theorem me_callF {rs : Env → M (List D)} (T : FnI X.K X.mg x st f fd ps) (F : FnOk X.prog X.w X.K X.mg X.base CX0 k f fd ps (sp X.K X.mg n den)) (hr : Room k X.A) (hg : Gl X x)
    (ha : MA X W (e :: es) rs) (hl : n = (e :: es).length) (hdb : (x == ("__debug__" : Str)) = false := by decide) (he : starEach (e :: es) X.env = (false, eval e X.env) :: starEach es X.env := by rfl) (hpl : (backTo pos (starEach es X.env)).any (·.1) = false := by rfl) :
    ME X W (.Call (.Name x p) (e :: es) [] pos) (eCall (lenD n den) rs) := me_call F hr hg T.mg T.fn.kp T.bi xok0 ha hl hdb he hpl
theorem mf_callF {rs : Env → M (List D)} (T : FnI X.K X.mg x st f fd ps) (F : FnOk X.prog X.w X.K X.mg X.base CX0 k f fd ps (sp X.K X.mg n den)) (hr : Room k X.A) (hg : Gl X x)
    (ha : MA X W (e :: es) rs) (hl : n = (e :: es).length) (hdb : (x == ("__debug__" : Str)) = false := by decide) (he : starEach (e :: es) X.env = (false, eval e X.env) :: starEach es X.env := by rfl) (hpl : (backTo pos (starEach es X.env)).any (·.1) = false := by rfl) :
    MF X W (.Call (.Name x p) (e :: es) [] pos) (fCall (lenD n den) rs) := mf_call F hr hg T.mg T.fn.kp T.bi xok0 ha hl hdb he hpl
end
/-! ### y += x -/
def gAddI : D → D → M D
  | .int i, .int j => pure (.int (i + j))
  | .str i, .str j => do
    need (i.length + j.length ≤ sizeLine)
    pure (.str (i ++ j))
  | _, _ => bad
section
variable {X : Cx} {W : Wx}
def rAddI : R2 := fun x y H Q => rI0 (fun i j => .int (i + j)) x y H Q ∨ ∃ i j, x = .str i ∧ y = .str j ∧ i.length + j.length ≤ sizeLine ∧ Q (.str (i ++ j)) H
theorem iop_addM : OpR X (inplaceOp .Add) rAddI := iop_add.or iop_add_str
theorem opm_addI : OpM X.K W rAddI gAddI := ⟨fun x y v w m mu H Q rl hx hy hp => by
  cases x
  case int i =>
    cases y
    case int j => simp only [Rep] at hx hy; exact .inl ⟨i, j, hx, hy, Post.pure hp rl _ (by simp only [Rep])⟩
    all_goals exact (show False from hp).elim
  case str i =>
    cases y
    case str j =>
      obtain ⟨c, hp⟩ := need_ok rl (Post.bind hp)
      simp only [Rep] at hx hy
      exact .inr ⟨i, j, hx, hy, c, Post.pure hp rl _ (by simp only [Rep])⟩
    all_goals exact (show False from hp).elim
  all_goals exact (show False from hp).elim⟩
theorem iop_mulM : OpR X (inplaceOp .Mult) (rI CMul fun i j => .int (i * j)) := iop_mul
end
/-! ### a def's answer, what is left behind forgotten -/
/-- a def that only looks: f gives its answer -/
def pureD (f : List D → Option D) : List D → M Rv := fun ds mu => match f ds with
  | some d => .ok (.vl d) mu
  | none => .bad
theorem gc_pure {n : Nat} {den : List D → M Rv} {f : List D → Option D} (h : ∀ ds mu d, ds.length = n → Clos mu.length ds → CloH mu → f ds = some d → Clo mu.length d ∧ ∃ ex, den ds mu = .ok (.vl d) (mu ++ ex)) : GC n den (pureD f) := fun ds mu hn hc hh => by
  cases e : f ds with
  | none =>
    have e0 : pureD f ds mu = .bad := by unfold pureD; rw [e]
    rw [e0]; trivial
  | some d =>
    have e0 : pureD f ds mu = .ok (.vl d) mu := by unfold pureD; rw [e]
    rw [e0]
    obtain ⟨h1, ex, h2⟩ := h ds mu d hn hc hh e
    exact ⟨.vl d, mu ++ ex, h2, Nat.le_refl _, .vl (hh.frz ex) (h1 _ _)⟩
/-- .. that may answer with a new list, read as one that nobody changes -/
theorem gc_pure' {n : Nat} {den : List D → M Rv} {f : List D → Option D} (h : ∀ ds mu d, ds.length = n → Clos mu.length ds → CloH mu → f ds = some d → ∃ ex rv, den ds mu = .ok rv (mu ++ ex) ∧ FrzR (mu ++ ex) mu rv (.vl d)) : GC n den (pureD f) := fun ds mu hn hc hh => by
  cases e : f ds with
  | none =>
    have e0 : pureD f ds mu = .bad := by unfold pureD; rw [e]
    rw [e0]; trivial
  | some d =>
    have e0 : pureD f ds mu = .ok (.vl d) mu := by unfold pureD; rw [e]
    rw [e0]
    obtain ⟨ex, rv, h1, h2⟩ := h ds mu d hn hc hh e
    exact ⟨rv, mu ++ ex, h1, Nat.le_refl _, h2⟩
/-- .. a new list -/
def newD (f : List D → Option (List D)) : List D → M Rv := fun ds mu => match f ds with
  | some d => .ok (.fr d) mu
  | none => .bad
end MP
namespace MP
open PySem L2 PyProof.Rows
/-! ### the small semantics, step by step, for simp -/
section
variable {α β : Type} {mu mu' : List MO} {env : Env} {n i : Nat} {x y d o : D} {xs ys : List D}
@[simp] theorem bind_ap {c : M α} {f : α → M β} : (c >>= f) mu = match c mu with
  | .ok a mu' => f a mu'
  | .exc x mu' => .exc x mu'
  | .bad => .bad := rfl
@[simp] theorem pure_ap {a : α} : (Pure.pure a : M α) mu = .ok a mu := rfl
@[simp] theorem bad_ap : (bad : M α) mu = .bad := rfl
@[simp] theorem raise_ap {x : Xn} : (raise x : M α) mu = .exc x mu := rfl
theorem bind_ok {c : M α} {f : α → M β} {a : α} (h : c mu = .ok a mu') : (c >>= f) mu = f a mu' := by rw [bind_ap, h]
@[simp] theorem noX_ok {c : M α} {a : α} (h : c mu = .ok a mu') : noX c mu = .ok a mu' := by
  show (match c mu with | .exc _ _ => R.bad | r => r) = _
  rw [h]
theorem noX_ap {c : M α} : noX c mu = match c mu with
  | .exc _ _ => .bad
  | r => r := rfl
/-- the list, the dict at a place -/
def onL (o : Option MO) (f : List D → R α) : R α := match o with
  | some (.lst xs) => f xs
  | _ => .bad
def onD (o : Option MO) (f : List (Key × D) → R α) : R α := match o with
  | some (.dk xs) => f xs
  | _ => .bad
@[simp] theorem onL_lst {f : List D → R α} : onL (some (.lst xs)) f = f xs := rfl
@[simp] theorem onD_dk {kvs : List (Key × D)} {f : List (Key × D) → R α} : onD (some (.dk kvs)) f = f kvs := rfl
@[simp] theorem eC_ap : eC d env mu = .ok d mu := rfl
def slot (o : Option (Option D)) (mu : List MO) : R D := match o with
  | some (some d) => .ok d mu
  | _ => .bad
@[simp] theorem slot_ok : slot (some (some d)) mu = .ok d mu := rfl
@[simp] theorem eVar_ap : eVar i env mu = slot env[i]? mu := by
  unfold eVar slot
  cases env[i]? with
  | none => rfl
  | some o => cases o <;> rfl
theorem eVar_get (h : env[i]? = some (some d)) : eVar i env mu = .ok d mu := by rw [eVar_ap, h, slot_ok]
variable {ra rb rc : Env → M D} {rs : Env → M (List D)} {g : D → D → M D} {f : D → M D} {t t' : Env → M Bool} {s1 s2 : Env → M Fl} {rf : Env → M (List D)}
@[simp] theorem eBin_ap : eBin g ra rb env = (ra env >>= fun x => rb env >>= fun y => g x y) := rfl
@[simp] theorem eMap_ap : eMap f ra env = (ra env >>= f) := rfl
@[simp] theorem eIf_ap {r r' : Env → M α} : eIf t r r' env = (t env >>= fun b => if b = true then r env else r' env) := rfl
@[simp] theorem eB_ap : eB ra env = (ra env >>= asB) := rfl
@[simp] theorem asB_bl {b : Bool} : asB (.bl b) mu = .ok b mu := rfl
@[simp] theorem bNot_ap : bNot t env = (t env >>= fun b => pure (!b)) := rfl
@[simp] theorem bAnd_ap : bAnd t t' env = (t env >>= fun b => if b = true then t' env else pure false) := rfl
@[simp] theorem bOr_ap : bOr t t' env = (t env >>= fun b => if b = true then pure true else t' env) := rfl
@[simp] theorem eAnd_ap : eAnd ra rb env = (ra env >>= fun x => toB x >>= fun b => if b = true then rb env else pure (.bl false)) := rfl
@[simp] theorem eOr_ap : eOr ra rb env = (ra env >>= fun x => toB x >>= fun b => if b = true then pure (.bl true) else rb env) := rfl
@[simp] theorem aNil_ap : aNil env mu = .ok [] mu := rfl
@[simp] theorem aCons_ap : aCons ra rs env = (ra env >>= fun x => rs env >>= fun xs => pure (x :: xs)) := rfl
@[simp] theorem aThen_ap {f : List D → M D} : aThen f rs env = (rs env >>= f) := rfl
@[simp] theorem aList_ap : aList rs env = (rs env >>= fun xs => need (xs.length ≤ sizeLine) >>= fun _ => pure xs) := rfl
@[simp] theorem eFl_ap : eFl rf env = (rf env >>= fun xs => pure (.fl xs)) := rfl
@[simp] theorem eNew_ap : eNew rf env = (rf env >>= fun xs => alloc (.lst xs)) := rfl
@[simp] theorem eNewD_ap : eNewD env = alloc (.dk []) := rfl
@[simp] theorem alloc_ap {o : MO} : alloc o mu = .ok (.ref mu.length) (mu ++ [o]) := rfl
@[simp] theorem eCall_ap {den : List D → M Rv} : eCall den rs env = (rs env >>= fun xs => den xs >>= fun rv => pure (rvD rv)) := rfl
@[simp] theorem rvD_vl : rvD (.vl d) = d := rfl
@[simp] theorem rvD_fr : rvD (.fr xs) = .fl xs := rfl
@[simp] theorem fCall_ap {den : List D → M Rv} : fCall den rs env = (rs env >>= fun xs => den xs >>= fun rv => match rv with
  | .fr ds => pure ds
  | .vl _ => bad) := rfl
@[simp] theorem lenD_ap {den : List D → M Rv} : lenD n den xs mu = if xs.length = n then den xs mu else .bad := rfl
@[simp] theorem g1_ap : g1 f [x] = f x := rfl
@[simp] theorem g2_ap : g2 g [x, y] = g x y := rfl
@[simp] theorem fThen1_ap {f : D → M (List D)} : fThen1 f rs env = (rs env >>= fun xs => match xs with
  | [x] => f x
  | _ => bad) := rfl
@[simp] theorem oNone_ap : oNone env mu = .ok none mu := rfl
@[simp] theorem oSome_ap : oSome ra env = (ra env >>= fun x => toI x >>= fun i => pure (some i)) := rfl
@[simp] theorem eSl_ap {rl rh : Env → M (Option Int)} : eSl ra rl rh env = (ra env >>= fun x => rl env >>= fun lo => rh env >>= fun hi => gSl x lo hi) := rfl
@[simp] theorem fSl_ap {rl rh : Env → M (Option Int)} : fSl ra rl rh env = (ra env >>= fun x => rl env >>= fun lo => rh env >>= fun hi => rdL x >>= fun xs => pure (cutD xs lo hi)) := rfl
@[simp] theorem fCat_ap : fCat ra rb env = (ra env >>= fun x => rb env >>= fun y => rdM x >>= fun xs => rdM y >>= fun ys => need (xs.length + ys.length ≤ sizeLine) >>= fun _ => pure (xs ++ ys)) := rfl
@[simp] theorem eWalk_ap : eWalk ra env = (ra env >>= walkD) := rfl
@[simp] theorem wThen_ap {f : List D → M Wk} : wThen f rs env = (rs env >>= f) := rfl
@[simp] theorem fSrt_ap : fSrt ra env = (ra env >>= fun x => rdL x >>= srtD) := rfl
@[simp] theorem fSrtD_ap : fSrtD ra env = (ra env >>= fun x => rdD x >>= fun kvs => srtK (kvs.map (·.1))) := rfl
@[simp] theorem asgN_ap : asgN i d env mu = .ok (env.set i (some d)) mu := rfl
@[simp] theorem asgT_ap {g : List D → Env → M Env} : asgT n g d env = (toT d >>= fun xs => need (xs.length = n) >>= fun _ => g xs env) := rfl
@[simp] theorem asgNil_ap : asgNil [] env mu = .ok env mu := rfl
@[simp] theorem asgCons_ap {h : D → Env → M Env} {g : List D → Env → M Env} : asgCons h g (d :: xs) env = (h d env >>= fun e => g xs e) := rfl
@[simp] theorem sFor_ap {r : Env → M Wk} {asg : D → Env → M Env} {fg : List Nat} : sFor r asg s1 fg env = (r env >>= fun p => loopF asg s1 fg p.2 p.1 env) := rfl
@[simp] theorem sNext_ap : sNext env mu = .ok (.nx env) mu := rfl
@[simp] theorem sSeq_ap : sSeq s1 s2 env = (s1 env >>= fun fl => match fl with
  | .nx e => s2 e
  | fl => pure fl) := by
  unfold sSeq
  congr 1
@[simp] theorem sBreak_ap : sBreak env mu = .ok (.bk env) mu := rfl
@[simp] theorem sCont_ap : sCont env mu = .ok (.ct env) mu := rfl
@[simp] theorem sExpr_ap : sExpr ra env = (ra env >>= fun _ => pure (.nx env)) := rfl
@[simp] theorem sRet_ap : sRet ra env = (ra env >>= fun d => pure (.rt (.vl d))) := rfl
@[simp] theorem sRetF_ap : sRetF rf env = (rf env >>= fun d => pure (.rt (.fr d))) := rfl
@[simp] theorem sRetN_ap : sRetN env mu = .ok (.rt (.vl .non)) mu := rfl
@[simp] theorem sAsg_ap {asg : D → Env → M Env} : sAsg ra asg env = (ra env >>= fun d => asg d env >>= fun env' => pure (.nx env')) := rfl
@[simp] theorem sSet_ap : sSet i ra env = (ra env >>= fun d => pure (.nx (env.set i (some d)))) := rfl
@[simp] theorem sAug_ap : sAug i g ra env = (eVar i env >>= fun x => ra env >>= fun y => g x y >>= fun z => pure (.nx (env.set i (some z)))) := rfl
@[simp] theorem sSub_ap : sSub ra rb rc env = (rc env >>= fun v => ra env >>= fun o => rb env >>= fun i => setL o i v >>= fun _ => pure (.nx env)) := rfl
@[simp] theorem sDput_ap : sDput ra rb rc env = (rc env >>= fun v => ra env >>= fun o => rb env >>= fun i => putM o i v >>= fun _ => pure (.nx env)) := rfl
@[simp] theorem eGet1_ap : eGet1 ra rb env = (ra env >>= fun o => dctK o >>= fun _ => rb env >>= fun y => rdD o >>= fun kvs => toK y >>= fun k => pure ((valD kvs k).getD .non)) := rfl
@[simp] theorem eGet2_ap : eGet2 ra rb rc env = (ra env >>= fun o => dctK o >>= fun _ => rb env >>= fun y => rc env >>= fun x => rdD o >>= fun kvs => toK y >>= fun k => pure ((valD kvs k).getD x)) := rfl
@[simp] theorem dctK_ap : dctK o = (rdD o >>= fun _ => pure ()) := rfl
@[simp] theorem eMeth_ap {k : D → M Unit} {h : D → List D → M D} : eMeth k h ra rs env = (ra env >>= fun o => k o >>= fun _ => rs env >>= fun xs => h o xs) := rfl
@[simp] theorem fComp_ap {w : Env → M Wk} {asg : D → Env → M Env} {vs : List Nat} : fComp w asg t ra vs env = (w env >>= fun p => noX (loopC asg t ra p.2 p.1 (wipeE env vs))) := rfl
@[simp] theorem tYesM_ap : tYesM env mu = .ok true mu := rfl
@[simp] theorem wipeE_nil : wipeE env [] = env := rfl
@[simp] theorem wipeE_cons {vs : List Nat} : wipeE env (i :: vs) = (wipeE env vs).set i none := rfl
/-! values -/
@[simp] theorem need_ap {c : Prop} [Decidable c] : need c mu = if c then .ok () mu else .bad := by unfold need; split <;> rfl
@[simp] theorem toI_int {i : Int} : toI (.int i) mu = .ok i mu := rfl
@[simp] theorem toS_str {z : Str} : toS (.str z) mu = .ok z mu := rfl
@[simp] theorem toT_tup : toT (.tup xs) mu = .ok xs mu := rfl
@[simp] theorem toB_bl {b : Bool} : toB (.bl b) mu = .ok b mu := rfl
@[simp] theorem toR_ref : toR (.ref n) mu = .ok n mu := rfl
@[simp] theorem toK_int {i : Int} : toK (.int i) mu = .ok (.inl i) mu := rfl
@[simp] theorem toK_str {z : Str} : toK (.str z) mu = .ok (.inr z) mu := rfl
@[simp] theorem gAdd_int {i j : Int} : gAdd (.int i) (.int j) mu = .ok (.int (i + j)) mu := rfl
@[simp] theorem gAdd_str {i j : Str} : gAdd (.str i) (.str j) mu = if i.length + j.length ≤ sizeLine then .ok (.str (i ++ j)) mu else .bad := by
  show ((need (i.length + j.length ≤ sizeLine) : M Unit) >>= fun _ => (pure (.str (i ++ j)) : M D)) mu = _
  rw [bind_ap, need_ap]
  by_cases c : i.length + j.length ≤ sizeLine
  · rw [if_pos c, if_pos c]; rfl
  · rw [if_neg c, if_neg c]
theorem gII_ap {c : Int → Int → Prop} [∀ i j, Decidable (c i j)] {f : Int → Int → D} {i j : Int} : gII c f (.int i) (.int j) mu = if c i j then .ok (f i j) mu else .bad := by
  show ((need (c i j) : M Unit) >>= fun _ => (pure (f i j) : M D)) mu = _
  rw [bind_ap, need_ap]
  by_cases h : c i j
  · rw [if_pos h, if_pos h]; rfl
  · rw [if_neg h, if_neg h]
@[simp] theorem gSub_int {i j : Int} : gSub (.int i) (.int j) mu = .ok (.int (i - j)) mu := by unfold gSub; rw [gII_ap]; exact if_pos trivial
theorem gMul_int {i j : Int} : gMul (.int i) (.int j) mu = if cMul i j then .ok (.int (i * j)) mu else .bad := gII_ap
@[simp] theorem gMul_small {i j : Int} (h : -(2 ^ 64) < j ∧ j < 2 ^ 64) : gMul (.int i) (.int j) mu = .ok (.int (i * j)) mu := by rw [gMul_int, if_pos (.inl (.inr h))]
theorem gDiv_int {i j : Int} : gDiv (.int i) (.int j) mu = if CDivW i j then .ok (.int (i / j)) mu else .bad := gII_ap
@[simp] theorem gDiv_small {i j : Int} (h : 0 < j ∧ j.natAbs.log2 < 9000) : gDiv (.int i) (.int j) mu = .ok (.int (i / j)) mu := by rw [gDiv_int, if_pos (show CDivW i j from h)]
@[simp] theorem gMod_int {i j : Int} : gMod (.int i) (.int j) mu = if 0 < j then .ok (.int (i % j)) mu else .bad := gII_ap
@[simp] theorem gPow_int {i j : Int} (h : 0 ≤ j ∧ j ≤ 1000000 ∧ i.natAbs < 2 ^ 64) : gPow (.int i) (.int j) mu = .ok (.int (i ^ j.toNat)) mu := by
  have e : gPow (.int i) (.int j) mu = if CPow i j then .ok (.int (i ^ j.toNat)) mu else .bad := gII_ap
  rw [e, if_pos (show CPow i j from h)]
@[simp] theorem gCmp_int {f : Int → Int → Bool} {i j : Int} : gCmp f (.int i) (.int j) mu = .ok (.bl (f i j)) mu := by unfold gCmp; rw [gII_ap]; exact if_pos trivial
@[simp] theorem gLt_int {i j : Int} : gLt (.int i) (.int j) mu = .ok (.bl (decide (i < j))) mu := rfl
@[simp] theorem gLt_str {i j : Str} : gLt (.str i) (.str j) mu = .ok (.bl (ltS i j)) mu := rfl
@[simp] theorem gNeg_int {i : Int} : gNeg (.int i) mu = .ok (.int (-i)) mu := rfl
@[simp] theorem gNot_bl {b : Bool} : gNot (.bl b) mu = .ok (.bl (!b)) mu := rfl
@[simp] theorem rdL_fl : rdL (.fl xs) mu = .ok xs mu := rfl
@[simp] theorem rdL_ro : rdL (.ro xs) mu = .ok xs mu := rfl
@[simp] theorem rdL_ref : rdL (.ref n) mu = atL mu n := rfl
@[simp] theorem atL_ap : atL mu n = onL mu[n]? fun xs => .ok xs mu := rfl
@[simp] theorem rdQ_tup : rdQ (.tup xs) mu = .ok xs mu := rfl
@[simp] theorem rdQ_fl : rdQ (.fl xs) mu = .ok xs mu := rfl
@[simp] theorem rdQ_ro : rdQ (.ro xs) mu = .ok xs mu := rfl
@[simp] theorem rdQ_ref : rdQ (.ref n) mu = atL mu n := rfl
@[simp] theorem rdD_ref : rdD (.ref n) mu = atD mu n := rfl
@[simp] theorem rdD_fd {ks : List Key} : rdD (.fd ks xs) mu = .ok (ks.zip xs) mu := rfl
@[simp] theorem atD_ap : atD mu n = onD mu[n]? fun kvs => .ok kvs mu := rfl
@[simp] theorem walkD_tup : walkD (.tup xs) mu = .ok (xs, []) mu := rfl
@[simp] theorem walkD_fl : walkD (.fl xs) mu = .ok (xs, []) mu := rfl
@[simp] theorem walkD_ro : walkD (.ro xs) mu = .ok (xs, []) mu := rfl
@[simp] theorem walkD_ref : walkD (.ref n) mu = onL mu[n]? fun xs => .ok (xs, [(n, xs)]) mu := by
  have e : walkD (.ref n) mu = match atL mu n with
    | .ok xs mu => MP.R.ok (xs, [(n, xs)]) mu
    | _ => .bad := rfl
  rw [e]
  cases h : mu[n]? with
  | none => rw [show atL mu n = .bad from by unfold atL; rw [h]]; rfl
  | some o => cases o with
    | lst xs => rw [atL_lst h]; rfl
    | dk kvs => rw [atL_dk h]; rfl
theorem ixD_at {i : Int} (h : atI xs i = some d) : ixD xs i mu = .ok d mu := by unfold ixD; rw [h]; rfl
@[simp] theorem gIx_tup {i : Int} : gIx (.tup xs) (.int i) mu = ixD xs i mu := rfl
@[simp] theorem gIx_fl {i : Int} : gIx (.fl xs) (.int i) mu = ixD xs i mu := rfl
@[simp] theorem gIx_ro {i : Int} : gIx (.ro xs) (.int i) mu = ixD xs i mu := rfl
@[simp] theorem gIx_ref {i : Int} : gIx (.ref n) (.int i) mu = onL mu[n]? fun xs => ixD xs i mu := by
  show ((rdQ (.ref n) : M (List D)) >>= fun xs => (toI (.int i) : M Int) >>= fun i => ixD xs i) mu = _
  rw [bind_ap, rdQ_ref]
  cases h : mu[n]? with
  | none => rw [show atL mu n = .bad from by unfold atL; rw [h]]; rfl
  | some o => cases o with
    | lst xs => rw [atL_lst h]; rfl
    | dk kvs => rw [atL_dk h]; rfl
theorem gIx_str {z : Str} {i : Int} {c : Nat} (hz : z.length ≤ sizeLine) (h : atI z.cps.toList i = some c) : gIx (.str z) (.int i) mu = .ok (.str ⟨#[c]⟩) mu := by
  show ((toI (.int i) : M Int) >>= fun i => (need (z.length ≤ sizeLine) : M Unit) >>= fun _ => (match atI z.cps.toList i with
    | some c => pure (.str ⟨#[c]⟩)
    | none => bad : M D)) mu = _
  rw [bind_ap, toI_int]
  show ((need (z.length ≤ sizeLine) : M Unit) >>= fun _ => (match atI z.cps.toList i with
    | some c => pure (.str ⟨#[c]⟩)
    | none => bad : M D)) mu = _
  rw [bind_ap, need_ap, if_pos hz]
  show (match atI z.cps.toList i with
    | some c => pure (.str ⟨#[c]⟩)
    | none => bad : M D) mu = _
  rw [h]; rfl
@[simp] theorem gLen_tup : gLen (.tup xs) mu = .ok (.int xs.length) mu := rfl
@[simp] theorem gLen_fl : gLen (.fl xs) mu = .ok (.int xs.length) mu := rfl
@[simp] theorem gLen_ro : gLen (.ro xs) mu = .ok (.int xs.length) mu := rfl
theorem gLen_str {z : Str} (h : z.length ≤ sizeLine) : gLen (.str z) mu = .ok (.int z.length) mu := by
  show ((need (z.length ≤ sizeLine) : M Unit) >>= fun _ => (pure (.int z.length) : M D)) mu = _
  rw [bind_ap, need_ap, if_pos h]; rfl
theorem gLen_ref (h : mu[n]? = some (.lst xs)) : gLen (.ref n) mu = .ok (.int xs.length) mu := by
  show (match mu[n]? with
    | some (.lst xs) => MP.R.ok (D.int xs.length) mu
    | some (.dk kvs) => .ok (.int kvs.length) mu
    | none => .bad) = _
  rw [h]
@[simp] theorem gAbs_int {i : Int} : gAbs (.int i) mu = .ok (.int (if i < 0 then -i else i)) mu := rfl
@[simp] theorem gInt_int {i : Int} : gInt (.int i) mu = .ok (.int i) mu := rfl
@[simp] theorem gTuple_fl : gTuple (.fl xs) mu = .ok (.tup xs) mu := rfl
@[simp] theorem gTuple_tup : gTuple (.tup xs) mu = .ok (.tup xs) mu := rfl
@[simp] theorem gTuple_ro : gTuple (.ro xs) mu = .ok (.tup xs) mu := rfl
theorem gTup_ok (h : xs.length ≤ sizeLine) : gTup xs mu = .ok (.tup xs) mu := by
  show ((need (xs.length ≤ sizeLine) : M Unit) >>= fun _ => (pure (.tup xs) : M D)) mu = _
  rw [bind_ap, need_ap, if_pos h]; rfl
@[simp] theorem setL_ap {i : Int} : setL (.ref n) (.int i) d mu = modLr mu[n]? n (fun xs => match ixN xs.length i with
  | some j => some (xs.set j d, .non)
  | none => none) mu := rfl
@[simp] theorem modLr_lst {f : List D → Option (List D × D)} : modLr (some (.lst xs)) n f mu = match f xs with
  | some (ys, d) => .ok d (mu.set n (.lst ys))
  | none => .bad := rfl
theorem setL_ok {i : Int} {j : Nat} (h : mu[n]? = some (.lst xs)) (hj : ixN xs.length i = some j) : setL (.ref n) (.int i) d mu = .ok .non (mu.set n (.lst (xs.set j d))) := by
  rw [setL_ap, h, modLr_lst, hj]
theorem modDr_dk {f : List (Key × D) → Option (List (Key × D) × D)} {kvs : List (Key × D)} : modDr (some (.dk kvs)) n f mu = match f kvs with
  | some (ys, d) => .ok d (mu.set n (.dk ys))
  | none => .bad := rfl
theorem putM_at {kvs : List (Key × D)} {k : Key} (hk : toK y mu = .ok k mu) (h : mu[n]? = some (.dk kvs)) (hl : kvs.length < sizeLine) : putM (.ref n) y d mu = .ok .non (mu.set n (.dk (putD kvs k d))) := by
  show (toR (.ref n) >>= fun n => toK y >>= fun kk => modD n fun kvs => if kvs.length < sizeLine then some (putD kvs kk d, .non) else none) mu = _
  rw [bind_ap, toR_ref]
  show (toK y >>= fun kk => modD n fun kvs => if kvs.length < sizeLine then some (putD kvs kk d, .non) else none) mu = _
  rw [bind_ap, hk]
  show modDr mu[n]? n (fun kvs => if kvs.length < sizeLine then some (putD kvs k d, .non) else none) mu = _
  rw [h, modDr_dk, if_pos hl]
@[simp] theorem tyD_ap : (tyD .non mu = .ok "NoneType" mu) ∧ (∀ b, tyD (.bl b) mu = .ok "bool" mu) ∧ (∀ i, tyD (.int i) mu = .ok "int" mu) ∧ (∀ z, tyD (.str z) mu = .ok "str" mu) ∧ (∀ xs, tyD (.tup xs) mu = .ok "tuple" mu) ∧ (∀ xs, tyD (.fl xs) mu = .ok "list" mu) ∧ (∀ xs, tyD (.ro xs) mu = .ok "list" mu) ∧ ∀ ks xs, tyD (.fd ks xs) mu = .ok "dict" mu := ⟨rfl, fun _ => rfl, fun _ => rfl, fun _ => rfl, fun _ => rfl, fun _ => rfl, fun _ => rfl, fun _ _ => rfl⟩
@[simp] theorem gIsi_ap {T : String} : gIsi T x = (tyD x >>= fun t => pure (.bl (isiB t T))) := rfl
@[simp] theorem runB_ap {r : Env → M Fl} : runB n r xs mu = match r (startE n xs) mu with
  | .ok (.rt rv) mu' => .ok rv mu'
  | .ok (.nx _) mu' => .ok (.vl .non) mu'
  | .ok _ _ => .bad
  | .exc x mu' => .exc x mu'
  | .bad => .bad := rfl
theorem chk_nil : chk [] mu = .ok () mu := by unfold chk; rw [if_pos]; simp
theorem chk_one (h : mu[n]? = some (.lst xs)) : chk [(n, xs)] mu = .ok () mu := by unfold chk; rw [if_pos]; simpa using h
end
/-! ### loops over things that stand still -/
section
variable {asg : D → Env → M Env} {body : Env → M Fl} {fg : List Nat} {t : Env → M Bool} {r : Env → M D} {env env1 : Env} {mu mu' mu1 mu2 mu3 : List MO} {d x : D} {ds xs : List D}
theorem loopF_nil : loopF asg body fg [] [] env mu = .ok (.nx (wipeE env fg)) mu := by
  show ((chk [] : M Unit) >>= fun _ => (pure (.nx (wipeE env fg)) : M Fl)) mu = _
  rw [bind_ap, chk_nil]; rfl
theorem loopF_cons : loopF asg body fg [] (d :: ds) env mu = (asg d (wipeE env fg) >>= fun env1 => body env1 >>= fun fl => match fl with
    | .nx e => loopF asg body fg [] ds e
    | .ct e => loopF asg body fg [] ds e
    | .bk e => pure (.nx (wipeE e fg))
    | .rt rv => pure (.rt rv)) mu := by
  show ((chk [] : M Unit) >>= fun _ => asg d (wipeE env fg) >>= fun env1 => body env1 >>= fun fl => match fl with
    | .nx e => loopF asg body fg [] ds e
    | .ct e => loopF asg body fg [] ds e
    | .bk e => pure (.nx (wipeE e fg))
    | .rt rv => pure (.rt rv)) mu = _
  rw [bind_ap, chk_nil]
theorem loopC_nil : loopC asg t r [] [] env mu = .ok [] mu := by
  show ((chk [] : M Unit) >>= fun _ => (pure [] : M (List D))) mu = _
  rw [bind_ap, chk_nil]; rfl
theorem loopC_cons : loopC asg t r [] (d :: ds) env mu = (asg d env >>= fun env1 => t env1 >>= fun b => if b = true then (r env1 >>= fun x => loopC asg t r [] ds env >>= fun xs => pure (x :: xs)) else loopC asg t r [] ds env) mu := by
  show ((chk [] : M Unit) >>= fun _ => asg d env >>= fun env1 => t env1 >>= fun b => if b = true then (r env1 >>= fun x => loopC asg t r [] ds env >>= fun xs => pure (x :: xs)) else loopC asg t r [] ds env) mu = _
  rw [bind_ap, chk_nil]
theorem loopC_yes (h1 : asg d env mu = .ok env1 mu1) (h2 : t env1 mu1 = .ok true mu1) (h3 : r env1 mu1 = .ok x mu2) (h4 : loopC asg t r [] ds env mu2 = .ok xs mu3) : loopC asg t r [] (d :: ds) env mu = .ok (x :: xs) mu3 := by
  rw [loopC_cons]
  simp [h1, h2, h3, h4]
theorem loopC_no (h1 : asg d env mu = .ok env1 mu1) (h2 : t env1 mu1 = .ok false mu1) (h4 : loopC asg t r [] ds env mu1 = .ok xs mu3) : loopC asg t r [] (d :: ds) env mu = .ok xs mu3 := by
  rw [loopC_cons]
  simp [h1, h2, h4]
/-- a comprehension that changes nothing: each item by itself -/
theorem loopC_map {f : D → D} (h : ∀ d ∈ ds, ∃ env1, asg d env mu = .ok env1 mu ∧ t env1 mu = .ok true mu ∧ r env1 mu = .ok (f d) mu) : loopC asg t r [] ds env mu = .ok (ds.map f) mu := by
  induction ds with
  | nil => exact loopC_nil
  | cons d ds ih =>
    obtain ⟨env1, h1, h2, h3⟩ := h d (by simp)
    exact loopC_yes h1 h2 h3 (ih fun e he => h e (by simp [he]))
theorem loopC_filter {f : D → D} {p : D → Bool} (h : ∀ d ∈ ds, ∃ env1, asg d env mu = .ok env1 mu ∧ t env1 mu = .ok (p d) mu ∧ (p d = true → r env1 mu = .ok (f d) mu)) : loopC asg t r [] ds env mu = .ok ((ds.filter p).map f) mu := by
  induction ds with
  | nil => exact loopC_nil
  | cons d ds ih =>
    obtain ⟨env1, h1, h2, h3⟩ := h d (by simp)
    have ih := ih fun e he => h e (by simp [he])
    cases hp : p d with
    | true =>
      rw [List.filter_cons_of_pos hp, List.map_cons]
      exact loopC_yes h1 (by rw [h2, hp]) (h3 hp) ih
    | false =>
      rw [List.filter_cons_of_neg (by rw [hp]; decide)]
      exact loopC_no h1 (by rw [h2, hp]) ih
end
end MP
namespace MP
open PySem L2 PyProof.Rows
/-! ### the words that all laws share -/
/-- names: 0 script -/
noncomputable def r__law_start : MP.Env → M Fl :=
  (sRetF (aList (aCons (eFl (fThen1 rdQ (aCons (eVar 0) aNil))) (aCons (eC (.int 0)) (aCons (eC (.int 0)) (aCons (eC (.int 0)) aNil))))))
noncomputable def den__law_start : List D → M Rv := fun ds => noX (runB 1 (r__law_start) ds)
/-- names: 0 state, 1 most, 2 cell, 3 mixed, 4 found -/
noncomputable def r__law_draw : MP.Env → M Fl :=
  (sSeq (sSub (eVar 0) (eC (.int 3)) (eBin gAdd (eBin gIx (eVar 0) (eC (.int 3))) (eC (.int 1))))
  (sSeq (eIf (eB (eBin (gCmp fun i j => decide (j < i)) (eBin gIx (eVar 0) (eC (.int 2))) (eC (.int 0))))
  (sSeq (sSet 4 (eBin gMod (aThen (g1 gInt) (aCons (eBin gIx (eVar 0) (eC (.int 2))) aNil)) (eVar 1)))
  (sSeq (sSub (eVar 0) (eC (.int 2)) (eBin gDiv (eBin gIx (eVar 0) (eC (.int 2))) (eVar 1)))
  (sRet (eVar 4))))
  sNext)
  (sSeq (sSet 2 (eC (.int 0)))
  (sSeq (eIf (eB (eBin (gCmp fun i j => decide (j < i)) (aThen (g1 gLen) (aCons (eBin gIx (eVar 0) (eC (.int 0))) aNil)) (eC (.int 0))))
  (sSet 2 (aThen (g1 gAbs) (aCons (eBin gIx (eBin gIx (eVar 0) (eC (.int 0))) (eBin gMod (aThen (g1 gInt) (aCons (eBin gIx (eVar 0) (eC (.int 1))) aNil)) (aThen (g1 gLen) (aCons (eBin gIx (eVar 0) (eC (.int 0))) aNil)))) aNil)))
  sNext)
  (sSeq (sSub (eVar 0) (eC (.int 1)) (eBin gAdd (eBin gIx (eVar 0) (eC (.int 1))) (eC (.int 1))))
  (sSeq (eIf (eB (eBin (gCmp fun i j => decide (j ≤ i)) (eVar 2) (eBin gPow (eC (.int 10)) (eC (.int 18)))))
  (sSeq (sSub (eVar 0) (eC (.int 2)) (eBin gDiv (eVar 2) (eVar 1)))
  (sRet (eBin gMod (aThen (g1 gInt) (aCons (eVar 2) aNil)) (eVar 1))))
  sNext)
  (sSeq (sSet 3 (eBin gMod (aThen (g1 gInt) (aCons (eBin gAdd (eBin gMul (eBin gAdd (eVar 2) (eC (.int 1))) (eC (.int 48271))) (eBin gMul (eBin gIx (eVar 0) (eC (.int 3))) (eC (.int 69621)))) aNil)) (eC (.int 2147483647))))
  (sSeq (sSet 3 (eBin gMod (aThen (g1 gInt) (aCons (eBin gAdd (eBin gAdd (eBin gMul (eVar 3) (eC (.int 16807))) (eBin gDiv (eVar 2) (eC (.int 97)))) (eBin gIx (eVar 0) (eC (.int 3)))) aNil)) (eC (.int 2147483629))))
  (sRet (eBin gMod (eBin gDiv (eVar 3) (eC (.int 11))) (eVar 1)))))))))))
noncomputable def den__law_draw : List D → M Rv := fun ds => noX (runB 5 (r__law_draw) ds)
/-- names: 0 state, 1 items -/
noncomputable def r__law_one_of (d__law_draw : List D → M Rv) : MP.Env → M Fl :=
  (sRet (eBin gIx (eVar 1) (eCall (lenD 2 d__law_draw) (aCons (eVar 0) (aCons (aThen (g1 gLen) (aCons (eVar 1) aNil)) aNil)))))
noncomputable def den__law_one_of (d__law_draw : List D → M Rv) : List D → M Rv := fun ds => noX (runB 2 (r__law_one_of d__law_draw) ds)
/-- names: 0 x -/
noncomputable def r__law_is_int : MP.Env → M Fl :=
  (sRet (eAnd (eMap (gIsi "int") (eVar 0)) (eMap gNot (eMap (gIsi "bool") (eVar 0)))))
noncomputable def den__law_is_int : List D → M Rv := fun ds => noX (runB 1 (r__law_is_int) ds)
/-- names: 0 x, 1 y, 2 k -/
noncomputable def r__law_same (d__law_same : List D → M Rv) (d__law_is_int : List D → M Rv) : MP.Env → M Fl :=
  (sSeq (eIf (eB (eMap (gIsi "tuple") (eVar 1)))
  (sSeq (eIf (bOr (bNot (eB (eMap (gIsi "tuple") (eVar 0)))) (eB (eBin (gEq true) (aThen (g1 gLen) (aCons (eVar 0) aNil)) (aThen (g1 gLen) (aCons (eVar 1) aNil)))))
  (sRet (eC (.bl false)))
  sNext)
  (sRet (aThen (g1 gAll) (aCons (eFl (fComp (wThen wRng1 (aCons (aThen (g1 gLen) (aCons (eVar 1) aNil)) aNil)) (asgN 2) tYesM (eCall (lenD 2 d__law_same) (aCons (eBin gIx (eVar 0) (eVar 2)) (aCons (eBin gIx (eVar 1) (eVar 2)) aNil))) [2])) aNil))))
  sNext)
  (sSeq (eIf (eB (eMap (gIsi "str") (eVar 1)))
  (sRet (eAnd (eMap (gIsi "str") (eVar 0)) (eBin (gEq false) (eVar 0) (eVar 1))))
  sNext)
  (sRet (eAnd (eCall (lenD 1 d__law_is_int) (aCons (eVar 0) aNil)) (eBin (gEq false) (eVar 0) (eVar 1))))))
noncomputable def den__law_same (d__law_same : List D → M Rv) (d__law_is_int : List D → M Rv) : List D → M Rv := fun ds => noX (runB 3 (r__law_same d__law_same d__law_is_int) ds)
@[simp] theorem ixD0 {x : D} {xs : List D} {mu : List MO} : ixD (x :: xs) 0 mu = .ok x mu := ixD_at (by unfold atI ixN; simp)
@[simp] theorem ixD1 {a x : D} {xs : List D} {mu : List MO} : ixD (a :: x :: xs) 1 mu = .ok x mu := ixD_at (by unfold atI ixN; simp; rw [if_pos (by omega)]; rfl)
@[simp] theorem ixD2 {a b x : D} {xs : List D} {mu : List MO} : ixD (a :: b :: x :: xs) 2 mu = .ok x mu := ixD_at (by unfold atI ixN; simp; rw [if_pos (by omega)]; rfl)
@[simp] theorem ixD3 {a b c x : D} {xs : List D} {mu : List MO} : ixD (a :: b :: c :: x :: xs) 3 mu = .ok x mu := ixD_at (by unfold atI ixN; simp; rw [if_pos (by omega)]; rfl)
def st (cs : List Int) (a b c : Int) : MO := .lst [.fl (cs.map .int), .int a, .int b, .int c]
theorem atI_mod {cs : List Int} (h : 0 < cs.length) (a : Int) : ∃ v, atI (cs.map D.int) (a % (cs.length : Int)) = some (.int v) := by
  have h1 := Int.emod_nonneg a (b := (cs.length : Int)) (by omega)
  have h2 := Int.emod_lt_of_pos a (b := (cs.length : Int)) (by omega)
  unfold atI ixN
  rw [List.length_map, if_pos h1, if_pos h2]
  have hk : (a % (cs.length : Int)).toNat < cs.length := by omega
  exact ⟨cs[(a % (cs.length : Int)).toNat], by simp [hk]⟩
theorem draw_ok {s : Nat} {cs : List Int} {a b c most : Int} {mu : List MO} (h : mu[s]? = some (st cs a b c)) (hm : 0 < most) (hl : most.natAbs.log2 < 9000) :
    ∃ d a' b' c', den__law_draw [.ref s, .int most] mu = .ok (.vl (.int d)) (mu.set s (st cs a' b' c')) ∧ 0 ≤ d ∧ d < most := by
  have hs : s < mu.length := (List.getElem?_eq_some_iff.mp h).1
  unfold st at h
  have q : ∀ x : Int, 0 ≤ x % most ∧ x % most < most := fun x => ⟨Int.emod_nonneg x (by omega), Int.emod_lt_of_pos x hm⟩
  by_cases hb : 0 < b
  · refine ⟨b % most, a, b / most, c + 1, noX_ok ?_, (q b).1, (q b).2⟩
    have hset : ∀ x : MO, (mu.set s x)[s]? = some x := fun x => List.getElem?_set_self hs
    simp [r__law_draw, startE, h, hset, hb, hm, hl, st, ixN]
  · have hset : ∀ x : MO, (mu.set s x)[s]? = some x := fun x => List.getElem?_set_self hs
    have l97 : Nat.log2 97 < 9000 := by decide
    have l11 : Nat.log2 11 < 9000 := by decide
    have p18 : (10 : Int) ^ (18 : Int).toNat = 1000000000000000000 := by decide
    by_cases z : 0 < cs.length
    · obtain ⟨v, hv⟩ := atI_mod (cs := cs) z a
      generalize hcell : (if v < 0 then -v else v) = cell
      by_cases h18 : 1000000000000000000 ≤ cell
      · refine ⟨cell % most, a + 1, cell / most, c + 1, noX_ok ?_, (q cell).1, (q cell).2⟩
        simp [r__law_draw, startE, h, hset, hb, hm, hl, st, ixN, z, ixD_at hv, hcell, h18, l97, l11]
      · refine ⟨(((((cell + 1) * 48271 + (c + 1) * 69621) % 2147483647 * 16807 + cell / 97 + (c + 1)) % 2147483629) / 11) % most, a + 1, b, c + 1, noX_ok ?_, (q _).1, (q _).2⟩
        simp [r__law_draw, startE, h, hset, hb, hm, hl, st, ixN, z, ixD_at hv, hcell, h18, l97, l11]
    · refine ⟨(((((0 + 1) * 48271 + (c + 1) * 69621) % 2147483647 * 16807 + 0 / 97 + (c + 1)) % 2147483629) / 11) % most, a + 1, b, c + 1, noX_ok ?_, (q _).1, (q _).2⟩
      simp [r__law_draw, startE, h, hset, hb, hm, hl, st, ixN, z, l97, l11]
end MP
namespace MP
open PySem L2 PyProof.Rows
/-! ### what the shared words answer -/
theorem start_ok {cs : List Int} {mu : List MO} (h : cs.length ≤ 63) : den__law_start [.ro (cs.map .int)] mu = .ok (.fr [.fl (cs.map .int), .int 0, .int 0, .int 0]) mu := by
  refine noX_ok ?_
  have e : (4 : Nat) ≤ sizeLine := by decide
  simp [r__law_start, startE, e]
/-- the state's place -/
def At (s : Nat) (cs : List Int) (mu : List MO) : Prop := ∃ a b c, mu[s]? = some (st cs a b c)
/-- the state moved on, nothing else -/
def Nx (s : Nat) (cs : List Int) (mu mu' : List MO) : Prop := ∃ a b c, mu' = mu.set s (st cs a b c)
theorem At.lt {s : Nat} {cs : List Int} {mu : List MO} (h : At s cs mu) : s < mu.length := by
  obtain ⟨a, b, c, h⟩ := h
  exact (List.getElem?_eq_some_iff.mp h).1
theorem Nx.at_ {s : Nat} {cs : List Int} {mu mu' : List MO} (h : At s cs mu) (n : Nx s cs mu mu') : At s cs mu' := by
  obtain ⟨a, b, c, e⟩ := n
  exact ⟨a, b, c, by rw [e, List.getElem?_set_self h.lt]⟩
theorem Nx.trans {s : Nat} {cs : List Int} {mu mu1 mu2 : List MO} (n : Nx s cs mu mu1) (n' : Nx s cs mu1 mu2) : Nx s cs mu mu2 := by
  obtain ⟨a, b, c, e⟩ := n
  obtain ⟨a', b', c', e'⟩ := n'
  exact ⟨a', b', c', by rw [e', e, List.set_set]⟩
theorem Nx.refl {s : Nat} {cs : List Int} {mu : List MO} (h : At s cs mu) : Nx s cs mu mu := by
  obtain ⟨a, b, c, h⟩ := h
  refine ⟨a, b, c, ?_⟩
  apply List.ext_getElem?
  intro i
  by_cases e : s = i
  · subst e; rw [List.getElem?_set_self (List.getElem?_eq_some_iff.mp h).1]; exact h
  · rw [List.getElem?_set_ne e]
theorem draw_at {s : Nat} {cs : List Int} {most : Int} {mu : List MO} (h : At s cs mu) (hm : 0 < most) (hl : most.natAbs.log2 < 9000) : ∃ d mu', den__law_draw [.ref s, .int most] mu = .ok (.vl (.int d)) mu' ∧ Nx s cs mu mu' ∧ 0 ≤ d ∧ d < most := by
  obtain ⟨a, b, c, h⟩ := h
  obtain ⟨d, a', b', c', e, h1, h2⟩ := draw_ok h hm hl
  exact ⟨d, _, e, ⟨a', b', c', rfl⟩, h1, h2⟩
theorem atI_of {xs : List D} {i : Int} (h0 : 0 ≤ i) (h1 : i < xs.length) : ∃ x, x ∈ xs ∧ atI xs i = some x := by
  have hk : i.toNat < xs.length := by omega
  refine ⟨xs[i.toNat], List.getElem_mem hk, ?_⟩
  unfold atI ixN
  rw [if_pos h0, if_pos h1]
  exact List.getElem?_eq_getElem hk
theorem log2_small {n : Nat} (h : n < 2 ^ 64) : n.log2 < 9000 := by
  rcases Nat.eq_zero_or_pos n with e | e
  · subst e; decide
  · have := (Nat.log2_lt (by omega)).mpr h
    omega
theorem one_of_at {s : Nat} {cs : List Int} {xs : List D} {mu : List MO} (h : At s cs mu) (h0 : 0 < xs.length) (h1 : xs.length < 1000) : ∃ x mu', den__law_one_of den__law_draw [.ref s, .fl xs] mu = .ok (.vl x) mu' ∧ Nx s cs mu mu' ∧ x ∈ xs := by
  obtain ⟨d, mu', e, n, d0, d1⟩ := draw_at (most := (xs.length : Int)) h (by omega) (log2_small (by simp; omega))
  obtain ⟨x, hx, ex⟩ := atI_of d0 d1
  refine ⟨x, mu', noX_ok ?_, n, hx⟩
  simp [r__law_one_of, startE, e, ixD_at ex]
/-! same -/
theorem fn_bad {P : Program} {w : World} {K : PySem.W.Frag} {mg : Str → Option Value} {base : Heap} {CX : CXT} {k n : Nat} {f : Addr} {fd : FuncData} {ps : List Str} : FnOk P w K mg base CX k f fd ps (sp K mg n fun _ _ => .bad) := by
  have no : ∀ vs H Q E, ¬ sp K mg n (fun _ _ => .bad) vs H Q E := fun vs H Q E h => by
    obtain ⟨_, _, _, _, _, _, h⟩ := h
    exact h
  exact ⟨fun vs H Q E h => absurd h (no vs H Q E), fun A outer s H args us vs Q E _ _ _ _ h => absurd h (no vs H Q E)⟩
noncomputable def sameL : Nat → List D → M Rv
  | 0 => fun _ _ => .bad
  | n + 1 => den__law_same (sameL n) den__law_is_int
mutual
/-- data of tuples, texts and ints, less deep than n -/
def plainD : Nat → D → Bool
  | _ + 1, .int _ => true
  | _ + 1, .str _ => true
  | n + 1, .tup xs => decide (xs.length ≤ 1000) && plainDs n xs
  | _, _ => false
def plainDs : Nat → List D → Bool
  | _, [] => true
  | n, x :: xs => plainD n x && plainDs n xs
end
theorem plainDs_mem {n : Nat} : ∀ {xs : List D}, plainDs n xs = true → ∀ x ∈ xs, plainD n x = true
  | [], _, x, hx => by simp at hx
  | y :: ys, h, x, hx => by
    rw [plainDs, Bool.and_eq_true] at h
    rcases List.mem_cons.mp hx with e | e
    · rw [e]; exact h.1
    · exact plainDs_mem h.2 x e
theorem is_int_int {i : Int} {mu : List MO} : den__law_is_int [.int i] mu = .ok (.vl (.bl true)) mu := by
  refine noX_ok ?_
  simp [r__law_is_int, startE, isiB]
theorem gEq_int {i : Int} {mu : List MO} : gEq false (.int i) (.int i) mu = .ok (.bl true) mu := by
  unfold gEq
  simp [okE, dep, eqD]
theorem gEq_str {i : Str} {mu : List MO} : gEq false (.str i) (.str i) mu = .ok (.bl true) mu := by
  unfold gEq
  simp [okE, dep, eqD]
theorem gEq_ints {neg : Bool} {i j : Int} {mu : List MO} : gEq neg (.int i) (.int j) mu = .ok (.bl ((i == j) != neg)) mu := by
  unfold gEq
  simp [okE, dep, eqD]
theorem toBs_true {xs : List D} {mu : List MO} : toBs (xs.map fun _ => D.bl true) mu = .ok (xs.map fun _ => true) mu := by
  induction xs with
  | nil => rfl
  | cons x xs ih =>
    show ((toB (.bl true) : M Bool) >>= fun b => toBs (xs.map fun _ => D.bl true) >>= fun bs => pure (b :: bs)) mu = _
    simp [ih]
theorem sameL_eq {n : Nat} {ds : List D} : sameL (n + 1) ds = noX (runB 3 (r__law_same (sameL n) den__law_is_int) ds) := rfl
theorem same_ok : ∀ (n : Nat) (d : D) (mu : List MO), plainD n d = true → sameL (n + 1) [d, d] mu = .ok (.vl (.bl true)) mu
  | 0, d, mu, h => by cases d <;> simp [plainD] at h
  | n + 1, .int i, mu, _ => by
    rw [sameL_eq]
    refine noX_ok ?_
    simp [r__law_same, startE, isiB, is_int_int, gEq_int]
  | n + 1, .str i, mu, _ => by
    rw [sameL_eq]
    refine noX_ok ?_
    simp [r__law_same, startE, isiB, gEq_str]
  | n + 1, .tup xs, mu, h => by
    have h' : (decide (xs.length ≤ 1000) && plainDs n xs) = true := h
    rw [Bool.and_eq_true, decide_eq_true_eq] at h'
    have hp := plainDs_mem h'.2
    have hz : (xs.length : Int) ≤ 16777216 := by have := h'.1; omega
    rw [sameL_eq]
    refine noX_ok ?_
    have hc : loopC (asgN 2) tYesM (eCall (lenD 2 (sameL (n + 1))) (aCons (eBin gIx (eVar 0) (eVar 2)) (aCons (eBin gIx (eVar 1) (eVar 2)) aNil))) [] (rngD 0 xs.length) [some (D.tup xs), some (D.tup xs), none] mu = .ok ((rngD 0 xs.length).map fun _ => D.bl true) mu := by
      refine loopC_map fun d hd => ?_
      obtain ⟨i, hi, e⟩ := List.mem_map.mp (show d ∈ (List.range xs.length).map fun (i : Nat) => D.int (0 + (i : Int)) from hd)
      subst e
      have hi := List.mem_range.mp hi
      obtain ⟨x, hx, ex⟩ := atI_of (xs := xs) (i := (i : Int)) (by omega) (by omega)
      have ih := same_ok n x mu (hp x hx)
      refine ⟨_, rfl, rfl, ?_⟩
      simp [ixD_at ex, ih]
    simp [r__law_same, startE, isiB, gEq_ints, wRng1, hc, noX_ok hc, gAll, toBs_true, hz]
end MP
namespace MP
open PySem L2 PyProof.Rows
/-! ### forms.form -/
/-- names: 0 constant, 1 pairs, 2 sums, 3 name, 4 coefficient -/
noncomputable def r_form : MP.Env → M Fl :=
  (sSeq (sSet 2 eNewD)
  (sSeq (sFor (eWalk (eVar 1)) (asgT 2 (asgCons (asgN 3) (asgCons (asgN 4) asgNil)))
  (sDput (eVar 2) (eVar 3) (eBin gAdd (eGet2 (eVar 2) (eVar 3) (eC (.int 0))) (eVar 4))) [3, 4])
  (sRet (aThen gTup (aCons (eVar 0) (aCons (aThen (g1 gTuple) (aCons (eFl (fComp (eWalk (eFl (fSrtD (eVar 2)))) (asgN 3) (eB (eBin (gEq true) (eBin gDget (eVar 2) (eVar 3)) (eC (.int 0)))) (aThen gTup (aCons (eVar 3) (aCons (eBin gDget (eVar 2) (eVar 3)) aNil))) [3])) aNil)) aNil))))))
noncomputable def den_form : List D → M Rv := fun ds => noX (runB 5 (r_form) ds)
/-! dicts, plainly -/
def valG {β : Type} (kvs : List (Key × β)) (k : Key) : Option β := (kvs.find? fun kv => decide (kv.1 = k)).map (·.2)
section
variable {β : Type} {kvs r : List (Key × β)} {k j : Key} {y : β} {p : Key × β}
theorem valG_pos (e : p.1 = k) : valG (p :: r) k = some p.2 := by simp [valG, List.find?_cons, e]
theorem valG_neg (e : ¬ p.1 = k) : valG (p :: r) k = valG r k := by simp [valG, List.find?_cons, e]
theorem valG_any : ∀ kvs : List (Key × β), (kvs.any fun kv => decide (kv.1 = k)) = (valG kvs k).isSome
  | [] => rfl
  | p :: r => by
    rw [List.any_cons]
    by_cases e : p.1 = k
    · rw [valG_pos e, decide_eq_true e]; rfl
    · rw [valG_neg e, decide_eq_false e, Bool.false_or]; exact valG_any r
theorem valG_map : ∀ kvs : List (Key × β), valG (mapV kvs k y) j = (valG kvs j).map fun x => if j = k then y else x
  | [] => rfl
  | p :: r => by
    have ih := valG_map r
    unfold mapV at ih ⊢
    rw [List.map_cons]
    by_cases h : p.1 = j
    · rw [valG_pos (p := p) h]
      by_cases h2 : p.1 = k
      · rw [if_pos h2, valG_pos (p := (p.1, y)) h, Option.map_some, if_pos (h.symm.trans h2)]
      · rw [if_neg h2, valG_pos h, Option.map_some, if_neg (fun e => h2 (h.trans e))]
    · rw [valG_neg (p := p) h, ← ih]
      by_cases h2 : p.1 = k
      · rw [if_pos h2, valG_neg (p := (p.1, y)) h]
      · rw [if_neg h2, valG_neg h]
theorem valG_snoc : ∀ kvs : List (Key × β), valG kvs k = none → valG (kvs ++ [(k, y)]) j = if j = k then some y else valG kvs j
  | [], _ => by
    by_cases e : k = j
    · rw [if_pos e.symm]; exact valG_pos (p := (k, y)) e
    · rw [if_neg (fun z => e z.symm)]; exact valG_neg (p := (k, y)) e
  | p :: r, hn => by
    rw [List.cons_append]
    by_cases h : p.1 = k
    · rw [valG_pos h] at hn; cases hn
    · rw [valG_neg h] at hn
      have ih := valG_snoc r hn
      by_cases h2 : p.1 = j
      · rw [valG_pos h2, valG_pos h2, if_neg (fun e => h (h2.trans e))]
      · rw [valG_neg h2, valG_neg h2, ih]
theorem valG_put : valG (putD kvs k y) j = if j = k then some y else valG kvs j := by
  unfold putD
  by_cases a : (kvs.any fun kv => decide (kv.1 = k)) = true
  · rw [if_pos a, valG_map]
    rw [valG_any] at a
    by_cases e : j = k
    · obtain ⟨x, hx⟩ := Option.isSome_iff_exists.mp a
      subst e
      rw [hx, Option.map_some, if_pos rfl, if_pos rfl]
    · rw [if_neg e]
      cases valG kvs j with
      | none => rfl
      | some x => rw [Option.map_some, if_neg e]
  · rw [if_neg a]
    rw [valG_any] at a
    exact valG_snoc kvs (by cases h : valG kvs k with | none => rfl | some x => rw [h] at a; exact absurd rfl a)
theorem valG_mem : k ∈ kvs.map (·.1) ↔ (valG kvs k).isSome = true := by
  rw [← valG_any, List.any_eq_true, List.mem_map]
  constructor
  · rintro ⟨p, hp, e⟩; exact ⟨p, hp, decide_eq_true e⟩
  · rintro ⟨p, hp, e⟩; exact ⟨p, hp, of_decide_eq_true e⟩
theorem keys_put_in (h : k ∈ kvs.map (·.1)) : (putD kvs k y).map (·.1) = kvs.map (·.1) := by
  unfold putD
  rw [if_pos (by rw [valG_any]; exact valG_mem.mp h), mapV_keys]
theorem keys_put_new (h : ¬ k ∈ kvs.map (·.1)) : (putD kvs k y).map (·.1) = kvs.map (·.1) ++ [k] := by
  unfold putD
  rw [if_neg (fun a => h (valG_mem.mpr (by rw [← valG_any]; exact a))), List.map_append]; rfl
theorem length_put : (putD kvs k y).length ≤ kvs.length + 1 := by
  unfold putD
  split
  · unfold mapV; rw [List.length_map]; omega
  · simp
end
def toKD (l : List (Key × Int)) : List (Key × D) := l.map fun p => (p.1, .int p.2)
theorem toKD_keys {l : List (Key × Int)} : (toKD l).map (·.1) = l.map (·.1) := by unfold toKD; rw [List.map_map]; rfl
theorem toKD_val {l : List (Key × Int)} {k : Key} : valD (toKD l) k = (valG l k).map .int := by
  induction l with
  | nil => rfl
  | cons p r ih =>
    have e : valD (toKD (p :: r)) k = valG ((p.1, D.int p.2) :: toKD r) k := rfl
    rw [e]
    by_cases h : p.1 = k
    · rw [valG_pos (p := (p.1, D.int p.2)) h, valG_pos h]; rfl
    · rw [valG_neg (p := (p.1, D.int p.2)) h, valG_neg h]; exact ih
theorem toKD_put {l : List (Key × Int)} {k : Key} {i : Int} : putD (toKD l) k (.int i) = toKD (putD l k i) := by
  unfold putD
  have e : ((toKD l).any fun kv => decide (kv.1 = k)) = l.any fun kv => decide (kv.1 = k) := by unfold toKD; rw [List.any_map]; rfl
  rw [e]
  split
  · unfold mapV toKD
    rw [List.map_map, List.map_map]
    apply List.map_congr_left
    intro p _
    show (if p.1 = k then (p.1, D.int i) else (p.1, D.int p.2)) = ((if p.1 = k then (p.1, i) else p).1, D.int (if p.1 = k then (p.1, i) else p).2)
    split <;> rfl
  · unfold toKD; rw [List.map_append]; rfl
/-! the sums -/
def pairD (p : Str × Int) : D := .tup [.str p.1, .int p.2]
def sums : List (Key × Int) → List (Str × Int) → List (Key × Int)
  | l, [] => l
  | l, p :: r => sums (putD l (.inr p.1) ((valG l (.inr p.1)).getD 0 + p.2)) r
theorem sums_length : ∀ (ps : List (Str × Int)) (l : List (Key × Int)), (sums l ps).length ≤ l.length + ps.length
  | [], l => by unfold sums; simp
  | p :: r, l => by
    unfold sums
    have := sums_length r (putD l (.inr p.1) ((valG l (.inr p.1)).getD 0 + p.2))
    have h2 := length_put (kvs := l) (k := .inr p.1) (y := (valG l (.inr p.1)).getD 0 + p.2)
    rw [List.length_cons]
    omega
theorem form_loop {c d : D} {n : Nat} : ∀ (ps : List (Str × Int)) (l : List (Key × Int)) (mu : List MO) (o3 o4 : Option D), mu[n]? = some (.dk (toKD l)) → l.length + ps.length < sizeLine →
    loopF (asgT 2 (asgCons (asgN 3) (asgCons (asgN 4) asgNil))) (sDput (eVar 2) (eVar 3) (eBin gAdd (eGet2 (eVar 2) (eVar 3) (eC (.int 0))) (eVar 4))) [3, 4] [] (ps.map pairD) [some c, some d, some (.ref n), o3, o4] mu =
      .ok (.nx [some c, some d, some (.ref n), none, none]) (mu.set n (.dk (toKD (sums l ps))))
  | [], l, mu, _, _, h, _ => by
    rw [List.map_nil, loopF_nil]
    have e : mu.set n (.dk (toKD (sums l []))) = mu := by
      apply List.ext_getElem?
      intro i
      by_cases e : n = i
      · subst e; rw [List.getElem?_set_self (List.getElem?_eq_some_iff.mp h).1]; exact h.symm
      · rw [List.getElem?_set_ne e]
    rw [e]; rfl
  | p :: r, l, mu, _, _, h, hl => by
    have hn : n < mu.length := (List.getElem?_eq_some_iff.mp h).1
    have hset : ∀ x : MO, (mu.set n x)[n]? = some x := fun x => List.getElem?_set_self hn
    have hl' : (toKD l).length < sizeLine := by unfold toKD; rw [List.length_map]; rw [List.length_cons] at hl; omega
    have ih := form_loop (c := c) (d := d) (n := n) r (putD l (.inr p.1) ((valG l (.inr p.1)).getD 0 + p.2)) (mu.set n (.dk (toKD (putD l (.inr p.1) ((valG l (.inr p.1)).getD 0 + p.2))))) (some (.str p.1)) (some (.int p.2)) (hset _) (by
      have := length_put (kvs := l) (k := .inr p.1) (y := (valG l (.inr p.1)).getD 0 + p.2)
      rw [List.length_cons] at hl; omega)
    rw [List.set_set] at ih
    rw [List.map_cons, loopF_cons]
    have hv : ((Option.map D.int (valG l (.inr p.1))).getD (D.int 0)) = D.int ((valG l (.inr p.1)).getD 0) := by cases valG l (.inr p.1) <;> rfl
    have hput : putM (.ref n) (.str p.1) (.int ((valG l (.inr p.1)).getD 0 + p.2)) mu = .ok .non (mu.set n (.dk (toKD (putD l (.inr p.1) ((valG l (.inr p.1)).getD 0 + p.2))))) := by
      rw [putM_at (k := .inr p.1) rfl h hl', toKD_put]
    simp [pairD, h, toKD_val, hv, hput]
    exact ih
end MP
namespace MP
open PySem L2 PyProof.Rows
section
variable {γ : Type} {asg : D → Env → M Env} {t : Env → M Bool} {r : Env → M D} {env : Env} {mu : List MO}
theorem loopC_filter' {g f : γ → D} {p : γ → Bool} : ∀ {xs : List γ}, (∀ x ∈ xs, ∃ env1, asg (g x) env mu = .ok env1 mu ∧ t env1 mu = .ok (p x) mu ∧ (p x = true → r env1 mu = .ok (f x) mu)) → loopC asg t r [] (xs.map g) env mu = .ok ((xs.filter p).map f) mu
  | [], _ => loopC_nil
  | x :: xs, h => by
    obtain ⟨env1, h1, h2, h3⟩ := h x (by simp)
    have ih := loopC_filter' (xs := xs) fun e he => h e (by simp [he])
    rw [List.map_cons]
    cases hp : p x with
    | true =>
      rw [List.filter_cons_of_pos hp, List.map_cons]
      exact loopC_yes h1 (by rw [h2, hp]) (h3 hp) ih
    | false =>
      rw [List.filter_cons_of_neg (by rw [hp]; decide)]
      exact loopC_no h1 (by rw [h2, hp]) ih
theorem loopC_map' {g f : γ → D} : ∀ {xs : List γ}, (∀ x ∈ xs, ∃ env1, asg (g x) env mu = .ok env1 mu ∧ t env1 mu = .ok true mu ∧ r env1 mu = .ok (f x) mu) → loopC asg t r [] (xs.map g) env mu = .ok (xs.map f) mu
  | [], _ => loopC_nil
  | x :: xs, h => by
    obtain ⟨env1, h1, h2, h3⟩ := h x (by simp)
    rw [List.map_cons, List.map_cons]
    exact loopC_yes h1 h2 h3 (loopC_map' (xs := xs) fun e he => h e (by simp [he]))
end
theorem keyStrs_map : ∀ (ns : List Str), keyStrs (ns.map Sum.inr) = some ns
  | [] => rfl
  | n :: ns => by
    show (keyStrs (ns.map Sum.inr)).map (n :: ·) = _
    rw [keyStrs_map ns]; rfl
theorem sums_keys : ∀ (ps : List (Str × Int)) (l : List (Key × Int)) (ns : List Str), l.map (·.1) = ns.map Sum.inr → ns.Nodup → ∃ ns' : List Str, (sums l ps).map (·.1) = ns'.map Sum.inr ∧ ns'.Nodup ∧ ∀ n, n ∈ ns' ↔ n ∈ ns ∨ n ∈ ps.map (·.1)
  | [], l, ns, h, hn => ⟨ns, h, hn, fun n => by simp⟩
  | p :: r, l, ns, h, hn => by
    unfold sums
    by_cases hp : p.1 ∈ ns
    · obtain ⟨ns', h1, h2, h3⟩ := sums_keys r (putD l (.inr p.1) ((valG l (.inr p.1)).getD 0 + p.2)) ns (by rw [keys_put_in (by rw [h]; exact List.mem_map.mpr ⟨_, hp, rfl⟩), h]) hn
      refine ⟨ns', h1, h2, fun n => ?_⟩
      rw [h3, List.map_cons, List.mem_cons]
      constructor
      · rintro (z | z)
        · exact .inl z
        · exact .inr (.inr z)
      · rintro (z | z | z)
        · exact .inl z
        · rw [z]; exact .inl hp
        · exact .inr z
    · have hk : ¬ (Sum.inr p.1 : Key) ∈ l.map (·.1) := by
        rw [h]
        intro z
        obtain ⟨q, hq, e⟩ := List.mem_map.mp z
        cases e
        exact hp hq
      obtain ⟨ns', h1, h2, h3⟩ := sums_keys r (putD l (.inr p.1) ((valG l (.inr p.1)).getD 0 + p.2)) (ns ++ [p.1]) (by rw [keys_put_new hk, h, List.map_append]; rfl) (by
        rw [List.nodup_append]
        exact ⟨hn, by simp, fun x hx y hy e => by rw [List.mem_singleton.mp hy] at e; rw [e] at hx; exact hp hx⟩)
      refine ⟨ns', h1, h2, fun n => ?_⟩
      rw [h3, List.map_cons, List.mem_cons, List.mem_append, List.mem_singleton]
      constructor
      · rintro ((z | z) | z)
        · exact .inl z
        · exact .inr (.inl z)
        · exact .inr (.inr z)
      · rintro (z | z | z)
        · exact .inl (.inl z)
        · exact .inl (.inr z)
        · exact .inr z
def nms (ps : List (Str × Int)) : List Str := (keyStrs ((sums [] ps).map (·.1))).getD []
def valOf (ps : List (Str × Int)) (s : Str) : Int := (valG (sums [] ps) (.inr s)).getD 0
theorem nms_spec (ps : List (Str × Int)) : (sums [] ps).map (·.1) = (nms ps).map Sum.inr ∧ (nms ps).Nodup ∧ ∀ n, n ∈ nms ps ↔ n ∈ ps.map (·.1) := by
  obtain ⟨ns, h1, h2, h3⟩ := sums_keys ps [] [] rfl List.nodup_nil
  have e : nms ps = ns := by unfold nms; rw [h1, keyStrs_map]; rfl
  rw [e]
  exact ⟨h1, h2, fun n => by rw [h3]; simp⟩
/-- the form's pairs: sums by name, in order, no nothing -/
def canon (ps : List (Str × Int)) : List (Str × Int) := ((srtS (nms ps)).filter fun s => !(valOf ps s == 0)).map fun s => (s, valOf ps s)
def formD (c : D) (ps : List (Str × Int)) : D := .tup [c, .tup ((canon ps).map pairD)]
theorem srtS_mem {xs : List Str} {x : Str} : x ∈ srtS xs ↔ x ∈ xs := (List.mergeSort_perm xs leS).mem_iff
theorem srtS_len {xs : List Str} : (srtS xs).length = xs.length := (List.mergeSort_perm xs leS).length_eq
theorem nms_len (ps : List (Str × Int)) : (nms ps).length ≤ ps.length := by
  have h := congrArg List.length (nms_spec ps).1
  rw [List.length_map, List.length_map] at h
  have := sums_length ps []
  simp at this
  omega
theorem canon_len (ps : List (Str × Int)) : (canon ps).length ≤ ps.length := by
  unfold canon
  rw [List.length_map]
  have h1 := List.length_filter_le (fun s => !(valOf ps s == 0)) (srtS (nms ps))
  rw [srtS_len] at h1
  have := nms_len ps
  omega
theorem gEq_zero {neg : Bool} {i : Int} {mu : List MO} : gEq neg (.int i) (.int 0) mu = .ok (.bl ((i == 0) != neg)) mu := gEq_ints
theorem srtK_ok {ks : List Key} {ns : List Str} {mu : List MO} (h : ks = ns.map Sum.inr) (hl : ns.length < 64) : srtK ks mu = .ok ((srtS ns).map D.str) mu := by
  unfold srtK
  rw [h, bind_ap, need_ap, if_pos (by rw [List.length_map]; exact hl), keyStrs_map]
  rfl
theorem form_ok {c d : D} {ps : List (Str × Int)} {mu : List MO} (hd : ∀ mu, walkD d mu = .ok (ps.map pairD, []) mu) (hl : ps.length < 64) :
    den_form [c, d] mu = .ok (.vl (formD c ps)) (mu ++ [MO.dk (toKD (sums [] ps))]) := by
  obtain ⟨hk, hnd, hmem⟩ := nms_spec ps
  have hsz : (64 : Nat) ≤ sizeLine := by decide
  have hset : ∀ y : MO, (mu ++ [MO.dk (toKD [])]).set mu.length y = mu ++ [y] := fun y => by simp [List.set_append]
  have h1 := form_loop (c := c) (d := d) (n := mu.length) ps [] (mu ++ [MO.dk (toKD [])]) none none (by simp) (by simp; omega)
  rw [hset] at h1
  have h0 : (mu ++ [MO.dk (toKD (sums [] ps))])[mu.length]? = some (.dk (toKD (sums [] ps))) := by simp
  have h2 := srtK_ok (mu := mu ++ [MO.dk (toKD (sums [] ps))]) (show (toKD (sums [] ps)).map (·.1) = (nms ps).map Sum.inr by rw [toKD_keys]; exact hk) (by have := nms_len ps; omega)
  have hgd : ∀ s ∈ srtS (nms ps), gDget (.ref mu.length) (.str s) (mu ++ [MO.dk (toKD (sums [] ps))]) = .ok (.int (valOf ps s)) (mu ++ [MO.dk (toKD (sums [] ps))]) := fun s hs => by
    have hin : (valG (sums [] ps) (.inr s)).isSome = true := valG_mem.mp (by rw [hk]; exact List.mem_map.mpr ⟨s, srtS_mem.mp hs, rfl⟩)
    obtain ⟨v, hv⟩ := Option.isSome_iff_exists.mp hin
    unfold gDget valOf
    simp [h0, toKD_val, hv]
  have h3 : loopC (asgN 3) (eB (eBin (gEq true) (eBin gDget (eVar 2) (eVar 3)) (eC (.int 0)))) (aThen gTup (aCons (eVar 3) (aCons (eBin gDget (eVar 2) (eVar 3)) aNil))) [] ((srtS (nms ps)).map D.str) [some c, some d, some (.ref mu.length), none, none] (mu ++ [MO.dk (toKD (sums [] ps))]) =
      .ok (((srtS (nms ps)).filter fun s => !(valOf ps s == 0)).map fun s => pairD (s, valOf ps s)) (mu ++ [MO.dk (toKD (sums [] ps))]) := by
    refine loopC_filter' fun s hs => ⟨_, rfl, ?_, fun _ => ?_⟩
    · simp [hgd s hs, gEq_zero]
    · have e2 : (2 : Nat) ≤ sizeLine := by decide
      simp [hgd s hs, gTup_ok, e2, pairD]
  refine noX_ok ?_
  have e2 : (2 : Nat) ≤ sizeLine := by decide
  have ek : toKD [] = [] := rfl
  rw [ek] at h1
  simp [r_form, startE, hd, h1, h0, h2, noX_ok h3, gTup_ok, e2]
  simp [formD, canon, Function.comp_def]
end MP
namespace MP
open PySem L2 PyProof.Rows
theorem ltS_iff {x y : Str} : ltS x y = true ↔ x.cps.toList < y.cps.toList := by unfold ltS; exact decide_eq_true_iff
theorem ltS_le {x y : Str} (h : ltS x y = true) : leS x y = true := leS_iff.mpr (List.le_of_lt (ltS_iff.mp h))
theorem ltS_irr {x : Str} : ltS x x = false := by
  cases h : ltS x x with
  | false => rfl
  | true => exact absurd (ltS_iff.mp h) (List.lt_irrefl _)
theorem ltS_of {x y : Str} (h : leS x y = true) (hn : x ≠ y) : ltS x y = true := by
  cases hl : ltS x y with
  | true => rfl
  | false =>
    have h2 : leS y x = true := by
      unfold leS
      rw [ltCps_eq]
      have : ¬ x.cps.toList < y.cps.toList := fun z => by rw [ltS_iff.mpr z] at hl; cases hl
      rw [decide_eq_false this]; rfl
    exact absurd (leS_anti h h2) hn
theorem sums_val (s : Str) : ∀ (ps : List (Str × Int)) (l : List (Key × Int)), (valG (sums l ps) (.inr s)).getD 0 = (valG l (.inr s)).getD 0 + ((ps.filter fun p => p.1 == s).map (·.2)).sum
  | [], l => by unfold sums; simp
  | p :: r, l => by
    unfold sums
    rw [sums_val s r, valG_put]
    by_cases e : s = p.1
    · subst e
      rw [if_pos rfl, List.filter_cons_of_pos (by simp), List.map_cons, List.sum_cons]
      show (valG l (.inr p.1)).getD 0 + p.2 + _ = _
      omega
    · rw [if_neg (fun z => e (Sum.inr.inj z)), List.filter_cons_of_neg (by simp; exact fun z => e z.symm)]
theorem valOf_eq (ps : List (Str × Int)) (s : Str) : valOf ps s = ((ps.filter fun p => p.1 == s).map (·.2)).sum := by
  unfold valOf
  rw [sums_val]
  show (0 : Int) + _ = _
  omega
/-- names rising, nothing without a number -/
structure Canon (qs : List (Str × Int)) : Prop where
  up : qs.Pairwise fun p q => ltS p.1 q.1 = true
  nz : ∀ p ∈ qs, p.2 ≠ 0
theorem srtS_pw {xs : List Str} (h : xs.Nodup) : (srtS xs).Pairwise fun a b => ltS a b = true := by
  have h1 := List.pairwise_mergeSort leS_trans leS_total xs
  have h2 : (srtS xs).Nodup := (List.mergeSort_perm xs leS).nodup_iff.mpr h
  exact (h1.and h2).imp fun ⟨a, b⟩ => ltS_of a b
theorem canon_canon (ps : List (Str × Int)) : Canon (canon ps) := by
  refine ⟨?_, fun p hp => ?_⟩
  · unfold canon
    rw [List.pairwise_map]
    exact (srtS_pw (nms_spec ps).2.1).filter _
  · unfold canon at hp
    obtain ⟨s, hs, e⟩ := List.mem_map.mp hp
    subst e
    have := (List.mem_filter.mp hs).2
    simpa using this
theorem canon_names {ps : List (Str × Int)} {p : Str × Int} (h : p ∈ canon ps) : p.1 ∈ ps.map (·.1) := by
  unfold canon at h
  obtain ⟨s, hs, e⟩ := List.mem_map.mp h
  subst e
  exact ((nms_spec ps).2.2 _).mp (srtS_mem.mp (List.mem_filter.mp hs).1)
theorem Canon.nodup {qs : List (Str × Int)} (h : Canon qs) : (qs.map (·.1)).Nodup := by
  rw [List.nodup_iff_pairwise_ne, List.pairwise_map]
  exact h.up.imp fun {a b} z e => by rw [e, ltS_irr] at z; cases z
theorem Canon.val {qs : List (Str × Int)} (h : Canon qs) : ∀ p ∈ qs, valOf qs p.1 = p.2 := fun p hp => by
  rw [valOf_eq]
  have hn := h.nodup
  clear h
  induction qs with
  | nil => simp at hp
  | cons q r ih =>
    rw [List.map_cons, List.nodup_cons] at hn
    rcases List.mem_cons.mp hp with e | e
    · subst e
      rw [List.filter_cons_of_pos (by simp), List.map_cons, List.sum_cons]
      have z : (r.filter fun q => q.1 == p.1) = [] := by
        rw [List.filter_eq_nil_iff]
        intro q hq e
        exact hn.1 (List.mem_map.mpr ⟨q, hq, by simpa using e⟩)
      rw [z]; simp
    · have hne : ¬ q.1 = p.1 := fun z => hn.1 (List.mem_map.mpr ⟨p, e, z.symm⟩)
      rw [List.filter_cons_of_neg (by simpa using hne)]
      exact ih e hn.2
theorem canon_id {qs : List (Str × Int)} (h : Canon qs) : canon qs = qs := by
  obtain ⟨h1, h2, h3⟩ := nms_spec qs
  have hperm : (nms qs).Perm (qs.map (·.1)) := (List.perm_ext_iff_of_nodup h2 h.nodup).mpr h3
  have hs : srtS (nms qs) = qs.map (·.1) := by
    refine List.Perm.eq_of_pairwise (le := fun a b => leS a b = true) (fun a b _ _ x y => leS_anti x y) (List.pairwise_mergeSort leS_trans leS_total _) ?_ ((List.mergeSort_perm _ leS).trans hperm)
    rw [List.pairwise_map]
    exact h.up.imp fun z => ltS_le z
  unfold canon
  rw [hs, List.filter_map, List.map_map]
  have hf : qs.filter ((fun s => !(valOf qs s == 0)) ∘ fun p => p.1) = qs := by
    rw [List.filter_eq_self]
    intro p hp
    show (!(valOf qs p.1 == 0)) = true
    rw [h.val p hp]
    have := h.nz p hp
    simpa using this
  rw [hf]
  conv => rhs; rw [← List.map_id qs]
  apply List.map_congr_left
  intro p hp
  show (p.1, valOf qs p.1) = p
  rw [h.val p hp]
theorem cps_append (x y : Str) : (x ++ y).cps.toList = x.cps.toList ++ y.cps.toList := by
  show (x.cps ++ y.cps).toList = _
  simp
theorem lt_append (m : List Nat) : ∀ (a b : List Nat), m ++ a < m ++ b ↔ a < b := by
  induction m with
  | nil => intro a b; rfl
  | cons x m ih =>
    intro a b
    rw [List.cons_append, List.cons_append, List.cons_lt_cons_iff]
    constructor
    · rintro (h | ⟨_, h⟩)
      · exact absurd h (Nat.lt_irrefl _)
      · exact (ih a b).mp h
    · intro h; exact .inr ⟨rfl, (ih a b).mpr h⟩
theorem ltS_append {m x y : Str} : ltS (m ++ x) (m ++ y) = ltS x y := by
  unfold ltS
  rw [cps_append, cps_append]
  exact decide_eq_decide.mpr (lt_append _ _ _)
/-- each name with a mark ahead -/
def marked (m : Str) (qs : List (Str × Int)) : List (Str × Int) := qs.map fun p => (m ++ p.1, p.2)
theorem Canon.marked {qs : List (Str × Int)} (h : Canon qs) (m : Str) : Canon (marked m qs) := by
  refine ⟨?_, fun p hp => ?_⟩
  · unfold MP.marked
    rw [List.pairwise_map]
    exact h.up.imp fun z => by show ltS (m ++ _) (m ++ _) = true; rw [ltS_append]; exact z
  · obtain ⟨q, hq, e⟩ := List.mem_map.mp hp
    subst e
    exact h.nz q hq
/-! what form promises -/
def pairOf : D → Option (Str × Int)
  | .tup [.str s, .int i] => some (s, i)
  | _ => none
def pairsOf : List D → Option (List (Str × Int))
  | [] => some []
  | d :: ds => match pairOf d, pairsOf ds with
    | some p, some r => some (p :: r)
    | _, _ => none
theorem pairsOf_eq : ∀ {ds : List D} {ps : List (Str × Int)}, pairsOf ds = some ps → ds = ps.map pairD
  | [], ps, h => by cases h; rfl
  | d :: ds, ps, h => by
    unfold pairsOf at h
    cases hp : pairOf d with
    | none => rw [hp] at h; cases h
    | some p =>
      cases hr : pairsOf ds with
      | none => rw [hp, hr] at h; cases h
      | some r =>
        rw [hp, hr] at h
        cases h
        rw [List.map_cons, ← pairsOf_eq hr]
        congr 1
        unfold pairOf at hp
        split at hp
        · cases hp; rfl
        · cases hp
theorem pairsOf_map : ∀ (ps : List (Str × Int)), pairsOf (ps.map pairD) = some ps
  | [] => rfl
  | p :: r => by
    rw [List.map_cons]
    unfold pairsOf
    rw [pairsOf_map r]
    rfl
def seqOf : D → Option (List D)
  | .fl xs => some xs
  | .tup xs => some xs
  | .ro xs => some xs
  | _ => none
theorem seqOf_walk {d : D} {xs : List D} (h : seqOf d = some xs) (mu : List MO) : walkD d mu = .ok (xs, []) mu := by
  cases d <;> simp [seqOf] at h <;> (subst h; rfl)
def formF : List D → Option D
  | [c, d] => match seqOf d with
    | some xs => match pairsOf xs with
      | some ps => if ps.length < 64 then some (formD c ps) else none
      | none => none
    | none => none
  | _ => none
theorem formF_ok {c d : D} {ps : List (Str × Int)} (h : seqOf d = some (ps.map pairD)) (hl : ps.length < 64) : formF [c, d] = some (formD c ps) := by
  unfold formF
  simp only [h, pairsOf_map, if_pos hl]
theorem Clo.pairs {k : Nat} (ps : List (Str × Int)) : Clos k (ps.map pairD) := Clos.of fun d hd => by
  obtain ⟨p, _, e⟩ := List.mem_map.mp hd
  subst e
  exact Clo.tup.mpr (Clos.cons Clo.str (Clos.cons Clo.int Clos.nil))
theorem gc_form : GC 2 den_form (pureD formF) := gc_pure fun ds mu d hn hc hh hf => by
  match ds, hc, hf with
  | [c, e], hc, hf =>
    unfold formF at hf
    simp only at hf
    split at hf
    · rename_i xs hx
      split at hf
      · rename_i ps hp
        split at hf
        · rename_i hl
          cases hf
          have e1 := pairsOf_eq hp
          subst e1
          exact ⟨Clo.tup.mpr (Clos.cons hc.inv.1 (Clos.cons (Clo.tup.mpr (Clo.pairs _)) Clos.nil)), _, form_ok (fun mu => seqOf_walk hx mu) hl⟩
        · cases hf
      · cases hf
    · cases hf
  | [], _, hf => cases hf
  | [_], _, hf => cases hf
  | _ :: _ :: _ :: _, _, hf => cases hf
noncomputable abbrev r__law_form := r_form
noncomputable abbrev den__law_form := den_form
end MP
namespace MP
open PySem L2 PyProof.Rows
section
variable {asg : D → Env → M Env} {body : Env → M Fl} {fg : List Nat} {t : Env → M Bool} {r : Env → M D}
/-- a loop with an invariant; the number tells how many turns are left -/
theorem loopF_inv {I : Nat → Env → List MO → Prop} : ∀ {ds : List D} {env : Env} {mu : List MO}, (∀ d ∈ ds, ∀ k env mu, I (k + 1) env mu → ∃ env1 e' mu', asg d (wipeE env fg) mu = .ok env1 mu ∧ body env1 mu = .ok (.nx e') mu' ∧ I k e' mu') → I ds.length env mu →
    ∃ e' mu', loopF asg body fg [] ds env mu = .ok (.nx (wipeE e' fg)) mu' ∧ I 0 e' mu'
  | [], env, mu, _, h => ⟨env, mu, loopF_nil, h⟩
  | d :: ds, env, mu, hs, h => by
    obtain ⟨env1, e1, mu1, h1, h2, h3⟩ := hs d (by simp) ds.length env mu h
    obtain ⟨e', mu', h4, h5⟩ := loopF_inv (ds := ds) (fun x hx => hs x (by simp [hx])) h3
    refine ⟨e', mu', ?_, h5⟩
    rw [loopF_cons]
    simp [h1, h2, h4]
theorem loopC_inv {I : List MO → Prop} {P : D → Prop} : ∀ {ds : List D} {env : Env} {mu : List MO}, (∀ d ∈ ds, ∀ mu, I mu → ∃ env1 mu1 x, asg d env mu = .ok env1 mu ∧ t env1 mu = .ok true mu ∧ r env1 mu = .ok x mu1 ∧ I mu1 ∧ P x) → I mu →
    ∃ xs mu', loopC asg t r [] ds env mu = .ok xs mu' ∧ I mu' ∧ xs.length = ds.length ∧ ∀ x ∈ xs, P x
  | [], env, mu, _, h => ⟨[], mu, loopC_nil, h, rfl, by simp⟩
  | d :: ds, env, mu, hs, h => by
    obtain ⟨env1, mu1, x, h1, h2, h3, h4, h5⟩ := hs d (by simp) mu h
    obtain ⟨xs, mu', h6, h7, h8, h9⟩ := loopC_inv (ds := ds) (env := env) (fun y hy => hs y (by simp [hy])) h4
    exact ⟨x :: xs, mu', loopC_yes h1 h2 h3 h6, h7, by rw [List.length_cons, List.length_cons, h8], fun y hy => by
      rcases List.mem_cons.mp hy with e | e
      · rw [e]; exact h5
      · exact h9 y e⟩
end
theorem len_append (x y : Str) : (x ++ y).length = x.length + y.length := by
  show (x.cps ++ y.cps).size = x.cps.size + y.cps.size
  simp
theorem rng_mem {d : D} {n : Nat} (h : d ∈ rngD 0 n) : ∃ i : Nat, i < n ∧ d = .int i := by
  obtain ⟨i, hi, e⟩ := List.mem_map.mp (show d ∈ (List.range n).map fun (i : Nat) => D.int (0 + (i : Int)) from h)
  exact ⟨i, List.mem_range.mp hi, by rw [← e, Int.zero_add]⟩
theorem wRng1_ok {n : Int} {mu : List MO} (h : -16777216 ≤ n ∧ n ≤ 16777216) : wRng1 [.int n] mu = .ok (rngD 0 n.toNat, []) mu := by
  show ((toI (.int n) : M Int) >>= fun n => (need (-16777216 ≤ n ∧ n ≤ 16777216) : M Unit) >>= fun _ => (pure (rngD 0 n.toNat, []) : M Wk)) mu = _
  rw [bind_ap, toI_int]
  show ((need (-16777216 ≤ n ∧ n ≤ 16777216) : M Unit) >>= fun _ => (pure (rngD 0 n.toNat, []) : M Wk)) mu = _
  rw [bind_ap, need_ap, if_pos h]
  rfl

/-! ### the law's own end -/
def spLaw (K : PySem.W.Frag) (n : Nat) : Sp := fun vs H Q _ => ∃ (a : Addr) (ns : List Int), vs = [.ref a] ∧ Only H ∧ SqL K H a (ns.map V.int) ∧ ns.length ≤ n ∧ ∀ H', Q (.bl true) H'
theorem law_of {P : Program} {w : World} {K : PySem.W.Frag} {mg : Str → Option Value} {base : Heap} {k n : Nat} {f : Addr} {fd : FuncData} {ps : List Str} {den : List D → M Rv} (F : FnOk P w K mg base CX0 k f fd ps (sp K mg 1 den))
    (h : ∀ cs : List Int, cs.length ≤ n → ∃ mu', den [.ro (cs.map .int)] [] = .ok (.vl (.bl true)) mu') : FnOk P w K mg base CX0 k f fd ps (spLaw K n) := F.imp fun vs H Q E ⟨a, ns, e, hO, hS, hl, q⟩ => by
  subst e
  have hro : RoAt K H a (ns.map V.int) := by
    rcases hS with (hS | ⟨o, hS⟩) | hS
    · rcases hO a with z | ⟨o, xs, z⟩
      · rw [z] at hS; cases hS
      · rw [z] at hS; cases hS
    · exact .inl ⟨o, hS⟩
    · exact .inr hS
  obtain ⟨mu', e⟩ := h ns hl
  refine ⟨rfl, [.ro (ns.map .int)], ⟨[], []⟩, [], Reps.one (by simp only [Rep]; exact ⟨a, _, rfl, hro, Reps.of_ints.mpr rfl⟩), ⟨rfl, List.nodup_nil, fun _ z => by simp at z, fun _ z => by simp at z, fun _ _ _ z _ => by simp at z⟩, ?_⟩
  rw [e]
  intro m' H' _ _ v rv
  simp only [Rep] at rv
  subst rv
  exact q H'
theorem walkM {l : PySem.W.OpenLaw} {n k : Nat} {q : Program} {loose : List Str} {XP : (Str → Option Value) → Heap → Prop} {YP : World → Heap → Prop} {d : DefRec} {K : Params → PySem.W.Frag} (hn : l.most = some n) (hn2 : n ≤ sizeLine) (hdf : d.params.defaults = []) (hr : Room k callerA)
    (hY : ∀ (w : World) (h : Heap), YP w h → (K w.params).In h)
    (F : ∀ (w : World) (mg : Str → Option Value) (fa : Addr) (h : Heap), (K w.params).In h → h.Ns mainGlobals mg → mg d.name = some (.ref fa) →
      ∃ fd : FuncData, (∀ (s : Shared) (u : Value), BindsTo s fd ⟨[u], []⟩ [("script", u)]) ∧ ∀ base : Heap, (K w.params).In base → base.Ns mainGlobals mg → FnOk l.prog w (K w.params) mg base CX0 k fa fd ["script"] (spLaw (K w.params) n)) :
    PySem.W.WalkO q loose XP YP l.row.toRowW d [] (fun f vs => PySem.call f vs) :=
  L2.walk_of (n := n) (k := k) (x := "script") (CX := fun _ => CX0) (sp := fun w => spLaw (K w.params) n) hn hn2 hdf hr hY F (fun _ _ a ns hl hO hS => ⟨a, ns, rfl, hO, hS, hl, fun _ => rfl⟩) fun _ _ _ _ _ z => z
end MP
namespace K05
open PySem L2 PyProof.Rows MP
def top (i : Nat) : Stmt := PySem.Challenge.pw_differwithin_k05_sided.main.body.getD i (.Pass ⟨0, 0, 0, 0⟩)
section
variable {P : Program} {w : World} {K : PySem.W.Frag} {mg : Str → Option Value} {base : Heap}
abbrev st_form : Stmt := top 1
theorem sc_form : FnScope ["constant", "pairs", "sums", "name", "coefficient"] ["constant", "pairs"] (defScope st_form) := ⟨rfl, rfl, rfl, by decide +kernel, rfl, by decide +kernel, by decide +kernel⟩
theorem mp_form {k : Nat} {f : Addr} {fd : FuncData} (F : Fun K "form" "form" st_form f fd) (z_sorted : mg "sorted" = none) (z_tuple : mg "tuple" = none) : FnOk P w K mg base CX0 (k + 1) f fd ["constant", "pairs"] (sp K mg 2 (den_form)) :=
  have sc := sc_form
  fn_mp (N := ["constant", "pairs", "sums", "name", "coefficient"]) (r := r_form) F sc_form rfl fun cdv A outer s H E hr =>
  have hu := hr.units
  have hu1 := units1 hr
  (mss_cons (ms_set (i := 2) sc.nd rfl (by first | exact Or.inl rfl | exact Or.inr rfl) me_dict0)
  (mss_cons (ms_for (fg := [3, 4]) PassesOwn.never rfl (mi_seq (me_var (pv 1))) (mg_tup rfl (mgs_cons (mg_of (pg_name (i := 3) sc.nd rfl (by first | exact Or.inl rfl | exact Or.inr rfl))) (mgs_cons (mg_of (pg_name (i := 4) sc.nd rfl (by first | exact Or.inl rfl | exact Or.inr rfl))) mgs_nil)))
  (mss_one (ms_dput hu1 (me_var (pv 2)) (me_var (pv 3)) (me_bin op_addM opm_add (me_get2 hu1 (me_var (pv 2)) (me_var (pv 3)) me_int) (me_var (pv 4))))))
  (mss_one (ms_ret (me_tup (ma_cons (me_var (pv 0)) (ma_cons (me_callTy call_tuple_of callM_tuple rfl z_tuple (by decide +kernel) (ma_cons (me_fl (mf_comp rfl sc.nd (mi_seq (me_fl (mf_sortedD rfl rfl z_sorted (by decide +kernel) (me_var (pv 2))))) (own := [("name", 3)]) (blkOk_by (N := ["constant", "pairs", "sums", "name", "coefficient"]) (sc := defScope st_form) (by decide +kernel)) (by decide) (fun s H C cl fp => (mg_of (pg_name (i := 3) sc.nd rfl (by first | exact Or.inl rfl | exact Or.inr rfl)))) (fun s H C cl fp => (mts_one (mt_cmp (op_neM hu) opm_eq (me_dget hu1 (me_var (pv 2)) (me_var (pv 3))) me_int (by first | exact nomark _ | rfl)))) (fun s H C cl fp => (me_tup (ma_cons (me_var (pv 3)) (ma_cons (me_dget hu1 (me_var (pv 2)) (me_var (pv 3))) ma_nil)))))) ma_nil)) ma_nil)))))))
abbrev st_sided : Stmt := top 3
theorem sc_sided : FnScope ["mark", "f", "name", "number"] ["mark", "f"] (defScope st_sided) := ⟨rfl, rfl, rfl, by decide +kernel, rfl, by decide +kernel, by decide +kernel⟩
/-- names: 0 mark, 1 f, 2 name, 3 number -/
noncomputable def r_sided (d_form : List D → M Rv) : MP.Env → M Fl :=
  (sRet (eCall (lenD 2 d_form) (aCons (eBin gIx (eVar 1) (eC (.int 0))) (aCons (eFl (fComp (eWalk (eBin gIx (eVar 1) (eC (.int 1)))) (asgT 2 (asgCons (asgN 2) (asgCons (asgN 3) asgNil))) tYesM (aThen gTup (aCons (eBin gAdd (eVar 0) (eVar 2)) (aCons (eVar 3) aNil))) [2, 3])) aNil))))
noncomputable def den_sided (d_form : List D → M Rv) : List D → M Rv := fun ds => noX (runB 4 (r_sided d_form) ds)
theorem mp_sided {k : Nat} {f : Addr} {fd : FuncData} (F : Fun K "sided" "sided" st_sided f fd) {f_form : Addr} {e_form : FuncData} {d_form : List D → M Rv} (T_form : FnI K mg "form" st_form f_form e_form ["constant", "pairs"]) (F_form : FnOk P w K mg base CX0 k f_form e_form ["constant", "pairs"] (sp K mg 2 d_form)) : FnOk P w K mg base CX0 (k + 1) f fd ["mark", "f"] (sp K mg 2 (den_sided d_form)) :=
  have sc := sc_sided
  fn_mp (N := ["mark", "f", "name", "number"]) (r := r_sided d_form) F sc_sided rfl fun cdv A outer s H E hr =>
  have hu := hr.units
  have hu1 := units1 hr
  (mss_one (ms_ret (me_callF T_form F_form hr rfl (ma_cons (me_ix (me_var (pv 1)) me_int) (ma_cons (me_fl (mf_comp rfl sc.nd (mi_seq (me_ix (me_var (pv 1)) me_int)) (own := [("name", 2), ("number", 3)]) (blkOk_by (N := ["mark", "f", "name", "number"]) (sc := defScope st_sided) (by decide +kernel)) (by decide) (fun s H C cl fp => (mg_tup rfl (mgs_cons (mg_of (pg_name (i := 2) sc.nd rfl (by first | exact Or.inl rfl | exact Or.inr rfl))) (mgs_cons (mg_of (pg_name (i := 3) sc.nd rfl (by first | exact Or.inl rfl | exact Or.inr rfl))) mgs_nil)))) (fun s H C cl fp => mts_nil) (fun s H C cl fp => (me_tup (ma_cons (me_bin op_addM opm_add (me_var (pv 0)) (me_var (pv 2))) (ma_cons (me_var (pv 3)) ma_nil)))))) ma_nil)) rfl)))
abbrev st__law_start : Stmt := top 5
theorem sc__law_start : FnScope ["script"] ["script"] (defScope st__law_start) := ⟨rfl, rfl, rfl, by decide +kernel, rfl, by decide +kernel, by decide +kernel⟩
theorem mp__law_start {k : Nat} {f : Addr} {fd : FuncData} (F : Fun K "_law_start" "_law_start" st__law_start f fd) (z_list : mg "list" = none) : FnOk P w K mg base CX0 (k + 1) f fd ["script"] (sp K mg 1 (den__law_start)) :=
  have sc := sc__law_start
  fn_mp (N := ["script"]) (r := r__law_start) F sc__law_start rfl fun cdv A outer s H E hr =>
  have hu := hr.units
  have hu1 := units1 hr
  (mss_one (ms_retF (mf_lst (ma_cons (me_fl (mf_list1 rfl z_list (by decide +kernel) (ma_cons (me_var (pv 0)) ma_nil))) (ma_cons me_int (ma_cons me_int (ma_cons me_int ma_nil)))))))
abbrev st__law_draw : Stmt := top 6
theorem sc__law_draw : FnScope ["state", "most", "cell", "mixed", "found"] ["state", "most"] (defScope st__law_draw) := ⟨rfl, rfl, rfl, by decide +kernel, rfl, by decide +kernel, by decide +kernel⟩
theorem mp__law_draw {k : Nat} {f : Addr} {fd : FuncData} (F : Fun K "_law_draw" "_law_draw" st__law_draw f fd) (z_int : mg "int" = none) (z_len : mg "len" = none) (z_abs : mg "abs" = none) : FnOk P w K mg base CX0 (k + 1) f fd ["state", "most"] (sp K mg 2 (den__law_draw)) :=
  have sc := sc__law_draw
  fn_mp (N := ["state", "most", "cell", "mixed", "found"]) (r := r__law_draw) F sc__law_draw rfl fun cdv A outer s H E hr =>
  have hu := hr.units
  have hu1 := units1 hr
  (mss_cons (ms_sub (me_var (pv 0)) me_int (me_bin op_addM opm_add (me_ix (me_var (pv 0)) me_int) me_int))
  (mss_cons (ms_if (mt_cmp op_gt opm_cmp (me_ix (me_var (pv 0)) me_int) me_int (by first | exact nomark _ | rfl))
  (mss_cons (ms_set (i := 4) sc.nd rfl (by first | exact Or.inl rfl | exact Or.inr rfl) (me_bin op_mod opm_mod (me_callTy call_int1 callM_int rfl z_int (by decide +kernel) (ma_cons (me_ix (me_var (pv 0)) me_int) ma_nil)) (me_var (pv 1))))
  (mss_cons (ms_sub (me_var (pv 0)) me_int (me_bin op_fdivW opm_div (me_ix (me_var (pv 0)) me_int) (me_var (pv 1))))
  (mss_one (ms_ret (me_var (pv 4))))))
  mss_nil)
  (mss_cons (ms_set (i := 2) sc.nd rfl (by first | exact Or.inl rfl | exact Or.inr rfl) me_int)
  (mss_cons (ms_if (mt_cmp op_gt opm_cmp (me_callB call_lenM callM_len rfl z_len PySem.boot_len (ma_cons (me_ix (me_var (pv 0)) me_int) ma_nil)) me_int (by first | exact nomark _ | rfl))
  (mss_one (ms_set (i := 2) sc.nd rfl (by first | exact Or.inl rfl | exact Or.inr rfl) (me_callB call_abs callM_abs rfl z_abs (by decide +kernel) (ma_cons (me_ix (me_ix (me_var (pv 0)) me_int) (me_bin op_mod opm_mod (me_callTy call_int1 callM_int rfl z_int (by decide +kernel) (ma_cons (me_ix (me_var (pv 0)) me_int) ma_nil)) (me_callB call_lenM callM_len rfl z_len PySem.boot_len (ma_cons (me_ix (me_var (pv 0)) me_int) ma_nil)))) ma_nil))))
  mss_nil)
  (mss_cons (ms_sub (me_var (pv 0)) me_int (me_bin op_addM opm_add (me_ix (me_var (pv 0)) me_int) me_int))
  (mss_cons (ms_if (mt_cmp op_ge opm_cmp (me_var (pv 2)) (me_bin op_pow opm_pow me_int me_int) (by first | exact nomark _ | rfl))
  (mss_cons (ms_sub (me_var (pv 0)) me_int (me_bin op_fdivW opm_div (me_var (pv 2)) (me_var (pv 1))))
  (mss_one (ms_ret (me_bin op_mod opm_mod (me_callTy call_int1 callM_int rfl z_int (by decide +kernel) (ma_cons (me_var (pv 2)) ma_nil)) (me_var (pv 1))))))
  mss_nil)
  (mss_cons (ms_set (i := 3) sc.nd rfl (by first | exact Or.inl rfl | exact Or.inr rfl) (me_bin op_mod opm_mod (me_callTy call_int1 callM_int rfl z_int (by decide +kernel) (ma_cons (me_bin op_addM opm_add (me_bin op_mulM opm_mul (me_bin op_addM opm_add (me_var (pv 2)) me_int) me_int) (me_bin op_mulM opm_mul (me_ix (me_var (pv 0)) me_int) me_int)) ma_nil)) me_int))
  (mss_cons (ms_set (i := 3) sc.nd rfl (by first | exact Or.inl rfl | exact Or.inr rfl) (me_bin op_mod opm_mod (me_callTy call_int1 callM_int rfl z_int (by decide +kernel) (ma_cons (me_bin op_addM opm_add (me_bin op_addM opm_add (me_bin op_mulM opm_mul (me_var (pv 3)) me_int) (me_bin op_fdivW opm_div (me_var (pv 2)) me_int)) (me_ix (me_var (pv 0)) me_int)) ma_nil)) me_int))
  (mss_one (ms_ret (me_bin op_mod opm_mod (me_bin op_fdivW opm_div (me_var (pv 3)) me_int) (me_var (pv 1)))))))))))))
abbrev st__law_one_of : Stmt := top 7
theorem sc__law_one_of : FnScope ["state", "items"] ["state", "items"] (defScope st__law_one_of) := ⟨rfl, rfl, rfl, by decide +kernel, rfl, by decide +kernel, by decide +kernel⟩
theorem mp__law_one_of {k : Nat} {f : Addr} {fd : FuncData} (F : Fun K "_law_one_of" "_law_one_of" st__law_one_of f fd) {f__law_draw : Addr} {e__law_draw : FuncData} {d__law_draw : List D → M Rv} (T__law_draw : FnI K mg "_law_draw" st__law_draw f__law_draw e__law_draw ["state", "most"]) (F__law_draw : FnOk P w K mg base CX0 k f__law_draw e__law_draw ["state", "most"] (sp K mg 2 d__law_draw)) (z_len : mg "len" = none) : FnOk P w K mg base CX0 (k + 1) f fd ["state", "items"] (sp K mg 2 (den__law_one_of d__law_draw)) :=
  have sc := sc__law_one_of
  fn_mp (N := ["state", "items"]) (r := r__law_one_of d__law_draw) F sc__law_one_of rfl fun cdv A outer s H E hr =>
  have hu := hr.units
  have hu1 := units1 hr
  (mss_one (ms_ret (me_ix (me_var (pv 1)) (me_callF T__law_draw F__law_draw hr rfl (ma_cons (me_var (pv 0)) (ma_cons (me_callB call_lenM callM_len rfl z_len PySem.boot_len (ma_cons (me_var (pv 1)) ma_nil)) ma_nil)) rfl))))
abbrev st__law_is_int : Stmt := top 8
theorem sc__law_is_int : FnScope ["x"] ["x"] (defScope st__law_is_int) := ⟨rfl, rfl, rfl, by decide +kernel, rfl, by decide +kernel, by decide +kernel⟩
theorem mp__law_is_int {k : Nat} {f : Addr} {fd : FuncData} (F : Fun K "_law_is_int" "_law_is_int" st__law_is_int f fd) (z_isinstance : mg "isinstance" = none) (z_int : mg "int" = none) (z_bool : mg "bool" = none) : FnOk P w K mg base CX0 (k + 1) f fd ["x"] (sp K mg 1 (den__law_is_int)) :=
  have sc := sc__law_is_int
  fn_mp (N := ["x"]) (r := r__law_is_int) F sc__law_is_int rfl fun cdv A outer s H E hr =>
  have hu := hr.units
  have hu1 := units1 hr
  (mss_one (ms_ret (me_and (me_isi (T := "int") (by decide) rfl z_isinstance (by decide +kernel) rfl z_int (by decide +kernel) (me_var (pv 0))) (me_one (me_not (me_isi (T := "bool") (by decide) rfl z_isinstance (by decide +kernel) rfl z_bool (by decide +kernel) (me_var (pv 0))))))))
abbrev st__law_same : Stmt := top 9
theorem sc__law_same : FnScope ["x", "y", "k"] ["x", "y"] (defScope st__law_same) := ⟨rfl, rfl, rfl, by decide +kernel, rfl, by decide +kernel, by decide +kernel⟩
theorem mp__law_same {k : Nat} {f : Addr} {fd : FuncData} {f__law_is_int : Addr} {e__law_is_int : FuncData} {d__law_same : List D → M Rv} {d__law_is_int : List D → M Rv} (T__law_same : FnI K mg "_law_same" st__law_same f fd ["x", "y"]) (F__law_same : FnOk P w K mg base CX0 k f fd ["x", "y"] (sp K mg 2 d__law_same)) (T__law_is_int : FnI K mg "_law_is_int" st__law_is_int f__law_is_int e__law_is_int ["x"]) (F__law_is_int : FnOk P w K mg base CX0 k f__law_is_int e__law_is_int ["x"] (sp K mg 1 d__law_is_int)) (z_isinstance : mg "isinstance" = none) (z_tuple : mg "tuple" = none) (z_len : mg "len" = none) (z_range : mg "range" = none) (z_all : mg "all" = none) (z_str : mg "str" = none) : FnOk P w K mg base CX0 (k + 1) f fd ["x", "y"] (sp K mg 2 (den__law_same d__law_same d__law_is_int)) :=
  have sc := sc__law_same
  fn_mp (N := ["x", "y", "k"]) (r := r__law_same d__law_same d__law_is_int) T__law_same.fn sc__law_same rfl fun cdv A outer s H E hr =>
  have hu := hr.units
  have hu1 := units1 hr
  (mss_cons (ms_if (mt_val (me_isi (T := "tuple") (by decide) rfl z_isinstance (by decide +kernel) rfl z_tuple (by decide +kernel) (me_var (pv 1))))
  (mss_cons (ms_if (MW.mt (mw_or (mt_not (mt_val (me_isi (T := "tuple") (by decide) rfl z_isinstance (by decide +kernel) rfl z_tuple (by decide +kernel) (me_var (pv 0))))) (mw_or1 (mt_cmp (op_neM hu) opm_eq (me_callB call_lenM callM_len rfl z_len PySem.boot_len (ma_cons (me_var (pv 0)) ma_nil)) (me_callB call_lenM callM_len rfl z_len PySem.boot_len (ma_cons (me_var (pv 1)) ma_nil)) (by first | exact nomark _ | rfl)))))
  (mss_one (ms_ret me_bl))
  mss_nil)
  (mss_one (ms_ret (me_callB (cr_all rfl) callM_all rfl z_all (by decide +kernel) (ma_cons (me_fl (mf_comp rfl sc.nd (mi_range1 rfl z_range (ma_cons (me_callB call_lenM callM_len rfl z_len PySem.boot_len (ma_cons (me_var (pv 1)) ma_nil)) ma_nil)) (own := [("k", 2)]) (blkOk_by (N := ["x", "y", "k"]) (sc := defScope st__law_same) (by decide +kernel)) (by decide) (fun s H C cl fp => (mg_of (pg_name (i := 2) sc.nd rfl (by first | exact Or.inl rfl | exact Or.inr rfl)))) (fun s H C cl fp => mts_nil) (fun s H C cl fp => (me_callF T__law_same F__law_same hr rfl (ma_cons (me_ix (me_var (pv 0)) (me_var (pv 2))) (ma_cons (me_ix (me_var (pv 1)) (me_var (pv 2))) ma_nil)) rfl)))) ma_nil)))))
  mss_nil)
  (mss_cons (ms_if (mt_val (me_isi (T := "str") (by decide) rfl z_isinstance (by decide +kernel) rfl z_str (by decide +kernel) (me_var (pv 1))))
  (mss_one (ms_ret (me_and (me_isi (T := "str") (by decide) rfl z_isinstance (by decide +kernel) rfl z_str (by decide +kernel) (me_var (pv 0))) (me_one (me_cmp (op_eqM hu) opm_eq (me_var (pv 0)) (me_var (pv 1)) (by first | exact nomark _ | rfl))))))
  mss_nil)
  (mss_one (ms_ret (me_and (me_callF T__law_is_int F__law_is_int hr rfl (ma_cons (me_var (pv 0)) ma_nil) rfl) (me_one (me_cmp (op_eqM hu) opm_eq (me_var (pv 0)) (me_var (pv 1)) (by first | exact nomark _ | rfl))))))))
abbrev st__law_form : Stmt := top 10
theorem sc__law_form : FnScope ["constant", "pairs", "sums", "name", "number"] ["constant", "pairs"] (defScope st__law_form) := ⟨rfl, rfl, rfl, by decide +kernel, rfl, by decide +kernel, by decide +kernel⟩
theorem mp__law_form {k : Nat} {f : Addr} {fd : FuncData} (F : Fun K "_law_form" "_law_form" st__law_form f fd) (z_sorted : mg "sorted" = none) (z_tuple : mg "tuple" = none) : FnOk P w K mg base CX0 (k + 1) f fd ["constant", "pairs"] (sp K mg 2 (den__law_form)) :=
  have sc := sc__law_form
  fn_mp (N := ["constant", "pairs", "sums", "name", "number"]) (r := r__law_form) F sc__law_form rfl fun cdv A outer s H E hr =>
  have hu := hr.units
  have hu1 := units1 hr
  (mss_cons (ms_set (i := 2) sc.nd rfl (by first | exact Or.inl rfl | exact Or.inr rfl) me_dict0)
  (mss_cons (ms_for (fg := [3, 4]) PassesOwn.never rfl (mi_seq (me_var (pv 1))) (mg_tup rfl (mgs_cons (mg_of (pg_name (i := 3) sc.nd rfl (by first | exact Or.inl rfl | exact Or.inr rfl))) (mgs_cons (mg_of (pg_name (i := 4) sc.nd rfl (by first | exact Or.inl rfl | exact Or.inr rfl))) mgs_nil)))
  (mss_one (ms_dput hu1 (me_var (pv 2)) (me_var (pv 3)) (me_bin op_addM opm_add (me_get2 hu1 (me_var (pv 2)) (me_var (pv 3)) me_int) (me_var (pv 4))))))
  (mss_one (ms_ret (me_tup (ma_cons (me_var (pv 0)) (ma_cons (me_callTy call_tuple_of callM_tuple rfl z_tuple (by decide +kernel) (ma_cons (me_fl (mf_comp rfl sc.nd (mi_seq (me_fl (mf_sortedD rfl rfl z_sorted (by decide +kernel) (me_var (pv 2))))) (own := [("name", 3)]) (blkOk_by (N := ["constant", "pairs", "sums", "name", "number"]) (sc := defScope st__law_form) (by decide +kernel)) (by decide) (fun s H C cl fp => (mg_of (pg_name (i := 3) sc.nd rfl (by first | exact Or.inl rfl | exact Or.inr rfl)))) (fun s H C cl fp => (mts_one (mt_cmp (op_neM hu) opm_eq (me_dget hu1 (me_var (pv 2)) (me_var (pv 3))) me_int (by first | exact nomark _ | rfl)))) (fun s H C cl fp => (me_tup (ma_cons (me_var (pv 3)) (ma_cons (me_dget hu1 (me_var (pv 2)) (me_var (pv 3))) ma_nil)))))) ma_nil)) ma_nil)))))))
abbrev st__law_number : Stmt := top 11
theorem sc__law_number : FnScope ["state", "found", "k"] ["state"] (defScope st__law_number) := ⟨rfl, rfl, rfl, by decide +kernel, rfl, by decide +kernel, by decide +kernel⟩
/-- names: 0 state, 1 found, 2 k -/
noncomputable def r__law_number (d__law_draw : List D → M Rv) : MP.Env → M Fl :=
  (sSeq (sSet 1 (eBin gSub (eCall (lenD 2 d__law_draw) (aCons (eVar 0) (aCons (eC (.int 2001)) aNil))) (eC (.int 1000))))
  (sSeq (sFor (wThen wRng1 (aCons (eCall (lenD 2 d__law_draw) (aCons (eVar 0) (aCons (eC (.int 5)) aNil))) aNil)) (asgN 2)
  (sSet 1 (eBin gAdd (eBin gMul (eVar 1) (eBin gPow (eC (.int 10)) (eC (.int 9)))) (eCall (lenD 2 d__law_draw) (aCons (eVar 0) (aCons (eBin gPow (eC (.int 10)) (eC (.int 9))) aNil))))) [2])
  (sSeq (eIf (eB (eBin (gEq false) (eCall (lenD 2 d__law_draw) (aCons (eVar 0) (aCons (eC (.int 2)) aNil))) (eC (.int 0))))
  (sRet (eBin gSub (eCall (lenD 2 d__law_draw) (aCons (eVar 0) (aCons (eC (.int 5)) aNil))) (eC (.int 2))))
  sNext)
  (sRet (eVar 1)))))
noncomputable def den__law_number (d__law_draw : List D → M Rv) : List D → M Rv := fun ds => noX (runB 3 (r__law_number d__law_draw) ds)
theorem mp__law_number {k : Nat} {f : Addr} {fd : FuncData} (F : Fun K "_law_number" "_law_number" st__law_number f fd) {f__law_draw : Addr} {e__law_draw : FuncData} {d__law_draw : List D → M Rv} (T__law_draw : FnI K mg "_law_draw" st__law_draw f__law_draw e__law_draw ["state", "most"]) (F__law_draw : FnOk P w K mg base CX0 k f__law_draw e__law_draw ["state", "most"] (sp K mg 2 d__law_draw)) (z_range : mg "range" = none) : FnOk P w K mg base CX0 (k + 1) f fd ["state"] (sp K mg 1 (den__law_number d__law_draw)) :=
  have sc := sc__law_number
  fn_mp (N := ["state", "found", "k"]) (r := r__law_number d__law_draw) F sc__law_number rfl fun cdv A outer s H E hr =>
  have hu := hr.units
  have hu1 := units1 hr
  (mss_cons (ms_set (i := 1) sc.nd rfl (by first | exact Or.inl rfl | exact Or.inr rfl) (me_bin op_sub opm_sub (me_callF T__law_draw F__law_draw hr rfl (ma_cons (me_var (pv 0)) (ma_cons me_int ma_nil)) rfl) me_int))
  (mss_cons (ms_for (fg := [2]) PassesOwn.never rfl (mi_range1 rfl z_range (ma_cons (me_callF T__law_draw F__law_draw hr rfl (ma_cons (me_var (pv 0)) (ma_cons me_int ma_nil)) rfl) ma_nil)) (mg_of (pg_name (i := 2) sc.nd rfl (by first | exact Or.inl rfl | exact Or.inr rfl)))
  (mss_one (ms_set (i := 1) sc.nd rfl (by first | exact Or.inl rfl | exact Or.inr rfl) (me_bin op_addM opm_add (me_bin op_mulM opm_mul (me_var (pv 1)) (me_bin op_pow opm_pow me_int me_int)) (me_callF T__law_draw F__law_draw hr rfl (ma_cons (me_var (pv 0)) (ma_cons (me_bin op_pow opm_pow me_int me_int) ma_nil)) rfl)))))
  (mss_cons (ms_if (mt_cmp (op_eqM hu) opm_eq (me_callF T__law_draw F__law_draw hr rfl (ma_cons (me_var (pv 0)) (ma_cons me_int ma_nil)) rfl) me_int (by first | exact nomark _ | rfl))
  (mss_one (ms_ret (me_bin op_sub opm_sub (me_callF T__law_draw F__law_draw hr rfl (ma_cons (me_var (pv 0)) (ma_cons me_int ma_nil)) rfl) me_int)))
  mss_nil)
  (mss_one (ms_ret (me_var (pv 1)))))))
abbrev st__law_name : Stmt := top 12
theorem sc__law_name : FnScope ["state", "signs", "name", "k"] ["state"] (defScope st__law_name) := ⟨rfl, rfl, rfl, by decide +kernel, rfl, by decide +kernel, by decide +kernel⟩
/-- names: 0 state, 1 signs, 2 name, 3 k -/
noncomputable def r__law_name (d__law_one_of : List D → M Rv) (d__law_draw : List D → M Rv) : MP.Env → M Fl :=
  (sSeq (sSet 1 (eC (.str "!\"#$&()*+,-./0123456789:;<=>?@ABCDEFGHIJKLMNOPQRSTUVWXYZ[\\]^_`abcdefghijklmnopqrstuvwxyz{|}~")))
  (sSeq (sSet 2 (eCall (lenD 2 d__law_one_of) (aCons (eVar 0) (aCons (eFl (aList (aCons (eC (.str "")) (aCons (eC (.str "@")) (aCons (eC (.str "@#")) (aCons (eC (.str "#")) (aCons (eC (.str "?")) (aCons (eC (.str "!")) (aCons (eC (.str ".")) (aCons (eC (.str "l.")) (aCons (eC (.str "r.")) aNil))))))))))) aNil))))
  (sSeq (sFor (wThen wRng1 (aCons (eBin gAdd (eC (.int 1)) (eCall (lenD 2 d__law_draw) (aCons (eVar 0) (aCons (eC (.int 6)) aNil)))) aNil)) (asgN 3)
  (sSet 2 (eBin gAdd (eVar 2) (eBin gIx (eVar 1) (eCall (lenD 2 d__law_draw) (aCons (eVar 0) (aCons (aThen (g1 gLen) (aCons (eVar 1) aNil)) aNil)))))) [3])
  (sRet (eVar 2)))))
noncomputable def den__law_name (d__law_one_of : List D → M Rv) (d__law_draw : List D → M Rv) : List D → M Rv := fun ds => noX (runB 4 (r__law_name d__law_one_of d__law_draw) ds)
theorem mp__law_name {k : Nat} {f : Addr} {fd : FuncData} (F : Fun K "_law_name" "_law_name" st__law_name f fd) {f__law_one_of : Addr} {e__law_one_of : FuncData} {f__law_draw : Addr} {e__law_draw : FuncData} {d__law_one_of : List D → M Rv} {d__law_draw : List D → M Rv} (T__law_one_of : FnI K mg "_law_one_of" st__law_one_of f__law_one_of e__law_one_of ["state", "items"]) (F__law_one_of : FnOk P w K mg base CX0 k f__law_one_of e__law_one_of ["state", "items"] (sp K mg 2 d__law_one_of)) (T__law_draw : FnI K mg "_law_draw" st__law_draw f__law_draw e__law_draw ["state", "most"]) (F__law_draw : FnOk P w K mg base CX0 k f__law_draw e__law_draw ["state", "most"] (sp K mg 2 d__law_draw)) (z_range : mg "range" = none) (z_len : mg "len" = none) : FnOk P w K mg base CX0 (k + 1) f fd ["state"] (sp K mg 1 (den__law_name d__law_one_of d__law_draw)) :=
  have sc := sc__law_name
  fn_mp (N := ["state", "signs", "name", "k"]) (r := r__law_name d__law_one_of d__law_draw) F sc__law_name rfl fun cdv A outer s H E hr =>
  have hu := hr.units
  have hu1 := units1 hr
  (mss_cons (ms_set (i := 1) sc.nd rfl (by first | exact Or.inl rfl | exact Or.inr rfl) me_str)
  (mss_cons (ms_set (i := 2) sc.nd rfl (by first | exact Or.inl rfl | exact Or.inr rfl) (me_callF T__law_one_of F__law_one_of hr rfl (ma_cons (me_var (pv 0)) (ma_cons (me_fl (mf_lst (ma_cons me_str (ma_cons me_str (ma_cons me_str (ma_cons me_str (ma_cons me_str (ma_cons me_str (ma_cons me_str (ma_cons me_str (ma_cons me_str ma_nil))))))))))) ma_nil)) rfl))
  (mss_cons (ms_for (fg := [3]) PassesOwn.never rfl (mi_range1 rfl z_range (ma_cons (me_bin op_addM opm_add me_int (me_callF T__law_draw F__law_draw hr rfl (ma_cons (me_var (pv 0)) (ma_cons me_int ma_nil)) rfl)) ma_nil)) (mg_of (pg_name (i := 3) sc.nd rfl (by first | exact Or.inl rfl | exact Or.inr rfl)))
  (mss_one (ms_set (i := 2) sc.nd rfl (by first | exact Or.inl rfl | exact Or.inr rfl) (me_bin op_addM opm_add (me_var (pv 2)) (me_ix (me_var (pv 1)) (me_callF T__law_draw F__law_draw hr rfl (ma_cons (me_var (pv 0)) (ma_cons (me_callB call_lenM callM_len rfl z_len PySem.boot_len (ma_cons (me_var (pv 1)) ma_nil)) ma_nil)) rfl))))))
  (mss_one (ms_ret (me_var (pv 2)))))))
abbrev st_law : Stmt := top 13
theorem sc_law : FnScope ["script", "state", "f", "mark", "due", "k", "name", "number"] ["script"] (defScope st_law) := ⟨rfl, rfl, rfl, by decide +kernel, rfl, by decide +kernel, by decide +kernel⟩
/-- names: 0 script, 1 state, 2 f, 3 mark, 4 due, 5 k, 6 name, 7 number -/
noncomputable def r_law (d__law_start : List D → M Rv) (d__law_form : List D → M Rv) (d__law_draw : List D → M Rv) (d__law_number : List D → M Rv) (d__law_name : List D → M Rv) (d__law_one_of : List D → M Rv) (d__law_same : List D → M Rv) (d_sided : List D → M Rv) : MP.Env → M Fl :=
  (sSeq (sSet 1 (eNew (fCall (lenD 1 d__law_start) (aCons (eVar 0) aNil))))
  (sSeq (sSet 2 (eCall (lenD 2 d__law_form) (aCons (eCall (lenD 1 d__law_number) (aCons (eVar 1) aNil)) (aCons (eFl (fComp (wThen wRng1 (aCons (eCall (lenD 2 d__law_draw) (aCons (eVar 1) (aCons (eC (.int 10)) aNil))) aNil)) (asgN 5) tYesM (aThen gTup (aCons (eCall (lenD 1 d__law_name) (aCons (eVar 1) aNil)) (aCons (eCall (lenD 1 d__law_number) (aCons (eVar 1) aNil)) aNil))) [5])) aNil))))
  (sSeq (sFor (eWalk (eCall (lenD 2 d__law_one_of) (aCons (eVar 1) (aCons (eFl (aList (aCons (eFl (aList (aCons (eC (.str "l.")) (aCons (eC (.str "r.")) aNil)))) (aCons (eFl (aList (aCons (eC (.str "r.")) (aCons (eC (.str "l.")) aNil)))) (aCons (eFl (aList (aCons (eC (.str "l.")) (aCons (eC (.str "l.")) (aCons (eC (.str "r.")) (aCons (eC (.str "r.")) aNil)))))) aNil))))) aNil)))) (asgN 3)
  (sSeq (sSet 4 (aThen gTup (aCons (eBin gIx (eVar 2) (eC (.int 0))) (aCons (aThen (g1 gTuple) (aCons (eFl (fComp (eWalk (eBin gIx (eVar 2) (eC (.int 1)))) (asgT 2 (asgCons (asgN 6) (asgCons (asgN 7) asgNil))) tYesM (aThen gTup (aCons (eBin gAdd (eVar 3) (eVar 6)) (aCons (eVar 7) aNil))) [6, 7])) aNil)) aNil))))
  (sSeq (eIf (bNot (eB (eCall (lenD 2 d__law_same) (aCons (eCall (lenD 2 d_sided) (aCons (eVar 3) (aCons (eVar 2) aNil))) (aCons (eVar 4) aNil)))))
  (sRet (eC (.bl false)))
  sNext)
  (eIf (eB (eBin (gCmp fun i j => decide (j < i)) (eCall (lenD 2 d__law_draw) (aCons (eVar 1) (aCons (eC (.int 3)) aNil))) (eC (.int 0))))
  (sSet 2 (eVar 4))
  sNext))) [3, 4])
  (sRet (eC (.bl true))))))
noncomputable def den_law (d__law_start : List D → M Rv) (d__law_form : List D → M Rv) (d__law_draw : List D → M Rv) (d__law_number : List D → M Rv) (d__law_name : List D → M Rv) (d__law_one_of : List D → M Rv) (d__law_same : List D → M Rv) (d_sided : List D → M Rv) : List D → M Rv := fun ds => noX (runB 8 (r_law d__law_start d__law_form d__law_draw d__law_number d__law_name d__law_one_of d__law_same d_sided) ds)
theorem mp_law {k : Nat} {f : Addr} {fd : FuncData} (F : Fun K "law" "law" st_law f fd) {f__law_start : Addr} {e__law_start : FuncData} {f__law_form : Addr} {e__law_form : FuncData} {f__law_draw : Addr} {e__law_draw : FuncData} {f__law_number : Addr} {e__law_number : FuncData} {f__law_name : Addr} {e__law_name : FuncData} {f__law_one_of : Addr} {e__law_one_of : FuncData} {f__law_same : Addr} {e__law_same : FuncData} {f_sided : Addr} {e_sided : FuncData} {d__law_start : List D → M Rv} {d__law_form : List D → M Rv} {d__law_draw : List D → M Rv} {d__law_number : List D → M Rv} {d__law_name : List D → M Rv} {d__law_one_of : List D → M Rv} {d__law_same : List D → M Rv} {d_sided : List D → M Rv} (T__law_start : FnI K mg "_law_start" st__law_start f__law_start e__law_start ["script"]) (F__law_start : FnOk P w K mg base CX0 k f__law_start e__law_start ["script"] (sp K mg 1 d__law_start)) (T__law_form : FnI K mg "_law_form" st__law_form f__law_form e__law_form ["constant", "pairs"]) (F__law_form : FnOk P w K mg base CX0 k f__law_form e__law_form ["constant", "pairs"] (sp K mg 2 d__law_form)) (T__law_draw : FnI K mg "_law_draw" st__law_draw f__law_draw e__law_draw ["state", "most"]) (F__law_draw : FnOk P w K mg base CX0 k f__law_draw e__law_draw ["state", "most"] (sp K mg 2 d__law_draw)) (T__law_number : FnI K mg "_law_number" st__law_number f__law_number e__law_number ["state"]) (F__law_number : FnOk P w K mg base CX0 k f__law_number e__law_number ["state"] (sp K mg 1 d__law_number)) (T__law_name : FnI K mg "_law_name" st__law_name f__law_name e__law_name ["state"]) (F__law_name : FnOk P w K mg base CX0 k f__law_name e__law_name ["state"] (sp K mg 1 d__law_name)) (T__law_one_of : FnI K mg "_law_one_of" st__law_one_of f__law_one_of e__law_one_of ["state", "items"]) (F__law_one_of : FnOk P w K mg base CX0 k f__law_one_of e__law_one_of ["state", "items"] (sp K mg 2 d__law_one_of)) (T__law_same : FnI K mg "_law_same" st__law_same f__law_same e__law_same ["x", "y"]) (F__law_same : FnOk P w K mg base CX0 k f__law_same e__law_same ["x", "y"] (sp K mg 2 d__law_same)) (T_sided : FnI K mg "sided" st_sided f_sided e_sided ["mark", "f"]) (F_sided : FnOk P w K mg base CX0 k f_sided e_sided ["mark", "f"] (sp K mg 2 d_sided)) (z_range : mg "range" = none) (z_tuple : mg "tuple" = none) : FnOk P w K mg base CX0 (k + 1) f fd ["script"] (sp K mg 1 (den_law d__law_start d__law_form d__law_draw d__law_number d__law_name d__law_one_of d__law_same d_sided)) :=
  have sc := sc_law
  fn_mp (N := ["script", "state", "f", "mark", "due", "k", "name", "number"]) (r := r_law d__law_start d__law_form d__law_draw d__law_number d__law_name d__law_one_of d__law_same d_sided) F sc_law rfl fun cdv A outer s H E hr =>
  have hu := hr.units
  have hu1 := units1 hr
  (mss_cons (ms_set (i := 1) sc.nd rfl (by first | exact Or.inl rfl | exact Or.inr rfl) (me_new (mf_callF T__law_start F__law_start hr rfl (ma_cons (me_var (pv 0)) ma_nil) rfl)))
  (mss_cons (ms_set (i := 2) sc.nd rfl (by first | exact Or.inl rfl | exact Or.inr rfl) (me_callF T__law_form F__law_form hr rfl (ma_cons (me_callF T__law_number F__law_number hr rfl (ma_cons (me_var (pv 1)) ma_nil) rfl) (ma_cons (me_fl (mf_comp rfl sc.nd (mi_range1 rfl z_range (ma_cons (me_callF T__law_draw F__law_draw hr rfl (ma_cons (me_var (pv 1)) (ma_cons me_int ma_nil)) rfl) ma_nil)) (own := [("k", 5)]) (blkOk_by (N := ["script", "state", "f", "mark", "due", "k", "name", "number"]) (sc := defScope st_law) (by decide +kernel)) (by decide) (fun s H C cl fp => (mg_of (pg_name (i := 5) sc.nd rfl (by first | exact Or.inl rfl | exact Or.inr rfl)))) (fun s H C cl fp => mts_nil) (fun s H C cl fp => (me_tup (ma_cons (me_callF T__law_name F__law_name hr rfl (ma_cons (me_var (pv 1)) ma_nil) rfl) (ma_cons (me_callF T__law_number F__law_number hr rfl (ma_cons (me_var (pv 1)) ma_nil) rfl) ma_nil)))))) ma_nil)) rfl))
  (mss_cons (ms_for (fg := [3, 4]) PassesOwn.never rfl (mi_seq (me_callF T__law_one_of F__law_one_of hr rfl (ma_cons (me_var (pv 1)) (ma_cons (me_fl (mf_lst (ma_cons (me_fl (mf_lst (ma_cons me_str (ma_cons me_str ma_nil)))) (ma_cons (me_fl (mf_lst (ma_cons me_str (ma_cons me_str ma_nil)))) (ma_cons (me_fl (mf_lst (ma_cons me_str (ma_cons me_str (ma_cons me_str (ma_cons me_str ma_nil)))))) ma_nil))))) ma_nil)) rfl)) (mg_of (pg_name (i := 3) sc.nd rfl (by first | exact Or.inl rfl | exact Or.inr rfl)))
  (mss_cons (ms_set (i := 4) sc.nd rfl (by first | exact Or.inl rfl | exact Or.inr rfl) (me_tup (ma_cons (me_ix (me_var (pv 2)) me_int) (ma_cons (me_callTy call_tuple_of callM_tuple rfl z_tuple (by decide +kernel) (ma_cons (me_fl (mf_comp rfl sc.nd (mi_seq (me_ix (me_var (pv 2)) me_int)) (own := [("name", 6), ("number", 7)]) (blkOk_by (N := ["script", "state", "f", "mark", "due", "k", "name", "number"]) (sc := defScope st_law) (by decide +kernel)) (by decide) (fun s H C cl fp => (mg_tup rfl (mgs_cons (mg_of (pg_name (i := 6) sc.nd rfl (by first | exact Or.inl rfl | exact Or.inr rfl))) (mgs_cons (mg_of (pg_name (i := 7) sc.nd rfl (by first | exact Or.inl rfl | exact Or.inr rfl))) mgs_nil)))) (fun s H C cl fp => mts_nil) (fun s H C cl fp => (me_tup (ma_cons (me_bin op_addM opm_add (me_var (pv 3)) (me_var (pv 6))) (ma_cons (me_var (pv 7)) ma_nil)))))) ma_nil)) ma_nil))))
  (mss_cons (ms_if (mt_not (mt_val (me_callF T__law_same F__law_same hr rfl (ma_cons (me_callF T_sided F_sided hr rfl (ma_cons (me_var (pv 3)) (ma_cons (me_var (pv 2)) ma_nil)) rfl) (ma_cons (me_var (pv 4)) ma_nil)) rfl)))
  (mss_one (ms_ret me_bl))
  mss_nil)
  (mss_one (ms_if (mt_cmp op_gt opm_cmp (me_callF T__law_draw F__law_draw hr rfl (ma_cons (me_var (pv 1)) (ma_cons me_int ma_nil)) rfl) me_int (by first | exact nomark _ | rfl))
  (mss_one (ms_set (i := 2) sc.nd rfl (by first | exact Or.inl rfl | exact Or.inr rfl) (me_var (pv 4))))
  mss_nil)))))
  (mss_one (ms_ret me_bl)))))
end
end K05
namespace K05
open PySem L2 PyProof.Rows MP
theorem number_ok {s : Nat} {cs : List Int} {mu : List MO} (h : At s cs mu) : ∃ i mu', den__law_number den__law_draw [.ref s] mu = .ok (.vl (.int i)) mu' ∧ Nx s cs mu mu' := by
  obtain ⟨d1, m1, e1, n1, _, _⟩ := draw_at (most := 2001) h (by decide) (by decide)
  obtain ⟨d2, m2, e2, n2, h20, h25⟩ := draw_at (most := 5) (n1.at_ h) (by decide) (by decide)
  have hn2 := n1.trans n2
  obtain ⟨env3, m3, e3, ⟨found, o, rfl, n3⟩⟩ := loopF_inv (asg := asgN 2) (body := sSet 1 (eBin gAdd (eBin gMul (eVar 1) (eBin gPow (eC (.int 10)) (eC (.int 9)))) (eCall (lenD 2 den__law_draw) (aCons (eVar 0) (aCons (eBin gPow (eC (.int 10)) (eC (.int 9))) aNil))))) (fg := [2]) (ds := rngD 0 d2.toNat)
    (I := fun _ env m => ∃ (found : Int) (o : Option D), env = [some (D.ref s), some (D.int found), o] ∧ Nx s cs mu m) (env := [some (D.ref s), some (D.int (d1 - 1000)), none]) (mu := m2)
    (fun d hd k env m ⟨found, o, e, n⟩ => by
      subst e
      obtain ⟨d', m', e', n', _, _⟩ := draw_at (most := 1000000000) (n.at_ h) (by decide) (by decide)
      refine ⟨_, _, m', rfl, ?_, ⟨found * 1000000000 + d', some d, rfl, n.trans n'⟩⟩
      simp [e']) ⟨_, _, rfl, hn2⟩
  obtain ⟨d4, m4, e4, n4, _, _⟩ := draw_at (most := 2) (n3.at_ h) (by decide) (by decide)
  have hn4 := n3.trans n4
  by_cases c : d4 = 0
  · obtain ⟨d5, m5, e5, n5, _, _⟩ := draw_at (most := 5) (hn4.at_ h) (by decide) (by decide)
    refine ⟨d5 - 2, m5, noX_ok ?_, hn4.trans n5⟩
    simp at e3
    simp [r__law_number, startE, e1, e2, wRng1_ok (show -16777216 ≤ d2 ∧ d2 ≤ 16777216 by omega), e3, e4, c, gEq_ints, e5]
  · refine ⟨found, m4, noX_ok ?_, hn4⟩
    simp at e3
    simp [r__law_number, startE, e1, e2, wRng1_ok (show -16777216 ≤ d2 ∧ d2 ≤ 16777216 by omega), e3, e4, c, gEq_ints]

noncomputable def nameR (sg : Str) (d__law_one_of : List D → M Rv) (d__law_draw : List D → M Rv) : MP.Env → M Fl :=
  (sSeq (sSet 1 (eC (.str sg)))
  (sSeq (sSet 2 (eCall (lenD 2 d__law_one_of) (aCons (eVar 0) (aCons (eFl (aList (aCons (eC (.str "")) (aCons (eC (.str "@")) (aCons (eC (.str "@#")) (aCons (eC (.str "#")) (aCons (eC (.str "?")) (aCons (eC (.str "!")) (aCons (eC (.str ".")) (aCons (eC (.str "l.")) (aCons (eC (.str "r.")) aNil))))))))))) aNil))))
  (sSeq (sFor (wThen wRng1 (aCons (eBin gAdd (eC (.int 1)) (eCall (lenD 2 d__law_draw) (aCons (eVar 0) (aCons (eC (.int 6)) aNil)))) aNil)) (asgN 3)
  (sSet 2 (eBin gAdd (eVar 2) (eBin gIx (eVar 1) (eCall (lenD 2 d__law_draw) (aCons (eVar 0) (aCons (aThen (g1 gLen) (aCons (eVar 1) aNil)) aNil)))))) [3])
  (sRet (eVar 2)))))
theorem atC_of {xs : List Nat} {i : Int} (h0 : 0 ≤ i) (h1 : i < xs.length) : ∃ x, atI xs i = some x := by
  have hk : i.toNat < xs.length := by omega
  refine ⟨xs[i.toNat], ?_⟩
  unfold atI ixN
  rw [if_pos h0, if_pos h1]
  exact List.getElem?_eq_getElem hk
theorem nameR_ok {s : Nat} {cs : List Int} {mu : List MO} (h : At s cs mu) {sg : Str} (g0 : 0 < sg.length) (g1 : sg.length < 1000) : ∃ z mu', noX (runB 4 (nameR sg (den__law_one_of den__law_draw) den__law_draw) [.ref s]) mu = .ok (.vl (.str z)) mu' ∧ Nx s cs mu mu' ∧ z.length ≤ 8 := by
  have hsz : (1100 : Nat) ≤ sizeLine := by decide
  have h9 : (9 : Nat) ≤ sizeLine := by decide
  obtain ⟨x, m1, e1, n1, hx⟩ := one_of_at (xs := [.str "", .str "@", .str "@#", .str "#", .str "?", .str "!", .str ".", .str "l.", .str "r."]) h (by decide) (by decide)
  obtain ⟨z0, rfl, hz0⟩ : ∃ z : Str, x = .str z ∧ z.length ≤ 2 := by
    simp only [List.mem_cons, List.not_mem_nil, or_false] at hx
    rcases hx with rfl | rfl | rfl | rfl | rfl | rfl | rfl | rfl | rfl <;> exact ⟨_, rfl, by decide +kernel⟩
  obtain ⟨d2, m2, e2, n2, h20, h26⟩ := draw_at (most := 6) (n1.at_ h) (by decide) (by decide)
  have hn2 := n1.trans n2
  obtain ⟨env3, m3, e3, ⟨z, o, rfl, n3, hz⟩⟩ := loopF_inv (asg := asgN 3) (body := sSet 2 (eBin gAdd (eVar 2) (eBin gIx (eVar 1) (eCall (lenD 2 den__law_draw) (aCons (eVar 0) (aCons (aThen (MP.g1 gLen) (aCons (eVar 1) aNil)) aNil)))))) (fg := [3]) (ds := rngD 0 (1 + d2).toNat)
    (I := fun k env m => ∃ (z : Str) (o : Option D), env = [some (D.ref s), some (.str sg), some (D.str z), o] ∧ Nx s cs mu m ∧ z.length + k ≤ 8) (env := [some (D.ref s), some (.str sg), some (D.str z0), none]) (mu := m2)
    (fun d hd k env m ⟨z, o, e, n, hz⟩ => by
      subst e
      obtain ⟨d', m', e', n', b0, b1⟩ := draw_at (most := (sg.length : Int)) (n.at_ h) (by omega) (log2_small (by simp; omega))
      obtain ⟨c, hc⟩ := atC_of (xs := sg.cps.toList) b0 b1
      have hix := gIx_str (mu := m') (show sg.length ≤ sizeLine by omega) hc
      have hl := gLen_str (mu := m) (show sg.length ≤ sizeLine by omega)
      have hone : (⟨#[c]⟩ : Str).length = 1 := rfl
      have hadd : z.length + (⟨#[c]⟩ : Str).length ≤ sizeLine := by rw [hone]; omega
      refine ⟨_, _, m', rfl, ?_, ⟨z ++ ⟨#[c]⟩, some d, rfl, n.trans n', by rw [len_append, hone]; omega⟩⟩
      simp [hl, e', hix, hadd]) ⟨_, _, rfl, hn2, by rw [rngD_len]; omega⟩
  refine ⟨z, m3, noX_ok ?_, n3, by omega⟩
  simp at e3
  simp [nameR, startE, h9, e1, e2, wRng1_ok (show -16777216 ≤ 1 + d2 ∧ 1 + d2 ≤ 16777216 by omega), e3]
theorem name_ok {s : Nat} {cs : List Int} {mu : List MO} (h : At s cs mu) : ∃ z mu', den__law_name (den__law_one_of den__law_draw) den__law_draw [.ref s] mu = .ok (.vl (.str z)) mu' ∧ Nx s cs mu mu' ∧ z.length ≤ 8 := nameR_ok h (by decide +kernel) (by decide +kernel)
/-! sided -/
def fD (c : Int) (qs : List (Str × Int)) : D := .tup [.int c, .tup (qs.map MP.pairD)]
theorem formD_eq {c : Int} {ps : List (Str × Int)} (h : Canon ps) : formD (.int c) ps = fD c ps := by unfold formD fD; rw [canon_id h]
theorem marked_loop {m : Str} {qs : List (Str × Int)} {r : MP.Env → M D} {asg : D → MP.Env → M MP.Env} {env : MP.Env} {mu : List MO} (h : ∀ p ∈ qs, ∃ env1, asg (MP.pairD p) env mu = .ok env1 mu ∧ r env1 mu = .ok (MP.pairD (m ++ p.1, p.2)) mu) : loopC asg tYesM r [] (qs.map MP.pairD) env mu = .ok ((marked m qs).map MP.pairD) mu := by
  have e : (marked m qs).map MP.pairD = qs.map fun p => MP.pairD (m ++ p.1, p.2) := by unfold marked; rw [List.map_map]; rfl
  rw [e]
  refine loopC_map' fun p hp => ?_
  obtain ⟨env1, h1, h2⟩ := h p hp
  exact ⟨env1, h1, rfl, h2⟩
theorem sided_ok {m : Str} {c : Int} {qs : List (Str × Int)} {mu : List MO} (hq : Canon qs) (hl : qs.length < 64) (hm : ∀ p ∈ qs, m.length + p.1.length ≤ sizeLine) : den_sided (pureD formF) [.str m, fD c qs] mu = .ok (.vl (fD c (marked m qs))) mu := by
  have e2 : (2 : Nat) ≤ sizeLine := by decide
  have hc : loopC (asgT 2 (asgCons (asgN 2) (asgCons (asgN 3) asgNil))) tYesM (aThen gTup (aCons (eBin gAdd (eVar 0) (eVar 2)) (aCons (eVar 3) aNil))) [] (qs.map MP.pairD) [some (.str m), some (fD c qs), none, none] mu = .ok ((marked m qs).map MP.pairD) mu := by
    refine marked_loop fun p hp => ⟨[some (.str m), some (fD c qs), some (.str p.1), some (.int p.2)], ?_, ?_⟩
    · simp [MP.pairD]
    · simp [MP.pairD, hm p hp, gTup_ok, e2]
  have hf : formF [.int c, .fl ((marked m qs).map MP.pairD)] = some (fD c (marked m qs)) := by
    rw [formF_ok (ps := marked m qs) rfl (by unfold marked; rw [List.length_map]; exact hl), formD_eq (hq.marked m)]
  have hp : pureD formF [.int c, .fl ((marked m qs).map MP.pairD)] mu = .ok (.vl (fD c (marked m qs))) mu := by unfold pureD; rw [hf]
  have w : fD c qs = .tup [.int c, .tup (qs.map MP.pairD)] := rfl
  refine noX_ok ?_
  rw [w] at hc
  simp [r_sided, startE, w, noX_ok hc, hp]

theorem plain_pairs : ∀ (qs : List (Str × Int)), plainDs 2 (qs.map MP.pairD) = true
  | [] => rfl
  | p :: r => by
    rw [List.map_cons, plainDs, plain_pairs r]
    rfl
theorem plain_fD {c : Int} {qs : List (Str × Int)} (h : qs.length < 64) : plainD 4 (fD c qs) = true := by
  have e : (decide ((qs.map MP.pairD).length ≤ 1000) && plainDs 2 (qs.map MP.pairD)) = true := by
    rw [plain_pairs, List.length_map, Bool.and_true, decide_eq_true_eq]; omega
  show (decide (2 ≤ 1000) && (plainD 3 (.int c) && (plainD 3 (.tup (qs.map MP.pairD)) && true))) = true
  have e2 : plainD 3 (.tup (qs.map MP.pairD)) = true := e
  rw [e2]
  rfl
theorem unpair {xs : List D} (h : ∀ x ∈ xs, ∃ (z : Str) (i : Int), x = MP.pairD (z, i) ∧ z.length ≤ 8) : ∃ ps : List (Str × Int), xs = ps.map MP.pairD ∧ ∀ p ∈ ps, p.1.length ≤ 8 := by
  induction xs with
  | nil => exact ⟨[], rfl, by simp⟩
  | cons x xs ih =>
    obtain ⟨z, i, e, hz⟩ := h x (by simp)
    obtain ⟨ps, e2, h2⟩ := ih fun y hy => h y (by simp [hy])
    refine ⟨(z, i) :: ps, by rw [e, e2, List.map_cons], fun p hp => ?_⟩
    rcases List.mem_cons.mp hp with e3 | e3
    · rw [e3]; exact hz
    · exact h2 p e3
theorem marked_len {m : Str} {qs : List (Str × Int)} : (marked m qs).length = qs.length := by unfold marked; rw [List.length_map]
theorem law_ok {cs : List Int} (h : cs.length ≤ 63) : ∃ mu', den_law den__law_start (pureD formF) den__law_draw (den__law_number den__law_draw) (den__law_name (den__law_one_of den__law_draw) den__law_draw) (den__law_one_of den__law_draw) (sameL 5) (den_sided (pureD formF)) [.ro (cs.map .int)] [] = .ok (.vl (.bl true)) mu' := by
  have e0 := start_ok (mu := []) h
  have hsz : (200 : Nat) ≤ sizeLine := by decide
  have s2 : (2 : Nat) ≤ sizeLine := by decide
  have s3 : (3 : Nat) ≤ sizeLine := by decide
  have s4 : (4 : Nat) ≤ sizeLine := by decide
  generalize hm1 : ([st cs 0 0 0] : List MO) = m1
  have A1 : At 0 cs m1 := ⟨0, 0, 0, by rw [← hm1]; rfl⟩
  obtain ⟨c, m2, e2, n2⟩ := number_ok A1
  obtain ⟨d3, m3, e3, n3', h30, h31⟩ := draw_at (most := 10) (n2.at_ A1) (by decide) (by decide)
  have n3 := n2.trans n3'
  obtain ⟨xs, m4, e4, n4, hxl, hx⟩ := loopC_inv (asg := asgN 5) (t := tYesM) (r := aThen gTup (aCons (eCall (lenD 1 (den__law_name (den__law_one_of den__law_draw) den__law_draw)) (aCons (eVar 1) aNil)) (aCons (eCall (lenD 1 (den__law_number den__law_draw)) (aCons (eVar 1) aNil)) aNil)))
    (I := fun m => Nx 0 cs m1 m) (P := fun x => ∃ (z : Str) (i : Int), x = MP.pairD (z, i) ∧ z.length ≤ 8) (ds := rngD 0 d3.toNat) (env := [some (.ro (cs.map .int)), some (.ref 0), none, none, none, none, none, none]) (mu := m3)
    (fun d hd m n => by
      obtain ⟨z, m', ez, nz, hz⟩ := name_ok (n.at_ A1)
      obtain ⟨i, m'', ei, ni⟩ := number_ok ((n.trans nz).at_ A1)
      refine ⟨_, m'', MP.pairD (z, i), rfl, rfl, ?_, (n.trans nz).trans ni, z, i, rfl, hz⟩
      simp [ez, ei, gTup_ok, s2, MP.pairD]) n3
  obtain ⟨ps, rfl, hps⟩ := unpair hx
  have hpl : ps.length < 10 := by rw [List.length_map, rngD_len] at hxl; omega
  have e5 : ∀ mu, pureD formF [.int c, .fl (ps.map MP.pairD)] mu = .ok (.vl (fD c (canon ps))) mu := fun mu => by
    have hf : formF [.int c, .fl (ps.map MP.pairD)] = some (formD (.int c) ps) := formF_ok rfl (by omega)
    unfold pureD; rw [hf]; rfl
  obtain ⟨x, m6, e6, n6', hx6⟩ := one_of_at (xs := [.fl [.str "l.", .str "r."], .fl [.str "r.", .str "l."], .fl [.str "l.", .str "l.", .str "r.", .str "r."]]) (n4.at_ A1) (by decide) (by decide)
  have n6 := n4.trans n6'
  obtain ⟨ms, rfl, hms, hml⟩ : ∃ ms : List Str, x = .fl (ms.map .str) ∧ (∀ m ∈ ms, m.length ≤ 2) ∧ ms.length ≤ 4 := by
    simp only [List.mem_cons, List.not_mem_nil, or_false] at hx6
    rcases hx6 with rfl | rfl | rfl
    · exact ⟨["l.", "r."], rfl, by decide +kernel, by decide⟩
    · exact ⟨["r.", "l."], rfl, by decide +kernel, by decide⟩
    · exact ⟨["l.", "l.", "r.", "r."], rfl, by decide +kernel, by decide⟩
  obtain ⟨e', m7, e7, ⟨qs, o3, o4, rfl, n7, hq, hql, hqn⟩⟩ := loopF_inv (asg := asgN 3) (body := (sSeq (sSet 4 (aThen gTup (aCons (eBin gIx (eVar 2) (eC (.int 0))) (aCons (aThen (g1 gTuple) (aCons (eFl (fComp (eWalk (eBin gIx (eVar 2) (eC (.int 1)))) (asgT 2 (asgCons (asgN 6) (asgCons (asgN 7) asgNil))) tYesM (aThen gTup (aCons (eBin gAdd (eVar 3) (eVar 6)) (aCons (eVar 7) aNil))) [6, 7])) aNil)) aNil))))
  (sSeq (eIf (bNot (eB (eCall (lenD 2 (sameL 5)) (aCons (eCall (lenD 2 (den_sided (pureD formF))) (aCons (eVar 3) (aCons (eVar 2) aNil))) (aCons (eVar 4) aNil)))))
  (sRet (eC (.bl false)))
  sNext)
  (eIf (eB (eBin (gCmp fun i j => decide (j < i)) (eCall (lenD 2 den__law_draw) (aCons (eVar 1) (aCons (eC (.int 3)) aNil))) (eC (.int 0))))
  (sSet 2 (eVar 4))
  sNext)))) (fg := [3, 4]) (ds := ms.map D.str)
    (I := fun k env m => ∃ (qs : List (Str × Int)) (o3 o4 : Option D), env = [some (.ro (cs.map .int)), some (.ref 0), some (fD c qs), o3, o4, none, none, none] ∧ Nx 0 cs m1 m ∧ MP.Canon qs ∧ qs.length < 64 ∧ ∀ p ∈ qs, p.1.length + 2 * k ≤ 100)
    (env := [some (.ro (cs.map .int)), some (.ref 0), some (fD c (canon ps)), none, none, none, none, none]) (mu := m6)
    (fun d hd k env m ⟨qs, o3, o4, e, n, hq, hql, hqn⟩ => by
      subst e
      obtain ⟨mk, hmk, rfl⟩ := List.mem_map.mp hd
      have hmk := hms mk hmk
      obtain ⟨d', m', e', n', b0, b1⟩ := draw_at (most := 3) (n.at_ A1) (by decide) (by decide)
      have hc : loopC (asgT 2 (asgCons (asgN 6) (asgCons (asgN 7) asgNil))) tYesM (aThen gTup (aCons (eBin gAdd (eVar 3) (eVar 6)) (aCons (eVar 7) aNil))) [] (qs.map MP.pairD) [some (.ro (cs.map .int)), some (.ref 0), some (fD c qs), some (.str mk), none, none, none, none] m = .ok ((marked mk qs).map MP.pairD) m := by
        refine marked_loop fun p hp => ⟨[some (.ro (cs.map .int)), some (.ref 0), some (fD c qs), some (.str mk), none, none, some (.str p.1), some (.int p.2)], ?_, ?_⟩
        · simp [MP.pairD]
        · have := hqn p hp
          simp [MP.pairD, show mk.length + p.1.length ≤ sizeLine by omega, gTup_ok, s2]
      have hs := sided_ok (m := mk) (c := c) (mu := m) hq hql (fun p hp => by have := hqn p hp; omega)
      have hsame := same_ok 4 (fD c (marked mk qs)) m (plain_fD (by rw [marked_len]; exact hql))
      have w : fD c qs = .tup [.int c, .tup (qs.map MP.pairD)] := rfl
      have w' : fD c (marked mk qs) = .tup [.int c, .tup ((marked mk qs).map MP.pairD)] := rfl
      rw [w] at hc hs
      rw [w'] at hs hsame
      by_cases hd' : 0 < d'
      · refine ⟨_, _, m', rfl, ?_, ⟨marked mk qs, some (.str mk), some (fD c (marked mk qs)), rfl, n.trans n', hq.marked mk, by rw [marked_len]; exact hql, fun p hp => ?_⟩⟩
        · simp [w, w', noX_ok hc, gTup_ok, s2, hs, hsame, e', hd']
        · obtain ⟨q, hq', rfl⟩ := List.mem_map.mp hp
          have := hqn q hq'
          show (mk ++ q.1).length + 2 * k ≤ 100
          rw [len_append]; omega
      · refine ⟨_, _, m', rfl, ?_, ⟨qs, some (.str mk), some (fD c (marked mk qs)), rfl, n.trans n', hq, hql, fun p hp => by have := hqn p hp; omega⟩⟩
        simp [w, w', noX_ok hc, gTup_ok, s2, hs, hsame, e', hd'])
    ⟨canon ps, none, none, rfl, n6, canon_canon ps, by have := canon_len ps; omega, fun p hp => by
      obtain ⟨q, hq, e⟩ := List.mem_map.mp (canon_names hp)
      have := hps q hq
      rw [List.length_map, ← e]; omega⟩
  refine ⟨m7, noX_ok ?_⟩
  have est : MO.lst [D.fl (cs.map .int), .int 0, .int 0, .int 0] = st cs 0 0 0 := rfl
  simp at e7
  simp [r_law, startE, e0, est, hm1, e2, e3, wRng1_ok (show -16777216 ≤ d3 ∧ d3 ≤ 16777216 by omega), e4, noX_ok e4, e5, s2, s3, s4, e6, e7]
end K05
namespace K05
open PySem L2 PyProof.Rows MP
theorem all_mk {l : PySem.W.OpenLaw} {w : World} {K : PySem.W.Frag} {h : Heap} {mg : Str → Option Value} {fa f0 f1 f2 f3 f4 f5 f6 f7 f8 f9 f10 : Addr} (X : K.In h) (G : h.Ns mainGlobals mg) (hfa : mg "law" = some (.ref fa))
    {od0 an0 : Option Addr} {sl0 : Array (Option Value)} {oc0 kV0 dc0 pm0 cd0 ct0 : Value}
    {od1 an1 : Option Addr} {sl1 : Array (Option Value)} {oc1 kV1 dc1 pm1 cd1 ct1 : Value}
    {od2 an2 : Option Addr} {sl2 : Array (Option Value)} {oc2 kV2 dc2 pm2 cd2 ct2 : Value}
    {od3 an3 : Option Addr} {sl3 : Array (Option Value)} {oc3 kV3 dc3 pm3 cd3 ct3 : Value}
    {od4 an4 : Option Addr} {sl4 : Array (Option Value)} {oc4 kV4 dc4 pm4 cd4 ct4 : Value}
    {od5 an5 : Option Addr} {sl5 : Array (Option Value)} {oc5 kV5 dc5 pm5 cd5 ct5 : Value}
    {od6 an6 : Option Addr} {sl6 : Array (Option Value)} {oc6 kV6 dc6 pm6 cd6 ct6 : Value}
    {od7 an7 : Option Addr} {sl7 : Array (Option Value)} {oc7 kV7 dc7 pm7 cd7 ct7 : Value}
    {od8 an8 : Option Addr} {sl8 : Array (Option Value)} {oc8 kV8 dc8 pm8 cd8 ct8 : Value}
    {od9 an9 : Option Addr} {sl9 : Array (Option Value)} {oc9 kV9 dc9 pm9 cd9 ct9 : Value}
    {od10 an10 : Option Addr} {sl10 : Array (Option Value)} {oc10 kV10 dc10 pm10 cd10 ct10 : Value}
    (a0 : PySem.W.nsIn K mainGlobals "_law_start" = some (some (.ref f0))) (l0 : K.lookup f0 = some ⟨oc0, od0, .func (PySem.W.fnOf "_law_start" "_law_start" (defArgs st__law_start) (defBody st__law_start) (defScope st__law_start) .none kV0 dc0 pm0 an0 cd0 ct0), sl0⟩) (c0 : PySem.W.codeIn K cd0 "_law_start" = true) (k0 : PySem.W.keepIn K (.ref f0) = true)
    (a1 : PySem.W.nsIn K mainGlobals "_law_form" = some (some (.ref f1))) (l1 : K.lookup f1 = some ⟨oc1, od1, .func (PySem.W.fnOf "_law_form" "_law_form" (defArgs st__law_form) (defBody st__law_form) (defScope st__law_form) .none kV1 dc1 pm1 an1 cd1 ct1), sl1⟩) (c1 : PySem.W.codeIn K cd1 "_law_form" = true) (k1 : PySem.W.keepIn K (.ref f1) = true)
    (a2 : PySem.W.nsIn K mainGlobals "_law_draw" = some (some (.ref f2))) (l2 : K.lookup f2 = some ⟨oc2, od2, .func (PySem.W.fnOf "_law_draw" "_law_draw" (defArgs st__law_draw) (defBody st__law_draw) (defScope st__law_draw) .none kV2 dc2 pm2 an2 cd2 ct2), sl2⟩) (c2 : PySem.W.codeIn K cd2 "_law_draw" = true) (k2 : PySem.W.keepIn K (.ref f2) = true)
    (a3 : PySem.W.nsIn K mainGlobals "_law_number" = some (some (.ref f3))) (l3 : K.lookup f3 = some ⟨oc3, od3, .func (PySem.W.fnOf "_law_number" "_law_number" (defArgs st__law_number) (defBody st__law_number) (defScope st__law_number) .none kV3 dc3 pm3 an3 cd3 ct3), sl3⟩) (c3 : PySem.W.codeIn K cd3 "_law_number" = true) (k3 : PySem.W.keepIn K (.ref f3) = true)
    (a4 : PySem.W.nsIn K mainGlobals "_law_one_of" = some (some (.ref f4))) (l4 : K.lookup f4 = some ⟨oc4, od4, .func (PySem.W.fnOf "_law_one_of" "_law_one_of" (defArgs st__law_one_of) (defBody st__law_one_of) (defScope st__law_one_of) .none kV4 dc4 pm4 an4 cd4 ct4), sl4⟩) (c4 : PySem.W.codeIn K cd4 "_law_one_of" = true) (k4 : PySem.W.keepIn K (.ref f4) = true)
    (a5 : PySem.W.nsIn K mainGlobals "_law_name" = some (some (.ref f5))) (l5 : K.lookup f5 = some ⟨oc5, od5, .func (PySem.W.fnOf "_law_name" "_law_name" (defArgs st__law_name) (defBody st__law_name) (defScope st__law_name) .none kV5 dc5 pm5 an5 cd5 ct5), sl5⟩) (c5 : PySem.W.codeIn K cd5 "_law_name" = true) (k5 : PySem.W.keepIn K (.ref f5) = true)
    (a6 : PySem.W.nsIn K mainGlobals "_law_is_int" = some (some (.ref f6))) (l6 : K.lookup f6 = some ⟨oc6, od6, .func (PySem.W.fnOf "_law_is_int" "_law_is_int" (defArgs st__law_is_int) (defBody st__law_is_int) (defScope st__law_is_int) .none kV6 dc6 pm6 an6 cd6 ct6), sl6⟩) (c6 : PySem.W.codeIn K cd6 "_law_is_int" = true) (k6 : PySem.W.keepIn K (.ref f6) = true)
    (a7 : PySem.W.nsIn K mainGlobals "_law_same" = some (some (.ref f7))) (l7 : K.lookup f7 = some ⟨oc7, od7, .func (PySem.W.fnOf "_law_same" "_law_same" (defArgs st__law_same) (defBody st__law_same) (defScope st__law_same) .none kV7 dc7 pm7 an7 cd7 ct7), sl7⟩) (c7 : PySem.W.codeIn K cd7 "_law_same" = true) (k7 : PySem.W.keepIn K (.ref f7) = true)
    (a8 : PySem.W.nsIn K mainGlobals "form" = some (some (.ref f8))) (l8 : K.lookup f8 = some ⟨oc8, od8, .func (PySem.W.fnOf "form" "form" (defArgs st_form) (defBody st_form) (defScope st_form) .none kV8 dc8 pm8 an8 cd8 ct8), sl8⟩) (c8 : PySem.W.codeIn K cd8 "form" = true) (k8 : PySem.W.keepIn K (.ref f8) = true)
    (a9 : PySem.W.nsIn K mainGlobals "sided" = some (some (.ref f9))) (l9 : K.lookup f9 = some ⟨oc9, od9, .func (PySem.W.fnOf "sided" "sided" (defArgs st_sided) (defBody st_sided) (defScope st_sided) .none kV9 dc9 pm9 an9 cd9 ct9), sl9⟩) (c9 : PySem.W.codeIn K cd9 "sided" = true) (k9 : PySem.W.keepIn K (.ref f9) = true)
    (a10 : PySem.W.nsIn K mainGlobals "law" = some (some (.ref f10))) (l10 : K.lookup f10 = some ⟨oc10, od10, .func (PySem.W.fnOf "law" "law" (defArgs st_law) (defBody st_law) (defScope st_law) .none kV10 dc10 pm10 an10 cd10 ct10), sl10⟩) (c10 : PySem.W.codeIn K cd10 "law" = true) (k10 : PySem.W.keepIn K (.ref f10) = true)
    (y_list : PySem.W.nsIn K mainGlobals "list" = some none) (y_sorted : PySem.W.nsIn K mainGlobals "sorted" = some none) (y_tuple : PySem.W.nsIn K mainGlobals "tuple" = some none) (y_int : PySem.W.nsIn K mainGlobals "int" = some none) (y_len : PySem.W.nsIn K mainGlobals "len" = some none) (y_abs : PySem.W.nsIn K mainGlobals "abs" = some none) (y_range : PySem.W.nsIn K mainGlobals "range" = some none) (y_isinstance : PySem.W.nsIn K mainGlobals "isinstance" = some none) (y_bool : PySem.W.nsIn K mainGlobals "bool" = some none) (y_all : PySem.W.nsIn K mainGlobals "all" = some none) (y_str : PySem.W.nsIn K mainGlobals "str" = some none) :
    ∃ fd : FuncData, (∀ (s : Shared) (v : Value), BindsTo s fd ⟨[v], []⟩ [("script", v)]) ∧ ∀ base : Heap, K.In base → base.Ns mainGlobals mg → FnOk l.prog w K mg base CX0 8 fa fd ["script"] (spLaw K 63) := by
  have e := hfa.symm.trans (PySem.W.mg_of X G a10)
  cases e
  have U0 := fun_mk (st := st__law_start) l0 c0 k0
  have T__law_start : FnI K mg "_law_start" st__law_start _ _ ["script"] := ⟨U0, PySem.W.mg_of X G a0, U0.binds (ps := ["script"]) fun _ _ _ _ _ _ us hl => match us, hl with | [_], _ => rfl⟩
  have U1 := fun_mk (st := st__law_form) l1 c1 k1
  have T__law_form : FnI K mg "_law_form" st__law_form _ _ ["constant", "pairs"] := ⟨U1, PySem.W.mg_of X G a1, U1.binds (ps := ["constant", "pairs"]) fun _ _ _ _ _ _ us hl => match us, hl with | [_, _], _ => rfl⟩
  have U2 := fun_mk (st := st__law_draw) l2 c2 k2
  have T__law_draw : FnI K mg "_law_draw" st__law_draw _ _ ["state", "most"] := ⟨U2, PySem.W.mg_of X G a2, U2.binds (ps := ["state", "most"]) fun _ _ _ _ _ _ us hl => match us, hl with | [_, _], _ => rfl⟩
  have U3 := fun_mk (st := st__law_number) l3 c3 k3
  have T__law_number : FnI K mg "_law_number" st__law_number _ _ ["state"] := ⟨U3, PySem.W.mg_of X G a3, U3.binds (ps := ["state"]) fun _ _ _ _ _ _ us hl => match us, hl with | [_], _ => rfl⟩
  have U4 := fun_mk (st := st__law_one_of) l4 c4 k4
  have T__law_one_of : FnI K mg "_law_one_of" st__law_one_of _ _ ["state", "items"] := ⟨U4, PySem.W.mg_of X G a4, U4.binds (ps := ["state", "items"]) fun _ _ _ _ _ _ us hl => match us, hl with | [_, _], _ => rfl⟩
  have U5 := fun_mk (st := st__law_name) l5 c5 k5
  have T__law_name : FnI K mg "_law_name" st__law_name _ _ ["state"] := ⟨U5, PySem.W.mg_of X G a5, U5.binds (ps := ["state"]) fun _ _ _ _ _ _ us hl => match us, hl with | [_], _ => rfl⟩
  have U6 := fun_mk (st := st__law_is_int) l6 c6 k6
  have T__law_is_int : FnI K mg "_law_is_int" st__law_is_int _ _ ["x"] := ⟨U6, PySem.W.mg_of X G a6, U6.binds (ps := ["x"]) fun _ _ _ _ _ _ us hl => match us, hl with | [_], _ => rfl⟩
  have U7 := fun_mk (st := st__law_same) l7 c7 k7
  have T__law_same : FnI K mg "_law_same" st__law_same _ _ ["x", "y"] := ⟨U7, PySem.W.mg_of X G a7, U7.binds (ps := ["x", "y"]) fun _ _ _ _ _ _ us hl => match us, hl with | [_, _], _ => rfl⟩
  have U8 := fun_mk (st := st_form) l8 c8 k8
  have T_form : FnI K mg "form" st_form _ _ ["constant", "pairs"] := ⟨U8, PySem.W.mg_of X G a8, U8.binds (ps := ["constant", "pairs"]) fun _ _ _ _ _ _ us hl => match us, hl with | [_, _], _ => rfl⟩
  have U9 := fun_mk (st := st_sided) l9 c9 k9
  have T_sided : FnI K mg "sided" st_sided _ _ ["mark", "f"] := ⟨U9, PySem.W.mg_of X G a9, U9.binds (ps := ["mark", "f"]) fun _ _ _ _ _ _ us hl => match us, hl with | [_, _], _ => rfl⟩
  have U10 := fun_mk (st := st_law) l10 c10 k10
  have T_law : FnI K mg "law" st_law _ _ ["script"] := ⟨U10, PySem.W.mg_of X G a10, U10.binds (ps := ["script"]) fun _ _ _ _ _ _ us hl => match us, hl with | [_], _ => rfl⟩
  have z_list := PySem.W.mg_none_of X G y_list
  have z_sorted := PySem.W.mg_none_of X G y_sorted
  have z_tuple := PySem.W.mg_none_of X G y_tuple
  have z_int := PySem.W.mg_none_of X G y_int
  have z_len := PySem.W.mg_none_of X G y_len
  have z_abs := PySem.W.mg_none_of X G y_abs
  have z_range := PySem.W.mg_none_of X G y_range
  have z_isinstance := PySem.W.mg_none_of X G y_isinstance
  have z_bool := PySem.W.mg_none_of X G y_bool
  have z_all := PySem.W.mg_none_of X G y_all
  have z_str := PySem.W.mg_none_of X G y_str
  refine ⟨PySem.W.fnOf "law" "law" (defArgs st_law) (defBody st_law) (defScope st_law) .none kV10 dc10 pm10 an10 cd10 ct10, fun s v => .of_eq rfl, fun base _ _ => ?_⟩
  have F__law_start := mp__law_start (P := l.prog) (w := w) (base := base) (k := 0) T__law_start.fn z_list
  have F0__law_form := mp__law_form (P := l.prog) (w := w) (base := base) (k := 0) T__law_form.fn z_sorted z_tuple
  have F__law_form := sp_gc F0__law_form gc_form
  have F__law_draw := mp__law_draw (P := l.prog) (w := w) (base := base) (k := 0) T__law_draw.fn z_int z_len z_abs
  have F__law_number := mp__law_number (P := l.prog) (w := w) (base := base) (k := 1) T__law_number.fn T__law_draw (F__law_draw.mono (by decide)) z_range
  have F__law_one_of := mp__law_one_of (P := l.prog) (w := w) (base := base) (k := 1) T__law_one_of.fn T__law_draw (F__law_draw.mono (by decide)) z_len
  have F__law_name := mp__law_name (P := l.prog) (w := w) (base := base) (k := 2) T__law_name.fn T__law_one_of (F__law_one_of.mono (by decide)) T__law_draw (F__law_draw.mono (by decide)) z_range z_len
  have F__law_is_int := mp__law_is_int (P := l.prog) (w := w) (base := base) (k := 0) T__law_is_int.fn z_isinstance z_int z_bool
  have FR__law_same : ∀ n : Nat, FnOk l.prog w K mg base CX0 (n + 2) f7 _ ["x", "y"] (sp K mg 2 (sameL n)) := fun n => by
    induction n with
    | zero => exact fn_bad
    | succ n ih => exact mp__law_same T__law_same ih T__law_is_int (F__law_is_int.mono (by omega)) z_isinstance z_tuple z_len z_range z_all z_str
  have F__law_same := FR__law_same 5
  have F0_form := mp_form (P := l.prog) (w := w) (base := base) (k := 0) T_form.fn z_sorted z_tuple
  have F_form := sp_gc F0_form gc_form
  have F_sided := mp_sided (P := l.prog) (w := w) (base := base) (k := 1) T_sided.fn T_form (F_form.mono (by decide))
  have F_law := mp_law (P := l.prog) (w := w) (base := base) (k := 7) T_law.fn T__law_start (F__law_start.mono (by decide)) T__law_form (F__law_form.mono (by decide)) T__law_draw (F__law_draw.mono (by decide)) T__law_number (F__law_number.mono (by decide)) T__law_name (F__law_name.mono (by decide)) T__law_one_of (F__law_one_of.mono (by decide)) T__law_same (F__law_same.mono (by decide)) T_sided (F_sided.mono (by decide)) z_range z_tuple
  exact law_of F_law fun cs hc => law_ok hc
end K05
open PySem PySem.W PyProof.Rows
set_option maxRecDepth 100000 in
set_option maxHeartbeats 0 in
theorem PySem.Challenge.cw_differwithin_k05_sided_holds : PySem.Challenge.rw_differwithin_k05_sided.Holds := by
  w_on; o_law; k_head; (case hw => w_witness2)
  k_fill
  refine MP.walkM (l := PySem.Challenge.rw_differwithin_k05_sided) (n := 63) (k := 8) rfl (by decide) rfl ⟨rfl, by decide, by decide⟩ (fun w h Y => PySem.W.kIn_of Y) ?F
  case F =>
    intro w mg fa h KX G hmg
    refine' K05.all_mk KX G hmg ?a0 ?l0 ?c0 ?k0 ?a1 ?l1 ?c1 ?k1 ?a2 ?l2 ?c2 ?k2 ?a3 ?l3 ?c3 ?k3 ?a4 ?l4 ?c4 ?k4 ?a5 ?l5 ?c5 ?k5 ?a6 ?l6 ?c6 ?k6 ?a7 ?l7 ?c7 ?k7 ?a8 ?l8 ?c8 ?k8 ?a9 ?l9 ?c9 ?k9 ?a10 ?l10 ?c10 ?k10 ?y_list ?y_sorted ?y_tuple ?y_int ?y_len ?y_abs ?y_range ?y_isinstance ?y_bool ?y_all ?y_str
    (case a0 => k_is); (case l0 => k_is); (case c0 => k_is); (case k0 => k_is)
    (case a1 => k_is); (case l1 => k_is); (case c1 => k_is); (case k1 => k_is)
    (case a2 => k_is); (case l2 => k_is); (case c2 => k_is); (case k2 => k_is)
    (case a3 => k_is); (case l3 => k_is); (case c3 => k_is); (case k3 => k_is)
    (case a4 => k_is); (case l4 => k_is); (case c4 => k_is); (case k4 => k_is)
    (case a5 => k_is); (case l5 => k_is); (case c5 => k_is); (case k5 => k_is)
    (case a6 => k_is); (case l6 => k_is); (case c6 => k_is); (case k6 => k_is)
    (case a7 => k_is); (case l7 => k_is); (case c7 => k_is); (case k7 => k_is)
    (case a8 => k_is); (case l8 => k_is); (case c8 => k_is); (case k8 => k_is)
    (case a9 => k_is); (case l9 => k_is); (case c9 => k_is); (case k9 => k_is)
    (case a10 => k_is); (case l10 => k_is); (case c10 => k_is); (case k10 => k_is)
    (case y_list => k_is); (case y_sorted => k_is); (case y_tuple => k_is); (case y_int => k_is); (case y_len => k_is); (case y_abs => k_is); (case y_range => k_is); (case y_isinstance => k_is); (case y_bool => k_is); (case y_all => k_is); (case y_str => k_is)
