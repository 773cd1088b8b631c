import PyProof.Rows.All
import Wide.All
import OpenK.AllK
import Wide.FinOn
import HandS.ForMost
import HandS.TupAny
import HandS.IsInst
import HandS.Wide
import HandS.WordsDict
import HandS.Zip
import HandS.Flow
import HandS.Exc
import HandS.SortKw
import HandS.More
import HandS.Text
import HandS.Style
import HandS.DictComp
import KE.GoesMore
import HandS.HeadHook3
import HandS.SortInts
import HandS.TryMany
import HandS.TryOnly
import HandS.ExcOwn
import HandS.ExcIs
import HandS.WordsExc
import HandS.ExcField
import KE.KExcIs
import PySem.Challenge.RW_differwithin_k52_change_swap
set_option Elab.async false
set_option linter.all false
set_option maxRecDepth 100000
set_option maxHeartbeats 1000000
/-! MP: a small semantics of plain data over the hand layer -/
namespace MP
open PySem L2 PyProof.Rows

/-- deep data: fl, fd are lists and dicts that nobody changes any more, ref a place of the small heap, ro a list that is locked or written -/
inductive D where
  | non | bl (b : Bool) | int (i : Int) | str (x : Str)
  | tup (xs : List D) | fl (xs : List D) | ro (xs : List D) | fd (ks : List Key) (xs : List D) | ref (n : Nat)
  deriving Inhabited
/-- what stands in the small heap -/
inductive MO where
  | lst (xs : List D) | dk (kvs : List (Key × D))
/-- an exception: its class's name, its own attributes -/
structure Xn where
  cls : Str
  fs : List (Str × D)
inductive R (α : Type) where
  | ok (a : α) (mu : List MO) | exc (x : Xn) (mu : List MO) | bad
def M (α : Type) := List MO → R α
def M.pure {α : Type} (a : α) : M α := fun mu => .ok a mu
def M.bind {α β : Type} (c : M α) (f : α → M β) : M β := fun mu => match c mu with
  | .ok a mu' => f a mu'
  | .exc x mu' => .exc x mu'
  | .bad => .bad
instance : Monad M where
  pure := M.pure
  bind := M.bind
def bad {α : Type} : M α := fun _ => .bad
def raise {α : Type} (x : Xn) : M α := fun mu => .exc x mu
theorem M.bind_ok {α β : Type} {c : M α} {f : α → M β} {mu mu' : List MO} {a : α} (h : c mu = .ok a mu') : (c >>= f) mu = f a mu' := by
  show M.bind c f mu = _
  unfold M.bind
  rw [h]
theorem M.bind_def {α β : Type} {c : M α} {f : α → M β} {mu : List MO} : (c >>= f) mu = match c mu with
  | .ok a mu' => f a mu'
  | .exc x mu' => .exc x mu'
  | .bad => .bad := rfl
theorem M.pure_def {α : Type} {a : α} {mu : List MO} : (Pure.pure a : M α) mu = .ok a mu := rfl

/-- where the small heap's places stand; further places that no datum may name -/
structure Mp where
  ad : List Addr
  no : List Addr
def Mp.Out (m : Mp) (a : Addr) : Prop := a ∉ m.ad ∧ a ∉ m.no
def Mp.add (m : Mp) (a : Addr) : Mp := ⟨m.ad ++ [a], m.no⟩
def Mp.shut (m : Mp) (a : Addr) : Mp := ⟨m.ad, m.no ++ [a]⟩
/-- a list of the written part; a list that is locked or written -/
def KL (K : PySem.W.Frag) (a : Addr) (xs : List V) : Prop := ∃ (o : Obj) (its : Array Value) (n : Nat), K.lookup a = some o ∧ o.cls = .type "list" ∧ o.dict = none ∧ o.data = .seq its n ∧ its.size ≤ sizeLine ∧ Vals xs its.toList
def RoAt (K : PySem.W.Frag) (H : Hp) (a : Addr) (xs : List V) : Prop := (∃ o, H a = some (.frz o (.lst xs))) ∨ KL K a xs
theorem RoAt.sqL {K : PySem.W.Frag} {H : Hp} {a : Addr} {xs : List V} (h : RoAt K H a xs) : SqL K H a xs := by
  rcases h with ⟨o, h⟩ | h
  · exact .inl (.inr ⟨o, h⟩)
  · exact .inr h
section
variable (K : PySem.W.Frag) (m : Mp) (H : Hp)
mutual
def Rep : D → V → Prop
  | .non, v => v = .non
  | .bl b, v => v = .bl b
  | .int i, v => v = .int i
  | .str x, v => v = .str x
  | .tup ds, v => ∃ a vs, v = .ref a ∧ SqT K H a vs ∧ Reps ds vs
  | .fl ds, v => ∃ a vs, v = .ref a ∧ H a = some (.lst vs) ∧ m.Out a ∧ Reps ds vs
  | .ro ds, v => ∃ a vs, v = .ref a ∧ RoAt K H a vs ∧ Reps ds vs
  | .fd ks ds, v => ∃ a vs, v = .ref a ∧ H a = some (.dK (ks.zip vs)) ∧ m.Out a ∧ ks.length = ds.length ∧ Reps ds vs
  | .ref n, v => ∃ a, v = .ref a ∧ m.ad[n]? = some a
def Reps : List D → List V → Prop
  | [], vs => vs = []
  | d :: ds, vs => ∃ v r, vs = v :: r ∧ Rep d v ∧ Reps ds r
end
def RepO (a : Addr) : MO → Prop
  | .lst ds => ∃ vs, H a = some (.lst vs) ∧ Reps K m H ds vs
  | .dk kvs => ∃ vs, H a = some (.dK ((kvs.map (·.1)).zip vs)) ∧ Reps K m H (kvs.map (·.2)) vs
end

/-- the heap grows: new places, what stands outside of m stays -/
structure Grow (m m' : Mp) (H H' : Hp) : Prop where
  ext : ∃ l k, m'.ad = m.ad ++ l ∧ m'.no = m.no ++ k ∧ (∀ a ∈ l, H a = none) ∧ ∀ a ∈ k, H a = none
  oth : ∀ a o, H a = some o → a ∉ m.ad → H' a = some o
  tups : ∀ a xs, H a = some (.tup xs) → H' a = some (.tup xs)
  frzs : ∀ a o u, H a = some (.frz o u) → H' a = some (.frz o u)
  trk : ∀ a o, H a = some o → ∃ o', H' a = some o'
theorem nodup_ix' {N : List Addr} (hN : N.Nodup) {i j : Nat} {x : Addr} (a : N[i]? = some x) (b : N[j]? = some x) : i = j := by
  obtain ⟨h1, e1⟩ := List.getElem?_eq_some_iff.mp a
  obtain ⟨h2, e2⟩ := List.getElem?_eq_some_iff.mp b
  exact (List.getElem_inj hN).mp (by rw [e1, e2])
theorem Grow.refl {m : Mp} {H : Hp} : Grow m m H H := ⟨⟨[], [], by simp, by simp, by simp, by simp⟩, fun _ _ h _ => h, fun _ _ h => h, fun _ _ _ h => h, fun _ o h => ⟨o, h⟩⟩
theorem Grow.notin {m m' : Mp} {H H' : Hp} (g : Grow m m' H H') {a : Addr} {o : HO} (h : H a = some o) (n : a ∉ m.ad) : a ∉ m'.ad := by
  obtain ⟨l, k, e, _, hl, _⟩ := g.ext
  rw [e]
  intro hm
  rcases List.mem_append.mp hm with z | z
  · exact n z
  · rw [hl a z] at h; cases h
theorem Grow.out {m m' : Mp} {H H' : Hp} (g : Grow m m' H H') {a : Addr} {o : HO} (h : H a = some o) (n : m.Out a) : m'.Out a := by
  refine ⟨g.notin h n.1, ?_⟩
  obtain ⟨l, k, _, e, _, hk⟩ := g.ext
  rw [e]
  intro hm
  rcases List.mem_append.mp hm with z | z
  · exact n.2 z
  · rw [hk a z] at h; cases h
theorem Grow.trans {m m1 m2 : Mp} {H H1 H2 : Hp} (g : Grow m m1 H H1) (g' : Grow m1 m2 H1 H2) : Grow m m2 H H2 := by
  have back : ∀ a, H1 a = none → H a = none := fun a h => by
    cases e : H a with
    | none => rfl
    | some o =>
      obtain ⟨o', h'⟩ := g.trk a o e
      rw [h] at h'; cases h'
  refine ⟨?_, fun a o h n => g'.oth a o (g.oth a o h n) (g.notin h n), fun a xs h => g'.tups a xs (g.tups a xs h), fun a o u h => g'.frzs a o u (g.frzs a o u h), fun a o h => ?_⟩
  · obtain ⟨l, k, e1, e2, hl, hk⟩ := g.ext
    obtain ⟨l', k', e1', e2', hl', hk'⟩ := g'.ext
    refine ⟨l ++ l', k ++ k', by rw [e1', e1, List.append_assoc], by rw [e2', e2, List.append_assoc], fun a ha => ?_, fun a ha => ?_⟩
    · rcases List.mem_append.mp ha with z | z
      · exact hl a z
      · exact back a (hl' a z)
    · rcases List.mem_append.mp ha with z | z
      · exact hk a z
      · exact back a (hk' a z)
  · obtain ⟨o1, h1⟩ := g.trk a o h
    exact g'.trk a o1 h1
theorem Grow.get {m m' : Mp} {H H' : Hp} (g : Grow m m' H H') {n : Nat} {a : Addr} (h : m.ad[n]? = some a) : m'.ad[n]? = some a := by
  obtain ⟨l, k, e, _⟩ := g.ext
  rw [e, List.getElem?_append_left (List.getElem?_eq_some_iff.mp h).1]; exact h
theorem Grow.sqT {K : PySem.W.Frag} {m m' : Mp} {H H' : Hp} (g : Grow m m' H H') {a : Addr} {xs : List V} (h : SqT K H a xs) : SqT K H' a xs := by
  rcases h with (h | ⟨o, h⟩) | h
  · exact .inl (.inl (g.tups a xs h))
  · exact .inl (.inr ⟨o, g.frzs a o _ h⟩)
  · exact .inr h
theorem Grow.roAt {K : PySem.W.Frag} {m m' : Mp} {H H' : Hp} (g : Grow m m' H H') {a : Addr} {xs : List V} (h : RoAt K H a xs) : RoAt K H' a xs := by
  rcases h with ⟨o, h⟩ | h
  · exact .inl ⟨o, g.frzs a o _ h⟩
  · exact .inr h
section
variable {K : PySem.W.Frag} {m m' : Mp} {H H' : Hp}
/-- what the data lean on stays -/
structure Keep (m m' : Mp) (H H' : Hp) : Prop where
  get : ∀ (n : Nat) (a : Addr), m.ad[n]? = some a → m'.ad[n]? = some a
  fl : ∀ a o, H a = some o → m.Out a → H' a = some o ∧ m'.Out a
  tups : ∀ a xs, H a = some (.tup xs) → H' a = some (.tup xs)
  frzs : ∀ a o u, H a = some (.frz o u) → H' a = some (.frz o u)
theorem Grow.keep (g : Grow m m' H H') : Keep m m' H H' := ⟨fun _ _ h => g.get h, fun a o h n => ⟨g.oth a o h n.1, g.out h n⟩, g.tups, g.frzs⟩
theorem Keep.sqT (g : Keep m m' H H') {a : Addr} {xs : List V} (h : SqT K H a xs) : SqT K H' a xs := by
  rcases h with (h | ⟨o, h⟩) | h
  · exact .inl (.inl (g.tups a xs h))
  · exact .inl (.inr ⟨o, g.frzs a o _ h⟩)
  · exact .inr h
theorem Keep.roAt (g : Keep m m' H H') {a : Addr} {xs : List V} (h : RoAt K H a xs) : RoAt K H' a xs := by
  rcases h with ⟨o, h⟩ | h
  · exact .inl ⟨o, g.frzs a o _ h⟩
  · exact .inr h
mutual
theorem Rep.keep (g : Keep m m' H H') : ∀ (d : D) (v : V), Rep K m H d v → Rep K m' H' d v
  | .non, v, h => by simp only [Rep] at h ⊢; exact h
  | .bl b, v, h => by simp only [Rep] at h ⊢; exact h
  | .int i, v, h => by simp only [Rep] at h ⊢; exact h
  | .str x, v, h => by simp only [Rep] at h ⊢; exact h
  | .tup ds, v, h => by
    simp only [Rep] at h ⊢
    obtain ⟨a, vs, e, hs, hr⟩ := h
    exact ⟨a, vs, e, g.sqT hs, Reps.keep g ds vs hr⟩
  | .fl ds, v, h => by
    simp only [Rep] at h ⊢
    obtain ⟨a, vs, e, hs, hn, hr⟩ := h
    exact ⟨a, vs, e, (g.fl a _ hs hn).1, (g.fl a _ hs hn).2, Reps.keep g ds vs hr⟩
  | .ro ds, v, h => by
    simp only [Rep] at h ⊢
    obtain ⟨a, vs, e, hs, hr⟩ := h
    exact ⟨a, vs, e, g.roAt hs, Reps.keep g ds vs hr⟩
  | .fd ks ds, v, h => by
    simp only [Rep] at h ⊢
    obtain ⟨a, vs, e, hs, hn, hl, hr⟩ := h
    exact ⟨a, vs, e, (g.fl a _ hs hn).1, (g.fl a _ hs hn).2, hl, Reps.keep g ds vs hr⟩
  | .ref n, v, h => by
    simp only [Rep] at h ⊢
    obtain ⟨a, e, hm⟩ := h
    exact ⟨a, e, g.get n a hm⟩
theorem Reps.keep (g : Keep m m' H H') : ∀ (ds : List D) (vs : List V), Reps K m H ds vs → Reps K m' H' ds vs
  | [], vs, h => by simp only [Reps] at h ⊢; exact h
  | d :: ds, vs, h => by
    simp only [Reps] at h ⊢
    obtain ⟨v, r, e, h1, h2⟩ := h
    exact ⟨v, r, e, Rep.keep g d v h1, Reps.keep g ds r h2⟩
end
theorem Rep.grow (g : Grow m m' H H') (d : D) (v : V) (h : Rep K m H d v) : Rep K m' H' d v := Rep.keep g.keep d v h
theorem Reps.grow (g : Grow m m' H H') (ds : List D) (vs : List V) (h : Reps K m H ds vs) : Reps K m' H' ds vs := Reps.keep g.keep ds vs h
theorem Reps.nil_iff {vs : List V} : Reps K m H [] vs ↔ vs = [] := by simp only [Reps]
theorem Reps.cons_iff {d : D} {ds : List D} {vs : List V} : Reps K m H (d :: ds) vs ↔ ∃ v r, vs = v :: r ∧ Rep K m H d v ∧ Reps K m H ds r := by simp only [Reps]
theorem Reps.length : ∀ {ds : List D} {vs : List V}, Reps K m H ds vs → ds.length = vs.length
  | [], vs, h => by rw [Reps.nil_iff] at h; subst h; rfl
  | d :: ds, vs, h => by
    obtain ⟨v, r, e, _, h2⟩ := Reps.cons_iff.mp h
    subst e
    rw [List.length_cons, List.length_cons, Reps.length h2]
theorem Reps.get : ∀ {ds : List D} {vs : List V} {i : Nat} {d : D}, Reps K m H ds vs → ds[i]? = some d → ∃ v, vs[i]? = some v ∧ Rep K m H d v
  | [], vs, i, d, _, e => by simp at e
  | d' :: ds, vs, i, d, h, e => by
    obtain ⟨v, r, ev, h1, h2⟩ := Reps.cons_iff.mp h
    subst ev
    cases i with
    | zero => simp at e; subst e; exact ⟨v, rfl, h1⟩
    | succ i =>
      obtain ⟨w, hw, rw'⟩ := Reps.get (i := i) (d := d) h2 (by simpa using e)
      exact ⟨w, by simpa using hw, rw'⟩
theorem Reps.append : ∀ {ds es : List D} {vs ws : List V}, Reps K m H ds vs → Reps K m H es ws → Reps K m H (ds ++ es) (vs ++ ws)
  | [], es, vs, ws, h, h' => by rw [Reps.nil_iff] at h; subst h; exact h'
  | d :: ds, es, vs, ws, h, h' => by
    obtain ⟨v, r, ev, h1, h2⟩ := Reps.cons_iff.mp h
    subst ev
    exact Reps.cons_iff.mpr ⟨v, r ++ ws, rfl, h1, Reps.append h2 h'⟩
theorem Reps.one {d : D} {v : V} (h : Rep K m H d v) : Reps K m H [d] [v] := Reps.cons_iff.mpr ⟨v, [], rfl, h, Reps.nil_iff.mpr rfl⟩
theorem Reps.take (n : Nat) : ∀ {ds : List D} {vs : List V}, Reps K m H ds vs → Reps K m H (ds.take n) (vs.take n) := by
  induction n with
  | zero => intro ds vs _; exact Reps.nil_iff.mpr rfl
  | succ n ih =>
    intro ds vs h
    cases ds with
    | nil => rw [Reps.nil_iff] at h; subst h; exact Reps.nil_iff.mpr rfl
    | cons d ds =>
      obtain ⟨v, r, ev, h1, h2⟩ := Reps.cons_iff.mp h
      subst ev
      exact Reps.cons_iff.mpr ⟨v, r.take n, rfl, h1, ih h2⟩
theorem Reps.drop (n : Nat) : ∀ {ds : List D} {vs : List V}, Reps K m H ds vs → Reps K m H (ds.drop n) (vs.drop n) := by
  induction n with
  | zero => intro ds vs h; exact h
  | succ n ih =>
    intro ds vs h
    cases ds with
    | nil => rw [Reps.nil_iff] at h; subst h; exact Reps.nil_iff.mpr rfl
    | cons d ds =>
      obtain ⟨v, r, ev, h1, h2⟩ := Reps.cons_iff.mp h
      subst ev
      exact ih h2
theorem Reps.set {d : D} {v : V} (hd : Rep K m H d v) : ∀ {ds : List D} {vs : List V} (i : Nat), Reps K m H ds vs → Reps K m H (ds.set i d) (vs.set i v)
  | [], vs, i, h => by rw [Reps.nil_iff] at h; subst h; exact Reps.nil_iff.mpr rfl
  | e :: ds, vs, i, h => by
    obtain ⟨w, r, ev, h1, h2⟩ := Reps.cons_iff.mp h
    subst ev
    cases i with
    | zero => exact Reps.cons_iff.mpr ⟨v, r, rfl, hd, h2⟩
    | succ i => exact Reps.cons_iff.mpr ⟨w, r.set i v, rfl, h1, Reps.set hd i h2⟩
theorem Reps.of_ints : ∀ {ns : List Int} {vs : List V}, Reps K m H (ns.map D.int) vs ↔ vs = ns.map V.int
  | [], vs => Reps.nil_iff
  | n :: ns, vs => by
    rw [List.map_cons, Reps.cons_iff, List.map_cons]
    constructor
    · rintro ⟨v, r, e, h1, h2⟩
      simp only [Rep] at h1
      rw [e, h1, Reps.of_ints.mp h2]
    · rintro rfl
      exact ⟨_, _, rfl, by simp only [Rep], Reps.of_ints.mpr rfl⟩
theorem Reps.of_strs : ∀ {ns : List Str} {vs : List V}, Reps K m H (ns.map D.str) vs ↔ vs = ns.map V.str
  | [], vs => Reps.nil_iff
  | n :: ns, vs => by
    rw [List.map_cons, Reps.cons_iff, List.map_cons]
    constructor
    · rintro ⟨v, r, e, h1, h2⟩
      simp only [Rep] at h1
      rw [e, h1, Reps.of_strs.mp h2]
    · rintro rfl
      exact ⟨_, _, rfl, by simp only [Rep], Reps.of_strs.mpr rfl⟩
theorem Reps.of_bls : ∀ {ns : List Bool} {vs : List V}, Reps K m H (ns.map D.bl) vs ↔ vs = ns.map V.bl
  | [], vs => Reps.nil_iff
  | n :: ns, vs => by
    rw [List.map_cons, Reps.cons_iff, List.map_cons]
    constructor
    · rintro ⟨v, r, e, h1, h2⟩
      simp only [Rep] at h1
      rw [e, h1, Reps.of_bls.mp h2]
    · rintro rfl
      exact ⟨_, _, rfl, by simp only [Rep], Reps.of_bls.mpr rfl⟩
theorem RepO.keep (g : Keep m m' H H') {a : Addr} (hk : ∀ o, H a = some o → H' a = some o) : ∀ {o : MO}, RepO K m H a o → RepO K m' H' a o
  | .lst ds, ⟨vs, h, r⟩ => ⟨vs, hk _ h, Reps.keep g ds vs r⟩
  | .dk kvs, ⟨vs, h, r⟩ => ⟨vs, hk _ h, Reps.keep g _ vs r⟩
theorem RepO.grow (g : Grow m m' H H') {a : Addr} (hk : ∀ o, H a = some o → H' a = some o) : ∀ {o : MO}, RepO K m H a o → RepO K m' H' a o
  | .lst ds, ⟨vs, h, r⟩ => ⟨vs, hk _ h, Reps.grow g ds vs r⟩
  | .dk kvs, ⟨vs, h, r⟩ => ⟨vs, hk _ h, Reps.grow g _ vs r⟩
/-- the small heap stands -/
structure Rel (K : PySem.W.Frag) (m : Mp) (mu : List MO) (H : Hp) : Prop where
  len : m.ad.length = mu.length
  nd : m.ad.Nodup
  nos : ∀ a, a ∈ m.no → ∃ o, H a = some o
  dj : ∀ a, a ∈ m.ad → a ∉ m.no
  obj : ∀ (n : Nat) (o : MO) (a : Addr), mu[n]? = some o → m.ad[n]? = some a → RepO K m H a o
theorem Rel.at {mu : List MO} (r : Rel K m mu H) {n : Nat} {o : MO} (h : mu[n]? = some o) : ∃ a, m.ad[n]? = some a ∧ RepO K m H a o := by
  have hn : n < m.ad.length := by rw [r.len]; exact (List.getElem?_eq_some_iff.mp h).1
  exact ⟨m.ad[n], List.getElem?_eq_getElem hn, r.obj n o _ h (List.getElem?_eq_getElem hn)⟩
theorem Rel.at' {mu : List MO} (r : Rel K m mu H) {n : Nat} {a : Addr} (h : m.ad[n]? = some a) : ∃ o, mu[n]? = some o ∧ RepO K m H a o := by
  have hn : n < mu.length := by rw [← r.len]; exact (List.getElem?_eq_some_iff.mp h).1
  exact ⟨mu[n], List.getElem?_eq_getElem hn, r.obj n _ a (List.getElem?_eq_getElem hn) h⟩
theorem RepO.there {a : Addr} : ∀ {o : MO}, RepO K m H a o → (∃ vs, H a = some (.lst vs)) ∨ ∃ kvs, H a = some (.dK kvs)
  | .lst _, ⟨vs, h, _⟩ => .inl ⟨vs, h⟩
  | .dk _, ⟨_, h, _⟩ => .inr ⟨_, h⟩
theorem Rel.mem {mu : List MO} (r : Rel K m mu H) {a : Addr} (h : a ∈ m.ad) : (∃ vs, H a = some (.lst vs)) ∨ ∃ kvs, H a = some (.dK kvs) := by
  obtain ⟨n, hn⟩ := List.mem_iff_getElem?.mp h
  obtain ⟨o, _, ho⟩ := r.at' hn
  exact ho.there
/-- a place that is free may be taken for an object outside of m -/
theorem Grow.laid {a : Addr} {o : HO} (h : H a = none) : Grow m m H (upd H a o) :=
  ⟨⟨[], [], by simp, by simp, by simp, by simp⟩, fun b u e _ => by rw [upd_ne (ne_of_none e h)]; exact e, fun b u e => by rw [upd_ne (ne_of_none e h)]; exact e, fun b u w e => by rw [upd_ne (ne_of_none e h)]; exact e, fun b u e => ⟨u, by rw [upd_ne (ne_of_none e h)]; exact e⟩⟩
theorem Rel.laid {mu : List MO} {a : Addr} {o : HO} (r : Rel K m mu H) (h : H a = none) : Rel K m mu (upd H a o) :=
  ⟨r.len, r.nd, fun b hb => (Grow.laid (m := m) h).trk b _ (r.nos b hb).choose_spec, r.dj, fun n ob b e e' => (r.obj n ob b e e').grow (.laid h) fun u q => by rw [upd_ne (ne_of_none q h)]; exact q⟩
theorem Rel.free {mu : List MO} {a : Addr} (r : Rel K m mu H) (h : H a = none) : m.Out a := ⟨fun z => by
  rcases r.mem z with ⟨_, q⟩ | ⟨_, q⟩ <;> (rw [h] at q; cases q), fun z => by
  obtain ⟨o, q⟩ := r.nos a z
  rw [h] at q; cases q⟩
/-- an object that is not yet of the small heap is taken into it -/
theorem Grow.adopt {H0 : Hp} {a : Addr} (g : Grow m m' H0 H) (h0 : H0 a = none) : Grow m (m'.add a) H0 H := by
  obtain ⟨l, k, e, e2, hl, hk⟩ := g.ext
  refine ⟨⟨l ++ [a], k, by show m'.ad ++ [a] = _; rw [e, List.append_assoc], e2, fun b hb => ?_, hk⟩, g.oth, g.tups, g.frzs, g.trk⟩
  rcases List.mem_append.mp hb with z | z
  · exact hl b z
  · rw [List.mem_singleton.mp z]; exact h0
/-- an object of the small heap is changed -/
theorem Grow.write {mu : List MO} {n : Nat} {a : Addr} {ho : HO} (r : Rel K m mu H) (hm : m.ad[n]? = some a) : Grow m m H (upd H a ho) := by
  have hmem : a ∈ m.ad := List.mem_of_getElem? hm
  have hin := r.mem hmem
  refine ⟨⟨[], [], by simp, by simp, by simp, by simp⟩, fun b u e nb => ?_, fun b u e => ?_, fun b u w e => ?_, fun b u e => ?_⟩
  · rw [upd_ne (show b ≠ a from fun z => nb (by rw [z]; exact hmem))]; exact e
  · rw [upd_ne (show b ≠ a from fun z => by rw [z] at e; rcases hin with ⟨_, q⟩ | ⟨_, q⟩ <;> (rw [q] at e; cases e))]; exact e
  · rw [upd_ne (show b ≠ a from fun z => by rw [z] at e; rcases hin with ⟨_, q⟩ | ⟨_, q⟩ <;> (rw [q] at e; cases e))]; exact e
  · by_cases z : b = a
    · subst z; exact ⟨ho, upd_same⟩
    · exact ⟨u, by rw [upd_ne z]; exact e⟩
theorem Rel.write {mu : List MO} {n : Nat} {a : Addr} {o : MO} {ho : HO} (r : Rel K m mu H) (hm : m.ad[n]? = some a) (hnew : RepO K m (upd H a ho) a o) : Rel K m (mu.set n o) (upd H a ho) := by
  have g : Grow m m H (upd H a ho) := .write r hm
  refine ⟨by rw [List.length_set]; exact r.len, r.nd, fun b hb => g.trk b _ (r.nos b hb).choose_spec, r.dj, fun k ob b e e' => ?_⟩
  by_cases hk : k = n
  · subst hk
    rw [hm] at e'; cases e'
    rw [List.getElem?_set_self (by rw [← r.len]; exact (List.getElem?_eq_some_iff.mp hm).1)] at e
    cases e
    exact hnew
  · rw [List.getElem?_set_ne (Ne.symm hk)] at e
    have hba : b ≠ a := fun z => hk (nodup_ix' r.nd e' (z ▸ hm))
    exact (r.obj k ob b e e').grow g fun u q => by rw [upd_ne hba]; exact q
end
end MP
namespace MP
open PySem L2 PyProof.Rows

abbrev Env := List (Option D)
structure RepE (K : PySem.W.Frag) (m : Mp) (H : Hp) (env : Env) (σ : L2.St) : Prop where
  len : env.length = σ.length
  get : ∀ (i : Nat) (d : D), env[i]? = some (some d) → ∃ v, σ[i]? = some (some v) ∧ Rep K m H d v
abbrev Wx := Xn → Mp → Hp → Prop
def Post (K : PySem.W.Frag) (W : Wx) (m : Mp) (H : Hp) {α : Type} (r : R α) (Q : α → Mp → List MO → Hp → Prop) : Prop := match r with
  | .ok a mu' => ∀ m' H', Grow m m' H H' → Rel K m' mu' H' → Q a m' mu' H'
  | .exc x mu' => ∀ m' H', Grow m m' H H' → Rel K m' mu' H' → W x m' H'
  | .bad => False
section
variable {K : PySem.W.Frag} {W : Wx} {m m' : Mp} {H H' : Hp} {α β : Type} {env : Env} {σ : L2.St} {mu : List MO}
theorem RepE.grow (r : RepE K m H env σ) (g : Grow m m' H H') : RepE K m' H' env σ :=
  ⟨r.len, fun i d e => let ⟨v, h, q⟩ := r.get i d e; ⟨v, h, Rep.grow g d v q⟩⟩
theorem RepE.keep (r : RepE K m H env σ) (g : Keep m m' H H') : RepE K m' H' env σ :=
  ⟨r.len, fun i d e => let ⟨v, h, q⟩ := r.get i d e; ⟨v, h, Rep.keep g d v q⟩⟩
theorem RepE.set (r : RepE K m H env σ) {i : Nat} {d : D} {v : V} (h : Rep K m H d v) : RepE K m H (env.set i (some d)) (σ.set i (some v)) := by
  refine ⟨by rw [List.length_set, List.length_set, r.len], fun j e he => ?_⟩
  by_cases hj : i = j
  · subst hj
    by_cases hi : i < env.length
    · rw [List.getElem?_set_self hi] at he
      cases he
      exact ⟨v, List.getElem?_set_self (by rw [← r.len]; exact hi), h⟩
    · rw [List.getElem?_eq_none (by rw [List.length_set]; omega)] at he
      cases he
  · rw [List.getElem?_set_ne hj] at he
    obtain ⟨w, hw, q⟩ := r.get j e he
    exact ⟨w, by rw [List.getElem?_set_ne hj]; exact hw, q⟩
/-- slots forgotten -/
def wipeE (env : Env) : List Nat → Env
  | [] => env
  | i :: is => (wipeE env is).set i none
theorem wipeE_length : ∀ (is : List Nat), (wipeE env is).length = env.length
  | [] => rfl
  | i :: is => by unfold wipeE; rw [List.length_set, wipeE_length is]
theorem wipeE_some {i : Nat} {d : D} : ∀ {is : List Nat}, (wipeE env is)[i]? = some (some d) → env[i]? = some (some d) ∧ i ∉ is
  | [], h => ⟨h, by simp⟩
  | j :: is, h => by
    unfold wipeE at h
    by_cases hi : j = i
    · subst hi
      by_cases hv : j < (wipeE env is).length
      · rw [List.getElem?_set_self hv] at h; cases h
      · rw [List.getElem?_eq_none (by simpa using hv)] at h; cases h
    · rw [List.getElem?_set_ne hi] at h
      obtain ⟨h1, h2⟩ := wipeE_some h
      exact ⟨h1, by simp only [List.mem_cons, not_or]; exact ⟨fun e => hi e.symm, h2⟩⟩
theorem RepE.wipeL (r : RepE K m H env σ) (is : List Nat) : RepE K m H (wipeE env is) σ :=
  ⟨by rw [wipeE_length]; exact r.len, fun i d e => r.get i d (wipeE_some e).1⟩
theorem L2wipe_get {i : Nat} : ∀ {is : List Nat}, i ∉ is → (L2.wipe σ is)[i]? = σ[i]?
  | [], _ => rfl
  | j :: is, h => by
    simp only [List.mem_cons, not_or] at h
    unfold L2.wipe
    rw [List.getElem?_set_ne (Ne.symm h.1), L2wipe_get h.2]
theorem RepE.wipe (r : RepE K m H env σ) (is : List Nat) : RepE K m H (wipeE env is) (L2.wipe σ is) :=
  ⟨by rw [wipeE_length, L2.wipe_length]; exact r.len, fun i d e => by
    obtain ⟨h1, h2⟩ := wipeE_some e
    obtain ⟨v, h, q⟩ := r.get i d h1
    exact ⟨v, by rw [L2wipe_get h2]; exact h, q⟩⟩
theorem Post.mono {r : R α} {Q Q' : α → Mp → List MO → Hp → Prop} (h : Post K W m H r Q) (hQ : ∀ a m' mu' H', Grow m m' H H' → Rel K m' mu' H' → Q a m' mu' H' → Q' a m' mu' H') : Post K W m H r Q' := by
  cases r with
  | ok a mu' => exact fun m' H' g rl => hQ a m' mu' H' g rl (h m' H' g rl)
  | exc x mu' => exact h
  | bad => exact h
theorem Post.grow {r : R α} {Q : α → Mp → List MO → Hp → Prop} (h : Post K W m H r Q) (g : Grow m m' H H') : Post K W m' H' r Q := by
  cases r with
  | ok a mu' => exact fun m2 H2 g2 rl => h m2 H2 (g.trans g2) rl
  | exc x mu' => exact fun m2 H2 g2 rl => h m2 H2 (g.trans g2) rl
  | bad => exact h
theorem Post.bind {c : M α} {f : α → M β} {Q : β → Mp → List MO → Hp → Prop} (h : Post K W m H ((c >>= f) mu) Q) : Post K W m H (c mu) (fun a m' mu' H' => Post K W m' H' (f a mu') Q) := by
  rw [M.bind_def] at h
  cases e : c mu with
  | ok a mu' =>
    rw [e] at h
    exact fun m' H' g rl => h.grow g
  | exc x mu' => rw [e] at h; exact h
  | bad => rw [e] at h; exact h
theorem Post.pure {a : α} {Q : α → Mp → List MO → Hp → Prop} (h : Post K W m H ((Pure.pure a : M α) mu) Q) (rl : Rel K m mu H) : Q a m mu H := h m H .refl rl
theorem Post.wx {W' : Wx} {r : R α} {Q : α → Mp → List MO → Hp → Prop} (h : Post K W m H r Q) (hw : ∀ x m H, W x m H → W' x m H) : Post K W' m H r Q := by
  cases r with
  | ok a mu' => exact h
  | exc x mu' => exact fun m' H' g rl => hw _ _ _ (h m' H' g rl)
  | bad => exact h
end

/-! ### readings -/
def tE (K : PySem.W.Frag) (W : Wx) (r : Env → M D) : TE := fun σ H Q => ∃ env m mu, RepE K m H env σ ∧ Rel K m mu H ∧ Post K W m H (r env mu) fun d m' _ H' => ∀ v, Rep K m' H' d v → Q v H'
def tT (K : PySem.W.Frag) (W : Wx) (r : Env → M Bool) : TT := fun σ H Q => ∃ env m mu, RepE K m H env σ ∧ Rel K m mu H ∧ Post K W m H (r env mu) fun b _ _ H' => Q b H'
def tA (K : PySem.W.Frag) (W : Wx) (r : Env → M (List D)) : TA := fun σ H Q => ∃ env m mu, RepE K m H env σ ∧ Rel K m mu H ∧ Post K W m H (r env mu) fun ds m' _ H' => ∀ vs, Reps K m' H' ds vs → Q vs H'
/-- what a def hands back: a datum, or a list that is new -/
inductive Rv where
  | vl (d : D) | fr (ds : List D)
inductive Fl where
  | nx (e : Env) | rt (rv : Rv) | bk (e : Env) | ct (e : Env)
/-- a list that was not there ahead of H, and that nothing else holds -/
def NewL (K : PySem.W.Frag) (H : Hp) (ds : List D) (m' : Mp) (mu' : List MO) (H' : Hp) (Q : VK) : Prop :=
  ∀ a vs, H a = none → H' a = some (.lst vs) → m'.Out a → Reps K m' H' ds vs → Rel K (m'.add a) (mu' ++ [.lst ds]) H' → Q (.ref a) H'
def RvQ (K : PySem.W.Frag) (H : Hp) (rv : Rv) (m' : Mp) (mu' : List MO) (H' : Hp) (Q : VK) : Prop := match rv with
  | .vl d => ∀ v, Rep K m' H' d v → Q v H'
  | .fr ds => NewL K H ds m' mu' H' Q
theorem Grow.none_of {m m1 : Mp} {H H1 : Hp} (g : Grow m m1 H H1) {a : Addr} (h : H1 a = none) : H a = none := by
  cases e : H a with
  | none => rfl
  | some o =>
    obtain ⟨o', h'⟩ := g.trk a o e
    rw [h] at h'; cases h'
theorem NewL.from {K : PySem.W.Frag} {m m1 m' : Mp} {mu' : List MO} {H H1 H' : Hp} {ds : List D} {Q : VK} (h : NewL K H ds m' mu' H' Q) (g : Grow m m1 H H1) : NewL K H1 ds m' mu' H' Q := fun a vs h1 => h a vs (g.none_of h1)
theorem RvQ.from {K : PySem.W.Frag} {m m1 m' : Mp} {mu' : List MO} {H H1 H' : Hp} {rv : Rv} {Q : VK} (h : RvQ K H rv m' mu' H' Q) (g : Grow m m1 H H1) : RvQ K H1 rv m' mu' H' Q := by
  cases rv with
  | vl d => exact h
  | fr ds => exact NewL.from h g
def FlQ (K : PySem.W.Frag) (D : Ends) (H : Hp) (fl : Fl) (m' : Mp) (mu' : List MO) (H' : Hp) : Prop := match fl with
  | .nx e => ∀ σ', RepE K m' H' e σ' → D.nx σ' H'
  | .rt rv => RvQ K H rv m' mu' H' D.rt
  | .bk e => ∀ σ', RepE K m' H' e σ' → D.bk σ' H'
  | .ct e => ∀ σ', RepE K m' H' e σ' → D.ct σ' H'
def tS (K : PySem.W.Frag) (W : Wx) (r : Env → M Fl) : TS := fun D σ H => ∃ env m mu, RepE K m H env σ ∧ Rel K m mu H ∧ Post K W m H (r env mu) fun fl m' mu' H' => FlQ K D H fl m' mu' H'
def tF (K : PySem.W.Frag) (W : Wx) (r : Env → M (List D)) : TE := fun σ H Q => ∃ env m mu, RepE K m H env σ ∧ Rel K m mu H ∧ Post K W m H (r env mu) fun ds m' mu' H' => NewL K H ds m' mu' H' Q
structure ME (X : Cx) (W : Wx) (e : Expr) (r : Env → M D) : Prop where
  pe : PE X e (tE X.K W r)
structure MF (X : Cx) (W : Wx) (e : Expr) (r : Env → M (List D)) : Prop where
  pe : PE X e (tF X.K W r)
structure MT (X : Cx) (W : Wx) (e : Expr) (r : Env → M Bool) : Prop where
  pt : PT X e (tT X.K W r)
structure MA (X : Cx) (W : Wx) (es : List Expr) (r : Env → M (List D)) : Prop where
  pa : PA X es (tA X.K W r)
structure MS (X : Cx) (W : Wx) (st : Stmt) (r : Env → M Fl) : Prop where
  ps : PS X st (tS X.K W r)
structure MSs (X : Cx) (W : Wx) (st : List Stmt) (r : Env → M Fl) : Prop where
  ps : PSs X st (tS X.K W r)
section
variable {X : Cx} {W : Wx} {e a b : Expr} {pos : Pos}
theorem _root_.L2.PE.imp {t t' : TE} (h : PE X e t) (i : ∀ σ H Q, t' σ H Q → t σ H Q) : PE X e t' := ⟨fun pins s σ H Q I q => h.run pins s σ H Q I (i σ H Q q)⟩
theorem _root_.L2.PT.imp {t t' : TT} (h : PT X e t) (i : ∀ σ H Q, t' σ H Q → t σ H Q) : PT X e t' := ⟨fun pins s σ H Q I q => h.run pins s σ H Q I (i σ H Q q)⟩
theorem _root_.L2.PW.imp {t t' : TT} (h : PW X e t) (i : ∀ σ H Q, t' σ H Q → t σ H Q) : PW X e t' := ⟨fun wh pins s σ H Q I q => h.run wh pins s σ H Q I (i σ H Q q)⟩
theorem _root_.L2.PA.imp {es : List Expr} {t t' : TA} (h : PA X es t) (i : ∀ σ H Q, t' σ H Q → t σ H Q) : PA X es t' := ⟨fun p pins s σ H Q I q => h.run p pins s σ H Q I (i σ H Q q)⟩
theorem _root_.L2.PS.imp {st : Stmt} {t t' : TS} (h : PS X st t) (i : ∀ D σ H, t' D σ H → t D σ H) : PS X st t' := ⟨fun pins s σ H D I q => h.run pins s σ H D I (i D σ H q)⟩
theorem _root_.L2.PSs.imp {st : List Stmt} {t t' : TS} (h : PSs X st t) (i : ∀ D σ H, t' D σ H → t D σ H) : PSs X st t' := ⟨fun pins s σ H D I q => h.run pins s σ H D I (i D σ H q)⟩
theorem _root_.L2.PE.or {t t' : TE} (h : PE X e t) (h' : PE X e t') : PE X e (fun σ H Q => t σ H Q ∨ t' σ H Q) := ⟨fun pins s σ H Q I q => q.elim (h.run pins s σ H Q I) (h'.run pins s σ H Q I)⟩
theorem ME.eq {r r' : Env → M D} (h : ME X W e r) (i : ∀ env mu, r' env mu = r env mu) : ME X W e r' := by
  rw [show r' = r from funext fun env => funext fun mu => i env mu]; exact h

/-! ### names, constants -/
def eVar (i : Nat) : Env → M D := fun env => match env[i]? with
  | some (some d) => pure d
  | _ => bad
def eC (d : D) : Env → M D := fun _ => pure d
theorem me_var {i : Nat} {x : Str} (h : PE X (.Name x pos) (tVar i)) : ME X W (.Name x pos) (eVar i) := ⟨h.imp fun σ H Q ⟨env, m, mu, hE, hR, hp⟩ => by
  cases e : env[i]? with
  | none => unfold eVar at hp; rw [e] at hp; exact hp.elim
  | some o =>
    cases o with
    | none => unfold eVar at hp; rw [e] at hp; exact hp.elim
    | some d =>
      unfold eVar at hp
      rw [e] at hp
      obtain ⟨v, hv, rv⟩ := hE.get i d e
      exact ⟨v, hv, Post.pure hp hR v rv⟩⟩
theorem me_c {d : D} {v : V} (h : PE X e (tC v)) (hr : ∀ m H, Rep X.K m H d v) : ME X W e (eC d) := ⟨h.imp fun σ H Q ⟨env, m, mu, hE, hR, hp⟩ => Post.pure hp hR v (hr m H)⟩
theorem me_int {i j} : ME X W (.Constant (.int i) j pos) (eC (.int i)) := me_c pe_int fun m H => by simp only [Rep]
theorem me_bl {i j} : ME X W (.Constant (.bool i) j pos) (eC (.bl i)) := me_c pe_bl fun m H => by simp only [Rep]
theorem me_non {j} : ME X W (.Constant .none j pos) (eC .non) := me_c pe_non fun m H => by simp only [Rep]
theorem me_str {i j} : ME X W (.Constant (.str i) j pos) (eC (.str i)) := me_c pe_str fun m H => by simp only [Rep]

/-! ### operators by values -/
/-- a reading of two values is a function of two data -/
structure OpM (K : PySem.W.Frag) (W : Wx) (r : R2) (g : D → D → M D) : Prop where
  go : ∀ (x y : D) (v w : V) (m : Mp) (mu : List MO) (H : Hp) (Q : VK), Rel K m mu H → Rep K m H x v → Rep K m H y w → Post K W m H (g x y mu) (fun d m' _ H' => ∀ u, Rep K m' H' d u → Q u H') → r v w H Q
def eBin (g : D → D → M D) (ra rb : Env → M D) : Env → M D := fun env => ra env >>= fun x => rb env >>= fun y => g x y
theorem tE_bin {r : R2} {g : D → D → M D} {ra rb : Env → M D} (o : OpM X.K W r g) : ∀ σ H Q, tE X.K W (eBin g ra rb) σ H Q → tOp r (tE X.K W ra) (tE X.K W rb) σ H Q := fun σ H Q ⟨env, m, mu, hE, hR, hp⟩ =>
  ⟨env, m, mu, hE, hR, (Post.bind hp).mono fun x m1 mu1 H1 g1 R1 hp1 v rv => ⟨env, m1, mu1, hE.grow g1, R1, (Post.bind hp1).mono fun y m2 mu2 H2 g2 R2 hp2 w rw' => o.go x y v w m2 mu2 H2 Q R2 (Rep.grow g2 x v rv) rw' hp2⟩⟩
theorem me_bin {op : Operator} {r : R2} {g : D → D → M D} {ra rb : Env → M D} (ho : OpR X (binaryOp op) r) (o : OpM X.K W r g) (ha : ME X W a ra) (hb : ME X W b rb) : ME X W (.BinOp a op b pos) (eBin g ra rb) :=
  ⟨(pe_op ho ha.pe hb.pe).imp (tE_bin o)⟩
theorem me_cmp {op : CmpOp} {r : R2} {g : D → D → M D} {ra rb : Env → M D} (ho : OpR X (compareOp op) r) (o : OpM X.K W r g) (ha : ME X W a ra) (hb : ME X W b rb) (hm : behindInMarks op b = false) : ME X W (.Compare a [op] [b] pos) (eBin g ra rb) :=
  ⟨(pe_cmpR ho ha.pe hb.pe hm).imp (tE_bin o)⟩
def asB : D → M Bool
  | .bl b => pure b
  | _ => bad
def eB (r : Env → M D) : Env → M Bool := fun env => r env >>= asB
theorem tT_of {r : Env → M D} {t : TE} (h : ∀ σ H Q, tE X.K W r σ H Q → t σ H Q) : ∀ σ H Q, tT X.K W (eB r) σ H Q → t σ H (fun x H' => ∃ k, x = .bl k ∧ Q k H') := fun σ H Q ⟨env, m, mu, hE, hR, hp⟩ =>
  h σ H _ ⟨env, m, mu, hE, hR, (Post.bind hp).mono fun x m1 mu1 H1 g1 R1 hp1 v rv => by
    cases x with
    | bl b =>
      simp only [Rep] at rv
      exact ⟨b, rv, Post.pure hp1 R1⟩
    | _ => exact hp1.elim⟩
theorem mt_cmp {op : CmpOp} {r : R2} {g : D → D → M D} {ra rb : Env → M D} (ho : OpR X (compareOp op) r) (o : OpM X.K W r g) (ha : ME X W a ra) (hb : ME X W b rb) (hm : behindInMarks op b = false) : MT X W (.Compare a [op] [b] pos) (eB (eBin g ra rb)) :=
  ⟨(pt_cmpR ho ha.pe hb.pe hm).imp (tT_of (tE_bin o))⟩
/-- any expression that gives True or False -/
theorem mt_val {r : Env → M D} (h : ME X W e r) (he : ∀ whole, isTrue e X.env whole = (do let v ← whole; standAt e.pos; holding [v] (truthy v)) := by intro _; rfl) : MT X W e (eB r) :=
  ⟨(pt_val h.pe he).imp (tT_of fun _ _ _ q => q)⟩
end
end MP
namespace MP
open PySem L2 PyProof.Rows

def b2n (b : Bool) : Int := if b = true then 1 else 0
mutual
/-- == of data -/
def eqD : D → D → Bool
  | .non, .non => true
  | .bl a, .bl b => a == b
  | .bl a, .int j => b2n a == j
  | .int i, .bl b => i == b2n b
  | .int i, .int j => i == j
  | .str x, .str y => x == y
  | .tup xs, .tup ys => eqDs xs ys
  | .fl xs, .fl ys => eqDs xs ys
  | .fl xs, .ro ys => eqDs xs ys
  | .ro xs, .fl ys => eqDs xs ys
  | .ro xs, .ro ys => eqDs xs ys
  | _, _ => false
def eqDs : List D → List D → Bool
  | [], [] => true
  | x :: xs, y :: ys => eqD x y && eqDs xs ys
  | _, _ => false
end
mutual
/-- == is served -/
def okE : D → Bool
  | .ref _ => false
  | .fd _ _ => false
  | .tup xs => okEs xs
  | .fl xs => okEs xs
  | .ro xs => okEs xs
  | _ => true
def okEs : List D → Bool
  | [] => true
  | x :: xs => okE x && okEs xs
end
mutual
def dep : D → Nat
  | .tup xs => deps xs + 1
  | .fl xs => deps xs + 1
  | .ro xs => deps xs + 1
  | _ => 0
def deps : List D → Nat
  | [] => 0
  | x :: xs => max (dep x) (deps xs)
end
theorem eqDs_range : ∀ (xs ys : List D), (((List.range (min xs.length ys.length)).all fun j => eqD (xs.getD j .non) (ys.getD j .non)) && xs.length == ys.length) = eqDs xs ys
  | [], [] => by simp [eqDs]
  | [], _ :: _ => by simp [eqDs]
  | _ :: _, [] => by simp [eqDs]
  | x :: xs, y :: ys => by
    have ih := eqDs_range xs ys
    rw [List.length_cons, List.length_cons, Nat.succ_min_succ, List.range_succ_eq_map, List.all_cons, List.all_map]
    rw [show eqDs (x :: xs) (y :: ys) = (eqD x y && eqDs xs ys) from by simp only [eqDs], ← ih, Bool.and_assoc]
    congr 2
    rw [Bool.eq_iff_iff]; simp
theorem eqDs_len : ∀ {xs ys : List D}, xs.length ≠ ys.length → eqDs xs ys = false
  | [], [], h => absurd rfl h
  | [], _ :: _, _ => by simp only [eqDs]
  | _ :: _, [], _ => by simp only [eqDs]
  | x :: xs, y :: ys, h => by
    simp only [eqDs]
    rw [eqDs_len (xs := xs) (ys := ys) (fun z => h (by rw [List.length_cons, List.length_cons, z])), Bool.and_false]
theorem eqDs_all {xs ys : List D} (h : xs.length = ys.length) : ((List.range xs.length).all fun j => eqD (xs.getD j .non) (ys.getD j .non)) = eqDs xs ys := by
  rw [← eqDs_range, h, Nat.min_self]
  simp
theorem okEs_get : ∀ {xs : List D} {j : Nat} {d : D}, okEs xs = true → xs[j]? = some d → okE d = true
  | [], _, _, _, e => by simp at e
  | x :: xs, 0, d, h, e => by simp only [okEs, Bool.and_eq_true] at h; simp at e; rw [← e]; exact h.1
  | x :: xs, j + 1, d, h, e => by simp only [okEs, Bool.and_eq_true] at h; exact okEs_get h.2 (by simpa using e)
theorem deps_get : ∀ {xs : List D} {j : Nat} {d : D}, xs[j]? = some d → dep d ≤ deps xs
  | [], _, _, e => by simp at e
  | x :: xs, 0, d, e => by simp at e; rw [← e]; simp only [deps]; exact Nat.le_max_left _ _
  | x :: xs, j + 1, d, e => by simp only [deps]; exact Nat.le_trans (deps_get (xs := xs) (j := j) (by simpa using e)) (Nat.le_max_right _ _)

section
variable {X : Cx} {pins : List (Addr × Obj)} {σ : L2.St} {H : Hp} {s : Shared} {m : Mp}
theorem Inv.list_not_tuple (I : Inv X pins σ H s) {a : Addr} {xs ys : List V} (h : SqL X.K H a xs) (h' : SqT X.K H a ys) : False := by
  obtain ⟨its, r, pl, _⟩ := I.list h
  obtain ⟨its', r', pt, _⟩ := I.tuple h'
  exact SeqAt.ne_of_list_tuple pl.isList (show s.heap.IsTuple a its'.toArray from pt) rfl
mutual
/-- one value's data are equal -/
theorem rep_same (I : Inv X pins σ H s) : ∀ (d e : D) (v : V), Rep X.K m H d v → Rep X.K m H e v → okE d = true → okE e = true → eqD d e = true
  | .non, e, v, h, h', _, ok => by
    simp only [Rep] at h; subst h
    cases e <;> simp only [Rep] at h' <;> first | (simp only [eqD]; done) | (cases h' <;> done) | (obtain ⟨_, _, z, _⟩ := h'; cases z; done) | (obtain ⟨_, z, _⟩ := h'; cases z; done) | (cases h'; simp [eqD]; done)
  | .bl b, e, v, h, h', _, ok => by
    simp only [Rep] at h; subst h
    cases e <;> simp only [Rep] at h' <;> first | (simp only [eqD]; done) | (cases h' <;> done) | (obtain ⟨_, _, z, _⟩ := h'; cases z; done) | (obtain ⟨_, z, _⟩ := h'; cases z; done) | (cases h'; simp [eqD]; done)
  | .int i, e, v, h, h', _, ok => by
    simp only [Rep] at h; subst h
    cases e <;> simp only [Rep] at h' <;> first | (simp only [eqD]; done) | (cases h' <;> done) | (obtain ⟨_, _, z, _⟩ := h'; cases z; done) | (obtain ⟨_, z, _⟩ := h'; cases z; done) | (cases h'; simp [eqD]; done)
  | .str x, e, v, h, h', _, ok => by
    simp only [Rep] at h; subst h
    cases e <;> simp only [Rep] at h' <;> first | (simp only [eqD]; done) | (cases h' <;> done) | (obtain ⟨_, _, z, _⟩ := h'; cases z; done) | (obtain ⟨_, z, _⟩ := h'; cases z; done) | (cases h'; simp [eqD]; done)
  | .tup ds, e, v, h, h', ok, ok' => by
    simp only [Rep] at h
    obtain ⟨a, vs, rfl, hs, hr⟩ := h
    cases e <;> simp only [Rep] at h'
    case tup es =>
      obtain ⟨b, ws, eb, hs', hr'⟩ := h'
      cases eb
      rw [I.tuple_inj hs' hs] at hr'
      simp only [eqD]
      exact reps_same I ds es vs hr hr' (by simpa [okE] using ok) (by simpa [okE] using ok')
    case fl es =>
      obtain ⟨b, ws, eb, hs', _⟩ := h'
      cases eb
      exact (Inv.list_not_tuple I (.of hs') hs).elim
    case ro es =>
      obtain ⟨b, ws, eb, hs', _⟩ := h'
      cases eb
      exact (Inv.list_not_tuple I hs'.sqL hs).elim
    all_goals first | (cases h' <;> done) | (simp [okE] at ok'; done)
  | .fl ds, e, v, h, h', ok, ok' => by
    simp only [Rep] at h
    obtain ⟨a, vs, rfl, hs, hn, hr⟩ := h
    cases e <;> simp only [Rep] at h'
    case tup es =>
      obtain ⟨b, ws, eb, hs', hr'⟩ := h'
      cases eb
      exact (Inv.list_not_tuple I (.of hs) hs').elim
    case fl es =>
      obtain ⟨b, ws, eb, hs', _, hr'⟩ := h'
      cases eb
      rw [I.list_inj (.of hs') (.of hs)] at hr'
      simp only [eqD]
      exact reps_same I ds es vs hr hr' (by simpa [okE] using ok) (by simpa [okE] using ok')
    case ro es =>
      obtain ⟨b, ws, eb, hs', hr'⟩ := h'
      cases eb
      rw [I.list_inj hs'.sqL (.of hs)] at hr'
      simp only [eqD]
      exact reps_same I ds es vs hr hr' (by simpa [okE] using ok) (by simpa [okE] using ok')
    all_goals first | (cases h' <;> done) | (simp [okE] at ok'; done)
  | .ro ds, e, v, h, h', ok, ok' => by
    simp only [Rep] at h
    obtain ⟨a, vs, rfl, hs, hr⟩ := h
    cases e <;> simp only [Rep] at h'
    case tup es =>
      obtain ⟨b, ws, eb, hs', hr'⟩ := h'
      cases eb
      exact (Inv.list_not_tuple I hs.sqL hs').elim
    case fl es =>
      obtain ⟨b, ws, eb, hs', _, hr'⟩ := h'
      cases eb
      rw [I.list_inj (.of hs') hs.sqL] at hr'
      simp only [eqD]
      exact reps_same I ds es vs hr hr' (by simpa [okE] using ok) (by simpa [okE] using ok')
    case ro es =>
      obtain ⟨b, ws, eb, hs', hr'⟩ := h'
      cases eb
      rw [I.list_inj hs'.sqL hs.sqL] at hr'
      simp only [eqD]
      exact reps_same I ds es vs hr hr' (by simpa [okE] using ok) (by simpa [okE] using ok')
    all_goals first | (cases h' <;> done) | (simp [okE] at ok'; done)
  | .fd _ _, _, _, _, _, ok, _ => by simp [okE] at ok
  | .ref _, _, _, _, _, ok, _ => by simp [okE] at ok
theorem reps_same (I : Inv X pins σ H s) : ∀ (ds es : List D) (vs : List V), Reps X.K m H ds vs → Reps X.K m H es vs → okEs ds = true → okEs es = true → eqDs ds es = true
  | [], es, vs, h, h', _, _ => by
    rw [Reps.nil_iff] at h; subst h
    cases es with
    | nil => simp only [eqDs]
    | cons e es => obtain ⟨_, _, z, _⟩ := Reps.cons_iff.mp h'; cases z
  | d :: ds, es, vs, h, h', ok, ok' => by
    obtain ⟨v, r, rfl, h1, h2⟩ := Reps.cons_iff.mp h
    cases es with
    | nil => rw [Reps.nil_iff] at h'; cases h'
    | cons e es =>
      obtain ⟨v', r', z, h1', h2'⟩ := Reps.cons_iff.mp h'
      cases z
      simp only [okEs, Bool.and_eq_true] at ok ok'
      simp only [eqDs, Bool.and_eq_true]
      exact ⟨rep_same I d e _ h1 h1' ok.1 ok'.1, reps_same I ds es _ h2 h2' ok.2 ok'.2⟩
end
end
end MP
namespace MP
open PySem L2 PyProof.Rows
open PySem.SeqAt (EqAt RcAt)
theorem in1_units (A : Around) : A.in1.units = A.units + 1 := rfl
section
variable {X : Cx} {pins : List (Addr × Obj)} {σ : L2.St} {H : Hp} {s : Shared} {m : Mp}
theorem vals_at {vs : List V} {its : List Value} (r : Vals vs its) {j : Nat} (h : j < its.toArray.size) : ∃ v, vs[j]? = some v ∧ RelV v (its.toArray[j]) := by
  have hj : j < its.length := by simpa using h
  have hl := r.length
  have e : vs[j]? = some vs[j] := List.getElem?_eq_getElem (by omega)
  obtain ⟨u, hu, ru⟩ := r.get e
  refine ⟨_, e, ?_⟩
  rw [List.getElem?_eq_getElem hj] at hu
  cases hu
  simpa using ru
theorem getD_at {ds : List D} {j : Nat} {d : D} (h : ds[j]? = some d) : ds.getD j .non = d := by rw [List.getD_eq_getElem?_getD, h]; rfl
theorem Reps.at {K : PySem.W.Frag} {ds : List D} {vs : List V} (r : Reps K m H ds vs) {j : Nat} {v : V} (h : vs[j]? = some v) : ∃ d, ds[j]? = some d ∧ Rep K m H d v := by
  have hj : j < ds.length := by rw [r.length]; exact (List.getElem?_eq_some_iff.mp h).1
  obtain ⟨w, hw, q⟩ := r.get (List.getElem?_eq_getElem hj)
  rw [h] at hw; cases hw
  exact ⟨_, List.getElem?_eq_getElem hj, q⟩
/-- items by items, then the lists -/
theorem eq_lists {a b : Addr} {ds es : List D} {vs ws : List V} {A : Around} (I : Inv X pins σ H s) (ha : SqL X.K H a vs) (hb : SqL X.K H b ws) (ra : Reps X.K m H ds vs) (rb : Reps X.K m H es ws) (ok : okEs ds = true) (ok' : okEs es = true) (hu : A.units + (deps ds + 1) < cLine)
    (ih : ∀ (j : Nat) d e v w u u', ds[j]? = some d → es[j]? = some e → Rep X.K m H d v → Rep X.K m H e w → RelV v u → RelV w u' → EqAt A.in1 s u u' (eqD d e)) :
    RcAt A s (.ref a) (.ref b) (eqDs ds es) ∧ EqAt A s (.ref a) (.ref b) (eqDs ds es) := by
  obtain ⟨its, r, pl, _⟩ := I.list ha
  obtain ⟨its', r', pl', _⟩ := I.list hb
  have h1 := ra.length
  have h2 := rb.length
  have h3 := r.length
  have h4 := r'.length
  have rc : RcAt A s (.ref a) (.ref b) (eqDs ds es) := by
    by_cases hsz : its.toArray.size = its'.toArray.size
    · have hl : ds.length = es.length := by simp only [List.size_toArray] at hsz; omega
      rw [← eqDs_all hl]
      have q := RcAt.lists (A := A) (e := fun j => eqD (ds.getD j .non) (es.getD j .non)) pl.isList pl'.isList hsz (by omega) fun j j1 j2 => by
        obtain ⟨v, hv, rv⟩ := vals_at r j1
        obtain ⟨w, hw, rw'⟩ := vals_at r' j2
        obtain ⟨d, hd, qd⟩ := ra.at hv
        obtain ⟨e, he, qe⟩ := rb.at hw
        show EqAt A.in1 s _ _ (eqD (ds.getD j .non) (es.getD j .non))
        rw [getD_at hd, getD_at he]
        exact ih j d e v w _ _ hd he qd qe rv rw'
      rw [show ds.length = its.toArray.size by simp only [List.size_toArray]; omega]
      exact q
    · rw [eqDs_len (by simp only [List.size_toArray] at hsz; omega)]
      exact RcAt.lists_lengths pl.isList pl'.isList (by simpa using hsz) (by omega)
  refine ⟨rc, ?_⟩
  by_cases z : a = b
  · subst z
    rw [I.list_inj hb ha] at rb
    rw [reps_same I ds es vs ra rb ok ok']
    exact EqAt.same _
  · exact EqAt.of_refs z rc
theorem eq_tuples {a b : Addr} {ds es : List D} {vs ws : List V} {A : Around} (I : Inv X pins σ H s) (ha : SqT X.K H a vs) (hb : SqT X.K H b ws) (ra : Reps X.K m H ds vs) (rb : Reps X.K m H es ws) (ok : okEs ds = true) (ok' : okEs es = true) (hu : A.units + (deps ds + 1) < cLine)
    (ih : ∀ (j : Nat) d e v w u u', ds[j]? = some d → es[j]? = some e → Rep X.K m H d v → Rep X.K m H e w → RelV v u → RelV w u' → EqAt A.in1 s u u' (eqD d e)) :
    RcAt A s (.ref a) (.ref b) (eqDs ds es) ∧ EqAt A s (.ref a) (.ref b) (eqDs ds es) := by
  obtain ⟨its, r, pl, _⟩ := I.tuple ha
  obtain ⟨its', r', pl', _⟩ := I.tuple hb
  have h1 := ra.length
  have h2 := rb.length
  have h3 := r.length
  have h4 := r'.length
  have rc : RcAt A s (.ref a) (.ref b) (eqDs ds es) := by
    rw [← eqDs_range]
    have q := RcAt.tuples (A := A) (e := fun j => eqD (ds.getD j .non) (es.getD j .non)) (show s.heap.IsTuple a its.toArray from pl) (show s.heap.IsTuple b its'.toArray from pl') (by omega) fun j j1 j2 => by
      obtain ⟨v, hv, rv⟩ := vals_at r j1
      obtain ⟨w, hw, rw'⟩ := vals_at r' j2
      obtain ⟨d, hd, qd⟩ := ra.at hv
      obtain ⟨e, he, qe⟩ := rb.at hw
      show EqAt A.in1 s _ _ (eqD (ds.getD j .non) (es.getD j .non))
      rw [getD_at hd, getD_at he]
      exact ih j d e v w _ _ hd he qd qe rv rw'
    have e1 : its.toArray.size = ds.length := by simp only [List.size_toArray]; omega
    have e2 : its'.toArray.size = es.length := by simp only [List.size_toArray]; omega
    rw [e1, e2] at q
    exact q
  refine ⟨rc, ?_⟩
  by_cases z : a = b
  · subst z
    rw [I.tuple_inj hb ha] at rb
    rw [reps_same I ds es vs ra rb ok ok']
    exact EqAt.same _
  · exact EqAt.of_refs z rc
theorem list_at (I : Inv X pins σ H s) {a : Addr} {vs : List V} (h : SqL X.K H a vs) : ∃ its, s.heap.IsList a its := by
  obtain ⟨its, _, pl, _⟩ := I.list h
  exact ⟨_, pl.isList⟩
theorem tuple_at (I : Inv X pins σ H s) {a : Addr} {vs : List V} (h : SqT X.K H a vs) : ∃ its, s.heap.IsTuple a its := by
  obtain ⟨its, _, pl, _⟩ := I.tuple h
  exact ⟨its.toArray, pl⟩
/-- what a datum is, for == -/
inductive Kd (K : PySem.W.Frag) (m : Mp) (H : Hp) : D → Value → Prop where
  | non : Kd K m H .non .none
  | bl (b : Bool) : Kd K m H (.bl b) (.bool b)
  | int (i : Int) (t : Tok) : Kd K m H (.int i) (.int i t)
  | str (x : Str) (t : Tok) : Kd K m H (.str x) (.str x t)
  | tup {ds : List D} {a : Addr} {vs : List V} : SqT K H a vs → Reps K m H ds vs → Kd K m H (.tup ds) (.ref a)
  | fl {ds : List D} {a : Addr} {vs : List V} : SqL K H a vs → Reps K m H ds vs → Kd K m H (.fl ds) (.ref a)
  | ro {ds : List D} {a : Addr} {vs : List V} : SqL K H a vs → Reps K m H ds vs → Kd K m H (.ro ds) (.ref a)
theorem kd_of {K : PySem.W.Frag} {d : D} {v : V} {u : Value} (h : Rep K m H d v) (r : RelV v u) (ok : okE d = true) : Kd K m H d u := by
  cases d <;> simp only [Rep] at h
  case non => subst h; cases r; exact .non
  case bl b => subst h; cases r; exact .bl b
  case int i => subst h; obtain ⟨t, rfl⟩ := r; exact .int i t
  case str x => subst h; obtain ⟨t, rfl⟩ := r; exact .str x t
  case tup ds => obtain ⟨a, vs, rfl, hs, hr⟩ := h; cases r; exact .tup hs hr
  case fl ds => obtain ⟨a, vs, rfl, hs, _, hr⟩ := h; cases r; exact .fl (.of hs) hr
  case ro ds => obtain ⟨a, vs, rfl, hs, hr⟩ := h; cases r; exact .ro hs.sqL hr
  all_goals simp [okE] at ok
mutual
theorem eq_at (I : Inv X pins σ H s) : ∀ (d e : D) (u u' : Value) (A : Around), Kd X.K m H d u → Kd X.K m H e u' → okE d = true → okE e = true → A.units + dep d < cLine → RcAt A s u u' (eqD d e) ∧ EqAt A s u u' (eqD d e)
  | .non, e, u, u', A, h, h', ok, ok', hu => by
    cases h
    cases h' <;> simp only [eqD, dep, Nat.add_zero] at hu ⊢
    case non => exact ⟨RcAt.none_none, EqAt.same _⟩
    case bl b => exact ⟨RcAt.none_bool _, EqAt.none_bool _⟩
    case int i t => exact ⟨RcAt.none_int _ _, EqAt.none_int _ _⟩
    case str x t => exact ⟨RcAt.none_str _ _, EqAt.none_str _ _⟩
    case tup hs hr => obtain ⟨_, p⟩ := tuple_at I hs; exact ⟨RcAt.none_tuple p hu, EqAt.none_tuple p hu⟩
    case fl hs hr => obtain ⟨_, p⟩ := list_at I hs; exact ⟨RcAt.none_list p hu, EqAt.none_list p hu⟩
    case ro hs hr => obtain ⟨_, p⟩ := list_at I hs; exact ⟨RcAt.none_list p hu, EqAt.none_list p hu⟩
  | .bl b, e, u, u', A, h, h', ok, ok', hu => by
    cases h
    cases h' <;> simp only [eqD, dep, Nat.add_zero] at hu ⊢
    case non => exact ⟨RcAt.bool_none _, EqAt.bool_none _⟩
    case bl b => exact ⟨RcAt.bool_bool _ _, EqAt.bool_bool _ _⟩
    case int i t => exact ⟨RcAt.bool_int _ _ _, EqAt.bool_int _ _ _⟩
    case str x t => exact ⟨RcAt.bool_str _ _ _, EqAt.bool_str _ _ _⟩
    case tup hs hr => obtain ⟨_, p⟩ := tuple_at I hs; exact ⟨RcAt.bool_tuple _ p hu, EqAt.bool_tuple _ p hu⟩
    case fl hs hr => obtain ⟨_, p⟩ := list_at I hs; exact ⟨RcAt.bool_list _ p hu, EqAt.bool_list _ p hu⟩
    case ro hs hr => obtain ⟨_, p⟩ := list_at I hs; exact ⟨RcAt.bool_list _ p hu, EqAt.bool_list _ p hu⟩
  | .int i, e, u, u', A, h, h', ok, ok', hu => by
    cases h
    cases h' <;> simp only [eqD, dep, Nat.add_zero] at hu ⊢
    case non => exact ⟨RcAt.int_none _ _, EqAt.int_none _ _⟩
    case bl b => exact ⟨RcAt.int_bool _ _ _, EqAt.int_bool _ _ _⟩
    case int i t => exact ⟨RcAt.int_int _ _ _ _, EqAt.int_int _ _ _ _⟩
    case str x t => exact ⟨RcAt.int_str _ _ _ _, EqAt.int_str _ _ _ _⟩
    case tup hs hr => obtain ⟨_, p⟩ := tuple_at I hs; exact ⟨RcAt.int_tuple _ _ p hu, EqAt.int_tuple _ _ p hu⟩
    case fl hs hr => obtain ⟨_, p⟩ := list_at I hs; exact ⟨RcAt.int_list _ _ p hu, EqAt.int_list _ _ p hu⟩
    case ro hs hr => obtain ⟨_, p⟩ := list_at I hs; exact ⟨RcAt.int_list _ _ p hu, EqAt.int_list _ _ p hu⟩
  | .str x, e, u, u', A, h, h', ok, ok', hu => by
    cases h
    cases h' <;> simp only [eqD, dep, Nat.add_zero] at hu ⊢
    case non => exact ⟨RcAt.str_none _ _, EqAt.str_none _ _⟩
    case bl b => exact ⟨RcAt.str_bool _ _ _, EqAt.str_bool _ _ _⟩
    case int i t => exact ⟨RcAt.str_int _ _ _ _, EqAt.str_int _ _ _ _⟩
    case str x t => exact ⟨RcAt.str_str _ _ _ _, EqAt.str_str _ _ _ _⟩
    case tup hs hr => obtain ⟨_, p⟩ := tuple_at I hs; exact ⟨RcAt.str_tuple _ _ p hu, EqAt.str_tuple _ _ p hu⟩
    case fl hs hr => obtain ⟨_, p⟩ := list_at I hs; exact ⟨RcAt.str_list _ _ p hu, EqAt.str_list _ _ p hu⟩
    case ro hs hr => obtain ⟨_, p⟩ := list_at I hs; exact ⟨RcAt.str_list _ _ p hu, EqAt.str_list _ _ p hu⟩
  | .tup ds, e, u, u', A, h, h', ok, ok', hu => by
    cases h with
    | tup hs hr =>
    have hu0 : A.units < cLine := by omega
    cases h' <;> simp only [eqD]
    case non => obtain ⟨_, p⟩ := tuple_at I hs; exact ⟨RcAt.tuple_none p hu0, EqAt.tuple_none p hu0⟩
    case bl b => obtain ⟨_, p⟩ := tuple_at I hs; exact ⟨RcAt.tuple_bool _ p hu0, EqAt.tuple_bool _ p hu0⟩
    case int i t => obtain ⟨_, p⟩ := tuple_at I hs; exact ⟨RcAt.tuple_int _ _ p hu0, EqAt.tuple_int _ _ p hu0⟩
    case str x t => obtain ⟨_, p⟩ := tuple_at I hs; exact ⟨RcAt.tuple_str _ _ p hu0, EqAt.tuple_str _ _ p hu0⟩
    case tup es b ws hs' hr' =>
      simp only [okE] at ok ok'
      simp only [dep] at hu
      exact eq_tuples I hs hs' hr hr' ok ok' hu fun j d e v w u u' hd he qd qe rv rw' => (eq_ats I ds j d hd e u u' A.in1 (kd_of qd rv (okEs_get ok hd)) (kd_of qe rw' (okEs_get ok' he)) ok (okEs_get ok' he) (by rw [in1_units]; omega))
    case fl es b ws hs' hr' => obtain ⟨_, p⟩ := tuple_at I hs; obtain ⟨_, p'⟩ := list_at I hs'; exact ⟨RcAt.tuple_list p p' hu0, EqAt.tuple_list p p' hu0⟩
    case ro es b ws hs' hr' => obtain ⟨_, p⟩ := tuple_at I hs; obtain ⟨_, p'⟩ := list_at I hs'; exact ⟨RcAt.tuple_list p p' hu0, EqAt.tuple_list p p' hu0⟩
  | .fl ds, e, u, u', A, h, h', ok, ok', hu => by
    cases h with
    | fl hs hr =>
    have hu0 : A.units < cLine := by omega
    simp only [dep] at hu
    cases h' <;> simp only [eqD]
    case non => obtain ⟨_, p⟩ := list_at I hs; exact ⟨RcAt.list_none p hu0, EqAt.list_none p hu0⟩
    case bl b => obtain ⟨_, p⟩ := list_at I hs; exact ⟨RcAt.list_bool _ p hu0, EqAt.list_bool _ p hu0⟩
    case int i t => obtain ⟨_, p⟩ := list_at I hs; exact ⟨RcAt.list_int _ _ p hu0, EqAt.list_int _ _ p hu0⟩
    case str x t => obtain ⟨_, p⟩ := list_at I hs; exact ⟨RcAt.list_str _ _ p hu0, EqAt.list_str _ _ p hu0⟩
    case tup es b ws hs' hr' => obtain ⟨_, p⟩ := list_at I hs; obtain ⟨_, p'⟩ := tuple_at I hs'; exact ⟨RcAt.list_tuple p p' hu0, EqAt.list_tuple p p' hu0⟩
    case fl es b ws hs' hr' =>
      simp only [okE] at ok ok'
      exact eq_lists I hs hs' hr hr' ok ok' hu fun j d e v w u u' hd he qd qe rv rw' => (eq_ats I ds j d hd e u u' A.in1 (kd_of qd rv (okEs_get ok hd)) (kd_of qe rw' (okEs_get ok' he)) ok (okEs_get ok' he) (by rw [in1_units]; omega))
    case ro es b ws hs' hr' =>
      simp only [okE] at ok ok'
      exact eq_lists I hs hs' hr hr' ok ok' hu fun j d e v w u u' hd he qd qe rv rw' => (eq_ats I ds j d hd e u u' A.in1 (kd_of qd rv (okEs_get ok hd)) (kd_of qe rw' (okEs_get ok' he)) ok (okEs_get ok' he) (by rw [in1_units]; omega))
  | .ro ds, e, u, u', A, h, h', ok, ok', hu => by
    cases h with
    | ro hs hr =>
    have hu0 : A.units < cLine := by omega
    simp only [dep] at hu
    cases h' <;> simp only [eqD]
    case non => obtain ⟨_, p⟩ := list_at I hs; exact ⟨RcAt.list_none p hu0, EqAt.list_none p hu0⟩
    case bl b => obtain ⟨_, p⟩ := list_at I hs; exact ⟨RcAt.list_bool _ p hu0, EqAt.list_bool _ p hu0⟩
    case int i t => obtain ⟨_, p⟩ := list_at I hs; exact ⟨RcAt.list_int _ _ p hu0, EqAt.list_int _ _ p hu0⟩
    case str x t => obtain ⟨_, p⟩ := list_at I hs; exact ⟨RcAt.list_str _ _ p hu0, EqAt.list_str _ _ p hu0⟩
    case tup es b ws hs' hr' => obtain ⟨_, p⟩ := list_at I hs; obtain ⟨_, p'⟩ := tuple_at I hs'; exact ⟨RcAt.list_tuple p p' hu0, EqAt.list_tuple p p' hu0⟩
    case fl es b ws hs' hr' =>
      simp only [okE] at ok ok'
      exact eq_lists I hs hs' hr hr' ok ok' hu fun j d e v w u u' hd he qd qe rv rw' => (eq_ats I ds j d hd e u u' A.in1 (kd_of qd rv (okEs_get ok hd)) (kd_of qe rw' (okEs_get ok' he)) ok (okEs_get ok' he) (by rw [in1_units]; omega))
    case ro es b ws hs' hr' =>
      simp only [okE] at ok ok'
      exact eq_lists I hs hs' hr hr' ok ok' hu fun j d e v w u u' hd he qd qe rv rw' => (eq_ats I ds j d hd e u u' A.in1 (kd_of qd rv (okEs_get ok hd)) (kd_of qe rw' (okEs_get ok' he)) ok (okEs_get ok' he) (by rw [in1_units]; omega))
  | .fd _ _, _, _, _, _, _, _, ok, _, _ => by simp [okE] at ok
  | .ref _, _, _, _, _, _, _, ok, _, _ => by simp [okE] at ok
theorem eq_ats (I : Inv X pins σ H s) : ∀ (ds : List D) (j : Nat) (d : D), ds[j]? = some d → ∀ (e : D) (u u' : Value) (A : Around), Kd X.K m H d u → Kd X.K m H e u' → okEs ds = true → okE e = true → A.units + deps ds < cLine → EqAt A s u u' (eqD d e)
  | [], _, _, h => by simp at h
  | x :: xs, 0, d, h => fun e u u' A k k' ok ok' hu => by
    simp only [okEs, Bool.and_eq_true] at ok
    simp only [deps] at hu
    have : x = d := by simpa using h
    subst this
    exact (eq_at I x e u u' A k k' ok.1 ok' (by have := Nat.le_max_left (dep x) (deps xs); omega)).2
  | x :: xs, j + 1, d, h => fun e u u' A k k' ok ok' hu => by
    simp only [okEs, Bool.and_eq_true] at ok
    simp only [deps] at hu
    exact eq_ats I xs j d (by simpa using h) e u u' A k k' ok.2 ok' (by have := Nat.le_max_right (dep x) (deps xs); omega)
end
end
end MP
namespace MP
open PySem L2 PyProof.Rows

/-- the list at a place -/
def atL (mu : List MO) (n : Nat) : R (List D) := match mu[n]? with
  | some (.lst xs) => .ok xs mu
  | _ => .bad
theorem atL_lst {mu : List MO} {n : Nat} {xs : List D} (h : mu[n]? = some (.lst xs)) : atL mu n = .ok xs mu := by unfold atL; rw [h]
theorem atL_dk {mu : List MO} {n : Nat} {kvs : List (Key × D)} (h : mu[n]? = some (.dk kvs)) : atL mu n = .bad := by unfold atL; rw [h]
/-- the items of a list, as it stands -/
def rdL : D → M (List D)
  | .fl xs => pure xs
  | .ro xs => pure xs
  | .ref n => fun mu => atL mu n
  | _ => bad
/-- of a list that is not locked -/
def rdM : D → M (List D)
  | .fl xs => pure xs
  | .ref n => fun mu => atL mu n
  | _ => bad
section
variable {K : PySem.W.Frag} {W : Wx} {m m' : Mp} {H H' : Hp} {mu : List MO}
theorem rdL_ok {d : D} {v : V} {Q : List D → Mp → List MO → Hp → Prop} (rl : Rel K m mu H) (h : Rep K m H d v) (hp : Post K W m H (rdL d mu) Q) : ∃ a xs vs, v = .ref a ∧ SqL K H a vs ∧ Reps K m H xs vs ∧ rdL d mu = .ok xs mu ∧ Q xs m mu H := by
  cases d <;> simp only [Rep] at h
  case fl ds => obtain ⟨a, vs, rfl, hs, _, hr⟩ := h; exact ⟨a, ds, vs, rfl, .of hs, hr, rfl, hp m H .refl rl⟩
  case ro ds => obtain ⟨a, vs, rfl, hs, hr⟩ := h; exact ⟨a, ds, vs, rfl, hs.sqL, hr, rfl, hp m H .refl rl⟩
  case ref n =>
    obtain ⟨a, rfl, hm⟩ := h
    obtain ⟨o, ho, hr⟩ := rl.at' hm
    cases o with
    | lst xs =>
      obtain ⟨vs, hH, hr⟩ := hr
      have e : rdL (.ref n) mu = .ok xs mu := atL_lst ho
      rw [e] at hp
      exact ⟨a, xs, vs, rfl, .of hH, hr, e, hp m H .refl rl⟩
    | dk kvs =>
      have e : rdL (.ref n) mu = .bad := atL_dk ho
      rw [e] at hp
      exact hp.elim
  all_goals exact (show False from hp).elim
theorem rdM_ok {d : D} {v : V} {Q : List D → Mp → List MO → Hp → Prop} (rl : Rel K m mu H) (h : Rep K m H d v) (hp : Post K W m H (rdM d mu) Q) : ∃ a xs vs, v = .ref a ∧ H a = some (.lst vs) ∧ Reps K m H xs vs ∧ rdM d mu = .ok xs mu ∧ Q xs m mu H := by
  cases d <;> simp only [Rep] at h
  case fl ds => obtain ⟨a, vs, rfl, hs, _, hr⟩ := h; exact ⟨a, ds, vs, rfl, hs, hr, rfl, hp m H .refl rl⟩
  case ref n =>
    obtain ⟨a, rfl, hm⟩ := h
    obtain ⟨o, ho, hr⟩ := rl.at' hm
    cases o with
    | lst xs =>
      obtain ⟨vs, hH, hr⟩ := hr
      have e : rdM (.ref n) mu = .ok xs mu := atL_lst ho
      rw [e] at hp
      exact ⟨a, xs, vs, rfl, hH, hr, e, hp m H .refl rl⟩
    | dk kvs =>
      have e : rdM (.ref n) mu = .bad := atL_dk ho
      rw [e] at hp
      exact hp.elim
  all_goals exact (show False from hp).elim
theorem Post.ok_of {α : Type} {a : α} {r : R α} {Q : α → Mp → List MO → Hp → Prop} {mu' : List MO} (e : r = .ok a mu') (hp : Post K W m H r Q) (rl : Rel K m mu' H) : Q a m mu' H := by
  rw [e] at hp; exact hp m H .refl rl
/-- a new list outside of the small heap -/
theorem new_fl {ds : List D} {vs : List V} {p : Addr} (rl : Rel K m mu H) (hr : Reps K m H ds vs) (hp : H p = none) : Grow m m H (upd H p (.lst vs)) ∧ Rel K m mu (upd H p (.lst vs)) ∧ Rep K m (upd H p (.lst vs)) (.fl ds) (.ref p) := by
  have g : Grow m m H (upd H p (.lst vs)) := .laid hp
  exact ⟨g, rl.laid hp, by simp only [Rep]; exact ⟨p, vs, rfl, upd_same, rl.free hp, Reps.grow g ds vs hr⟩⟩
theorem new_tup {ds : List D} {vs : List V} {p : Addr} (rl : Rel K m mu H) (hr : Reps K m H ds vs) (hp : H p = none) : Grow m m H (upd H p (.tup vs)) ∧ Rel K m mu (upd H p (.tup vs)) ∧ Rep K m (upd H p (.tup vs)) (.tup ds) (.ref p) := by
  have g : Grow m m H (upd H p (.tup vs)) := .laid hp
  exact ⟨g, rl.laid hp, by simp only [Rep]; exact ⟨p, vs, rfl, .of upd_same, Reps.grow g ds vs hr⟩⟩
end

/-! ### views -/
def toI : D → M Int
  | .int i => pure i
  | _ => bad
def toS : D → M Str
  | .str x => pure x
  | _ => bad
def toT : D → M (List D)
  | .tup xs => pure xs
  | _ => bad
def toB : D → M Bool
  | .bl b => pure b
  | _ => bad
section
variable {K : PySem.W.Frag} {W : Wx} {m m' : Mp} {H H' : Hp} {mu : List MO}
theorem toI_ok {d : D} {v : V} {Q : Int → Mp → List MO → Hp → Prop} (rl : Rel K m mu H) (h : Rep K m H d v) (hp : Post K W m H (toI d mu) Q) : ∃ i, d = .int i ∧ v = .int i ∧ Q i m mu H := by
  cases d
  case int i => simp only [Rep] at h; exact ⟨i, rfl, h, hp m H .refl rl⟩
  all_goals exact (show False from hp).elim
theorem toS_ok {d : D} {v : V} {Q : Str → Mp → List MO → Hp → Prop} (rl : Rel K m mu H) (h : Rep K m H d v) (hp : Post K W m H (toS d mu) Q) : ∃ i, d = .str i ∧ v = .str i ∧ Q i m mu H := by
  cases d
  case str i => simp only [Rep] at h; exact ⟨i, rfl, h, hp m H .refl rl⟩
  all_goals exact (show False from hp).elim
theorem toB_ok {d : D} {v : V} {Q : Bool → Mp → List MO → Hp → Prop} (rl : Rel K m mu H) (h : Rep K m H d v) (hp : Post K W m H (toB d mu) Q) : ∃ i, d = .bl i ∧ v = .bl i ∧ Q i m mu H := by
  cases d
  case bl i => simp only [Rep] at h; exact ⟨i, rfl, h, hp m H .refl rl⟩
  all_goals exact (show False from hp).elim
theorem toT_ok {d : D} {v : V} {Q : List D → Mp → List MO → Hp → Prop} (rl : Rel K m mu H) (h : Rep K m H d v) (hp : Post K W m H (toT d mu) Q) : ∃ xs a vs, d = .tup xs ∧ v = .ref a ∧ SqT K H a vs ∧ Reps K m H xs vs ∧ Q xs m mu H := by
  cases d
  case tup xs => simp only [Rep] at h; obtain ⟨a, vs, e, hs, hr⟩ := h; exact ⟨xs, a, vs, rfl, e, hs, hr, hp m H .refl rl⟩
  all_goals exact (show False from hp).elim
/-- a condition that the data must meet -/
def need (c : Prop) [Decidable c] : M Unit := if c then pure () else bad
theorem need_ok {c : Prop} [Decidable c] {Q : Unit → Mp → List MO → Hp → Prop} (rl : Rel K m mu H) (hp : Post K W m H (need c mu) Q) : c ∧ Q () m mu H := by
  by_cases h : c
  · unfold need at hp
    rw [if_pos h] at hp
    exact ⟨h, hp m H .refl rl⟩
  · unfold need at hp
    rw [if_neg h] at hp
    exact (show False from hp).elim
end

/-! ### arithmetic, +, comparisons -/
def gII (c : Int → Int → Prop) [∀ i j, Decidable (c i j)] (f : Int → Int → D) (x y : D) : M D := do
  let i ← toI x
  let j ← toI y
  need (c i j)
  pure (f i j)
def gCat (x y : D) : M D := do
  let xs ← rdM x
  let ys ← rdM y
  need (xs.length + ys.length ≤ sizeLine)
  pure (.fl (xs ++ ys))
def gAdd : D → D → M D
  | .int i, y => do
    let j ← toI y
    pure (.int (i + j))
  | .str x, y => do
    let z ← toS y
    need (x.length + z.length ≤ sizeLine)
    pure (.str (x ++ z))
  | .tup xs, y => do
    let ys ← toT y
    need (xs.length + ys.length ≤ sizeLine)
    pure (.tup (xs ++ ys))
  | x, y => gCat x y
def cAny (_ _ : Int) : Prop := True
instance (i j : Int) : Decidable (cAny i j) := isTrue trivial
instance (i j : Int) : Decidable (CMulW i j) := inferInstanceAs (Decidable (_ < _))
instance (i j : Int) : Decidable (CDivW i j) := inferInstanceAs (Decidable (_ ∧ _))
instance (i j : Int) : Decidable (CPow i j) := inferInstanceAs (Decidable (_ ∧ _ ∧ _))
def cPos (_ j : Int) : Prop := 0 < j
instance (i j : Int) : Decidable (cPos i j) := inferInstanceAs (Decidable (_ < _))
def gSub : D → D → M D := gII cAny fun i j => .int (i - j)
def cMul (i j : Int) : Prop := CMul i j ∨ CMulW i j
instance (i j : Int) : Decidable (CMul i j) := inferInstanceAs (Decidable ((-(2 ^ 64) < i ∧ i < 2 ^ 64) ∨ (-(2 ^ 64) < j ∧ j < 2 ^ 64)))
instance (i j : Int) : Decidable (cMul i j) := inferInstanceAs (Decidable (CMul i j ∨ CMulW i j))
def gMul : D → D → M D := gII cMul fun i j => .int (i * j)
def gDiv : D → D → M D := gII CDivW fun i j => .int (i / j)
def gMod : D → D → M D := gII cPos fun i j => .int (i % j)
def gPow : D → D → M D := gII CPow fun i j => .int (i ^ j.toNat)
def gCmp (f : Int → Int → Bool) : D → D → M D := gII cAny fun i j => .bl (f i j)
def ltS (x y : Str) : Bool := decide (x.cps.toList < y.cps.toList)
def gLt : D → D → M D
  | .str x, y => do
    let z ← toS y
    pure (.bl (ltS x z))
  | x, y => gCmp (fun i j => decide (i < j)) x y
def gEq (neg : Bool) (x y : D) : M D := do
  need (okE x = true ∧ okE y = true ∧ dep x < 64)
  pure (.bl (eqD x y != neg))
def isN : D → Bool
  | .non => true
  | _ => false
def gIsN (neg : Bool) (x y : D) : M D := do
  need (isN y = true)
  pure (.bl (isN x != neg))
section
variable {X : Cx} {W : Wx}
theorem opm_ii {c : Int → Int → Prop} [∀ i j, Decidable (c i j)] {f : Int → Int → D} {fv : Int → Int → V} (hf : ∀ i j m H, Rep X.K m H (f i j) (fv i j)) : OpM X.K W (rI c fv) (gII c f) := ⟨fun x y v w m mu H Q rl hx hy hp => by
  obtain ⟨i, rfl, rfl, hp⟩ := toI_ok rl hx (Post.bind hp)
  obtain ⟨j, rfl, rfl, hp⟩ := toI_ok rl hy (Post.bind hp)
  obtain ⟨hc, hp⟩ := need_ok rl (Post.bind hp)
  exact ⟨i, j, rfl, rfl, hc, Post.pure hp rl _ (hf i j _ _)⟩⟩
theorem rI0_any {g : Int → Int → V} {x y : V} {H : Hp} {Q : VK} (h : rI cAny g x y H Q) : rI0 g x y H Q := let ⟨i, j, e, e', _, q⟩ := h; ⟨i, j, e, e', q⟩
theorem OpM.imp {K : PySem.W.Frag} {r r' : R2} {g : D → D → M D} (o : OpM K W r g) (h : ∀ x y H Q, r x y H Q → r' x y H Q) : OpM K W r' g := ⟨fun x y v w m mu H Q rl hx hy hp => h _ _ _ _ (o.go x y v w m mu H Q rl hx hy hp)⟩
theorem opm_sub : OpM X.K W (rI0 fun i j => .int (i - j)) gSub := (opm_ii (c := cAny) fun i j m H => by simp only [Rep]).imp fun _ _ _ _ => rI0_any
def rMulM : R2 := fun x y H Q => rI CMul (fun i j => .int (i * j)) x y H Q ∨ rI CMulW (fun i j => .int (i * j)) x y H Q
theorem op_mulM : OpR X (binaryOp .Mult) rMulM := op_mul.or op_mulW
theorem opm_mul : OpM X.K W rMulM gMul := (opm_ii (c := cMul) (fv := fun i j => .int (i * j)) fun i j m H => by simp only [Rep]).imp fun _ _ _ _ ⟨i, j, e, e', c, q⟩ => c.elim (fun c => .inl ⟨i, j, e, e', c, q⟩) (fun c => .inr ⟨i, j, e, e', c, q⟩)
theorem opm_div : OpM X.K W (rI CDivW fun i j => .int (i / j)) gDiv := opm_ii fun i j m H => by simp only [Rep]
theorem opm_mod : OpM X.K W (rI (fun _ j => 0 < j) fun i j => .int (i % j)) gMod := opm_ii (c := cPos) fun i j m H => by simp only [Rep]
theorem opm_pow : OpM X.K W (rI CPow fun i j => .int (i ^ j.toNat)) gPow := opm_ii fun i j m H => by simp only [Rep]
theorem opm_cmp {f : Int → Int → Bool} : OpM X.K W (rI0 fun i j => .bl (f i j)) (gCmp f) := (opm_ii (c := cAny) fun i j m H => by simp only [Rep]).imp fun _ _ _ _ => rI0_any
def rLtM : R2 := fun x y H Q => rI0 (fun i j => .bl (decide (i < j))) x y H Q ∨ ∃ i j, x = .str i ∧ y = .str j ∧ Q (.bl (decide (i.cps.toList < j.cps.toList))) H
theorem op_ltM : OpR X (compareOp .Lt) rLtM := op_lt.or op_lt_str
theorem opm_lt : OpM X.K W rLtM gLt := ⟨fun x y v w m mu H Q rl hx hy hp => by
  cases x
  case str x =>
    obtain ⟨z, rfl, rfl, hp⟩ := toS_ok rl hy (Post.bind hp)
    simp only [Rep] at hx
    exact .inr ⟨x, z, hx, rfl, Post.pure hp rl _ (by simp only [Rep, ltS])⟩
  all_goals exact .inl (opm_cmp.go _ y v w m mu H Q rl hx hy hp)⟩
/-- + of anything -/
def rAddM (K : PySem.W.Frag) : R2 := fun x y H Q => rI0 (fun i j => .int (i + j)) x y H Q ∨ (∃ i j, x = .str i ∧ y = .str j ∧ i.length + j.length ≤ sizeLine ∧ Q (.str (i ++ j)) H) ∨ rCatA K x y H Q ∨ rCat x y H Q
theorem op_addM : OpR X (binaryOp .Add) (rAddM X.K) := op_add.or (op_add_str.or (op_catA.or op_cat))
theorem opm_addL {x y : D} {v w : V} {m : Mp} {mu : List MO} {H : Hp} {Q : VK} (rl : Rel X.K m mu H) (hx : Rep X.K m H x v) (hy : Rep X.K m H y w)
    (hp : Post X.K W m H (gCat x y mu) (fun d m' _ H' => ∀ u, Rep X.K m' H' d u → Q u H')) : rAddM X.K v w H Q := by
  obtain ⟨a, xs, vs, rfl, ha, ra, ea, hp⟩ := rdM_ok rl hx (Post.bind hp)
  obtain ⟨b, ys, ws, rfl, hb, rb, eb, hp⟩ := rdM_ok rl hy (Post.bind hp)
  obtain ⟨c, hp⟩ := need_ok rl (Post.bind hp)
  refine .inr (.inr (.inr ⟨a, b, vs, ws, rfl, rfl, ha, hb, by rw [← ra.length, ← rb.length]; exact c, fun p hn => ?_⟩))
  obtain ⟨g, R', rp⟩ := new_fl rl (ra.append rb) hn
  exact hp m _ g R' _ rp
theorem opm_add : OpM X.K W (rAddM X.K) gAdd := ⟨fun x y v w m mu H Q rl hx hy hp => by
  cases x
  case int i =>
    obtain ⟨j, rfl, rfl, hp⟩ := toI_ok rl hy (Post.bind hp)
    simp only [Rep] at hx
    exact .inl ⟨i, j, hx, rfl, Post.pure hp rl _ (by simp only [Rep])⟩
  case str x =>
    obtain ⟨z, rfl, rfl, hp⟩ := toS_ok rl hy (Post.bind hp)
    obtain ⟨c, hp⟩ := need_ok rl (Post.bind hp)
    simp only [Rep] at hx
    exact .inr (.inl ⟨x, z, hx, rfl, c, Post.pure hp rl _ (by simp only [Rep])⟩)
  case tup xs =>
    obtain ⟨ys, b, ws, rfl, rfl, hb, rb, hp⟩ := toT_ok rl hy (Post.bind hp)
    obtain ⟨c, hp⟩ := need_ok rl (Post.bind hp)
    simp only [Rep] at hx
    obtain ⟨a, vs, rfl, ha, ra⟩ := hx
    refine .inr (.inr (.inl ⟨a, b, vs, ws, rfl, rfl, ha, hb, by rw [← ra.length, ← rb.length]; exact c, fun e => ?_, fun _ e => ?_, fun _ _ p hn => ?_⟩))
    · subst e
      have z : xs = [] := List.eq_nil_of_length_eq_zero (by rw [ra.length]; rfl)
      subst z
      exact Post.pure hp rl _ (by simp only [Rep]; exact ⟨b, ws, rfl, hb, rb⟩)
    · subst e
      have z : ys = [] := List.eq_nil_of_length_eq_zero (by rw [rb.length]; rfl)
      subst z
      rw [List.append_nil] at hp
      exact Post.pure hp rl _ (by simp only [Rep]; exact ⟨a, vs, rfl, ha, ra⟩)
    · obtain ⟨g, R', rp⟩ := new_tup rl (ra.append rb) hn
      exact hp m _ g R' _ rp
  all_goals exact opm_addL rl hx hy hp⟩
/-- ==, != of data -/
def rEqM (neg : Bool) (K : PySem.W.Frag) : R2 := fun x y H Q => ∃ d e m, Rep K m H d x ∧ Rep K m H e y ∧ okE d = true ∧ okE e = true ∧ dep d < 64 ∧ Q (.bl (eqD d e != neg)) H
theorem op_eqM (hu : X.A.units + 64 < cLine) : OpR X (compareOp .Eq) (rEqM false X.K) := by
  intro pins s σ H x y v u Q I rx ry h
  obtain ⟨d, e, m, hd, he, ok, ok', hdep, q⟩ := h
  have z := (eq_at I d e v u X.A (kd_of hd rx ok) (kd_of he ry ok') ok ok' (by omega)).1
  rw [Bool.bne_false] at q
  exact z X.prog X.w _ _ ⟨.bl _, H, I, rfl, q⟩
theorem opm_eq {neg : Bool} : OpM X.K W (rEqM neg X.K) (gEq neg) := ⟨fun x y v w m mu H Q rl hx hy hp => by
  obtain ⟨⟨h1, h2, h3⟩, hp⟩ := need_ok rl (Post.bind hp)
  exact ⟨x, y, m, hx, hy, h1, h2, h3, Post.pure hp rl _ (by simp only [Rep])⟩⟩
def rIsNM (neg : Bool) : R2 := fun x y H Q => y = .non ∧ Q (.bl (decide (x = .non) != neg)) H
theorem op_isNM : OpR X (compareOp .Is) (rIsNM false) := fun pins s σ H x y v u Q I rx ry h => op_isN pins s σ H x y v u Q I rx ry ⟨h.1, by have := h.2; rw [Bool.bne_false] at this; exact this⟩
theorem op_notNM : OpR X (compareOp .IsNot) (rIsNM true) := fun pins s σ H x y v u Q I rx ry h => op_notN pins s σ H x y v u Q I rx ry ⟨h.1, by have := h.2; rw [Bool.bne_true] at this; exact this⟩
theorem isN_eq {K : PySem.W.Frag} {m : Mp} {H : Hp} {d : D} {v : V} (h : Rep K m H d v) : isN d = decide (v = .non) := by
  cases d <;> simp only [Rep] at h
  case non => subst h; rfl
  case bl => subst h; rfl
  case int => subst h; rfl
  case str => subst h; rfl
  all_goals (obtain ⟨a, h⟩ := h)
  case tup => obtain ⟨vs, rfl, _⟩ := h; rfl
  case fl => obtain ⟨vs, rfl, _⟩ := h; rfl
  case ro => obtain ⟨vs, rfl, _⟩ := h; rfl
  case fd => obtain ⟨vs, rfl, _⟩ := h; rfl
  case ref => obtain ⟨rfl, _⟩ := h; rfl
theorem opm_isN {neg : Bool} : OpM X.K W (rIsNM neg) (gIsN neg) := ⟨fun x y v w m mu H Q rl hx hy hp => by
  obtain ⟨h1, hp⟩ := need_ok rl (Post.bind hp)
  rw [isN_eq hy] at h1
  rw [isN_eq hx] at hp
  exact ⟨of_decide_eq_true h1, Post.pure hp rl _ (by simp only [Rep])⟩⟩
end
end MP
namespace MP
open PySem L2 PyProof.Rows
open PySem.SeqAt (EqAt RcAt)
mutual
/-- the one form of equal data -/
def nf : D → D
  | .non => .non
  | .bl b => .int (b2n b)
  | .int i => .int i
  | .str x => .str x
  | .tup xs => .tup (nfs xs)
  | .fl xs => .fl (nfs xs)
  | .ro xs => .fl (nfs xs)
  | .fd ks xs => .fd ks xs
  | .ref n => .ref n
def nfs : List D → List D
  | [] => []
  | x :: xs => nf x :: nfs xs
end
mutual
theorem eqD_nf : ∀ (d e : D), okE d = true → okE e = true → (eqD d e = true ↔ nf d = nf e)
  | .non, e, _, h => by cases e <;> simp [eqD, nf, okE] at h ⊢
  | .bl b, e, _, h => by cases e <;> simp [eqD, nf, okE] at h ⊢ <;> (cases b <;> simp [b2n]) <;> rename_i c <;> cases c <;> simp
  | .int i, e, _, h => by cases e <;> simp [eqD, nf, okE] at h ⊢
  | .str x, e, _, h => by cases e <;> simp [eqD, nf, okE] at h ⊢
  | .tup xs, e, h, h' => by
    simp only [okE] at h
    cases e <;> simp only [eqD, nf, D.tup.injEq, reduceCtorEq, Bool.false_eq_true]
    case tup ys => exact eqDs_nf xs ys h (by simpa [okE] using h')
  | .fl xs, e, h, h' => by
    simp only [okE] at h
    cases e <;> simp only [eqD, nf, D.fl.injEq, reduceCtorEq, Bool.false_eq_true]
    case fl ys => exact eqDs_nf xs ys h (by simpa [okE] using h')
    case ro ys => exact eqDs_nf xs ys h (by simpa [okE] using h')
  | .ro xs, e, h, h' => by
    simp only [okE] at h
    cases e <;> simp only [eqD, nf, D.fl.injEq, reduceCtorEq, Bool.false_eq_true]
    case fl ys => exact eqDs_nf xs ys h (by simpa [okE] using h')
    case ro ys => exact eqDs_nf xs ys h (by simpa [okE] using h')
  | .fd _ _, _, h, _ => by simp [okE] at h
  | .ref _, _, h, _ => by simp [okE] at h
theorem eqDs_nf : ∀ (ds es : List D), okEs ds = true → okEs es = true → (eqDs ds es = true ↔ nfs ds = nfs es)
  | [], [], _, _ => by simp [eqDs, nfs]
  | [], _ :: _, _, _ => by simp [eqDs, nfs]
  | _ :: _, [], _, _ => by simp [eqDs, nfs]
  | d :: ds, e :: es, h, h' => by
    simp only [okEs, Bool.and_eq_true] at h h'
    simp only [eqDs, nfs, Bool.and_eq_true, List.cons.injEq]
    rw [eqD_nf d e h.1 h'.1, eqDs_nf ds es h.2 h'.2]
end
theorem eqD_trans {d e x : D} (hd : okE d = true) (he : okE e = true) (hx : okE x = true) (h : eqD d e = true) : eqD d x = eqD e x := by
  have h1 := (eqD_nf d e hd he).mp h
  rw [Bool.eq_iff_iff, eqD_nf d x hd hx, eqD_nf e x he hx, h1]

/-! ### in -/
def inS (x y : Str) : Bool := !(Builtin.Str.occurrences y x 0 y.length 1).isEmpty
/-- the items of a list or a tuple -/
def rdQ : D → M (List D)
  | .tup xs => pure xs
  | d => rdL d
def gIn (neg : Bool) : D → D → M D
  | x, .str y => do
    let z ← toS x
    pure (.bl (inS z y != neg))
  | x, y => do
    let ys ← rdQ y
    need (okE x = true ∧ okEs ys = true ∧ deps ys < 60)
    pure (.bl ((ys.any fun y => eqD y x) != neg))
section
variable {X : Cx} {W : Wx} {K : PySem.W.Frag} {m m' : Mp} {H H' : Hp} {mu : List MO}
theorem rdQ_ok {d : D} {v : V} {Q : List D → Mp → List MO → Hp → Prop} (rl : Rel K m mu H) (h : Rep K m H d v) (hp : Post K W m H (rdQ d mu) Q) : ∃ a xs vs, v = .ref a ∧ (SqL K H a vs ∨ SqT K H a vs) ∧ Reps K m H xs vs ∧ Q xs m mu H := by
  cases d
  case tup xs =>
    simp only [Rep] at h
    obtain ⟨a, vs, e, hs, hr⟩ := h
    exact ⟨a, xs, vs, e, .inr hs, hr, hp m H .refl rl⟩
  all_goals (
    obtain ⟨a, xs, vs, e, hs, hr, _, q⟩ := rdL_ok rl h hp
    exact ⟨a, xs, vs, e, .inl hs, hr, q⟩)
def rInM (neg : Bool) (K : PySem.W.Frag) : R2 := fun x y H Q => (∃ i j, x = .str i ∧ y = .str j ∧ Q (.bl (inS i j != neg)) H) ∨
  ∃ d p ds vs m, y = .ref p ∧ (SqL K H p vs ∨ SqT K H p vs) ∧ Rep K m H d x ∧ Reps K m H ds vs ∧ okE d = true ∧ okEs ds = true ∧ deps ds < 60 ∧ Q (.bl ((ds.any fun y => eqD y d) != neg)) H
open Classical in
theorem in_fun {pins : List (Addr × Obj)} {σ : L2.St} {s : Shared} {A : Around} (I : Inv X pins σ H s) {d : D} {x : V} {v : Value} {ds : List D} {vs : List V} {its : List Value} (hx : Rep X.K m H d x) (rx : RelV x v) (hr : Reps X.K m H ds vs) (r : Vals vs its)
    (ok : okE d = true) (oks : okEs ds = true) (hu : A.units + deps ds < cLine) : ∃ e : Value → Bool, (∀ u ∈ its, EqAt A s u v (e u)) ∧ its.any e = ds.any fun y => eqD y d := by
  have kx := kd_of hx rx ok
  have hl := hr.length
  have hl' := r.length
  have key : ∀ (i : Nat) (u : Value) (y : D), its[i]? = some u → ds[i]? = some y → Kd X.K m H y u ∧ okE y = true ∧ EqAt A s u v (eqD y d) := fun i u y hi hy => by
    obtain ⟨w, hw, qw⟩ := hr.get hy
    obtain ⟨u', hu', ru⟩ := r.get hw
    rw [hi] at hu'; cases hu'
    have oky := okEs_get oks hy
    have k := kd_of qw ru oky
    exact ⟨k, oky, eq_ats I ds i y hy d u v A k kx oks ok hu⟩
  have uniq : ∀ (i j : Nat) (u : Value) (y z : D), its[i]? = some u → its[j]? = some u → ds[i]? = some y → ds[j]? = some z → eqD y d = eqD z d := fun i j u y z hi hj hy hz => by
    obtain ⟨w, hw, qw⟩ := hr.get hy
    obtain ⟨w', hw', qw'⟩ := hr.get hz
    obtain ⟨u1, hu1, r1⟩ := r.get hw
    obtain ⟨u2, hu2, r2⟩ := r.get hw'
    rw [hi] at hu1; cases hu1
    rw [hj] at hu2; cases hu2
    have ew : w = w' := r1.inj r2
    subst ew
    have oky := okEs_get oks hy
    have okz := okEs_get oks hz
    exact eqD_trans oky okz ok (rep_same I y z w qw qw' oky okz)
  refine ⟨fun u => decide (∃ (i : Nat) (y : D), its[i]? = some u ∧ ds[i]? = some y ∧ eqD y d = true), fun u hm => ?_, ?_⟩
  · obtain ⟨i, hi⟩ := List.mem_iff_getElem?.mp hm
    have hil : i < ds.length := by have := (List.getElem?_eq_some_iff.mp hi).1; omega
    have hy : ds[i]? = some ds[i] := List.getElem?_eq_getElem hil
    have e : decide (∃ (i : Nat) (y : D), its[i]? = some u ∧ ds[i]? = some y ∧ eqD y d = true) = eqD ds[i] d := by
      rw [Bool.eq_iff_iff, decide_eq_true_iff]
      constructor
      · rintro ⟨j, z, hj, hz, q⟩
        rw [uniq i j u _ z hi hj hy hz]; exact q
      · intro q
        exact ⟨i, _, hi, hy, q⟩
    show EqAt A s u v (decide _)
    rw [e]
    exact (key i u _ hi hy).2.2
  · rw [Bool.eq_iff_iff, List.any_eq_true, List.any_eq_true]
    constructor
    · rintro ⟨u, hm, q⟩
      obtain ⟨i, y, hi, hy, q⟩ := of_decide_eq_true q
      exact ⟨y, List.mem_of_getElem? hy, q⟩
    · rintro ⟨y, hm, q⟩
      obtain ⟨i, hy⟩ := List.mem_iff_getElem?.mp hm
      have hil : i < its.length := by have := (List.getElem?_eq_some_iff.mp hy).1; omega
      exact ⟨its[i], List.getElem_mem hil, decide_eq_true ⟨i, y, List.getElem?_eq_getElem hil, hy, q⟩⟩
theorem op_inM (hu : X.A.units + 64 < cLine) : OpR X (compareOp .In) (rInM false X.K) := by
  intro pins s σ H x y v u Q I rx ry h
  rcases h with ⟨i, j, rfl, rfl, q⟩ | ⟨d, p, ds, vs, m, rfl, hq, hx, hr, ok, oks, hd, q⟩
  · rw [Bool.bne_false] at q
    exact op_in_str pins s σ H _ _ v u Q I rx ry ⟨i, j, rfl, rfl, q⟩
  · rw [Bool.bne_false] at q
    cases ry
    rcases hq with hq | hq
    · obtain ⟨its, r, pl, hz⟩ := I.list hq
      obtain ⟨e, he, ha⟩ := in_fun (A := X.A.in1) I hx rx hr r ok oks (by rw [in1_units]; omega)
      refine SeqAt.in_listAt e pl.isList (fun w hw => he w (by simpa using hw)) ⟨.bl _, H, I, rfl, ?_⟩
      rw [show its.toArray.any e = its.any e by simp, ha]
      exact q
    · obtain ⟨its, r, pl, hz⟩ := I.tuple hq
      obtain ⟨e, he, ha⟩ := in_fun (A := X.A.in1) I hx rx hr r ok oks (by rw [in1_units]; omega)
      refine SeqAt.in_tupleAt e pl (fun w hw => he w (by simpa using hw)) ⟨.bl _, H, I, rfl, ?_⟩
      rw [show its.toArray.any e = its.any e by simp, ha]
      exact q
theorem op_notInM (hu : X.A.units + 64 < cLine) : OpR X (compareOp .NotIn) (rInM true X.K) := by
  intro pins s σ H x y v u Q I rx ry h
  rcases h with ⟨i, j, rfl, rfl, q⟩ | ⟨d, p, ds, vs, m, rfl, hq, hx, hr, ok, oks, hd, q⟩
  · rw [Bool.bne_true] at q
    exact L2.op_notIn_str pins s σ H _ _ v u Q I rx ry ⟨i, j, rfl, rfl, q⟩
  · rw [Bool.bne_true] at q
    cases ry
    rcases hq with hq | hq
    · obtain ⟨its, r, pl, hz⟩ := I.list hq
      obtain ⟨e, he, ha⟩ := in_fun (A := X.A.in1) I hx rx hr r ok oks (by rw [in1_units]; omega)
      refine SeqAt.notIn_listAt e pl.isList (fun w hw => he w (by simpa using hw)) ⟨.bl _, H, I, rfl, ?_⟩
      rw [show its.toArray.any e = its.any e by simp, ha]
      exact q
    · obtain ⟨its, r, pl, hz⟩ := I.tuple hq
      obtain ⟨e, he, ha⟩ := in_fun (A := X.A.in1) I hx rx hr r ok oks (by rw [in1_units]; omega)
      refine SeqAt.notIn_tupleAt e pl (fun w hw => he w (by simpa using hw)) ⟨.bl _, H, I, rfl, ?_⟩
      rw [show its.toArray.any e = its.any e by simp, ha]
      exact q
theorem opm_in {neg : Bool} : OpM X.K W (rInM neg X.K) (gIn neg) := ⟨fun x y v w m mu H Q rl hx hy hp => by
  have seq : ∀ y, Rep X.K m H y w → Post X.K W m H ((do let ys ← rdQ y; need (okE x = true ∧ okEs ys = true ∧ deps ys < 60); pure (D.bl ((ys.any fun y => eqD y x) != neg))) mu) (fun d m' _ H' => ∀ u, Rep X.K m' H' d u → Q u H') → rInM neg X.K v w H Q := fun y hy hp => by
    obtain ⟨a, ys, vs, rfl, hs, hr, hp⟩ := rdQ_ok rl hy (Post.bind hp)
    obtain ⟨⟨h1, h2, h3⟩, hp⟩ := need_ok rl (Post.bind hp)
    exact .inr ⟨x, a, ys, vs, m, rfl, hs, hx, hr, h1, h2, h3, Post.pure hp rl _ (by simp only [Rep])⟩
  cases y
  case str y =>
    obtain ⟨z, rfl, rfl, hp⟩ := toS_ok rl hx (Post.bind hp)
    simp only [Rep] at hy
    exact .inl ⟨z, y, rfl, hy, Post.pure hp rl _ (by simp only [Rep])⟩
  all_goals exact seq _ hy hp⟩
open PySem.SeqAt (RcNeAt) in
theorem ne_lists {pins : List (Addr × Obj)} {σ : L2.St} {s : Shared} {a b : Addr} {ds es : List D} {vs ws : List V} {A : Around} (I : Inv X pins σ H s) (ha : SqL X.K H a vs) (hb : SqL X.K H b ws) (ra : Reps X.K m H ds vs) (rb : Reps X.K m H es ws) (ok : okEs ds = true) (hu : A.units + (deps ds + 1) < cLine)
    (ih : ∀ (j : Nat) d e v w u u', ds[j]? = some d → es[j]? = some e → Rep X.K m H d v → Rep X.K m H e w → RelV v u → RelV w u' → EqAt A.in1 s u u' (eqD d e)) : RcNeAt A s (.ref a) (.ref b) (!eqDs ds es) := by
  obtain ⟨its, r, pl, _⟩ := I.list ha
  obtain ⟨its', r', pl', _⟩ := I.list hb
  have h1 := ra.length
  have h2 := rb.length
  have h3 := r.length
  have h4 := r'.length
  by_cases hsz : its.toArray.size = its'.toArray.size
  · have hl : ds.length = es.length := by simp only [List.size_toArray] at hsz; omega
    rw [← eqDs_all hl]
    have q := RcNeAt.lists (A := A) (e := fun j => eqD (ds.getD j .non) (es.getD j .non)) pl.isList pl'.isList hsz (by omega) fun j j1 j2 => by
      obtain ⟨v, hv, rv⟩ := vals_at r j1
      obtain ⟨w, hw, rw'⟩ := vals_at r' j2
      obtain ⟨d, hd, qd⟩ := ra.at hv
      obtain ⟨e, he, qe⟩ := rb.at hw
      show EqAt A.in1 s _ _ (eqD (ds.getD j .non) (es.getD j .non))
      rw [getD_at hd, getD_at he]
      exact ih j d e v w _ _ hd he qd qe rv rw'
    rw [show ds.length = its.toArray.size by simp only [List.size_toArray]; omega]
    exact q
  · rw [eqDs_len (by simp only [List.size_toArray] at hsz; omega)]
    exact RcNeAt.lists_lengths pl.isList pl'.isList (by simpa using hsz) (by omega)
open PySem.SeqAt (RcNeAt) in
theorem ne_tuples {pins : List (Addr × Obj)} {σ : L2.St} {s : Shared} {a b : Addr} {ds es : List D} {vs ws : List V} {A : Around} (I : Inv X pins σ H s) (ha : SqT X.K H a vs) (hb : SqT X.K H b ws) (ra : Reps X.K m H ds vs) (rb : Reps X.K m H es ws) (ok : okEs ds = true) (hu : A.units + (deps ds + 1) < cLine)
    (ih : ∀ (j : Nat) d e v w u u', ds[j]? = some d → es[j]? = some e → Rep X.K m H d v → Rep X.K m H e w → RelV v u → RelV w u' → EqAt A.in1 s u u' (eqD d e)) : RcNeAt A s (.ref a) (.ref b) (!eqDs ds es) := by
  obtain ⟨its, r, pl, _⟩ := I.tuple ha
  obtain ⟨its', r', pl', _⟩ := I.tuple hb
  have h1 := ra.length
  have h2 := rb.length
  have h3 := r.length
  have h4 := r'.length
  rw [← eqDs_range]
  have q := RcNeAt.tuples (A := A) (e := fun j => eqD (ds.getD j .non) (es.getD j .non)) (show s.heap.IsTuple a its.toArray from pl) (show s.heap.IsTuple b its'.toArray from pl') (by omega) fun j j1 j2 => by
    obtain ⟨v, hv, rv⟩ := vals_at r j1
    obtain ⟨w, hw, rw'⟩ := vals_at r' j2
    obtain ⟨d, hd, qd⟩ := ra.at hv
    obtain ⟨e, he, qe⟩ := rb.at hw
    show EqAt A.in1 s _ _ (eqD (ds.getD j .non) (es.getD j .non))
    rw [getD_at hd, getD_at he]
    exact ih j d e v w _ _ hd he qd qe rv rw'
  have e1 : its.toArray.size = ds.length := by simp only [List.size_toArray]; omega
  have e2 : its'.toArray.size = es.length := by simp only [List.size_toArray]; omega
  rw [e1, e2] at q
  exact q
open PySem.SeqAt (RcNeAt) in
theorem ne_at {pins : List (Addr × Obj)} {σ : L2.St} {s : Shared} (I : Inv X pins σ H s) (d e : D) (u u' : Value) (A : Around) (h : Kd X.K m H d u) (h' : Kd X.K m H e u') (ok : okE d = true) (ok' : okE e = true) (hu : A.units + dep d < cLine) : RcNeAt A s u u' (!eqD d e) := by
  have hu0 : A.units < cLine := by omega
  cases h with
  | non =>
    cases h' <;> simp only [eqD, Bool.not_false, Bool.not_true]
    case non => exact RcNeAt.none_none
    case bl c => exact RcNeAt.none_bool _
    case int j t2 => exact RcNeAt.none_int _ _
    case str y t2 => exact RcNeAt.none_str _ _
    case tup es b ws hs' hr' => obtain ⟨_, p⟩ := tuple_at I hs'; exact RcNeAt.none_tuple p hu0
    case fl es b ws hs' hr' => obtain ⟨_, p⟩ := list_at I hs'; exact RcNeAt.none_list p hu0
    case ro es b ws hs' hr' => obtain ⟨_, p⟩ := list_at I hs'; exact RcNeAt.none_list p hu0
  | bl b =>
    cases h' <;> simp only [eqD, Bool.not_false, Bool.not_true]
    case non => exact RcNeAt.bool_none _
    case bl c => exact RcNeAt.bool_bool _ _
    case int j t2 => exact RcNeAt.bool_int _ _ _
    case str y t2 => exact RcNeAt.bool_str _ _ _
    case tup es b ws hs' hr' => obtain ⟨_, p⟩ := tuple_at I hs'; exact RcNeAt.bool_tuple _ p hu0
    case fl es b ws hs' hr' => obtain ⟨_, p⟩ := list_at I hs'; exact RcNeAt.bool_list _ p hu0
    case ro es b ws hs' hr' => obtain ⟨_, p⟩ := list_at I hs'; exact RcNeAt.bool_list _ p hu0
  | int i t =>
    cases h' <;> simp only [eqD, Bool.not_false, Bool.not_true]
    case non => exact RcNeAt.int_none _ _
    case bl c => exact RcNeAt.int_bool _ _ _
    case int j t2 => exact RcNeAt.int_int _ _ _ _
    case str y t2 => exact RcNeAt.int_str _ _ _ _
    case tup es b ws hs' hr' => obtain ⟨_, p⟩ := tuple_at I hs'; exact RcNeAt.int_tuple _ _ p hu0
    case fl es b ws hs' hr' => obtain ⟨_, p⟩ := list_at I hs'; exact RcNeAt.int_list _ _ p hu0
    case ro es b ws hs' hr' => obtain ⟨_, p⟩ := list_at I hs'; exact RcNeAt.int_list _ _ p hu0
  | str x t =>
    cases h' <;> simp only [eqD, Bool.not_false, Bool.not_true]
    case non => exact RcNeAt.str_none _ _
    case bl c => exact RcNeAt.str_bool _ _ _
    case int j t2 => exact RcNeAt.str_int _ _ _ _
    case str y t2 => exact RcNeAt.str_str _ _ _ _
    case tup es b ws hs' hr' => obtain ⟨_, p⟩ := tuple_at I hs'; exact RcNeAt.str_tuple _ _ p hu0
    case fl es b ws hs' hr' => obtain ⟨_, p⟩ := list_at I hs'; exact RcNeAt.str_list _ _ p hu0
    case ro es b ws hs' hr' => obtain ⟨_, p⟩ := list_at I hs'; exact RcNeAt.str_list _ _ p hu0
  | @tup ds a vs hs hr =>
    simp only [okE] at ok
    simp only [dep] at hu
    obtain ⟨_, p⟩ := tuple_at I hs
    cases h' <;> simp only [eqD, Bool.not_false, Bool.not_true]
    case non => exact RcNeAt.tuple_none p hu0
    case bl c => exact RcNeAt.tuple_bool _ p hu0
    case int j t2 => exact RcNeAt.tuple_int _ _ p hu0
    case str y t2 => exact RcNeAt.tuple_str _ _ p hu0
    case tup es b ws hs' hr' => simp only [okE] at ok'; exact ne_tuples I hs hs' hr hr' ok hu fun j d e v w u u' hd he qd qe rv rw' => (eq_ats I ds j d hd e u u' A.in1 (kd_of qd rv (okEs_get ok hd)) (kd_of qe rw' (okEs_get ok' he)) ok (okEs_get ok' he) (by rw [in1_units]; omega))
    case fl es b ws hs' hr' => obtain ⟨_, p'⟩ := list_at I hs'; exact RcNeAt.tuple_list p p' hu0
    case ro es b ws hs' hr' => obtain ⟨_, p'⟩ := list_at I hs'; exact RcNeAt.tuple_list p p' hu0
  | @fl ds a vs hs hr =>
    simp only [okE] at ok
    simp only [dep] at hu
    obtain ⟨_, p⟩ := list_at I hs
    cases h' <;> simp only [eqD, Bool.not_false, Bool.not_true]
    case non => exact RcNeAt.list_none p hu0
    case bl c => exact RcNeAt.list_bool _ p hu0
    case int j t2 => exact RcNeAt.list_int _ _ p hu0
    case str y t2 => exact RcNeAt.list_str _ _ p hu0
    case tup es b ws hs' hr' => obtain ⟨_, p'⟩ := tuple_at I hs'; exact RcNeAt.list_tuple p p' hu0
    case fl es b ws hs' hr' => simp only [okE] at ok'; exact ne_lists I hs hs' hr hr' ok hu fun j d e v w u u' hd he qd qe rv rw' => (eq_ats I ds j d hd e u u' A.in1 (kd_of qd rv (okEs_get ok hd)) (kd_of qe rw' (okEs_get ok' he)) ok (okEs_get ok' he) (by rw [in1_units]; omega))
    case ro es b ws hs' hr' => simp only [okE] at ok'; exact ne_lists I hs hs' hr hr' ok hu fun j d e v w u u' hd he qd qe rv rw' => (eq_ats I ds j d hd e u u' A.in1 (kd_of qd rv (okEs_get ok hd)) (kd_of qe rw' (okEs_get ok' he)) ok (okEs_get ok' he) (by rw [in1_units]; omega))
  | @ro ds a vs hs hr =>
    simp only [okE] at ok
    simp only [dep] at hu
    obtain ⟨_, p⟩ := list_at I hs
    cases h' <;> simp only [eqD, Bool.not_false, Bool.not_true]
    case non => exact RcNeAt.list_none p hu0
    case bl c => exact RcNeAt.list_bool _ p hu0
    case int j t2 => exact RcNeAt.list_int _ _ p hu0
    case str y t2 => exact RcNeAt.list_str _ _ p hu0
    case tup es b ws hs' hr' => obtain ⟨_, p'⟩ := tuple_at I hs'; exact RcNeAt.list_tuple p p' hu0
    case fl es b ws hs' hr' => simp only [okE] at ok'; exact ne_lists I hs hs' hr hr' ok hu fun j d e v w u u' hd he qd qe rv rw' => (eq_ats I ds j d hd e u u' A.in1 (kd_of qd rv (okEs_get ok hd)) (kd_of qe rw' (okEs_get ok' he)) ok (okEs_get ok' he) (by rw [in1_units]; omega))
    case ro es b ws hs' hr' => simp only [okE] at ok'; exact ne_lists I hs hs' hr hr' ok hu fun j d e v w u u' hd he qd qe rv rw' => (eq_ats I ds j d hd e u u' A.in1 (kd_of qd rv (okEs_get ok hd)) (kd_of qe rw' (okEs_get ok' he)) ok (okEs_get ok' he) (by rw [in1_units]; omega))
theorem op_neM (hu : X.A.units + 64 < cLine) : OpR X (compareOp .NotEq) (rEqM true X.K) := by
  intro pins s σ H x y v u Q I rx ry h
  obtain ⟨d, e, m, hd, he, ok, ok', hdep, q⟩ := h
  have z := ne_at I d e v u X.A (kd_of hd rx ok) (kd_of he ry ok') ok ok' (by omega)
  rw [Bool.bne_true] at q
  exact z X.prog X.w _ _ ⟨.bl _, H, I, rfl, q⟩
end
end MP
namespace MP
open PySem L2 PyProof.Rows
/-! ### expressions made of expressions -/
section
variable {X : Cx} {W : Wx} {e a b : Expr} {es : List Expr} {pos : Pos}
def eMap (f : D → M D) (r : Env → M D) : Env → M D := fun env => r env >>= f
def gNeg (x : D) : M D := do
  let i ← toI x
  pure (.int (-i))
theorem me_neg {r : Env → M D} (h : ME X W a r) : ME X W (.UnaryOp .USub a pos) (eMap gNeg r) := ⟨(pe_un un_neg h.pe).imp fun σ H Q ⟨env, m, mu, hE, hR, hp⟩ =>
  ⟨env, m, mu, hE, hR, (Post.bind hp).mono fun x m1 mu1 H1 g1 R1 hp v rv => by
    obtain ⟨i, rfl, rfl, hp⟩ := toI_ok R1 rv (Post.bind hp)
    exact ⟨i, rfl, Post.pure hp R1 _ (by simp only [Rep])⟩⟩⟩
def gNot (x : D) : M D := do
  let b ← toB x
  pure (.bl (!b))
theorem me_not {r : Env → M D} (h : ME X W a r) : ME X W (.UnaryOp .Not a pos) (eMap gNot r) := ⟨(pe_not h.pe).imp fun σ H Q ⟨env, m, mu, hE, hR, hp⟩ =>
  ⟨env, m, mu, hE, hR, (Post.bind hp).mono fun x m1 mu1 H1 g1 R1 hp v rv => by
    obtain ⟨i, rfl, rfl, hp⟩ := toB_ok R1 rv (Post.bind hp)
    exact ⟨i, rfl, Post.pure hp R1 _ (by simp only [Rep])⟩⟩⟩
theorem tT_bind {α : Type} {r : Env → M Bool} {t : TT} {f : Bool → Env → M Bool} (h : ∀ σ H Q, tT X.K W r σ H Q → t σ H Q) {σ : L2.St} {H : Hp} {Q : Bool → Hp → Prop} {Q' : Bool → Hp → Prop}
    (hq : tT X.K W (fun env => r env >>= fun b => f b env) σ H Q) (hn : ∀ b H1, tT X.K W (f b) σ H1 Q → Q' b H1) : t σ H Q' := by
  obtain ⟨env, m, mu, hE, hR, hp⟩ := hq
  exact h σ H _ ⟨env, m, mu, hE, hR, (Post.bind hp).mono fun b m1 mu1 H1 g1 R1 hp => hn b H1 ⟨env, m1, mu1, hE.grow g1, R1, hp⟩⟩
theorem tT_pure {c : Bool} {σ : L2.St} {H : Hp} {Q : Bool → Hp → Prop} (h : tT X.K W (fun _ => pure c) σ H Q) : Q c H := by
  obtain ⟨env, m, mu, hE, hR, hp⟩ := h
  exact Post.pure hp hR
def bNot (r : Env → M Bool) : Env → M Bool := fun env => r env >>= fun b => pure (!b)
def bAnd (r r' : Env → M Bool) : Env → M Bool := fun env => r env >>= fun b => if b = true then r' env else pure false
def bOr (r r' : Env → M Bool) : Env → M Bool := fun env => r env >>= fun b => if b = true then pure true else r' env
theorem mt_not {r : Env → M Bool} (h : MT X W a r) : MT X W (.UnaryOp .Not a pos) (bNot r) :=
  ⟨(pt_not h.pt).imp fun σ H Q hq => tT_bind (α := Bool) (f := fun b _ => pure (!b)) (fun _ _ _ q => q) hq fun b H1 q => tT_pure q⟩
/-- and, or as tests -/
structure MW (X : Cx) (W : Wx) (e : Expr) (r : Env → M Bool) : Prop where
  pw : PW X e (tT X.K W r)
theorem MW.mt {r : Env → M Bool} (h : MW X W e r) : MT X W e r := ⟨h.pw.pt⟩
theorem mw_and1 {r : Env → M Bool} (h : MT X W a r) : MW X W (.BoolOp .And [a] pos) r := ⟨pw_and1 h.pt⟩
theorem mw_or1 {r : Env → M Bool} (h : MT X W a r) : MW X W (.BoolOp .Or [a] pos) r := ⟨pw_or1 h.pt⟩
theorem mw_and {r r' : Env → M Bool} (h : MT X W a r) (h' : MW X W (.BoolOp .And (b :: es) pos) r') : MW X W (.BoolOp .And (a :: b :: es) pos) (bAnd r r') :=
  ⟨(pw_and h.pt h'.pw).imp fun σ H Q hq => tT_bind (α := Bool) (f := fun b env => if b = true then r' env else pure false) (fun _ _ _ q => q) hq fun b H1 q => by
    cases b
    · exact tT_pure q
    · exact q⟩
theorem mw_or {r r' : Env → M Bool} (h : MT X W a r) (h' : MW X W (.BoolOp .Or (b :: es) pos) r') : MW X W (.BoolOp .Or (a :: b :: es) pos) (bOr r r') :=
  ⟨(pw_or h.pt h'.pw).imp fun σ H Q hq => tT_bind (α := Bool) (f := fun b env => if b = true then pure true else r' env) (fun _ _ _ q => q) hq fun b H1 q => by
    cases b
    · exact q
    · exact tT_pure q⟩
/-- .. as values, of bools -/
def eAnd (r r' : Env → M D) : Env → M D := fun env => r env >>= fun x => toB x >>= fun b => if b = true then r' env else pure (.bl false)
def eOr (r r' : Env → M D) : Env → M D := fun env => r env >>= fun x => toB x >>= fun b => if b = true then pure (.bl true) else r' env
theorem me_one {op} {r : Env → M D} (h : ME X W a r) : ME X W (.BoolOp op [a] pos) r := ⟨pe_one h.pe⟩
theorem me_and {r r' : Env → M D} (h : ME X W a r) (h' : ME X W (.BoolOp .And (b :: es) pos) r') : ME X W (.BoolOp .And (a :: b :: es) pos) (eAnd r r') := ⟨(pe_and h.pe h'.pe).imp fun σ H Q ⟨env, m, mu, hE, hR, hp⟩ =>
  ⟨env, m, mu, hE, hR, (Post.bind hp).mono fun x m1 mu1 H1 g1 R1 hp v rv => by
    obtain ⟨c, rfl, rfl, hp⟩ := toB_ok R1 rv (Post.bind hp)
    refine ⟨c, rfl, ?_⟩
    cases c
    · exact Post.pure hp R1 _ (by simp only [Rep])
    · exact ⟨env, m1, mu1, hE.grow g1, R1, hp⟩⟩⟩
theorem me_or {r r' : Env → M D} (h : ME X W a r) (h' : ME X W (.BoolOp .Or (b :: es) pos) r') : ME X W (.BoolOp .Or (a :: b :: es) pos) (eOr r r') := ⟨(pe_or h.pe h'.pe).imp fun σ H Q ⟨env, m, mu, hE, hR, hp⟩ =>
  ⟨env, m, mu, hE, hR, (Post.bind hp).mono fun x m1 mu1 H1 g1 R1 hp v rv => by
    obtain ⟨c, rfl, rfl, hp⟩ := toB_ok R1 rv (Post.bind hp)
    refine ⟨c, rfl, ?_⟩
    cases c
    · exact ⟨env, m1, mu1, hE.grow g1, R1, hp⟩
    · exact Post.pure hp R1 _ (by simp only [Rep])⟩⟩
def eIf {α : Type} (t : Env → M Bool) (r r' : Env → M α) : Env → M α := fun env => t env >>= fun b => if b = true then r env else r' env
theorem me_ifExp {c : Expr} {t : Env → M Bool} {r r' : Env → M D} (hc : MT X W c t) (h : ME X W a r) (h' : ME X W b r') : ME X W (.IfExp c a b pos) (eIf t r r') := ⟨(pe_ifExp hc.pt h.pe h'.pe).imp fun σ H Q ⟨env, m, mu, hE, hR, hp⟩ =>
  ⟨env, m, mu, hE, hR, (Post.bind hp).mono fun b m1 mu1 H1 g1 R1 hp => by
    cases b
    · exact ⟨env, m1, mu1, hE.grow g1, R1, hp⟩
    · exact ⟨env, m1, mu1, hE.grow g1, R1, hp⟩⟩⟩

/-! ### argument lists, displays -/
def aNil : Env → M (List D) := fun _ => pure []
def aCons (r : Env → M D) (rs : Env → M (List D)) : Env → M (List D) := fun env => r env >>= fun x => rs env >>= fun xs => pure (x :: xs)
theorem ma_nil : MA X W [] aNil := ⟨pa_nil.imp fun σ H Q ⟨env, m, mu, hE, hR, hp⟩ => Post.pure hp hR [] (Reps.nil_iff.mpr rfl)⟩
theorem ma_cons {r : Env → M D} {rs : Env → M (List D)} (h : ME X W e r) (hs : MA X W es rs) (he : starEach (e :: es) X.env = (false, eval e X.env) :: starEach es X.env := by rfl) : MA X W (e :: es) (aCons r rs) :=
  ⟨(pa_cons h.pe hs.pa he).imp fun σ H Q ⟨env, m, mu, hE, hR, hp⟩ =>
    ⟨env, m, mu, hE, hR, (Post.bind hp).mono fun x m1 mu1 H1 g1 R1 hp v rv => ⟨env, m1, mu1, hE.grow g1, R1, (Post.bind hp).mono fun xs m2 mu2 H2 g2 R2 hp vs rvs =>
      Post.pure hp R2 (v :: vs) (Reps.cons_iff.mpr ⟨v, vs, rfl, Rep.grow g2 x v rv, rvs⟩)⟩⟩⟩
def gTup (xs : List D) : M D := do
  need (xs.length ≤ sizeLine)
  pure (.tup xs)
def aThen (f : List D → M D) (rs : Env → M (List D)) : Env → M D := fun env => rs env >>= f
theorem me_tup {x1} {rs : Env → M (List D)} (h : MA X W es rs) : ME X W (.Tuple es x1 pos) (aThen gTup rs) := ⟨(pe_tup h.pa).imp fun σ H Q ⟨env, m, mu, hE, hR, hp⟩ =>
  ⟨env, m, mu, hE, hR, (Post.bind hp).mono fun xs m1 mu1 H1 g1 R1 hp vs rv => by
    obtain ⟨c, hp⟩ := need_ok R1 (Post.bind hp)
    refine ⟨by rw [← rv.length]; exact c, fun p hn => ?_⟩
    obtain ⟨g, R', rp⟩ := new_tup R1 rv hn
    exact hp m1 _ g R' _ rp⟩⟩
/-- a new object is taken into the small heap -/
theorem Rel.adopt {K : PySem.W.Frag} {m : Mp} {H H' : Hp} {mu : List MO} (R : Rel K m mu H) {a : Addr} {o : MO} (hn : m.Out a) (hg : Grow m (m.add a) H H') (hk : ∀ b u, H b = some u → H' b = some u) (ho : RepO K (m.add a) H' a o) : Rel K (m.add a) (mu ++ [o]) H' := by
  refine ⟨by show (m.ad ++ [a]).length = _; rw [List.length_append, List.length_append, R.len]; rfl, ?_, fun b hb => hg.trk b _ (R.nos b hb).choose_spec, fun b hb => ?_, fun n ob b h1 h2 => ?_⟩
  · show (m.ad ++ [a]).Nodup
    rw [List.nodup_append]
    refine ⟨R.nd, by simp, fun x hx y hy => ?_⟩
    rw [List.mem_singleton.mp hy]
    rintro rfl
    exact hn.1 hx
  · rcases List.mem_append.mp (show b ∈ m.ad ++ [a] from hb) with z | z
    · exact R.dj b z
    · rw [List.mem_singleton.mp z]; exact hn.2
  · have h2 : (m.ad ++ [a])[n]? = some b := h2
    by_cases h : n < mu.length
    · rw [List.getElem?_append_left h] at h1
      rw [List.getElem?_append_left (by rw [R.len]; exact h)] at h2
      exact (R.obj n ob b h1 h2).grow hg fun u q => hk b u q
    · by_cases hl : n = mu.length
      · subst hl
        rw [List.getElem?_append_right (Nat.le_refl _), Nat.sub_self] at h1
        rw [List.getElem?_append_right (by rw [R.len]; exact Nat.le_refl _), ← R.len, Nat.sub_self] at h2
        cases h1
        cases h2
        exact ho
      · rw [List.getElem?_eq_none (by rw [List.length_append]; simp only [List.length_cons, List.length_nil]; omega)] at h1
        cases h1
theorem add_get {K : PySem.W.Frag} {m : Mp} {H : Hp} {mu : List MO} (R : Rel K m mu H) {a : Addr} : (m.add a).ad[mu.length]? = some a := by
  show (m.ad ++ [a])[mu.length]? = some a
  rw [List.getElem?_append_right (by rw [R.len]; exact Nat.le_refl _), ← R.len, Nat.sub_self]
  rfl
theorem Grow.fresh {m : Mp} {H : Hp} {p : Addr} {o : HO} (hn : H p = none) : Grow m (m.add p) H (upd H p o) :=
  let g : Grow m m H (upd H p o) := .laid hn
  ⟨⟨[p], [], rfl, by simp [Mp.add], fun a ha => by rw [List.mem_singleton.mp ha]; exact hn, by simp⟩, g.oth, g.tups, g.frzs, g.trk⟩
theorem upd_keeps {H : Hp} {p : Addr} {o : HO} (hn : H p = none) : ∀ b u, H b = some u → upd H p o b = some u := fun b u e => by rw [upd_ne (ne_of_none e hn)]; exact e
/-- a new list: from its reading -/
theorem tF_new {K : PySem.W.Frag} {W : Wx} {m m1 : Mp} {H H1 : Hp} {mu1 : List MO} {ds : List D} {vs : List V} {Q : VK} (g : Grow m m1 H H1) (R1 : Rel K m1 mu1 H1) (r : Reps K m1 H1 ds vs) (hp : Post K W m1 H1 ((pure ds : M (List D)) mu1) fun ds m' mu' H' => NewL K H ds m' mu' H' Q) : ∀ p, H1 p = none → Q (.ref p) (upd H1 p (.lst vs)) := fun p hn => by
  have g1 : Grow m1 m1 H1 (upd H1 p (.lst vs)) := .laid hn
  have q := hp m1 _ g1 (R1.laid hn)
  exact q p vs (g.none_of hn) upd_same (R1.free hn) (Reps.grow g1 ds vs r) (R1.adopt (R1.free hn) (.fresh hn) (upd_keeps hn) ⟨vs, upd_same, Reps.grow (.fresh hn) ds vs r⟩)
def aList (rs : Env → M (List D)) : Env → M (List D) := fun env => rs env >>= fun xs => need (xs.length ≤ sizeLine) >>= fun _ => pure xs
theorem mf_lst {rs : Env → M (List D)} (h : MA X W es rs) : MF X W (.List es pos) (aList rs) := ⟨(pe_lst h.pa).imp fun σ H Q ⟨env, m, mu, hE, hR, hp⟩ =>
  ⟨env, m, mu, hE, hR, (Post.bind hp).mono fun xs m1 mu1 H1 g1 R1 hp vs rv => by
    obtain ⟨c, hp⟩ := need_ok R1 (Post.bind hp)
    exact ⟨by rw [← rv.length]; exact c, tF_new g1 R1 rv hp⟩⟩⟩
def eFl (r : Env → M (List D)) : Env → M D := fun env => r env >>= fun xs => pure (.fl xs)
def alloc (o : MO) : M D := fun mu => .ok (.ref mu.length) (mu ++ [o])
def eNew (r : Env → M (List D)) : Env → M D := fun env => r env >>= fun xs => alloc (.lst xs)
/-- a new list, from now on read alone -/
theorem me_fl {r : Env → M (List D)} (h : MF X W e r) : ME X W e (eFl r) := ⟨h.pe.imp fun σ H Q ⟨env, m, mu, hE, hR, hp⟩ =>
  ⟨env, m, mu, hE, hR, (Post.bind hp).mono fun xs m1 mu1 H1 g1 R1 hp a vs h0 h1 hn hr _ => Post.pure hp R1 _ (by simp only [Rep]; exact ⟨a, vs, rfl, h1, hn, hr⟩)⟩⟩
/-- a new list, taken into the small heap -/
theorem me_new {r : Env → M (List D)} (h : MF X W e r) : ME X W e (eNew r) := ⟨h.pe.imp fun σ H Q ⟨env, m, mu, hE, hR, hp⟩ => by
  refine ⟨env, m, mu, hE, hR, ?_⟩
  have e0 : eNew r env mu = M.bind (r env) (fun xs => alloc (.lst xs)) mu := rfl
  rw [e0] at hp
  unfold M.bind at hp
  cases hr : r env mu with
  | ok xs mu1 =>
    rw [hr] at hp
    intro m1 H1 g1 R1 a vs h0 h1 hn hrs ha
    have q := hp (m1.add a) H1 (g1.adopt h0) ha (.ref a)
    exact q (by simp only [Rep]; exact ⟨a, rfl, add_get R1⟩)
  | exc x mu1 => rw [hr] at hp; exact hp
  | bad => rw [hr] at hp; exact hp⟩
/-- {} , taken into the small heap -/
def eNewD : Env → M D := fun _ => alloc (.dk [])
theorem me_dict0 : ME X W (.Dict [] [] pos) eNewD := ⟨pe_dnewK.imp fun σ H Q ⟨env, m, mu, hE, hR, hp⟩ p hn => by
  have q := hp (m.add p) (upd H p (.dK [])) (.fresh hn) (hR.adopt (hR.free hn) (.fresh hn) (upd_keeps hn) ⟨[], upd_same, Reps.nil_iff.mpr rfl⟩) (.ref p)
  exact q (by simp only [Rep]; exact ⟨p, rfl, add_get hR⟩)⟩

/-! ### subscripts -/
def ixD (xs : List D) (i : Int) : M D := match atI xs i with
  | some d => pure d
  | none => bad
def gIx : D → D → M D
  | .str z, y => do
    let i ← toI y
    need (z.length ≤ sizeLine)
    match atI z.cps.toList i with
    | some c => pure (.str ⟨#[c]⟩)
    | none => bad
  | x, y => do
    let xs ← rdQ x
    let i ← toI y
    ixD xs i
theorem ixD_ok {K : PySem.W.Frag} {m : Mp} {H : Hp} {mu : List MO} {xs : List D} {vs : List V} {i : Int} {Q : D → Mp → List MO → Hp → Prop} (R : Rel K m mu H) (r : Reps K m H xs vs) (hp : Post K W m H (ixD xs i mu) Q) : ∃ d v, atI vs i = some v ∧ Rep K m H d v ∧ Q d m mu H := by
  unfold ixD at hp
  cases e : atI xs i with
  | none => rw [e] at hp; exact (show False from hp).elim
  | some d =>
    rw [e] at hp
    unfold atI at e
    rw [r.length] at e
    cases e2 : ixN vs.length i with
    | none => rw [e2] at e; cases e
    | some j =>
      rw [e2] at e
      obtain ⟨v, hv, rv⟩ := r.get (show xs[j]? = some d from e)
      exact ⟨d, v, by unfold atI; rw [e2]; exact hv, rv, Post.pure hp R⟩
theorem opm_ix : OpM X.K W (rIx X.K) gIx := ⟨fun x y v w m mu H Q rl hx hy hp => by
  have seq : ∀ x, Rep X.K m H x v → Post X.K W m H ((do let xs ← rdQ x; let i ← toI y; ixD xs i) mu) (fun d m' _ H' => ∀ u, Rep X.K m' H' d u → Q u H') → rIx X.K v w H Q := fun x hx hp => by
    obtain ⟨a, xs, vs, rfl, hs, hr, hp⟩ := rdQ_ok rl hx (Post.bind hp)
    obtain ⟨i, rfl, rfl, hp⟩ := toI_ok rl hy (Post.bind hp)
    obtain ⟨d, v, hv, rv, hp⟩ := ixD_ok rl hr hp
    rcases hs with hs | hs
    · exact .inl ⟨a, vs, i, v, rfl, rfl, hs, hv, hp v rv⟩
    · exact .inr (.inl ⟨a, vs, i, v, rfl, rfl, hs, hv, hp v rv⟩)
  cases x
  case str z =>
    obtain ⟨i, rfl, rfl, hp⟩ := toI_ok rl hy (Post.bind hp)
    obtain ⟨c, hp⟩ := need_ok rl (Post.bind hp)
    simp only [Rep] at hx
    cases e : atI z.cps.toList i with
    | none => rw [e] at hp; exact (show False from hp).elim
    | some k =>
      rw [e] at hp
      exact .inr (.inr ⟨z, i, k, hx, rfl, c, e, Post.pure hp rl _ (by simp only [Rep])⟩)
  all_goals exact seq _ hx hp⟩
theorem me_ix {ra rb : Env → M D} (ha : ME X W a ra) (hb : ME X W b rb) (hs : PlainIx b := by intro _ _; rfl) : ME X W (.Subscript a b pos) (eBin gIx ra rb) := ⟨(pe_ix ix_seq ha.pe hb.pe hs).imp (tE_bin opm_ix)⟩
/-- keys of a dict -/
def toK : D → M Key
  | .int i => pure (.inl i)
  | .str x => pure (.inr x)
  | _ => bad
theorem toK_ok {K : PySem.W.Frag} {m : Mp} {H : Hp} {mu : List MO} {d : D} {v : V} {Q : Key → Mp → List MO → Hp → Prop} (R : Rel K m mu H) (h : Rep K m H d v) (hp : Post K W m H (toK d mu) Q) : ∃ k, v = kV k ∧ Q k m mu H := by
  cases d
  case int i => simp only [Rep] at h; exact ⟨.inl i, h, hp m H .refl R⟩
  case str i => simp only [Rep] at h; exact ⟨.inr i, h, hp m H .refl R⟩
  all_goals exact (show False from hp).elim
/-- what a dict holds at a key -/
def valD (kvs : List (Key × D)) (k : Key) : Option D := (kvs.find? fun kv => decide (kv.1 = k)).map (·.2)
def atD (mu : List MO) (n : Nat) : R (List (Key × D)) := match mu[n]? with
  | some (.dk kvs) => .ok kvs mu
  | _ => .bad
theorem atD_dk {mu : List MO} {n : Nat} {kvs : List (Key × D)} (h : mu[n]? = some (.dk kvs)) : atD mu n = .ok kvs mu := by unfold atD; rw [h]
theorem atD_lst {mu : List MO} {n : Nat} {xs : List D} (h : mu[n]? = some (.lst xs)) : atD mu n = .bad := by unfold atD; rw [h]
def rdD : D → M (List (Key × D))
  | .fd ks xs => pure (ks.zip xs)
  | .ref n => fun mu => atD mu n
  | _ => bad
theorem zip_keys {α β : Type} : ∀ (kvs : List (α × β)), (kvs.map (·.1)).zip (kvs.map (·.2)) = kvs
  | [] => rfl
  | (k, v) :: r => by rw [List.map_cons, List.map_cons, List.zip_cons_cons, zip_keys r]
theorem valD_rep {K : PySem.W.Frag} {m : Mp} {H : Hp} {k : Key} : ∀ {ks : List Key} {ds : List D} {vs : List V}, Reps K m H ds vs → match valD (ks.zip ds) k with
    | some d => ∃ v, valV (ks.zip vs) k = some v ∧ Rep K m H d v
    | none => valV (ks.zip vs) k = none
  | [], ds, vs, _ => by simp [valD, valV]
  | _ :: _, [], vs, h => by rw [Reps.nil_iff] at h; subst h; simp [valD, valV]
  | j :: ks, d :: ds, vs, h => by
    obtain ⟨v, r, rfl, h1, h2⟩ := Reps.cons_iff.mp h
    have ih := valD_rep (k := k) (ks := ks) h2
    by_cases e : j = k
    · subst e
      simp only [valD, valV, List.zip_cons_cons, List.find?_cons, decide_true, Option.map_some]
      exact ⟨v, rfl, h1⟩
    · simp only [valD, valV, List.zip_cons_cons, List.find?_cons, decide_eq_false e] at ih ⊢
      exact ih
theorem rdD_ok {K : PySem.W.Frag} {m : Mp} {H : Hp} {mu : List MO} {d : D} {v : V} {Q : List (Key × D) → Mp → List MO → Hp → Prop} (R : Rel K m mu H) (h : Rep K m H d v) (hp : Post K W m H (rdD d mu) Q) : ∃ a kvs vs, v = .ref a ∧ H a = some (.dK ((kvs.map (·.1)).zip vs)) ∧ Reps K m H (kvs.map (·.2)) vs ∧ Q kvs m mu H := by
  cases d <;> simp only [Rep] at h
  case fd ks ds =>
    obtain ⟨a, vs, rfl, hs, _, hl, hr⟩ := h
    refine ⟨a, ks.zip ds, vs, rfl, ?_, ?_, hp m H .refl R⟩
    · rw [List.map_fst_zip (by omega)]; exact hs
    · rw [List.map_snd_zip (by omega)]; exact hr
  case ref n =>
    obtain ⟨a, rfl, hm⟩ := h
    obtain ⟨o, ho, hr⟩ := R.at' hm
    cases o with
    | dk kvs =>
      obtain ⟨vs, hH, hr⟩ := hr
      have e : rdD (.ref n) mu = .ok kvs mu := atD_dk ho
      rw [e] at hp
      exact ⟨a, kvs, vs, rfl, hH, hr, hp m H .refl R⟩
    | lst xs =>
      have e : rdD (.ref n) mu = .bad := atD_lst ho
      rw [e] at hp
      exact hp.elim
  all_goals exact (show False from hp).elim
theorem valD_get {K : PySem.W.Frag} {m : Mp} {H : Hp} {kvs : List (Key × D)} {vs : List V} {a : Addr} (k : Key) (hH : H a = some (.dK ((kvs.map (·.1)).zip vs))) (hr : Reps K m H (kvs.map (·.2)) vs) : (∃ d v, valD kvs k = some d ∧ Rep K m H d v ∧ DGet H a (kV k) (some v)) ∨ (valD kvs k = none ∧ DGet H a (kV k) none) := by
  have q := valD_rep (k := k) (ks := kvs.map (·.1)) hr
  rw [zip_keys] at q
  have g := DGet.k (k := k) hH
  cases e : valD kvs k with
  | none =>
    rw [e] at q
    rw [show valV ((kvs.map (·.1)).zip vs) k = none from q] at g
    exact .inr ⟨rfl, g⟩
  | some d =>
    rw [e] at q
    obtain ⟨v, hv, rv⟩ := q
    rw [hv] at g
    exact .inl ⟨d, v, rfl, rv, g⟩
def gDget (x y : D) : M D := do
  let kvs ← rdD x
  let k ← toK y
  match valD kvs k with
  | some d => pure d
  | none => bad
theorem me_dget {ra rb : Env → M D} (hu : X.A.units + 1 < cLine) (ha : ME X W a ra) (hb : ME X W b rb) (hs : NoSl b := by intro _ _; rfl) : ME X W (.Subscript a b pos) (eBin gDget ra rb) := ⟨(pe_dget hu ha.pe hb.pe hs).imp fun σ H Q ⟨env, m, mu, hE, hR, hp⟩ =>
  ⟨env, m, mu, hE, hR, (Post.bind hp).mono fun x m1 mu1 H1 g1 R1 hp1 v rv => ⟨env, m1, mu1, hE.grow g1, R1, (Post.bind hp1).mono fun y m2 mu2 H2 g2 R2 hp w rw' => by
    obtain ⟨p, kvs, vs, rfl, hH, hr, hp⟩ := rdD_ok R2 (Rep.grow g2 x v rv) (Post.bind hp)
    obtain ⟨k, rfl, hp⟩ := toK_ok R2 rw' (Post.bind hp)
    rcases valD_get k hH hr with ⟨d, z, e, rz, g⟩ | ⟨e, g⟩
    · rw [e] at hp
      exact ⟨p, z, rfl, g, Post.pure hp R2 z rz⟩
    · rw [e] at hp
      exact (show False from hp).elim⟩⟩⟩
/-- in a dict -/
def gDin (neg : Bool) (y x : D) : M D := do
  let kvs ← rdD x
  let k ← toK y
  pure (.bl ((valD kvs k).isSome != neg))
theorem din_go {neg : Bool} {σ : L2.St} {ra rb : Env → M D} {H : Hp} {Q : VK} (h : tE X.K W (eBin (gDin neg) ra rb) σ H Q) : (tE X.K W ra) σ H fun y H1 => (tE X.K W rb) σ H1 fun x H2 => ∃ a o, x = .ref a ∧ DGet H2 a y o ∧ Q (.bl (o.isSome != neg)) H2 := by
  obtain ⟨env, m, mu, hE, hR, hp⟩ := h
  exact ⟨env, m, mu, hE, hR, (Post.bind hp).mono fun y m1 mu1 H1 g1 R1 hp1 v rv => ⟨env, m1, mu1, hE.grow g1, R1, (Post.bind hp1).mono fun x m2 mu2 H2 g2 R2 hp w rw' => by
    obtain ⟨p, kvs, vs, rfl, hH, hr, hp⟩ := rdD_ok R2 rw' (Post.bind hp)
    obtain ⟨k, rfl, hp⟩ := toK_ok R2 (Rep.grow g2 y v rv) (Post.bind hp)
    rcases valD_get k hH hr with ⟨d, z, e, rz, g⟩ | ⟨e, g⟩
    · rw [e] at hp
      exact ⟨p, _, rfl, g, Post.pure hp R2 _ (by simp only [Rep, Option.isSome_some])⟩
    · rw [e] at hp
      exact ⟨p, _, rfl, g, Post.pure hp R2 _ (by simp only [Rep, Option.isSome_none])⟩⟩⟩
theorem pc_dinM {ra rb : Env → M D} (hu : X.A.units + 1 < cLine) (ha : ME X W a ra) (hb : ME X W b rb) : PC X .In a b (tE X.K W (eBin (gDin false) ra rb)) := ⟨fun pins s σ H Q I h => (pc_din hu ha.pe hb.pe).run pins s σ H Q I (by
  have q := din_go h
  simp only [Bool.bne_false] at q
  exact q)⟩
theorem pc_dnotinM {ra rb : Env → M D} (hu : X.A.units + 1 < cLine) (ha : ME X W a ra) (hb : ME X W b rb) : PC X .NotIn a b (tE X.K W (eBin (gDin true) ra rb)) := ⟨fun pins s σ H Q I h => (pc_dnotin hu ha.pe hb.pe).run pins s σ H Q I (by
  have q := din_go h
  simp only [Bool.bne_true] at q
  exact q)⟩
theorem me_pc {op : CmpOp} {r : Env → M D} (h : PC X op a b (tE X.K W r)) (h1 : behindInMarks op b = false := by first | exact nobehind _ (by decide) (by decide) | rfl) : ME X W (.Compare a [op] [b] pos) r := ⟨pe_cmp h h1⟩
theorem mt_pc {op : CmpOp} {r : Env → M D} (h : PC X op a b (tE X.K W r)) (h1 : behindInMarks op b = false := by first | exact nobehind _ (by decide) (by decide) | rfl) : MT X W (.Compare a [op] [b] pos) (eB r) := ⟨(pt_cmp h h1).imp (tT_of fun _ _ _ q => q)⟩
end
end MP
namespace MP
open PySem L2 PyProof.Rows
/-! ### slices, built-ins -/
section
variable {X : Cx} {W : Wx} {e a b : Expr} {es : List Expr} {pos p : Pos}
structure MO_ (X : Cx) (W : Wx) (e : Option Expr) (r : Env → M (Option Int)) : Prop where
  po : PO X e fun σ H Q => ∃ env m mu, RepE X.K m H env σ ∧ Rel X.K m mu H ∧ Post X.K W m H (r env mu) fun o _ _ H' => Q o H'
theorem _root_.L2.PO.imp {e : Option Expr} {t t' : TO} (h : PO X e t) (i : ∀ σ H Q, t' σ H Q → t σ H Q) : PO X e t' := ⟨fun pins s σ H Q I q => h.run pins s σ H Q I (i σ H Q q)⟩
def oNone : Env → M (Option Int) := fun _ => pure none
def oSome (r : Env → M D) : Env → M (Option Int) := fun env => r env >>= fun x => toI x >>= fun i => pure (some i)
theorem mo_none : MO_ X W none oNone := ⟨po_none.imp fun σ H Q ⟨env, m, mu, hE, hR, hp⟩ => Post.pure hp hR⟩
theorem mo_some {r : Env → M D} (h : ME X W e r) : MO_ X W (some e) (oSome r) := ⟨(po_some h.pe).imp fun σ H Q ⟨env, m, mu, hE, hR, hp⟩ =>
  ⟨env, m, mu, hE, hR, (Post.bind hp).mono fun x m1 mu1 H1 g1 R1 hp v rv => by
    obtain ⟨i, rfl, rfl, hp⟩ := toI_ok R1 rv (Post.bind hp)
    exact ⟨i, rfl, Post.pure hp R1⟩⟩⟩
def cutD (xs : List D) (lo hi : Option Int) : List D := (xs.drop (HT.sIx xs.length 0 lo)).take (HT.sIx xs.length xs.length hi - HT.sIx xs.length 0 lo)
theorem cut_rep {K : PySem.W.Frag} {m : Mp} {H : Hp} {xs : List D} {vs : List V} {lo hi : Option Int} (h : Reps K m H xs vs) : Reps K m H (cutD xs lo hi) (cutV vs lo hi) := by
  unfold cutD cutV
  rw [h.length]
  exact (h.drop _).take _
def gSl (x : D) (lo hi : Option Int) : M D := match x with
  | .str z => do
    need (z.length ≤ sizeLine)
    pure (.str (cutS z lo hi))
  | .tup xs => pure (.tup (cutD xs lo hi))
  | x => do
    let xs ← rdL x
    pure (.fl (cutD xs lo hi))
def rSlM (K : PySem.W.Frag) : V → Option Int → Option Int → Hp → VK → Prop := fun x lo hi H Q => rSlS x lo hi H Q ∨ rSlA K x lo hi H Q ∨ rSlL K x lo hi H Q
theorem sl_M : SlR X (rSlM X.K) := sl_str.or (sl_tupA.or sl_list)
def eSl (r : Env → M D) (rl rh : Env → M (Option Int)) : Env → M D := fun env => r env >>= fun x => rl env >>= fun lo => rh env >>= fun hi => gSl x lo hi
theorem cut_whole {vs : List V} {lo hi : Option Int} (h : HT.sIx vs.length 0 lo = 0 ∧ HT.sIx vs.length vs.length hi = vs.length) : cutV vs lo hi = vs := by
  unfold cutV
  rw [h.1, h.2, List.drop_zero, Nat.sub_zero, List.take_length]
theorem slice_go {x : D} {v : V} {l u : Option Int} {m3 : Mp} {mu3 : List MO} {H3 : Hp} {Q : VK} (R3 : Rel X.K m3 mu3 H3) (rv3 : Rep X.K m3 H3 x v) (hp : Post X.K W m3 H3 (gSl x l u mu3) fun d m' _ H' => ∀ u, Rep X.K m' H' d u → Q u H') : rSlM X.K v l u H3 Q := by
    have lst : ∀ x, Rep X.K m3 H3 x v → Post X.K W m3 H3 ((do let xs ← rdL x; pure (D.fl (cutD xs l u))) mu3) (fun d m' _ H' => ∀ u, Rep X.K m' H' d u → Q u H') → rSlM X.K v l u H3 Q := fun x rv3 hp => by
      obtain ⟨a, xs, vs, rfl, hs, hr, _, hp⟩ := rdL_ok R3 rv3 (Post.bind hp)
      refine .inr (.inr ⟨a, vs, rfl, hs, fun p hn => ?_⟩)
      obtain ⟨g, R', rp⟩ := new_fl R3 (cut_rep (lo := l) (hi := u) hr) hn
      exact hp m3 _ g R' _ rp
    cases x
    case str z =>
      obtain ⟨c, hp⟩ := need_ok R3 (Post.bind hp)
      simp only [Rep] at rv3
      exact .inl ⟨z, rv3, c, Post.pure hp R3 _ (by simp only [Rep])⟩
    case tup xs =>
      simp only [Rep] at rv3
      obtain ⟨a, vs, rfl, hs, hr⟩ := rv3
      refine .inr (.inl ⟨a, vs, rfl, hs, fun hw => ?_, fun _ p hn => ?_⟩)
      · refine Post.pure hp R3 _ ?_
        simp only [Rep]
        exact ⟨a, vs, rfl, hs, by have q := cut_rep (lo := l) (hi := u) hr; rw [cut_whole hw] at q; exact q⟩
      · obtain ⟨g, R', rp⟩ := new_tup R3 (cut_rep (lo := l) (hi := u) hr) hn
        exact hp m3 _ g R' _ rp
    all_goals exact lst _ rv3 hp
theorem me_slice {p2 : Pos} {lo hi : Option Expr} {r : Env → M D} {rl rh : Env → M (Option Int)} (h : ME X W e r) (hl : MO_ X W lo rl) (hh : MO_ X W hi rh) : ME X W (.Subscript e (.Slice lo hi none p2) pos) (eSl r rl rh) := ⟨(pe_slice sl_M h.pe hl.po hh.po).imp fun σ H Q ⟨env, m, mu, hE, hR, hp⟩ =>
  ⟨env, m, mu, hE, hR, (Post.bind hp).mono fun x m1 mu1 H1 g1 R1 hpa v rv => ⟨env, m1, mu1, hE.grow g1, R1, (Post.bind hpa).mono fun l m2 mu2 H2 g2 R2 hpb => ⟨env, m2, mu2, (hE.grow g1).grow g2, R2, (Post.bind hpb).mono fun u m3 mu3 H3 g3 R3 hpc => slice_go R3 (Rep.grow g3 x v (Rep.grow g2 x v rv)) hpc⟩⟩⟩⟩
/-- .. of a list, as a new list -/
def fSl (r : Env → M D) (rl rh : Env → M (Option Int)) : Env → M (List D) := fun env => r env >>= fun x => rl env >>= fun lo => rh env >>= fun hi => rdL x >>= fun xs => pure (cutD xs lo hi)
theorem mf_slice {p2 : Pos} {lo hi : Option Expr} {r : Env → M D} {rl rh : Env → M (Option Int)} (h : ME X W e r) (hl : MO_ X W lo rl) (hh : MO_ X W hi rh) : MF X W (.Subscript e (.Slice lo hi none p2) pos) (fSl r rl rh) := ⟨(pe_slice sl_list h.pe hl.po hh.po).imp fun σ H Q ⟨env, m, mu, hE, hR, hp⟩ =>
  ⟨env, m, mu, hE, hR, (Post.bind hp).mono fun x m1 mu1 H1 g1 R1 hp v rv => ⟨env, m1, mu1, hE.grow g1, R1, (Post.bind hp).mono fun l m2 mu2 H2 g2 R2 hp => ⟨env, m2, mu2, (hE.grow g1).grow g2, R2, (Post.bind hp).mono fun u m3 mu3 H3 g3 R3 hp => by
    obtain ⟨a, xs, vs, rfl, hs, hr, _, hp⟩ := rdL_ok R3 (Rep.grow g3 x v (Rep.grow g2 x v rv)) (Post.bind hp)
    exact ⟨a, vs, rfl, hs, tF_new ((g1.trans g2).trans g3) R3 (cut_rep hr) hp⟩⟩⟩⟩⟩
/-- xs + ys, a new list -/
def fCat (ra rb : Env → M D) : Env → M (List D) := fun env => ra env >>= fun x => rb env >>= fun y => rdM x >>= fun xs => rdM y >>= fun ys => need (xs.length + ys.length ≤ sizeLine) >>= fun _ => pure (xs ++ ys)
theorem mf_cat {ra rb : Env → M D} (ha : ME X W a ra) (hb : ME X W b rb) : MF X W (.BinOp a .Add b pos) (fCat ra rb) := ⟨(pe_op op_cat ha.pe hb.pe).imp fun σ H Q ⟨env, m, mu, hE, hR, hp⟩ =>
  ⟨env, m, mu, hE, hR, (Post.bind hp).mono fun x m1 mu1 H1 g1 R1 hp1 v rv => ⟨env, m1, mu1, hE.grow g1, R1, (Post.bind hp1).mono fun y m2 mu2 H2 g2 R2 hp w rw' => by
    obtain ⟨a, xs, vs, rfl, ha, ra, ea, hp⟩ := rdM_ok R2 (Rep.grow g2 x v rv) (Post.bind hp)
    obtain ⟨b, ys, ws, rfl, hb, rb, eb, hp⟩ := rdM_ok R2 rw' (Post.bind hp)
    obtain ⟨c, hp⟩ := need_ok R2 (Post.bind hp)
    exact ⟨a, b, vs, ws, rfl, rfl, ha, hb, by rw [← ra.length, ← rb.length]; exact c, tF_new (g1.trans g2) R2 (ra.append rb) hp⟩⟩⟩⟩

/-! ### built-ins by their values -/
structure CallM (K : PySem.W.Frag) (W : Wx) (r : List V → Hp → VK → Prop) (g : List D → M D) : Prop where
  go : ∀ (ds : List D) (vs : List V) (m : Mp) (mu : List MO) (H : Hp) (Q : VK), Rel K m mu H → Reps K m H ds vs → Post K W m H (g ds mu) (fun d m' _ H' => ∀ u, Rep K m' H' d u → Q u H') → r vs H Q
theorem tCB_of {r : List V → Hp → VK → Prop} {g : List D → M D} {rs : Env → M (List D)} (c : CallM X.K W r g) : ∀ σ H Q, tE X.K W (aThen g rs) σ H Q → tCB r (tA X.K W rs) σ H Q := fun σ H Q ⟨env, m, mu, hE, hR, hp⟩ =>
  ⟨env, m, mu, hE, hR, (Post.bind hp).mono fun xs m1 mu1 H1 g1 R1 hp vs rv => c.go xs vs m1 mu1 H1 Q R1 rv hp⟩
/-- one argument -/
def g1 (g : D → M D) : List D → M D
  | [x] => g x
  | _ => bad
def g2 (g : D → D → M D) : List D → M D
  | [x, y] => g x y
  | _ => bad
theorem callM1 {r : List V → Hp → VK → Prop} {g : D → M D} {K : PySem.W.Frag} (h : ∀ (x : D) (v : V) (m : Mp) (mu : List MO) (H : Hp) (Q : VK), Rel K m mu H → Rep K m H x v → Post K W m H (g x mu) (fun d m' _ H' => ∀ u, Rep K m' H' d u → Q u H') → r [v] H Q) : CallM K W r (g1 g) := ⟨fun ds vs m mu H Q R hr hp => by
  match ds, hr, hp with
  | [x], hr, hp =>
    obtain ⟨v, r', rfl, h1, h2⟩ := Reps.cons_iff.mp hr
    rw [Reps.nil_iff] at h2
    subst h2
    exact h x v m mu H Q R h1 hp
  | [], _, hp => exact (show False from hp).elim
  | _ :: _ :: _, _, hp => exact (show False from hp).elim⟩
theorem callM2 {r : List V → Hp → VK → Prop} {g : D → D → M D} {K : PySem.W.Frag} (h : ∀ (x y : D) (v w : V) (m : Mp) (mu : List MO) (H : Hp) (Q : VK), Rel K m mu H → Rep K m H x v → Rep K m H y w → Post K W m H (g x y mu) (fun d m' _ H' => ∀ u, Rep K m' H' d u → Q u H') → r [v, w] H Q) : CallM K W r (g2 g) := ⟨fun ds vs m mu H Q R hr hp => by
  match ds, hr, hp with
  | [x, y], hr, hp =>
    obtain ⟨v, r', rfl, h1, h2⟩ := Reps.cons_iff.mp hr
    obtain ⟨w, r2, rfl, h3, h4⟩ := Reps.cons_iff.mp h2
    rw [Reps.nil_iff] at h4
    subst h4
    exact h x y v w m mu H Q R h1 h3 hp
  | [], _, hp => exact (show False from hp).elim
  | [_], _, hp => exact (show False from hp).elim
  | _ :: _ :: _ :: _, _, hp => exact (show False from hp).elim⟩
/-- len -/
def gLen : D → M D
  | .str z => do
    need (z.length ≤ sizeLine)
    pure (.int z.length)
  | .fd ks xs => pure (.int xs.length)
  | .ref n => fun mu => match mu[n]? with
    | some (.lst xs) => .ok (.int xs.length) mu
    | some (.dk kvs) => .ok (.int kvs.length) mu
    | none => .bad
  | x => do
    let xs ← rdQ x
    pure (.int xs.length)
def rLenM (K : PySem.W.Frag) : List V → Hp → VK → Prop := fun xs H Q => (∃ x n, xs = [x] ∧ LenV K x H n ∧ Q (.int n) H) ∨ ∃ a kvs, xs = [V.ref a] ∧ H a = some (.dK kvs) ∧ Q (.int kvs.length) H
theorem call_lenM : CallR X (.builtin "len") (rLenM X.K) := call_len.or call_lenD
theorem callM_len : CallM X.K W (rLenM X.K) (g1 gLen) := callM1 fun x v m mu H Q R hx hp => by
  have seq : ∀ x, Rep X.K m H x v → Post X.K W m H ((do let xs ← rdQ x; pure (D.int xs.length)) mu) (fun d m' _ H' => ∀ u, Rep X.K m' H' d u → Q u H') → rLenM X.K [v] H Q := fun x hx hp => by
    obtain ⟨a, xs, vs, rfl, hs, hr, hp⟩ := rdQ_ok R hx (Post.bind hp)
    refine .inl ⟨_, vs.length, rfl, ?_, ?_⟩
    · rcases hs with hs | hs
      · exact .inl ⟨vs, hs, rfl⟩
      · exact .inr ⟨vs, hs, rfl⟩
    · rw [← hr.length]
      exact Post.pure hp R _ (by simp only [Rep])
  cases x
  case str z =>
    obtain ⟨c, hp⟩ := need_ok R (Post.bind hp)
    simp only [Rep] at hx
    exact .inl ⟨v, z.length, rfl, by rw [hx]; exact ⟨c, rfl⟩, Post.pure hp R _ (by simp only [Rep])⟩
  case fd ks xs =>
    simp only [Rep] at hx
    obtain ⟨a, vs, rfl, hs, _, hl, hr⟩ := hx
    refine .inr ⟨a, _, rfl, hs, ?_⟩
    rw [List.length_zip, ← hr.length, hl, Nat.min_self]
    exact Post.pure hp R _ (by simp only [Rep])
  case ref n =>
    simp only [Rep] at hx
    obtain ⟨a, rfl, hm⟩ := hx
    obtain ⟨o, ho, hr⟩ := R.at' hm
    have e : gLen (.ref n) mu = (match mu[n]? with
      | some (.lst xs) => MP.R.ok (.int xs.length) mu
      | some (.dk kvs) => .ok (.int kvs.length) mu
      | none => .bad) := rfl
    rw [e, ho] at hp
    cases o with
    | lst xs =>
      obtain ⟨vs, hH, hr⟩ := hr
      refine .inl ⟨_, vs.length, rfl, .inl ⟨vs, .of hH, rfl⟩, ?_⟩
      rw [← hr.length]
      exact hp m H .refl R _ (by simp only [Rep])
    | dk kvs =>
      obtain ⟨vs, hH, hr⟩ := hr
      refine .inr ⟨a, _, rfl, hH, ?_⟩
      have := hr.length
      rw [List.length_map] at this
      rw [List.length_zip, List.length_map, ← this, Nat.min_self]
      exact hp m H .refl R _ (by simp only [Rep])
  all_goals exact seq _ hx hp
/-- abs, int -/
def gAbs (x : D) : M D := do
  let i ← toI x
  pure (.int (if i < 0 then -i else i))
theorem callM_abs : CallM X.K W (fun xs H Q => ∃ i, xs = [.int i] ∧ Q (.int (if i < 0 then -i else i)) H) (g1 gAbs) := callM1 fun x v m mu H Q R hx hp => by
  obtain ⟨i, rfl, rfl, hp⟩ := toI_ok R hx (Post.bind hp)
  exact ⟨i, rfl, Post.pure hp R _ (by simp only [Rep])⟩
def gInt : D → M D
  | .bl b => pure (.int (b2n b))
  | x => do
    let i ← toI x
    pure (.int i)
theorem callM_int : CallM X.K W (fun xs H Q => (∃ i, xs = [.int i] ∧ Q (.int i) H) ∨ ∃ k, xs = [.bl k] ∧ Q (.int (if k then 1 else 0)) H) (g1 gInt) := callM1 fun x v m mu H Q R hx hp => by
  have oth : ∀ x, Rep X.K m H x v → Post X.K W m H ((do let i ← toI x; pure (D.int i)) mu) (fun d m' _ H' => ∀ u, Rep X.K m' H' d u → Q u H') → (∃ i, [v] = [V.int i] ∧ Q (.int i) H) := fun x hx hp => by
    obtain ⟨i, rfl, rfl, hp⟩ := toI_ok R hx (Post.bind hp)
    exact ⟨i, rfl, Post.pure hp R _ (by simp only [Rep])⟩
  cases x
  case bl b =>
    simp only [Rep] at hx
    refine .inr ⟨b, by rw [hx], Post.pure hp R _ (by simp only [Rep]; cases b <;> rfl)⟩
  all_goals exact .inl (oth _ hx hp)
/-- tuple(x) of a list or a tuple -/
def gTuple (x : D) : M D := do
  let xs ← rdQ x
  pure (.tup xs)
theorem callM_tuple : CallM X.K W (fun xs H Q => ∃ p ys, xs = [.ref p] ∧ ((SqL X.K H p ys ∧ ∀ l, H l = none → Q (.ref l) (upd H l (.tup ys))) ∨ (SqT X.K H p ys ∧ Q (.ref p) H))) (g1 gTuple) := callM1 fun x v m mu H Q R hx hp => by
  obtain ⟨a, xs, vs, rfl, hs, hr, hp⟩ := rdQ_ok R hx (Post.bind hp)
  refine ⟨a, vs, rfl, ?_⟩
  rcases hs with hs | hs
  · refine .inl ⟨hs, fun p hn => ?_⟩
    obtain ⟨g, R', rp⟩ := new_tup R hr hn
    exact hp m _ g R' _ rp
  · exact .inr ⟨hs, Post.pure hp R _ (by simp only [Rep]; exact ⟨a, vs, rfl, hs, hr⟩)⟩
/-- list(x) -/
def fThen1 (g : D → M (List D)) (rs : Env → M (List D)) : Env → M (List D) := fun env => rs env >>= fun xs => match xs with
  | [x] => g x
  | _ => bad
theorem mf_list1 {rs : Env → M (List D)} {x : Str} (hg : Gl X x) (hm : X.mg x = none) (hv : bootBuiltins x = some (.type "list")) (h : MA X W (e :: es) rs) (hn : x ≠ "__name__" := by decide) (hdb : (x == ("__debug__" : Str)) = false := by decide)
    (he : starEach (e :: es) X.env = (false, eval e X.env) :: starEach es X.env := by rfl) (hpl : (backTo pos (starEach es X.env)).any (·.1) = false := by rfl) : MF X W (.Call (.Name x p) (e :: es) [] pos) (fThen1 rdQ rs) :=
  ⟨(pe_callTy call_list_of hg hm hv h.pa hn hdb he hpl).imp fun σ H Q ⟨env, m, mu, hE, hR, hp⟩ => ⟨env, m, mu, hE, hR, (Post.bind hp).mono fun xs m1 mu1 H1 g1 R1 hp vs rv => by
    match xs, rv, hp with
    | [x], rv, hp =>
      obtain ⟨v, r', rfl, h1, h2⟩ := Reps.cons_iff.mp rv
      rw [Reps.nil_iff] at h2
      subst h2
      have hp2 : Post X.K W m1 H1 ((rdQ x >>= fun ys => pure ys) mu1) fun ds m' mu' H' => NewL X.K H ds m' mu' H' Q := by
        have e : (rdQ x >>= fun ys => pure ys) mu1 = rdQ x mu1 := by rw [M.bind_def]; cases rdQ x mu1 <;> rfl
        rw [e]; exact hp
      obtain ⟨a, ys, vs, rfl, hs, hr, hp⟩ := rdQ_ok R1 h1 (Post.bind hp2)
      exact ⟨a, vs, rfl, hs, tF_new g1 R1 hr hp⟩
    | [], _, hp => exact (show False from hp).elim
    | _ :: _ :: _, _, hp => exact (show False from hp).elim⟩⟩
theorem me_callB {x : Str} {id : String} {r : List V → Hp → VK → Prop} {g : List D → M D} {rs : Env → M (List D)} (hc : CallR X (.builtin id) r) (c : CallM X.K W r g) (hg : Gl X x) (hm : X.mg x = none) (hv : bootBuiltins x = some (.builtin id)) (h : MA X W (e :: es) rs) (hn : x ≠ "__name__" := by decide) (hdb : (x == ("__debug__" : Str)) = false := by decide)
    (he : starEach (e :: es) X.env = (false, eval e X.env) :: starEach es X.env := by rfl) (hpl : (backTo pos (starEach es X.env)).any (·.1) = false := by rfl) : ME X W (.Call (.Name x p) (e :: es) [] pos) (aThen g rs) := ⟨(pe_callB hc hg hm hv h.pa hn hdb he hpl).imp (tCB_of c)⟩
theorem me_callTy {x : Str} {T : String} {r : List V → Hp → VK → Prop} {g : List D → M D} {rs : Env → M (List D)} (hc : CallR X (.type T) r) (c : CallM X.K W r g) (hg : Gl X x) (hm : X.mg x = none) (hv : bootBuiltins x = some (.type T)) (h : MA X W (e :: es) rs) (hn : x ≠ "__name__" := by decide) (hdb : (x == ("__debug__" : Str)) = false := by decide)
    (he : starEach (e :: es) X.env = (false, eval e X.env) :: starEach es X.env := by rfl) (hpl : (backTo pos (starEach es X.env)).any (·.1) = false := by rfl) : ME X W (.Call (.Name x p) (e :: es) [] pos) (aThen g rs) := ⟨(pe_callTy hc hg hm hv h.pa hn hdb he hpl).imp (tCB_of c)⟩
/-- all, any of a list of truth values -/
def toBs : List D → M (List Bool)
  | [] => pure []
  | x :: xs => toB x >>= fun b => toBs xs >>= fun bs => pure (b :: bs)
theorem toBs_ok {K : PySem.W.Frag} {m : Mp} {H : Hp} {mu : List MO} (R : Rel K m mu H) : ∀ {xs : List D} {vs : List V} {Q : List Bool → Mp → List MO → Hp → Prop}, Reps K m H xs vs → Post K W m H (toBs xs mu) Q → ∃ bs, vs = bs.map V.bl ∧ Q bs m mu H
  | [], vs, Q, h, hp => by rw [Reps.nil_iff] at h; subst h; exact ⟨[], rfl, Post.pure hp R⟩
  | x :: xs, vs, Q, h, hp => by
    obtain ⟨v, r, rfl, h1, h2⟩ := Reps.cons_iff.mp h
    obtain ⟨b, rfl, rfl, hp⟩ := toB_ok R h1 (Post.bind hp)
    obtain ⟨bs, rfl, hp⟩ := toBs_ok R h2 (Post.bind hp)
    exact ⟨b :: bs, rfl, Post.pure hp R⟩
def gAll (x : D) : M D := do
  let xs ← rdL x
  let bs ← toBs xs
  pure (.bl (bs.all id))
def gAny (x : D) : M D := do
  let xs ← rdL x
  let bs ← toBs xs
  pure (.bl (bs.any id))
theorem callM_all : CallM X.K W (rAll X.K) (g1 gAll) := callM1 fun x v m mu H Q R hx hp => by
  obtain ⟨a, xs, vs, rfl, hs, hr, _, hp⟩ := rdL_ok R hx (Post.bind hp)
  obtain ⟨bs, rfl, hp⟩ := toBs_ok R hr (Post.bind hp)
  exact ⟨a, bs, rfl, hs, Post.pure hp R _ (by simp only [Rep])⟩
theorem callM_any : CallM X.K W (rAny X.K) (g1 gAny) := callM1 fun x v m mu H Q R hx hp => by
  obtain ⟨a, xs, vs, rfl, hs, hr, _, hp⟩ := rdL_ok R hx (Post.bind hp)
  obtain ⟨bs, rfl, hp⟩ := toBs_ok R hr (Post.bind hp)
  exact ⟨a, bs, rfl, hs, Post.pure hp R _ (by simp only [Rep])⟩
/-- sum, max, min of a list of ints -/
def toIs : List D → M (List Int)
  | [] => pure []
  | x :: xs => toI x >>= fun b => toIs xs >>= fun bs => pure (b :: bs)
theorem toIs_ok {K : PySem.W.Frag} {m : Mp} {H : Hp} {mu : List MO} (R : Rel K m mu H) : ∀ {xs : List D} {vs : List V} {Q : List Int → Mp → List MO → Hp → Prop}, Reps K m H xs vs → Post K W m H (toIs xs mu) Q → ∃ bs, vs = bs.map V.int ∧ Q bs m mu H
  | [], vs, Q, h, hp => by rw [Reps.nil_iff] at h; subst h; exact ⟨[], rfl, Post.pure hp R⟩
  | x :: xs, vs, Q, h, hp => by
    obtain ⟨v, r, rfl, h1, h2⟩ := Reps.cons_iff.mp h
    obtain ⟨b, rfl, rfl, hp⟩ := toI_ok R h1 (Post.bind hp)
    obtain ⟨bs, rfl, hp⟩ := toIs_ok R h2 (Post.bind hp)
    exact ⟨b :: bs, rfl, Post.pure hp R⟩
def gSum (x : D) : M D := do
  let xs ← rdL x
  let bs ← toIs xs
  pure (.int bs.sum)
theorem callM_sum : CallM X.K W (rSum X.K) (g1 gSum) := callM1 fun x v m mu H Q R hx hp => by
  obtain ⟨a, xs, vs, rfl, hs, hr, _, hp⟩ := rdL_ok R hx (Post.bind hp)
  obtain ⟨bs, rfl, hp⟩ := toIs_ok R hr (Post.bind hp)
  exact ⟨a, bs, rfl, hs, Post.pure hp R _ (by simp only [Rep])⟩
/-- max, min of two ints -/
theorem callM_max2 : CallM X.K W (fun xs H Q => ∃ i j, xs = [.int i, .int j] ∧ Q (.int (if j > i then j else i)) H) (g2 (gII cAny fun i j => .int (if j > i then j else i))) := callM2 fun x y v w m mu H Q R hx hy hp => by
  obtain ⟨i, rfl, rfl, hp⟩ := toI_ok R hx (Post.bind hp)
  obtain ⟨j, rfl, rfl, hp⟩ := toI_ok R hy (Post.bind hp)
  obtain ⟨_, hp⟩ := need_ok R (Post.bind hp)
  exact ⟨i, j, rfl, Post.pure hp R _ (by simp only [Rep])⟩
theorem callM_min2 : CallM X.K W (fun xs H Q => ∃ i j, xs = [.int i, .int j] ∧ Q (.int (if j < i then j else i)) H) (g2 (gII cAny fun i j => .int (if j < i then j else i))) := callM2 fun x y v w m mu H Q R hx hy hp => by
  obtain ⟨i, rfl, rfl, hp⟩ := toI_ok R hx (Post.bind hp)
  obtain ⟨j, rfl, rfl, hp⟩ := toI_ok R hy (Post.bind hp)
  obtain ⟨_, hp⟩ := need_ok R (Post.bind hp)
  exact ⟨i, j, rfl, Post.pure hp R _ (by simp only [Rep])⟩
end
end MP
namespace MP
open PySem L2 PyProof.Rows
/-! ### what is walked -/
/-- at each turn the iterator gives the data in their order; g: a list of the small heap that must not change meanwhile -/
def ItOk (K : PySem.W.Frag) (g : List (Nat × List D)) (its : List D) (J : It) (m0 : Mp) (H0 : Hp) : Prop := ∀ (m : Mp) (mu : List MO) (H : Hp), Keep m0 m H0 H → Rel K m mu H → (∀ p ∈ g, mu[p.1]? = some (.lst p.2)) →
  (∀ i, its.length ≤ i → J.stop i H) ∧ ∀ (i : Nat) (d : D), its[i]? = some d → J.go i H ∧ ∀ x H', J.yld i H x H' → Grow m m H H' ∧ Rel K m mu H' ∧ Rep K m H' d x
/-- the items, and the lists of the small heap that are walked -/
abbrev Wk := List D × List (Nat × List D)
def tI (K : PySem.W.Frag) (W : Wx) (r : Env → M Wk) : TI := fun σ H R => ∃ env m mu, RepE K m H env σ ∧ Rel K m mu H ∧ Post K W m H (r env mu) fun p m' _ H' => p.1.length ≤ sizeLine → ∀ J, ItOk K p.2 p.1 J m' H' → R J H'
structure MI (X : Cx) (W : Wx) (tg iter : Expr) (r : Env → M Wk) : Prop where
  pi : PI X tg iter (tI X.K W r)
/-- sizes that hold wherever the abstract heap is held -/
def Sz (K : PySem.W.Frag) (H : Hp) : Prop := (∀ a xs, SqL K H a xs → xs.length ≤ sizeLine) ∧ ∀ a xs, SqT K H a xs → xs.length ≤ sizeLine
section
variable {X : Cx} {W : Wx} {e a b tg iter : Expr} {es : List Expr} {pos p : Pos}
theorem sz_of {pins : List (Addr × Obj)} {σ : L2.St} {H : Hp} {s : Shared} (I : Inv X pins σ H s) : Sz X.K H := ⟨fun a xs h => let ⟨_, _, _, z⟩ := I.list h; z, fun a xs h => let ⟨_, _, _, z⟩ := I.tuple h; z⟩
theorem pi_sz {t : TI} (h : PI X tg iter t) : PI X tg iter (fun σ H R => t σ H fun J H' => Sz X.K H' → R J H') := ⟨fun pins s σ H R I q =>
  thn (h.run pins s σ H _ I q) fun v s1 h1 => thn h1 fun itv s2 ⟨it, fp, tn, J, H', e, I2, T, st, f2, q2⟩ => ⟨it, fp, tn, J, H', e, I2, T, st, f2, q2 (sz_of I2)⟩⟩
theorem pe_sz {t : TE} (h : PE X e t) : PE X e (fun σ H Q => t σ H fun v H' => Sz X.K H' → Q v H') := ⟨fun pins s σ H Q I q =>
  thn (h.run pins s σ H _ I q) fun v s1 ⟨x, H1, I1, r, q1⟩ => ⟨x, H1, I1, r, q1 (sz_of I1)⟩⟩
theorem pi_imp {t t' : TI} (h : PI X tg iter t) (i : ∀ σ H R, t' σ H R → t σ H R) : PI X tg iter t' := ⟨fun pins s σ H R I q => h.run pins s σ H R I (i σ H R q)⟩
theorem pi_or {t t' : TI} (h : PI X tg iter t) (h' : PI X tg iter t') : PI X tg iter (fun σ H R => t σ H R ∨ t' σ H R) := ⟨fun pins s σ H R I q => q.elim (h.run pins s σ H R I) (h'.run pins s σ H R I)⟩
theorem itOk_list {K : PySem.W.Frag} {m0 : Mp} {H0 : Hp} {ds : List D} {vs : List V} {a : Addr} {g : List (Nat × List D)} (hk : ∀ (m : Mp) (mu : List MO) (H : Hp), Keep m0 m H0 H → Rel K m mu H → (∀ p ∈ g, mu[p.1]? = some (.lst p.2)) → ∃ vs, SqL K H a vs ∧ Reps K m H ds vs) : ItOk K g ds (Itl K a) m0 H0 := fun m mu H gr R hg => by
  obtain ⟨vs, hs, hr⟩ := hk m mu H gr R hg
  refine ⟨fun i hi => ⟨vs, hs, by rw [← hr.length]; exact hi⟩, fun i d hd => ?_⟩
  obtain ⟨v, hv, rv⟩ := hr.get hd
  refine ⟨⟨vs, v, hs, hv⟩, fun x H' y => ?_⟩
  obtain ⟨e, y⟩ := y
  subst e
  have e2 := y vs hs
  rw [hv] at e2
  cases e2
  exact ⟨.refl, R, rv⟩
theorem itOk_tup {K : PySem.W.Frag} {m0 : Mp} {H0 : Hp} {ds : List D} {vs : List V} {a : Addr} (hs : SqT K H0 a vs) (hr : Reps K m0 H0 ds vs) : ItOk K [] ds (Itt K a) m0 H0 := fun m mu H gr R hg => by
  have hs' := gr.sqT hs
  have hr' := Reps.keep gr ds vs hr
  refine ⟨fun i hi => ⟨vs, hs', by rw [← hr.length]; exact hi⟩, fun i d hd => ?_⟩
  obtain ⟨v, hv, rv⟩ := hr'.get hd
  refine ⟨⟨vs, v, hs', hv⟩, fun x H' y => ?_⟩
  obtain ⟨e, y⟩ := y
  subst e
  have e2 := y vs hs'
  rw [hv] at e2
  cases e2
  exact ⟨.refl, R, rv⟩
/-- the items of a walked thing -/
def walkD : D → M Wk
  | .tup xs => pure (xs, [])
  | .fl xs => pure (xs, [])
  | .ro xs => pure (xs, [])
  | .ref n => fun mu => match atL mu n with
    | .ok xs mu => .ok (xs, [(n, xs)]) mu
    | _ => .bad
  | .str z => do
    need (z.length ≤ sizeLine)
    pure (z.cps.toList.map fun c => D.str ⟨#[c]⟩, [])
  | _ => bad
def eWalk (r : Env → M D) : Env → M Wk := fun env => r env >>= walkD
theorem mi_seq {r : Env → M D} (h : ME X W iter r) : MI X W tg iter (eWalk r) := ⟨pi_imp (pi_sz (pi_or (pi_list h.pe) (pi_or (pi_tup h.pe) (pi_str h.pe)))) fun σ H Q ⟨env, m, mu, hE, hR, hp⟩ => by
  have e0 : eWalk r env mu = M.bind (r env) walkD mu := rfl
  rw [e0] at hp
  unfold M.bind at hp
  cases hr : r env mu with
  | exc x mu1 => rw [hr] at hp; exact .inl ⟨env, m, mu, hE, hR, by rw [hr]; exact hp⟩
  | bad => rw [hr] at hp; exact hp.elim
  | ok x mu1 =>
    rw [hr] at hp
    cases x
    case tup xs =>
      refine .inr (.inl ⟨env, m, mu, hE, hR, ?_⟩)
      rw [hr]
      intro m' H' g R v rv
      simp only [Rep] at rv
      obtain ⟨a, vs, rfl, hs, hq⟩ := rv
      refine ⟨a, rfl, ⟨vs, hs⟩, fun sz => hp m' H' g R (by show xs.length ≤ _; rw [hq.length]; exact sz.2 a vs hs) _ (itOk_tup hs hq)⟩
    case fl xs =>
      refine .inl ⟨env, m, mu, hE, hR, ?_⟩
      rw [hr]
      intro m' H' g R v rv
      simp only [Rep] at rv
      obtain ⟨a, vs, rfl, hs, hn, hq⟩ := rv
      exact ⟨a, rfl, ⟨vs, .of hs⟩, fun sz => hp m' H' g R (by show xs.length ≤ _; rw [hq.length]; exact sz.1 a vs (.of hs)) _ (itOk_list (vs := vs) (fun m mu H gr R hg => ⟨vs, .of (gr.fl a _ hs hn).1, Reps.keep gr xs vs hq⟩))⟩
    case ro xs =>
      refine .inl ⟨env, m, mu, hE, hR, ?_⟩
      rw [hr]
      intro m' H' g R v rv
      simp only [Rep] at rv
      obtain ⟨a, vs, rfl, hs, hq⟩ := rv
      exact ⟨a, rfl, ⟨vs, hs.sqL⟩, fun sz => hp m' H' g R (by show xs.length ≤ _; rw [hq.length]; exact sz.1 a vs hs.sqL) _ (itOk_list (vs := vs) (fun m mu H gr R hg => ⟨vs, (gr.roAt hs).sqL, Reps.keep gr xs vs hq⟩))⟩
    case ref n =>
      refine .inl ⟨env, m, mu, hE, hR, ?_⟩
      rw [hr]
      intro m' H' g R v rv
      simp only [Rep] at rv
      obtain ⟨a, rfl, hm⟩ := rv
      obtain ⟨o, ho, hro⟩ := R.at' hm
      have e1 : walkD (.ref n) mu1 = match atL mu1 n with
        | .ok xs mu => MP.R.ok (xs, [(n, xs)]) mu
        | _ => .bad := rfl
      have hp : Post X.K W m H (walkD (.ref n) mu1) fun p m' _ H' => p.1.length ≤ sizeLine → ∀ J, ItOk X.K p.2 p.1 J m' H' → Q J H' := hp
      rw [e1] at hp
      cases o with
      | dk kvs => rw [atL_dk ho] at hp; exact (show False from hp).elim
      | lst xs =>
        rw [atL_lst ho] at hp
        obtain ⟨vs, hH, hq⟩ := hro
        refine ⟨a, rfl, ⟨vs, .of hH⟩, fun sz => hp m' H' g R (by show xs.length ≤ _; rw [hq.length]; exact sz.1 a vs (.of hH)) _ (itOk_list (vs := vs) (fun m mu H gr R hg => ?_))⟩
        obtain ⟨ws, h1, h2⟩ := R.obj n _ a (hg (n, xs) (by simp)) (gr.get _ _ hm)
        exact ⟨ws, .of h1, h2⟩
    case str z =>
      refine .inr (.inr ⟨env, m, mu, hE, hR, ?_⟩)
      rw [hr]
      intro m' H' g R v rv
      simp only [Rep] at rv
      refine ⟨z, rv, fun sz => ?_⟩
      have hp : Post X.K W m H ((need (z.length ≤ sizeLine) >>= fun _ => (pure (z.cps.toList.map fun c => D.str ⟨#[c]⟩, []) : M Wk)) mu1) fun p m' _ H' => p.1.length ≤ sizeLine → ∀ J, ItOk X.K p.2 p.1 J m' H' → Q J H' := hp
      obtain ⟨hz, hp⟩ := need_ok R (Post.bind (hp.grow g))
      have ok : ItOk X.K [] (z.cps.toList.map fun c => D.str ⟨#[c]⟩) (Its z) m' H' := fun m2 mu2 H2 gr R2 hg => by
        refine ⟨fun i hi => by show z.cps.size ≤ i; simpa using hi, fun i d hd => ?_⟩
        rw [List.getElem?_map] at hd
        obtain ⟨c, hc, ed⟩ := Option.map_eq_some_iff.mp hd
        have hc' : z.cps[i]? = some c := by simpa using hc
        refine ⟨by show i < z.cps.size; exact (Array.getElem?_eq_some_iff.mp hc').1, fun x H' y => ?_⟩
        obtain ⟨e1, c2, h2, e2⟩ := y
        rw [hc'] at h2
        cases h2
        subst e1 e2 ed
        exact ⟨.refl, R2, by simp only [Rep]⟩
      exact Post.pure hp R (by show (z.cps.toList.map _).length ≤ _; rw [List.length_map, Array.length_toList]; exact hz) _ ok
    all_goals exact (show False from hp).elim⟩
/-- range(n), range(a, b) -/
def rngD (lo : Int) (n : Nat) : List D := (List.range n).map fun (i : Nat) => D.int (lo + (i : Int))
theorem itOk_range {K : PySem.W.Frag} {lo : Int} {n : Nat} {m0 : Mp} {H0 : Hp} : ItOk K [] (rngD lo n) (Itr lo n) m0 H0 := fun m mu H gr R hg => by
  refine ⟨fun i hi => by show n ≤ i; unfold rngD at hi; simpa using hi, fun i d hd => ?_⟩
  unfold rngD at hd
  rw [List.getElem?_map] at hd
  obtain ⟨c, hc, ed⟩ := Option.map_eq_some_iff.mp hd
  obtain ⟨hi, ei⟩ := List.getElem?_eq_some_iff.mp hc
  rw [List.getElem_range] at ei
  subst ei ed
  rw [List.length_range] at hi
  refine ⟨hi, fun x H' y => ?_⟩
  obtain ⟨e1, e2⟩ := y
  subst e1 e2
  exact ⟨.refl, R, by simp only [Rep]⟩
def wRng1 : List D → M Wk
  | [x] => do
    let n ← toI x
    need (-16777216 ≤ n ∧ n ≤ 16777216)
    pure (rngD 0 n.toNat, [])
  | _ => bad
def wRng2 : List D → M Wk
  | [x, y] => do
    let lo ← toI x
    let hi ← toI y
    need (-16777216 ≤ lo ∧ lo ≤ 16777216 ∧ -16777216 ≤ hi ∧ hi ≤ 16777216 ∧ hi - lo ≤ 16777216)
    pure (rngD lo (hi - lo).toNat, [])
  | _ => bad
def wThen (g : List D → M Wk) (rs : Env → M (List D)) : Env → M Wk := fun env => rs env >>= g
theorem rep1 {K : PySem.W.Frag} {m : Mp} {H : Hp} {x : D} {vs : List V} (h : Reps K m H [x] vs) : ∃ v, vs = [v] ∧ Rep K m H x v := by
  obtain ⟨v, r', rfl, h1, h2⟩ := Reps.cons_iff.mp h
  rw [Reps.nil_iff] at h2
  subst h2
  exact ⟨v, rfl, h1⟩
theorem rep2 {K : PySem.W.Frag} {m : Mp} {H : Hp} {x y : D} {vs : List V} (h : Reps K m H [x, y] vs) : ∃ v w, vs = [v, w] ∧ Rep K m H x v ∧ Rep K m H y w := by
  obtain ⟨v, r', rfl, h1, h2⟩ := Reps.cons_iff.mp h
  obtain ⟨w, rfl, h3⟩ := rep1 h2
  exact ⟨v, w, rfl, h1, h3⟩
theorem rngD_len (lo : Int) (n : Nat) : (rngD lo n).length = n := by unfold rngD; rw [List.length_map, List.length_range]
theorem mi_range1 {rs : Env → M (List D)} (hg : Gl X "range") (hm : X.mg "range" = none) (h : MA X W [a] rs) (hs : starEach [a] X.env = [(false, eval a X.env)] := by rfl) : MI X W tg (.Call (.Name "range" p) [a] [] pos) (wThen wRng1 rs) :=
  ⟨pi_imp (pi_range1 hg hm h.pa hs) fun σ H Q ⟨env, m, mu, hE, hR, hp⟩ => ⟨env, m, mu, hE, hR, (Post.bind hp).mono fun xs m1 mu1 H1 g1 R1 hp vs rv => by
    match xs, rv, hp with
    | [x], rv, hp =>
      obtain ⟨v, rfl, h1⟩ := rep1 rv
      obtain ⟨n, rfl, rfl, hp⟩ := toI_ok R1 h1 (Post.bind hp)
      obtain ⟨hc, hp⟩ := need_ok R1 (Post.bind hp)
      exact ⟨n, rfl, by omega, by omega, Post.pure hp R1 (by show (rngD 0 n.toNat).length ≤ _; rw [rngD_len, sizeLine_eq]; omega) _ itOk_range⟩
    | [], _, hp => exact (show False from hp).elim
    | _ :: _ :: _, _, hp => exact (show False from hp).elim⟩⟩
theorem mi_range2 {rs : Env → M (List D)} (hg : Gl X "range") (hm : X.mg "range" = none) (h : MA X W [a, b] rs) (hs : starEach [a, b] X.env = [(false, eval a X.env), (false, eval b X.env)] := by rfl) (hs2 : starEach [b] X.env = [(false, eval b X.env)] := by rfl) :
    MI X W tg (.Call (.Name "range" p) [a, b] [] pos) (wThen wRng2 rs) :=
  ⟨pi_imp (pi_range2 hg hm h.pa hs hs2) fun σ H Q ⟨env, m, mu, hE, hR, hp⟩ => ⟨env, m, mu, hE, hR, (Post.bind hp).mono fun xs m1 mu1 H1 g1 R1 hp vs rv => by
    match xs, rv, hp with
    | [x, y], rv, hp =>
      obtain ⟨v, w, rfl, h1, h2⟩ := rep2 rv
      obtain ⟨n, rfl, rfl, hp⟩ := toI_ok R1 h1 (Post.bind hp)
      obtain ⟨k, rfl, rfl, hp⟩ := toI_ok R1 h2 (Post.bind hp)
      obtain ⟨hc, hp⟩ := need_ok R1 (Post.bind hp)
      exact ⟨n, k, rfl, ⟨by omega, by omega, by omega, by omega⟩, Post.pure hp R1 (by show (rngD n (k - n).toNat).length ≤ _; rw [rngD_len, sizeLine_eq]; omega) _ itOk_range⟩
    | [], _, hp => exact (show False from hp).elim
    | [_], _, hp => exact (show False from hp).elim
    | _ :: _ :: _ :: _, _, hp => exact (show False from hp).elim⟩⟩
/-- enumerate(xs) -/
def enumD : Int → List D → List D
  | _, [] => []
  | k, d :: ds => .tup [.int k, d] :: enumD (k + 1) ds
theorem enumD_get : ∀ (ds : List D) (k : Int) (i : Nat), (enumD k ds)[i]? = (ds[i]?).map fun d => .tup [.int (k + (i : Int)), d]
  | [], _, _ => by simp [enumD]
  | d :: ds, k, 0 => by simp [enumD]
  | d :: ds, k, i + 1 => by
    simp only [enumD, List.getElem?_cons_succ]
    rw [enumD_get ds (k + 1) i]
    have e : k + 1 + (i : Int) = k + ((i + 1 : Nat) : Int) := by omega
    rw [e]
theorem enumD_len : ∀ (ds : List D) (k : Int), (enumD k ds).length = ds.length
  | [], _ => rfl
  | d :: ds, k => by simp only [enumD, List.length_cons]; rw [enumD_len ds]
/-- a list that is walked, at its address -/
def LsAt (K : PySem.W.Frag) (g : List (Nat × List D)) (ds : List D) (a : Addr) (m0 : Mp) (H0 : Hp) : Prop := ∀ (m : Mp) (mu : List MO) (H : Hp), Keep m0 m H0 H → Rel K m mu H → (∀ p ∈ g, mu[p.1]? = some (.lst p.2)) → ∃ vs, SqL K H a vs ∧ Reps K m H ds vs
/-- a list, and how it is held still -/
def rdW : D → M Wk
  | .fl xs => pure (xs, [])
  | .ro xs => pure (xs, [])
  | .ref n => fun mu => match atL mu n with
    | .ok xs mu => .ok (xs, [(n, xs)]) mu
    | _ => .bad
  | _ => bad
theorem rdW_ok {K : PySem.W.Frag} {W : Wx} {m : Mp} {H : Hp} {mu : List MO} {d : D} {v : V} {Q : Wk → Mp → List MO → Hp → Prop} (R : Rel K m mu H) (h : Rep K m H d v) (hp : Post K W m H (rdW d mu) Q) : ∃ a xs g vs, v = .ref a ∧ SqL K H a vs ∧ Reps K m H xs vs ∧ LsAt K g xs a m H ∧ Q (xs, g) m mu H := by
  cases d <;> simp only [Rep] at h
  case fl ds =>
    obtain ⟨a, vs, rfl, hs, hn, hr⟩ := h
    exact ⟨a, ds, [], vs, rfl, .of hs, hr, fun m2 mu2 H2 gr R2 _ => ⟨vs, .of (gr.fl a _ hs hn).1, Reps.keep gr ds vs hr⟩, hp m H .refl R⟩
  case ro ds =>
    obtain ⟨a, vs, rfl, hs, hr⟩ := h
    exact ⟨a, ds, [], vs, rfl, hs.sqL, hr, fun m2 mu2 H2 gr R2 _ => ⟨vs, (gr.roAt hs).sqL, Reps.keep gr ds vs hr⟩, hp m H .refl R⟩
  case ref n =>
    obtain ⟨a, rfl, hm⟩ := h
    obtain ⟨o, ho, hro⟩ := R.at' hm
    have e1 : rdW (.ref n) mu = match atL mu n with
      | .ok xs mu => MP.R.ok (xs, [(n, xs)]) mu
      | _ => .bad := rfl
    rw [e1] at hp
    cases o with
    | dk kvs => rw [atL_dk ho] at hp; exact (show False from hp).elim
    | lst xs =>
      rw [atL_lst ho] at hp
      obtain ⟨vs, hH, hq⟩ := hro
      refine ⟨a, xs, [(n, xs)], vs, rfl, .of hH, hq, fun m2 mu2 H2 gr R2 hg => ?_, hp m H .refl R⟩
      obtain ⟨ws, h1, h2⟩ := R2.obj n _ a (hg (n, xs) (by simp)) (gr.get _ _ hm)
      exact ⟨ws, .of h1, h2⟩
  all_goals exact (show False from hp).elim
theorem pairT {K : PySem.W.Frag} {m : Mp} {mu : List MO} {H : Hp} {x y : D} {v w : V} {T : Addr} (R : Rel K m mu H) (h1 : Rep K m H x v) (h2 : Rep K m H y w) (hn : H T = none) : Grow m m H (upd H T (.tup [v, w])) ∧ Rel K m mu (upd H T (.tup [v, w])) ∧ Rep K m (upd H T (.tup [v, w])) (.tup [x, y]) (.ref T) :=
  new_tup R (Reps.cons_iff.mpr ⟨v, [w], rfl, h1, Reps.one h2⟩) hn
theorem itOk_enum {K : PySem.W.Frag} {m0 : Mp} {H0 : Hp} {ds : List D} {a : Addr} {g : List (Nat × List D)} (hk : LsAt K g ds a m0 H0) : ItOk K g (enumD 0 ds) (Ite K a) m0 H0 := fun m mu H gr R hg => by
  obtain ⟨vs, hs, hr⟩ := hk m mu H gr R hg
  refine ⟨fun i hi => ⟨vs, hs, by rw [← hr.length, ← enumD_len ds 0]; exact hi⟩, fun i d hd => ?_⟩
  rw [enumD_get] at hd
  obtain ⟨x, hx, ed⟩ := Option.map_eq_some_iff.mp hd
  obtain ⟨v, hv, rv⟩ := hr.get hx
  refine ⟨⟨vs, v, hs, hv⟩, fun y H' yy => ?_⟩
  obtain ⟨T, z, rfl, hn, rfl, u⟩ := yy
  have e2 := u vs hs
  rw [hv] at e2
  cases e2
  subst ed
  rw [Int.zero_add]
  exact pairT R (by simp only [Rep]) rv hn
def wEnum : List D → M Wk
  | [x] => do
    let p ← rdW x
    pure (enumD 0 p.1, p.2)
  | _ => bad
theorem mi_enum {elts : List Expr} {kk : Nat} {tpos : Pos} {rs : Env → M (List D)} (hg : Gl X "enumerate") (hm : X.mg "enumerate" = none) (h : MA X W [a] rs) (hs : starEach [a] X.env = [(false, eval a X.env)] := by rfl) : MI X W (.Tuple elts kk tpos) (.Call (.Name "enumerate" p) [a] [] pos) (wThen wEnum rs) :=
  ⟨pi_imp (pi_sz (pi_enum hg hm h.pa hs)) fun σ H Q ⟨env, m, mu, hE, hR, hp⟩ => ⟨env, m, mu, hE, hR, (Post.bind hp).mono fun xs m1 mu1 H1 g1 R1 hp vs rv => by
    match xs, rv, hp with
    | [x], rv, hp =>
      obtain ⟨v, rfl, h1⟩ := rep1 rv
      obtain ⟨a, ds, g, vs, rfl, hs, hr, hk, hp⟩ := rdW_ok R1 h1 (Post.bind hp)
      exact ⟨a, vs, rfl, hs, fun sz => Post.pure hp R1 (by show (enumD 0 ds).length ≤ _; rw [enumD_len, hr.length]; exact sz.1 a vs hs) _ (itOk_enum hk)⟩
    | [], _, hp => exact (show False from hp).elim
    | _ :: _ :: _, _, hp => exact (show False from hp).elim⟩⟩
/-- zip(xs, ys): two lists, or two tuples -/
def zipD (xs ys : List D) : List D := List.zipWith (fun x y => .tup [x, y]) xs ys
theorem zipD_len (xs ys : List D) : (zipD xs ys).length = min xs.length ys.length := by unfold zipD; rw [List.length_zipWith]
theorem zipD_get {xs ys : List D} {i : Nat} {d : D} (h : (zipD xs ys)[i]? = some d) : ∃ x y, xs[i]? = some x ∧ ys[i]? = some y ∧ d = .tup [x, y] := by
  unfold zipD at h
  rw [List.getElem?_zipWith] at h
  cases ex : xs[i]? with
  | none => rw [ex] at h; simp at h
  | some x =>
    cases ey : ys[i]? with
    | none => rw [ex, ey] at h; simp at h
    | some y => rw [ex, ey] at h; simp at h; exact ⟨x, y, rfl, rfl, h.symm⟩
theorem itOk_zip {K : PySem.W.Frag} {m0 : Mp} {H0 : Hp} {ds es : List D} {a b : Addr} {g g' : List (Nat × List D)} (hk : LsAt K g ds a m0 H0) (hk' : LsAt K g' es b m0 H0) : ItOk K (g ++ g') (zipD ds es) (Itz K a b) m0 H0 := fun m mu H gr R hg => by
  obtain ⟨vs, hs, hr⟩ := hk m mu H gr R fun p hp => hg p (List.mem_append_left _ hp)
  obtain ⟨ws, hs', hr'⟩ := hk' m mu H gr R fun p hp => hg p (List.mem_append_right _ hp)
  refine ⟨fun i hi => ⟨vs, ws, hs, hs', by rw [← hr.length, ← hr'.length]; rw [zipD_len] at hi; omega⟩, fun i d hd => ?_⟩
  obtain ⟨x, y, hx, hy, rfl⟩ := zipD_get hd
  obtain ⟨v, hv, rv⟩ := hr.get hx
  obtain ⟨w, hw, rw'⟩ := hr'.get hy
  refine ⟨⟨vs, ws, v, w, hs, hs', hv, hw⟩, fun z H' yy => ?_⟩
  obtain ⟨T, x2, y2, rfl, hn, rfl, u, u'⟩ := yy
  have e2 := u vs hs
  rw [hv] at e2
  cases e2
  have e3 := u' ws hs'
  rw [hw] at e3
  cases e3
  exact pairT R rv rw' hn
theorem itOk_zipT {K : PySem.W.Frag} {m0 : Mp} {H0 : Hp} {ds es : List D} {vs ws : List V} {a b : Addr} (hs0 : SqT K H0 a vs) (hr0 : Reps K m0 H0 ds vs) (hs0' : SqT K H0 b ws) (hr0' : Reps K m0 H0 es ws) : ItOk K [] (zipD ds es) (RZ.ItzT K a b) m0 H0 := fun m mu H gr R hg => by
  have hs := gr.sqT hs0
  have hr := Reps.keep gr _ _ hr0
  have hs' := gr.sqT hs0'
  have hr' := Reps.keep gr _ _ hr0'
  refine ⟨fun i hi => ⟨vs, ws, hs, hs', by rw [← hr.length, ← hr'.length]; rw [zipD_len] at hi; omega⟩, fun i d hd => ?_⟩
  obtain ⟨x, y, hx, hy, rfl⟩ := zipD_get hd
  obtain ⟨v, hv, rv⟩ := hr.get hx
  obtain ⟨w, hw, rw'⟩ := hr'.get hy
  refine ⟨⟨vs, ws, v, w, hs, hs', hv, hw⟩, fun z H' yy => ?_⟩
  obtain ⟨T, x2, y2, rfl, hn, rfl, u, u'⟩ := yy
  have e2 := u vs hs
  rw [hv] at e2
  cases e2
  have e3 := u' ws hs'
  rw [hw] at e3
  cases e3
  exact pairT R rv rw' hn
def zip2 : D → D → M Wk
  | .tup xs, y => do
    let ys ← toT y
    pure (zipD xs ys, [])
  | x, y => do
    let p ← rdW x
    let q ← rdW y
    pure (zipD p.1 q.1, p.2 ++ q.2)
def wZip : List D → M Wk
  | [x, y] => zip2 x y
  | _ => bad
theorem mi_zip {elts : List Expr} {kk : Nat} {tpos : Pos} {rs : Env → M (List D)} (hg : Gl X "zip") (hm : X.mg "zip" = none) (h : MA X W [a, b] rs) (hs : starEach [a, b] X.env = (false, eval a X.env) :: starEach [b] X.env := by rfl) (hpl : (backTo pos (starEach [b] X.env)).any (·.1) = false := by rfl) :
    MI X W (.Tuple elts kk tpos) (.Call (.Name "zip" p) [a, b] [] pos) (wThen wZip rs) :=
  ⟨pi_imp (pi_sz (RZ.pi_zipA hg hm h.pa hs hpl)) fun σ H Q ⟨env, m, mu, hE, hR, hp⟩ => ⟨env, m, mu, hE, hR, (Post.bind hp).mono fun xs m1 mu1 H1 g1 R1 hp vs rv => by
    match xs, rv, hp with
    | [x, y], rv, hp =>
      obtain ⟨v, w, rfl, h1, h2⟩ := rep2 rv
      have lst : ∀ x, Rep X.K m1 H1 x v → Post X.K W m1 H1 ((do let p ← rdW x; let q ← rdW y; pure (zipD p.1 q.1, p.2 ++ q.2)) mu1) (fun (p : Wk) m' _ H' => p.1.length ≤ sizeLine → ∀ J, ItOk X.K p.2 p.1 J m' H' → Q J H') → ∃ a b xs ys, [v, w] = [V.ref a, V.ref b] ∧ ((SqL X.K H1 a xs ∧ SqL X.K H1 b ys ∧ (Sz X.K H1 → Q (Itz X.K a b) H1)) ∨ (SqT X.K H1 a xs ∧ SqT X.K H1 b ys ∧ (Sz X.K H1 → Q (RZ.ItzT X.K a b) H1))) := fun x h1 hp => by
        obtain ⟨a, ds, g, vs, rfl, hs, hr, hk, hp⟩ := rdW_ok R1 h1 (Post.bind hp)
        obtain ⟨b, es, g', ws, rfl, hs', hr', hk', hp⟩ := rdW_ok R1 h2 (Post.bind hp)
        exact ⟨a, b, vs, ws, rfl, .inl ⟨hs, hs', fun sz => Post.pure hp R1 (by show (zipD ds es).length ≤ _; have := sz.1 a vs hs; rw [zipD_len, hr.length]; omega) _ (itOk_zip hk hk')⟩⟩
      cases x
      case tup xs =>
        obtain ⟨ys, b, ws, rfl, rfl, hs', hr', hp⟩ := toT_ok R1 h2 (Post.bind hp)
        simp only [Rep] at h1
        obtain ⟨a, vs, rfl, hs, hr⟩ := h1
        exact ⟨a, b, vs, ws, rfl, .inr ⟨hs, hs', fun sz => Post.pure hp R1 (by show (zipD xs ys).length ≤ _; have := sz.2 a vs hs; rw [zipD_len, hr.length]; omega) _ (itOk_zipT hs hr hs' hr')⟩⟩
      all_goals exact lst _ h1 hp
    | [], _, hp => exact (show False from hp).elim
    | [_], _, hp => exact (show False from hp).elim
    | _ :: _ :: _ :: _, _, hp => exact (show False from hp).elim⟩⟩
end
end MP
namespace MP
open PySem L2 PyProof.Rows
/-! ### targets -/
/-- the slots outside of l are as they were -/
def Off (l : List Nat) (σ' σ : L2.St) : Prop := σ'.length = σ.length ∧ ∀ i, i ∉ l → σ'[i]? = σ[i]?
def tG (K : PySem.W.Frag) (W : Wx) (l : List Nat) (asg : D → Env → M Env) : TG := fun v σ H Q => ∃ d env m mu, RepE K m H env σ ∧ Rel K m mu H ∧ Rep K m H d v ∧ Post K W m H (asg d env mu) fun env' m' _ H' => ∀ σ', RepE K m' H' env' σ' → Off l σ' σ → Q σ' H'
def tGs (K : PySem.W.Frag) (W : Wx) (l : List Nat) (asg : List D → Env → M Env) : TGs := fun vs σ H Q => ∃ ds env m mu, RepE K m H env σ ∧ Rel K m mu H ∧ Reps K m H ds vs ∧ Post K W m H (asg ds env mu) fun env' m' _ H' => ∀ σ', RepE K m' H' env' σ' → Off l σ' σ → Q σ' H'
structure MG (X : Cx) (W : Wx) (tg : Expr) (l : List Nat) (asg : D → Env → M Env) : Prop where
  pg : PG X tg (tG X.K W l asg)
structure MGs (X : Cx) (W : Wx) (tg : List Expr) (l : List Nat) (asg : List D → Env → M Env) : Prop where
  pg : PGs X tg (tGs X.K W l asg)
section
variable {X : Cx} {W : Wx} {e a b tg iter : Expr} {es : List Expr} {pos p : Pos}
theorem Off.refl {l : List Nat} {σ : L2.St} : Off l σ σ := ⟨rfl, fun _ _ => rfl⟩
theorem Off.trans {l l' : List Nat} {σ σ1 σ2 : L2.St} (h : Off l σ1 σ) (h' : Off l' σ2 σ1) : Off (l ++ l') σ2 σ := ⟨h'.1.trans h.1, fun i hi => by
  rw [List.mem_append, not_or] at hi
  rw [h'.2 i hi.2, h.2 i hi.1]⟩
theorem _root_.L2.PG.imp {t t' : TG} (h : PG X tg t) (i : ∀ v σ H Q, t' v σ H Q → t v σ H Q) : PG X tg t' := ⟨fun pins s σ H v u Q I r q => h.run pins s σ H v u Q I r (i v σ H Q q)⟩
theorem _root_.L2.PGs.imp {ts : List Expr} {t t' : TGs} (h : PGs X ts t) (i : ∀ v σ H Q, t' v σ H Q → t v σ H Q) : PGs X ts t' := ⟨fun pins s σ H v u Q I r q => h.run pins s σ H v u Q I r (i v σ H Q q)⟩
def asgN (i : Nat) : D → Env → M Env := fun d env => pure (env.set i (some d))
theorem mg_of {i : Nat} (h : PG X tg (gName i)) : MG X W tg [i] (asgN i) := ⟨h.imp fun v σ H Q ⟨d, env, m, mu, hE, hR, hd, hp⟩ =>
  Post.pure hp hR _ (hE.set hd) ⟨by rw [List.length_set], fun j hj => by rw [List.getElem?_set_ne (fun z => hj (by rw [z]; exact List.mem_singleton.mpr rfl))]⟩⟩
def asgNil : List D → Env → M Env := fun ds env => match ds with
  | [] => pure env
  | _ => bad
def asgCons (f : D → Env → M Env) (g : List D → Env → M Env) : List D → Env → M Env := fun ds env => match ds with
  | d :: ds => f d env >>= fun env' => g ds env'
  | [] => bad
theorem mgs_nil : MGs X W [] [] asgNil := ⟨pgs_nil.imp fun vs σ H Q ⟨ds, env, m, mu, hE, hR, hd, hp⟩ => by
  match ds, hd, hp with
  | [], hd, hp =>
    rw [Reps.nil_iff] at hd
    exact ⟨hd, Post.pure hp hR _ hE .refl⟩
  | _ :: _, _, hp => exact (show False from hp).elim⟩
theorem mgs_cons {l l' : List Nat} {f : D → Env → M Env} {g : List D → Env → M Env} (h : MG X W e l f) (h' : MGs X W es l' g) (hs : (assignEach (e :: es) X.env).map (·.2) = assign e X.env :: (assignEach es X.env).map (·.2) := by rfl) : MGs X W (e :: es) (l ++ l') (asgCons f g) :=
  ⟨(pgs_cons h.pg h'.pg hs).imp fun vs σ H Q ⟨ds, env, m, mu, hE, hR, hd, hp⟩ => by
    match ds, hd, hp with
    | [], _, hp => exact (show False from hp).elim
    | d :: ds, hd, hp =>
      obtain ⟨v, r, rfl, h1, h2⟩ := Reps.cons_iff.mp hd
      exact ⟨v, r, rfl, d, env, m, mu, hE, hR, h1, (Post.bind hp).mono fun env1 m1 mu1 H1 g1 R1 hp σ1 hE1 o1 =>
        ⟨ds, env1, m1, mu1, hE1, R1, Reps.grow g1 ds r h2, hp.mono fun env2 m2 mu2 H2 g2 R2 hq σ2 hE2 o2 => hq σ2 hE2 (o1.trans o2)⟩⟩⟩
def asgT (n : Nat) (g : List D → Env → M Env) : D → Env → M Env := fun d env => toT d >>= fun xs => need (xs.length = n) >>= fun _ => g xs env
theorem mg_tup {k : Nat} {l : List Nat} {g : List D → Env → M Env} {n : Nat} (hc : X.calm = true) (h : MGs X W es l g) (hn : (assignEach es X.env).length = n := by rfl) (hst : (assignEach es X.env).findIdx? (·.1) = none := by rfl) : MG X W (.Tuple es k pos) l (asgT n g) :=
  ⟨(pg_tup hc h.pg hn hst).imp fun v σ H Q ⟨d, env, m, mu, hE, hR, hd, hp⟩ => by
    obtain ⟨xs, a, vs, rfl, rfl, hs, hr, hp⟩ := toT_ok hR hd (Post.bind hp)
    obtain ⟨c, hp⟩ := need_ok hR (Post.bind hp)
    exact ⟨a, vs, rfl, hs, by rw [← hr.length]; exact c, xs, env, m, mu, hE, hR, hr, hp⟩⟩
theorem mg_par {l : List Nat} {g : D → Env → M Env} (h : MG X W tg l g) : MG X W tg l g := h

/-! ### loops -/
open Classical in
/-- the walked lists stand as they stood -/
noncomputable def chk (g : List (Nat × List D)) : M Unit := fun mu => if ∀ p ∈ g, mu[p.1]? = some (.lst p.2) then .ok () mu else .bad
theorem chk_ok {K : PySem.W.Frag} {m : Mp} {H : Hp} {mu : List MO} {g : List (Nat × List D)} {Q : Unit → Mp → List MO → Hp → Prop} (R : Rel K m mu H) (hp : Post K W m H (chk g mu) Q) : (∀ p ∈ g, mu[p.1]? = some (.lst p.2)) ∧ Q () m mu H := by
  unfold chk at hp
  split at hp
  · rename_i h
    exact ⟨h, hp m H .refl R⟩
  · exact (show False from hp).elim
/-- for: over the items; fg: the slots that are forgotten ahead of each turn and behind the loop -/
noncomputable def loopF (asg : D → Env → M Env) (body : Env → M Fl) (fg : List Nat) (g : List (Nat × List D)) : List D → Env → M Fl
  | [], env => chk g >>= fun _ => pure (.nx (wipeE env fg))
  | d :: ds, env => chk g >>= fun _ => asg d (wipeE env fg) >>= fun env1 => body env1 >>= fun fl => match fl with
    | .nx e => loopF asg body fg g ds e
    | .ct e => loopF asg body fg g ds e
    | .bk e => pure (.nx (wipeE e fg))
    | .rt rv => pure (.rt rv)
noncomputable def sFor (r : Env → M Wk) (asg : D → Env → M Env) (body : Env → M Fl) (fg : List Nat) : Env → M Fl := fun env => r env >>= fun p => loopF asg body fg p.2 p.1 env
theorem FlQ.from {K : PySem.W.Frag} {D : Ends} {m m1 m' : Mp} {H H1 H' : Hp} {mu' : List MO} {fl : Fl} (h : FlQ K D H fl m' mu' H') (g : Grow m m1 H H1) : FlQ K D H1 fl m' mu' H' := by
  cases fl with
  | rt rv => exact RvQ.from h g
  | nx e => exact h
  | bk e => exact h
  | ct e => exact h
theorem ms_for {fg l : List Nat} {r : Env → M Wk} {asg : D → Env → M Env} {body : List Stmt} {rb : Env → M Fl} (hp : PassesOwn (model X.prog X.w) X.A X.env X.xe) (hc : X.calm = true) (hi : MI X W tg iter r) (hg : MG X W tg l asg) (hb : MSs X W body rb)
    (hs : ∀ x, foldedSetIterable iter X.env x = pure x := by intro _; rfl) : MS X W (.For tg iter body [] pos) (sFor r asg rb fg) := ⟨(ps_for hp hc hi.pi hg.pg hb.ps hs).imp fun D σ H ⟨env, m, mu, hE, hR, hp⟩ =>
  ⟨env, m, mu, hE, hR, (Post.bind hp).mono fun p m1 mu1 H1 g1 R1 hp _ J ok => by
    refine ⟨fun i k σ2 H2 => ∃ rest env2 m2 mu2, k = rest.length ∧ p.1.drop i = rest ∧ RepE X.K m2 H2 env2 σ2 ∧ Rel X.K m2 mu2 H2 ∧ Grow m1 m2 H1 H2 ∧ Post X.K W m2 H2 (loopF asg rb fg p.2 rest env2 mu2) fun fl m' mu' H' => FlQ X.K D H fl m' mu' H', ⟨_, p.1, env, m1, mu1, rfl, rfl, hE.grow g1, R1, .refl, hp⟩, ?_⟩
    rintro i k σ2 H2 ⟨rest, env2, m2, mu2, rfl, hd, hE2, R2, g2, hp2⟩
    cases rest with
    | nil =>
      obtain ⟨hch, hp2⟩ := chk_ok R2 (Post.bind hp2)
      have q := Post.pure hp2 R2
      refine .inl ⟨((ok m2 mu2 H2 g2.keep R2 hch).1 i) (by rw [List.drop_eq_nil_iff] at hd; exact hd), q σ2 (hE2.wipeL fg)⟩
    | cons d ds =>
      obtain ⟨hch, hp2⟩ := chk_ok R2 (Post.bind hp2)
      have hdi : p.1[i]? = some d := by
        have e : (p.1.drop i)[0]? = some d := by rw [hd]; rfl
        rw [List.getElem?_drop] at e
        simpa using e
      have hds : p.1.drop (i + 1) = ds := by
        have e := congrArg List.tail hd
        rw [List.tail_drop] at e
        exact e
      obtain ⟨go, yl⟩ := (ok m2 mu2 H2 g2.keep R2 hch).2 i d hdi
      refine .inr ⟨go, fun σ3 H3 => ∃ env3 m3 mu3, RepE X.K m3 H3 env3 σ3 ∧ Rel X.K m3 mu3 H3 ∧ Grow m1 m3 H1 H3 ∧ Post X.K W m3 H3 (loopF asg rb fg p.2 ds env3 mu3) fun fl m' mu' H' => FlQ X.K D H fl m' mu' H',
        fun σ3 H3 ⟨env3, m3, mu3, hE3, R3, g3, hp3⟩ => ⟨ds.length, Nat.lt_succ_self _, ds, env3, m3, mu3, rfl, hds, hE3, R3, g3, hp3⟩, fun x H3 y => ?_⟩
      obtain ⟨gy, Ry, rx⟩ := yl x H3 y
      refine ⟨d, wipeE env2 fg, m2, mu2, (hE2.grow gy).wipeL fg, Ry, rx, (Post.bind (hp2.grow gy)).mono fun env4 m4 mu4 H4 g4 R4 hp4 σ4 hE4 _ => ⟨env4, m4, mu4, hE4, R4, ?_⟩⟩
      have e0 : (rb env4 >>= fun fl => match fl with
        | .nx e => loopF asg rb fg p.2 ds e
        | .ct e => loopF asg rb fg p.2 ds e
        | .bk e => pure (.nx (wipeE e fg))
        | .rt rv => pure (.rt rv)) mu4 = M.bind (rb env4) _ mu4 := rfl
      rw [e0] at hp4
      unfold M.bind at hp4
      cases hr : rb env4 mu4 with
      | bad => rw [hr] at hp4; exact hp4
      | exc x mu5 => rw [hr] at hp4; exact hp4
      | ok fl mu5 =>
        rw [hr] at hp4
        intro m5 H5 g5 R5
        cases fl with
        | nx e => exact fun σ5 hE5 => ⟨e, m5, mu5, hE5, R5, (((g2.trans gy).trans g4).trans g5), hp4.grow g5⟩
        | ct e => exact fun σ5 hE5 => ⟨e, m5, mu5, hE5, R5, (((g2.trans gy).trans g4).trans g5), hp4.grow g5⟩
        | bk e => exact fun σ5 hE5 => (hp4 m5 H5 g5 R5) σ5 (hE5.wipeL fg)
        | rt rv => exact RvQ.from (hp4 m5 H5 g5 R5) ((g1.trans (g2.trans gy)).trans g4)⟩⟩
end
end MP
namespace MP
open PySem L2 PyProof.Rows
section
variable {X : Cx} {W : Wx} {e a b tg iter : Expr} {es : List Expr} {pos p : Pos} {st : Stmt} {rest : List Stmt}
/-! ### while -/
/-- a lid on the turns; never reckoned with -/
def lid : Nat := 10 ^ 12
def loopW (c : Env → M Bool) (body : Env → M Fl) (fg : List Nat) : Nat → Env → M Fl
  | 0, _ => bad
  | n + 1, env => c (wipeE env fg) >>= fun b => if b = true then (body (wipeE env fg) >>= fun fl => match fl with
    | .nx e => loopW c body fg n e
    | .ct e => loopW c body fg n e
    | .bk e => pure (.nx (wipeE e fg))
    | .rt rv => pure (.rt rv)) else pure (.nx (wipeE env fg))
def sWhile (c : Env → M Bool) (body : Env → M Fl) (fg : List Nat) : Env → M Fl := fun env => loopW c body fg lid env
theorem ms_while {fg : List Nat} {c : Expr} {body : List Stmt} {rc : Env → M Bool} {rb : Env → M Fl} (hp : PassesOwn (model X.prog X.w) X.A X.env X.xe) (hc : MT X W c rc) (hb : MSs X W body rb) : MS X W (.While c body [] pos) (sWhile rc rb fg) := ⟨(ps_while hp hc.pt hb.ps).imp fun D σ H ⟨env, m, mu, hE, hR, hp⟩ => by
  refine ⟨fun k σ2 H2 => ∃ env2 m2 mu2, RepE X.K m2 H2 env2 σ2 ∧ Rel X.K m2 mu2 H2 ∧ Grow m m2 H H2 ∧ Post X.K W m2 H2 (loopW rc rb fg k env2 mu2) fun fl m' mu' H' => FlQ X.K D H fl m' mu' H', ⟨_, env, m, mu, hE, hR, .refl, hp⟩, ?_⟩
  rintro k σ2 H2 ⟨env2, m2, mu2, hE2, R2, g2, hp2⟩
  cases k with
  | zero => exact (show False from hp2).elim
  | succ k =>
    refine ⟨wipeE env2 fg, m2, mu2, hE2.wipeL fg, R2, (Post.bind hp2).mono fun b m3 mu3 H3 g3 R3 hp3 => ?_⟩
    cases b with
    | false =>
      rw [if_neg Bool.false_ne_true]
      exact (Post.pure hp3 R3) σ2 ((hE2.grow g3).wipeL fg)
    | true =>
      rw [if_pos rfl]
      rw [if_pos rfl] at hp3
      refine ⟨fun σ5 H5 => ∃ env5 m5 mu5, RepE X.K m5 H5 env5 σ5 ∧ Rel X.K m5 mu5 H5 ∧ Grow m m5 H H5 ∧ Post X.K W m5 H5 (loopW rc rb fg k env5 mu5) fun fl m' mu' H' => FlQ X.K D H fl m' mu' H',
        fun σ5 H5 h => ⟨k, Nat.lt_succ_self _, h⟩, wipeE env2 fg, m3, mu3, (hE2.grow g3).wipeL fg, R3, ?_⟩
      have e0 : (rb (wipeE env2 fg) >>= fun fl => match fl with
        | .nx e => loopW rc rb fg k e
        | .ct e => loopW rc rb fg k e
        | .bk e => pure (.nx (wipeE e fg))
        | .rt rv => pure (.rt rv)) mu3 = M.bind (rb (wipeE env2 fg)) _ mu3 := rfl
      rw [e0] at hp3
      unfold M.bind at hp3
      cases hr : rb (wipeE env2 fg) mu3 with
      | bad => rw [hr] at hp3; exact hp3
      | exc x mu5 => rw [hr] at hp3; exact hp3
      | ok fl mu5 =>
        rw [hr] at hp3
        intro m5 H5 g5 R5
        cases fl with
        | nx e => exact fun σ5 hE5 => ⟨e, m5, mu5, hE5, R5, (g2.trans g3).trans g5, hp3.grow g5⟩
        | ct e => exact fun σ5 hE5 => ⟨e, m5, mu5, hE5, R5, (g2.trans g3).trans g5, hp3.grow g5⟩
        | bk e => exact fun σ5 hE5 => (hp3 m5 H5 g5 R5) σ5 (hE5.wipeL fg)
        | rt rv => exact RvQ.from (hp3 m5 H5 g5 R5) (g2.trans g3)⟩

/-! ### small statements -/
def sNext : Env → M Fl := fun env => pure (.nx env)
def sSeq (r r' : Env → M Fl) : Env → M Fl := fun env => r env >>= fun fl => match fl with
  | .nx e => r' e
  | fl => pure fl
theorem mss_nil : MSs X W [] sNext := ⟨pss_nil.imp fun D σ H ⟨env, m, mu, hE, hR, hp⟩ => Post.pure hp hR σ hE⟩
theorem mss_one {r : Env → M Fl} (h : MS X W st r) : MSs X W [st] r := ⟨pss_one h.ps⟩
theorem mss_cons {r r' : Env → M Fl} (h : MS X W st r) (h' : MSs X W rest r') : MSs X W (st :: rest) (sSeq r r') := ⟨(pss_cons h.ps h'.ps).imp fun D σ H ⟨env, m, mu, hE, hR, hp⟩ => by
  refine ⟨env, m, mu, hE, hR, ?_⟩
  have e0 : sSeq r r' env mu = M.bind (r env) (fun fl => match fl with
    | .nx e => r' e
    | fl => pure fl) mu := rfl
  rw [e0] at hp
  unfold M.bind at hp
  cases hr : r env mu with
  | bad => rw [hr] at hp; exact hp
  | exc x mu5 => rw [hr] at hp; exact hp
  | ok fl mu5 =>
    rw [hr] at hp
    intro m5 H5 g5 R5
    cases fl with
    | nx e => exact fun σ5 hE5 => ⟨e, m5, mu5, hE5, R5, (hp.grow g5).mono fun fl m' mu' H' _ _ q => FlQ.from q g5⟩
    | ct e => exact hp m5 H5 g5 R5
    | bk e => exact hp m5 H5 g5 R5
    | rt rv => exact hp m5 H5 g5 R5⟩
theorem ms_pass : MS X W (.Pass pos) sNext := ⟨ps_pass.imp fun D σ H ⟨env, m, mu, hE, hR, hp⟩ => Post.pure hp hR σ hE⟩
def sBreak : Env → M Fl := fun env => pure (.bk env)
def sCont : Env → M Fl := fun env => pure (.ct env)
theorem ms_break : MS X W (.Break pos) sBreak := ⟨ps_break.imp fun D σ H ⟨env, m, mu, hE, hR, hp⟩ => Post.pure hp hR σ hE⟩
theorem ms_continue : MS X W (.Continue pos) sCont := ⟨ps_continue.imp fun D σ H ⟨env, m, mu, hE, hR, hp⟩ => Post.pure hp hR σ hE⟩
def sExpr (r : Env → M D) : Env → M Fl := fun env => r env >>= fun _ => pure (.nx env)
theorem ms_expr {r : Env → M D} (h : ME X W e r) (hs : swapsWith e none pos.line X.env = pure false := by rfl) : MS X W (.Expr e pos) (sExpr r) := ⟨(ps_expr h.pe hs).imp fun D σ H ⟨env, m, mu, hE, hR, hp⟩ =>
  ⟨env, m, mu, hE, hR, (Post.bind hp).mono fun x m1 mu1 H1 g1 R1 hp v rv => (Post.pure hp R1) σ (hE.grow g1)⟩⟩
def sRet (r : Env → M D) : Env → M Fl := fun env => r env >>= fun d => pure (.rt (.vl d))
theorem ms_ret {r : Env → M D} (h : ME X W e r) : MS X W (.Return (some e) pos) (sRet r) := ⟨(ps_ret h.pe).imp fun D σ H ⟨env, m, mu, hE, hR, hp⟩ =>
  ⟨env, m, mu, hE, hR, (Post.bind hp).mono fun x m1 mu1 H1 g1 R1 hp v rv => (Post.pure hp R1) v rv⟩⟩
def sRetF (r : Env → M (List D)) : Env → M Fl := fun env => r env >>= fun ds => pure (.rt (.fr ds))
theorem ms_retF {r : Env → M (List D)} (h : MF X W e r) : MS X W (.Return (some e) pos) (sRetF r) := ⟨(ps_ret h.pe).imp fun D σ H ⟨env, m, mu, hE, hR, hp⟩ =>
  ⟨env, m, mu, hE, hR, (Post.bind hp).mono fun x m1 mu1 H1 g1 R1 hp => Post.pure hp R1⟩⟩
def sRetN : Env → M Fl := fun env => pure (.rt (.vl .non))
theorem ms_retN : MS X W (.Return none pos) sRetN := ⟨ps_retN.imp fun D σ H ⟨env, m, mu, hE, hR, hp⟩ => (Post.pure hp hR) .non (by simp only [Rep])⟩
theorem ms_if {c : Expr} {s1 s2 : List Stmt} {t : Env → M Bool} {r r' : Env → M Fl} (hc : MT X W c t) (h : MSs X W s1 r) (h' : MSs X W s2 r') : MS X W (.If c s1 s2 pos) (eIf t r r') := ⟨(ps_if hc.pt h.ps h'.ps).imp fun D σ H ⟨env, m, mu, hE, hR, hp⟩ =>
  ⟨env, m, mu, hE, hR, (Post.bind hp).mono fun b m1 mu1 H1 g1 R1 hp => by
    cases b
    · exact ⟨env, m1, mu1, hE.grow g1, R1, hp.mono fun fl m' mu' H' _ _ q => FlQ.from q g1⟩
    · exact ⟨env, m1, mu1, hE.grow g1, R1, hp.mono fun fl m' mu' H' _ _ q => FlQ.from q g1⟩⟩⟩
def sAsg (r : Env → M D) (asg : D → Env → M Env) : Env → M Fl := fun env => r env >>= fun d => asg d env >>= fun env' => pure (.nx env')
theorem asg_go {l : List Nat} {r : Env → M D} {asg : D → Env → M Env} : ∀ D σ H, tS X.K W (sAsg r asg) D σ H → tAsg (tE X.K W r) (tG X.K W l asg) D σ H := fun D σ H ⟨env, m, mu, hE, hR, hp⟩ =>
  ⟨env, m, mu, hE, hR, (Post.bind hp).mono fun x m1 mu1 H1 g1 R1 hp v rv => ⟨x, env, m1, mu1, hE.grow g1, R1, rv, (Post.bind hp).mono fun env2 m2 mu2 H2 g2 R2 hp σ2 hE2 _ => (Post.pure hp R2) σ2 hE2⟩⟩
theorem ms_asg {l : List Nat} {r : Env → M D} {asg : D → Env → M Env} (h : ME X W e r) (hg : MG X W tg l asg) (hs : swapsWithSole [tg] e pos.line X.env = pure false := by rfl) (hw : swappedStores [tg] e X.env = pure none := by rfl) (h1 : (assignEach [tg] X.env).map (·.2) = [assign tg X.env] := by rfl) : MS X W (.Assign [tg] e pos) (sAsg r asg) :=
  ⟨(ps_asg h.pe hg.pg hs hw h1).imp (asg_go (l := l))⟩
/-- name = value -/
def sSet (i : Nat) (r : Env → M D) : Env → M Fl := fun env => r env >>= fun d => pure (.nx (env.set i (some d)))
theorem set_go {i : Nat} {r : Env → M D} : ∀ D σ H, tS X.K W (sSet i r) D σ H → tAsg (tE X.K W r) (gName i) D σ H := fun D σ H ⟨env, m, mu, hE, hR, hp⟩ =>
  ⟨env, m, mu, hE, hR, (Post.bind hp).mono fun x m1 mu1 H1 g1 R1 hp v rv => (Post.pure hp R1) _ ((hE.grow g1).set rv)⟩
theorem ms_set {i : Nat} {x : Str} {r : Env → M D} {pos' : Pos} (hN : X.N.Nodup) (hi : X.N[i]? = some x) (hx : Loc X.env.scope x) (h : ME X W e r) (hs : swapsWith e (some (.Name x pos')) pos.line X.env = pure false := by rfl) (hf : X.fn x = true ∨ X.env.scope.names.lookup x = some .local := by first | exact .inl rfl | exact .inr rfl | assumption) :
    MS X W (.Assign [.Name x pos'] e pos) (sSet i r) := ⟨(ps_set hN hi hx h.pe hs hf).imp set_go⟩
/-- name op= value -/
def sAug (i : Nat) (g : D → D → M D) (r : Env → M D) : Env → M Fl := fun env => eVar i env >>= fun x => r env >>= fun y => g x y >>= fun z => pure (.nx (env.set i (some z)))
theorem ms_aug {i : Nat} {x : Str} {op : Operator} {rr : R2} {g : D → D → M D} {r : Env → M D} {pos' : Pos} (hN : X.N.Nodup) (hi : X.N[i]? = some x) (hx : Loc X.env.scope x) (h : ME X W e r) (ho : OpR X (inplaceOp op) rr) (o : OpM X.K W rr g) (hf : X.fn x = true ∨ X.env.scope.names.lookup x = some .local := by first | exact .inl rfl | exact .inr rfl | assumption) :
    MS X W (.AugAssign (.Name x pos') op e pos) (sAug i g r) := ⟨(ps_aug (ti := fun x y H Q => rr x y H Q) hN hi hx h.pe (fun pins s σ H x y v u Q I r1 r2 h => ho pins s σ H x y v u Q I r1 r2 h) hf).imp fun D σ H ⟨env, m, mu, hE, hR, hp⟩ => by
  have hp0 := Post.bind hp
  cases ev : env[i]? with
  | none => unfold eVar at hp0; rw [ev] at hp0; exact (show False from hp0).elim
  | some o2 =>
    cases o2 with
    | none => unfold eVar at hp0; rw [ev] at hp0; exact (show False from hp0).elim
    | some d =>
      unfold eVar at hp0
      rw [ev] at hp0
      obtain ⟨v, hv, rv⟩ := hE.get i d ev
      have hp1 := Post.pure hp0 hR
      exact ⟨v, hv, env, m, mu, hE, hR, (Post.bind hp1).mono fun y m1 mu1 H1 g1 R1 hp2 w rw' => o.go d y v w m1 mu1 H1 _ R1 (Rep.grow g1 d v rv) rw' ((Post.bind hp2).mono fun z m2 mu2 H2 g2 R2 hp3 u ru => (Post.pure hp3 R2) _ (((hE.grow g1).grow g2).set ru))⟩⟩
end
end MP
namespace MP
open PySem L2 PyProof.Rows
/-! ### objects of the small heap that change -/
/-- the list at a place is changed by f, which hands back what the method gives -/
def modLr (o : Option MO) (n : Nat) (f : List D → Option (List D × D)) (mu : List MO) : R D := match o with
  | some (.lst xs) => match f xs with
    | some (ys, d) => .ok d (mu.set n (.lst ys))
    | none => .bad
  | _ => .bad
def modL (n : Nat) (f : List D → Option (List D × D)) : M D := fun mu => modLr mu[n]? n f mu
def modDr (o : Option MO) (n : Nat) (f : List (Key × D) → Option (List (Key × D) × D)) (mu : List MO) : R D := match o with
  | some (.dk xs) => match f xs with
    | some (ys, d) => .ok d (mu.set n (.dk ys))
    | none => .bad
  | _ => .bad
def modD (n : Nat) (f : List (Key × D) → Option (List (Key × D) × D)) : M D := fun mu => modDr mu[n]? n f mu
def toR : D → M Nat
  | .ref n => pure n
  | _ => bad
section
variable {K : PySem.W.Frag} {W : Wx} {m m' : Mp} {H H' : Hp} {mu : List MO}
theorem toR_ok {d : D} {v : V} {Q : Nat → Mp → List MO → Hp → Prop} (rl : Rel K m mu H) (h : Rep K m H d v) (hp : Post K W m H (toR d mu) Q) : ∃ n a, d = .ref n ∧ v = .ref a ∧ m.ad[n]? = some a ∧ Q n m mu H := by
  cases d
  case ref n => simp only [Rep] at h; obtain ⟨a, e, hm⟩ := h; exact ⟨n, a, rfl, e, hm, hp m H .refl rl⟩
  all_goals exact (show False from hp).elim
theorem modL_ok {n : Nat} {f : List D → Option (List D × D)} {a : Addr} {Q : D → Mp → List MO → Hp → Prop} (R : Rel K m mu H) (hm : m.ad[n]? = some a) (hp : Post K W m H (modL n f mu) Q) : ∃ xs vs ys d, H a = some (.lst vs) ∧ Reps K m H xs vs ∧ f xs = some (ys, d) ∧
    (∀ ws, Grow m m H (upd H a (.lst ws))) ∧ ∀ ws, Reps K m (upd H a (.lst ws)) ys ws → Q d m (mu.set n (.lst ys)) (upd H a (.lst ws)) := by
  unfold modL at hp
  obtain ⟨o, ho, hr⟩ := R.at' hm
  rw [ho] at hp
  cases o with
  | dk _ => exact (show False from hp).elim
  | lst xs =>
    obtain ⟨vs, hH, hr⟩ := hr
    cases e : f xs with
    | none =>
      have hp : Post K W m H (match f xs with
        | some (ys, d) => MP.R.ok d (mu.set n (.lst ys))
        | none => .bad) Q := hp
      rw [e] at hp; exact (show False from hp).elim
    | some p =>
      obtain ⟨ys, d⟩ := p
      have hp : Post K W m H (match f xs with
        | some (ys, d) => MP.R.ok d (mu.set n (.lst ys))
        | none => .bad) Q := hp
      rw [e] at hp
      exact ⟨xs, vs, ys, d, hH, hr, e, fun ws => .write R hm, fun ws hw => hp m _ (.write R hm) (R.write hm ⟨ws, upd_same, hw⟩)⟩
theorem modD_ok {n : Nat} {f : List (Key × D) → Option (List (Key × D) × D)} {a : Addr} {Q : D → Mp → List MO → Hp → Prop} (R : Rel K m mu H) (hm : m.ad[n]? = some a) (hp : Post K W m H (modD n f mu) Q) : ∃ xs vs ys d, H a = some (.dK ((xs.map (·.1)).zip vs)) ∧ Reps K m H (xs.map (·.2)) vs ∧ f xs = some (ys, d) ∧
    (∀ ws, Grow m m H (upd H a (.dK ws))) ∧ ∀ ws, Reps K m (upd H a (.dK ((ys.map (·.1)).zip ws))) (ys.map (·.2)) ws → Q d m (mu.set n (.dk ys)) (upd H a (.dK ((ys.map (·.1)).zip ws))) := by
  unfold modD at hp
  obtain ⟨o, ho, hr⟩ := R.at' hm
  rw [ho] at hp
  cases o with
  | lst _ => exact (show False from hp).elim
  | dk xs =>
    obtain ⟨vs, hH, hr⟩ := hr
    have hp : Post K W m H (match f xs with
      | some (ys, d) => MP.R.ok d (mu.set n (.dk ys))
      | none => .bad) Q := hp
    cases e : f xs with
    | none => rw [e] at hp; exact (show False from hp).elim
    | some p =>
      obtain ⟨ys, d⟩ := p
      rw [e] at hp
      exact ⟨xs, vs, ys, d, hH, hr, e, fun ws => .write R hm, fun ws hw => hp m _ (.write R hm) (R.write hm ⟨ws, upd_same, hw⟩)⟩
end
/-- it is a list -/
def lstK : D → M Unit
  | .fl _ => pure ()
  | .ro _ => pure ()
  | .ref n => fun mu => match mu[n]? with
    | some (.lst _) => .ok () mu
    | _ => .bad
  | _ => bad
def eMeth (k : D → M Unit) (g : D → List D → M D) (ro : Env → M D) (rs : Env → M (List D)) : Env → M D := fun env => ro env >>= fun o => k o >>= fun _ => rs env >>= fun xs => g o xs
structure MethM (K : PySem.W.Frag) (W : Wx) (r : V → List V → Hp → VK → Prop) (g : D → List D → M D) : Prop where
  go : ∀ (o : D) (ds : List D) (v : V) (vs : List V) (m : Mp) (mu : List MO) (H : Hp) (Q : VK), Rel K m mu H → Rep K m H o v → Reps K m H ds vs → Post K W m H (g o ds mu) (fun d m' _ H' => ∀ u, Rep K m' H' d u → Q u H') → r v vs H Q
section
variable {X : Cx} {W : Wx} {e o a b tg iter : Expr} {es : List Expr} {pos apos cpos p : Pos}
theorem lstK_ok {K : PySem.W.Frag} {m : Mp} {H : Hp} {mu : List MO} {d : D} {v : V} {Q : Unit → Mp → List MO → Hp → Prop} (R : Rel K m mu H) (h : Rep K m H d v) (hp : Post K W m H (lstK d mu) Q) : ∃ a vs, v = .ref a ∧ SqL K H a vs ∧ Q () m mu H := by
  cases d <;> simp only [Rep] at h
  case fl ds => obtain ⟨a, vs, rfl, hs, _, _⟩ := h; exact ⟨a, vs, rfl, .of hs, hp m H .refl R⟩
  case ro ds => obtain ⟨a, vs, rfl, hs, _⟩ := h; exact ⟨a, vs, rfl, hs.sqL, hp m H .refl R⟩
  case ref n =>
    obtain ⟨a, rfl, hm⟩ := h
    obtain ⟨o, ho, hr⟩ := R.at' hm
    have e1 : lstK (.ref n) mu = match mu[n]? with
      | some (.lst _) => MP.R.ok () mu
      | _ => .bad := rfl
    rw [e1, ho] at hp
    cases o with
    | dk _ => exact (show False from hp).elim
    | lst xs => obtain ⟨vs, hH, _⟩ := hr; exact ⟨a, vs, rfl, .of hH, hp m H .refl R⟩
  all_goals exact (show False from hp).elim
theorem meth_go {T : String} {k : D → M Unit} {r : V → List V → Hp → VK → Prop} {g : D → List D → M D} {ro : Env → M D} {rs : Env → M (List D)} (c : MethM X.K W r g)
    (hk : ∀ (m : Mp) (mu : List MO) (H : Hp) (d : D) (v : V) (Q : Unit → Mp → List MO → Hp → Prop), Rel X.K m mu H → Rep X.K m H d v → Post X.K W m H (k d mu) Q → tyV X.K T v H ∧ Q () m mu H) : ∀ σ H Q, tE X.K W (eMeth k g ro rs) σ H Q → tBM X.K T r (tE X.K W ro) (tA X.K W rs) σ H Q := fun σ H Q ⟨env, m, mu, hE, hR, hp⟩ =>
  ⟨env, m, mu, hE, hR, (Post.bind hp).mono fun x m1 mu1 H1 g1 R1 hp1 v rv => by
    obtain ⟨ty, hp2⟩ := hk m1 mu1 H1 x v _ R1 rv (Post.bind hp1)
    exact ⟨ty, env, m1, mu1, hE.grow g1, R1, (Post.bind hp2).mono fun xs m2 mu2 H2 g2 R2 hp3 vs rvs => c.go x xs v vs m2 mu2 H2 Q R2 (Rep.grow g2 x v rv) rvs hp3⟩⟩
theorem me_lmeth {id : String} {name : Str} {r : V → List V → Hp → VK → Prop} {g : D → List D → M D} {ro : Env → M D} {rs : Env → M (List D)} (slot : Slot "list" name id) (hty : typeOf (.builtin id) = pure (.type "method_descriptor")) (hm : MtR X id r) (c : MethM X.K W r g) (h : ME X W o ro) (hs : MA X W (e :: es) rs)
    (hbase : attributeBase o name X.env (eval o X.env) = eval o X.env := by rfl)
    (hfew : ((backTo cpos (starEach (e :: es) X.env)).all (fun x => !x.1) && (backToKw cpos (keywordEach [] X.env)).all (fun x => x.1.isSome)
      && decide ((e :: es).length + ([] : List Keyword).length + (if ([] : List Keyword).isEmpty then 0 else 1) < 30)) = true := by rfl)
    (hline : (apos.endLine == cpos.line) = true := by rfl) (hst : starEach (e :: es) X.env = (false, eval e X.env) :: starEach es X.env := by rfl) (hplain : (backTo cpos (starEach es X.env)).any (·.1) = false := by rfl) :
    ME X W (.Call (.Attribute o name apos) (e :: es) [] cpos) (eMeth lstK g ro rs) :=
  ⟨(pe_bm PySem.F.plainAttrs_list slot hty hm h.pe hs.pa hbase hfew hline hst hplain).imp (meth_go c fun m mu H d v Q R hd hp => by
    obtain ⟨a, vs, rfl, hs, q⟩ := lstK_ok R hd hp
    exact ⟨.inl ⟨rfl, vs, hs⟩, q⟩)⟩
theorem me_lmeth0 {id : String} {name : Str} {r : V → List V → Hp → VK → Prop} {g : D → List D → M D} {ro : Env → M D} (slot : Slot "list" name id) (hty : typeOf (.builtin id) = pure (.type "method_descriptor")) (hm : MtR X id r) (c : MethM X.K W r g) (h : ME X W o ro)
    (hbase : attributeBase o name X.env (eval o X.env) = eval o X.env := by rfl) (hline : (apos.endLine == cpos.line) = true := by rfl) :
    ME X W (.Call (.Attribute o name apos) [] [] cpos) (eMeth lstK g ro aNil) :=
  ⟨(pe_bm0 PySem.F.plainAttrs_list slot hty hm h.pe hbase hline).imp fun σ H Q hq => by
    obtain ⟨env, m, mu, hE, hR, hp⟩ := hq
    exact ⟨env, m, mu, hE, hR, (Post.bind hp).mono fun x m1 mu1 H1 g1 R1 hp1 v rv => by
      obtain ⟨a, vs, rfl, hs, hp2⟩ := lstK_ok R1 rv (Post.bind hp1)
      exact ⟨.inl ⟨rfl, vs, hs⟩, c.go x [] _ [] m1 mu1 H1 Q R1 rv (Reps.nil_iff.mpr rfl) (Post.pure (Post.bind hp2) R1)⟩⟩⟩
/-- append -/
def gAppend : D → List D → M D
  | .ref n, [y] => modL n fun xs => if xs.length < sizeLine then some (xs ++ [y], .non) else none
  | _, _ => bad
theorem methM_append : MethM X.K W rAppend gAppend := ⟨fun o ds v vs m mu H Q R ho hr hp => by
  cases o
  case ref n =>
    match ds, hr, hp with
    | [y], hr, hp =>
      obtain ⟨w, rfl, hw⟩ := rep1 hr
      simp only [Rep] at ho
      obtain ⟨a, rfl, hm⟩ := ho
      obtain ⟨xs, us, ys, d, hH, hrs, hf, hg, hq⟩ := modL_ok R hm hp
      by_cases c : xs.length < sizeLine
      · rw [if_pos c] at hf
        cases hf
        refine ⟨a, us, w, rfl, rfl, hH, by rw [← hrs.length]; exact c, ?_⟩
        exact hq (us ++ [w]) ((Reps.grow (hg _) xs us hrs).append (Reps.one (Rep.grow (hg _) y w hw))) .non (by simp only [Rep])
      · rw [if_neg c] at hf; cases hf
    | [], _, hp => exact (show False from hp).elim
    | _ :: _ :: _, _, hp => exact (show False from hp).elim
  all_goals exact (show False from hp).elim⟩
/-- extend -/
def gExtend : D → List D → M D
  | .ref n, [y] => rdM y >>= fun zs => modL n fun xs => if xs.length + zs.length ≤ sizeLine then some (xs ++ zs, .non) else none
  | _, _ => bad
theorem methM_extend : MethM X.K W rExtend gExtend := ⟨fun o ds v vs m mu H Q R ho hr hp => by
  cases o
  case ref n =>
    match ds, hr, hp with
    | [y], hr, hp =>
      obtain ⟨w, rfl, hw⟩ := rep1 hr
      simp only [Rep] at ho
      obtain ⟨a, rfl, hm⟩ := ho
      obtain ⟨b, zs, ws, rfl, hb, hz, _, hp⟩ := rdM_ok R hw (Post.bind hp)
      obtain ⟨xs, us, ys, d, hH, hrs, hf, hg, hq⟩ := modL_ok R hm hp
      by_cases c : xs.length + zs.length ≤ sizeLine
      · rw [if_pos c] at hf
        cases hf
        refine ⟨a, b, us, ws, rfl, rfl, hH, hb, by rw [← hrs.length, ← hz.length]; exact c, ?_⟩
        exact hq (us ++ ws) ((Reps.grow (hg _) xs us hrs).append (Reps.grow (hg _) zs ws hz)) .non (by simp only [Rep])
      · rw [if_neg c] at hf; cases hf
    | [], _, hp => exact (show False from hp).elim
    | _ :: _ :: _, _, hp => exact (show False from hp).elim
  all_goals exact (show False from hp).elim⟩
/-- insert -/
def gInsert : D → List D → M D
  | .ref n, [x, y] => toI x >>= fun i => modL n fun xs => if xs.length < sizeLine ∧ 0 ≤ i ∧ i < 2 ^ 63 then some (xs.take i.toNat ++ [y] ++ xs.drop i.toNat, .non) else none
  | _, _ => bad
def rInsert : V → List V → Hp → VK → Prop := fun x vs H Q => ∃ (l : Addr) (xs : List V) (i : Int) (y : V), x = .ref l ∧ vs = [.int i, y] ∧ H l = some (.lst xs) ∧ xs.length < sizeLine ∧ 0 ≤ i ∧ i < 2 ^ 63 ∧ Q .non (upd H l (.lst (xs.take i.toNat ++ [y] ++ xs.drop i.toNat)))
theorem methM_insert : MethM X.K W rInsert gInsert := ⟨fun o ds v vs m mu H Q R ho hr hp => by
  cases o
  case ref n =>
    match ds, hr, hp with
    | [x, y], hr, hp =>
      obtain ⟨v, w, rfl, hv, hw⟩ := rep2 hr
      simp only [Rep] at ho
      obtain ⟨a, rfl, hm⟩ := ho
      obtain ⟨i, rfl, rfl, hp⟩ := toI_ok R hv (Post.bind hp)
      obtain ⟨xs, us, ys, d, hH, hrs, hf, hg, hq⟩ := modL_ok R hm hp
      by_cases c : xs.length < sizeLine ∧ 0 ≤ i ∧ i < 2 ^ 63
      · rw [if_pos c] at hf
        cases hf
        refine ⟨a, us, i, w, rfl, rfl, hH, by rw [← hrs.length]; exact c.1, c.2.1, c.2.2, ?_⟩
        have hrs' : ∀ ws, Reps X.K m (upd H a (.lst ws)) xs us := fun ws => Reps.grow (hg ws) xs us hrs
        exact hq _ ((((hrs' _).take _).append (Reps.one (Rep.grow (hg _) y w hw))).append ((hrs' _).drop _)) .non (by simp only [Rep])
      · rw [if_neg c] at hf; cases hf
    | [], _, hp => exact (show False from hp).elim
    | [_], _, hp => exact (show False from hp).elim
    | _ :: _ :: _ :: _, _, hp => exact (show False from hp).elim
  all_goals exact (show False from hp).elim⟩
/-- pop(), pop(i) -/
def gPop0 : D → List D → M D
  | .ref n, [] => modL n fun xs => match xs[xs.length - 1]? with
    | some y => some (xs.dropLast, y)
    | none => none
  | _, _ => bad
theorem Reps.dropLast {K : PySem.W.Frag} {m : Mp} {H : Hp} {ds : List D} {vs : List V} (h : Reps K m H ds vs) : Reps K m H ds.dropLast vs.dropLast := by
  rw [List.dropLast_eq_take, List.dropLast_eq_take, h.length]
  exact h.take _
theorem methM_pop0 : MethM X.K W rPop gPop0 := ⟨fun o ds v vs m mu H Q R ho hr hp => by
  cases o
  case ref n =>
    match ds, hr, hp with
    | [], hr, hp =>
      rw [Reps.nil_iff] at hr
      subst hr
      simp only [Rep] at ho
      obtain ⟨a, rfl, hm⟩ := ho
      obtain ⟨xs, us, ys, d, hH, hrs, hf, hg, hq⟩ := modL_ok R hm hp
      cases e : xs[xs.length - 1]? with
      | none => rw [e] at hf; cases hf
      | some y =>
        rw [e] at hf
        cases hf
        obtain ⟨w, hw, rw'⟩ := hrs.get e
        refine ⟨a, us, w, rfl, rfl, hH, by rw [← hrs.length]; exact hw, ?_⟩
        exact hq _ (Reps.dropLast (Reps.grow (hg _) xs us hrs)) w (Rep.grow (hg _) _ w rw')
    | _ :: _, _, hp => exact (show False from hp).elim
  all_goals exact (show False from hp).elim⟩
def gPopAt : D → List D → M D
  | .ref n, [x] => toI x >>= fun i => modL n fun xs => if -(2 ^ 63) ≤ i ∧ i < 2 ^ 63 then match seqIndex? i xs.length with
    | some k => match xs[k]? with
      | some y => some (xs.eraseIdx k, y)
      | none => none
    | none => none else none
  | _, _ => bad
theorem Reps.eraseIdx {K : PySem.W.Frag} {m : Mp} {H : Hp} : ∀ {ds : List D} {vs : List V} (i : Nat), Reps K m H ds vs → Reps K m H (ds.eraseIdx i) (vs.eraseIdx i)
  | [], vs, i, h => by rw [Reps.nil_iff] at h; subst h; exact Reps.nil_iff.mpr rfl
  | d :: ds, vs, i, h => by
    obtain ⟨v, r, rfl, h1, h2⟩ := Reps.cons_iff.mp h
    cases i with
    | zero => exact h2
    | succ i => exact Reps.cons_iff.mpr ⟨v, _, rfl, h1, Reps.eraseIdx i h2⟩
theorem methM_popAt : MethM X.K W rPopAt gPopAt := ⟨fun o ds v vs m mu H Q R ho hr hp => by
  cases o
  case ref n =>
    match ds, hr, hp with
    | [y], hr, hp =>
      obtain ⟨w, rfl, hw⟩ := rep1 hr
      simp only [Rep] at ho
      obtain ⟨a, rfl, hm⟩ := ho
      obtain ⟨i, rfl, rfl, hp⟩ := toI_ok R hw (Post.bind hp)
      obtain ⟨xs, us, ys, d, hH, hrs, hf, hg, hq⟩ := modL_ok R hm hp
      by_cases c : -(2 ^ 63) ≤ i ∧ i < 2 ^ 63
      · rw [if_pos c] at hf
        cases ek : seqIndex? i xs.length with
        | none => rw [ek] at hf; cases hf
        | some k =>
          rw [ek] at hf
          cases e : xs[k]? with
          | none => simp only [e] at hf; cases hf
          | some y =>
            simp only [e] at hf
            cases hf
            obtain ⟨w, hw, rw'⟩ := hrs.get e
            refine ⟨a, us, i, k, w, rfl, rfl, hH, c.1, c.2, by rw [← hrs.length]; exact ek, hw, ?_⟩
            exact hq _ (Reps.eraseIdx k (Reps.grow (hg _) xs us hrs)) w (Rep.grow (hg _) _ w rw')
      · rw [if_neg c] at hf; cases hf
    | [], _, hp => exact (show False from hp).elim
    | _ :: _ :: _, _, hp => exact (show False from hp).elim
  all_goals exact (show False from hp).elim⟩
/-- xs[i] = e -/
def setL (o i v : D) : M D := toR o >>= fun n => toI i >>= fun k => modL n fun xs => match ixN xs.length k with
  | some j => some (xs.set j v, .non)
  | none => none
def sSub (ro ri rv : Env → M D) : Env → M Fl := fun env => rv env >>= fun v => ro env >>= fun o => ri env >>= fun i => setL o i v >>= fun _ => pure (.nx env)
theorem ms_sub {ro ri rv : Env → M D} {sp : Pos} (ho : ME X W o ro) (hi : ME X W a ri) (hv : ME X W e rv)
    (ha : ∀ v, assign (.Subscript o a sp) X.env v = (do
      let ov ← holding [v] (eval o X.env)
      let iv ← holding [v, ov] (eval a X.env)
      standAt sp
      holding [v, ov, iv] (setItem ov iv v)
      release [v, ov, iv] []) := by intro _; rfl)
    (hs : swapsWithSole [.Subscript o a sp] e pos.line X.env = pure false := by rfl) (hw : swappedStores [.Subscript o a sp] e X.env = pure none := by rfl) (h1 : (assignEach [.Subscript o a sp] X.env).map (·.2) = [assign (.Subscript o a sp) X.env] := by rfl) :
    MS X W (.Assign [.Subscript o a sp] e pos) (sSub ro ri rv) := ⟨(ps_asg hv.pe (pg_sub ho.pe hi.pe set_list ha) hs hw h1).imp fun D σ H ⟨env, m, mu, hE, hR, hp⟩ =>
  ⟨env, m, mu, hE, hR, (Post.bind hp).mono fun v m1 mu1 H1 g1 R1 hp vv rv => ⟨env, m1, mu1, hE.grow g1, R1, (Post.bind hp).mono fun o m2 mu2 H2 g2 R2 hp ov ro => ⟨env, m2, mu2, (hE.grow g1).grow g2, R2, (Post.bind hp).mono fun i m3 mu3 H3 g3 R3 hp iv ri => by
    have hp := Post.bind hp
    unfold setL at hp
    obtain ⟨n, a, rfl, rfl, hm, hp⟩ := toR_ok R3 (Rep.grow g3 o ov ro) (Post.bind hp)
    obtain ⟨k, rfl, rfl, hp⟩ := toI_ok R3 ri (Post.bind hp)
    obtain ⟨xs, us, ys, d, hH, hrs, hf, hg, hq⟩ := modL_ok R3 hm hp
    cases ej : ixN xs.length k with
    | none => rw [ej] at hf; cases hf
    | some j =>
      rw [ej] at hf
      cases hf
      refine ⟨a, us, k, j, rfl, rfl, hH, by rw [← hrs.length]; exact ej, ?_⟩
      have gg := hg (us.set j vv)
      have q := hq (us.set j vv) (Reps.set (Rep.grow gg v vv (Rep.grow g3 v vv (Rep.grow g2 v vv rv))) j (Reps.grow gg xs us hrs))
      exact (Post.pure q (R3.write hm ⟨_, upd_same, Reps.set (Rep.grow gg v vv (Rep.grow g3 v vv (Rep.grow g2 v vv rv))) j (Reps.grow gg xs us hrs)⟩)) σ (((hE.grow g1).grow g2).grow g3 |>.grow gg)⟩⟩⟩⟩
end
end MP
namespace MP
open PySem L2 PyProof.Rows
/-! ### list comprehensions -/
/-- no exception -/
def noX {α : Type} (c : M α) : M α := fun mu => match c mu with
  | .exc _ _ => .bad
  | r => r
abbrev W0 : Wx := fun _ _ _ => False
theorem noX_post {K : PySem.W.Frag} {W : Wx} {m : Mp} {H : Hp} {mu : List MO} {α : Type} {c : M α} {Q : α → Mp → List MO → Hp → Prop} (h : Post K W m H (noX c mu) Q) : Post K W0 m H (c mu) Q := by
  have e : noX c mu = match c mu with
    | .exc _ _ => .bad
    | r => r := rfl
  rw [e] at h
  cases hc : c mu with
  | ok a mu' => rw [hc] at h; exact h
  | exc x mu' => rw [hc] at h; exact (show False from h).elim
  | bad => rw [hc] at h; exact h
noncomputable def loopC (asg : D → Env → M Env) (t : Env → M Bool) (r : Env → M D) (g : List (Nat × List D)) : List D → Env → M (List D)
  | [], _ => chk g >>= fun _ => pure []
  | d :: ds, env => chk g >>= fun _ => asg d env >>= fun env1 => t env1 >>= fun b => if b = true then (r env1 >>= fun x => loopC asg t r g ds env >>= fun xs => pure (x :: xs)) else loopC asg t r g ds env
/-- [elt for .. in .. if ..]; vs: the slots of the comprehension's own names -/
noncomputable def fComp (w : Env → M Wk) (asg : D → Env → M Env) (t : Env → M Bool) (r : Env → M D) (vs : List Nat) : Env → M (List D) := fun env => w env >>= fun p => noX (loopC asg t r p.2 p.1 (wipeE env vs))
def tYesM : Env → M Bool := fun _ => pure true
structure MTs (X : Cx) (W : Wx) (ifs : List Expr) (r : Env → M Bool) : Prop where
  pt : PTs X ifs (tT X.K W r)
theorem _root_.L2.PTs.imp {X : Cx} {ifs : List Expr} {t t' : TT} (h : PTs X ifs t) (i : ∀ σ H Q, t' σ H Q → t σ H Q) : PTs X ifs t' := ⟨fun pins s σ H Q I q => h.run pins s σ H Q I (i σ H Q q)⟩
section
variable {X : Cx} {W : Wx} {e o a b tg iter elt : Expr} {es ifs : List Expr} {pos apos cpos p : Pos}
theorem mts_nil : MTs X W [] tYesM := ⟨pts_nil.imp fun σ H Q ⟨env, m, mu, hE, hR, hp⟩ => Post.pure hp hR⟩
theorem mts_one {r : Env → M Bool} (h : MT X W e r) : MTs X W [e] r := ⟨pts_one h.pt⟩
theorem wipe_off {vs : List Nat} {σ' σ : L2.St} {l : List Nat} (h : Off l σ' (L2.wipe σ vs)) (hl : ∀ i ∈ l, i ∈ vs) : L2.wipe σ' vs = L2.wipe σ vs := by
  have len : σ'.length = σ.length := by rw [h.1, L2.wipe_length]
  apply List.ext_getElem?
  intro i
  by_cases hi : i ∈ vs
  · have none_at : ∀ (τ : L2.St), τ.length = σ.length → (L2.wipe τ vs)[i]? = if i < σ.length then some none else none := by
      intro τ ht
      clear h hl len
      induction vs with
      | nil => cases hi
      | cons j vs ih =>
        show ((L2.wipe τ vs).set j none)[i]? = _
        by_cases hj : j = i
        · subst hj
          by_cases hlt : j < σ.length
          · rw [List.getElem?_set_self (by rw [L2.wipe_length, ht]; exact hlt), if_pos hlt]
          · rw [List.getElem?_eq_none (by rw [List.length_set, L2.wipe_length, ht]; omega), if_neg hlt]
        · rw [List.getElem?_set_ne hj]
          exact ih (by rcases List.mem_cons.mp hi with z | z; exact absurd z.symm hj; exact z)
    rw [none_at σ' len, none_at σ rfl]
  · rw [L2wipe_get hi, h.2 i (fun z => hi (hl i z))]
/-- the comprehension's list, for its reading -/
theorem comp_go {wi : TI} {vs l : List Nat} {w : Env → M Wk} {asg : D → Env → M Env} {t : Env → M Bool} {r : Env → M D} (hl : ∀ i ∈ l, i ∈ vs) (hwi : wi = tI X.K W w) : ∀ σ H Q, tF X.K W (fComp w asg t r vs) σ H Q → tLc wi (tG X.K W0 l asg) (tT X.K W0 t) (tE X.K W0 r) vs σ H Q := by
  subst hwi
  rintro σ H Q ⟨env, m, mu, hE, hR, hp⟩
  refine ⟨env, m, mu, hE, hR, (Post.bind hp).mono fun p m1 mu1 H1 g1 R1 hp0 hz J ok => ?_⟩
  have hp0 := noX_post hp0
  intro Dd hDn
  have hdead : ∀ b o, H1 b = some o → b ≠ Dd := fun b o e z => by rw [z, hDn] at e; cases e
  have hD0 : H Dd = none := g1.none_of hDn
  refine ⟨fun i k H2 => ∃ rest acc vs2 m2 mu2, k = rest.length ∧ p.1.drop i = rest ∧ acc.length ≤ i ∧ H2 Dd = some (.lst vs2) ∧ Dd ∈ m2.no ∧ Dd ∉ m2.ad ∧ Reps X.K m2 H2 acc vs2 ∧ Rel X.K m2 mu2 H2 ∧ RepE X.K m2 H2 (wipeE env vs) (L2.wipe σ vs) ∧ Grow m1 m2 H1 H2 ∧
      Post X.K W0 m1 H1 (loopC asg t r p.2 rest (wipeE env vs) mu2) fun xs m' mu' H' => NewL X.K H (acc ++ xs) m' mu' H' Q, ⟨_, p.1, [], [], m1.shut Dd, mu1, rfl, rfl, Nat.le_refl _, upd_same, by simp [Mp.shut], ?_, Reps.nil_iff.mpr rfl, ?_, ?_, ?_, ?_⟩, ?_⟩
  · exact (R1.free hDn).1
  · have g : Grow m1 m1 H1 (upd H1 Dd (.lst [])) := .laid hDn
    have kp : Keep m1 (m1.shut Dd) H1 (upd H1 Dd (.lst [])) := ⟨fun _ _ h => h, fun a o h n => ⟨by rw [upd_ne (hdead a o h)]; exact h, n.1, fun z => by
      rcases List.mem_append.mp z with z | z
      · exact n.2 z
      · exact hdead a o h (List.mem_singleton.mp z)⟩, g.tups, g.frzs⟩
    refine ⟨R1.len, R1.nd, fun a ha => ?_, fun a ha z => ?_, fun n o a h1 h2 => (R1.obj n o a h1 h2).keep kp fun u q => by rw [upd_ne (hdead a u q)]; exact q⟩
    · rcases List.mem_append.mp ha with z | z
      · exact g.trk a _ (R1.nos a z).choose_spec
      · rw [List.mem_singleton.mp z]; exact ⟨_, upd_same⟩
    · rcases List.mem_append.mp z with z | z
      · exact R1.dj a ha z
      · exact (R1.free hDn).1 (by rw [← List.mem_singleton.mp z]; exact ha)
  · have g : Grow m1 m1 H1 (upd H1 Dd (.lst [])) := .laid hDn
    have kp : Keep m1 (m1.shut Dd) H1 (upd H1 Dd (.lst [])) := ⟨fun _ _ h => h, fun a o h n => ⟨by rw [upd_ne (hdead a o h)]; exact h, n.1, fun z => by
      rcases List.mem_append.mp z with z | z
      · exact n.2 z
      · exact hdead a o h (List.mem_singleton.mp z)⟩, g.tups, g.frzs⟩
    exact ((hE.grow g1).wipe vs).keep kp
  · have g : Grow m1 m1 H1 (upd H1 Dd (.lst [])) := .laid hDn
    exact ⟨⟨[], [Dd], by simp [Mp.shut], rfl, by simp, fun a ha => by rw [List.mem_singleton.mp ha]; exact hDn⟩, g.oth, g.tups, g.frzs, g.trk⟩
  · exact hp0
  rintro i k H2 ⟨rest, acc, vs2, m2, mu2, rfl, hd, ha, hH2, hno, had, hacc, R2, hE2, g2, hp2⟩
  cases rest with
  | nil =>
    have e0 : loopC asg t r p.2 [] (wipeE env vs) mu2 = M.bind (chk p.2) (fun _ => pure []) mu2 := rfl
    rw [e0] at hp2
    unfold M.bind at hp2
    have hch : ∀ q ∈ p.2, mu2[q.1]? = some (.lst q.2) := by
      unfold chk at hp2
      by_cases z : ∀ q ∈ p.2, mu2[q.1]? = some (.lst q.2)
      · exact z
      · rw [if_neg z] at hp2; exact (show False from hp2).elim
    have ec : chk p.2 mu2 = .ok () mu2 := by unfold chk; rw [if_pos hch]
    rw [ec] at hp2
    refine .inl ⟨((ok m2 mu2 H2 g2.keep R2 hch).1 i) (by rw [List.drop_eq_nil_iff] at hd; exact hd), ?_⟩
    obtain ⟨l', k', e1, e2, hl', hk'⟩ := g2.ext
    have n1 : Dd ∉ m1.no := (R1.free hDn).2
    have kp : ∀ m3 : Mp, (∀ n a, m2.ad[n]? = some a → m3.ad[n]? = some a) → (∀ a, m2.Out a → m3.Out a) → Keep m2 m3 H2 H2 := fun m3 h1 h2 => ⟨h1, fun a o h n => ⟨h, h2 a n⟩, fun _ _ h => h, fun _ _ _ h => h⟩
    have k3 : Keep m2 ⟨m2.ad, m1.no⟩ H2 H2 := kp _ (fun _ _ h => h) fun a n => ⟨n.1, fun z => n.2 (by rw [e2]; exact List.mem_append_left _ z)⟩
    have g3 : Grow m1 ⟨m2.ad, m1.no⟩ H1 H2 := ⟨⟨l', [], e1, by simp, hl', by simp⟩, g2.oth, g2.tups, g2.frzs, g2.trk⟩
    have R3 : Rel X.K ⟨m2.ad, m1.no⟩ mu2 H2 := ⟨R2.len, R2.nd, fun a z => R2.nos a (by rw [e2]; exact List.mem_append_left _ z), fun a ha z => R2.dj a ha (by rw [e2]; exact List.mem_append_left _ z), fun n o a h1 h2 => (R2.obj n o a h1 h2).keep k3 fun _ q => q⟩
    have k4 : Keep m2 ((⟨m2.ad, m1.no⟩ : Mp).add Dd) H2 H2 := kp _ (fun n a h => by
      show (m2.ad ++ [Dd])[n]? = some a
      rw [List.getElem?_append_left (List.getElem?_eq_some_iff.mp h).1]; exact h) fun a n => ⟨fun z => by
        rcases List.mem_append.mp z with z | z
        · exact n.1 z
        · exact n.2 (by rw [List.mem_singleton.mp z]; exact hno), fun z => n.2 (by rw [e2]; exact List.mem_append_left _ z)⟩
    have q := hp2 ⟨m2.ad, m1.no⟩ H2 g3 R3 Dd vs2 hD0 hH2 ⟨had, n1⟩ (by rw [List.append_nil]; exact Reps.keep k3 acc vs2 hacc)
    refine q ?_
    rw [List.append_nil]
    refine ⟨by show (m2.ad ++ [Dd]).length = _; rw [List.length_append, List.length_append, R2.len]; rfl, ?_, fun a z => R3.nos a z, fun a ha z => ?_, fun n ob b h1 h2 => ?_⟩
    · show (m2.ad ++ [Dd]).Nodup
      rw [List.nodup_append]
      refine ⟨R2.nd, by simp, fun x hx y hy => ?_⟩
      rw [List.mem_singleton.mp hy]
      rintro rfl
      exact had hx
    · rcases List.mem_append.mp (show a ∈ m2.ad ++ [Dd] from ha) with z' | z'
      · exact R3.dj a z' z
      · exact n1 (by rw [← List.mem_singleton.mp z']; exact z)
    · have h2 : (m2.ad ++ [Dd])[n]? = some b := h2
      by_cases h : n < mu2.length
      · rw [List.getElem?_append_left h] at h1
        rw [List.getElem?_append_left (by rw [R2.len]; exact h)] at h2
        exact (R2.obj n ob b h1 h2).keep k4 fun _ q => q
      · by_cases hl : n = mu2.length
        · subst hl
          rw [List.getElem?_append_right (Nat.le_refl _), Nat.sub_self] at h1
          rw [List.getElem?_append_right (by rw [R2.len]; exact Nat.le_refl _), ← R2.len, Nat.sub_self] at h2
          cases h1
          cases h2
          exact ⟨vs2, hH2, Reps.keep k4 acc vs2 hacc⟩
        · rw [List.getElem?_eq_none (by rw [List.length_append]; simp only [List.length_cons, List.length_nil]; omega)] at h1
          cases h1
  | cons d ds =>
    have e0 : loopC asg t r p.2 (d :: ds) (wipeE env vs) mu2 = M.bind (chk p.2) (fun _ => M.bind (asg d (wipeE env vs)) fun env1 => M.bind (t env1) fun b => if b = true then (r env1 >>= fun x => loopC asg t r p.2 ds (wipeE env vs) >>= fun xs => pure (x :: xs)) else loopC asg t r p.2 ds (wipeE env vs)) mu2 := rfl
    rw [e0] at hp2
    unfold M.bind at hp2
    have hch : ∀ q ∈ p.2, mu2[q.1]? = some (.lst q.2) := by
      unfold chk at hp2
      by_cases z : ∀ q ∈ p.2, mu2[q.1]? = some (.lst q.2)
      · exact z
      · rw [if_neg z] at hp2; exact (show False from hp2).elim
    have ec : chk p.2 mu2 = .ok () mu2 := by unfold chk; rw [if_pos hch]
    rw [ec] at hp2
    dsimp only at hp2
    have hdi : p.1[i]? = some d := by
      have e : (p.1.drop i)[0]? = some d := by rw [hd]; rfl
      rw [List.getElem?_drop] at e
      simpa using e
    have hds : p.1.drop (i + 1) = ds := by
      have e := congrArg List.tail hd
      rw [List.tail_drop] at e
      exact e
    have hil : i < p.1.length := (List.getElem?_eq_some_iff.mp hdi).1
    obtain ⟨go, yl⟩ := (ok m2 mu2 H2 g2.keep R2 hch).2 i d hdi
    -- the turn's end: nothing is added, or a datum
    have fin : ∀ (acc' : List D) (vs' : List V) (m3 : Mp) (mu3 : List MO) (H3 : Hp), acc'.length ≤ i + 1 → H3 Dd = some (.lst vs') → Dd ∈ m3.no → Dd ∉ m3.ad → Reps X.K m3 H3 acc' vs' → Rel X.K m3 mu3 H3 → RepE X.K m3 H3 (wipeE env vs) (L2.wipe σ vs) → Grow m1 m3 H1 H3 →
        (Post X.K W0 m1 H1 (loopC asg t r p.2 ds (wipeE env vs) mu3) fun xs m' mu' H' => NewL X.K H (acc' ++ xs) m' mu' H' Q) → ∃ m', m' < (d :: ds).length ∧ ∃ rest acc vs2 m2 mu2, m' = rest.length ∧ p.1.drop (i + 1) = rest ∧ acc.length ≤ i + 1 ∧ H3 Dd = some (.lst vs2) ∧ Dd ∈ m2.no ∧ Dd ∉ m2.ad ∧ Reps X.K m2 H3 acc vs2 ∧ Rel X.K m2 mu2 H3 ∧ RepE X.K m2 H3 (wipeE env vs) (L2.wipe σ vs) ∧ Grow m1 m2 H1 H3 ∧
      Post X.K W0 m1 H1 (loopC asg t r p.2 rest (wipeE env vs) mu2) fun xs m' mu' H' => NewL X.K H (acc ++ xs) m' mu' H' Q := fun acc' vs' m3 mu3 H3 a1 a2 a3 a4 a5 a6 a7 a8 a9 =>
      ⟨ds.length, Nat.lt_succ_self _, ds, acc', vs', m3, mu3, rfl, hds, a1, a2, a3, a4, a5, a6, a7, a8, a9⟩
    refine .inr ⟨go, fun H3 => ∃ m', m' < (d :: ds).length ∧ ∃ rest acc vs2 m2 mu2, m' = rest.length ∧ p.1.drop (i + 1) = rest ∧ acc.length ≤ i + 1 ∧ H3 Dd = some (.lst vs2) ∧ Dd ∈ m2.no ∧ Dd ∉ m2.ad ∧ Reps X.K m2 H3 acc vs2 ∧ Rel X.K m2 mu2 H3 ∧ RepE X.K m2 H3 (wipeE env vs) (L2.wipe σ vs) ∧ Grow m1 m2 H1 H3 ∧
      Post X.K W0 m1 H1 (loopC asg t r p.2 rest (wipeE env vs) mu2) fun xs m' mu' H' => NewL X.K H (acc ++ xs) m' mu' H' Q, fun H3 h => h, fun x H3 y => ?_⟩
    obtain ⟨gy, Ry, rx⟩ := yl x H3 y
    refine ⟨d, wipeE env vs, m2, mu2, hE2.grow gy, Ry, rx, ?_⟩
    have stay : ∀ (m3 : Mp) (H4 : Hp), Grow m2 m3 H2 H4 → H4 Dd = some (.lst vs2) ∧ Dd ∈ m3.no ∧ Dd ∉ m3.ad := fun m3 H4 g => by
      obtain ⟨l', k', e1, e2, _, _⟩ := g.ext
      exact ⟨g.oth Dd _ hH2 had, by rw [e2]; exact List.mem_append_left _ hno, g.notin hH2 had⟩
    cases ha1 : asg d (wipeE env vs) mu2 with
    | bad => rw [ha1] at hp2; exact (show False from hp2).elim
    | exc ex mu4 => rw [ha1] at hp2; exact fun m4 H4 g4 R4 => hp2 m4 H4 ((g2.trans gy).trans g4) R4
    | ok env1 mu4 =>
      rw [ha1] at hp2
      dsimp only at hp2
      intro m4 H4 g4 R4 σ2 hE4 off
      refine ⟨wipe_off off hl, env1, m4, mu4, hE4, R4, ?_⟩
      cases ht1 : t env1 mu4 with
      | bad => rw [ht1] at hp2; exact (show False from hp2).elim
      | exc ex mu5 => rw [ht1] at hp2; exact fun m5 H5 g5 R5 => hp2 m5 H5 (((g2.trans gy).trans g4).trans g5) R5
      | ok b mu5 =>
        rw [ht1] at hp2
        dsimp only at hp2
        intro m5 H5 g5 R5
        have g25 : Grow m2 m5 H2 H5 := (gy.trans g4).trans g5
        cases b with
        | false =>
          simp only [Bool.false_eq_true, if_false] at hp2 ⊢
          obtain ⟨s1, s2, s3⟩ := stay m5 H5 g25
          exact fin acc vs2 m5 mu5 H5 (Nat.le_succ_of_le ha) s1 s2 s3 (Reps.grow g25 acc vs2 hacc) R5 (hE2.grow g25) (g2.trans g25) hp2
        | true =>
          simp only [if_true] at hp2 ⊢
          refine ⟨env1, m5, mu5, hE4.grow g5, R5, ?_⟩
          have hp2 : Post X.K W0 m1 H1 (M.bind (r env1) (fun x => loopC asg t r p.2 ds (wipeE env vs) >>= fun xs => pure (x :: xs)) mu5) fun xs m' mu' H' => NewL X.K H (acc ++ xs) m' mu' H' Q := hp2
          unfold M.bind at hp2
          cases hr1 : r env1 mu5 with
          | bad => rw [hr1] at hp2; exact (show False from hp2).elim
          | exc ex mu6 => rw [hr1] at hp2; exact fun m6 H6 g6 R6 => hp2 m6 H6 ((g2.trans g25).trans g6) R6
          | ok yd mu6 =>
            rw [hr1] at hp2
            dsimp only at hp2
            intro m6 H6 g6 R6 v rv
            have g26 : Grow m2 m6 H2 H6 := g25.trans g6
            obtain ⟨s1, s2, s3⟩ := stay m6 H6 g26
            have hlen := hacc.length
            refine ⟨vs2, s1, by omega, ?_⟩
            have nD : ∀ b o, H6 b = some o → m6.Out b → b ≠ Dd := fun b o _ n z => n.2 (by rw [z]; exact s2)
            have kp : Keep m6 m6 H6 (upd H6 Dd (.lst (vs2 ++ [v]))) := ⟨fun _ _ h => h, fun a o h n => ⟨by rw [upd_ne (nD a o h n)]; exact h, n⟩, fun a xs h => by rw [upd_ne (fun z => by rw [z, s1] at h; cases h)]; exact h, fun a u xs h => by rw [upd_ne (fun z => by rw [z, s1] at h; cases h)]; exact h⟩
            have g6f : Grow m1 m6 H1 (upd H6 Dd (.lst (vs2 ++ [v]))) := by
              have g16 := g2.trans g26
              refine ⟨g16.ext, fun a o h n => ?_, fun a xs h => ?_, fun a o u h => ?_, fun a o h => ?_⟩
              · rw [upd_ne (hdead a o h)]; exact g16.oth a o h n
              · rw [upd_ne (hdead a _ h)]; exact g16.tups a xs h
              · rw [upd_ne (hdead a _ h)]; exact g16.frzs a o u h
              · rw [upd_ne (hdead a o h)]; exact g16.trk a o h
            refine fin (acc ++ [yd]) (vs2 ++ [v]) m6 mu6 _ (by rw [List.length_append]; simp only [List.length_cons, List.length_nil]; omega) upd_same s2 s3 ((Reps.keep kp acc vs2 (Reps.grow g26 acc vs2 hacc)).append (Reps.one (Rep.keep kp yd v rv))) ?_ ((hE2.grow g26).keep kp) g6f ?_
            · refine ⟨R6.len, R6.nd, fun a z => ?_, R6.dj, fun n ob a h1 h2 => (R6.obj n ob a h1 h2).keep kp fun u q => ?_⟩
              · by_cases za : a = Dd
                · subst za; exact ⟨_, upd_same⟩
                · rw [upd_ne za]; exact R6.nos a z
              · rw [upd_ne (fun z => s3 (by rw [← z]; exact List.mem_of_getElem? h2))]; exact q
            · refine (Post.bind hp2).mono fun xs m' mu' H' _ R' q => ?_
              have q2 := Post.pure q R'
              rw [show acc ++ [yd] ++ xs = acc ++ yd :: xs by simp]
              exact q2
theorem mf_comp {scope : Scope} {own : List (Str × Nat)} {w : Env → M Wk} {asg : D → Env → M Env} {t : Env → M Bool} {r : Env → M D} {l : List Nat} (hc : X.calm = true) (hN : X.N.Nodup) (hi : MI X W tg iter w) (ok : BlkOk X.N X.env.scope scope own) (hl : ∀ i ∈ l, i ∈ own.map (·.2))
    (hg : ∀ (s : Shared) (H : Hp) (C : Addr) (cl : List (Str × Addr)) (fp : List Addr), MG (X.blk s H scope (compEnvC scope cl C X.env) fp) W0 tg l asg) (ht : ∀ (s : Shared) (H : Hp) (C : Addr) (cl : List (Str × Addr)) (fp : List Addr), MTs (X.blk s H scope (compEnvC scope cl C X.env) fp) W0 ifs t)
    (he : ∀ (s : Shared) (H : Hp) (C : Addr) (cl : List (Str × Addr)) (fp : List Addr), ME (X.blk s H scope (compEnvC scope cl C X.env) fp) W0 elt r) (hs : ∀ x, foldedSetIterable iter X.env x = pure x := by intro _; rfl) :
    MF X W (.ListComp elt [⟨tg, iter, ifs, 0⟩] scope pos) (fComp w asg t r (own.map (·.2))) :=
  ⟨(pe_lc hc hN hi.pi ok (fun s H C cl fp => (hg s H C cl fp).pg) (fun s H C cl fp => (ht s H C cl fp).pt) (fun s H C cl fp => (he s H C cl fp).pe) hs).imp (comp_go hl rfl)⟩
/-- name = [..], by what becomes of the new list -/
theorem tAsg_imp {te te' : TE} {i : Nat} (h : ∀ σ H Q, te' σ H Q → te σ H Q) : ∀ D σ H, tAsg te' (gName i) D σ H → tAsg te (gName i) D σ H := fun D σ H q => h σ H _ q
theorem ms_setC {i : Nat} {y : Str} {py spos : Pos} {scope : Scope} {own : List (Str × Nat)} {w : Env → M Wk} {asg : D → Env → M Env} {t : Env → M Bool} {r : Env → M D} {l : List Nat} {rr : Env → M D} (hc : X.calm = true) (hN : X.N.Nodup) (hy : X.N[i]? = some y) (hyl : X.env.scope.names.lookup y = some .local)
    (hsw : swapsWith (.ListComp elt [⟨tg, iter, ifs, 0⟩] scope pos) (some (.Name y py)) spos.line X.env = pure true) (hi : MI X W tg iter w) (ok : BlkOk X.N X.env.scope scope own) (hl : ∀ i ∈ l, i ∈ own.map (·.2))
    (hg : ∀ (s : Shared) (H : Hp) (C : Addr) (cl : List (Str × Addr)) (fp : List Addr), MG (X.blk s H scope (compEnvC scope cl C X.env) fp) W0 tg l asg) (ht : ∀ (s : Shared) (H : Hp) (C : Addr) (cl : List (Str × Addr)) (fp : List Addr), MTs (X.blk s H scope (compEnvC scope cl C X.env) fp) W0 ifs t)
    (he : ∀ (s : Shared) (H : Hp) (C : Addr) (cl : List (Str × Addr)) (fp : List Addr), ME (X.blk s H scope (compEnvC scope cl C X.env) fp) W0 elt r)
    (hrr : ∀ σ H Q, tE X.K W rr σ H Q → tF X.K W (fComp w asg t r (own.map (·.2))) σ H Q) (hs : ∀ x, foldedSetIterable iter X.env x = pure x := by intro _; rfl) :
    MS X W (.Assign [.Name y py] (.ListComp elt [⟨tg, iter, ifs, 0⟩] scope pos) spos) (sSet i rr) :=
  ⟨(ps_setLc hc hN hy hyl hsw hi.pi ok (fun s H C cl fp => (hg s H C cl fp).pg) (fun s H C cl fp => (ht s H C cl fp).pt) (fun s H C cl fp => (he s H C cl fp).pe) hs).imp fun D σ H q => comp_go hl rfl σ H _ (hrr σ H _ (set_go D σ H q))⟩
theorem fl_go {r : Env → M (List D)} : ∀ σ H Q, tE X.K W (eFl r) σ H Q → tF X.K W r σ H Q := fun σ H Q ⟨env, m, mu, hE, hR, hp⟩ =>
  ⟨env, m, mu, hE, hR, (Post.bind hp).mono fun xs m1 mu1 H1 g1 R1 hp a vs h0 h1 hn hr _ => Post.pure hp R1 _ (by simp only [Rep]; exact ⟨a, vs, rfl, h1, hn, hr⟩)⟩
theorem new_go {r : Env → M (List D)} : ∀ σ H Q, tE X.K W (eNew r) σ H Q → tF X.K W r σ H Q := fun σ H Q ⟨env, m, mu, hE, hR, hp⟩ => by
  refine ⟨env, m, mu, hE, hR, ?_⟩
  have e0 : eNew r env mu = M.bind (r env) (fun xs => alloc (.lst xs)) mu := rfl
  rw [e0] at hp
  unfold M.bind at hp
  cases hr : r env mu with
  | ok xs mu1 =>
    rw [hr] at hp
    intro m1 H1 g1 R1 a vs h0 h1 hn hrs ha
    have q := hp (m1.add a) H1 (g1.adopt h0) ha (.ref a)
    exact q (by simp only [Rep]; exact ⟨a, rfl, add_get R1⟩)
  | exc x mu1 => rw [hr] at hp; exact hp
  | bad => rw [hr] at hp; exact hp
end
end MP
namespace MP
open PySem L2 PyProof.Rows
/-! ### what a def promises -/
/-- an exception as it flies -/
def XRep (mg : Str → Option Value) (K : PySem.W.Frag) (m : Mp) (H : Hp) (x : Xn) (cls : Value) (d : Option Addr) : Prop := mg x.cls = some cls ∧ match d with
  | none => x.fs = []
  | some p => ∃ gs : List (Str × V), H p = some (.xd gs) ∧ gs.map (·.1) = x.fs.map (·.1) ∧ Reps K m H (x.fs.map (·.2)) (gs.map (·.2))
def WE (mg : Str → Option Value) (K : PySem.W.Frag) (E : XK) : Wx := fun x m H => ∀ cls d, XRep mg K m H x cls d → E cls d H
def sp (K : PySem.W.Frag) (mg : Str → Option Value) (n : Nat) (den : List D → M Rv) : Sp := fun vs H Q E => vs.length = n ∧ ∃ ds m mu, Reps K m H ds vs ∧ Rel K m mu H ∧ Post K (WE mg K E) m H (den ds mu) fun rv m' mu' H' => RvQ K H rv m' mu' H' Q
def startE (n : Nat) (ds : List D) : Env := ds.map some ++ List.replicate (n - ds.length) none
/-- a body run at its arguments -/
def runB (n : Nat) (r : Env → M Fl) (ds : List D) : M Rv := fun mu => match r (startE n ds) mu with
  | .ok (.rt rv) mu' => .ok rv mu'
  | .ok (.nx _) mu' => .ok (.vl .non) mu'
  | .ok _ _ => .bad
  | .exc x mu' => .exc x mu'
  | .bad => .bad
/-- a datum out of what comes back -/
def rvD : Rv → D
  | .vl d => d
  | .fr ds => .fl ds
section
variable {P : Program} {w : World} {K : PySem.W.Frag} {mg : Str → Option Value} {base : Heap}
theorem startE_rep {m : Mp} {H : Hp} {ds : List D} {vs : List V} {N : List Str} (h : Reps K m H ds vs) : RepE K m H (startE N.length ds) (L2.start N vs) := by
  refine ⟨by unfold startE L2.start; rw [List.length_append, List.length_append, List.length_map, List.length_map, List.length_replicate, List.length_replicate, h.length], fun i d e => ?_⟩
  unfold startE at e
  by_cases hi : i < ds.length
  · rw [List.getElem?_append_left (by rw [List.length_map]; exact hi), List.getElem?_map] at e
    obtain ⟨x, hx, ex⟩ := Option.map_eq_some_iff.mp e
    cases ex
    obtain ⟨v, hv, rv⟩ := h.get hx
    refine ⟨v, ?_, rv⟩
    unfold L2.start
    rw [List.getElem?_append_left (by rw [List.length_map, ← h.length]; exact hi), List.getElem?_map, hv]
    rfl
  · rw [List.getElem?_append_right (by rw [List.length_map]; omega), List.getElem?_replicate] at e
    split at e <;> cases e
/-- a def that raises nothing, by its body -/
theorem fn_mp {x qual : Str} {st : Stmt} {f : Addr} {fd : FuncData} {N ps : List Str} {k n : Nat} {r : Env → M Fl} (F : Fun K x qual st f fd) (S : FnScope N ps (defScope st)) (hn : ps.length = n)
    (hbody : ∀ (cdv : Value) (A : Around) (outer : List PySem.Env) (s : Shared) (H : Hp) (E : XK), Room k (A.deeper (envOfC qual (defScope st) s.heap.objs.size f cdv)) → MSs (cxOf CX0 P w K mg base N qual (defScope st) f cdv A outer s H E).nox W0 (defBody st) r) :
    FnOk P w K mg base CX0 (k + 1) f fd ps (sp K mg n fun ds => noX (runB N.length r ds)) := by
  refine F.ok S (fun vs H Q E h => h.1.trans hn.symm) fun cdv A outer s H vs Q E hr h => ?_
  obtain ⟨_, ds, m, mu, hr1, R, hp⟩ := h
  refine ⟨_, (hbody cdv A outer s H E hr).ps, startE N.length ds, m, mu, startE_rep hr1, R, ?_⟩
  have hp := noX_post hp
  have e : runB N.length r ds mu = match r (startE N.length ds) mu with
    | .ok (.rt rv) mu' => .ok rv mu'
    | .ok (.nx _) mu' => .ok (.vl .non) mu'
    | .ok _ _ => .bad
    | .exc x mu' => .exc x mu'
    | .bad => .bad := rfl
  rw [e] at hp
  cases hq : r (startE N.length ds) mu with
  | bad => rw [hq] at hp; exact hp
  | exc x mu' => rw [hq] at hp; exact hp
  | ok fl mu' =>
    rw [hq] at hp
    cases fl with
    | rt rv => exact hp
    | nx e => exact fun m' H' g R' σ' _ => hp m' H' g R' .non (by simp only [Rep])
    | bk e => exact (show False from hp).elim
    | ct e => exact (show False from hp).elim
end
section
variable {X : Cx} {W : Wx} {CX : CXT} {k n : Nat} {f : Addr} {fd : FuncData} {ps : List Str} {den : List D → M Rv} {E : XK} {x : Str} {p pos : Pos} {e : Expr} {es : List Expr} {ds : List Value}
/-- what a callee lets out is wanted here -/
def XOk (CX : CXT) (X : Cx) (W : Wx) : Prop := ∃ E : XK, Passes CX X E ∧ ∀ x m H, W x m H → WE X.mg X.K E x m H
theorem xok0 {W : Wx} : XOk CX0 X W := ⟨fun _ _ _ => True, fun _ _ _ _ _ _ _ h => h.elim, fun _ _ _ _ _ _ _ => trivial⟩
def eCall (den : List D → M Rv) (rs : Env → M (List D)) : Env → M D := fun env => rs env >>= fun xs => den xs >>= fun rv => pure (rvD rv)
theorem Post.wx' {K : PySem.W.Frag} {W W' : Wx} {m : Mp} {H : Hp} {α : Type} {r : R α} {Q : α → Mp → List MO → Hp → Prop} (h : Post K W m H r Q) (hw : ∀ x m H, W x m H → W' x m H) : Post K W' m H r Q := Post.wx h hw
/-- f(e, ..) -/
theorem me_call {rs : Env → M (List D)} (F : FnOk X.prog X.w X.K X.mg X.base CX k f fd ps (sp X.K X.mg n den)) (hr : Room k X.A) (hg : Gl X x) (hm : X.mg x = some (.ref f)) (hk : PySem.W.keepIn X.K (.ref f) = true) (hb : Binds X.K fd ps []) (hx : XOk CX X W)
    (ha : MA X W (e :: es) rs) (hl : n = (e :: es).length) (hdb : (x == ("__debug__" : Str)) = false := by decide) (he : starEach (e :: es) X.env = (false, eval e X.env) :: starEach es X.env := by rfl) (hpl : (backTo pos (starEach es X.env)).any (·.1) = false := by rfl) :
    ME X W (.Call (.Name x p) (e :: es) [] pos) (eCall (fun ds mu => if ds.length = n then den ds mu else .bad) rs) := by
  obtain ⟨E, hE0, hW⟩ := hx
  refine ⟨(pe_call F hr hg hm hk hb .nil hE0 ha.pa hdb he hpl).imp fun σ H Q ⟨env, m, mu, hE, hR, hp⟩ => ⟨env, m, mu, hE, hR, (Post.bind hp).mono fun xs m1 mu1 H1 g1 R1 hp1 vs rv => ?_⟩⟩
  by_cases hlen : xs.length = n
  · have hp2 : Post X.K W m1 H1 (if xs.length = n then den xs mu1 else .bad) _ := Post.bind hp1
    rw [if_pos hlen] at hp2
    have hp1 := hp2
    refine ⟨by rw [List.append_nil, ← rv.length]; exact hlen, xs, m1, mu1, by rw [List.append_nil]; exact rv, R1, (Post.wx hp1 hW).mono fun r2 m2 mu2 H2 g2 R2 hp2 => ?_⟩
    cases r2 with
    | vl d => exact fun v rv => Post.pure (a := d) hp2 R2 v rv
    | fr ds => exact fun a vs h0 h1 hn hr _ => Post.pure (a := D.fl ds) hp2 R2 _ (by simp only [Rep]; exact ⟨a, vs, rfl, h1, hn, hr⟩)
  · have hp2 : Post X.K W m1 H1 (if xs.length = n then den xs mu1 else .bad) _ := Post.bind hp1
    rw [if_neg hlen] at hp2
    exact (show False from hp2).elim
/-- .. that hands back a new list -/
def fCall (den : List D → M Rv) (rs : Env → M (List D)) : Env → M (List D) := fun env => rs env >>= fun xs => den xs >>= fun rv => match rv with
  | .fr ds => pure ds
  | .vl _ => bad
theorem mf_call {rs : Env → M (List D)} (F : FnOk X.prog X.w X.K X.mg X.base CX k f fd ps (sp X.K X.mg n den)) (hr : Room k X.A) (hg : Gl X x) (hm : X.mg x = some (.ref f)) (hk : PySem.W.keepIn X.K (.ref f) = true) (hb : Binds X.K fd ps []) (hx : XOk CX X W)
    (ha : MA X W (e :: es) rs) (hl : n = (e :: es).length) (hdb : (x == ("__debug__" : Str)) = false := by decide) (he : starEach (e :: es) X.env = (false, eval e X.env) :: starEach es X.env := by rfl) (hpl : (backTo pos (starEach es X.env)).any (·.1) = false := by rfl) :
    MF X W (.Call (.Name x p) (e :: es) [] pos) (fCall (fun ds mu => if ds.length = n then den ds mu else .bad) rs) := by
  obtain ⟨E, hE0, hW⟩ := hx
  refine ⟨(pe_call F hr hg hm hk hb .nil hE0 ha.pa hdb he hpl).imp fun σ H Q ⟨env, m, mu, hE, hR, hp⟩ => ⟨env, m, mu, hE, hR, (Post.bind hp).mono fun xs m1 mu1 H1 g1 R1 hp1 vs rv => ?_⟩⟩
  by_cases hlen : xs.length = n
  · have hp2 : Post X.K W m1 H1 (if xs.length = n then den xs mu1 else .bad) _ := Post.bind hp1
    rw [if_pos hlen] at hp2
    have hp1 := hp2
    refine ⟨by rw [List.append_nil, ← rv.length]; exact hlen, xs, m1, mu1, by rw [List.append_nil]; exact rv, R1, (Post.wx hp1 hW).mono fun r2 m2 mu2 H2 g2 R2 hp2 => ?_⟩
    cases r2 with
    | vl d => exact (show False from hp2).elim
    | fr ds => exact NewL.from (Post.pure (a := ds) hp2 R2) g1
  · have hp2 : Post X.K W m1 H1 (if xs.length = n then den xs mu1 else .bad) _ := Post.bind hp1
    rw [if_neg hlen] at hp2
    exact (show False from hp2).elim
end
/-! ### what is left behind is forgotten, what comes back is frozen -/
mutual
/-- refs from k on are read as they stand at the end; ok: the places that may be frozen -/
inductive Frz (mu : List MO) (k : Nat) (ok : Nat → Prop) : D → D → Prop
  | non : Frz mu k ok .non .non
  | bl (b : Bool) : Frz mu k ok (.bl b) (.bl b)
  | int (i : Int) : Frz mu k ok (.int i) (.int i)
  | str (x : Str) : Frz mu k ok (.str x) (.str x)
  | tup {xs ys : List D} : Frzs mu k ok xs ys → Frz mu k ok (.tup xs) (.tup ys)
  | fl {xs ys : List D} : Frzs mu k ok xs ys → Frz mu k ok (.fl xs) (.fl ys)
  | ro {xs ys : List D} : Frzs mu k ok xs ys → Frz mu k ok (.ro xs) (.ro ys)
  | fd {ks : List Key} {xs ys : List D} : Frzs mu k ok xs ys → Frz mu k ok (.fd ks xs) (.fd ks ys)
  | ref {n : Nat} : n < k → Frz mu k ok (.ref n) (.ref n)
  | lst {n : Nat} {xs ys : List D} : k ≤ n → ok n → mu[n]? = some (.lst xs) → Frzs mu k ok xs ys → Frz mu k ok (.ref n) (.fl ys)
  | dk {n : Nat} {kvs : List (Key × D)} {ys : List D} : k ≤ n → ok n → mu[n]? = some (.dk kvs) → Frzs mu k ok (kvs.map (·.2)) ys → Frz mu k ok (.ref n) (.fd (kvs.map (·.1)) ys)
inductive Frzs (mu : List MO) (k : Nat) (ok : Nat → Prop) : List D → List D → Prop
  | nil : Frzs mu k ok [] []
  | cons {x y : D} {xs ys : List D} : Frz mu k ok x y → Frzs mu k ok xs ys → Frzs mu k ok (x :: xs) (y :: ys)
end
inductive FrzO (mu : List MO) (k : Nat) (ok : Nat → Prop) : MO → MO → Prop
  | lst {xs ys : List D} : Frzs mu k ok xs ys → FrzO mu k ok (.lst xs) (.lst ys)
  | dk {kvs kws : List (Key × D)} : kvs.map (·.1) = kws.map (·.1) → Frzs mu k ok (kvs.map (·.2)) (kws.map (·.2)) → FrzO mu k ok (.dk kvs) (.dk kws)
/-- the first places, frozen -/
structure FrzH (mu : List MO) (ok : Nat → Prop) (nu : List MO) : Prop where
  le : nu.length ≤ mu.length
  at_ : ∀ (n : Nat) (o o' : MO), mu[n]? = some o → nu[n]? = some o' → FrzO mu nu.length ok o o'
inductive FrzR (mu nu : List MO) : Rv → Rv → Prop
  | vl {d d' : D} : FrzH mu (fun _ => True) nu → Frz mu nu.length (fun _ => True) d d' → FrzR mu nu (.vl d) (.vl d')
  | newL {n : Nat} {xs ys : List D} : nu.length ≤ n → mu[n]? = some (.lst xs) → FrzH mu (fun j => j ≠ n) nu → Frzs mu nu.length (fun j => j ≠ n) xs ys → FrzR mu nu (.vl (.ref n)) (.fr ys)
  | fr {xs ys : List D} : FrzH mu (fun _ => True) nu → Frzs mu nu.length (fun _ => True) xs ys → FrzR mu nu (.fr xs) (.fr ys)
  | frv {xs ys : List D} : FrzH mu (fun _ => True) nu → Frzs mu nu.length (fun _ => True) xs ys → FrzR mu nu (.fr xs) (.vl (.fl ys))
section
variable {K : PySem.W.Frag} {m mm : Mp} {H : Hp} {mu nu : List MO} {k : Nat} {ok : Nat → Prop}
theorem zip_len {α β : Type} : ∀ {ks : List α} {vs : List β}, ks.length = vs.length → (ks.zip vs).map (·.2) = vs
  | [], [], _ => rfl
  | _ :: ks, v :: vs, h => by rw [List.zip_cons_cons, List.map_cons, zip_len (by simpa using h)]
mutual
theorem Frz.rep (R : Rel K m mu H) (h1 : ∀ n a, n < k → m.ad[n]? = some a → mm.ad[n]? = some a) (h2 : ∀ a, m.Out a → mm.Out a) (h3 : ∀ n a, k ≤ n → ok n → m.ad[n]? = some a → mm.Out a) : ∀ {d d' : D} {v : V}, Frz mu k ok d d' → Rep K m H d v → Rep K mm H d' v
  | _, _, v, .non, h => by simp only [Rep] at h ⊢; exact h
  | _, _, v, .bl _, h => by simp only [Rep] at h ⊢; exact h
  | _, _, v, .int _, h => by simp only [Rep] at h ⊢; exact h
  | _, _, v, .str _, h => by simp only [Rep] at h ⊢; exact h
  | _, _, v, .tup q, h => by
    simp only [Rep] at h ⊢
    obtain ⟨a, vs, e, hs, hr⟩ := h
    exact ⟨a, vs, e, hs, Frzs.rep R h1 h2 h3 q hr⟩
  | _, _, v, .fl q, h => by
    simp only [Rep] at h ⊢
    obtain ⟨a, vs, e, hs, hn, hr⟩ := h
    exact ⟨a, vs, e, hs, h2 a hn, Frzs.rep R h1 h2 h3 q hr⟩
  | _, _, v, .ro q, h => by
    simp only [Rep] at h ⊢
    obtain ⟨a, vs, e, hs, hr⟩ := h
    exact ⟨a, vs, e, hs, Frzs.rep R h1 h2 h3 q hr⟩
  | _, _, v, .fd q, h => by
    simp only [Rep] at h ⊢
    obtain ⟨a, vs, e, hs, hn, hl, hr⟩ := h
    have hr' := Frzs.rep R h1 h2 h3 q hr
    exact ⟨a, vs, e, hs, h2 a hn, by rw [hl, hr.length, hr'.length], hr'⟩
  | _, _, v, .ref hk, h => by
    simp only [Rep] at h ⊢
    obtain ⟨a, e, hm⟩ := h
    exact ⟨a, e, h1 _ a hk hm⟩
  | _, _, v, .lst hk ho hx q, h => by
    simp only [Rep] at h ⊢
    obtain ⟨a, e, hm⟩ := h
    obtain ⟨vs, hH, hr⟩ := R.obj _ _ a hx hm
    exact ⟨a, vs, e, hH, h3 _ a hk ho hm, Frzs.rep R h1 h2 h3 q hr⟩
  | _, _, v, .dk hk ho hx q, h => by
    simp only [Rep] at h ⊢
    obtain ⟨a, e, hm⟩ := h
    obtain ⟨vs, hH, hr⟩ := R.obj _ _ a hx hm
    have hr' := Frzs.rep R h1 h2 h3 q hr
    refine ⟨a, vs, e, hH, h3 _ a hk ho hm, ?_, hr'⟩
    have := hr.length
    rw [List.length_map] at this
    rw [List.length_map, this, hr'.length]
theorem Frzs.rep (R : Rel K m mu H) (h1 : ∀ n a, n < k → m.ad[n]? = some a → mm.ad[n]? = some a) (h2 : ∀ a, m.Out a → mm.Out a) (h3 : ∀ n a, k ≤ n → ok n → m.ad[n]? = some a → mm.Out a) : ∀ {ds es : List D} {vs : List V}, Frzs mu k ok ds es → Reps K m H ds vs → Reps K mm H es vs
  | _, _, vs, .nil, h => by rw [Reps.nil_iff] at h ⊢; exact h
  | _, _, vs, .cons q qs, h => by
    obtain ⟨v, r, e, r1, r2⟩ := Reps.cons_iff.mp h
    exact Reps.cons_iff.mpr ⟨v, r, e, Frz.rep R h1 h2 h3 q r1, Frzs.rep R h1 h2 h3 qs r2⟩
end
theorem FrzO.rep (R : Rel K m mu H) (h1 : ∀ n a, n < k → m.ad[n]? = some a → mm.ad[n]? = some a) (h2 : ∀ a, m.Out a → mm.Out a) (h3 : ∀ n a, k ≤ n → ok n → m.ad[n]? = some a → mm.Out a) {a : Addr} {o o' : MO} (q : FrzO mu k ok o o') (h : RepO K m H a o) : RepO K mm H a o' := by
  cases q with
  | lst q => obtain ⟨vs, hH, hr⟩ := h; exact ⟨vs, hH, Frzs.rep R h1 h2 h3 q hr⟩
  | dk e q => obtain ⟨vs, hH, hr⟩ := h; exact ⟨vs, by rw [← e]; exact hH, Frzs.rep R h1 h2 h3 q hr⟩
/-- the first places alone -/
def Mp.cut (m : Mp) (k : Nat) : Mp := ⟨m.ad.take k, m.no⟩
theorem cut_get {n : Nat} {a : Addr} (hn : n < k) (h : m.ad[n]? = some a) : (m.cut k).ad[n]? = some a := by
  show (m.ad.take k)[n]? = some a
  rw [List.getElem?_take_of_lt hn]; exact h
theorem cut_out {a : Addr} (h : m.Out a) : (m.cut k).Out a := ⟨fun z => h.1 (List.mem_of_mem_take z), h.2⟩
theorem cut_not {n : Nat} {a : Addr} (R : Rel K m mu H) (hk : k ≤ n) (h : m.ad[n]? = some a) : (m.cut k).Out a := by
  refine ⟨fun z => ?_, R.dj a (List.mem_of_getElem? h)⟩
  obtain ⟨j, hj⟩ := List.mem_iff_getElem?.mp (show a ∈ m.ad.take k from z)
  have hjk : j < k := by
    have := (List.getElem?_eq_some_iff.mp hj).1
    rw [List.length_take] at this
    omega
  rw [List.getElem?_take_of_lt hjk] at hj
  have := nodup_ix' R.nd hj h
  omega
theorem FrzH.rel (R : Rel K m mu H) {ok : Nat → Prop} (q : FrzH mu ok nu) (mm : Mp) (he : mm.ad = m.ad.take nu.length) (hno : mm.no = m.no) : Rel K mm nu H := by
  have e : mm = m.cut nu.length := by cases mm; simp only at he hno; rw [he, hno]; rfl
  subst e
  refine ⟨by show (m.ad.take nu.length).length = _; rw [List.length_take, R.len]; have := q.le; omega, R.nd.sublist (List.take_sublist _ _), R.nos, fun a ha => R.dj a (List.mem_of_mem_take ha), fun n o' a h1 h2 => ?_⟩
  have hn : n < nu.length := (List.getElem?_eq_some_iff.mp h1).1
  have h2' : m.ad[n]? = some a := by
    have h2 : (m.ad.take nu.length)[n]? = some a := h2
    rw [List.getElem?_take_of_lt hn] at h2; exact h2
  obtain ⟨o, ho, hr⟩ := R.at' h2'
  exact (q.at_ n o o' ho h1).rep R (fun n a hk h => cut_get hk h) (fun a h => cut_out h) (fun n a hk _ h => cut_not R hk h) hr
end
end MP
namespace MP
open PySem L2 PyProof.Rows
/-! ### a datum that names only old places is its own freezing -/
def Clo (k : Nat) (d : D) : Prop := ∀ mu ok, Frz mu k ok d d
def Clos (k : Nat) (ds : List D) : Prop := ∀ mu ok, Frzs mu k ok ds ds
theorem Clos.nil {k : Nat} : Clos k [] := fun _ _ => .nil
theorem Clos.cons {k : Nat} {d : D} {ds : List D} (h : Clo k d) (hs : Clos k ds) : Clos k (d :: ds) := fun mu ok => .cons (h mu ok) (hs mu ok)
theorem Clos.inv {k : Nat} {d : D} {ds : List D} (h : Clos k (d :: ds)) : Clo k d ∧ Clos k ds := ⟨fun mu ok => by
  have := h mu ok
  cases this with
  | cons a b => exact a, fun mu ok => by
  have := h mu ok
  cases this with
  | cons a b => exact b⟩
theorem Clos.mem {k : Nat} : ∀ {ds : List D}, Clos k ds → ∀ d ∈ ds, Clo k d
  | d :: ds, h, x, hx => by
    rcases List.mem_cons.mp hx with e | e
    · rw [e]; exact h.inv.1
    · exact Clos.mem h.inv.2 x e
theorem Clos.of {k : Nat} : ∀ {ds : List D}, (∀ d ∈ ds, Clo k d) → Clos k ds
  | [], _ => .nil
  | d :: ds, h => .cons (h d (by simp)) (Clos.of fun x hx => h x (by simp [hx]))
theorem Clo.tup {k : Nat} {ds : List D} : Clo k (.tup ds) ↔ Clos k ds := ⟨fun h mu ok => by
  have := h mu ok
  cases this with
  | tup q => exact q, fun h mu ok => .tup (h mu ok)⟩
theorem Clo.fl {k : Nat} {ds : List D} : Clo k (.fl ds) ↔ Clos k ds := ⟨fun h mu ok => by
  have := h mu ok
  cases this with
  | fl q => exact q, fun h mu ok => .fl (h mu ok)⟩
theorem Clo.ro {k : Nat} {ds : List D} : Clo k (.ro ds) ↔ Clos k ds := ⟨fun h mu ok => by
  have := h mu ok
  cases this with
  | ro q => exact q, fun h mu ok => .ro (h mu ok)⟩
theorem Clo.fd {k : Nat} {ks : List Key} {ds : List D} : Clo k (.fd ks ds) ↔ Clos k ds := ⟨fun h mu ok => by
  have := h mu ok
  cases this with
  | fd q => exact q, fun h mu ok => .fd (h mu ok)⟩
theorem Clo.ref {k n : Nat} : Clo k (.ref n) ↔ n < k := ⟨fun h => by
  have := h [] (fun _ => False)
  cases this with
  | ref h => exact h, fun h mu ok => .ref h⟩
theorem Clo.non {k : Nat} : Clo k .non := fun _ _ => .non
theorem Clo.bl {k : Nat} {b : Bool} : Clo k (.bl b) := fun _ _ => .bl b
theorem Clo.int {k : Nat} {i : Int} : Clo k (.int i) := fun _ _ => .int i
theorem Clo.str {k : Nat} {x : Str} : Clo k (.str x) := fun _ _ => .str x
section
variable {K : PySem.W.Frag} {m mm : Mp} {H : Hp} {mu nu : List MO} {k : Nat} {ok : Nat → Prop}
mutual
theorem Rep.clo : ∀ {d : D} {v : V}, Rep K m H d v → Clo m.ad.length d
  | .non, v, _ => Clo.non
  | .bl b, v, _ => Clo.bl
  | .int i, v, _ => Clo.int
  | .str x, v, _ => Clo.str
  | .tup ds, v, h => by
    simp only [Rep] at h
    obtain ⟨a, vs, e, hs, hr⟩ := h
    exact Clo.tup.mpr (Reps.clo hr)
  | .fl ds, v, h => by
    simp only [Rep] at h
    obtain ⟨a, vs, e, hs, hn, hr⟩ := h
    exact Clo.fl.mpr (Reps.clo hr)
  | .ro ds, v, h => by
    simp only [Rep] at h
    obtain ⟨a, vs, e, hs, hr⟩ := h
    exact Clo.ro.mpr (Reps.clo hr)
  | .fd ks ds, v, h => by
    simp only [Rep] at h
    obtain ⟨a, vs, e, hs, hn, hl, hr⟩ := h
    exact Clo.fd.mpr (Reps.clo hr)
  | .ref n, v, h => by
    simp only [Rep] at h
    obtain ⟨a, e, hm⟩ := h
    exact Clo.ref.mpr (List.getElem?_eq_some_iff.mp hm).1
theorem Reps.clo : ∀ {ds : List D} {vs : List V}, Reps K m H ds vs → Clos m.ad.length ds
  | [], vs, _ => Clos.nil
  | d :: ds, vs, h => by
    obtain ⟨v, r, e, r1, r2⟩ := Reps.cons_iff.mp h
    exact Clos.cons (Rep.clo r1) (Reps.clo r2)
end
def CloO (k : Nat) : MO → Prop
  | .lst xs => Clos k xs
  | .dk kvs => Clos k (kvs.map (·.2))
/-- a small heap that names only its own places -/
def CloH (mu : List MO) : Prop := ∀ o ∈ mu, CloO mu.length o
theorem Rel.clo (R : Rel K m mu H) : CloH mu := fun o ho => by
  obtain ⟨n, hn⟩ := List.mem_iff_getElem?.mp ho
  obtain ⟨a, _, hr⟩ := R.at hn
  rw [← R.len]
  cases o with
  | lst xs => obtain ⟨vs, _, h⟩ := hr; exact Reps.clo h
  | dk kvs => obtain ⟨vs, _, h⟩ := hr; exact Reps.clo h
theorem CloO.frz {o : MO} (h : CloO k o) : FrzO mu k ok o o := by
  cases o with
  | lst xs => exact .lst (h mu ok)
  | dk kvs => exact .dk rfl (h mu ok)
/-- what stands ahead of new places stays as it is -/
theorem CloH.frz (h : CloH mu) (ex : List MO) : FrzH (mu ++ ex) ok mu := ⟨by rw [List.length_append]; omega, fun n o o' h1 h2 => by
  rw [List.getElem?_append_left (List.getElem?_eq_some_iff.mp h2).1, h2] at h1
  cases h1
  exact (h o (List.mem_of_getElem? h2)).frz⟩
theorem Frz.weak {mu mu' : List MO} {k : Nat} {ok ok' : Nat → Prop} (h : ∀ n o, mu[n]? = some o → ok n → mu'[n]? = some o ∧ ok' n) : (∀ {d d' : D}, Frz mu k ok d d' → Frz mu' k ok' d d') ∧ (∀ {d d' : List D}, Frzs mu k ok d d' → Frzs mu' k ok' d d') := by
  have key : ∀ {d d' : D} (q : Frz mu k ok d d'), Frz mu' k ok' d d' := by
    intro d d' q
    exact Frz.rec (motive_1 := fun d d' _ => Frz mu' k ok' d d') (motive_2 := fun d d' _ => Frzs mu' k ok' d d') .non .bl .int .str (fun _ q => .tup q) (fun _ q => .fl q) (fun _ q => .ro q) (fun _ q => .fd q) .ref (fun hk ho hx _ q => .lst hk (h _ _ hx ho).2 (h _ _ hx ho).1 q) (fun hk ho hx _ q => .dk hk (h _ _ hx ho).2 (h _ _ hx ho).1 q) .nil (fun _ _ q qs => .cons q qs) q
  refine ⟨key, ?_⟩
  intro d d' q
  exact Frzs.rec (motive_1 := fun d d' _ => Frz mu' k ok' d d') (motive_2 := fun d d' _ => Frzs mu' k ok' d d') .non .bl .int .str (fun _ q => .tup q) (fun _ q => .fl q) (fun _ q => .ro q) (fun _ q => .fd q) .ref (fun hk ho hx _ q => .lst hk (h _ _ hx ho).2 (h _ _ hx ho).1 q) (fun hk ho hx _ q => .dk hk (h _ _ hx ho).2 (h _ _ hx ho).1 q) .nil (fun _ _ q qs => .cons q qs) q
theorem FrzO.weak {mu mu' : List MO} {k : Nat} {ok ok' : Nat → Prop} (h : ∀ n o, mu[n]? = some o → ok n → mu'[n]? = some o ∧ ok' n) {o o' : MO} (q : FrzO mu k ok o o') : FrzO mu' k ok' o o' := by
  cases q with
  | lst q => exact .lst ((Frz.weak h).2 q)
  | dk e q => exact .dk e ((Frz.weak h).2 q)
/-- a list handed out of the small heap -/
theorem frz_add {n : Nat} {a : Addr} {vs : List V} {xs ys : List D} (R : Rel K m mu H) (q : FrzH mu (fun j => j ≠ n) nu) (hk : nu.length ≤ n) (hx : mu[n]? = some (.lst xs)) (hm : m.ad[n]? = some a) (hys : Frzs mu nu.length (fun j => j ≠ n) xs ys) (hv : H a = some (.lst vs)) (hr : Reps K m H xs vs) :
    (m.cut nu.length).Out a ∧ Reps K (m.cut nu.length) H ys vs ∧ Rel K ((m.cut nu.length).add a) (nu ++ [.lst ys]) H := by
  have hout := cut_not (k := nu.length) R hk hm
  have R1 := q.rel R (m.cut nu.length) rfl rfl
  have g1 : ∀ n' a', n' < nu.length → m.ad[n']? = some a' → ((m.cut nu.length).add a).ad[n']? = some a' := fun n' a' h e => by
    show ((m.cut nu.length).ad ++ [a])[n']? = some a'
    rw [List.getElem?_append_left (by rw [R1.len]; exact h)]
    exact cut_get h e
  have g2 : ∀ a', m.Out a' → ((m.cut nu.length).add a).Out a' := fun a' h => ⟨fun z => by
    rcases List.mem_append.mp (show a' ∈ (m.cut nu.length).ad ++ [a] from z) with z | z
    · exact (cut_out h).1 z
    · rw [List.mem_singleton.mp z] at h
      exact h.1 (List.mem_of_getElem? hm), h.2⟩
  have g3 : ∀ n' a', nu.length ≤ n' → n' ≠ n → m.ad[n']? = some a' → ((m.cut nu.length).add a).Out a' := fun n' a' h1 h2 e => ⟨fun z => by
    rcases List.mem_append.mp (show a' ∈ (m.cut nu.length).ad ++ [a] from z) with z | z
    · exact (cut_not R h1 e).1 z
    · rw [List.mem_singleton.mp z] at e
      exact h2 (nodup_ix' R.nd e hm), R.dj a' (List.mem_of_getElem? e)⟩
  refine ⟨hout, hys.rep R (fun n a hk h => cut_get hk h) (fun a h => cut_out h) (fun n a hk _ h => cut_not R hk h) hr, ?_⟩
  refine ⟨?_, ?_, R.nos, ?_, ?_⟩
  · show ((m.cut nu.length).ad ++ [a]).length = _
    rw [List.length_append, List.length_append, R1.len]; rfl
  · show ((m.cut nu.length).ad ++ [a]).Nodup
    rw [List.nodup_append]
    exact ⟨R1.nd, by simp, fun x hx y hy e => by rw [List.mem_singleton.mp hy] at e; rw [e] at hx; exact hout.1 hx⟩
  · intro a' ha'
    rcases List.mem_append.mp (show a' ∈ (m.cut nu.length).ad ++ [a] from ha') with z | z
    · exact R1.dj a' z
    · rw [List.mem_singleton.mp z]; exact hout.2
  · intro n' o' a' h1 h2
    have h2 : ((m.cut nu.length).ad ++ [a])[n']? = some a' := h2
    by_cases hn' : n' < nu.length
    · rw [List.getElem?_append_left hn'] at h1
      rw [List.getElem?_append_left (by rw [R1.len]; exact hn')] at h2
      have h2 : (m.ad.take nu.length)[n']? = some a' := h2
      rw [List.getElem?_take_of_lt hn'] at h2
      obtain ⟨o, ho, hr'⟩ := R.at' h2
      exact (q.at_ n' o o' ho h1).rep R g1 g2 g3 hr'
    · rw [List.getElem?_append_right (by omega)] at h1
      rw [List.getElem?_append_right (by rw [R1.len]; omega), R1.len] at h2
      have e0 : n' - nu.length = 0 := by
        have := (List.getElem?_eq_some_iff.mp h1).1
        simp only [List.length_cons, List.length_nil] at this
        omega
      rw [e0] at h1 h2
      simp only [List.getElem?_cons_zero, Option.some.injEq] at h1 h2
      subst h1 h2
      exact ⟨vs, hv, hys.rep R g1 g2 g3 hr⟩
/-- the law of an answer that has been frozen -/
inductive FrzX (mu nu : List MO) : Xn → Xn → Prop
  | mk {c : Str} {ks : List Str} {xs ys : List D} : ks.length = xs.length → ks.length = ys.length → FrzH mu (fun _ => True) nu → Frzs mu nu.length (fun _ => True) xs ys → FrzX mu nu ⟨c, ks.zip xs⟩ ⟨c, ks.zip ys⟩
/-- den is as den' says, but for what is left behind -/
def GC (n : Nat) (den den' : List D → M Rv) : Prop := ∀ ds mu, ds.length = n → Clos mu.length ds → CloH mu → match den' ds mu with
  | .bad => True
  | .ok rv' nu => ∃ rv mu', den ds mu = .ok rv mu' ∧ mu.length ≤ nu.length ∧ FrzR mu' nu rv rv'
  | .exc x' nu => ∃ x mu', den ds mu = .exc x mu' ∧ mu.length ≤ nu.length ∧ FrzX mu' nu x x'
theorem Grow.cut {m m' : Mp} {H H' : Hp} {k : Nat} (g : Grow m m' H H') (hk : m.ad.length ≤ k) : Grow m (m'.cut k) H H' := by
  obtain ⟨l, j, e1, e2, hl, hj⟩ := g.ext
  refine ⟨⟨l.take (k - m.ad.length), j, ?_, e2, fun a ha => hl a (List.mem_of_mem_take ha), hj⟩, g.oth, g.tups, g.frzs, g.trk⟩
  show m'.ad.take k = _
  rw [e1, List.take_append, List.take_of_length_le hk]
theorem Grow.new {m m' : Mp} {H H' : Hp} (g : Grow m m' H H') {n : Nat} {a : Addr} (hn : m.ad.length ≤ n) (h : m'.ad[n]? = some a) : H a = none := by
  obtain ⟨l, j, e1, _, hl, _⟩ := g.ext
  rw [e1, List.getElem?_append_right hn] at h
  exact hl a (List.mem_of_getElem? h)
theorem Post.gc {W : Wx} {m : Mp} {den den' : List D → M Rv} {n : Nat} {ds : List D} {vs : List V} {Q : VK} (hg : GC n den den') (hn : ds.length = n) (hr : Reps K m H ds vs) (R : Rel K m mu H)
    (hW : ∀ x x' mu' nu m' H', FrzX mu' nu x x' → Rel K m' mu' H' → W x' (m'.cut nu.length) H' → W x m' H')
    (hp : Post K W m H (den' ds mu) fun rv m' mu' H' => RvQ K H rv m' mu' H' Q) : Post K W m H (den ds mu) fun rv m' mu' H' => RvQ K H rv m' mu' H' Q := by
  have hc := hg ds mu hn (by rw [← R.len]; exact hr.clo) R.clo
  cases e : den' ds mu with
  | bad => rw [e] at hp; exact (show False from hp).elim
  | exc x' nu =>
    rw [e] at hc hp
    obtain ⟨x, mu', e', hl, hx⟩ := hc
    rw [e']
    intro m' H' g R'
    refine hW x x' mu' nu m' H' hx R' (hp _ H' (g.cut (by rw [R.len]; exact hl)) ?_)
    cases hx with
    | mk _ _ hh _ => exact hh.rel R' _ rfl rfl
  | ok rv' nu =>
    rw [e] at hc hp
    obtain ⟨rv, mu', e', hl, hf⟩ := hc
    rw [e']
    intro m' H' g R'
    have gc := g.cut (k := nu.length) (by rw [R.len]; exact hl)
    cases hf with
    | vl hh hd =>
      have hq := hp _ H' gc (hh.rel R' _ rfl rfl)
      exact fun v rv => hq v (hd.rep R' (fun n a hk h => cut_get hk h) (fun a h => cut_out h) (fun n a hk _ h => cut_not R' hk h) rv)
    | newL hk hx hh hys =>
      have hq := hp _ H' gc (hh.rel R' _ rfl rfl)
      intro v rv
      simp only [Rep] at rv
      obtain ⟨a, ev, hm⟩ := rv
      obtain ⟨vs, hv, hr'⟩ := R'.obj _ _ a hx hm
      obtain ⟨h1, h2, h3⟩ := frz_add R' hh hk hx hm hys hv hr'
      rw [ev]
      exact hq a vs (g.new (by rw [R.len]; omega) hm) hv h1 h2 h3
    | fr hh hys =>
      have hq := hp _ H' gc (hh.rel R' _ rfl rfl)
      rename_i xs ys
      intro a vs h0 h1 ho hr' R2
      have hm : (m'.add a).ad[mu'.length]? = some a := by
        show (m'.ad ++ [a])[mu'.length]? = some a
        rw [List.getElem?_append_right (by rw [R'.len]; exact Nat.le_refl _), R'.len]; simp
      have hx : (mu' ++ [MO.lst xs])[mu'.length]? = some (.lst xs) := by
        rw [List.getElem?_append_right (Nat.le_refl _)]; simp
      have wk : ∀ n o, mu'[n]? = some o → True → (mu' ++ [MO.lst xs])[n]? = some o ∧ n ≠ mu'.length := fun n o h _ => by
        have := (List.getElem?_eq_some_iff.mp h).1
        exact ⟨by rw [List.getElem?_append_left this]; exact h, by omega⟩
      have hh' : FrzH (mu' ++ [MO.lst xs]) (fun j => j ≠ mu'.length) nu := ⟨by rw [List.length_append]; have := hh.le; omega, fun n o o' h1 h2 => by
        have hlt : n < mu'.length := Nat.lt_of_lt_of_le (List.getElem?_eq_some_iff.mp h2).1 hh.le
        rw [List.getElem?_append_left hlt] at h1
        exact (hh.at_ n o o' h1 h2).weak wk⟩
      have hr2 : Reps K (m'.add a) H' xs vs := by
        obtain ⟨vs2, hv2, hr2⟩ := R2.obj _ _ a hx hm
        rw [h1] at hv2
        cases hv2
        exact hr2
      obtain ⟨q1, q2, q3⟩ := frz_add R2 hh' (by have := hh.le; omega) hx hm ((Frz.weak wk).2 hys) h1 hr2
      have ec : (m'.add a).cut nu.length = m'.cut nu.length := by
        show Mp.mk ((m'.ad ++ [a]).take nu.length) m'.no = Mp.mk (m'.ad.take nu.length) m'.no
        rw [List.take_append_of_le_length (by rw [R'.len]; exact hh.le)]
      rw [ec] at q1 q2 q3
      exact hq a vs h0 h1 q1 q2 q3
    | frv hh hys =>
      have hq := hp _ H' gc (hh.rel R' _ rfl rfl)
      intro a vs h0 h1 ho hr' R2
      refine hq (.ref a) ?_
      simp only [Rep]
      exact ⟨a, vs, rfl, h1, cut_out ho, hys.rep R' (fun n a hk h => cut_get hk h) (fun a h => cut_out h) (fun n a hk _ h => cut_not R' hk h) hr'⟩
theorem XRep.gc {mg : Str → Option Value} {m : Mp} {x x' : Xn} (hx : FrzX mu nu x x') (R : Rel K m mu H) {cls : Value} {d : Option Addr} (h : XRep mg K m H x cls d) : XRep mg K (m.cut nu.length) H x' cls d := by
  cases hx with
  | @mk c ks xs ys l1 l2 hh hf =>
    obtain ⟨h1, h2⟩ := h
    refine ⟨h1, ?_⟩
    cases d with
    | none =>
      have h2 : ks.zip xs = [] := h2
      show ks.zip ys = []
      cases ks with
      | nil => rfl
      | cons k ks => cases xs with
        | nil => simp at l1
        | cons x xs => simp at h2
    | some p =>
      obtain ⟨gs, g1, g2, g3⟩ := h2
      refine ⟨gs, g1, ?_, ?_⟩
      · rw [g2]
        show (ks.zip xs).map (·.1) = (ks.zip ys).map (·.1)
        rw [List.map_fst_zip (by omega), List.map_fst_zip (by omega)]
      · show Reps K _ H ((ks.zip ys).map (·.2)) _
        have g3 : Reps K m H ((ks.zip xs).map (·.2)) _ := g3
        rw [zip_len l2]
        rw [zip_len l1] at g3
        exact hf.rep R (fun n a hk h => cut_get hk h) (fun a h => cut_out h) (fun n a hk _ h => cut_not R hk h) g3
end
/-- a def's promise, without what it leaves behind -/
theorem sp_gc {P : Program} {w : World} {K : PySem.W.Frag} {mg : Str → Option Value} {base : Heap} {CX : CXT} {k n : Nat} {f : Addr} {fd : FuncData} {ps : List Str} {den den' : List D → M Rv} (F : FnOk P w K mg base CX k f fd ps (sp K mg n den)) (hg : GC n den den') : FnOk P w K mg base CX k f fd ps (sp K mg n den') :=
  F.imp fun vs H Q E ⟨h1, ds, m, mu, hr, R, hp⟩ => ⟨h1, ds, m, mu, hr, R, Post.gc hg (by rw [hr.length]; exact h1) hr R (fun x x' mu' nu m' H' hx R' hw cls d h => hw cls d (XRep.gc hx R' h)) hp⟩
end MP
namespace MP
open PySem L2 PyProof.Rows
/-! ### dicts that change -/
def mapV {β : Type} (kvs : List (Key × β)) (k : Key) (y : β) : List (Key × β) := kvs.map fun kv => if kv.1 = k then (kv.1, y) else kv
def putD {β : Type} (kvs : List (Key × β)) (k : Key) (y : β) : List (Key × β) := if (kvs.any fun kv => decide (kv.1 = k)) = true then mapV kvs k y else kvs ++ [(k, y)]
theorem mapV_keys {β : Type} {k : Key} {y : β} : ∀ (kvs : List (Key × β)), (mapV kvs k y).map (·.1) = kvs.map (·.1)
  | [] => rfl
  | p :: r => by
    have ih := mapV_keys (k := k) (y := y) r
    unfold mapV at ih ⊢
    rw [List.map_cons, List.map_cons, List.map_cons, ih]
    by_cases e : p.1 = k
    · rw [if_pos e]
    · rw [if_neg e]
theorem any_zip {α : Type} {k : Key} : ∀ (kvs : List (Key × α)) {β : Type} (vs : List β), kvs.length = vs.length → (((kvs.map (·.1)).zip vs).any fun kv => decide (kv.1 = k)) = kvs.any fun kv => decide (kv.1 = k)
  | [], _, _, _ => by simp
  | p :: r, _, [], h => by simp at h
  | p :: r, _, v :: vs, h => by
    rw [List.map_cons, List.zip_cons_cons, List.any_cons, List.any_cons, any_zip r vs (by simpa using h)]
theorem mapV_rep {K : PySem.W.Frag} {m : Mp} {H : Hp} {k : Key} {d : D} {v : V} (hd : Rep K m H d v) : ∀ {kvs : List (Key × D)} {vs : List V}, Reps K m H (kvs.map (·.2)) vs → Reps K m H ((mapV kvs k d).map (·.2)) ((mapV ((kvs.map (·.1)).zip vs) k v).map (·.2))
  | [], vs, h => by rw [List.map_nil, Reps.nil_iff] at h; subst h; exact Reps.nil_iff.mpr rfl
  | p :: r, vs, h => by
    rw [List.map_cons] at h
    obtain ⟨w, ws, rfl, h1, h2⟩ := Reps.cons_iff.mp h
    have ih := mapV_rep (k := k) hd h2
    unfold mapV at ih ⊢
    rw [List.map_cons, List.map_cons, List.map_cons, List.zip_cons_cons, List.map_cons, List.map_cons]
    refine Reps.cons_iff.mpr ⟨_, _, rfl, ?_, ih⟩
    by_cases e : p.1 = k
    · rw [if_pos e, if_pos e]; exact hd
    · rw [if_neg e, if_neg e]; exact h1
theorem put_rep {K : PySem.W.Frag} {m : Mp} {H : Hp} {k : Key} {d : D} {v : V} {kvs : List (Key × D)} {vs : List V} (h : Reps K m H (kvs.map (·.2)) vs) (hd : Rep K m H d v) : ∃ ws, putK ((kvs.map (·.1)).zip vs) k v = ((putD kvs k d).map (·.1)).zip ws ∧ ∀ m' H', Reps K m' H' (kvs.map (·.2)) vs → Rep K m' H' d v → Reps K m' H' ((putD kvs k d).map (·.2)) ws := by
  have hl : kvs.length = vs.length := by have := h.length; rwa [List.length_map] at this
  unfold putK putD
  rw [any_zip kvs vs hl]
  by_cases a : (kvs.any fun kv => decide (kv.1 = k)) = true
  · rw [if_pos a, if_pos a]
    refine ⟨(mapV ((kvs.map (·.1)).zip vs) k v).map (·.2), ?_, fun m' H' h hd => mapV_rep hd h⟩
    rw [mapV_keys]
    have e : (mapV ((kvs.map (·.1)).zip vs) k v).map (·.1) = kvs.map (·.1) := by rw [mapV_keys, List.map_fst_zip (by rw [List.length_map]; omega)]
    have z := zip_keys (mapV ((kvs.map (·.1)).zip vs) k v)
    rw [e] at z
    exact z.symm
  · rw [if_neg a, if_neg a]
    refine ⟨vs ++ [v], ?_, fun m' H' h hd => ?_⟩
    · rw [List.map_append, List.zip_append (by rw [List.length_map]; exact hl)]; rfl
    · rw [List.map_append]; exact h.append (Reps.one hd)
def putM (o k v : D) : M D := toR o >>= fun n => toK k >>= fun kk => modD n fun kvs => if kvs.length < sizeLine then some (putD kvs kk v, .non) else none
section
variable {X : Cx} {W : Wx} {e o a b c value i : Expr} {es : List Expr} {pos apos cpos tpos p pos' : Pos}
theorem putM_ok {K : PySem.W.Frag} {W : Wx} {m : Mp} {H : Hp} {mu : List MO} {o k d : D} {x y v : V} {Q : D → Mp → List MO → Hp → Prop} (R : Rel K m mu H) (ho : Rep K m H o x) (hk : Rep K m H k y) (hd : Rep K m H d v) (hp : Post K W m H (putM o k d mu) Q) :
    ∃ a H4 mu', x = .ref a ∧ DPut H a y v H4 ∧ Grow m m H H4 ∧ Rel K m mu' H4 ∧ Q .non m mu' H4 := by
  unfold putM at hp
  obtain ⟨n, a, rfl, rfl, hm, hp⟩ := toR_ok R ho (Post.bind hp)
  obtain ⟨kk, rfl, hp⟩ := toK_ok R hk (Post.bind hp)
  obtain ⟨kvs, us, ys, d', hH, hrs, hf, hg, hq⟩ := modD_ok R hm hp
  by_cases hl : kvs.length < sizeLine
  · rw [if_pos hl] at hf
    cases hf
    obtain ⟨ws, e, hr⟩ := put_rep (k := kk) hrs hd
    have gg := hg (((putD kvs kk d).map (·.1)).zip ws)
    have rr := hr m _ (Reps.grow gg _ _ hrs) (Rep.grow gg _ _ hd)
    have hlen : ((kvs.map (·.1)).zip us).length = kvs.length := by have := hrs.length; rw [List.length_map] at this; rw [List.length_zip, List.length_map, ← this, Nat.min_self]
    exact ⟨a, _, _, rfl, by rw [← e]; exact DPut.k hH (by rw [hlen]; exact hl), gg, R.write hm (show RepO K m _ a (.dk (putD kvs kk d)) from ⟨ws, upd_same, rr⟩), hq ws rr⟩
  · rw [if_neg hl] at hf; cases hf
/-- d[k] = v -/
def sDput (ro ri rv : Env → M D) : Env → M Fl := fun env => rv env >>= fun v => ro env >>= fun o => ri env >>= fun i => putM o i v >>= fun _ => pure (.nx env)
theorem ms_dput {ro ri rv : Env → M D} (hu : X.A.units + 1 < cLine) (ho : ME X W o ro) (hi : ME X W i ri) (hv : ME X W value rv) (hs : swapsWith value (some (.Subscript o i pos')) pos.line X.env = pure false := by rfl) :
    MS X W (.Assign [.Subscript o i pos'] value pos) (sDput ro ri rv) := ⟨(ps_dput hu ho.pe hi.pe hv.pe hs).imp fun D σ H ⟨env, m, mu, hE, hR, hp⟩ =>
  ⟨env, m, mu, hE, hR, (Post.bind hp).mono fun v m1 mu1 H1 g1 R1 hp vv rv => ⟨env, m1, mu1, hE.grow g1, R1, (Post.bind hp).mono fun o m2 mu2 H2 g2 R2 hp ov ro => ⟨env, m2, mu2, (hE.grow g1).grow g2, R2, (Post.bind hp).mono fun i m3 mu3 H3 g3 R3 hp iv ri => by
    obtain ⟨a, H4, mu4, ex, hd, g4, R4, hq⟩ := putM_ok R3 (Rep.grow g3 o ov ro) ri (Rep.grow g3 v vv (Rep.grow g2 v vv rv)) (Post.bind hp)
    exact ⟨a, H4, ex, hd, (Post.pure hq R4) σ ((((hE.grow g1).grow g2).grow g3).grow g4)⟩⟩⟩⟩⟩
/-- d.get(k), d.get(k, x) -/
def dctK (o : D) : M Unit := rdD o >>= fun _ => pure ()
def eGet1 (ro ri : Env → M D) : Env → M D := fun env => ro env >>= fun o => dctK o >>= fun _ => ri env >>= fun y => rdD o >>= fun kvs => toK y >>= fun k => pure ((valD kvs k).getD .non)
def eGet2 (ro ri rx : Env → M D) : Env → M D := fun env => ro env >>= fun o => dctK o >>= fun _ => ri env >>= fun y => rx env >>= fun x => rdD o >>= fun kvs => toK y >>= fun k => pure ((valD kvs k).getD x)
theorem dctK_ok {K : PySem.W.Frag} {W : Wx} {m : Mp} {H : Hp} {mu : List MO} {d : D} {v : V} {Q : Unit → Mp → List MO → Hp → Prop} (R : Rel K m mu H) (h : Rep K m H d v) (hp : Post K W m H (dctK d mu) Q) : ∃ a, v = .ref a ∧ IsD H a ∧ Q () m mu H := by
  obtain ⟨a, kvs, vs, rfl, hH, hr, hp⟩ := rdD_ok R h (Post.bind hp)
  exact ⟨a, rfl, .inl ⟨_, .inl hH⟩, Post.pure hp R⟩
theorem me_get1 {ro ri : Env → M D} (hu : X.A.units + 1 < cLine) (ho : ME X W o ro) (hi : ME X W e ri) (m : M1 X o "get" apos e cpos := by exact ⟨rfl, rfl, rfl, rfl⟩) : ME X W (.Call (.Attribute o "get" apos) [e] [] cpos) (eGet1 ro ri) := ⟨(pe_dget1 hu ho.pe hi.pe m).imp fun σ H Q ⟨env, m, mu, hE, hR, hp⟩ =>
  ⟨env, m, mu, hE, hR, (Post.bind hp).mono fun o m1 mu1 H1 g1 R1 hp ov ro => by
    obtain ⟨a, rfl, hi, hp⟩ := dctK_ok R1 ro (Post.bind hp)
    refine ⟨a, rfl, hi, env, m1, mu1, hE.grow g1, R1, (Post.bind hp).mono fun y m2 mu2 H2 g2 R2 hp yv ry => ?_⟩
    obtain ⟨p, kvs, vs, e, hH, hr, hp⟩ := rdD_ok R2 (Rep.grow g2 o _ ro) (Post.bind hp)
    cases e
    obtain ⟨k, rfl, hp⟩ := toK_ok R2 ry (Post.bind hp)
    rcases valD_get k hH hr with ⟨d, z, e, rz, g⟩ | ⟨e, g⟩
    · rw [e] at hp
      exact ⟨_, g, Post.pure hp R2 z rz⟩
    · rw [e] at hp
      exact ⟨_, g, Post.pure hp R2 .non (by simp only [Rep, Option.getD_none])⟩⟩⟩
theorem me_get2 {ro ri rx : Env → M D} (hu : X.A.units + 1 < cLine) (ho : ME X W o ro) (hi : ME X W e ri) (hx : ME X W c rx) (m : M2 X o "get" apos e c cpos := by exact ⟨rfl, rfl, rfl, rfl⟩) : ME X W (.Call (.Attribute o "get" apos) [e, c] [] cpos) (eGet2 ro ri rx) := ⟨(pe_dget2 hu ho.pe hi.pe hx.pe m).imp fun σ H Q ⟨env, m, mu, hE, hR, hp⟩ =>
  ⟨env, m, mu, hE, hR, (Post.bind hp).mono fun o m1 mu1 H1 g1 R1 hp ov ro => by
    obtain ⟨a, rfl, hi, hp⟩ := dctK_ok R1 ro (Post.bind hp)
    refine ⟨a, rfl, hi, env, m1, mu1, hE.grow g1, R1, (Post.bind hp).mono fun y m2 mu2 H2 g2 R2 hp yv ry => ⟨env, m2, mu2, (hE.grow g1).grow g2, R2, (Post.bind hp).mono fun x m3 mu3 H3 g3 R3 hp xv rx => ?_⟩⟩
    obtain ⟨p, kvs, vs, e, hH, hr, hp⟩ := rdD_ok R3 (Rep.grow g3 o _ (Rep.grow g2 o _ ro)) (Post.bind hp)
    cases e
    obtain ⟨k, rfl, hp⟩ := toK_ok R3 (Rep.grow g3 y _ ry) (Post.bind hp)
    rcases valD_get k hH hr with ⟨d, z, e, rz, g⟩ | ⟨e, g⟩
    · rw [e] at hp
      exact ⟨_, g, Post.pure hp R3 z rz⟩
    · rw [e] at hp
      exact ⟨_, g, Post.pure hp R3 xv rx⟩⟩⟩
/-! ### isinstance -/
def tyD : D → M String
  | .non => pure "NoneType"
  | .bl _ => pure "bool"
  | .int _ => pure "int"
  | .str _ => pure "str"
  | .tup _ => pure "tuple"
  | .fl _ => pure "list"
  | .ro _ => pure "list"
  | .fd _ _ => pure "dict"
  | .ref n => fun mu => match mu[n]? with
    | some (.lst _) => .ok "list" mu
    | some (.dk _) => .ok "dict" mu
    | none => .bad
def tys : List String := ["NoneType", "bool", "int", "str", "tuple", "list", "dict"]
theorem tyD_ok {K : PySem.W.Frag} {W : Wx} {m : Mp} {H : Hp} {mu : List MO} {d : D} {v : V} {Q : String → Mp → List MO → Hp → Prop} (R : Rel K m mu H) (h : Rep K m H d v) (hp : Post K W m H (tyD d mu) Q) : ∃ t, t ∈ tys ∧ TyX K H v (.type t) ∧ Q t m mu H := by
  cases d <;> simp only [Rep] at h
  case non => subst h; exact ⟨_, by simp [tys], .base .non, Post.pure hp R⟩
  case bl b => subst h; exact ⟨_, by simp [tys], .base (.bl b), Post.pure hp R⟩
  case int b => subst h; exact ⟨_, by simp [tys], .base (.int b), Post.pure hp R⟩
  case str b => subst h; exact ⟨_, by simp [tys], .base (.str b), Post.pure hp R⟩
  case tup ds =>
    obtain ⟨a, vs, rfl, hs, _⟩ := h
    refine ⟨"tuple", by simp [tys], ?_, Post.pure hp R⟩
    rcases hs with (hs | ⟨o, hs⟩) | ⟨o, its, n, hs, hc, _⟩
    · exact .base (.tup hs)
    · exact .fTuple hs
    · exact .kTuple hs hc
  case fl ds =>
    obtain ⟨a, vs, rfl, hs, _⟩ := h
    exact ⟨"list", by simp [tys], .base (.lst hs), Post.pure hp R⟩
  case ro ds =>
    obtain ⟨a, vs, rfl, hs, _⟩ := h
    refine ⟨"list", by simp [tys], ?_, Post.pure hp R⟩
    rcases hs with ⟨o, hs⟩ | ⟨o, its, n, hs, hc, _⟩
    · exact .base (.frz hs)
    · exact .kList hs hc
  case fd ks ds =>
    obtain ⟨a, vs, rfl, hs, _⟩ := h
    exact ⟨"dict", by simp [tys], .base (.dK hs), Post.pure hp R⟩
  case ref n =>
    obtain ⟨a, rfl, hm⟩ := h
    obtain ⟨o, ho, hr⟩ := R.at' hm
    have e1 : tyD (.ref n) mu = match mu[n]? with
      | some (.lst _) => MP.R.ok "list" mu
      | some (.dk _) => .ok "dict" mu
      | none => .bad := rfl
    rw [e1, ho] at hp
    cases o with
    | lst xs => obtain ⟨vs, hH, _⟩ := hr; exact ⟨"list", by simp [tys], .base (.lst hH), hp m H .refl R⟩
    | dk xs => obtain ⟨vs, hH, _⟩ := hr; exact ⟨"dict", by simp [tys], .base (.dK hH), hp m H .refl R⟩
def isiB (t T : String) : Bool := t == T || (t == "bool" && T == "int")
theorem isi_tab : ∀ T ∈ (["bool", "int", "str", "tuple", "list", "dict"] : List String), ∀ t ∈ tys, kitB t T = some (isiB t T) := by decide +kernel
def gIsi (T : String) (x : D) : M D := tyD x >>= fun t => pure (.bl (isiB t T))
theorem me_isi {T : String} {x y : Str} {r : Env → M D} (hT : T ∈ (["bool", "int", "str", "tuple", "list", "dict"] : List String)) (hg : Gl X x) (hm : X.mg x = none) (hv : bootBuiltins x = some (.builtin "isinstance")) (hg' : Gl X y) (hm' : X.mg y = none) (hv' : bootBuiltins y = some (.type T)) (h : ME X W e r)
    (hn : x ≠ "__name__" := by decide) (hdb : (x == ("__debug__" : Str)) = false := by decide) (hn' : y ≠ "__name__" := by decide) (hdb' : (y == ("__debug__" : Str)) = false := by decide)
    (h1 : starEach [.Name y pos'] X.env = (false, eval (.Name y pos') X.env) :: starEach [] X.env := by rfl)
    (he : starEach [e, .Name y pos'] X.env = (false, eval e X.env) :: starEach [.Name y pos'] X.env := by rfl) (hpl : (backTo pos (starEach [.Name y pos'] X.env)).any (·.1) = false := by rfl) : ME X W (.Call (.Name x p) [e, .Name y pos'] [] pos) (eMap (gIsi T) r) :=
  ⟨(pe_callB call_isi hg hm hv (pa_cons h.pe (pa_cons (pe_bltn hg' hm' hv' (v := .ty T) rfl hn' hdb') pa_nil h1) he) hn hdb he hpl).imp fun σ H Q ⟨env, m, mu, hE, hR, hp⟩ =>
    ⟨env, m, mu, hE, hR, (Post.bind hp).mono fun d m1 mu1 H1 g1 R1 hp v rv => by
      obtain ⟨t, ht, ty, hp⟩ := tyD_ok R1 rv (Post.bind hp)
      exact ⟨v, .ty T, .type t, .type T, isiB t T, rfl, .ty T, ty, kit_ty (isi_tab T hT t ht), Post.pure hp R1 _ (by simp only [Rep])⟩⟩⟩
end
/-! ### sorted -/
def leS (x y : Str) : Bool := !Spec.ltCps y.cps.toList x.cps.toList
theorem leS_iff {x y : Str} : leS x y = true ↔ x.cps.toList ≤ y.cps.toList := by
  unfold leS
  rw [ltCps_eq, Bool.not_eq_true', decide_eq_false_iff_not]
  exact Iff.rfl
theorem leS_trans (a b c : Str) (h : leS a b = true) (h' : leS b c = true) : leS a c = true := leS_iff.mpr (List.le_trans (leS_iff.mp h) (leS_iff.mp h'))
theorem leS_total (a b : Str) : (leS a b || leS b a) = true := by
  rw [Bool.or_eq_true, leS_iff, leS_iff]
  exact List.le_total _ _
theorem leS_anti {a b : Str} (h : leS a b = true) (h' : leS b a = true) : a = b := by
  have e := List.le_antisymm (leS_iff.mp h) (leS_iff.mp h')
  cases a; cases b
  simp only at e
  congr 1
  exact Array.toList_inj.mp e
theorem risingS_pw : ∀ (l : List Str) (p : Str), risingS p l = true → (p :: l).Pairwise fun a b => leS a b = true
  | [], p, _ => List.pairwise_singleton ..
  | x :: r, p, h => by
    rw [risingS, Bool.and_eq_true] at h
    have ih := risingS_pw r x h.2
    refine List.pairwise_cons.mpr ⟨fun y hy => ?_, ih⟩
    rcases List.mem_cons.mp hy with e | hy
    · rw [e]; exact h.1
    · exact leS_trans p x y h.1 ((List.pairwise_cons.mp ih).1 y hy)
theorem sortedS_pw : ∀ {l : List Str}, sortedS l = true → l.Pairwise fun a b => leS a b = true
  | [], _ => List.Pairwise.nil
  | x :: r, h => risingS_pw r x h
def srtS (xs : List Str) : List Str := xs.mergeSort leS
def srtI (xs : List Int) : List Int := xs.mergeSort fun a b => decide (a ≤ b)
theorem srtS_eq {xs ys : List Str} (h : ys.Perm xs) (hs : sortedS ys = true) : ys = srtS xs :=
  List.Perm.eq_of_pairwise (le := fun a b => leS a b = true) (fun a b _ _ h h' => leS_anti h h') (sortedS_pw hs) (List.pairwise_mergeSort leS_trans leS_total xs) (h.trans (List.mergeSort_perm xs leS).symm)
theorem srtI_eq {xs ys : List Int} (h : ys.Perm xs) (hs : ys.Pairwise (· ≤ ·)) : ys = srtI xs := by
  refine List.Perm.eq_of_pairwise (le := fun a b => a ≤ b) (fun a b _ _ h h' => Int.le_antisymm h h') hs ?_ (h.trans (List.mergeSort_perm xs _).symm)
  have q := List.pairwise_mergeSort (le := fun a b : Int => decide (a ≤ b)) (fun a b c h h' => by simp only [decide_eq_true_eq] at h h' ⊢; omega) (fun a b => by simp only [Bool.or_eq_true, decide_eq_true_eq]; omega) xs
  exact q.imp fun h => by simpa using h
def strsOf : List D → Option (List Str)
  | [] => some []
  | .str x :: r => (strsOf r).map (x :: ·)
  | _ => none
def intsOf : List D → Option (List Int)
  | [] => some []
  | .int x :: r => (intsOf r).map (x :: ·)
  | _ => none
theorem strsOf_eq : ∀ {ds : List D} {xs : List Str}, strsOf ds = some xs → ds = xs.map D.str
  | [], xs, h => by cases h; rfl
  | .str x :: r, xs, h => by
    obtain ⟨ys, hy, e⟩ := Option.map_eq_some_iff.mp (show (strsOf r).map (x :: ·) = some xs from h)
    subst e
    rw [List.map_cons, ← strsOf_eq hy]
theorem intsOf_eq : ∀ {ds : List D} {xs : List Int}, intsOf ds = some xs → ds = xs.map D.int
  | [], xs, h => by cases h; rfl
  | .int x :: r, xs, h => by
    obtain ⟨ys, hy, e⟩ := Option.map_eq_some_iff.mp (show (intsOf r).map (x :: ·) = some xs from h)
    subst e
    rw [List.map_cons, ← intsOf_eq hy]
/-- sorted(x): a list of texts or of ints, fewer than 64 -/
def srtT : Option (List Int) → Option (List Str) → M (List D)
  | some is, _ => pure ((srtI is).map D.int)
  | none, some ss => pure ((srtS ss).map D.str)
  | none, none => bad
def srtD (xs : List D) : M (List D) := need (xs.length < 64) >>= fun _ => srtT (intsOf xs) (strsOf xs)
def keyStrs : List Key → Option (List Str)
  | [] => some []
  | .inr x :: r => (keyStrs r).map (x :: ·)
  | _ => none
theorem keyStrs_eq : ∀ {ds : List Key} {xs : List Str}, keyStrs ds = some xs → ds = xs.map Sum.inr
  | [], xs, h => by cases h; rfl
  | .inr x :: r, xs, h => by
    obtain ⟨ys, hy, e⟩ := Option.map_eq_some_iff.mp (show (keyStrs r).map (x :: ·) = some xs from h)
    subst e
    rw [List.map_cons, ← keyStrs_eq hy]
def srtK (ks : List Key) : M (List D) := need (ks.length < 64) >>= fun _ => match keyStrs ks with
  | some ss => pure ((srtS ss).map D.str)
  | none => bad
section
variable {X : Cx} {W : Wx} {e : Expr} {es : List Expr} {pos p : Pos}
/-- sorted of a list -/
def rSrt (K : PySem.W.Frag) : List V → Hp → VK → Prop := fun xs H Q => rSorted K xs H Q ∨ rSortedS K xs H Q
theorem callM_srt {x : D} {v : V} {m : Mp} {mu : List MO} {H : Hp} {Q : VK} {H0 : Hp} {m0 : Mp} (g0 : Grow m0 m H0 H) (R : Rel X.K m mu H) (hx : Rep X.K m H x v) (hp : Post X.K W m H ((rdL x >>= srtD) mu) (fun ds m' mu' H' => NewL X.K H0 ds m' mu' H' Q)) : rSrt X.K [v] H Q := by
  obtain ⟨a, xs, vs, rfl, hs, hr, _, hp⟩ := rdL_ok R hx (Post.bind hp)
  unfold srtD at hp
  obtain ⟨hl, hp3⟩ := need_ok R (Post.bind hp)
  cases hi : intsOf xs with
  | some is =>
    rw [hi] at hp3
    have e := intsOf_eq hi
    subst e
    have ev := Reps.of_ints.mp hr
    refine .inl ⟨a, is, rfl, by rw [← ev]; exact hs, by simpa using hl, fun ns' q h1 h2 hn => ?_⟩
    rw [srtI_eq h1 h2]
    have q2 := tF_new g0 R (Reps.of_ints.mpr rfl) hp3
    exact q2 q hn
  | none =>
    rw [hi] at hp3
    cases hs' : strsOf xs with
    | none => rw [hs'] at hp3; exact (show False from hp3).elim
    | some ss =>
      rw [hs'] at hp3
      have e := strsOf_eq hs'
      subst e
      have ev := Reps.of_strs.mp hr
      refine .inr ⟨a, ss, rfl, by rw [← ev]; exact hs, by simpa using hl, fun ys q h1 h2 hn => ?_⟩
      rw [srtS_eq h1 h2]
      exact tF_new g0 R (Reps.of_strs.mpr rfl) hp3 q hn
theorem mf_sorted {x : Str} {r : Env → M D} (hg : Gl X x) (hm : X.mg x = none) (hv : bootBuiltins x = some (.builtin "sorted")) (h : ME X W e r) (hn : x ≠ "__name__" := by decide) (hdb : (x == ("__debug__" : Str)) = false := by decide)
    (he : starEach [e] X.env = (false, eval e X.env) :: starEach [] X.env := by rfl) (hpl : (backTo pos (starEach [] X.env)).any (·.1) = false := by rfl) : MF X W (.Call (.Name x p) [e] [] pos) (fun env => r env >>= fun x => rdL x >>= srtD) :=
  ⟨(pe_callB (cr_sorted.or cr_sortedS) hg hm hv (pa_cons h.pe pa_nil he) hn hdb he hpl).imp fun σ H Q ⟨env, m, mu, hE, hR, hp⟩ =>
    ⟨env, m, mu, hE, hR, (Post.bind hp).mono fun d m1 mu1 H1 g1 R1 hp v rv => callM_srt g1 R1 rv hp⟩⟩
theorem mf_sortedD {x : Str} {r : Env → M D} (hc : X.calm = true) (hg : Gl X x) (hm : X.mg x = none) (hv : bootBuiltins x = some (.builtin "sorted")) (h : ME X W e r) (hn : x ≠ "__name__" := by decide) (hdb : (x == ("__debug__" : Str)) = false := by decide)
    (he : starEach [e] X.env = (false, eval e X.env) :: starEach [] X.env := by rfl) (hpl : (backTo pos (starEach [] X.env)).any (·.1) = false := by rfl) : MF X W (.Call (.Name x p) [e] [] pos) (fun env => r env >>= fun x => rdD x >>= fun kvs => srtK (kvs.map (·.1))) :=
  ⟨(pe_callB (call_sortedD hc) hg hm hv (pa_cons h.pe pa_nil he) hn hdb he hpl).imp fun σ H Q ⟨env, m, mu, hE, hR, hp⟩ =>
    ⟨env, m, mu, hE, hR, (Post.bind hp).mono fun d m1 mu1 H1 g1 R1 hp v rv => by
      obtain ⟨a, kvs, vs, rfl, hH, hr, hp⟩ := rdD_ok R1 rv (Post.bind hp)
      unfold srtK at hp
      obtain ⟨hl, hp⟩ := need_ok R1 (Post.bind hp)
      cases hk : keyStrs (kvs.map (·.1)) with
      | none => rw [hk] at hp; exact (show False from hp).elim
      | some ss =>
        rw [hk] at hp
        have e := keyStrs_eq hk
        have hz : (kvs.map (·.1)).length = vs.length := by have := hr.length; rw [List.length_map] at this ⊢; exact this
        refine ⟨a, _, ss, rfl, .inl hH, by rw [List.map_fst_zip (by omega)]; exact e, by rw [e] at hl; simpa using hl, fun ys q h1 h2 hn => ?_⟩
        rw [srtS_eq h1 h2]
        exact tF_new g1 R1 (Reps.of_strs.mpr rfl) hp q hn⟩⟩
end
end MP
namespace MP
open PySem L2 PyProof.Rows
/-! ### what a printed walk leans on -/
structure FnI (K : PySem.W.Frag) (mg : Str → Option Value) (x : Str) (st : Stmt) (f : Addr) (fd : FuncData) (ps : List Str) : Prop where
  fn : Fun K x x st f fd
  mg : mg x = some (.ref f)
  bi : Binds K fd ps []
def lenD (n : Nat) (den : List D → M Rv) : List D → M Rv := fun ds mu => if ds.length = n then den ds mu else .bad
theorem lenD_eq {n : Nat} {den : List D → M Rv} {ds : List D} (h : ds.length = n) : lenD n den ds = den ds := by
  funext mu
  unfold lenD
  rw [if_pos h]
theorem units1 {k : Nat} {A : Around} (r : Room k A) : A.units + 1 < cLine := by have := r.units; omega
def fSrt (r : Env → M D) : Env → M (List D) := fun env => r env >>= fun x => rdL x >>= srtD
def fSrtD (r : Env → M D) : Env → M (List D) := fun env => r env >>= fun x => rdD x >>= fun kvs => srtK (kvs.map (·.1))
section
variable {X : Cx} {W : Wx} {k n : Nat} {f : Addr} {fd : FuncData} {ps : List Str} {den : List D → M Rv} {x : Str} {st : Stmt} {p pos : Pos} {e : Expr} {es : List Expr}
theorem me_callF {rs : Env → M (List D)} (T : FnI X.K X.mg x st f fd ps) (F : FnOk X.prog X.w X.K X.mg X.base CX0 k f fd ps (sp X.K X.mg n den)) (hr : Room k X.A) (hg : Gl X x)
    (ha : MA X W (e :: es) rs) (hl : n = (e :: es).length) (hdb : (x == ("__debug__" : Str)) = false := by decide) (he : starEach (e :: es) X.env = (false, eval e X.env) :: starEach es X.env := by rfl) (hpl : (backTo pos (starEach es X.env)).any (·.1) = false := by rfl) :
    ME X W (.Call (.Name x p) (e :: es) [] pos) (eCall (lenD n den) rs) := me_call F hr hg T.mg T.fn.kp T.bi xok0 ha hl hdb he hpl
theorem mf_callF {rs : Env → M (List D)} (T : FnI X.K X.mg x st f fd ps) (F : FnOk X.prog X.w X.K X.mg X.base CX0 k f fd ps (sp X.K X.mg n den)) (hr : Room k X.A) (hg : Gl X x)
    (ha : MA X W (e :: es) rs) (hl : n = (e :: es).length) (hdb : (x == ("__debug__" : Str)) = false := by decide) (he : starEach (e :: es) X.env = (false, eval e X.env) :: starEach es X.env := by rfl) (hpl : (backTo pos (starEach es X.env)).any (·.1) = false := by rfl) :
    MF X W (.Call (.Name x p) (e :: es) [] pos) (fCall (lenD n den) rs) := mf_call F hr hg T.mg T.fn.kp T.bi xok0 ha hl hdb he hpl
end
/-! ### y += x -/
def gAddI : D → D → M D
  | .int i, .int j => pure (.int (i + j))
  | .str i, .str j => do
    need (i.length + j.length ≤ sizeLine)
    pure (.str (i ++ j))
  | _, _ => bad
section
variable {X : Cx} {W : Wx}
def rAddI : R2 := fun x y H Q => rI0 (fun i j => .int (i + j)) x y H Q ∨ ∃ i j, x = .str i ∧ y = .str j ∧ i.length + j.length ≤ sizeLine ∧ Q (.str (i ++ j)) H
theorem iop_addM : OpR X (inplaceOp .Add) rAddI := iop_add.or iop_add_str
theorem opm_addI : OpM X.K W rAddI gAddI := ⟨fun x y v w m mu H Q rl hx hy hp => by
  cases x
  case int i =>
    cases y
    case int j => simp only [Rep] at hx hy; exact .inl ⟨i, j, hx, hy, Post.pure hp rl _ (by simp only [Rep])⟩
    all_goals exact (show False from hp).elim
  case str i =>
    cases y
    case str j =>
      obtain ⟨c, hp⟩ := need_ok rl (Post.bind hp)
      simp only [Rep] at hx hy
      exact .inr ⟨i, j, hx, hy, c, Post.pure hp rl _ (by simp only [Rep])⟩
    all_goals exact (show False from hp).elim
  all_goals exact (show False from hp).elim⟩
theorem iop_mulM : OpR X (inplaceOp .Mult) (rI CMul fun i j => .int (i * j)) := iop_mul
end
/-! ### a def's answer, what is left behind forgotten -/
/-- a def that only looks: f gives its answer -/
def pureD (f : List D → Option D) : List D → M Rv := fun ds mu => match f ds with
  | some d => .ok (.vl d) mu
  | none => .bad
theorem gc_pure {n : Nat} {den : List D → M Rv} {f : List D → Option D} (h : ∀ ds mu d, ds.length = n → Clos mu.length ds → CloH mu → f ds = some d → Clo mu.length d ∧ ∃ ex, den ds mu = .ok (.vl d) (mu ++ ex)) : GC n den (pureD f) := fun ds mu hn hc hh => by
  cases e : f ds with
  | none =>
    have e0 : pureD f ds mu = .bad := by unfold pureD; rw [e]
    rw [e0]; trivial
  | some d =>
    have e0 : pureD f ds mu = .ok (.vl d) mu := by unfold pureD; rw [e]
    rw [e0]
    obtain ⟨h1, ex, h2⟩ := h ds mu d hn hc hh e
    exact ⟨.vl d, mu ++ ex, h2, Nat.le_refl _, .vl (hh.frz ex) (h1 _ _)⟩
/-- .. that may answer with a new list, read as one that nobody changes -/
theorem gc_pure' {n : Nat} {den : List D → M Rv} {f : List D → Option D} (h : ∀ ds mu d, ds.length = n → Clos mu.length ds → CloH mu → f ds = some d → ∃ ex rv, den ds mu = .ok rv (mu ++ ex) ∧ FrzR (mu ++ ex) mu rv (.vl d)) : GC n den (pureD f) := fun ds mu hn hc hh => by
  cases e : f ds with
  | none =>
    have e0 : pureD f ds mu = .bad := by unfold pureD; rw [e]
    rw [e0]; trivial
  | some d =>
    have e0 : pureD f ds mu = .ok (.vl d) mu := by unfold pureD; rw [e]
    rw [e0]
    obtain ⟨ex, rv, h1, h2⟩ := h ds mu d hn hc hh e
    exact ⟨rv, mu ++ ex, h1, Nat.le_refl _, h2⟩
/-- .. a new list -/
def newD (f : List D → Option (List D)) : List D → M Rv := fun ds mu => match f ds with
  | some d => .ok (.fr d) mu
  | none => .bad
end MP
namespace MP
open PySem L2 PyProof.Rows
/-! ### the small semantics, step by step, for simp -/
section
variable {α β : Type} {mu mu' : List MO} {env : Env} {n i : Nat} {x y d o : D} {xs ys : List D}
@[simp] theorem bind_ap {c : M α} {f : α → M β} : (c >>= f) mu = match c mu with
  | .ok a mu' => f a mu'
  | .exc x mu' => .exc x mu'
  | .bad => .bad := rfl
@[simp] theorem pure_ap {a : α} : (Pure.pure a : M α) mu = .ok a mu := rfl
@[simp] theorem bad_ap : (bad : M α) mu = .bad := rfl
@[simp] theorem raise_ap {x : Xn} : (raise x : M α) mu = .exc x mu := rfl
theorem bind_ok {c : M α} {f : α → M β} {a : α} (h : c mu = .ok a mu') : (c >>= f) mu = f a mu' := by rw [bind_ap, h]
@[simp] theorem noX_ok {c : M α} {a : α} (h : c mu = .ok a mu') : noX c mu = .ok a mu' := by
  show (match c mu with | .exc _ _ => R.bad | r => r) = _
  rw [h]
theorem noX_ap {c : M α} : noX c mu = match c mu with
  | .exc _ _ => .bad
  | r => r := rfl
/-- the list, the dict at a place -/
def onL (o : Option MO) (f : List D → R α) : R α := match o with
  | some (.lst xs) => f xs
  | _ => .bad
def onD (o : Option MO) (f : List (Key × D) → R α) : R α := match o with
  | some (.dk xs) => f xs
  | _ => .bad
@[simp] theorem onL_lst {f : List D → R α} : onL (some (.lst xs)) f = f xs := rfl
@[simp] theorem onD_dk {kvs : List (Key × D)} {f : List (Key × D) → R α} : onD (some (.dk kvs)) f = f kvs := rfl
@[simp] theorem eC_ap : eC d env mu = .ok d mu := rfl
def slot (o : Option (Option D)) (mu : List MO) : R D := match o with
  | some (some d) => .ok d mu
  | _ => .bad
@[simp] theorem slot_ok : slot (some (some d)) mu = .ok d mu := rfl
@[simp] theorem eVar_ap : eVar i env mu = slot env[i]? mu := by
  unfold eVar slot
  cases env[i]? with
  | none => rfl
  | some o => cases o <;> rfl
theorem eVar_get (h : env[i]? = some (some d)) : eVar i env mu = .ok d mu := by rw [eVar_ap, h, slot_ok]
variable {ra rb rc : Env → M D} {rs : Env → M (List D)} {g : D → D → M D} {f : D → M D} {t t' : Env → M Bool} {s1 s2 : Env → M Fl} {rf : Env → M (List D)}
@[simp] theorem eBin_ap : eBin g ra rb env = (ra env >>= fun x => rb env >>= fun y => g x y) := rfl
@[simp] theorem eMap_ap : eMap f ra env = (ra env >>= f) := rfl
@[simp] theorem eIf_ap {r r' : Env → M α} : eIf t r r' env = (t env >>= fun b => if b = true then r env else r' env) := rfl
@[simp] theorem eB_ap : eB ra env = (ra env >>= asB) := rfl
@[simp] theorem asB_bl {b : Bool} : asB (.bl b) mu = .ok b mu := rfl
@[simp] theorem bNot_ap : bNot t env = (t env >>= fun b => pure (!b)) := rfl
@[simp] theorem bAnd_ap : bAnd t t' env = (t env >>= fun b => if b = true then t' env else pure false) := rfl
@[simp] theorem bOr_ap : bOr t t' env = (t env >>= fun b => if b = true then pure true else t' env) := rfl
@[simp] theorem eAnd_ap : eAnd ra rb env = (ra env >>= fun x => toB x >>= fun b => if b = true then rb env else pure (.bl false)) := rfl
@[simp] theorem eOr_ap : eOr ra rb env = (ra env >>= fun x => toB x >>= fun b => if b = true then pure (.bl true) else rb env) := rfl
@[simp] theorem aNil_ap : aNil env mu = .ok [] mu := rfl
@[simp] theorem aCons_ap : aCons ra rs env = (ra env >>= fun x => rs env >>= fun xs => pure (x :: xs)) := rfl
@[simp] theorem aThen_ap {f : List D → M D} : aThen f rs env = (rs env >>= f) := rfl
@[simp] theorem aList_ap : aList rs env = (rs env >>= fun xs => need (xs.length ≤ sizeLine) >>= fun _ => pure xs) := rfl
@[simp] theorem eFl_ap : eFl rf env = (rf env >>= fun xs => pure (.fl xs)) := rfl
@[simp] theorem eNew_ap : eNew rf env = (rf env >>= fun xs => alloc (.lst xs)) := rfl
@[simp] theorem eNewD_ap : eNewD env = alloc (.dk []) := rfl
@[simp] theorem alloc_ap {o : MO} : alloc o mu = .ok (.ref mu.length) (mu ++ [o]) := rfl
@[simp] theorem eCall_ap {den : List D → M Rv} : eCall den rs env = (rs env >>= fun xs => den xs >>= fun rv => pure (rvD rv)) := rfl
@[simp] theorem rvD_vl : rvD (.vl d) = d := rfl
@[simp] theorem rvD_fr : rvD (.fr xs) = .fl xs := rfl
@[simp] theorem fCall_ap {den : List D → M Rv} : fCall den rs env = (rs env >>= fun xs => den xs >>= fun rv => match rv with
  | .fr ds => pure ds
  | .vl _ => bad) := rfl
@[simp] theorem lenD_ap {den : List D → M Rv} : lenD n den xs mu = if xs.length = n then den xs mu else .bad := rfl
@[simp] theorem g1_ap : g1 f [x] = f x := rfl
@[simp] theorem g2_ap : g2 g [x, y] = g x y := rfl
@[simp] theorem fThen1_ap {f : D → M (List D)} : fThen1 f rs env = (rs env >>= fun xs => match xs with
  | [x] => f x
  | _ => bad) := rfl
@[simp] theorem oNone_ap : oNone env mu = .ok none mu := rfl
@[simp] theorem oSome_ap : oSome ra env = (ra env >>= fun x => toI x >>= fun i => pure (some i)) := rfl
@[simp] theorem eSl_ap {rl rh : Env → M (Option Int)} : eSl ra rl rh env = (ra env >>= fun x => rl env >>= fun lo => rh env >>= fun hi => gSl x lo hi) := rfl
@[simp] theorem fSl_ap {rl rh : Env → M (Option Int)} : fSl ra rl rh env = (ra env >>= fun x => rl env >>= fun lo => rh env >>= fun hi => rdL x >>= fun xs => pure (cutD xs lo hi)) := rfl
@[simp] theorem fCat_ap : fCat ra rb env = (ra env >>= fun x => rb env >>= fun y => rdM x >>= fun xs => rdM y >>= fun ys => need (xs.length + ys.length ≤ sizeLine) >>= fun _ => pure (xs ++ ys)) := rfl
@[simp] theorem eWalk_ap : eWalk ra env = (ra env >>= walkD) := rfl
@[simp] theorem wThen_ap {f : List D → M Wk} : wThen f rs env = (rs env >>= f) := rfl
@[simp] theorem fSrt_ap : fSrt ra env = (ra env >>= fun x => rdL x >>= srtD) := rfl
@[simp] theorem fSrtD_ap : fSrtD ra env = (ra env >>= fun x => rdD x >>= fun kvs => srtK (kvs.map (·.1))) := rfl
@[simp] theorem asgN_ap : asgN i d env mu = .ok (env.set i (some d)) mu := rfl
@[simp] theorem asgT_ap {g : List D → Env → M Env} : asgT n g d env = (toT d >>= fun xs => need (xs.length = n) >>= fun _ => g xs env) := rfl
@[simp] theorem asgNil_ap : asgNil [] env mu = .ok env mu := rfl
@[simp] theorem asgCons_ap {h : D → Env → M Env} {g : List D → Env → M Env} : asgCons h g (d :: xs) env = (h d env >>= fun e => g xs e) := rfl
@[simp] theorem sFor_ap {r : Env → M Wk} {asg : D → Env → M Env} {fg : List Nat} : sFor r asg s1 fg env = (r env >>= fun p => loopF asg s1 fg p.2 p.1 env) := rfl
@[simp] theorem sNext_ap : sNext env mu = .ok (.nx env) mu := rfl
@[simp] theorem sSeq_ap : sSeq s1 s2 env = (s1 env >>= fun fl => match fl with
  | .nx e => s2 e
  | fl => pure fl) := by
  unfold sSeq
  congr 1
@[simp] theorem sBreak_ap : sBreak env mu = .ok (.bk env) mu := rfl
@[simp] theorem sCont_ap : sCont env mu = .ok (.ct env) mu := rfl
@[simp] theorem sExpr_ap : sExpr ra env = (ra env >>= fun _ => pure (.nx env)) := rfl
@[simp] theorem sRet_ap : sRet ra env = (ra env >>= fun d => pure (.rt (.vl d))) := rfl
@[simp] theorem sRetF_ap : sRetF rf env = (rf env >>= fun d => pure (.rt (.fr d))) := rfl
@[simp] theorem sRetN_ap : sRetN env mu = .ok (.rt (.vl .non)) mu := rfl
@[simp] theorem sAsg_ap {asg : D → Env → M Env} : sAsg ra asg env = (ra env >>= fun d => asg d env >>= fun env' => pure (.nx env')) := rfl
@[simp] theorem sSet_ap : sSet i ra env = (ra env >>= fun d => pure (.nx (env.set i (some d)))) := rfl
@[simp] theorem sAug_ap : sAug i g ra env = (eVar i env >>= fun x => ra env >>= fun y => g x y >>= fun z => pure (.nx (env.set i (some z)))) := rfl
@[simp] theorem sSub_ap : sSub ra rb rc env = (rc env >>= fun v => ra env >>= fun o => rb env >>= fun i => setL o i v >>= fun _ => pure (.nx env)) := rfl
@[simp] theorem sDput_ap : sDput ra rb rc env = (rc env >>= fun v => ra env >>= fun o => rb env >>= fun i => putM o i v >>= fun _ => pure (.nx env)) := rfl
@[simp] theorem eGet1_ap : eGet1 ra rb env = (ra env >>= fun o => dctK o >>= fun _ => rb env >>= fun y => rdD o >>= fun kvs => toK y >>= fun k => pure ((valD kvs k).getD .non)) := rfl
@[simp] theorem eGet2_ap : eGet2 ra rb rc env = (ra env >>= fun o => dctK o >>= fun _ => rb env >>= fun y => rc env >>= fun x => rdD o >>= fun kvs => toK y >>= fun k => pure ((valD kvs k).getD x)) := rfl
@[simp] theorem dctK_ap : dctK o = (rdD o >>= fun _ => pure ()) := rfl
@[simp] theorem eMeth_ap {k : D → M Unit} {h : D → List D → M D} : eMeth k h ra rs env = (ra env >>= fun o => k o >>= fun _ => rs env >>= fun xs => h o xs) := rfl
@[simp] theorem fComp_ap {w : Env → M Wk} {asg : D → Env → M Env} {vs : List Nat} : fComp w asg t ra vs env = (w env >>= fun p => noX (loopC asg t ra p.2 p.1 (wipeE env vs))) := rfl
@[simp] theorem tYesM_ap : tYesM env mu = .ok true mu := rfl
@[simp] theorem wipeE_nil : wipeE env [] = env := rfl
@[simp] theorem wipeE_cons {vs : List Nat} : wipeE env (i :: vs) = (wipeE env vs).set i none := rfl
/-! values -/
@[simp] theorem need_ap {c : Prop} [Decidable c] : need c mu = if c then .ok () mu else .bad := by unfold need; split <;> rfl
@[simp] theorem toI_int {i : Int} : toI (.int i) mu = .ok i mu := rfl
@[simp] theorem toS_str {z : Str} : toS (.str z) mu = .ok z mu := rfl
@[simp] theorem toT_tup : toT (.tup xs) mu = .ok xs mu := rfl
@[simp] theorem toB_bl {b : Bool} : toB (.bl b) mu = .ok b mu := rfl
@[simp] theorem toR_ref : toR (.ref n) mu = .ok n mu := rfl
@[simp] theorem toK_int {i : Int} : toK (.int i) mu = .ok (.inl i) mu := rfl
@[simp] theorem toK_str {z : Str} : toK (.str z) mu = .ok (.inr z) mu := rfl
@[simp] theorem gAdd_int {i j : Int} : gAdd (.int i) (.int j) mu = .ok (.int (i + j)) mu := rfl
@[simp] theorem gAdd_str {i j : Str} : gAdd (.str i) (.str j) mu = if i.length + j.length ≤ sizeLine then .ok (.str (i ++ j)) mu else .bad := by
  show ((need (i.length + j.length ≤ sizeLine) : M Unit) >>= fun _ => (pure (.str (i ++ j)) : M D)) mu = _
  rw [bind_ap, need_ap]
  by_cases c : i.length + j.length ≤ sizeLine
  · rw [if_pos c, if_pos c]; rfl
  · rw [if_neg c, if_neg c]
theorem gII_ap {c : Int → Int → Prop} [∀ i j, Decidable (c i j)] {f : Int → Int → D} {i j : Int} : gII c f (.int i) (.int j) mu = if c i j then .ok (f i j) mu else .bad := by
  show ((need (c i j) : M Unit) >>= fun _ => (pure (f i j) : M D)) mu = _
  rw [bind_ap, need_ap]
  by_cases h : c i j
  · rw [if_pos h, if_pos h]; rfl
  · rw [if_neg h, if_neg h]
@[simp] theorem gSub_int {i j : Int} : gSub (.int i) (.int j) mu = .ok (.int (i - j)) mu := by unfold gSub; rw [gII_ap]; exact if_pos trivial
theorem gMul_int {i j : Int} : gMul (.int i) (.int j) mu = if cMul i j then .ok (.int (i * j)) mu else .bad := gII_ap
@[simp] theorem gMul_small {i j : Int} (h : -(2 ^ 64) < j ∧ j < 2 ^ 64) : gMul (.int i) (.int j) mu = .ok (.int (i * j)) mu := by rw [gMul_int, if_pos (.inl (.inr h))]
theorem gDiv_int {i j : Int} : gDiv (.int i) (.int j) mu = if CDivW i j then .ok (.int (i / j)) mu else .bad := gII_ap
@[simp] theorem gDiv_small {i j : Int} (h : 0 < j ∧ j.natAbs.log2 < 9000) : gDiv (.int i) (.int j) mu = .ok (.int (i / j)) mu := by rw [gDiv_int, if_pos (show CDivW i j from h)]
@[simp] theorem gMod_int {i j : Int} : gMod (.int i) (.int j) mu = if 0 < j then .ok (.int (i % j)) mu else .bad := gII_ap
@[simp] theorem gPow_int {i j : Int} (h : 0 ≤ j ∧ j ≤ 1000000 ∧ i.natAbs < 2 ^ 64) : gPow (.int i) (.int j) mu = .ok (.int (i ^ j.toNat)) mu := by
  have e : gPow (.int i) (.int j) mu = if CPow i j then .ok (.int (i ^ j.toNat)) mu else .bad := gII_ap
  rw [e, if_pos (show CPow i j from h)]
@[simp] theorem gCmp_int {f : Int → Int → Bool} {i j : Int} : gCmp f (.int i) (.int j) mu = .ok (.bl (f i j)) mu := by unfold gCmp; rw [gII_ap]; exact if_pos trivial
@[simp] theorem gLt_int {i j : Int} : gLt (.int i) (.int j) mu = .ok (.bl (decide (i < j))) mu := rfl
@[simp] theorem gLt_str {i j : Str} : gLt (.str i) (.str j) mu = .ok (.bl (ltS i j)) mu := rfl
@[simp] theorem gNeg_int {i : Int} : gNeg (.int i) mu = .ok (.int (-i)) mu := rfl
@[simp] theorem gNot_bl {b : Bool} : gNot (.bl b) mu = .ok (.bl (!b)) mu := rfl
@[simp] theorem rdL_fl : rdL (.fl xs) mu = .ok xs mu := rfl
@[simp] theorem rdL_ro : rdL (.ro xs) mu = .ok xs mu := rfl
@[simp] theorem rdL_ref : rdL (.ref n) mu = atL mu n := rfl
@[simp] theorem atL_ap : atL mu n = onL mu[n]? fun xs => .ok xs mu := rfl
@[simp] theorem rdQ_tup : rdQ (.tup xs) mu = .ok xs mu := rfl
@[simp] theorem rdQ_fl : rdQ (.fl xs) mu = .ok xs mu := rfl
@[simp] theorem rdQ_ro : rdQ (.ro xs) mu = .ok xs mu := rfl
@[simp] theorem rdQ_ref : rdQ (.ref n) mu = atL mu n := rfl
@[simp] theorem rdD_ref : rdD (.ref n) mu = atD mu n := rfl
@[simp] theorem rdD_fd {ks : List Key} : rdD (.fd ks xs) mu = .ok (ks.zip xs) mu := rfl
@[simp] theorem atD_ap : atD mu n = onD mu[n]? fun kvs => .ok kvs mu := rfl
@[simp] theorem walkD_tup : walkD (.tup xs) mu = .ok (xs, []) mu := rfl
@[simp] theorem walkD_fl : walkD (.fl xs) mu = .ok (xs, []) mu := rfl
@[simp] theorem walkD_ro : walkD (.ro xs) mu = .ok (xs, []) mu := rfl
@[simp] theorem walkD_ref : walkD (.ref n) mu = onL mu[n]? fun xs => .ok (xs, [(n, xs)]) mu := by
  have e : walkD (.ref n) mu = match atL mu n with
    | .ok xs mu => MP.R.ok (xs, [(n, xs)]) mu
    | _ => .bad := rfl
  rw [e]
  cases h : mu[n]? with
  | none => rw [show atL mu n = .bad from by unfold atL; rw [h]]; rfl
  | some o => cases o with
    | lst xs => rw [atL_lst h]; rfl
    | dk kvs => rw [atL_dk h]; rfl
theorem ixD_at {i : Int} (h : atI xs i = some d) : ixD xs i mu = .ok d mu := by unfold ixD; rw [h]; rfl
@[simp] theorem gIx_tup {i : Int} : gIx (.tup xs) (.int i) mu = ixD xs i mu := rfl
@[simp] theorem gIx_fl {i : Int} : gIx (.fl xs) (.int i) mu = ixD xs i mu := rfl
@[simp] theorem gIx_ro {i : Int} : gIx (.ro xs) (.int i) mu = ixD xs i mu := rfl
@[simp] theorem gIx_ref {i : Int} : gIx (.ref n) (.int i) mu = onL mu[n]? fun xs => ixD xs i mu := by
  show ((rdQ (.ref n) : M (List D)) >>= fun xs => (toI (.int i) : M Int) >>= fun i => ixD xs i) mu = _
  rw [bind_ap, rdQ_ref]
  cases h : mu[n]? with
  | none => rw [show atL mu n = .bad from by unfold atL; rw [h]]; rfl
  | some o => cases o with
    | lst xs => rw [atL_lst h]; rfl
    | dk kvs => rw [atL_dk h]; rfl
theorem gIx_str {z : Str} {i : Int} {c : Nat} (hz : z.length ≤ sizeLine) (h : atI z.cps.toList i = some c) : gIx (.str z) (.int i) mu = .ok (.str ⟨#[c]⟩) mu := by
  show ((toI (.int i) : M Int) >>= fun i => (need (z.length ≤ sizeLine) : M Unit) >>= fun _ => (match atI z.cps.toList i with
    | some c => pure (.str ⟨#[c]⟩)
    | none => bad : M D)) mu = _
  rw [bind_ap, toI_int]
  show ((need (z.length ≤ sizeLine) : M Unit) >>= fun _ => (match atI z.cps.toList i with
    | some c => pure (.str ⟨#[c]⟩)
    | none => bad : M D)) mu = _
  rw [bind_ap, need_ap, if_pos hz]
  show (match atI z.cps.toList i with
    | some c => pure (.str ⟨#[c]⟩)
    | none => bad : M D) mu = _
  rw [h]; rfl
@[simp] theorem gLen_tup : gLen (.tup xs) mu = .ok (.int xs.length) mu := rfl
@[simp] theorem gLen_fl : gLen (.fl xs) mu = .ok (.int xs.length) mu := rfl
@[simp] theorem gLen_ro : gLen (.ro xs) mu = .ok (.int xs.length) mu := rfl
theorem gLen_str {z : Str} (h : z.length ≤ sizeLine) : gLen (.str z) mu = .ok (.int z.length) mu := by
  show ((need (z.length ≤ sizeLine) : M Unit) >>= fun _ => (pure (.int z.length) : M D)) mu = _
  rw [bind_ap, need_ap, if_pos h]; rfl
theorem gLen_ref (h : mu[n]? = some (.lst xs)) : gLen (.ref n) mu = .ok (.int xs.length) mu := by
  show (match mu[n]? with
    | some (.lst xs) => MP.R.ok (D.int xs.length) mu
    | some (.dk kvs) => .ok (.int kvs.length) mu
    | none => .bad) = _
  rw [h]
@[simp] theorem gAbs_int {i : Int} : gAbs (.int i) mu = .ok (.int (if i < 0 then -i else i)) mu := rfl
@[simp] theorem gInt_int {i : Int} : gInt (.int i) mu = .ok (.int i) mu := rfl
@[simp] theorem gTuple_fl : gTuple (.fl xs) mu = .ok (.tup xs) mu := rfl
@[simp] theorem gTuple_tup : gTuple (.tup xs) mu = .ok (.tup xs) mu := rfl
@[simp] theorem gTuple_ro : gTuple (.ro xs) mu = .ok (.tup xs) mu := rfl
theorem gTup_ok (h : xs.length ≤ sizeLine) : gTup xs mu = .ok (.tup xs) mu := by
  show ((need (xs.length ≤ sizeLine) : M Unit) >>= fun _ => (pure (.tup xs) : M D)) mu = _
  rw [bind_ap, need_ap, if_pos h]; rfl
@[simp] theorem setL_ap {i : Int} : setL (.ref n) (.int i) d mu = modLr mu[n]? n (fun xs => match ixN xs.length i with
  | some j => some (xs.set j d, .non)
  | none => none) mu := rfl
@[simp] theorem modLr_lst {f : List D → Option (List D × D)} : modLr (some (.lst xs)) n f mu = match f xs with
  | some (ys, d) => .ok d (mu.set n (.lst ys))
  | none => .bad := rfl
theorem setL_ok {i : Int} {j : Nat} (h : mu[n]? = some (.lst xs)) (hj : ixN xs.length i = some j) : setL (.ref n) (.int i) d mu = .ok .non (mu.set n (.lst (xs.set j d))) := by
  rw [setL_ap, h, modLr_lst, hj]
theorem modDr_dk {f : List (Key × D) → Option (List (Key × D) × D)} {kvs : List (Key × D)} : modDr (some (.dk kvs)) n f mu = match f kvs with
  | some (ys, d) => .ok d (mu.set n (.dk ys))
  | none => .bad := rfl
theorem putM_at {kvs : List (Key × D)} {k : Key} (hk : toK y mu = .ok k mu) (h : mu[n]? = some (.dk kvs)) (hl : kvs.length < sizeLine) : putM (.ref n) y d mu = .ok .non (mu.set n (.dk (putD kvs k d))) := by
  show (toR (.ref n) >>= fun n => toK y >>= fun kk => modD n fun kvs => if kvs.length < sizeLine then some (putD kvs kk d, .non) else none) mu = _
  rw [bind_ap, toR_ref]
  show (toK y >>= fun kk => modD n fun kvs => if kvs.length < sizeLine then some (putD kvs kk d, .non) else none) mu = _
  rw [bind_ap, hk]
  show modDr mu[n]? n (fun kvs => if kvs.length < sizeLine then some (putD kvs k d, .non) else none) mu = _
  rw [h, modDr_dk, if_pos hl]
@[simp] theorem tyD_ap : (tyD .non mu = .ok "NoneType" mu) ∧ (∀ b, tyD (.bl b) mu = .ok "bool" mu) ∧ (∀ i, tyD (.int i) mu = .ok "int" mu) ∧ (∀ z, tyD (.str z) mu = .ok "str" mu) ∧ (∀ xs, tyD (.tup xs) mu = .ok "tuple" mu) ∧ (∀ xs, tyD (.fl xs) mu = .ok "list" mu) ∧ (∀ xs, tyD (.ro xs) mu = .ok "list" mu) ∧ ∀ ks xs, tyD (.fd ks xs) mu = .ok "dict" mu := ⟨rfl, fun _ => rfl, fun _ => rfl, fun _ => rfl, fun _ => rfl, fun _ => rfl, fun _ => rfl, fun _ _ => rfl⟩
@[simp] theorem gIsi_ap {T : String} : gIsi T x = (tyD x >>= fun t => pure (.bl (isiB t T))) := rfl
@[simp] theorem runB_ap {r : Env → M Fl} : runB n r xs mu = match r (startE n xs) mu with
  | .ok (.rt rv) mu' => .ok rv mu'
  | .ok (.nx _) mu' => .ok (.vl .non) mu'
  | .ok _ _ => .bad
  | .exc x mu' => .exc x mu'
  | .bad => .bad := rfl
theorem chk_nil : chk [] mu = .ok () mu := by unfold chk; rw [if_pos]; simp
theorem chk_one (h : mu[n]? = some (.lst xs)) : chk [(n, xs)] mu = .ok () mu := by unfold chk; rw [if_pos]; simpa using h
end
/-! ### loops over things that stand still -/
section
variable {asg : D → Env → M Env} {body : Env → M Fl} {fg : List Nat} {t : Env → M Bool} {r : Env → M D} {env env1 : Env} {mu mu' mu1 mu2 mu3 : List MO} {d x : D} {ds xs : List D}
theorem loopF_nil : loopF asg body fg [] [] env mu = .ok (.nx (wipeE env fg)) mu := by
  show ((chk [] : M Unit) >>= fun _ => (pure (.nx (wipeE env fg)) : M Fl)) mu = _
  rw [bind_ap, chk_nil]; rfl
theorem loopF_cons : loopF asg body fg [] (d :: ds) env mu = (asg d (wipeE env fg) >>= fun env1 => body env1 >>= fun fl => match fl with
    | .nx e => loopF asg body fg [] ds e
    | .ct e => loopF asg body fg [] ds e
    | .bk e => pure (.nx (wipeE e fg))
    | .rt rv => pure (.rt rv)) mu := by
  show ((chk [] : M Unit) >>= fun _ => asg d (wipeE env fg) >>= fun env1 => body env1 >>= fun fl => match fl with
    | .nx e => loopF asg body fg [] ds e
    | .ct e => loopF asg body fg [] ds e
    | .bk e => pure (.nx (wipeE e fg))
    | .rt rv => pure (.rt rv)) mu = _
  rw [bind_ap, chk_nil]
theorem loopC_nil : loopC asg t r [] [] env mu = .ok [] mu := by
  show ((chk [] : M Unit) >>= fun _ => (pure [] : M (List D))) mu = _
  rw [bind_ap, chk_nil]; rfl
theorem loopC_cons : loopC asg t r [] (d :: ds) env mu = (asg d env >>= fun env1 => t env1 >>= fun b => if b = true then (r env1 >>= fun x => loopC asg t r [] ds env >>= fun xs => pure (x :: xs)) else loopC asg t r [] ds env) mu := by
  show ((chk [] : M Unit) >>= fun _ => asg d env >>= fun env1 => t env1 >>= fun b => if b = true then (r env1 >>= fun x => loopC asg t r [] ds env >>= fun xs => pure (x :: xs)) else loopC asg t r [] ds env) mu = _
  rw [bind_ap, chk_nil]
theorem loopC_yes (h1 : asg d env mu = .ok env1 mu1) (h2 : t env1 mu1 = .ok true mu1) (h3 : r env1 mu1 = .ok x mu2) (h4 : loopC asg t r [] ds env mu2 = .ok xs mu3) : loopC asg t r [] (d :: ds) env mu = .ok (x :: xs) mu3 := by
  rw [loopC_cons]
  simp [h1, h2, h3, h4]
theorem loopC_no (h1 : asg d env mu = .ok env1 mu1) (h2 : t env1 mu1 = .ok false mu1) (h4 : loopC asg t r [] ds env mu1 = .ok xs mu3) : loopC asg t r [] (d :: ds) env mu = .ok xs mu3 := by
  rw [loopC_cons]
  simp [h1, h2, h4]
/-- a comprehension that changes nothing: each item by itself -/
theorem loopC_map {f : D → D} (h : ∀ d ∈ ds, ∃ env1, asg d env mu = .ok env1 mu ∧ t env1 mu = .ok true mu ∧ r env1 mu = .ok (f d) mu) : loopC asg t r [] ds env mu = .ok (ds.map f) mu := by
  induction ds with
  | nil => exact loopC_nil
  | cons d ds ih =>
    obtain ⟨env1, h1, h2, h3⟩ := h d (by simp)
    exact loopC_yes h1 h2 h3 (ih fun e he => h e (by simp [he]))
theorem loopC_filter {f : D → D} {p : D → Bool} (h : ∀ d ∈ ds, ∃ env1, asg d env mu = .ok env1 mu ∧ t env1 mu = .ok (p d) mu ∧ (p d = true → r env1 mu = .ok (f d) mu)) : loopC asg t r [] ds env mu = .ok ((ds.filter p).map f) mu := by
  induction ds with
  | nil => exact loopC_nil
  | cons d ds ih =>
    obtain ⟨env1, h1, h2, h3⟩ := h d (by simp)
    have ih := ih fun e he => h e (by simp [he])
    cases hp : p d with
    | true =>
      rw [List.filter_cons_of_pos hp, List.map_cons]
      exact loopC_yes h1 (by rw [h2, hp]) (h3 hp) ih
    | false =>
      rw [List.filter_cons_of_neg (by rw [hp]; decide)]
      exact loopC_no h1 (by rw [h2, hp]) ih
end
end MP
namespace MP
open PySem L2 PyProof.Rows
/-! ### the words that all laws share -/
/-- names: 0 script -/
noncomputable def r__law_start : MP.Env → M Fl :=
  (sRetF (aList (aCons (eFl (fThen1 rdQ (aCons (eVar 0) aNil))) (aCons (eC (.int 0)) (aCons (eC (.int 0)) (aCons (eC (.int 0)) aNil))))))
noncomputable def den__law_start : List D → M Rv := fun ds => noX (runB 1 (r__law_start) ds)
/-- names: 0 state, 1 most, 2 cell, 3 mixed, 4 found -/
noncomputable def r__law_draw : MP.Env → M Fl :=
  (sSeq (sSub (eVar 0) (eC (.int 3)) (eBin gAdd (eBin gIx (eVar 0) (eC (.int 3))) (eC (.int 1))))
  (sSeq (eIf (eB (eBin (gCmp fun i j => decide (j < i)) (eBin gIx (eVar 0) (eC (.int 2))) (eC (.int 0))))
  (sSeq (sSet 4 (eBin gMod (aThen (g1 gInt) (aCons (eBin gIx (eVar 0) (eC (.int 2))) aNil)) (eVar 1)))
  (sSeq (sSub (eVar 0) (eC (.int 2)) (eBin gDiv (eBin gIx (eVar 0) (eC (.int 2))) (eVar 1)))
  (sRet (eVar 4))))
  sNext)
  (sSeq (sSet 2 (eC (.int 0)))
  (sSeq (eIf (eB (eBin (gCmp fun i j => decide (j < i)) (aThen (g1 gLen) (aCons (eBin gIx (eVar 0) (eC (.int 0))) aNil)) (eC (.int 0))))
  (sSet 2 (aThen (g1 gAbs) (aCons (eBin gIx (eBin gIx (eVar 0) (eC (.int 0))) (eBin gMod (aThen (g1 gInt) (aCons (eBin gIx (eVar 0) (eC (.int 1))) aNil)) (aThen (g1 gLen) (aCons (eBin gIx (eVar 0) (eC (.int 0))) aNil)))) aNil)))
  sNext)
  (sSeq (sSub (eVar 0) (eC (.int 1)) (eBin gAdd (eBin gIx (eVar 0) (eC (.int 1))) (eC (.int 1))))
  (sSeq (eIf (eB (eBin (gCmp fun i j => decide (j ≤ i)) (eVar 2) (eBin gPow (eC (.int 10)) (eC (.int 18)))))
  (sSeq (sSub (eVar 0) (eC (.int 2)) (eBin gDiv (eVar 2) (eVar 1)))
  (sRet (eBin gMod (aThen (g1 gInt) (aCons (eVar 2) aNil)) (eVar 1))))
  sNext)
  (sSeq (sSet 3 (eBin gMod (aThen (g1 gInt) (aCons (eBin gAdd (eBin gMul (eBin gAdd (eVar 2) (eC (.int 1))) (eC (.int 48271))) (eBin gMul (eBin gIx (eVar 0) (eC (.int 3))) (eC (.int 69621)))) aNil)) (eC (.int 2147483647))))
  (sSeq (sSet 3 (eBin gMod (aThen (g1 gInt) (aCons (eBin gAdd (eBin gAdd (eBin gMul (eVar 3) (eC (.int 16807))) (eBin gDiv (eVar 2) (eC (.int 97)))) (eBin gIx (eVar 0) (eC (.int 3)))) aNil)) (eC (.int 2147483629))))
  (sRet (eBin gMod (eBin gDiv (eVar 3) (eC (.int 11))) (eVar 1)))))))))))
noncomputable def den__law_draw : List D → M Rv := fun ds => noX (runB 5 (r__law_draw) ds)
/-- names: 0 state, 1 items -/
noncomputable def r__law_one_of (d__law_draw : List D → M Rv) : MP.Env → M Fl :=
  (sRet (eBin gIx (eVar 1) (eCall (lenD 2 d__law_draw) (aCons (eVar 0) (aCons (aThen (g1 gLen) (aCons (eVar 1) aNil)) aNil)))))
noncomputable def den__law_one_of (d__law_draw : List D → M Rv) : List D → M Rv := fun ds => noX (runB 2 (r__law_one_of d__law_draw) ds)
/-- names: 0 x -/
noncomputable def r__law_is_int : MP.Env → M Fl :=
  (sRet (eAnd (eMap (gIsi "int") (eVar 0)) (eMap gNot (eMap (gIsi "bool") (eVar 0)))))
noncomputable def den__law_is_int : List D → M Rv := fun ds => noX (runB 1 (r__law_is_int) ds)
/-- names: 0 x, 1 y, 2 k -/
noncomputable def r__law_same (d__law_same : List D → M Rv) (d__law_is_int : List D → M Rv) : MP.Env → M Fl :=
  (sSeq (eIf (eB (eMap (gIsi "tuple") (eVar 1)))
  (sSeq (eIf (bOr (bNot (eB (eMap (gIsi "tuple") (eVar 0)))) (eB (eBin (gEq true) (aThen (g1 gLen) (aCons (eVar 0) aNil)) (aThen (g1 gLen) (aCons (eVar 1) aNil)))))
  (sRet (eC (.bl false)))
  sNext)
  (sRet (aThen (g1 gAll) (aCons (eFl (fComp (wThen wRng1 (aCons (aThen (g1 gLen) (aCons (eVar 1) aNil)) aNil)) (asgN 2) tYesM (eCall (lenD 2 d__law_same) (aCons (eBin gIx (eVar 0) (eVar 2)) (aCons (eBin gIx (eVar 1) (eVar 2)) aNil))) [2])) aNil))))
  sNext)
  (sSeq (eIf (eB (eMap (gIsi "str") (eVar 1)))
  (sRet (eAnd (eMap (gIsi "str") (eVar 0)) (eBin (gEq false) (eVar 0) (eVar 1))))
  sNext)
  (sRet (eAnd (eCall (lenD 1 d__law_is_int) (aCons (eVar 0) aNil)) (eBin (gEq false) (eVar 0) (eVar 1))))))
noncomputable def den__law_same (d__law_same : List D → M Rv) (d__law_is_int : List D → M Rv) : List D → M Rv := fun ds => noX (runB 3 (r__law_same d__law_same d__law_is_int) ds)
@[simp] theorem ixD0 {x : D} {xs : List D} {mu : List MO} : ixD (x :: xs) 0 mu = .ok x mu := ixD_at (by unfold atI ixN; simp)
@[simp] theorem ixD1 {a x : D} {xs : List D} {mu : List MO} : ixD (a :: x :: xs) 1 mu = .ok x mu := ixD_at (by unfold atI ixN; simp; rw [if_pos (by omega)]; rfl)
@[simp] theorem ixD2 {a b x : D} {xs : List D} {mu : List MO} : ixD (a :: b :: x :: xs) 2 mu = .ok x mu := ixD_at (by unfold atI ixN; simp; rw [if_pos (by omega)]; rfl)
@[simp] theorem ixD3 {a b c x : D} {xs : List D} {mu : List MO} : ixD (a :: b :: c :: x :: xs) 3 mu = .ok x mu := ixD_at (by unfold atI ixN; simp; rw [if_pos (by omega)]; rfl)
def st (cs : List Int) (a b c : Int) : MO := .lst [.fl (cs.map .int), .int a, .int b, .int c]
theorem atI_mod {cs : List Int} (h : 0 < cs.length) (a : Int) : ∃ v, atI (cs.map D.int) (a % (cs.length : Int)) = some (.int v) := by
  have h1 := Int.emod_nonneg a (b := (cs.length : Int)) (by omega)
  have h2 := Int.emod_lt_of_pos a (b := (cs.length : Int)) (by omega)
  unfold atI ixN
  rw [List.length_map, if_pos h1, if_pos h2]
  have hk : (a % (cs.length : Int)).toNat < cs.length := by omega
  exact ⟨cs[(a % (cs.length : Int)).toNat], by simp [hk]⟩
theorem draw_ok {s : Nat} {cs : List Int} {a b c most : Int} {mu : List MO} (h : mu[s]? = some (st cs a b c)) (hm : 0 < most) (hl : most.natAbs.log2 < 9000) :
    ∃ d a' b' c', den__law_draw [.ref s, .int most] mu = .ok (.vl (.int d)) (mu.set s (st cs a' b' c')) ∧ 0 ≤ d ∧ d < most := by
  have hs : s < mu.length := (List.getElem?_eq_some_iff.mp h).1
  unfold st at h
  have q : ∀ x : Int, 0 ≤ x % most ∧ x % most < most := fun x => ⟨Int.emod_nonneg x (by omega), Int.emod_lt_of_pos x hm⟩
  by_cases hb : 0 < b
  · refine ⟨b % most, a, b / most, c + 1, noX_ok ?_, (q b).1, (q b).2⟩
    have hset : ∀ x : MO, (mu.set s x)[s]? = some x := fun x => List.getElem?_set_self hs
    simp [r__law_draw, startE, h, hset, hb, hm, hl, st, ixN]
  · have hset : ∀ x : MO, (mu.set s x)[s]? = some x := fun x => List.getElem?_set_self hs
    have l97 : Nat.log2 97 < 9000 := by decide
    have l11 : Nat.log2 11 < 9000 := by decide
    have p18 : (10 : Int) ^ (18 : Int).toNat = 1000000000000000000 := by decide
    by_cases z : 0 < cs.length
    · obtain ⟨v, hv⟩ := atI_mod (cs := cs) z a
      generalize hcell : (if v < 0 then -v else v) = cell
      by_cases h18 : 1000000000000000000 ≤ cell
      · refine ⟨cell % most, a + 1, cell / most, c + 1, noX_ok ?_, (q cell).1, (q cell).2⟩
        simp [r__law_draw, startE, h, hset, hb, hm, hl, st, ixN, z, ixD_at hv, hcell, h18, l97, l11]
      · refine ⟨(((((cell + 1) * 48271 + (c + 1) * 69621) % 2147483647 * 16807 + cell / 97 + (c + 1)) % 2147483629) / 11) % most, a + 1, b, c + 1, noX_ok ?_, (q _).1, (q _).2⟩
        simp [r__law_draw, startE, h, hset, hb, hm, hl, st, ixN, z, ixD_at hv, hcell, h18, l97, l11]
    · refine ⟨(((((0 + 1) * 48271 + (c + 1) * 69621) % 2147483647 * 16807 + 0 / 97 + (c + 1)) % 2147483629) / 11) % most, a + 1, b, c + 1, noX_ok ?_, (q _).1, (q _).2⟩
      simp [r__law_draw, startE, h, hset, hb, hm, hl, st, ixN, z, l97, l11]
end MP
namespace MP
open PySem L2 PyProof.Rows
/-! ### what the shared words answer -/
theorem start_ok {cs : List Int} {mu : List MO} (h : cs.length ≤ 63) : den__law_start [.ro (cs.map .int)] mu = .ok (.fr [.fl (cs.map .int), .int 0, .int 0, .int 0]) mu := by
  refine noX_ok ?_
  have e : (4 : Nat) ≤ sizeLine := by decide
  simp [r__law_start, startE, e]
/-- the state's place -/
def At (s : Nat) (cs : List Int) (mu : List MO) : Prop := ∃ a b c, mu[s]? = some (st cs a b c)
/-- the state moved on, nothing else -/
def Nx (s : Nat) (cs : List Int) (mu mu' : List MO) : Prop := ∃ a b c, mu' = mu.set s (st cs a b c)
theorem At.lt {s : Nat} {cs : List Int} {mu : List MO} (h : At s cs mu) : s < mu.length := by
  obtain ⟨a, b, c, h⟩ := h
  exact (List.getElem?_eq_some_iff.mp h).1
theorem Nx.at_ {s : Nat} {cs : List Int} {mu mu' : List MO} (h : At s cs mu) (n : Nx s cs mu mu') : At s cs mu' := by
  obtain ⟨a, b, c, e⟩ := n
  exact ⟨a, b, c, by rw [e, List.getElem?_set_self h.lt]⟩
theorem Nx.trans {s : Nat} {cs : List Int} {mu mu1 mu2 : List MO} (n : Nx s cs mu mu1) (n' : Nx s cs mu1 mu2) : Nx s cs mu mu2 := by
  obtain ⟨a, b, c, e⟩ := n
  obtain ⟨a', b', c', e'⟩ := n'
  exact ⟨a', b', c', by rw [e', e, List.set_set]⟩
theorem Nx.refl {s : Nat} {cs : List Int} {mu : List MO} (h : At s cs mu) : Nx s cs mu mu := by
  obtain ⟨a, b, c, h⟩ := h
  refine ⟨a, b, c, ?_⟩
  apply List.ext_getElem?
  intro i
  by_cases e : s = i
  · subst e; rw [List.getElem?_set_self (List.getElem?_eq_some_iff.mp h).1]; exact h
  · rw [List.getElem?_set_ne e]
theorem draw_at {s : Nat} {cs : List Int} {most : Int} {mu : List MO} (h : At s cs mu) (hm : 0 < most) (hl : most.natAbs.log2 < 9000) : ∃ d mu', den__law_draw [.ref s, .int most] mu = .ok (.vl (.int d)) mu' ∧ Nx s cs mu mu' ∧ 0 ≤ d ∧ d < most := by
  obtain ⟨a, b, c, h⟩ := h
  obtain ⟨d, a', b', c', e, h1, h2⟩ := draw_ok h hm hl
  exact ⟨d, _, e, ⟨a', b', c', rfl⟩, h1, h2⟩
theorem atI_of {xs : List D} {i : Int} (h0 : 0 ≤ i) (h1 : i < xs.length) : ∃ x, x ∈ xs ∧ atI xs i = some x := by
  have hk : i.toNat < xs.length := by omega
  refine ⟨xs[i.toNat], List.getElem_mem hk, ?_⟩
  unfold atI ixN
  rw [if_pos h0, if_pos h1]
  exact List.getElem?_eq_getElem hk
theorem log2_small {n : Nat} (h : n < 2 ^ 64) : n.log2 < 9000 := by
  rcases Nat.eq_zero_or_pos n with e | e
  · subst e; decide
  · have := (Nat.log2_lt (by omega)).mpr h
    omega
theorem one_of_at {s : Nat} {cs : List Int} {xs : List D} {mu : List MO} (h : At s cs mu) (h0 : 0 < xs.length) (h1 : xs.length < 1000) : ∃ x mu', den__law_one_of den__law_draw [.ref s, .fl xs] mu = .ok (.vl x) mu' ∧ Nx s cs mu mu' ∧ x ∈ xs := by
  obtain ⟨d, mu', e, n, d0, d1⟩ := draw_at (most := (xs.length : Int)) h (by omega) (log2_small (by simp; omega))
  obtain ⟨x, hx, ex⟩ := atI_of d0 d1
  refine ⟨x, mu', noX_ok ?_, n, hx⟩
  simp [r__law_one_of, startE, e, ixD_at ex]
/-! same -/
theorem fn_bad {P : Program} {w : World} {K : PySem.W.Frag} {mg : Str → Option Value} {base : Heap} {CX : CXT} {k n : Nat} {f : Addr} {fd : FuncData} {ps : List Str} : FnOk P w K mg base CX k f fd ps (sp K mg n fun _ _ => .bad) := by
  have no : ∀ vs H Q E, ¬ sp K mg n (fun _ _ => .bad) vs H Q E := fun vs H Q E h => by
    obtain ⟨_, _, _, _, _, _, h⟩ := h
    exact h
  exact ⟨fun vs H Q E h => absurd h (no vs H Q E), fun A outer s H args us vs Q E _ _ _ _ h => absurd h (no vs H Q E)⟩
noncomputable def sameL : Nat → List D → M Rv
  | 0 => fun _ _ => .bad
  | n + 1 => den__law_same (sameL n) den__law_is_int
mutual
/-- data of tuples, texts and ints, less deep than n -/
def plainD : Nat → D → Bool
  | _ + 1, .int _ => true
  | _ + 1, .str _ => true
  | n + 1, .tup xs => decide (xs.length ≤ 1000) && plainDs n xs
  | _, _ => false
def plainDs : Nat → List D → Bool
  | _, [] => true
  | n, x :: xs => plainD n x && plainDs n xs
end
theorem plainDs_mem {n : Nat} : ∀ {xs : List D}, plainDs n xs = true → ∀ x ∈ xs, plainD n x = true
  | [], _, x, hx => by simp at hx
  | y :: ys, h, x, hx => by
    rw [plainDs, Bool.and_eq_true] at h
    rcases List.mem_cons.mp hx with e | e
    · rw [e]; exact h.1
    · exact plainDs_mem h.2 x e
theorem is_int_int {i : Int} {mu : List MO} : den__law_is_int [.int i] mu = .ok (.vl (.bl true)) mu := by
  refine noX_ok ?_
  simp [r__law_is_int, startE, isiB]
theorem gEq_int {i : Int} {mu : List MO} : gEq false (.int i) (.int i) mu = .ok (.bl true) mu := by
  unfold gEq
  simp [okE, dep, eqD]
theorem gEq_str {i : Str} {mu : List MO} : gEq false (.str i) (.str i) mu = .ok (.bl true) mu := by
  unfold gEq
  simp [okE, dep, eqD]
theorem gEq_ints {neg : Bool} {i j : Int} {mu : List MO} : gEq neg (.int i) (.int j) mu = .ok (.bl ((i == j) != neg)) mu := by
  unfold gEq
  simp [okE, dep, eqD]
theorem toBs_true {xs : List D} {mu : List MO} : toBs (xs.map fun _ => D.bl true) mu = .ok (xs.map fun _ => true) mu := by
  induction xs with
  | nil => rfl
  | cons x xs ih =>
    show ((toB (.bl true) : M Bool) >>= fun b => toBs (xs.map fun _ => D.bl true) >>= fun bs => pure (b :: bs)) mu = _
    simp [ih]
theorem sameL_eq {n : Nat} {ds : List D} : sameL (n + 1) ds = noX (runB 3 (r__law_same (sameL n) den__law_is_int) ds) := rfl
theorem same_ok : ∀ (n : Nat) (d : D) (mu : List MO), plainD n d = true → sameL (n + 1) [d, d] mu = .ok (.vl (.bl true)) mu
  | 0, d, mu, h => by cases d <;> simp [plainD] at h
  | n + 1, .int i, mu, _ => by
    rw [sameL_eq]
    refine noX_ok ?_
    simp [r__law_same, startE, isiB, is_int_int, gEq_int]
  | n + 1, .str i, mu, _ => by
    rw [sameL_eq]
    refine noX_ok ?_
    simp [r__law_same, startE, isiB, gEq_str]
  | n + 1, .tup xs, mu, h => by
    have h' : (decide (xs.length ≤ 1000) && plainDs n xs) = true := h
    rw [Bool.and_eq_true, decide_eq_true_eq] at h'
    have hp := plainDs_mem h'.2
    have hz : (xs.length : Int) ≤ 16777216 := by have := h'.1; omega
    rw [sameL_eq]
    refine noX_ok ?_
    have hc : loopC (asgN 2) tYesM (eCall (lenD 2 (sameL (n + 1))) (aCons (eBin gIx (eVar 0) (eVar 2)) (aCons (eBin gIx (eVar 1) (eVar 2)) aNil))) [] (rngD 0 xs.length) [some (D.tup xs), some (D.tup xs), none] mu = .ok ((rngD 0 xs.length).map fun _ => D.bl true) mu := by
      refine loopC_map fun d hd => ?_
      obtain ⟨i, hi, e⟩ := List.mem_map.mp (show d ∈ (List.range xs.length).map fun (i : Nat) => D.int (0 + (i : Int)) from hd)
      subst e
      have hi := List.mem_range.mp hi
      obtain ⟨x, hx, ex⟩ := atI_of (xs := xs) (i := (i : Int)) (by omega) (by omega)
      have ih := same_ok n x mu (hp x hx)
      refine ⟨_, rfl, rfl, ?_⟩
      simp [ixD_at ex, ih]
    simp [r__law_same, startE, isiB, gEq_ints, wRng1, hc, noX_ok hc, gAll, toBs_true, hz]
end MP
namespace MP
open PySem L2 PyProof.Rows
/-! ### forms.form -/
/-- names: 0 constant, 1 pairs, 2 sums, 3 name, 4 coefficient -/
noncomputable def r_form : MP.Env → M Fl :=
  (sSeq (sSet 2 eNewD)
  (sSeq (sFor (eWalk (eVar 1)) (asgT 2 (asgCons (asgN 3) (asgCons (asgN 4) asgNil)))
  (sDput (eVar 2) (eVar 3) (eBin gAdd (eGet2 (eVar 2) (eVar 3) (eC (.int 0))) (eVar 4))) [3, 4])
  (sRet (aThen gTup (aCons (eVar 0) (aCons (aThen (g1 gTuple) (aCons (eFl (fComp (eWalk (eFl (fSrtD (eVar 2)))) (asgN 3) (eB (eBin (gEq true) (eBin gDget (eVar 2) (eVar 3)) (eC (.int 0)))) (aThen gTup (aCons (eVar 3) (aCons (eBin gDget (eVar 2) (eVar 3)) aNil))) [3])) aNil)) aNil))))))
noncomputable def den_form : List D → M Rv := fun ds => noX (runB 5 (r_form) ds)
/-! dicts, plainly -/
def valG {β : Type} (kvs : List (Key × β)) (k : Key) : Option β := (kvs.find? fun kv => decide (kv.1 = k)).map (·.2)
section
variable {β : Type} {kvs r : List (Key × β)} {k j : Key} {y : β} {p : Key × β}
theorem valG_pos (e : p.1 = k) : valG (p :: r) k = some p.2 := by simp [valG, List.find?_cons, e]
theorem valG_neg (e : ¬ p.1 = k) : valG (p :: r) k = valG r k := by simp [valG, List.find?_cons, e]
theorem valG_any : ∀ kvs : List (Key × β), (kvs.any fun kv => decide (kv.1 = k)) = (valG kvs k).isSome
  | [] => rfl
  | p :: r => by
    rw [List.any_cons]
    by_cases e : p.1 = k
    · rw [valG_pos e, decide_eq_true e]; rfl
    · rw [valG_neg e, decide_eq_false e, Bool.false_or]; exact valG_any r
theorem valG_map : ∀ kvs : List (Key × β), valG (mapV kvs k y) j = (valG kvs j).map fun x => if j = k then y else x
  | [] => rfl
  | p :: r => by
    have ih := valG_map r
    unfold mapV at ih ⊢
    rw [List.map_cons]
    by_cases h : p.1 = j
    · rw [valG_pos (p := p) h]
      by_cases h2 : p.1 = k
      · rw [if_pos h2, valG_pos (p := (p.1, y)) h, Option.map_some, if_pos (h.symm.trans h2)]
      · rw [if_neg h2, valG_pos h, Option.map_some, if_neg (fun e => h2 (h.trans e))]
    · rw [valG_neg (p := p) h, ← ih]
      by_cases h2 : p.1 = k
      · rw [if_pos h2, valG_neg (p := (p.1, y)) h]
      · rw [if_neg h2, valG_neg h]
theorem valG_snoc : ∀ kvs : List (Key × β), valG kvs k = none → valG (kvs ++ [(k, y)]) j = if j = k then some y else valG kvs j
  | [], _ => by
    by_cases e : k = j
    · rw [if_pos e.symm]; exact valG_pos (p := (k, y)) e
    · rw [if_neg (fun z => e z.symm)]; exact valG_neg (p := (k, y)) e
  | p :: r, hn => by
    rw [List.cons_append]
    by_cases h : p.1 = k
    · rw [valG_pos h] at hn; cases hn
    · rw [valG_neg h] at hn
      have ih := valG_snoc r hn
      by_cases h2 : p.1 = j
      · rw [valG_pos h2, valG_pos h2, if_neg (fun e => h (h2.trans e))]
      · rw [valG_neg h2, valG_neg h2, ih]
theorem valG_put : valG (putD kvs k y) j = if j = k then some y else valG kvs j := by
  unfold putD
  by_cases a : (kvs.any fun kv => decide (kv.1 = k)) = true
  · rw [if_pos a, valG_map]
    rw [valG_any] at a
    by_cases e : j = k
    · obtain ⟨x, hx⟩ := Option.isSome_iff_exists.mp a
      subst e
      rw [hx, Option.map_some, if_pos rfl, if_pos rfl]
    · rw [if_neg e]
      cases valG kvs j with
      | none => rfl
      | some x => rw [Option.map_some, if_neg e]
  · rw [if_neg a]
    rw [valG_any] at a
    exact valG_snoc kvs (by cases h : valG kvs k with | none => rfl | some x => rw [h] at a; exact absurd rfl a)
theorem valG_mem : k ∈ kvs.map (·.1) ↔ (valG kvs k).isSome = true := by
  rw [← valG_any, List.any_eq_true, List.mem_map]
  constructor
  · rintro ⟨p, hp, e⟩; exact ⟨p, hp, decide_eq_true e⟩
  · rintro ⟨p, hp, e⟩; exact ⟨p, hp, of_decide_eq_true e⟩
theorem keys_put_in (h : k ∈ kvs.map (·.1)) : (putD kvs k y).map (·.1) = kvs.map (·.1) := by
  unfold putD
  rw [if_pos (by rw [valG_any]; exact valG_mem.mp h), mapV_keys]
theorem keys_put_new (h : ¬ k ∈ kvs.map (·.1)) : (putD kvs k y).map (·.1) = kvs.map (·.1) ++ [k] := by
  unfold putD
  rw [if_neg (fun a => h (valG_mem.mpr (by rw [← valG_any]; exact a))), List.map_append]; rfl
theorem length_put : (putD kvs k y).length ≤ kvs.length + 1 := by
  unfold putD
  split
  · unfold mapV; rw [List.length_map]; omega
  · simp
end
def toKD (l : List (Key × Int)) : List (Key × D) := l.map fun p => (p.1, .int p.2)
theorem toKD_keys {l : List (Key × Int)} : (toKD l).map (·.1) = l.map (·.1) := by unfold toKD; rw [List.map_map]; rfl
theorem toKD_val {l : List (Key × Int)} {k : Key} : valD (toKD l) k = (valG l k).map .int := by
  induction l with
  | nil => rfl
  | cons p r ih =>
    have e : valD (toKD (p :: r)) k = valG ((p.1, D.int p.2) :: toKD r) k := rfl
    rw [e]
    by_cases h : p.1 = k
    · rw [valG_pos (p := (p.1, D.int p.2)) h, valG_pos h]; rfl
    · rw [valG_neg (p := (p.1, D.int p.2)) h, valG_neg h]; exact ih
theorem toKD_put {l : List (Key × Int)} {k : Key} {i : Int} : putD (toKD l) k (.int i) = toKD (putD l k i) := by
  unfold putD
  have e : ((toKD l).any fun kv => decide (kv.1 = k)) = l.any fun kv => decide (kv.1 = k) := by unfold toKD; rw [List.any_map]; rfl
  rw [e]
  split
  · unfold mapV toKD
    rw [List.map_map, List.map_map]
    apply List.map_congr_left
    intro p _
    show (if p.1 = k then (p.1, D.int i) else (p.1, D.int p.2)) = ((if p.1 = k then (p.1, i) else p).1, D.int (if p.1 = k then (p.1, i) else p).2)
    split <;> rfl
  · unfold toKD; rw [List.map_append]; rfl
/-! the sums -/
def pairD (p : Str × Int) : D := .tup [.str p.1, .int p.2]
def sums : List (Key × Int) → List (Str × Int) → List (Key × Int)
  | l, [] => l
  | l, p :: r => sums (putD l (.inr p.1) ((valG l (.inr p.1)).getD 0 + p.2)) r
theorem sums_length : ∀ (ps : List (Str × Int)) (l : List (Key × Int)), (sums l ps).length ≤ l.length + ps.length
  | [], l => by unfold sums; simp
  | p :: r, l => by
    unfold sums
    have := sums_length r (putD l (.inr p.1) ((valG l (.inr p.1)).getD 0 + p.2))
    have h2 := length_put (kvs := l) (k := .inr p.1) (y := (valG l (.inr p.1)).getD 0 + p.2)
    rw [List.length_cons]
    omega
theorem form_loop {c d : D} {n : Nat} : ∀ (ps : List (Str × Int)) (l : List (Key × Int)) (mu : List MO) (o3 o4 : Option D), mu[n]? = some (.dk (toKD l)) → l.length + ps.length < sizeLine →
    loopF (asgT 2 (asgCons (asgN 3) (asgCons (asgN 4) asgNil))) (sDput (eVar 2) (eVar 3) (eBin gAdd (eGet2 (eVar 2) (eVar 3) (eC (.int 0))) (eVar 4))) [3, 4] [] (ps.map pairD) [some c, some d, some (.ref n), o3, o4] mu =
      .ok (.nx [some c, some d, some (.ref n), none, none]) (mu.set n (.dk (toKD (sums l ps))))
  | [], l, mu, _, _, h, _ => by
    rw [List.map_nil, loopF_nil]
    have e : mu.set n (.dk (toKD (sums l []))) = mu := by
      apply List.ext_getElem?
      intro i
      by_cases e : n = i
      · subst e; rw [List.getElem?_set_self (List.getElem?_eq_some_iff.mp h).1]; exact h.symm
      · rw [List.getElem?_set_ne e]
    rw [e]; rfl
  | p :: r, l, mu, _, _, h, hl => by
    have hn : n < mu.length := (List.getElem?_eq_some_iff.mp h).1
    have hset : ∀ x : MO, (mu.set n x)[n]? = some x := fun x => List.getElem?_set_self hn
    have hl' : (toKD l).length < sizeLine := by unfold toKD; rw [List.length_map]; rw [List.length_cons] at hl; omega
    have ih := form_loop (c := c) (d := d) (n := n) r (putD l (.inr p.1) ((valG l (.inr p.1)).getD 0 + p.2)) (mu.set n (.dk (toKD (putD l (.inr p.1) ((valG l (.inr p.1)).getD 0 + p.2))))) (some (.str p.1)) (some (.int p.2)) (hset _) (by
      have := length_put (kvs := l) (k := .inr p.1) (y := (valG l (.inr p.1)).getD 0 + p.2)
      rw [List.length_cons] at hl; omega)
    rw [List.set_set] at ih
    rw [List.map_cons, loopF_cons]
    have hv : ((Option.map D.int (valG l (.inr p.1))).getD (D.int 0)) = D.int ((valG l (.inr p.1)).getD 0) := by cases valG l (.inr p.1) <;> rfl
    have hput : putM (.ref n) (.str p.1) (.int ((valG l (.inr p.1)).getD 0 + p.2)) mu = .ok .non (mu.set n (.dk (toKD (putD l (.inr p.1) ((valG l (.inr p.1)).getD 0 + p.2))))) := by
      rw [putM_at (k := .inr p.1) rfl h hl', toKD_put]
    simp [pairD, h, toKD_val, hv, hput]
    exact ih
end MP
namespace MP
open PySem L2 PyProof.Rows
section
variable {γ : Type} {asg : D → Env → M Env} {t : Env → M Bool} {r : Env → M D} {env : Env} {mu : List MO}
theorem loopC_filter' {g f : γ → D} {p : γ → Bool} : ∀ {xs : List γ}, (∀ x ∈ xs, ∃ env1, asg (g x) env mu = .ok env1 mu ∧ t env1 mu = .ok (p x) mu ∧ (p x = true → r env1 mu = .ok (f x) mu)) → loopC asg t r [] (xs.map g) env mu = .ok ((xs.filter p).map f) mu
  | [], _ => loopC_nil
  | x :: xs, h => by
    obtain ⟨env1, h1, h2, h3⟩ := h x (by simp)
    have ih := loopC_filter' (xs := xs) fun e he => h e (by simp [he])
    rw [List.map_cons]
    cases hp : p x with
    | true =>
      rw [List.filter_cons_of_pos hp, List.map_cons]
      exact loopC_yes h1 (by rw [h2, hp]) (h3 hp) ih
    | false =>
      rw [List.filter_cons_of_neg (by rw [hp]; decide)]
      exact loopC_no h1 (by rw [h2, hp]) ih
theorem loopC_map' {g f : γ → D} : ∀ {xs : List γ}, (∀ x ∈ xs, ∃ env1, asg (g x) env mu = .ok env1 mu ∧ t env1 mu = .ok true mu ∧ r env1 mu = .ok (f x) mu) → loopC asg t r [] (xs.map g) env mu = .ok (xs.map f) mu
  | [], _ => loopC_nil
  | x :: xs, h => by
    obtain ⟨env1, h1, h2, h3⟩ := h x (by simp)
    rw [List.map_cons, List.map_cons]
    exact loopC_yes h1 h2 h3 (loopC_map' (xs := xs) fun e he => h e (by simp [he]))
end
theorem keyStrs_map : ∀ (ns : List Str), keyStrs (ns.map Sum.inr) = some ns
  | [] => rfl
  | n :: ns => by
    show (keyStrs (ns.map Sum.inr)).map (n :: ·) = _
    rw [keyStrs_map ns]; rfl
theorem sums_keys : ∀ (ps : List (Str × Int)) (l : List (Key × Int)) (ns : List Str), l.map (·.1) = ns.map Sum.inr → ns.Nodup → ∃ ns' : List Str, (sums l ps).map (·.1) = ns'.map Sum.inr ∧ ns'.Nodup ∧ ∀ n, n ∈ ns' ↔ n ∈ ns ∨ n ∈ ps.map (·.1)
  | [], l, ns, h, hn => ⟨ns, h, hn, fun n => by simp⟩
  | p :: r, l, ns, h, hn => by
    unfold sums
    by_cases hp : p.1 ∈ ns
    · obtain ⟨ns', h1, h2, h3⟩ := sums_keys r (putD l (.inr p.1) ((valG l (.inr p.1)).getD 0 + p.2)) ns (by rw [keys_put_in (by rw [h]; exact List.mem_map.mpr ⟨_, hp, rfl⟩), h]) hn
      refine ⟨ns', h1, h2, fun n => ?_⟩
      rw [h3, List.map_cons, List.mem_cons]
      constructor
      · rintro (z | z)
        · exact .inl z
        · exact .inr (.inr z)
      · rintro (z | z | z)
        · exact .inl z
        · rw [z]; exact .inl hp
        · exact .inr z
    · have hk : ¬ (Sum.inr p.1 : Key) ∈ l.map (·.1) := by
        rw [h]
        intro z
        obtain ⟨q, hq, e⟩ := List.mem_map.mp z
        cases e
        exact hp hq
      obtain ⟨ns', h1, h2, h3⟩ := sums_keys r (putD l (.inr p.1) ((valG l (.inr p.1)).getD 0 + p.2)) (ns ++ [p.1]) (by rw [keys_put_new hk, h, List.map_append]; rfl) (by
        rw [List.nodup_append]
        exact ⟨hn, by simp, fun x hx y hy e => by rw [List.mem_singleton.mp hy] at e; rw [e] at hx; exact hp hx⟩)
      refine ⟨ns', h1, h2, fun n => ?_⟩
      rw [h3, List.map_cons, List.mem_cons, List.mem_append, List.mem_singleton]
      constructor
      · rintro ((z | z) | z)
        · exact .inl z
        · exact .inr (.inl z)
        · exact .inr (.inr z)
      · rintro (z | z | z)
        · exact .inl (.inl z)
        · exact .inl (.inr z)
        · exact .inr z
def nms (ps : List (Str × Int)) : List Str := (keyStrs ((sums [] ps).map (·.1))).getD []
def valOf (ps : List (Str × Int)) (s : Str) : Int := (valG (sums [] ps) (.inr s)).getD 0
theorem nms_spec (ps : List (Str × Int)) : (sums [] ps).map (·.1) = (nms ps).map Sum.inr ∧ (nms ps).Nodup ∧ ∀ n, n ∈ nms ps ↔ n ∈ ps.map (·.1) := by
  obtain ⟨ns, h1, h2, h3⟩ := sums_keys ps [] [] rfl List.nodup_nil
  have e : nms ps = ns := by unfold nms; rw [h1, keyStrs_map]; rfl
  rw [e]
  exact ⟨h1, h2, fun n => by rw [h3]; simp⟩
/-- the form's pairs: sums by name, in order, no nothing -/
def canon (ps : List (Str × Int)) : List (Str × Int) := ((srtS (nms ps)).filter fun s => !(valOf ps s == 0)).map fun s => (s, valOf ps s)
def formD (c : D) (ps : List (Str × Int)) : D := .tup [c, .tup ((canon ps).map pairD)]
theorem srtS_mem {xs : List Str} {x : Str} : x ∈ srtS xs ↔ x ∈ xs := (List.mergeSort_perm xs leS).mem_iff
theorem srtS_len {xs : List Str} : (srtS xs).length = xs.length := (List.mergeSort_perm xs leS).length_eq
theorem nms_len (ps : List (Str × Int)) : (nms ps).length ≤ ps.length := by
  have h := congrArg List.length (nms_spec ps).1
  rw [List.length_map, List.length_map] at h
  have := sums_length ps []
  simp at this
  omega
theorem canon_len (ps : List (Str × Int)) : (canon ps).length ≤ ps.length := by
  unfold canon
  rw [List.length_map]
  have h1 := List.length_filter_le (fun s => !(valOf ps s == 0)) (srtS (nms ps))
  rw [srtS_len] at h1
  have := nms_len ps
  omega
theorem gEq_zero {neg : Bool} {i : Int} {mu : List MO} : gEq neg (.int i) (.int 0) mu = .ok (.bl ((i == 0) != neg)) mu := gEq_ints
theorem srtK_ok {ks : List Key} {ns : List Str} {mu : List MO} (h : ks = ns.map Sum.inr) (hl : ns.length < 64) : srtK ks mu = .ok ((srtS ns).map D.str) mu := by
  unfold srtK
  rw [h, bind_ap, need_ap, if_pos (by rw [List.length_map]; exact hl), keyStrs_map]
  rfl
theorem form_ok {c d : D} {ps : List (Str × Int)} {mu : List MO} (hd : ∀ mu, walkD d mu = .ok (ps.map pairD, []) mu) (hl : ps.length < 64) :
    den_form [c, d] mu = .ok (.vl (formD c ps)) (mu ++ [MO.dk (toKD (sums [] ps))]) := by
  obtain ⟨hk, hnd, hmem⟩ := nms_spec ps
  have hsz : (64 : Nat) ≤ sizeLine := by decide
  have hset : ∀ y : MO, (mu ++ [MO.dk (toKD [])]).set mu.length y = mu ++ [y] := fun y => by simp [List.set_append]
  have h1 := form_loop (c := c) (d := d) (n := mu.length) ps [] (mu ++ [MO.dk (toKD [])]) none none (by simp) (by simp; omega)
  rw [hset] at h1
  have h0 : (mu ++ [MO.dk (toKD (sums [] ps))])[mu.length]? = some (.dk (toKD (sums [] ps))) := by simp
  have h2 := srtK_ok (mu := mu ++ [MO.dk (toKD (sums [] ps))]) (show (toKD (sums [] ps)).map (·.1) = (nms ps).map Sum.inr by rw [toKD_keys]; exact hk) (by have := nms_len ps; omega)
  have hgd : ∀ s ∈ srtS (nms ps), gDget (.ref mu.length) (.str s) (mu ++ [MO.dk (toKD (sums [] ps))]) = .ok (.int (valOf ps s)) (mu ++ [MO.dk (toKD (sums [] ps))]) := fun s hs => by
    have hin : (valG (sums [] ps) (.inr s)).isSome = true := valG_mem.mp (by rw [hk]; exact List.mem_map.mpr ⟨s, srtS_mem.mp hs, rfl⟩)
    obtain ⟨v, hv⟩ := Option.isSome_iff_exists.mp hin
    unfold gDget valOf
    simp [h0, toKD_val, hv]
  have h3 : loopC (asgN 3) (eB (eBin (gEq true) (eBin gDget (eVar 2) (eVar 3)) (eC (.int 0)))) (aThen gTup (aCons (eVar 3) (aCons (eBin gDget (eVar 2) (eVar 3)) aNil))) [] ((srtS (nms ps)).map D.str) [some c, some d, some (.ref mu.length), none, none] (mu ++ [MO.dk (toKD (sums [] ps))]) =
      .ok (((srtS (nms ps)).filter fun s => !(valOf ps s == 0)).map fun s => pairD (s, valOf ps s)) (mu ++ [MO.dk (toKD (sums [] ps))]) := by
    refine loopC_filter' fun s hs => ⟨_, rfl, ?_, fun _ => ?_⟩
    · simp [hgd s hs, gEq_zero]
    · have e2 : (2 : Nat) ≤ sizeLine := by decide
      simp [hgd s hs, gTup_ok, e2, pairD]
  refine noX_ok ?_
  have e2 : (2 : Nat) ≤ sizeLine := by decide
  have ek : toKD [] = [] := rfl
  rw [ek] at h1
  simp [r_form, startE, hd, h1, h0, h2, noX_ok h3, gTup_ok, e2]
  simp [formD, canon, Function.comp_def]
end MP
namespace MP
open PySem L2 PyProof.Rows
theorem ltS_iff {x y : Str} : ltS x y = true ↔ x.cps.toList < y.cps.toList := by unfold ltS; exact decide_eq_true_iff
theorem ltS_le {x y : Str} (h : ltS x y = true) : leS x y = true := leS_iff.mpr (List.le_of_lt (ltS_iff.mp h))
theorem ltS_irr {x : Str} : ltS x x = false := by
  cases h : ltS x x with
  | false => rfl
  | true => exact absurd (ltS_iff.mp h) (List.lt_irrefl _)
theorem ltS_of {x y : Str} (h : leS x y = true) (hn : x ≠ y) : ltS x y = true := by
  cases hl : ltS x y with
  | true => rfl
  | false =>
    have h2 : leS y x = true := by
      unfold leS
      rw [ltCps_eq]
      have : ¬ x.cps.toList < y.cps.toList := fun z => by rw [ltS_iff.mpr z] at hl; cases hl
      rw [decide_eq_false this]; rfl
    exact absurd (leS_anti h h2) hn
theorem sums_val (s : Str) : ∀ (ps : List (Str × Int)) (l : List (Key × Int)), (valG (sums l ps) (.inr s)).getD 0 = (valG l (.inr s)).getD 0 + ((ps.filter fun p => p.1 == s).map (·.2)).sum
  | [], l => by unfold sums; simp
  | p :: r, l => by
    unfold sums
    rw [sums_val s r, valG_put]
    by_cases e : s = p.1
    · subst e
      rw [if_pos rfl, List.filter_cons_of_pos (by simp), List.map_cons, List.sum_cons]
      show (valG l (.inr p.1)).getD 0 + p.2 + _ = _
      omega
    · rw [if_neg (fun z => e (Sum.inr.inj z)), List.filter_cons_of_neg (by simp; exact fun z => e z.symm)]
theorem valOf_eq (ps : List (Str × Int)) (s : Str) : valOf ps s = ((ps.filter fun p => p.1 == s).map (·.2)).sum := by
  unfold valOf
  rw [sums_val]
  show (0 : Int) + _ = _
  omega
/-- names rising, nothing without a number -/
structure Canon (qs : List (Str × Int)) : Prop where
  up : qs.Pairwise fun p q => ltS p.1 q.1 = true
  nz : ∀ p ∈ qs, p.2 ≠ 0
theorem srtS_pw {xs : List Str} (h : xs.Nodup) : (srtS xs).Pairwise fun a b => ltS a b = true := by
  have h1 := List.pairwise_mergeSort leS_trans leS_total xs
  have h2 : (srtS xs).Nodup := (List.mergeSort_perm xs leS).nodup_iff.mpr h
  exact (h1.and h2).imp fun ⟨a, b⟩ => ltS_of a b
theorem canon_canon (ps : List (Str × Int)) : Canon (canon ps) := by
  refine ⟨?_, fun p hp => ?_⟩
  · unfold canon
    rw [List.pairwise_map]
    exact (srtS_pw (nms_spec ps).2.1).filter _
  · unfold canon at hp
    obtain ⟨s, hs, e⟩ := List.mem_map.mp hp
    subst e
    have := (List.mem_filter.mp hs).2
    simpa using this
theorem canon_names {ps : List (Str × Int)} {p : Str × Int} (h : p ∈ canon ps) : p.1 ∈ ps.map (·.1) := by
  unfold canon at h
  obtain ⟨s, hs, e⟩ := List.mem_map.mp h
  subst e
  exact ((nms_spec ps).2.2 _).mp (srtS_mem.mp (List.mem_filter.mp hs).1)
theorem Canon.nodup {qs : List (Str × Int)} (h : Canon qs) : (qs.map (·.1)).Nodup := by
  rw [List.nodup_iff_pairwise_ne, List.pairwise_map]
  exact h.up.imp fun {a b} z e => by rw [e, ltS_irr] at z; cases z
theorem Canon.val {qs : List (Str × Int)} (h : Canon qs) : ∀ p ∈ qs, valOf qs p.1 = p.2 := fun p hp => by
  rw [valOf_eq]
  have hn := h.nodup
  clear h
  induction qs with
  | nil => simp at hp
  | cons q r ih =>
    rw [List.map_cons, List.nodup_cons] at hn
    rcases List.mem_cons.mp hp with e | e
    · subst e
      rw [List.filter_cons_of_pos (by simp), List.map_cons, List.sum_cons]
      have z : (r.filter fun q => q.1 == p.1) = [] := by
        rw [List.filter_eq_nil_iff]
        intro q hq e
        exact hn.1 (List.mem_map.mpr ⟨q, hq, by simpa using e⟩)
      rw [z]; simp
    · have hne : ¬ q.1 = p.1 := fun z => hn.1 (List.mem_map.mpr ⟨p, e, z.symm⟩)
      rw [List.filter_cons_of_neg (by simpa using hne)]
      exact ih e hn.2
theorem canon_id {qs : List (Str × Int)} (h : Canon qs) : canon qs = qs := by
  obtain ⟨h1, h2, h3⟩ := nms_spec qs
  have hperm : (nms qs).Perm (qs.map (·.1)) := (List.perm_ext_iff_of_nodup h2 h.nodup).mpr h3
  have hs : srtS (nms qs) = qs.map (·.1) := by
    refine List.Perm.eq_of_pairwise (le := fun a b => leS a b = true) (fun a b _ _ x y => leS_anti x y) (List.pairwise_mergeSort leS_trans leS_total _) ?_ ((List.mergeSort_perm _ leS).trans hperm)
    rw [List.pairwise_map]
    exact h.up.imp fun z => ltS_le z
  unfold canon
  rw [hs, List.filter_map, List.map_map]
  have hf : qs.filter ((fun s => !(valOf qs s == 0)) ∘ fun p => p.1) = qs := by
    rw [List.filter_eq_self]
    intro p hp
    show (!(valOf qs p.1 == 0)) = true
    rw [h.val p hp]
    have := h.nz p hp
    simpa using this
  rw [hf]
  conv => rhs; rw [← List.map_id qs]
  apply List.map_congr_left
  intro p hp
  show (p.1, valOf qs p.1) = p
  rw [h.val p hp]
theorem cps_append (x y : Str) : (x ++ y).cps.toList = x.cps.toList ++ y.cps.toList := by
  show (x.cps ++ y.cps).toList = _
  simp
theorem lt_append (m : List Nat) : ∀ (a b : List Nat), m ++ a < m ++ b ↔ a < b := by
  induction m with
  | nil => intro a b; rfl
  | cons x m ih =>
    intro a b
    rw [List.cons_append, List.cons_append, List.cons_lt_cons_iff]
    constructor
    · rintro (h | ⟨_, h⟩)
      · exact absurd h (Nat.lt_irrefl _)
      · exact (ih a b).mp h
    · intro h; exact .inr ⟨rfl, (ih a b).mpr h⟩
theorem ltS_append {m x y : Str} : ltS (m ++ x) (m ++ y) = ltS x y := by
  unfold ltS
  rw [cps_append, cps_append]
  exact decide_eq_decide.mpr (lt_append _ _ _)
/-- each name with a mark ahead -/
def marked (m : Str) (qs : List (Str × Int)) : List (Str × Int) := qs.map fun p => (m ++ p.1, p.2)
theorem Canon.marked {qs : List (Str × Int)} (h : Canon qs) (m : Str) : Canon (marked m qs) := by
  refine ⟨?_, fun p hp => ?_⟩
  · unfold MP.marked
    rw [List.pairwise_map]
    exact h.up.imp fun z => by show ltS (m ++ _) (m ++ _) = true; rw [ltS_append]; exact z
  · obtain ⟨q, hq, e⟩ := List.mem_map.mp hp
    subst e
    exact h.nz q hq
/-! what form promises -/
def pairOf : D → Option (Str × Int)
  | .tup [.str s, .int i] => some (s, i)
  | _ => none
def pairsOf : List D → Option (List (Str × Int))
  | [] => some []
  | d :: ds => match pairOf d, pairsOf ds with
    | some p, some r => some (p :: r)
    | _, _ => none
theorem pairsOf_eq : ∀ {ds : List D} {ps : List (Str × Int)}, pairsOf ds = some ps → ds = ps.map pairD
  | [], ps, h => by cases h; rfl
  | d :: ds, ps, h => by
    unfold pairsOf at h
    cases hp : pairOf d with
    | none => rw [hp] at h; cases h
    | some p =>
      cases hr : pairsOf ds with
      | none => rw [hp, hr] at h; cases h
      | some r =>
        rw [hp, hr] at h
        cases h
        rw [List.map_cons, ← pairsOf_eq hr]
        congr 1
        unfold pairOf at hp
        split at hp
        · cases hp; rfl
        · cases hp
theorem pairsOf_map : ∀ (ps : List (Str × Int)), pairsOf (ps.map pairD) = some ps
  | [] => rfl
  | p :: r => by
    rw [List.map_cons]
    unfold pairsOf
    rw [pairsOf_map r]
    rfl
def seqOf : D → Option (List D)
  | .fl xs => some xs
  | .tup xs => some xs
  | .ro xs => some xs
  | _ => none
theorem seqOf_walk {d : D} {xs : List D} (h : seqOf d = some xs) (mu : List MO) : walkD d mu = .ok (xs, []) mu := by
  cases d <;> simp [seqOf] at h <;> (subst h; rfl)
def formF : List D → Option D
  | [c, d] => match seqOf d with
    | some xs => match pairsOf xs with
      | some ps => if ps.length < 64 then some (formD c ps) else none
      | none => none
    | none => none
  | _ => none
theorem formF_ok {c d : D} {ps : List (Str × Int)} (h : seqOf d = some (ps.map pairD)) (hl : ps.length < 64) : formF [c, d] = some (formD c ps) := by
  unfold formF
  simp only [h, pairsOf_map, if_pos hl]
theorem Clo.pairs {k : Nat} (ps : List (Str × Int)) : Clos k (ps.map pairD) := Clos.of fun d hd => by
  obtain ⟨p, _, e⟩ := List.mem_map.mp hd
  subst e
  exact Clo.tup.mpr (Clos.cons Clo.str (Clos.cons Clo.int Clos.nil))
theorem gc_form : GC 2 den_form (pureD formF) := gc_pure fun ds mu d hn hc hh hf => by
  match ds, hc, hf with
  | [c, e], hc, hf =>
    unfold formF at hf
    simp only at hf
    split at hf
    · rename_i xs hx
      split at hf
      · rename_i ps hp
        split at hf
        · rename_i hl
          cases hf
          have e1 := pairsOf_eq hp
          subst e1
          exact ⟨Clo.tup.mpr (Clos.cons hc.inv.1 (Clos.cons (Clo.tup.mpr (Clo.pairs _)) Clos.nil)), _, form_ok (fun mu => seqOf_walk hx mu) hl⟩
        · cases hf
      · cases hf
    · cases hf
  | [], _, hf => cases hf
  | [_], _, hf => cases hf
  | _ :: _ :: _ :: _, _, hf => cases hf
noncomputable abbrev r__law_form := r_form
noncomputable abbrev den__law_form := den_form
end MP
namespace MP
open PySem L2 PyProof.Rows
section
variable {asg : D → Env → M Env} {body : Env → M Fl} {fg : List Nat} {t : Env → M Bool} {r : Env → M D}
/-- a loop with an invariant; the number tells how many turns are left -/
theorem loopF_inv {I : Nat → Env → List MO → Prop} : ∀ {ds : List D} {env : Env} {mu : List MO}, (∀ d ∈ ds, ∀ k env mu, I (k + 1) env mu → ∃ env1 e' mu', asg d (wipeE env fg) mu = .ok env1 mu ∧ body env1 mu = .ok (.nx e') mu' ∧ I k e' mu') → I ds.length env mu →
    ∃ e' mu', loopF asg body fg [] ds env mu = .ok (.nx (wipeE e' fg)) mu' ∧ I 0 e' mu'
  | [], env, mu, _, h => ⟨env, mu, loopF_nil, h⟩
  | d :: ds, env, mu, hs, h => by
    obtain ⟨env1, e1, mu1, h1, h2, h3⟩ := hs d (by simp) ds.length env mu h
    obtain ⟨e', mu', h4, h5⟩ := loopF_inv (ds := ds) (fun x hx => hs x (by simp [hx])) h3
    refine ⟨e', mu', ?_, h5⟩
    rw [loopF_cons]
    simp [h1, h2, h4]
theorem loopC_inv {I : List MO → Prop} {P : D → Prop} : ∀ {ds : List D} {env : Env} {mu : List MO}, (∀ d ∈ ds, ∀ mu, I mu → ∃ env1 mu1 x, asg d env mu = .ok env1 mu ∧ t env1 mu = .ok true mu ∧ r env1 mu = .ok x mu1 ∧ I mu1 ∧ P x) → I mu →
    ∃ xs mu', loopC asg t r [] ds env mu = .ok xs mu' ∧ I mu' ∧ xs.length = ds.length ∧ ∀ x ∈ xs, P x
  | [], env, mu, _, h => ⟨[], mu, loopC_nil, h, rfl, by simp⟩
  | d :: ds, env, mu, hs, h => by
    obtain ⟨env1, mu1, x, h1, h2, h3, h4, h5⟩ := hs d (by simp) mu h
    obtain ⟨xs, mu', h6, h7, h8, h9⟩ := loopC_inv (ds := ds) (env := env) (fun y hy => hs y (by simp [hy])) h4
    exact ⟨x :: xs, mu', loopC_yes h1 h2 h3 h6, h7, by rw [List.length_cons, List.length_cons, h8], fun y hy => by
      rcases List.mem_cons.mp hy with e | e
      · rw [e]; exact h5
      · exact h9 y e⟩
end
theorem len_append (x y : Str) : (x ++ y).length = x.length + y.length := by
  show (x.cps ++ y.cps).size = x.cps.size + y.cps.size
  simp
theorem rng_mem {d : D} {n : Nat} (h : d ∈ rngD 0 n) : ∃ i : Nat, i < n ∧ d = .int i := by
  obtain ⟨i, hi, e⟩ := List.mem_map.mp (show d ∈ (List.range n).map fun (i : Nat) => D.int (0 + (i : Int)) from h)
  exact ⟨i, List.mem_range.mp hi, by rw [← e, Int.zero_add]⟩
theorem wRng1_ok {n : Int} {mu : List MO} (h : -16777216 ≤ n ∧ n ≤ 16777216) : wRng1 [.int n] mu = .ok (rngD 0 n.toNat, []) mu := by
  show ((toI (.int n) : M Int) >>= fun n => (need (-16777216 ≤ n ∧ n ≤ 16777216) : M Unit) >>= fun _ => (pure (rngD 0 n.toNat, []) : M Wk)) mu = _
  rw [bind_ap, toI_int]
  show ((need (-16777216 ≤ n ∧ n ≤ 16777216) : M Unit) >>= fun _ => (pure (rngD 0 n.toNat, []) : M Wk)) mu = _
  rw [bind_ap, need_ap, if_pos h]
  rfl

/-! ### the law's own end -/
def spLaw (K : PySem.W.Frag) (n : Nat) : Sp := fun vs H Q _ => ∃ (a : Addr) (ns : List Int), vs = [.ref a] ∧ Only H ∧ SqL K H a (ns.map V.int) ∧ ns.length ≤ n ∧ ∀ H', Q (.bl true) H'
theorem law_of {P : Program} {w : World} {K : PySem.W.Frag} {mg : Str → Option Value} {base : Heap} {k n : Nat} {f : Addr} {fd : FuncData} {ps : List Str} {den : List D → M Rv} (F : FnOk P w K mg base CX0 k f fd ps (sp K mg 1 den))
    (h : ∀ cs : List Int, cs.length ≤ n → ∃ mu', den [.ro (cs.map .int)] [] = .ok (.vl (.bl true)) mu') : FnOk P w K mg base CX0 k f fd ps (spLaw K n) := F.imp fun vs H Q E ⟨a, ns, e, hO, hS, hl, q⟩ => by
  subst e
  have hro : RoAt K H a (ns.map V.int) := by
    rcases hS with (hS | ⟨o, hS⟩) | hS
    · rcases hO a with z | ⟨o, xs, z⟩
      · rw [z] at hS; cases hS
      · rw [z] at hS; cases hS
    · exact .inl ⟨o, hS⟩
    · exact .inr hS
  obtain ⟨mu', e⟩ := h ns hl
  refine ⟨rfl, [.ro (ns.map .int)], ⟨[], []⟩, [], Reps.one (by simp only [Rep]; exact ⟨a, _, rfl, hro, Reps.of_ints.mpr rfl⟩), ⟨rfl, List.nodup_nil, fun _ z => by simp at z, fun _ z => by simp at z, fun _ _ _ z _ => by simp at z⟩, ?_⟩
  rw [e]
  intro m' H' _ _ v rv
  simp only [Rep] at rv
  subst rv
  exact q H'
theorem walkM {l : PySem.W.OpenLaw} {n k : Nat} {q : Program} {loose : List Str} {XP : (Str → Option Value) → Heap → Prop} {YP : World → Heap → Prop} {d : DefRec} {K : Params → PySem.W.Frag} (hn : l.most = some n) (hn2 : n ≤ sizeLine) (hdf : d.params.defaults = []) (hr : Room k callerA)
    (hY : ∀ (w : World) (h : Heap), YP w h → (K w.params).In h)
    (F : ∀ (w : World) (mg : Str → Option Value) (fa : Addr) (h : Heap), (K w.params).In h → h.Ns mainGlobals mg → mg d.name = some (.ref fa) →
      ∃ fd : FuncData, (∀ (s : Shared) (u : Value), BindsTo s fd ⟨[u], []⟩ [("script", u)]) ∧ ∀ base : Heap, (K w.params).In base → base.Ns mainGlobals mg → FnOk l.prog w (K w.params) mg base CX0 k fa fd ["script"] (spLaw (K w.params) n)) :
    PySem.W.WalkO q loose XP YP l.row.toRowW d [] (fun f vs => PySem.call f vs) :=
  L2.walk_of (n := n) (k := k) (x := "script") (CX := fun _ => CX0) (sp := fun w => spLaw (K w.params) n) hn hn2 hdf hr hY F (fun _ _ a ns hl hO hS => ⟨a, ns, rfl, hO, hS, hl, fun _ => rfl⟩) fun _ _ _ _ _ z => z
end MP
namespace MP
open PySem L2 PyProof.Rows
section
variable {X : Cx} {W : Wx} {e o a b c value i : Expr} {st : Stmt} {es : List Expr} {pos apos cpos tpos p pos' : Pos}
/-! ### a module's texts and numbers -/
theorem me_gstr {x z : Str} {t : Tok} (hg : Gl X x) (hm : X.mg x = some (.str z t)) (hd : (x == ("__debug__" : Str)) = false := by decide) : ME X W (.Name x pos) (eC (.str z)) := me_c (pe_glob hg hm (v := .str z) ⟨t, rfl⟩ hd) fun m H => by simp only [Rep]
theorem me_gint {x : Str} {z : Int} {t : Tok} (hg : Gl X x) (hm : X.mg x = some (.int z t)) (hd : (x == ("__debug__" : Str)) = false := by decide) : ME X W (.Name x pos) (eC (.int z)) := me_c (pe_glob hg hm (v := .int z) ⟨t, rfl⟩ hd) fun m H => by simp only [Rep]
/-! ### what is never reached -/
def sBad : Env → M Fl := fun _ => bad
theorem ms_never : MS X W st sBad := ⟨ps_never.imp fun D σ H ⟨env, m, mu, hE, hR, hp⟩ => (show False from hp).elim⟩
/-! ### is True, is not True -/
def gIsB (neg : Bool) (x y : D) : M D := toB x >>= fun i => toB y >>= fun j => pure (.bl (decide (i = j) != neg))
def rIsBM (neg : Bool) : R2 := fun x y H Q => ∃ a b : Bool, x = .bl a ∧ y = .bl b ∧ Q (.bl (decide (a = b) != neg)) H
theorem op_isBM : OpR X (compareOp .Is) (rIsBM false) := fun pins s σ H x y v u Q I rx ry h => op_isBl pins s σ H x y v u Q I rx ry (by
  obtain ⟨a, b, e1, e2, q⟩ := h
  rw [Bool.bne_false] at q
  exact ⟨a, b, e1, e2, q⟩)
theorem op_notBM : OpR X (compareOp .IsNot) (rIsBM true) := fun pins s σ H x y v u Q I rx ry h => op_notBl pins s σ H x y v u Q I rx ry (by
  obtain ⟨a, b, e1, e2, q⟩ := h
  rw [Bool.bne_true] at q
  exact ⟨a, b, e1, e2, q⟩)
theorem opm_isB {neg : Bool} : OpM X.K W (rIsBM neg) (gIsB neg) := ⟨fun x y v w m mu H Q rl hx hy hp => by
  obtain ⟨i, rfl, rfl, hp⟩ := toB_ok rl hx (Post.bind hp)
  obtain ⟨j, rfl, rfl, hp⟩ := toB_ok rl hy (Post.bind hp)
  exact ⟨i, j, rfl, rfl, Post.pure hp rl _ (by simp only [Rep])⟩⟩
/-! ### <=, >=, > of ints or texts -/
def gOrd (f : Int → Int → Bool) (g : Str → Str → Bool) : D → D → M D
  | .str x, y => do
    let z ← toS y
    pure (.bl (g x z))
  | x, y => gCmp f x y
def rOrd (f : Int → Int → Bool) (g : Str → Str → Bool) : R2 := fun x y H Q => rI0 (fun i j => .bl (f i j)) x y H Q ∨ ∃ i j, x = .str i ∧ y = .str j ∧ Q (.bl (g i j)) H
theorem opm_ord {f : Int → Int → Bool} {g : Str → Str → Bool} : OpM X.K W (rOrd f g) (gOrd f g) := ⟨fun x y v w m mu H Q rl hx hy hp => by
  cases x
  case str z =>
    obtain ⟨j, rfl, rfl, hp⟩ := toS_ok rl hy (Post.bind hp)
    simp only [Rep] at hx
    exact .inr ⟨z, j, hx, rfl, Post.pure hp rl _ (by simp only [Rep])⟩
  all_goals exact .inl (opm_cmp.go _ _ _ _ _ _ _ _ rl hx hy hp)⟩
def gLe : D → D → M D := gOrd (fun i j => decide (i ≤ j)) fun x y => !decide (y.cps.toList < x.cps.toList)
def gGe : D → D → M D := gOrd (fun i j => decide (j ≤ i)) fun x y => !decide (x.cps.toList < y.cps.toList)
def gGt : D → D → M D := gOrd (fun i j => decide (j < i)) fun x y => decide (y.cps.toList < x.cps.toList)
theorem op_leM : OpR X (compareOp .LtE) (rOrd (fun i j => decide (i ≤ j)) fun x y => !decide (y.cps.toList < x.cps.toList)) := op_le.or op_le_str
theorem op_geM : OpR X (compareOp .GtE) (rOrd (fun i j => decide (j ≤ i)) fun x y => !decide (x.cps.toList < y.cps.toList)) := op_ge.or op_ge_str
theorem op_gtM : OpR X (compareOp .Gt) (rOrd (fun i j => decide (j < i)) fun x y => decide (y.cps.toList < x.cps.toList)) := op_gt.or op_gt_str
/-! ### a test that is a value's truth -/
def truD : D → M Bool
  | .non => pure false
  | .bl b => pure b
  | .int i => pure (i != 0)
  | .str z => need (z.length ≤ sizeLine) >>= fun _ => pure ((z.length : Int) != 0)
  | .fd _ xs => pure (!xs.isEmpty)
  | .ref n => fun mu => match mu[n]? with
    | some (.lst xs) => .ok (!xs.isEmpty) mu
    | some (.dk kvs) => .ok (!kvs.isEmpty) mu
    | none => .bad
  | d => rdQ d >>= fun xs => pure (!xs.isEmpty)
def bTru (r : Env → M D) : Env → M Bool := fun env => r env >>= truD
theorem empty_len {α β : Type} {xs : List α} {ys : List β} (h : xs.length = ys.length) : xs.isEmpty = ys.isEmpty := by
  cases xs <;> cases ys <;> simp at h <;> rfl
theorem truD_ok {K : PySem.W.Frag} {W : Wx} {m : Mp} {H : Hp} {mu : List MO} {d : D} {v : V} {Q : Bool → Mp → List MO → Hp → Prop} (R : Rel K m mu H) (h : Rep K m H d v) (hp : Post K W m H (truD d mu) Q) : ∃ k, TruV K v H k ∧ Q k m mu H := by
  have seq : ∀ d, Rep K m H d v → Post K W m H ((rdQ d >>= fun xs => pure (!xs.isEmpty)) mu) Q → ∃ k, TruV K v H k ∧ Q k m mu H := fun d h hp => by
    obtain ⟨a, xs, vs, rfl, hs, hr, hp⟩ := rdQ_ok R h (Post.bind hp)
    rcases hs with hs | hs
    · exact ⟨_, .inl ⟨vs, hs, rfl⟩, by rw [← empty_len hr.length]; exact Post.pure hp R⟩
    · exact ⟨_, .inr (.inl ⟨vs, hs, rfl⟩), by rw [← empty_len hr.length]; exact Post.pure hp R⟩
  cases d
  case non => simp only [Rep] at h; subst h; exact ⟨_, rfl, Post.pure hp R⟩
  case bl b => simp only [Rep] at h; subst h; exact ⟨_, rfl, Post.pure hp R⟩
  case int b => simp only [Rep] at h; subst h; exact ⟨_, rfl, Post.pure hp R⟩
  case str b =>
    obtain ⟨c, hp⟩ := need_ok R (Post.bind hp)
    simp only [Rep] at h; subst h; exact ⟨_, ⟨c, rfl⟩, Post.pure hp R⟩
  case fd ks xs =>
    simp only [Rep] at h
    obtain ⟨a, vs, rfl, hs, _, hl, hr⟩ := h
    refine ⟨_, .inr (.inr ⟨_, hs, rfl⟩), ?_⟩
    rw [show (ks.zip vs).isEmpty = xs.isEmpty from empty_len (by rw [List.length_zip, ← hr.length, hl, Nat.min_self])]
    exact Post.pure hp R
  case ref n =>
    simp only [Rep] at h
    obtain ⟨a, rfl, hm⟩ := h
    obtain ⟨o, ho, hr⟩ := R.at' hm
    have e : truD (.ref n) mu = (match mu[n]? with
      | some (.lst xs) => MP.R.ok (!xs.isEmpty) mu
      | some (.dk kvs) => .ok (!kvs.isEmpty) mu
      | none => .bad) := rfl
    rw [e, ho] at hp
    cases o with
    | lst xs =>
      obtain ⟨vs, hH, hr⟩ := hr
      exact ⟨_, .inl ⟨vs, .of hH, rfl⟩, by rw [← empty_len hr.length]; exact hp m H .refl R⟩
    | dk kvs =>
      obtain ⟨vs, hH, hr⟩ := hr
      have hl := hr.length
      rw [List.length_map] at hl
      refine ⟨_, .inr (.inr ⟨_, hH, rfl⟩), ?_⟩
      rw [show ((kvs.map (·.1)).zip vs).isEmpty = kvs.isEmpty from empty_len (by rw [List.length_zip, List.length_map, ← hl, Nat.min_self])]
      exact hp m H .refl R
  all_goals exact seq _ h hp
theorem mt_truth {r : Env → M D} (h : ME X W a r) (he : ∀ whole, isTrue a X.env whole = (do let v ← whole; standAt a.pos; holding [v] (truthy v)) := by intro _; rfl) : MT X W a (bTru r) :=
  ⟨(pt_truth h.pe he).imp fun σ H Q ⟨env, m, mu, hE, hR, hp⟩ => ⟨env, m, mu, hE, hR, (Post.bind hp).mono fun d m1 mu1 H1 g1 R1 hp v rv => truD_ok R1 rv hp⟩⟩
end
end MP
namespace MP
open PySem L2 PyProof.Rows
/-! ### dict comprehensions -/
/-- a dict that was not there ahead of H -/
def NewDk (K : PySem.W.Frag) (H : Hp) (kvs : List (Key × D)) (m' : Mp) (mu' : List MO) (H' : Hp) (Q : VK) : Prop :=
  ∀ a vs, H a = none → H' a = some (.dK ((kvs.map (·.1)).zip vs)) → m'.Out a → Reps K m' H' (kvs.map (·.2)) vs → Rel K (m'.add a) (mu' ++ [.dk kvs]) H' → Q (.ref a) H'
def tK (K : PySem.W.Frag) (W : Wx) (r : Env → M (List (Key × D))) : TE := fun σ H Q => ∃ env m mu, RepE K m H env σ ∧ Rel K m mu H ∧ Post K W m H (r env mu) fun kvs m' mu' H' => NewDk K H kvs m' mu' H' Q
noncomputable def loopCD (asg : D → Env → M Env) (t : Env → M Bool) (rk r : Env → M D) (g : List (Nat × List D)) : List D → Env → List (Key × D) → M (List (Key × D))
  | [], _, acc => chk g >>= fun _ => pure acc
  | d :: ds, env, acc => chk g >>= fun _ => asg d env >>= fun env1 => t env1 >>= fun b => if b = true then (rk env1 >>= fun y => r env1 >>= fun x => toK y >>= fun k => loopCD asg t rk r g ds env (putD acc k x)) else loopCD asg t rk r g ds env acc
/-- {key: value for .. in .. if ..}; vs: the slots of the comprehension's own names -/
noncomputable def kComp (w : Env → M Wk) (asg : D → Env → M Env) (t : Env → M Bool) (rk r : Env → M D) (vs : List Nat) : Env → M (List (Key × D)) := fun env => w env >>= fun p => noX (loopCD asg t rk r p.2 p.1 (wipeE env vs) [])
theorem toK_at {K : PySem.W.Frag} {W : Wx} {m m0 : Mp} {H H0 : Hp} {mu : List MO} {d : D} {v : V} {α : Type} {f : Key → M α} {Q : α → Mp → List MO → Hp → Prop} (h : Rep K m H d v) (hp : Post K W m0 H0 ((toK d >>= f) mu) Q) : ∃ k, v = kV k ∧ Post K W m0 H0 (f k mu) Q := by
  cases d
  case int i => simp only [Rep] at h; exact ⟨.inl i, h, hp⟩
  case str i => simp only [Rep] at h; exact ⟨.inr i, h, hp⟩
  all_goals exact (show False from hp).elim
section
variable {X : Cx} {W : Wx} {e o a b tg iter elt kx vx : Expr} {es ifs : List Expr} {pos apos cpos p : Pos}
/-- the comprehension's dict, for its reading -/
theorem comp_goD {wi : TI} {vs l : List Nat} {w : Env → M Wk} {asg : D → Env → M Env} {t : Env → M Bool} {rk r : Env → M D} (hl : ∀ i ∈ l, i ∈ vs) (hwi : wi = tI X.K W w) : ∀ σ H Q, tK X.K W (kComp w asg t rk r vs) σ H Q → tDc wi (tG X.K W0 l asg) (tT X.K W0 t) (tE X.K W0 rk) (tE X.K W0 r) vs σ H Q := by
  subst hwi
  rintro σ H Q ⟨env, m, mu, hE, hR, hp⟩
  refine ⟨env, m, mu, hE, hR, (Post.bind hp).mono fun p m1 mu1 H1 g1 R1 hp0 hz J ok => ?_⟩
  have hp0 := noX_post hp0
  intro Dd hDn
  have hdead : ∀ b o, H1 b = some o → b ≠ Dd := fun b o e z => by rw [z, hDn] at e; cases e
  have hD0 : H Dd = none := g1.none_of hDn
  refine ⟨fun i k H2 => ∃ (rest : List D) (acc : List (Key × D)) (vs2 : List V) (m2 : Mp) (mu2 : List MO), k = rest.length ∧ p.1.drop i = rest ∧ acc.length ≤ i ∧ H2 Dd = some (.dK ((acc.map (·.1)).zip vs2)) ∧ Dd ∈ m2.no ∧ Dd ∉ m2.ad ∧ Reps X.K m2 H2 (acc.map (·.2)) vs2 ∧ Rel X.K m2 mu2 H2 ∧ RepE X.K m2 H2 (wipeE env vs) (L2.wipe σ vs) ∧ Grow m1 m2 H1 H2 ∧
      Post X.K W0 m1 H1 (loopCD asg t rk r p.2 rest (wipeE env vs) acc mu2) fun xs m' mu' H' => NewDk X.K H xs m' mu' H' Q, ⟨_, p.1, [], [], m1.shut Dd, mu1, rfl, rfl, Nat.le_refl _, upd_same, by simp [Mp.shut], ?_, Reps.nil_iff.mpr rfl, ?_, ?_, ?_, ?_⟩, ?_⟩
  · exact (R1.free hDn).1
  · have g : Grow m1 m1 H1 (upd H1 Dd (.dK [])) := .laid hDn
    have kp : Keep m1 (m1.shut Dd) H1 (upd H1 Dd (.dK [])) := ⟨fun _ _ h => h, fun a o h n => ⟨by rw [upd_ne (hdead a o h)]; exact h, n.1, fun z => by
      rcases List.mem_append.mp z with z | z
      · exact n.2 z
      · exact hdead a o h (List.mem_singleton.mp z)⟩, g.tups, g.frzs⟩
    refine ⟨R1.len, R1.nd, fun a ha => ?_, fun a ha z => ?_, fun n o a h1 h2 => (R1.obj n o a h1 h2).keep kp fun u q => by rw [upd_ne (hdead a u q)]; exact q⟩
    · rcases List.mem_append.mp ha with z | z
      · exact g.trk a _ (R1.nos a z).choose_spec
      · rw [List.mem_singleton.mp z]; exact ⟨_, upd_same⟩
    · rcases List.mem_append.mp z with z | z
      · exact R1.dj a ha z
      · exact (R1.free hDn).1 (by rw [← List.mem_singleton.mp z]; exact ha)
  · have g : Grow m1 m1 H1 (upd H1 Dd (.dK [])) := .laid hDn
    have kp : Keep m1 (m1.shut Dd) H1 (upd H1 Dd (.dK [])) := ⟨fun _ _ h => h, fun a o h n => ⟨by rw [upd_ne (hdead a o h)]; exact h, n.1, fun z => by
      rcases List.mem_append.mp z with z | z
      · exact n.2 z
      · exact hdead a o h (List.mem_singleton.mp z)⟩, g.tups, g.frzs⟩
    exact ((hE.grow g1).wipe vs).keep kp
  · have g : Grow m1 m1 H1 (upd H1 Dd (.dK [])) := .laid hDn
    exact ⟨⟨[], [Dd], by simp [Mp.shut], rfl, by simp, fun a ha => by rw [List.mem_singleton.mp ha]; exact hDn⟩, g.oth, g.tups, g.frzs, g.trk⟩
  · exact hp0
  rintro i k H2 ⟨rest, acc, vs2, m2, mu2, rfl, hd, ha, hH2, hno, had, hacc, R2, hE2, g2, hp2⟩
  cases rest with
  | nil =>
    have e0 : loopCD asg t rk r p.2 [] (wipeE env vs) acc mu2 = M.bind (chk p.2) (fun _ => pure acc) mu2 := rfl
    rw [e0] at hp2
    unfold M.bind at hp2
    have hch : ∀ q ∈ p.2, mu2[q.1]? = some (.lst q.2) := by
      unfold chk at hp2
      by_cases z : ∀ q ∈ p.2, mu2[q.1]? = some (.lst q.2)
      · exact z
      · rw [if_neg z] at hp2; exact (show False from hp2).elim
    have ec : chk p.2 mu2 = .ok () mu2 := by unfold chk; rw [if_pos hch]
    rw [ec] at hp2
    refine .inl ⟨((ok m2 mu2 H2 g2.keep R2 hch).1 i) (by rw [List.drop_eq_nil_iff] at hd; exact hd), ?_⟩
    obtain ⟨l', k', e1, e2, hl', hk'⟩ := g2.ext
    have n1 : Dd ∉ m1.no := (R1.free hDn).2
    have kp : ∀ m3 : Mp, (∀ n a, m2.ad[n]? = some a → m3.ad[n]? = some a) → (∀ a, m2.Out a → m3.Out a) → Keep m2 m3 H2 H2 := fun m3 h1 h2 => ⟨h1, fun a o h n => ⟨h, h2 a n⟩, fun _ _ h => h, fun _ _ _ h => h⟩
    have k3 : Keep m2 ⟨m2.ad, m1.no⟩ H2 H2 := kp _ (fun _ _ h => h) fun a n => ⟨n.1, fun z => n.2 (by rw [e2]; exact List.mem_append_left _ z)⟩
    have g3 : Grow m1 ⟨m2.ad, m1.no⟩ H1 H2 := ⟨⟨l', [], e1, by simp, hl', by simp⟩, g2.oth, g2.tups, g2.frzs, g2.trk⟩
    have R3 : Rel X.K ⟨m2.ad, m1.no⟩ mu2 H2 := ⟨R2.len, R2.nd, fun a z => R2.nos a (by rw [e2]; exact List.mem_append_left _ z), fun a ha z => R2.dj a ha (by rw [e2]; exact List.mem_append_left _ z), fun n o a h1 h2 => (R2.obj n o a h1 h2).keep k3 fun _ q => q⟩
    have k4 : Keep m2 ((⟨m2.ad, m1.no⟩ : Mp).add Dd) H2 H2 := kp _ (fun n a h => by
      show (m2.ad ++ [Dd])[n]? = some a
      rw [List.getElem?_append_left (List.getElem?_eq_some_iff.mp h).1]; exact h) fun a n => ⟨fun z => by
        rcases List.mem_append.mp z with z | z
        · exact n.1 z
        · exact n.2 (by rw [List.mem_singleton.mp z]; exact hno), fun z => n.2 (by rw [e2]; exact List.mem_append_left _ z)⟩
    have q := hp2 ⟨m2.ad, m1.no⟩ H2 g3 R3 Dd vs2 hD0 hH2 ⟨had, n1⟩ (Reps.keep k3 _ vs2 hacc)
    refine q ?_
    refine ⟨by show (m2.ad ++ [Dd]).length = _; rw [List.length_append, List.length_append, R2.len]; rfl, ?_, fun a z => R3.nos a z, fun a ha z => ?_, fun n ob b h1 h2 => ?_⟩
    · show (m2.ad ++ [Dd]).Nodup
      rw [List.nodup_append]
      refine ⟨R2.nd, by simp, fun x hx y hy => ?_⟩
      rw [List.mem_singleton.mp hy]
      rintro rfl
      exact had hx
    · rcases List.mem_append.mp (show a ∈ m2.ad ++ [Dd] from ha) with z' | z'
      · exact R3.dj a z' z
      · exact n1 (by rw [← List.mem_singleton.mp z']; exact z)
    · have h2 : (m2.ad ++ [Dd])[n]? = some b := h2
      by_cases h : n < mu2.length
      · rw [List.getElem?_append_left h] at h1
        rw [List.getElem?_append_left (by rw [R2.len]; exact h)] at h2
        exact (R2.obj n ob b h1 h2).keep k4 fun _ q => q
      · by_cases hl : n = mu2.length
        · subst hl
          rw [List.getElem?_append_right (Nat.le_refl _), Nat.sub_self] at h1
          rw [List.getElem?_append_right (by rw [R2.len]; exact Nat.le_refl _), ← R2.len, Nat.sub_self] at h2
          cases h1
          cases h2
          exact ⟨vs2, hH2, Reps.keep k4 _ vs2 hacc⟩
        · rw [List.getElem?_eq_none (by rw [List.length_append]; simp only [List.length_cons, List.length_nil]; omega)] at h1
          cases h1
  | cons d ds =>
    have e0 : loopCD asg t rk r p.2 (d :: ds) (wipeE env vs) acc mu2 = M.bind (chk p.2) (fun _ => M.bind (asg d (wipeE env vs)) fun env1 => M.bind (t env1) fun b => if b = true then (rk env1 >>= fun y => r env1 >>= fun x => toK y >>= fun k => loopCD asg t rk r p.2 ds (wipeE env vs) (putD acc k x)) else loopCD asg t rk r p.2 ds (wipeE env vs) acc) mu2 := rfl
    rw [e0] at hp2
    unfold M.bind at hp2
    have hch : ∀ q ∈ p.2, mu2[q.1]? = some (.lst q.2) := by
      unfold chk at hp2
      by_cases z : ∀ q ∈ p.2, mu2[q.1]? = some (.lst q.2)
      · exact z
      · rw [if_neg z] at hp2; exact (show False from hp2).elim
    have ec : chk p.2 mu2 = .ok () mu2 := by unfold chk; rw [if_pos hch]
    rw [ec] at hp2
    dsimp only at hp2
    have hdi : p.1[i]? = some d := by
      have e : (p.1.drop i)[0]? = some d := by rw [hd]; rfl
      rw [List.getElem?_drop] at e
      simpa using e
    have hds : p.1.drop (i + 1) = ds := by
      have e := congrArg List.tail hd
      rw [List.tail_drop] at e
      exact e
    have hil : i < p.1.length := (List.getElem?_eq_some_iff.mp hdi).1
    obtain ⟨go, yl⟩ := (ok m2 mu2 H2 g2.keep R2 hch).2 i d hdi
    -- the turn's end: nothing is added, or a datum
    have fin : ∀ (acc' : List (Key × D)) (vs' : List V) (m3 : Mp) (mu3 : List MO) (H3 : Hp), acc'.length ≤ i + 1 → H3 Dd = some (.dK ((acc'.map (·.1)).zip vs')) → Dd ∈ m3.no → Dd ∉ m3.ad → Reps X.K m3 H3 (acc'.map (·.2)) vs' → Rel X.K m3 mu3 H3 → RepE X.K m3 H3 (wipeE env vs) (L2.wipe σ vs) → Grow m1 m3 H1 H3 →
        (Post X.K W0 m1 H1 (loopCD asg t rk r p.2 ds (wipeE env vs) acc' mu3) fun xs m' mu' H' => NewDk X.K H xs m' mu' H' Q) → ∃ m', m' < (d :: ds).length ∧ ∃ (rest : List D) (acc : List (Key × D)) (vs2 : List V) (m2 : Mp) (mu2 : List MO), m' = rest.length ∧ p.1.drop (i + 1) = rest ∧ acc.length ≤ i + 1 ∧ H3 Dd = some (.dK ((acc.map (·.1)).zip vs2)) ∧ Dd ∈ m2.no ∧ Dd ∉ m2.ad ∧ Reps X.K m2 H3 (acc.map (·.2)) vs2 ∧ Rel X.K m2 mu2 H3 ∧ RepE X.K m2 H3 (wipeE env vs) (L2.wipe σ vs) ∧ Grow m1 m2 H1 H3 ∧
      Post X.K W0 m1 H1 (loopCD asg t rk r p.2 rest (wipeE env vs) acc mu2) fun xs m' mu' H' => NewDk X.K H xs m' mu' H' Q := fun acc' vs' m3 mu3 H3 a1 a2 a3 a4 a5 a6 a7 a8 a9 =>
      ⟨ds.length, Nat.lt_succ_self _, ds, acc', vs', m3, mu3, rfl, hds, a1, a2, a3, a4, a5, a6, a7, a8, a9⟩
    refine .inr ⟨go, fun H3 => ∃ m', m' < (d :: ds).length ∧ ∃ (rest : List D) (acc : List (Key × D)) (vs2 : List V) (m2 : Mp) (mu2 : List MO), m' = rest.length ∧ p.1.drop (i + 1) = rest ∧ acc.length ≤ i + 1 ∧ H3 Dd = some (.dK ((acc.map (·.1)).zip vs2)) ∧ Dd ∈ m2.no ∧ Dd ∉ m2.ad ∧ Reps X.K m2 H3 (acc.map (·.2)) vs2 ∧ Rel X.K m2 mu2 H3 ∧ RepE X.K m2 H3 (wipeE env vs) (L2.wipe σ vs) ∧ Grow m1 m2 H1 H3 ∧
      Post X.K W0 m1 H1 (loopCD asg t rk r p.2 rest (wipeE env vs) acc mu2) fun xs m' mu' H' => NewDk X.K H xs m' mu' H' Q, fun H3 h => h, fun x H3 y => ?_⟩
    obtain ⟨gy, Ry, rx⟩ := yl x H3 y
    refine ⟨d, wipeE env vs, m2, mu2, hE2.grow gy, Ry, rx, ?_⟩
    have stay : ∀ (m3 : Mp) (H4 : Hp), Grow m2 m3 H2 H4 → H4 Dd = some (.dK ((acc.map (·.1)).zip vs2)) ∧ Dd ∈ m3.no ∧ Dd ∉ m3.ad := fun m3 H4 g => by
      obtain ⟨l', k', e1, e2, _, _⟩ := g.ext
      exact ⟨g.oth Dd _ hH2 had, by rw [e2]; exact List.mem_append_left _ hno, g.notin hH2 had⟩
    cases ha1 : asg d (wipeE env vs) mu2 with
    | bad => rw [ha1] at hp2; exact (show False from hp2).elim
    | exc ex mu4 => rw [ha1] at hp2; exact fun m4 H4 g4 R4 => hp2 m4 H4 ((g2.trans gy).trans g4) R4
    | ok env1 mu4 =>
      rw [ha1] at hp2
      dsimp only at hp2
      intro m4 H4 g4 R4 σ2 hE4 off
      refine ⟨wipe_off off hl, env1, m4, mu4, hE4, R4, ?_⟩
      cases ht1 : t env1 mu4 with
      | bad => rw [ht1] at hp2; exact (show False from hp2).elim
      | exc ex mu5 => rw [ht1] at hp2; exact fun m5 H5 g5 R5 => hp2 m5 H5 (((g2.trans gy).trans g4).trans g5) R5
      | ok b mu5 =>
        rw [ht1] at hp2
        dsimp only at hp2
        intro m5 H5 g5 R5
        have g25 : Grow m2 m5 H2 H5 := (gy.trans g4).trans g5
        cases b with
        | false =>
          simp only [Bool.false_eq_true, if_false] at hp2 ⊢
          obtain ⟨s1, s2, s3⟩ := stay m5 H5 g25
          exact fin acc vs2 m5 mu5 H5 (Nat.le_succ_of_le ha) s1 s2 s3 (Reps.grow g25 _ vs2 hacc) R5 (hE2.grow g25) (g2.trans g25) hp2
        | true =>
          simp only [if_true] at hp2 ⊢
          refine ⟨env1, m5, mu5, hE4.grow g5, R5, ?_⟩
          have hp2 : Post X.K W0 m1 H1 (M.bind (rk env1) (fun y => M.bind (r env1) fun x => M.bind (toK y) fun k => loopCD asg t rk r p.2 ds (wipeE env vs) (putD acc k x)) mu5) fun xs m' mu' H' => NewDk X.K H xs m' mu' H' Q := hp2
          unfold M.bind at hp2
          cases hr0 : rk env1 mu5 with
          | bad => rw [hr0] at hp2; exact (show False from hp2).elim
          | exc ex mu6 => rw [hr0] at hp2; exact fun m6 H6 g6 R6 => hp2 m6 H6 ((g2.trans g25).trans g6) R6
          | ok kd mu5b =>
          rw [hr0] at hp2
          dsimp only at hp2
          intro m5b H5b g5b R5b kv rkv
          have g25b : Grow m2 m5b H2 H5b := g25.trans g5b
          refine ⟨env1, m5b, mu5b, (hE4.grow g5).grow g5b, R5b, ?_⟩
          cases hr1 : r env1 mu5b with
          | bad => rw [hr1] at hp2; exact (show False from hp2).elim
          | exc ex mu6 => rw [hr1] at hp2; exact fun m6 H6 g6 R6 => hp2 m6 H6 ((g2.trans g25b).trans g6) R6
          | ok yd mu6 =>
            rw [hr1] at hp2
            dsimp only at hp2
            intro m6 H6 g6 R6 v rv
            have g26 : Grow m2 m6 H2 H6 := g25b.trans g6
            obtain ⟨s1, s2, s3⟩ := stay m6 H6 g26
            have hlen := hacc.length
            have hp3 : Post X.K W0 m1 H1 ((toK kd >>= fun k => loopCD asg t rk r p.2 ds (wipeE env vs) (putD acc k yd)) mu6) fun xs m' mu' H' => NewDk X.K H xs m' mu' H' Q := hp2
            obtain ⟨kk, rfl, hp4⟩ := toK_at (Rep.grow g6 kd kv rkv) hp3
            obtain ⟨ws, ew, hws⟩ := put_rep (k := kk) (Reps.grow g26 _ vs2 hacc) rv
            refine ⟨_, kk, rfl, s1, by rw [List.length_zip, List.length_map]; rw [List.length_map] at hlen; omega, ?_⟩
            rw [ew]
            have nD : ∀ b o, H6 b = some o → m6.Out b → b ≠ Dd := fun b o _ n z => n.2 (by rw [z]; exact s2)
            have kp : Keep m6 m6 H6 (upd H6 Dd (.dK (((putD acc kk yd).map (·.1)).zip ws))) := ⟨fun _ _ h => h, fun a o h n => ⟨by rw [upd_ne (nD a o h n)]; exact h, n⟩, fun a xs h => by rw [upd_ne (fun z => by rw [z, s1] at h; cases h)]; exact h, fun a u xs h => by rw [upd_ne (fun z => by rw [z, s1] at h; cases h)]; exact h⟩
            have g6f : Grow m1 m6 H1 (upd H6 Dd (.dK (((putD acc kk yd).map (·.1)).zip ws))) := by
              have g16 := g2.trans g26
              refine ⟨g16.ext, fun a o h n => ?_, fun a xs h => ?_, fun a o u h => ?_, fun a o h => ?_⟩
              · rw [upd_ne (hdead a o h)]; exact g16.oth a o h n
              · rw [upd_ne (hdead a _ h)]; exact g16.tups a xs h
              · rw [upd_ne (hdead a _ h)]; exact g16.frzs a o u h
              · rw [upd_ne (hdead a o h)]; exact g16.trk a o h
            refine fin (putD acc kk yd) ws m6 mu6 _ (by have := length_put (kvs := acc) (k := kk) (y := yd); omega) upd_same s2 s3 (hws m6 _ (Reps.keep kp _ vs2 (Reps.grow g26 _ vs2 hacc)) (Rep.keep kp yd v rv)) ?_ ((hE2.grow g26).keep kp) g6f hp4
            refine ⟨R6.len, R6.nd, fun a z => ?_, R6.dj, fun n ob a h1 h2 => (R6.obj n ob a h1 h2).keep kp fun u q => ?_⟩
            · by_cases za : a = Dd
              · subst za; exact ⟨_, upd_same⟩
              · rw [upd_ne za]; exact R6.nos a z
            · rw [upd_ne (fun z => s3 (by rw [← z]; exact List.mem_of_getElem? h2))]; exact q

def eNewK (r : Env → M (List (Key × D))) : Env → M D := fun env => r env >>= fun kvs => alloc (.dk kvs)
def eFd (r : Env → M (List (Key × D))) : Env → M D := fun env => r env >>= fun kvs => pure (.fd (kvs.map (·.1)) (kvs.map (·.2)))
theorem newK_go {r : Env → M (List (Key × D))} : ∀ σ H Q, tE X.K W (eNewK r) σ H Q → tK X.K W r σ H Q := fun σ H Q ⟨env, m, mu, hE, hR, hp⟩ => by
  refine ⟨env, m, mu, hE, hR, ?_⟩
  have e0 : eNewK r env mu = M.bind (r env) (fun xs => alloc (.dk xs)) mu := rfl
  rw [e0] at hp
  unfold M.bind at hp
  cases hr : r env mu with
  | ok xs mu1 =>
    rw [hr] at hp
    intro m1 H1 g1 R1 a vs h0 h1 hn hrs ha
    have q := hp (m1.add a) H1 (g1.adopt h0) ha (.ref a)
    exact q (by simp only [Rep]; exact ⟨a, rfl, add_get R1⟩)
  | exc x mu1 => rw [hr] at hp; exact hp
  | bad => rw [hr] at hp; exact hp
theorem fd_go {r : Env → M (List (Key × D))} : ∀ σ H Q, tE X.K W (eFd r) σ H Q → tK X.K W r σ H Q := fun σ H Q ⟨env, m, mu, hE, hR, hp⟩ =>
  ⟨env, m, mu, hE, hR, (Post.bind hp).mono fun xs m1 mu1 H1 g1 R1 hp a vs h0 h1 hn hr _ => Post.pure hp R1 _ (by simp only [Rep]; exact ⟨a, vs, rfl, h1, hn, by rw [List.length_map, List.length_map], hr⟩)⟩
theorem me_compD {scope : Scope} {own : List (Str × Nat)} {w : Env → M Wk} {asg : D → Env → M Env} {t : Env → M Bool} {rk r rr : Env → M D} {l : List Nat} (hc : X.calm = true) (hN : X.N.Nodup) (hi : MI X W tg iter w) (ok : BlkOk X.N X.env.scope scope own) (hl : ∀ i ∈ l, i ∈ own.map (·.2))
    (hg : ∀ (s : Shared) (H : Hp) (C : Addr) (cl : List (Str × Addr)) (fp : List Addr), MG (X.blk s H scope (compEnvC scope cl C X.env) fp) W0 tg l asg) (ht : ∀ (s : Shared) (H : Hp) (C : Addr) (cl : List (Str × Addr)) (fp : List Addr), MTs (X.blk s H scope (compEnvC scope cl C X.env) fp) W0 ifs t)
    (hk : ∀ (s : Shared) (H : Hp) (C : Addr) (cl : List (Str × Addr)) (fp : List Addr), ME (X.blk s H scope (compEnvC scope cl C X.env) fp) W0 kx rk)
    (he : ∀ (s : Shared) (H : Hp) (C : Addr) (cl : List (Str × Addr)) (fp : List Addr), ME (X.blk s H scope (compEnvC scope cl C X.env) fp) W0 vx r)
    (hrr : ∀ σ H Q, tE X.K W rr σ H Q → tK X.K W (kComp w asg t rk r (own.map (·.2))) σ H Q) (hs : ∀ x, foldedSetIterable iter X.env x = pure x := by intro _; rfl) :
    ME X W (.DictComp kx vx [⟨tg, iter, ifs, 0⟩] scope pos) rr :=
  ⟨(pe_dc hc hN hi.pi ok (fun s H C cl fp => (hg s H C cl fp).pg) (fun s H C cl fp => (ht s H C cl fp).pt) (fun s H C cl fp => (hk s H C cl fp).pe) (fun s H C cl fp => (he s H C cl fp).pe) hs).imp fun σ H Q q => comp_goD hl rfl σ H Q (hrr σ H Q q)⟩
end
end MP
/-! ### name = {..} on one line; enumerate of a tuple -/
namespace L2
open PySem PySem.Spec PyProof.Rows
section
variable {X : Cx}
theorem ps_setDc {i : Nat} {y : Str} {py : Pos} {kx vx tg iter : Expr} {ifs : List Expr} {scope : Scope} {own : List (Str × Nat)} {pos spos : Pos} {wi : TI} {g : TG} {tt : TT} {tk tv : TE} (hc : X.calm = true) (hN : X.N.Nodup) (hy : X.N[i]? = some y) (hyl : X.env.scope.names.lookup y = some .local)
    (hsw : swapsWith (.DictComp kx vx [⟨tg, iter, ifs, 0⟩] scope pos) (some (.Name y py)) spos.line X.env = pure true) (hi : PI X tg iter wi) (ok : BlkOk X.N X.env.scope scope own)
    (hg : ∀ (s : Shared) (H : Hp) (C : Addr) (cl : List (Str × Addr)) (fp : List Addr), PG (X.blk s H scope (compEnvC scope cl C X.env) fp) tg g) (ht : ∀ (s : Shared) (H : Hp) (C : Addr) (cl : List (Str × Addr)) (fp : List Addr), PTs (X.blk s H scope (compEnvC scope cl C X.env) fp) ifs tt)
    (hk : ∀ (s : Shared) (H : Hp) (C : Addr) (cl : List (Str × Addr)) (fp : List Addr), PE (X.blk s H scope (compEnvC scope cl C X.env) fp) kx tk)
    (he : ∀ (s : Shared) (H : Hp) (C : Addr) (cl : List (Str × Addr)) (fp : List Addr), PE (X.blk s H scope (compEnvC scope cl C X.env) fp) vx tv) (hs : ∀ x, foldedSetIterable iter X.env x = pure x := by intro _; rfl) :
    PS X (.Assign [.Name y py] (.DictComp kx vx [⟨tg, iter, ifs, 0⟩] scope pos) spos) (tAsg (tDc wi g tt tk tv (own.map (·.2))) (gName i)) := by
  refine ⟨fun pins s σ H D I h => ?_⟩
  rw [exec_Assign_Name_used _ _ _ _ hsw]
  refine wpAny_bind (wpAny_standAt (wpAny_bind ?_))
  show wpAny _ X.A (do let _ ← comprehension (.DictComp kx vx [⟨tg, iter, ifs, 0⟩] scope pos) scope X.env (firstIterPos [⟨tg, iter, ifs, 0⟩] pos) newDict false (eval iter X.env) (some (assign (.Name y py) X.env))) _ _ s
  have h : tDc wi g tt tk tv (own.map (·.2)) σ H (fun x H1 => gName i x σ H1 D.nx) := h
  refine wpAny_bind (thn (dc_core (Qf := fun _ s' => SP X pins D .next s') hc hN I hi ok hg ht hk he hs h fun L C s' m H' I' q hn f => ?_) fun _ s' hq => wpAny_pure (wpAny_pure hq))
  show wpAny _ _ (assign (.Name y py) X.env (.ref L)) _ _ _
  refine wpAny_assign_Name (store_ok2 (v := V.ref L) I' hN hy (.inl hyl) rfl (fun s2 I2 ⟨a, sb, ha⟩ => ?_) (.inr hyl))
  obtain ⟨f0, f1, f2, f3, f4, f5⟩ := f
  have haC : C ≠ a := by
    rcases ha with z | z
    · rw [z]; exact f1
    · exact fun e => f4 y a z e.symm
  refine ⟨m, hn.sameBut sb haC, fun h3 sb3 => ?_⟩
  exact ⟨_, H', I2.turned (t' := s2.toks) (fun b o hb e => (sb3.2 b hb).trans e) f0 f1 f3 f4 f5, q⟩
theorem sw_trueD {kx vx : Expr} {gs : List Comprehension} {scope : Scope} {pos py : Pos} {y : Str} {l : Nat} {env : Env} (hk : env.scope.kind = .function) (hy : env.scope.names.lookup y = some .local) (hl : (py.line == pos.line) = true)
    (ha : (scope.names.any fun (n, k) => n == y && (k == .local || k == .cell)) = false) : swapsWith (.DictComp kx vx gs scope pos) (some (.Name y py)) l env = pure true := by
  have ky : env.kindOf y = some .local := hy
  have hb : env.blockKind = .function := by unfold Env.blockKind; rw [hk]; rfl
  unfold swapsWith
  simp only [hb, ky, ha, Expr.pos, hl]
  rfl
end
end L2
namespace PySem
open Sem (wp)
open AutoSeq1 (wpAny_loadPart')
theorem meets_enumerate_newT (l : Addr) (items : Array Value) (n : Nat) (dct : Option Addr) (sl : Array (Option Value)) :
    Meets (Builtin.«enumerate.__new__» ⟨[.type "enumerate", .ref l], []⟩) (fun _ R s => s.heap.get? l = some { cls := .type "tuple", dict := dct, data := .seq items n, slots := sl } ∧
      R (.ok (.ret (.ref (s.heap.push { cls := .type "tuple_iterator", data := .fields #[.ref l, .int 0 0] }).objs.size)))
        { s with heap := (s.heap.push { cls := .type "tuple_iterator", data := .fields #[.ref l, .int 0 0] }).push { cls := .type "enumerate", data := .fields #[.none, .bool false, .ref s.heap.objs.size, rawInt 0, .none, .none] } }) :=
  .of_wp fun prog w A R s h => by
    obtain ⟨hp, g, d, tk, os⟩ := s; obtain ⟨hl, h⟩ := h
    have hsub := sub_enumerate
    have hL : Heap.IsTuple (Shared.heap ⟨hp, g, d, tk, os⟩) l items := ⟨_, hl, rfl, n, rfl⟩
    wp_walk using wpAny_loadPart' hl
    refine wpAny_stack_any fun st => wpAny_pure ?_
    split
    · rename_i c _ _ _ _ _
      cases (c == Value.type "enumerate")
      · wp_walk using wpAny_loadPart' hl, wpAny_pyIter_tuple hL
        exact ⟨_, rfl, h⟩
      · wp_walk using wpAny_loadPart' hl, wpAny_pyIter_tuple hL
        exact ⟨_, rfl, h⟩
    · wp_walk using wpAny_loadPart' hl, wpAny_pyIter_tuple hL
      exact ⟨_, rfl, h⟩
theorem call_enumerate_tuple {prog : Program} {w : World} {A : Around} {E : Value → Shared → Prop} {s : Shared} {l : Addr} {items : Array Value} {Q : Value → Shared → Prop} (hL : s.heap.IsTuple l items)
    (h : ∀ h', IsEnum h' (s.heap.objs.size + 1) s.heap.objs.size 0 .none → h'.IsTupleIter s.heap.objs.size l 0 → h'.objs.size = s.heap.objs.size + 2 →
      (∀ b o, s.heap.get? b = some o → h'.get? b = some o) → Q (.ref (s.heap.objs.size + 1)) { s with heap := h' }) :
    wpAny (model prog w) A (call (.type "enumerate") [.ref l]) Q E s := by
  obtain ⟨⟨c, dct, dt, sl⟩, hl, hc, n, hd⟩ := hL
  replace hc : c = .type "tuple" := hc
  replace hd : dt = .seq items n := hd
  subst hc hd
  refine callType_new F.called_enumerate (by decide) (F.typeCall_enumerate_1 _) (F.newCall_enumerate_1 _) (fun obj => F.args_object_init_2 obj _) F.entry_enumerate_new
    (meets_enumerate_newT l items n dct sl) ⟨hl, ?_⟩
  have hz : (s.heap.push { cls := .type "tuple_iterator", data := .fields #[.ref l, .int 0 0] }).objs.size = s.heap.objs.size + 1 := Heap.size_push ..
  show _ ∧ _
  rw [hz]
  have he : IsEnum ((s.heap.push { cls := .type "tuple_iterator", data := .fields #[.ref l, .int 0 0] }).push
      { cls := .type "enumerate", data := .fields #[.none, .bool false, .ref s.heap.objs.size, rawInt 0, .none, .none] }) (s.heap.objs.size + 1) s.heap.objs.size 0 .none := by
    have := Heap.get?_push_size (s.heap.push { cls := .type "tuple_iterator", data := .fields #[.ref l, .int 0 0] })
      (o := { cls := .type "enumerate", data := .fields #[.none, .bool false, .ref s.heap.objs.size, rawInt 0, .none, .none] }) rfl
    rw [hz] at this; exact this
  refine ⟨⟨_, he, rfl⟩, h _ he ⟨_, Heap.get?_push_of_some _ (Heap.get?_push_size _ rfl), rfl, rfl⟩ (by rw [Heap.size_push, hz]) fun b o x => Heap.get?_push_of_some _ (Heap.get?_push_of_some _ x)⟩
end PySem
namespace L2
open PySem PySem.Spec PyProof.Rows
/-- the tuple at a, each item in a new pair -/
def IteT (K : PySem.W.Frag) (a : Addr) : It :=
  ⟨fun i H => ∃ (xs : List V) (x : V), SqT K H a xs ∧ xs[i]? = some x, fun i H v H' => ∃ T x, v = .ref T ∧ H T = none ∧ H' = upd H T (.tup [.int (i : Nat), x]) ∧ ∀ xs, SqT K H a xs → xs[i]? = some x, fun i H => ∃ xs : List V, SqT K H a xs ∧ xs.length ≤ i⟩
theorem turn_enumT {P : Program} {w : World} {K : PySem.W.Frag} {elts : List Expr} {kk : Nat} {tpos : Pos} (a e it : Addr) (hait : a ≠ it) (hae : a ≠ e) :
    Turn P w K (.Tuple elts kk tpos) (IteT K a) [e, it] e (fun i h => (∃ old, IsEnum h e it ((i : Nat) : Int) old) ∧ h.IsTupleIter it a i ∧ e ≠ it) where
  mem := by simp
  obj := fun i h st b hb => by
    obtain ⟨⟨old, he⟩, ⟨o, ho, hc, hd⟩, _⟩ := st
    have e' : b = e ∨ b = it := by simpa using hb
    rcases e' with z | z
    · rw [z]; exact ⟨_, he, fun v q => nomatch q⟩
    · rw [z]; exact ⟨o, ho, fun v q => by rw [hd] at q; cases q⟩
  keep := fun i h h' st k => let ⟨⟨old, he⟩, hi, hne⟩ := st; ⟨⟨old, k e (by simp) _ he⟩, hi.at fun o q => k it (by simp) o q, hne⟩
  item := by
    intro X hP hw hK hc i pins s σ H E I hf st hg
    subst hP hw hK
    obtain ⟨⟨old, he⟩, hit, hne⟩ := st
    obtain ⟨xs, x, hq, hx⟩ := hg
    obtain ⟨its, rv, p, hz⟩ := I.tuple hq
    obtain ⟨u, hu, ru⟩ := rv.get hx
    have hel : e < s.heap.objs.size := Heap.lt_size he
    have hil : it < s.heap.objs.size := by obtain ⟨_, q, _⟩ := hit; exact Heap.lt_size q
    have hD := Draws.tuple (prog := X.prog) (w := X.w) (A := X.A.in1) (by show X.A.handled = none; exact I.ok.hd hc) it a hait its.toArray
    have hlt : i < its.toArray.size := by
      have := (List.getElem?_eq_some_iff.mp hu).1
      simpa using this
    refine wpAny_pyNext_enum_itemD hD he ⟨hit, p⟩ hlt hne (by simp; exact ⟨hne, fun z => hae z.symm⟩) fun u2 h' tk hP ho hst hT hsz hk => ?_
    have eu : u2 = u := by
      have hP : its.toArray[i]? = some u2 := hP
      rw [List.getElem?_toArray, hu] at hP
      exact (Option.some.inj hP).symm
    subst eu
    refine ⟨_, rfl, wpAny_letOwnedTupleGo_enum (s := { s with heap := h', toks := tk + 1 }) ho fun h'' he' sb => ?_⟩
    have hT2 : h''.get? s.heap.objs.size = some { cls := .type "tuple", data := .seq #[.int i tk, u2] } := (sb.2 _ (Nat.ne_of_gt hel)).trans hT
    have new : ObjOk X.prog X.w (upd H s.heap.objs.size (.tup [.int (i : Nat), x])) h'' s.heap.objs.size (.tup [.int (i : Nat), x]) :=
      ⟨by show 2 ≤ sizeLine; decide, [.int i tk, u2], .cons ⟨_, rfl⟩ (.cons ru .nil), ⟨_, hT2, rfl, _, rfl⟩⟩
    have I1 : Inv X pins σ (upd H s.heap.objs.size (.tup [.int (i : Nat), x])) { s with heap := h'', toks := tk + 1 } :=
      I.turnedNew (ch := [e, it]) (fun b ob hb q => (sb.2 b (fun z => hb (by simp [z]))).trans (hk b ob (fun z => hb (by simp [z])) (fun z => hb (by simp [z])) q)) hf (Nat.le_refl _) new
    refine ⟨.ref s.heap.objs.size, _, I1, rfl, ⟨_, x, rfl, I.hok.fresh (Nat.le_refl _), rfl, fun ys hy => by rw [I.tuple_inj hy hq]; exact hx⟩, ⟨⟨u2, ?_⟩, hst.1.at fun o q => (sb.2 it (Ne.symm hne)).trans q, hne⟩, fun b hb => ?_⟩
    · have e1 : ((i + 1 : Nat) : Int) = (i : Int) + 1 := by omega
      rw [e1]; exact he'
    · have hb' : b < s.heap.objs.size := by
        have e' : b = e ∨ b = it := by simpa using hb
        rcases e' with z | z
        · rw [z]; exact hel
        · rw [z]; exact hil
      rw [upd_ne (Nat.ne_of_lt hb')]
      exact (hf b hb).1
  done := by
    intro X hP hw hK hc i pins s σ H E I hf st hg
    subst hP hw hK
    obtain ⟨⟨old, he⟩, hit, hne⟩ := st
    obtain ⟨xs, hq, hx⟩ := hg
    obtain ⟨its, rv, p, hz⟩ := I.tuple hq
    obtain ⟨f0, f1, f2, f3, f4, f5⟩ := hf it (by simp)
    have hl := rv.length
    have hT : s.TypeIs (.ref e) "enumerate" := ⟨_, he, rfl⟩
    unfold pyNext
    refine wpAny_bind (wpAny_attempt (wpAny_callSpecial?_slot (name := Str.ofString "__next__") hT F.slot_enumerate_next
      (wpAny_call_entry F.slot_enumerate_next hT F.entry_enumerate_next ?_ (F.args_enumerate_next_1 _))))
    show wpAny _ _ (field (.ref e) 2 >>= _) _ _ _
    refine wpAny_bind (wpAny_field he rfl (x := .ref it) rfl ?_)
    refine wpAny_bind (wpAny_nextOf_tuple_end (by show X.A.handled = none; exact I.ok.hd hc) hit p (by simp; omega) fun h' x he' hx' => ?_)
    obtain ⟨o, ho, hc'⟩ := hx'
    refine wpAny_bind (wpAny_isInstance (T := "StopIteration") (b := true) ⟨o, ho, hc'⟩ isSubtype_stop ?_)
    exact wpAny_pure ⟨rfl, I.turned (t' := s.toks) (fun b o hb q => he' b o hb q) f0 f1 f3 f4 f5⟩
  self := fun A i s Q E st h => let ⟨⟨_, he⟩, _⟩ := st; wpAny_pyIter_enum he h
def iEnumT (K : PySem.W.Frag) (ta : TA) : TI := fun σ H R => ta σ H fun vs H1 => ∃ a xs, vs = [.ref a] ∧ SqT K H1 a xs ∧ R (IteT K a) H1
theorem pi_enumT {X : Cx} {e : Expr} {ta : TA} {p pos tpos : Pos} {elts : List Expr} {kk : Nat} (hg : Gl X "enumerate") (hm : X.mg "enumerate" = none) (ha : PA X [e] ta) (hs : starEach [e] X.env = [(false, eval e X.env)] := by rfl) :
    PI X (.Tuple elts kk tpos) (.Call (.Name "enumerate" p) [e] [] pos) (iEnumT X.K ta) := by
  refine ⟨fun pins s σ H R I h => ?_⟩
  refine Call_ (ld_blt I hg hm boot_enumerate (PyProof.Rows.callWith_type1 (thn (ha.run pos pins s σ H _ I h) fun us s1 ⟨vs, H1, I1, r1, q1⟩ => ?_) hs rfl))
  obtain ⟨a, xs, ex, hq, q⟩ := q1
  subst ex
  cases r1 with
  | cons r rr =>
    cases rr
    cases r
    obtain ⟨its, rv, p', hz⟩ := I1.tuple hq
    have hlt : a < s1.heap.objs.size := by obtain ⟨_, q, _⟩ := p'; exact Heap.lt_size q
    refine call_enumerate_tuple p' fun h' he hit hsz hk => wpAny_pyIter_enum he ?_
    have I2 : Inv X pins σ H1 { s1 with heap := h' } := I1.kept (t' := s1.toks) hk
    refine ⟨s1.heap.objs.size + 1, [s1.heap.objs.size + 1, s1.heap.objs.size], _, _, H1, rfl, I2, turn_enumT a (s1.heap.objs.size + 1) s1.heap.objs.size (Nat.ne_of_lt hlt) (Nat.ne_of_lt (Nat.lt_succ_of_lt hlt)), ⟨⟨.none, he⟩, hit, Nat.succ_ne_self _⟩, fun b hb => ?_, q⟩
    have e' : b = s1.heap.objs.size + 1 ∨ b = s1.heap.objs.size := by simpa using hb
    have hle : s1.heap.objs.size ≤ b := by
      rcases e' with z | z
      · rw [z]; exact Nat.le_add_right _ _
      · rw [z]; exact Nat.le_refl _
    exact I1.fpOk hle (I1.hok.fresh hle)
end L2
namespace MP
open PySem L2 PyProof.Rows
section
variable {X : Cx} {W : Wx} {e o a b tg iter elt kx vx : Expr} {es ifs : List Expr} {pos apos cpos p : Pos}
theorem ms_setD {i : Nat} {y : Str} {py spos : Pos} {scope : Scope} {own : List (Str × Nat)} {w : Env → M Wk} {asg : D → Env → M Env} {t : Env → M Bool} {rk r rr : Env → M D} {l : List Nat} (hc : X.calm = true) (hN : X.N.Nodup) (hy : X.N[i]? = some y) (hyl : X.env.scope.names.lookup y = some .local)
    (hsw : swapsWith (.DictComp kx vx [⟨tg, iter, ifs, 0⟩] scope pos) (some (.Name y py)) spos.line X.env = pure true) (hi : MI X W tg iter w) (ok : BlkOk X.N X.env.scope scope own) (hl : ∀ i ∈ l, i ∈ own.map (·.2))
    (hg : ∀ (s : Shared) (H : Hp) (C : Addr) (cl : List (Str × Addr)) (fp : List Addr), MG (X.blk s H scope (compEnvC scope cl C X.env) fp) W0 tg l asg) (ht : ∀ (s : Shared) (H : Hp) (C : Addr) (cl : List (Str × Addr)) (fp : List Addr), MTs (X.blk s H scope (compEnvC scope cl C X.env) fp) W0 ifs t)
    (hk : ∀ (s : Shared) (H : Hp) (C : Addr) (cl : List (Str × Addr)) (fp : List Addr), ME (X.blk s H scope (compEnvC scope cl C X.env) fp) W0 kx rk)
    (he : ∀ (s : Shared) (H : Hp) (C : Addr) (cl : List (Str × Addr)) (fp : List Addr), ME (X.blk s H scope (compEnvC scope cl C X.env) fp) W0 vx r)
    (hrr : ∀ σ H Q, tE X.K W rr σ H Q → tK X.K W (kComp w asg t rk r (own.map (·.2))) σ H Q) (hs : ∀ x, foldedSetIterable iter X.env x = pure x := by intro _; rfl) :
    MS X W (.Assign [.Name y py] (.DictComp kx vx [⟨tg, iter, ifs, 0⟩] scope pos) spos) (sSet i rr) :=
  ⟨(ps_setDc hc hN hy hyl hsw hi.pi ok (fun s H C cl fp => (hg s H C cl fp).pg) (fun s H C cl fp => (ht s H C cl fp).pt) (fun s H C cl fp => (hk s H C cl fp).pe) (fun s H C cl fp => (he s H C cl fp).pe) hs).imp fun D σ H q => comp_goD hl rfl σ H _ (hrr σ H _ (set_go D σ H q))⟩
theorem itOk_enumT {K : PySem.W.Frag} {m0 : Mp} {H0 : Hp} {ds : List D} {vs : List V} {a : Addr} (hs : SqT K H0 a vs) (hr : Reps K m0 H0 ds vs) : ItOk K [] (enumD 0 ds) (IteT K a) m0 H0 := fun m mu H gr R hg => by
  have hs' := gr.sqT hs
  have hr' := Reps.keep gr ds vs hr
  refine ⟨fun i hi => ⟨vs, hs', by rw [← hr.length, ← enumD_len ds 0]; exact hi⟩, fun i d hd => ?_⟩
  rw [enumD_get] at hd
  obtain ⟨x, hx, ed⟩ := Option.map_eq_some_iff.mp hd
  obtain ⟨v, hv, rv⟩ := hr'.get hx
  refine ⟨⟨vs, v, hs', hv⟩, fun y H' yy => ?_⟩
  obtain ⟨T, z, rfl, hn, rfl, u⟩ := yy
  have e2 := u vs hs'
  rw [hv] at e2
  cases e2
  subst ed
  rw [Int.zero_add]
  exact pairT R (by simp only [Rep]) rv hn
/-- enumerate of a list or a tuple -/
def wEnumA : List D → M Wk
  | [.tup xs] => pure (enumD 0 xs, [])
  | xs => wEnum xs
theorem mi_enumA {elts : List Expr} {kk : Nat} {tpos : Pos} {rs : Env → M (List D)} (hg : Gl X "enumerate") (hm : X.mg "enumerate" = none) (h : MA X W [a] rs) (hs : starEach [a] X.env = [(false, eval a X.env)] := by rfl) : MI X W (.Tuple elts kk tpos) (.Call (.Name "enumerate" p) [a] [] pos) (wThen wEnumA rs) :=
  ⟨pi_imp (pi_sz (pi_or (pi_enum hg hm h.pa hs) (pi_enumT hg hm h.pa hs))) fun σ H Q ⟨env, m, mu, hE, hR, hp⟩ => by
    have e0 : wThen wEnumA rs env mu = M.bind (rs env) wEnumA mu := rfl
    rw [e0] at hp
    unfold M.bind at hp
    cases hr : rs env mu with
    | exc x mu1 => rw [hr] at hp; exact .inl ⟨env, m, mu, hE, hR, by rw [hr]; exact hp⟩
    | bad => rw [hr] at hp; exact hp.elim
    | ok xs mu1 =>
      rw [hr] at hp
      replace hp : Post X.K W m H (wEnumA xs mu1) (fun p m' _ H' => p.1.length ≤ sizeLine → ∀ J, ItOk X.K p.2 p.1 J m' H' → Q J H') := hp
      have lst : ∀ xs, rs env mu = .ok xs mu1 → Post X.K W m H (wEnum xs mu1) (fun p m' _ H' => p.1.length ≤ sizeLine → ∀ J, ItOk X.K p.2 p.1 J m' H' → Q J H') → tA X.K W rs σ H (fun vs H1 => ∃ a xs, vs = [.ref a] ∧ SqL X.K H1 a xs ∧ (Sz X.K H1 → Q (Ite X.K a) H1)) := fun xs hr hp => by
        refine ⟨env, m, mu, hE, hR, ?_⟩
        rw [hr]
        intro m1 H1 g1 R1 vs rv
        have hp := hp.grow g1
        match xs, rv, hp with
        | [x], rv, hp =>
          obtain ⟨v, rfl, h1⟩ := rep1 rv
          obtain ⟨a, ds, g, vs, rfl, hs, hr, hk, hp⟩ := rdW_ok R1 h1 (Post.bind hp)
          exact ⟨a, vs, rfl, hs, fun sz => Post.pure hp R1 (by show (enumD 0 ds).length ≤ _; rw [enumD_len, hr.length]; exact sz.1 a vs hs) _ (itOk_enum hk)⟩
        | [], _, hp => exact (show False from hp).elim
        | _ :: _ :: _, _, hp => exact (show False from hp).elim
      cases xs with
      | nil => exact .inl (lst _ hr hp)
      | cons x xs =>
        cases x
        case tup ys =>
          cases xs with
          | cons y ys => exact .inl (lst _ hr hp)
          | nil =>
            refine .inr ⟨env, m, mu, hE, hR, ?_⟩
            rw [hr]
            intro m1 H1 g1 R1 vs rv
            obtain ⟨v, rfl, h1⟩ := rep1 rv
            simp only [Rep] at h1
            obtain ⟨a, vs, rfl, hs, hq⟩ := h1
            have hp2 := hp m1 H1 g1 R1
            exact ⟨a, vs, rfl, hs, fun sz => hp2 (by show (enumD 0 ys).length ≤ _; rw [enumD_len, hq.length]; exact sz.2 a vs hs) _ (itOk_enumT hs hq)⟩
        all_goals exact .inl (lst _ hr hp)⟩
/-! for simp -/
variable {mu : List MO} {env : Env} {d : D} {xs : List D}
@[simp] theorem wEnumA_tup : wEnumA [.tup xs] mu = .ok (enumD 0 xs, []) mu := rfl
@[simp] theorem wEnumA_fl : wEnumA [.fl xs] mu = .ok (enumD 0 xs, []) mu := rfl
@[simp] theorem wEnumA_ro : wEnumA [.ro xs] mu = .ok (enumD 0 xs, []) mu := rfl
@[simp] theorem gIsB_ap {neg x y : Bool} : gIsB neg (.bl x) (.bl y) mu = .ok (.bl (decide (x = y) != neg)) mu := rfl
@[simp] theorem gLe_int {i j : Int} : gLe (.int i) (.int j) mu = .ok (.bl (decide (i ≤ j))) mu := rfl
@[simp] theorem gGe_int {i j : Int} : gGe (.int i) (.int j) mu = .ok (.bl (decide (j ≤ i))) mu := rfl
@[simp] theorem gGt_int {i j : Int} : gGt (.int i) (.int j) mu = .ok (.bl (decide (j < i))) mu := rfl
@[simp] theorem gLe_str {i j : Str} : gLe (.str i) (.str j) mu = .ok (.bl (!ltS j i)) mu := rfl
@[simp] theorem gGe_str {i j : Str} : gGe (.str i) (.str j) mu = .ok (.bl (!ltS i j)) mu := rfl
@[simp] theorem gGt_str {i j : Str} : gGt (.str i) (.str j) mu = .ok (.bl (ltS j i)) mu := rfl
@[simp] theorem bTru_ap {ra : Env → M D} : bTru ra env = (ra env >>= truD) := rfl
@[simp] theorem truD_tup : truD (.tup xs) mu = .ok (!xs.isEmpty) mu := rfl
@[simp] theorem truD_fl : truD (.fl xs) mu = .ok (!xs.isEmpty) mu := rfl
@[simp] theorem truD_bl {b : Bool} : truD (.bl b) mu = .ok b mu := rfl
@[simp] theorem truD_non : truD .non mu = .ok false mu := rfl
@[simp] theorem sBad_ap : sBad env mu = .bad := rfl
@[simp] theorem eNewK_ap {r : Env → M (List (Key × D))} : eNewK r env = (r env >>= fun kvs => alloc (.dk kvs)) := rfl
@[simp] theorem eFd_ap {r : Env → M (List (Key × D))} : eFd r env = (r env >>= fun kvs => pure (.fd (kvs.map (·.1)) (kvs.map (·.2)))) := rfl
@[simp] theorem kComp_ap {w : Env → M Wk} {asg : D → Env → M Env} {t : Env → M Bool} {rk r : Env → M D} {vs : List Nat} : kComp w asg t rk r vs env = (w env >>= fun p => noX (loopCD asg t rk r p.2 p.1 (wipeE env vs) [])) := rfl
end
end MP
namespace MP
open PySem L2 PyProof.Rows
/-! ### more words that the laws share -/
/-- names: 0 state, 1 items, 2 found, 3 item -/
noncomputable def r__law_shuffled (d__law_draw : List D → M Rv) : MP.Env → M Fl :=
  (sSeq (sSet 2 (eNew (aList aNil)))
  (sSeq (sFor (eWalk (eVar 1)) (asgN 3)
  (sExpr (eMeth lstK gInsert (eVar 2) (aCons (eCall (lenD 2 d__law_draw) (aCons (eVar 0) (aCons (eBin gAdd (aThen (g1 gLen) (aCons (eVar 2) aNil)) (eC (.int 1))) aNil))) (aCons (eVar 3) aNil)))) [3])
  (sRet (eVar 2))))
noncomputable def den__law_shuffled (d__law_draw : List D → M Rv) : List D → M Rv := fun ds => noX (runB 4 (r__law_shuffled d__law_draw) ds)
/-- names: 0 state, 1 many, 2 letters, 3 start, 4 step, 5 shared, 6 k -/
noncomputable def r__law_words (d__law_draw : List D → M Rv) : MP.Env → M Fl :=
  (sSeq (sSet 2 (eC (.str "abcdefghijklmnopqrstuvwxyz")))
  (sSeq (sSet 3 (eCall (lenD 2 d__law_draw) (aCons (eVar 0) (aCons (eC (.int 26)) aNil))))
  (sSeq (sSet 4 (eBin gAdd (eC (.int 1)) (eBin gMul (eC (.int 2)) (eCall (lenD 2 d__law_draw) (aCons (eVar 0) (aCons (eC (.int 6)) aNil))))))
  (sSeq (sSet 5 (eSl (eC (.str "qxz")) oNone (oSome (eCall (lenD 2 d__law_draw) (aCons (eVar 0) (aCons (eC (.int 4)) aNil))))))
  (sSeq (eIf (eB (eBin (gEq false) (eCall (lenD 2 d__law_draw) (aCons (eVar 0) (aCons (eC (.int 2)) aNil))) (eC (.int 0))))
  (sRetF (fComp (wThen wRng1 (aCons (eVar 1) aNil)) (asgN 6) tYesM (eBin gAdd (eVar 5) (eBin gIx (eVar 2) (eBin gMod (aThen (g1 gInt) (aCons (eBin gAdd (eVar 3) (eBin gMul (eVar 6) (eVar 4))) aNil)) (eC (.int 26))))) [6]))
  sNext)
  (sRetF (fComp (wThen wRng1 (aCons (eVar 1) aNil)) (asgN 6) tYesM (eBin gAdd (eBin gIx (eVar 2) (eBin gMod (aThen (g1 gInt) (aCons (eBin gAdd (eVar 3) (eBin gMul (eVar 6) (eVar 4))) aNil)) (eC (.int 26)))) (eVar 5)) [6])))))))
noncomputable def den__law_words (d__law_draw : List D → M Rv) : List D → M Rv := fun ds => noX (runB 7 (r__law_words d__law_draw) ds)
/-! what is left behind, forgotten: the general way -/
open Classical in
/-- den where the input is as it should be -/
noncomputable def guardD (WF : List D → List MO → Prop) (den : List D → M Rv) : List D → M Rv := fun ds mu => if WF ds mu then den ds mu else .bad
theorem guardD_ok {WF : List D → List MO → Prop} {den : List D → M Rv} {ds : List D} {mu : List MO} (h : WF ds mu) : guardD WF den ds mu = den ds mu := by unfold guardD; rw [if_pos h]
/-- the first k places; a new list is handed out -/
def cutR (k : Nat) : R Rv → R Rv
  | .ok (.vl (.ref n)) mu' => if n < k then .ok (.vl (.ref n)) (mu'.take k) else match mu'[n]? with
    | some (.lst ys) => .ok (.fr ys) (mu'.take k)
    | _ => .bad
  | .ok rv mu' => .ok rv (mu'.take k)
  | .exc x mu' => .exc x (mu'.take k)
  | .bad => .bad
def forgetN (den : List D → M Rv) : List D → M Rv := fun ds mu => cutR mu.length (den ds mu)
/-- what comes back is whole without what is left behind -/
inductive Whole (k : Nat) (mu1 ex : List MO) : Rv → Rv → Prop
  | vl {d : D} : Clo k d → Whole k mu1 ex (.vl d) (.vl d)
  | new {n : Nat} {ys : List D} : k ≤ n → (mu1 ++ ex)[n]? = some (.lst ys) → Clos k ys → Whole k mu1 ex (.vl (.ref n)) (.fr ys)
  | fr {ys : List D} : Clos k ys → Whole k mu1 ex (.fr ys) (.fr ys)
theorem Whole.cut {k : Nat} {mu1 ex : List MO} {rv rv' : Rv} (h : Whole k mu1 ex rv rv') (hk : mu1.length = k) : cutR k (.ok rv (mu1 ++ ex)) = .ok rv' mu1 := by
  have e : (mu1 ++ ex).take k = mu1 := by rw [← hk, List.take_left]
  cases h with
  | vl hd =>
    rename_i d
    cases d
    case ref n =>
      show (if n < k then MP.R.ok (Rv.vl (D.ref n)) ((mu1 ++ ex).take k) else _) = _
      rw [if_pos (Clo.ref.mp hd), e]
    all_goals (show MP.R.ok (Rv.vl _) ((mu1 ++ ex).take k) = _; rw [e])
  | new hn hx hy =>
    rename_i n ys
    show (if n < k then MP.R.ok (Rv.vl (D.ref n)) ((mu1 ++ ex).take k) else match (mu1 ++ ex)[n]? with
      | some (.lst ys) => MP.R.ok (Rv.fr ys) ((mu1 ++ ex).take k)
      | _ => .bad) = _
    rw [if_neg (by omega), hx, e]
  | fr hy => show MP.R.ok (Rv.fr _) ((mu1 ++ ex).take k) = _; rw [e]
theorem forgetN_ok {den : List D → M Rv} {ds : List D} {mu mu1 ex : List MO} {rv rv' : Rv} (h : den ds mu = .ok rv (mu1 ++ ex)) (hk : mu1.length = mu.length) (hw : Whole mu.length mu1 ex rv rv') : forgetN den ds mu = .ok rv' mu1 := by
  unfold forgetN
  rw [h]
  exact hw.cut hk
theorem gc_guard {n : Nat} {den : List D → M Rv} {WF : List D → List MO → Prop} (h : ∀ ds mu, WF ds mu → ds.length = n → Clos mu.length ds → CloH mu → ∃ rv rv' mu1 ex, den ds mu = .ok rv (mu1 ++ ex) ∧ mu1.length = mu.length ∧ CloH mu1 ∧ Whole mu.length mu1 ex rv rv') : GC n den (guardD WF (forgetN den)) := fun ds mu hn hc hh => by
  by_cases hw : WF ds mu
  · obtain ⟨rv, rv', mu1, ex, e, hl, h1, hW⟩ := h ds mu hw hn hc hh
    rw [guardD_ok hw, forgetN_ok e hl hW]
    refine ⟨rv, mu1 ++ ex, e, by omega, ?_⟩
    rw [← hl] at hW
    cases hW with
    | vl hd => exact .vl (h1.frz ex) (hd _ _)
    | new hk hx hy => exact .newL hk hx (h1.frz ex) (hy _ _)
    | fr hy => exact .fr (h1.frz ex) (hy _ _)
  · have e : guardD WF (forgetN den) ds mu = .bad := by unfold guardD; rw [if_neg hw]
    rw [e]; trivial
theorem st_clo {k : Nat} {cs : List Int} {a b c : Int} : CloO k (st cs a b c) := by
  refine Clos.cons (Clo.fl.mpr (Clos.of fun d hd => ?_)) (Clos.cons Clo.int (Clos.cons Clo.int (Clos.cons Clo.int Clos.nil)))
  obtain ⟨i, _, e⟩ := List.mem_map.mp hd
  subst e
  exact Clo.int
theorem Nx.len {s : Nat} {cs : List Int} {mu mu' : List MO} (n : Nx s cs mu mu') : mu'.length = mu.length := by
  obtain ⟨a, b, c, e⟩ := n
  rw [e, List.length_set]
theorem Nx.clo {s : Nat} {cs : List Int} {mu mu' : List MO} (n : Nx s cs mu mu') (h : CloH mu) : CloH mu' := by
  have hl := n.len
  obtain ⟨a, b, c, e⟩ := n
  intro o ho
  rw [hl]
  rw [e] at ho
  rcases List.mem_or_eq_of_mem_set ho with z | z
  · exact h o z
  · rw [z]; exact st_clo
/-- the state moved on, over further places -/
theorem Nx.app {s : Nat} {cs : List Int} {mu ex mu' : List MO} (h : At s cs mu) (n : Nx s cs (mu ++ ex) mu') : ∃ mu1, mu' = mu1 ++ ex ∧ Nx s cs mu mu1 := by
  obtain ⟨a, b, c, e⟩ := n
  exact ⟨mu.set s (st cs a b c), by rw [e, List.set_append_left _ _ h.lt], a, b, c, rfl⟩
theorem At.app {s : Nat} {cs : List Int} {mu : List MO} (h : At s cs mu) (ex : List MO) : At s cs (mu ++ ex) := by
  have hl := h.lt
  obtain ⟨a, b, c, h⟩ := h
  exact ⟨a, b, c, by rw [List.getElem?_append_left hl]; exact h⟩
@[simp] theorem lstK_ref {n : Nat} {mu : List MO} {xs : List D} (h : mu[n]? = some (.lst xs)) : lstK (.ref n) mu = .ok () mu := by
  have e1 : lstK (.ref n) mu = match mu[n]? with
    | some (.lst _) => MP.R.ok () mu
    | _ => .bad := rfl
  rw [e1, h]
/-! shuffled -/
theorem modL_at {n : Nat} {xs ys : List D} {d : D} {f : List D → Option (List D × D)} {mu : List MO} (h : mu[n]? = some (.lst xs)) (hf : f xs = some (ys, d)) : modL n f mu = .ok d (mu.set n (.lst ys)) := by
  unfold modL
  rw [h, modLr_lst, hf]
theorem insert_ok {n : Nat} {xs : List D} {d : D} {i : Int} {mu : List MO} (h : mu[n]? = some (.lst xs)) (hz : xs.length < sizeLine) (h0 : 0 ≤ i) (h1 : i < 2 ^ 63) : gInsert (.ref n) [.int i, d] mu = .ok .non (mu.set n (.lst (xs.take i.toNat ++ [d] ++ xs.drop i.toNat))) := by
  show ((toI (.int i) : M Int) >>= fun i => modL n fun xs => if xs.length < sizeLine ∧ 0 ≤ i ∧ i < 2 ^ 63 then some (xs.take i.toNat ++ [d] ++ xs.drop i.toNat, .non) else none) mu = _
  rw [bind_ap, toI_int]
  exact modL_at h (by rw [if_pos ⟨hz, h0, h1⟩])
theorem append_ok {n : Nat} {xs : List D} {d : D} {mu : List MO} (h : mu[n]? = some (.lst xs)) (hz : xs.length < sizeLine) : gAppend (.ref n) [d] mu = .ok .non (mu.set n (.lst (xs ++ [d]))) := modL_at h (by rw [if_pos hz])
theorem set_last {mu1 : List MO} {x y : MO} {k : Nat} (h : k = mu1.length) : (mu1 ++ [x]).set k y = mu1 ++ [y] := by subst h; simp [List.set_append]
theorem get_last {mu1 : List MO} {x : MO} {k : Nat} (h : k = mu1.length) : (mu1 ++ [x])[k]? = some x := by subst h; simp
theorem shuf_loop {s : Nat} {cs : List Int} {d : D} {n : Nat} : ∀ (rest ys : List D) (mu1 : List MO) (o3 : Option D), At s cs mu1 → n = mu1.length → ys.length + rest.length < 1000 → ∃ ys' mu2,
    loopF (asgN 3) (sExpr (eMeth lstK gInsert (eVar 2) (aCons (eCall (lenD 2 den__law_draw) (aCons (eVar 0) (aCons (eBin gAdd (aThen (g1 gLen) (aCons (eVar 2) aNil)) (eC (.int 1))) aNil))) (aCons (eVar 3) aNil)))) [3] [] rest [some (.ref s), some d, some (.ref n), o3] (mu1 ++ [.lst ys]) =
      .ok (.nx [some (.ref s), some d, some (.ref n), none]) (mu2 ++ [.lst ys']) ∧ Nx s cs mu1 mu2 ∧ ys'.Perm (ys ++ rest)
  | [], ys, mu1, o3, A, hn, hl => ⟨ys, mu1, by rw [loopF_nil]; rfl, .refl A, by rw [List.append_nil]⟩
  | x :: rest, ys, mu1, o3, A, hn, hl => by
    have hg := get_last (x := .lst ys) hn
    obtain ⟨i, mu', e, nx, h0, h1⟩ := draw_at (most := (ys.length : Int) + 1) (A.app [.lst ys]) (by omega) (log2_small (by rw [List.length_cons] at hl; omega))
    obtain ⟨mu2, rfl, n2⟩ := Nx.app A nx
    have hn2 : n = mu2.length := by rw [n2.len]; exact hn
    have hg2 := get_last (x := .lst ys) hn2
    have hins := insert_ok (d := x) (i := i) hg2 (by rw [List.length_cons] at hl; rw [sizeLine_eq]; omega) h0 (by rw [List.length_cons] at hl; omega)
    rw [set_last hn2] at hins
    have hlen : (ys.take i.toNat ++ [x] ++ ys.drop i.toNat).length = ys.length + 1 := by simp; omega
    obtain ⟨ys', mu3, h2, h3, h4⟩ := shuf_loop (s := s) (cs := cs) (d := d) (n := n) rest (ys.take i.toNat ++ [x] ++ ys.drop i.toNat) mu2 (some x) (n2.at_ A) hn2 (by rw [hlen]; rw [List.length_cons] at hl; omega)
    refine ⟨ys', mu3, ?_, n2.trans h3, h4.trans ?_⟩
    · rw [loopF_cons]
      have hlg : gLen (.ref n) (mu1 ++ [.lst ys]) = .ok (.int ys.length) (mu1 ++ [.lst ys]) := gLen_ref hg
      simp [lstK_ref hg, hlg, e, hins]
      simpa using h2
    · have p1 : (ys.take i.toNat ++ [x] ++ ys.drop i.toNat).Perm (x :: ys) := by
        have z : ys.take i.toNat ++ [x] ++ ys.drop i.toNat = ys.take i.toNat ++ x :: ys.drop i.toNat := by simp
        rw [z]
        exact List.perm_middle.trans (by rw [List.take_append_drop])
      exact (p1.append_right rest).trans (List.perm_middle (l₁ := ys) (l₂ := rest) (a := x)).symm
theorem shuffled_ok {s : Nat} {cs : List Int} {d : D} {xs : List D} {mu : List MO} (A : At s cs mu) (hd : seqOf d = some xs) (hl : xs.length < 1000) : ∃ ys mu1, den__law_shuffled den__law_draw [.ref s, d] mu = .ok (.vl (.ref mu.length)) (mu1 ++ [.lst ys]) ∧ Nx s cs mu mu1 ∧ ys.Perm xs := by
  obtain ⟨ys, mu1, h1, h2, h3⟩ := shuf_loop (s := s) (cs := cs) (d := d) xs [] mu none A rfl (by simpa using hl)
  refine ⟨ys, mu1, noX_ok ?_, h2, h3⟩
  simp [r__law_shuffled, startE, seqOf_walk hd, h1]
/-- shuffled, without what it leaves behind -/
def shufWF (ds : List D) (mu : List MO) : Prop := ∃ s cs d xs, ds = [.ref s, d] ∧ At s cs mu ∧ seqOf d = some xs ∧ xs.length < 1000
noncomputable def shufD : List D → M Rv := guardD shufWF (forgetN (den__law_shuffled den__law_draw))
theorem seqOf_clo {k : Nat} {d : D} {xs : List D} (h : seqOf d = some xs) (hc : Clo k d) : Clos k xs := by
  cases d <;> simp [seqOf] at h
  · subst h; exact Clo.tup.mp hc
  · subst h; exact Clo.fl.mp hc
  · subst h; exact Clo.ro.mp hc
theorem shuf_whole {s : Nat} {cs : List Int} {d : D} {xs : List D} {mu : List MO} (A : At s cs mu) (hd : seqOf d = some xs) (hl : xs.length < 1000) (hc : Clos mu.length xs) : ∃ ys mu1, den__law_shuffled den__law_draw [.ref s, d] mu = .ok (.vl (.ref mu.length)) (mu1 ++ [.lst ys]) ∧ Nx s cs mu mu1 ∧ ys.Perm xs ∧ Whole mu.length mu1 [.lst ys] (.vl (.ref mu.length)) (.fr ys) := by
  obtain ⟨ys, mu1, e, n, p⟩ := shuffled_ok A hd hl
  exact ⟨ys, mu1, e, n, p, .new (Nat.le_refl _) (get_last n.len.symm) (Clos.of fun x hx => hc.mem x (p.mem_iff.mp hx))⟩
theorem gc_shuf : GC 2 (den__law_shuffled den__law_draw) shufD := gc_guard fun ds mu hw hn hc hh => by
  obtain ⟨s, cs, d, xs, rfl, A, hd, hl⟩ := hw
  obtain ⟨ys, mu1, e, n, p, w⟩ := shuf_whole A hd hl (seqOf_clo hd hc.inv.2.inv.1)
  exact ⟨_, _, mu1, _, e, n.len, n.clo hh, w⟩
theorem shufD_ok {s : Nat} {cs : List Int} {d : D} {xs : List D} {mu : List MO} (A : At s cs mu) (hd : seqOf d = some xs) (hl : xs.length < 1000) (hc : Clos mu.length xs) : ∃ ys mu1, shufD [.ref s, d] mu = .ok (.fr ys) mu1 ∧ Nx s cs mu mu1 ∧ ys.Perm xs := by
  obtain ⟨ys, mu1, e, n, p, w⟩ := shuf_whole A hd hl hc
  refine ⟨ys, mu1, ?_, n, p⟩
  unfold shufD
  rw [guardD_ok ⟨s, cs, d, xs, rfl, A, hd, hl⟩]
  exact forgetN_ok e n.len w
end MP
namespace MP
open PySem L2 PyProof.Rows
/-! ### drawn words -/
structure GoodW (w : Str) : Prop where
  pos : 1 ≤ w.length
  le : w.length ≤ 4
  low : ∀ c ∈ w.cps.toList, 97 ≤ c ∧ c ≤ 122
def wd (front : Bool) (sh : Str) (c : Nat) : Str := if front = true then sh ++ ⟨#[c]⟩ else ⟨#[c]⟩ ++ sh
theorem wd_good {front : Bool} {sh : Str} {c : Nat} (h : sh.length ≤ 3) (hs : ∀ c ∈ sh.cps.toList, 97 ≤ c ∧ c ≤ 122) (hc : 97 ≤ c ∧ c ≤ 122) : GoodW (wd front sh c) := by
  have h1 : (⟨#[c]⟩ : Str).length = 1 := rfl
  unfold wd
  cases front
  · refine ⟨?_, ?_, fun x hx => ?_⟩
    · simp only [Bool.false_eq_true, if_false]; rw [len_append, h1]; omega
    · simp only [Bool.false_eq_true, if_false]; rw [len_append, h1]; omega
    · simp only [Bool.false_eq_true, if_false] at hx
      rw [cps_append] at hx
      rcases List.mem_append.mp hx with z | z
      · simp at z; rw [z]; exact hc
      · exact hs x z
  · refine ⟨?_, ?_, fun x hx => ?_⟩
    · simp only [if_true]; rw [len_append, h1]; omega
    · simp only [if_true]; rw [len_append, h1]; omega
    · simp only [if_true] at hx
      rw [cps_append] at hx
      rcases List.mem_append.mp hx with z | z
      · exact hs x z
      · simp at z; rw [z]; exact hc
theorem wd_inj {front : Bool} {sh : Str} {c d : Nat} (h : wd front sh c = wd front sh d) : c = d := by
  have e := congrArg (fun z : Str => z.cps.toList) h
  unfold wd at e
  cases front
  · simp only [Bool.false_eq_true, if_false] at e
    rw [cps_append, cps_append] at e
    simp at e
    exact e
  · simp only [if_true] at e
    rw [cps_append, cps_append] at e
    simp at e
    exact e
theorem step_inj {a d i j : Nat} (hd : d < 6) (hi : i < 26) (hj : j < 26) (h : (a + i * (1 + 2 * d)) % 26 = (a + j * (1 + 2 * d)) % 26) : i = j := by
  have : d = 0 ∨ d = 1 ∨ d = 2 ∨ d = 3 ∨ d = 4 ∨ d = 5 := by omega
  rcases this with rfl | rfl | rfl | rfl | rfl | rfl <;> omega
def wordAt (front : Bool) (sh : Str) (a d i : Nat) : Str := wd front sh (97 + (a + i * (1 + 2 * d)) % 26)
theorem letter_at {x : Nat} (h : x < 26) : atI (Str.ofString "abcdefghijklmnopqrstuvwxyz").cps.toList ((x : Nat) : Int) = some (97 + x) := by
  have e : ∀ x : Fin 26, (Str.ofString "abcdefghijklmnopqrstuvwxyz").cps.toList[x.val]? = some (97 + x.val) := by decide +kernel
  have hl : (Str.ofString "abcdefghijklmnopqrstuvwxyz").cps.toList.length = 26 := by decide +kernel
  unfold atI ixN
  rw [hl, if_pos (by omega), if_pos (by omega)]
  exact e ⟨x, h⟩
theorem shared_ok {d : Int} (h0 : 0 ≤ d) (h1 : d < 4) : ∃ sh : Str, (∀ mu, gSl (.str "qxz") none (some d) mu = .ok (.str sh) mu) ∧ sh.length ≤ 3 ∧ ∀ c ∈ sh.cps.toList, 97 ≤ c ∧ c ≤ 122 := by
  refine ⟨cutS "qxz" none (some d), fun mu => ?_, ?_⟩
  · show ((need ((Str.ofString "qxz").length ≤ sizeLine) : M Unit) >>= fun _ => (pure (.str (cutS "qxz" none (some d))) : M D)) mu = _
    rw [bind_ap, need_ap, if_pos (by decide +kernel)]; rfl
  · have : d = 0 ∨ d = 1 ∨ d = 2 ∨ d = 3 := by omega
    rcases this with rfl | rfl | rfl | rfl <;> decide +kernel
noncomputable def wordsR (lt qz : Str) (d__law_draw : List D → M Rv) : MP.Env → M Fl :=
  (sSeq (sSet 2 (eC (.str lt)))
  (sSeq (sSet 3 (eCall (lenD 2 d__law_draw) (aCons (eVar 0) (aCons (eC (.int 26)) aNil))))
  (sSeq (sSet 4 (eBin gAdd (eC (.int 1)) (eBin gMul (eC (.int 2)) (eCall (lenD 2 d__law_draw) (aCons (eVar 0) (aCons (eC (.int 6)) aNil))))))
  (sSeq (sSet 5 (eSl (eC (.str qz)) oNone (oSome (eCall (lenD 2 d__law_draw) (aCons (eVar 0) (aCons (eC (.int 4)) aNil))))))
  (sSeq (eIf (eB (eBin (gEq false) (eCall (lenD 2 d__law_draw) (aCons (eVar 0) (aCons (eC (.int 2)) aNil))) (eC (.int 0))))
  (sRetF (fComp (wThen wRng1 (aCons (eVar 1) aNil)) (asgN 6) tYesM (eBin gAdd (eVar 5) (eBin gIx (eVar 2) (eBin gMod (aThen (g1 gInt) (aCons (eBin gAdd (eVar 3) (eBin gMul (eVar 6) (eVar 4))) aNil)) (eC (.int 26))))) [6]))
  sNext)
  (sRetF (fComp (wThen wRng1 (aCons (eVar 1) aNil)) (asgN 6) tYesM (eBin gAdd (eBin gIx (eVar 2) (eBin gMod (aThen (g1 gInt) (aCons (eBin gAdd (eVar 3) (eBin gMul (eVar 6) (eVar 4))) aNil)) (eC (.int 26)))) (eVar 5)) [6])))))))
theorem word_front {a k i : Int} {lt sh : Str} {c : Nat} {x y : D} {mu : List MO} (h1 : gMul (.int i) (.int k) mu = .ok (.int (i * k)) mu) (h2 : gIx (.str lt) (.int ((a + i * k) % 26)) mu = .ok (.str ⟨#[c]⟩) mu) (h3 : gAdd (.str sh) (.str ⟨#[c]⟩) mu = .ok (.str (sh ++ ⟨#[c]⟩)) mu) :
    eBin gAdd (eVar 5) (eBin gIx (eVar 2) (eBin gMod (aThen (g1 gInt) (aCons (eBin gAdd (eVar 3) (eBin gMul (eVar 6) (eVar 4))) aNil)) (eC (.int 26)))) [some x, some y, some (.str lt), some (.int a), some (.int k), some (.str sh), some (.int i)] mu = .ok (.str (sh ++ ⟨#[c]⟩)) mu := by
  simp [h1, h2, h3, -gAdd_str]
theorem word_back {a k i : Int} {lt sh : Str} {c : Nat} {x y : D} {mu : List MO} (h1 : gMul (.int i) (.int k) mu = .ok (.int (i * k)) mu) (h2 : gIx (.str lt) (.int ((a + i * k) % 26)) mu = .ok (.str ⟨#[c]⟩) mu) (h3 : gAdd (.str ⟨#[c]⟩) (.str sh) mu = .ok (.str (⟨#[c]⟩ ++ sh)) mu) :
    eBin gAdd (eBin gIx (eVar 2) (eBin gMod (aThen (g1 gInt) (aCons (eBin gAdd (eVar 3) (eBin gMul (eVar 6) (eVar 4))) aNil)) (eC (.int 26)))) (eVar 5) [some x, some y, some (.str lt), some (.int a), some (.int k), some (.str sh), some (.int i)] mu = .ok (.str (⟨#[c]⟩ ++ sh)) mu := by
  simp [h1, h2, h3, -gAdd_str]
theorem wordsR_ok {lt qz : Str} (hz : lt.length ≤ sizeLine) (hlt : ∀ x : Nat, x < 26 → atI lt.cps.toList ((x : Nat) : Int) = some (97 + x)) (hqz : ∀ d : Int, 0 ≤ d → d < 4 → ∃ sh : Str, (∀ mu, gSl (.str qz) none (some d) mu = .ok (.str sh) mu) ∧ sh.length ≤ 3 ∧ ∀ c ∈ sh.cps.toList, 97 ≤ c ∧ c ≤ 122) {s : Nat} {cs : List Int} {n : Nat} {mu : List MO} (A : At s cs mu) (hn : n ≤ 26) : ∃ (ws : List Str) (mu' : List MO), noX (runB 7 (wordsR lt qz den__law_draw) [.ref s, .int n]) mu = .ok (.fr (ws.map D.str)) mu' ∧ Nx s cs mu mu' ∧ ws.length = n ∧ ws.Nodup ∧ ∀ w ∈ ws, GoodW w := by
  obtain ⟨a, m1, e1, n1, a0, a1⟩ := draw_at (most := 26) A (by decide) (by decide)
  obtain ⟨d, m2, e2, n2', d0, d1⟩ := draw_at (most := 6) (n1.at_ A) (by decide) (by decide)
  have n2 := n1.trans n2'
  obtain ⟨q, m3, e3, n3', q0, q1⟩ := draw_at (most := 4) (n2.at_ A) (by decide) (by decide)
  have n3 := n2.trans n3'
  obtain ⟨f, m4, e4, n4', f0, f1⟩ := draw_at (most := 2) (n3.at_ A) (by decide) (by decide)
  have n4 := n3.trans n4'
  obtain ⟨sh, esh, hsl, hsc⟩ := hqz q q0 q1
  obtain ⟨a, rfl⟩ := Int.eq_ofNat_of_zero_le a0
  obtain ⟨d, rfl⟩ := Int.eq_ofNat_of_zero_le d0
  have s64 : -(2 ^ 64) < (1 + 2 * (d : Int)) ∧ (1 + 2 * (d : Int)) < 2 ^ 64 := by omega
  have t64 : -(2 ^ 64) < (d : Int) ∧ (d : Int) < 2 ^ 64 := by omega
  have hcat : ∀ c : Nat, sh.length + (⟨#[c]⟩ : Str).length ≤ sizeLine := fun c => by
    have : (⟨#[c]⟩ : Str).length = 1 := rfl
    rw [this, sizeLine_eq]; omega
  have hcat' : ∀ c : Nat, (⟨#[c]⟩ : Str).length + sh.length ≤ sizeLine := fun c => by rw [Nat.add_comm]; exact hcat c
  obtain ⟨ch, hch⟩ : ∃ ch : Nat → Nat, ∀ i, ch i = 97 + (a + i * (1 + 2 * d)) % 26 := ⟨fun i => 97 + (a + i * (1 + 2 * d)) % 26, fun _ => rfl⟩
  have hix : ∀ (i : Nat) (mu : List MO), gIx (.str lt) (.int (((a : Int) + (i : Int) * (1 + 2 * (d : Int))) % 26)) mu = .ok (.str ⟨#[ch i]⟩) mu := fun i mu => by
    have e : ((a : Int) + (i : Int) * (1 + 2 * (d : Int))) % 26 = (((a + i * (1 + 2 * d)) % 26 : Nat) : Int) := by push_cast; rfl
    rw [e, hch]
    exact gIx_str hz (hlt _ (Nat.mod_lt _ (by decide)))
  have hwt : ∀ i, wordAt true sh a d i = sh ++ ⟨#[ch i]⟩ := fun i => by rw [hch]; rfl
  have hwf : ∀ i, wordAt false sh a d i = ⟨#[ch i]⟩ ++ sh := fun i => by rw [hch]; rfl
  have hgood : ∀ front i, GoodW (wordAt front sh a d i) := fun front i => wd_good hsl hsc (by have := Nat.mod_lt (a + i * (1 + 2 * d)) (show 0 < 26 by decide); omega)
  have hnd : ∀ front, ((List.range n).map (wordAt front sh a d)).Nodup := fun front => by
    rw [List.nodup_iff_pairwise_ne, List.pairwise_map]
    exact (List.nodup_range (n := n)).imp_of_mem fun hi hj hij e => hij (step_inj (a := a) (d := d) (by omega) (by have := List.mem_range.mp hi; omega) (by have := List.mem_range.mp hj; omega) (by have := wd_inj e; omega))
  have hm : ∀ (i : Int) (mu : List MO), gMul (.int i) (.int (1 + 2 * (d : Int))) mu = .ok (.int (i * (1 + 2 * (d : Int)))) mu := fun i mu => gMul_small s64
  have hm2 : ∀ (i : Int) (mu : List MO), gMul (.int i) (.int (d : Int)) mu = .ok (.int (i * (d : Int))) mu := fun i mu => gMul_small t64
  have hr : ∀ r : MP.Env → M D, ∀ front, (∀ i env1, env1 = [some (D.ref s), some (.int n), some (.str lt), some (.int a), some (.int (1 + 2 * (d : Int))), some (.str sh), some (.int ((i : Nat) : Int))] → r env1 m4 = .ok (.str (wordAt front sh a d i)) m4) →
      loopC (asgN 6) tYesM r [] (rngD 0 n) [some (D.ref s), some (.int n), some (.str lt), some (.int a), some (.int (1 + 2 * (d : Int))), some (.str sh), none] m4 = .ok (((List.range n).map (wordAt front sh a d)).map D.str) m4 := fun r front h => by
    unfold rngD
    rw [List.map_map]
    refine loopC_map' fun i hi => ⟨_, rfl, rfl, ?_⟩
    exact h i _ (by simp)
  have hw := wRng1_ok (n := (n : Int)) (mu := m4) (by omega)
  have hnn : ((n : Int)).toNat = n := by omega
  rw [hnn] at hw
  by_cases c : f = 0
  · refine ⟨(List.range n).map (wordAt true sh a d), m4, noX_ok ?_, n4, by simp, hnd true, fun w hw => by
      obtain ⟨i, _, e⟩ := List.mem_map.mp hw
      rw [← e]; exact hgood true i⟩
    have hl := hr (eBin gAdd (eVar 5) (eBin gIx (eVar 2) (eBin gMod (aThen (g1 gInt) (aCons (eBin gAdd (eVar 3) (eBin gMul (eVar 6) (eVar 4))) aNil)) (eC (.int 26))))) true (fun i env1 e => by
      subst e
      rw [hwt]
      exact word_front (hm _ _) (hix i m4) (by rw [gAdd_str, if_pos (hcat _)]))
    simp [wordsR, startE, e1, e2, hm2, e3, esh, e4, c, gEq_ints, hw, noX_ok hl]
  · refine ⟨(List.range n).map (wordAt false sh a d), m4, noX_ok ?_, n4, by simp, hnd false, fun w hw => by
      obtain ⟨i, _, e⟩ := List.mem_map.mp hw
      rw [← e]; exact hgood false i⟩
    have hl := hr (eBin gAdd (eBin gIx (eVar 2) (eBin gMod (aThen (g1 gInt) (aCons (eBin gAdd (eVar 3) (eBin gMul (eVar 6) (eVar 4))) aNil)) (eC (.int 26)))) (eVar 5)) false (fun i env1 e => by
      subst e
      rw [hwf]
      exact word_back (hm _ _) (hix i m4) (by rw [gAdd_str, if_pos (hcat' _)]))
    simp [wordsR, startE, e1, e2, hm2, e3, esh, e4, c, gEq_ints, hw, noX_ok hl]
theorem words_ok {s : Nat} {cs : List Int} {n : Nat} {mu : List MO} (A : At s cs mu) (hn : n ≤ 26) : ∃ (ws : List Str) (mu' : List MO), den__law_words den__law_draw [.ref s, .int n] mu = .ok (.fr (ws.map D.str)) mu' ∧ Nx s cs mu mu' ∧ ws.length = n ∧ ws.Nodup ∧ ∀ w ∈ ws, GoodW w :=
  wordsR_ok (lt := "abcdefghijklmnopqrstuvwxyz") (qz := "qxz") (by decide +kernel) (fun x h => letter_at h) (fun d h0 h1 => shared_ok h0 h1) A hn
end MP
namespace MP
open PySem L2 PyProof.Rows
/-! ### what is left behind, forgotten for every def: the freezing is a function -/
section
variable {mu : List MO} {k : Nat} {ok : Nat → Prop}
theorem Frz.fun_both : (∀ {d d1 : D}, Frz mu k ok d d1 → ∀ d2, Frz mu k ok d d2 → d1 = d2) ∧ (∀ {d d1 : List D}, Frzs mu k ok d d1 → ∀ d2, Frzs mu k ok d d2 → d1 = d2) := by
  refine ⟨fun {d d1} q => ?_, fun {d d1} q => ?_⟩
  · exact Frz.rec (motive_1 := fun d d1 _ => ∀ d2, Frz mu k ok d d2 → d1 = d2) (motive_2 := fun d d1 _ => ∀ d2, Frzs mu k ok d d2 → d1 = d2)
      (fun d2 h => by cases h; rfl) (fun b d2 h => by cases h; rfl) (fun i d2 h => by cases h; rfl) (fun x d2 h => by cases h; rfl)
      (fun _ ih d2 h => by cases h with | tup q => rw [ih _ q]) (fun _ ih d2 h => by cases h with | fl q => rw [ih _ q]) (fun _ ih d2 h => by cases h with | ro q => rw [ih _ q]) (fun _ ih d2 h => by cases h with | fd q => rw [ih _ q])
      (fun hn d2 h => by cases h with | ref _ => rfl | lst h1 _ _ _ => omega | dk h1 _ _ _ => omega)
      (fun hk _ hx _ ih d2 h => by cases h with
        | ref h1 => omega
        | lst _ _ hx' q => rw [hx] at hx'; cases hx'; rw [ih _ q]
        | dk _ _ hx' q => rw [hx] at hx'; cases hx')
      (fun hk _ hx _ ih d2 h => by cases h with
        | ref h1 => omega
        | lst _ _ hx' q => rw [hx] at hx'; cases hx'
        | dk _ _ hx' q => rw [hx] at hx'; cases hx'; rw [ih _ q])
      (fun d2 h => by cases h; rfl) (fun _ _ ih ihs d2 h => by cases h with | cons a b => rw [ih _ a, ihs _ b]) q
  · exact Frzs.rec (motive_1 := fun d d1 _ => ∀ d2, Frz mu k ok d d2 → d1 = d2) (motive_2 := fun d d1 _ => ∀ d2, Frzs mu k ok d d2 → d1 = d2)
      (fun d2 h => by cases h; rfl) (fun b d2 h => by cases h; rfl) (fun i d2 h => by cases h; rfl) (fun x d2 h => by cases h; rfl)
      (fun _ ih d2 h => by cases h with | tup q => rw [ih _ q]) (fun _ ih d2 h => by cases h with | fl q => rw [ih _ q]) (fun _ ih d2 h => by cases h with | ro q => rw [ih _ q]) (fun _ ih d2 h => by cases h with | fd q => rw [ih _ q])
      (fun hn d2 h => by cases h with | ref _ => rfl | lst h1 _ _ _ => omega | dk h1 _ _ _ => omega)
      (fun hk _ hx _ ih d2 h => by cases h with
        | ref h1 => omega
        | lst _ _ hx' q => rw [hx] at hx'; cases hx'; rw [ih _ q]
        | dk _ _ hx' q => rw [hx] at hx'; cases hx')
      (fun hk _ hx _ ih d2 h => by cases h with
        | ref h1 => omega
        | lst _ _ hx' q => rw [hx] at hx'; cases hx'
        | dk _ _ hx' q => rw [hx] at hx'; cases hx'; rw [ih _ q])
      (fun d2 h => by cases h; rfl) (fun _ _ ih ihs d2 h => by cases h with | cons a b => rw [ih _ a, ihs _ b]) q
theorem FrzO.fun_ {o o1 o2 : MO} (h : FrzO mu k ok o o1) (h' : FrzO mu k ok o o2) : o1 = o2 := by
  cases h with
  | lst q => cases h' with | lst q' => rw [Frz.fun_both.2 q _ q']
  | @dk kvs kws e q => cases h' with | @dk _ kws' e' q' =>
    have z := Frz.fun_both.2 q _ q'
    have ek : kws.map (·.1) = kws'.map (·.1) := e.symm.trans e'
    rw [← zip_keys kws, ← zip_keys kws', ek, z]
theorem FrzH.fun_ {nu nu' : List MO} (h : FrzH mu ok nu) (h' : FrzH mu ok nu') (hl : nu.length = nu'.length) : nu = nu' := by
  apply List.ext_getElem hl
  intro i h1 h2
  have hi : i < mu.length := Nat.lt_of_lt_of_le h1 h.le
  have a := h.at_ i mu[i] nu[i] (List.getElem?_eq_getElem hi) (List.getElem?_eq_getElem h1)
  have b := h'.at_ i mu[i] nu'[i] (List.getElem?_eq_getElem hi) (List.getElem?_eq_getElem h2)
  rw [← hl] at b
  exact a.fun_ b
end
/-- a new list handed out -/
def FrzN (mu : List MO) (k : Nat) (rv : Rv) (p : Rv × List MO) : Prop := p.2.length = k ∧ ∃ (n : Nat) (xs ys : List D), rv = .vl (.ref n) ∧ p.1 = .fr ys ∧ k ≤ n ∧ mu[n]? = some (.lst xs) ∧ FrzH mu (fun j => j ≠ n) p.2 ∧ Frzs mu p.2.length (fun j => j ≠ n) xs ys
/-- all else -/
def FrzE (mu : List MO) (k : Nat) (rv : Rv) (p : Rv × List MO) : Prop := p.2.length = k ∧ FrzH mu (fun _ => True) p.2 ∧ ((∃ d d', rv = .vl d ∧ p.1 = .vl d' ∧ Frz mu p.2.length (fun _ => True) d d') ∨ ∃ xs ys, rv = .fr xs ∧ p.1 = .fr ys ∧ Frzs mu p.2.length (fun _ => True) xs ys)
theorem FrzN.one {mu : List MO} {k : Nat} {rv : Rv} {p p' : Rv × List MO} (h : FrzN mu k rv p) (h' : FrzN mu k rv p') : p = p' := by
  obtain ⟨l, n, xs, ys, rfl, e, hk, hx, hh, hf⟩ := h
  obtain ⟨l', n', xs', ys', e0, e', hk', hx', hh', hf'⟩ := h'
  cases e0
  rw [hx] at hx'
  cases hx'
  have z := hh.fun_ hh' (l.trans l'.symm)
  obtain ⟨a, b⟩ := p
  obtain ⟨a', b'⟩ := p'
  simp only at e e' z hf hf' l l'
  subst z e e'
  rw [Frz.fun_both.2 hf _ hf']
theorem FrzE.one {mu : List MO} {k : Nat} {rv : Rv} {p p' : Rv × List MO} (h : FrzE mu k rv p) (h' : FrzE mu k rv p') : p = p' := by
  obtain ⟨l, hh, h⟩ := h
  obtain ⟨l', hh', h'⟩ := h'
  have z := hh.fun_ hh' (l.trans l'.symm)
  obtain ⟨a, b⟩ := p
  obtain ⟨a', b'⟩ := p'
  simp only at z h h' l l'
  subst z
  rcases h with ⟨d, d', rfl, rfl, hf⟩ | ⟨xs, ys, rfl, rfl, hf⟩
  · rcases h' with ⟨e, e', q, rfl, hf'⟩ | ⟨_, _, q, _⟩
    · cases q; rw [Frz.fun_both.1 hf _ hf']
    · cases q
  · rcases h' with ⟨e, e', q, _⟩ | ⟨_, _, q, rfl, hf'⟩
    · cases q
    · cases q; rw [Frz.fun_both.2 hf _ hf']
open Classical in
noncomputable def frzU (k : Nat) : R Rv → R Rv
  | .ok rv mu' => if h : ∃ p, FrzN mu' k rv p then .ok h.choose.1 h.choose.2 else if h : ∃ p, FrzE mu' k rv p then .ok h.choose.1 h.choose.2 else .bad
  | _ => .bad
theorem frzU_N {k : Nat} {rv : Rv} {mu' : List MO} (h : ∃ p, FrzN mu' k rv p) : ∃ p, FrzN mu' k rv p ∧ frzU k (.ok rv mu') = .ok p.1 p.2 := ⟨h.choose, h.choose_spec, dif_pos h⟩
theorem frzU_E {k : Nat} {rv : Rv} {mu' : List MO} (h : ¬ ∃ p, FrzN mu' k rv p) (h2 : ∃ p, FrzE mu' k rv p) : ∃ p, FrzE mu' k rv p ∧ frzU k (.ok rv mu') = .ok p.1 p.2 := ⟨h2.choose, h2.choose_spec, (dif_neg h).trans (dif_pos h2)⟩
theorem frzU_0 {k : Nat} {rv : Rv} {mu' : List MO} (h : ¬ ∃ p, FrzN mu' k rv p) (h2 : ¬ ∃ p, FrzE mu' k rv p) : frzU k (.ok rv mu') = .bad := (dif_neg h).trans (dif_neg h2)
/-- den, what it leaves behind forgotten (no exceptions) -/
noncomputable def fgt (den : List D → M Rv) : List D → M Rv := fun ds mu => frzU mu.length (den ds mu)
theorem gc_fgt {n : Nat} {den : List D → M Rv} : GC n den (fgt den) := fun ds mu hn hc hh => by
  show match frzU mu.length (den ds mu) with
    | .bad => True
    | .ok rv' nu => ∃ rv mu', den ds mu = .ok rv mu' ∧ mu.length ≤ nu.length ∧ FrzR mu' nu rv rv'
    | .exc x' nu => ∃ x mu', den ds mu = .exc x mu' ∧ mu.length ≤ nu.length ∧ FrzX mu' nu x x'
  cases e : den ds mu with
  | bad => trivial
  | exc x mu' => trivial
  | ok rv mu' =>
    by_cases h : ∃ p, FrzN mu' mu.length rv p
    · obtain ⟨p, ⟨l, n, xs, ys, e3, e4, hk, hx, hh, hf⟩, e2⟩ := frzU_N h
      rw [e2]
      refine ⟨rv, mu', rfl, by omega, ?_⟩
      rw [e3, e4]
      exact .newL (by omega) hx hh hf
    · by_cases h2 : ∃ p, FrzE mu' mu.length rv p
      · obtain ⟨p, ⟨l, hh, hf⟩, e2⟩ := frzU_E h h2
        rw [e2]
        refine ⟨rv, mu', rfl, by omega, ?_⟩
        rcases hf with ⟨d, d', e3, e4, hf⟩ | ⟨xs, ys, e3, e4, hf⟩
        · rw [e3, e4]; exact .vl hh hf
        · rw [e3, e4]; exact .fr hh hf
      · rw [frzU_0 h h2]; trivial
section
variable {den : List D → M Rv} {ds : List D} {mu mu' mu1 ex nu : List MO} {d d' : D} {xs ys : List D} {n : Nat}
theorem fgt_new (e : den ds mu = .ok (.vl (.ref n)) mu') (hl : nu.length = mu.length) (hn : mu.length ≤ n) (hx : mu'[n]? = some (.lst xs)) (hh : FrzH mu' (fun j => j ≠ n) nu) (hf : Frzs mu' nu.length (fun j => j ≠ n) xs ys) : fgt den ds mu = .ok (.fr ys) nu := by
  have hp : FrzN mu' mu.length (.vl (.ref n)) (.fr ys, nu) := ⟨hl, n, xs, ys, rfl, rfl, hn, hx, hh, hf⟩
  have h : ∃ p, FrzN mu' mu.length (.vl (.ref n)) p := ⟨_, hp⟩
  obtain ⟨p, hp', e2⟩ := frzU_N h
  unfold fgt
  rw [e, e2, hp'.one hp]
theorem fgt_vl (e : den ds mu = .ok (.vl d) mu') (hl : nu.length = mu.length) (hn : ∀ n xs, d = .ref n → mu'[n]? = some (.lst xs) → n < mu.length) (hh : FrzH mu' (fun _ => True) nu) (hf : Frz mu' nu.length (fun _ => True) d d') : fgt den ds mu = .ok (.vl d') nu := by
  have hp : FrzE mu' mu.length (.vl d) (.vl d', nu) := ⟨hl, hh, .inl ⟨d, d', rfl, rfl, hf⟩⟩
  have h2 : ∃ p, FrzE mu' mu.length (.vl d) p := ⟨_, hp⟩
  have h : ¬ ∃ p, FrzN mu' mu.length (.vl d) p := fun ⟨p, _, n, xs, ys, e1, _, hk, hx, _⟩ => by
    cases e1
    have := hn n xs rfl hx
    omega
  obtain ⟨p, hp', e2⟩ := frzU_E h h2
  unfold fgt
  rw [e, e2, hp'.one hp]
theorem fgt_fr (e : den ds mu = .ok (.fr xs) mu') (hl : nu.length = mu.length) (hh : FrzH mu' (fun _ => True) nu) (hf : Frzs mu' nu.length (fun _ => True) xs ys) : fgt den ds mu = .ok (.fr ys) nu := by
  have hp : FrzE mu' mu.length (.fr xs) (.fr ys, nu) := ⟨hl, hh, .inr ⟨xs, ys, rfl, rfl, hf⟩⟩
  have h2 : ∃ p, FrzE mu' mu.length (.fr xs) p := ⟨_, hp⟩
  have h : ¬ ∃ p, FrzN mu' mu.length (.fr xs) p := fun ⟨p, _, n, xs, ys, e1, _⟩ => by cases e1
  obtain ⟨p, hp', e2⟩ := frzU_E h h2
  unfold fgt
  rw [e, e2, hp'.one hp]
/-- the plain ways: what stood stays (moved on), garbage behind it -/
theorem fgt_val (e : den ds mu = .ok (.vl d) (mu1 ++ ex)) (hl : mu1.length = mu.length) (h1 : CloH mu1) (hd : Clo mu.length d) : fgt den ds mu = .ok (.vl d) mu1 :=
  fgt_vl e hl (fun n xs e _ => by rw [e] at hd; exact Clo.ref.mp hd) (h1.frz ex) (by rw [hl]; exact hd _ _)
theorem fgt_list (e : den ds mu = .ok (.vl (.ref n)) (mu1 ++ ex)) (hl : mu1.length = mu.length) (h1 : CloH mu1) (hn : mu.length ≤ n) (hx : (mu1 ++ ex)[n]? = some (.lst xs)) (hd : Clos mu.length xs) : fgt den ds mu = .ok (.fr xs) mu1 :=
  fgt_new e hl hn hx (h1.frz ex) (by rw [hl]; exact hd _ _)
theorem fgt_lst (e : den ds mu = .ok (.fr xs) (mu1 ++ ex)) (hl : mu1.length = mu.length) (h1 : CloH mu1) (hd : Clos mu.length xs) : fgt den ds mu = .ok (.fr xs) mu1 :=
  fgt_fr e hl (h1.frz ex) (by rw [hl]; exact hd _ _)
end
/-! data without places -/
mutual
def flat : D → Bool
  | .tup xs => flats xs
  | .fl xs => flats xs
  | .ro xs => flats xs
  | .fd _ xs => flats xs
  | .ref _ => false
  | _ => true
def flats : List D → Bool
  | [] => true
  | x :: xs => flat x && flats xs
end
mutual
theorem flat_clo {k : Nat} : ∀ (d : D), flat d = true → Clo k d
  | .non, _ => Clo.non
  | .bl _, _ => Clo.bl
  | .int _, _ => Clo.int
  | .str _, _ => Clo.str
  | .tup xs, h => Clo.tup.mpr (flats_clo xs h)
  | .fl xs, h => Clo.fl.mpr (flats_clo xs h)
  | .ro xs, h => Clo.ro.mpr (flats_clo xs h)
  | .fd ks xs, h => Clo.fd.mpr (flats_clo xs h)
  | .ref _, h => by simp [flat] at h
theorem flats_clo {k : Nat} : ∀ (ds : List D), flats ds = true → Clos k ds
  | [], _ => Clos.nil
  | d :: ds, h => by
    rw [flats, Bool.and_eq_true] at h
    exact Clos.cons (flat_clo d h.1) (flats_clo ds h.2)
end
theorem flats_of : ∀ {ds : List D}, (∀ d ∈ ds, flat d = true) → flats ds = true
  | [], _ => rfl
  | d :: ds, h => by rw [flats, h d (by simp), flats_of fun x hx => h x (by simp [hx])]; rfl
theorem flats_mem : ∀ {ds : List D}, flats ds = true → ∀ d ∈ ds, flat d = true
  | d :: ds, h, x, hx => by
    rw [flats, Bool.and_eq_true] at h
    rcases List.mem_cons.mp hx with e | e
    · rw [e]; exact h.1
    · exact flats_mem h.2 x e
end MP
namespace MP
open PySem L2 PyProof.Rows
/-! ### a dict of the written part with text keys -/
/-- at a: the table -/
structure KTab (K : PySem.W.Frag) (w : World) (a : Addr) (tbl : List (Str × D)) : Prop where
  kd : ∃ es n, KDict K w a es n
  no : ∀ z, (∀ p ∈ tbl, p.1 ≠ z) → PySem.W.nsIn K a z = some none
  yes : ∀ p ∈ tbl, ∃ u v, PySem.W.nsIn K a p.1 = some (some u) ∧ RelV v u ∧ ∀ m H, Rep K m H p.2 v
def tabAt (tbl : List (Str × D)) (z : Str) : Option D := (tbl.find? fun p => p.1 == z).map (·.2)
theorem tabAt_none {tbl : List (Str × D)} {z : Str} (h : tabAt tbl z = none) : ∀ p ∈ tbl, p.1 ≠ z := fun p hp e => by
  unfold tabAt at h
  rw [Option.map_eq_none_iff, List.find?_eq_none] at h
  exact h p hp (by rw [e]; exact beq_self_eq_true z)
theorem tabAt_some {tbl : List (Str × D)} {z : Str} {d : D} (h : tabAt tbl z = some d) : ∃ p ∈ tbl, p.1 = z ∧ p.2 = d := by
  unfold tabAt at h
  obtain ⟨p, hp, e⟩ := Option.map_eq_some_iff.mp h
  have h2 : (p.1 == z) = true := List.find?_some (p := fun p : Str × D => p.1 == z) hp
  exact ⟨p, List.mem_of_find?_eq_some hp, eq_of_beq h2, e⟩
/-- x in T -/
def gInK (neg : Bool) (tbl : List (Str × D)) (x : D) : M D := toS x >>= fun z => pure (.bl ((tabAt tbl z).isSome != neg))
/-- T[x] -/
def gIxK (tbl : List (Str × D)) (x : D) : M D := toS x >>= fun z => match tabAt tbl z with
  | some d => pure d
  | none => bad
section
variable {X : Cx} {W : Wx} {e : Expr} {c : Str} {a : Addr} {tbl : List (Str × D)} {p pos : Pos} {r : Env → M D}
theorem toS_at {K : PySem.W.Frag} {W : Wx} {m : Mp} {H : Hp} {mu : List MO} {x : D} {v : V} {α : Type} {f : Str → M α} {Q : α → Mp → List MO → Hp → Prop} (h : Rep K m H x v) (hp : Post K W m H ((toS x >>= f) mu) Q) : ∃ z, x = .str z ∧ v = .str z ∧ Post K W m H (f z mu) Q := by
  cases x with
  | str z =>
    simp only [Rep] at h
    exact ⟨z, rfl, h, hp⟩
  | _ => exact (show False from hp).elim
def rInK (K : PySem.W.Frag) (a : Addr) (neg : Bool) : R2 := fun x y H Q => ∃ (z : Str) (o : Option Value), x = .str z ∧ y = .ref a ∧ PySem.W.nsIn K a z = some o ∧ Q (.bl (o.isSome != neg)) H
theorem opr_inK {neg : Bool} {op : CmpOp} (hop : (neg = false ∧ op = .In) ∨ (neg = true ∧ op = .NotIn)) (T : KTab X.K X.w a tbl) : OpR X (compareOp op) (rInK X.K a neg) := by
  obtain ⟨es, n, kd⟩ := T.kd
  rcases hop with ⟨rfl, rfl⟩ | ⟨rfl, rfl⟩
  · intro pins s σ H x y v u Q I rx ry h
    obtain ⟨z, o, rfl, rfl, h1, h2⟩ := h
    have e : (o.isSome != false) = o.isSome := by cases o.isSome <;> rfl
    rw [e] at h2
    exact op_in_kd kd pins s σ H _ _ v u Q I rx ry ⟨z, o, rfl, rfl, h1, h2⟩
  · intro pins s σ H x y v u Q I rx ry h
    obtain ⟨z, o, rfl, rfl, h1, h2⟩ := h
    have e : (o.isSome != true) = !o.isSome := by cases o.isSome <;> rfl
    rw [e] at h2
    exact op_notIn_kd kd pins s σ H _ _ v u Q I rx ry ⟨z, o, rfl, rfl, h1, h2⟩
theorem inK_go {neg : Bool} (T : KTab X.K X.w a tbl) : ∀ σ H Q, tE X.K W (eMap (gInK neg tbl) r) σ H Q → tOp (rInK X.K a neg) (tE X.K W r) (tC (.ref a)) σ H Q := fun σ H Q ⟨env, m, mu, hE, hR, hp⟩ =>
  ⟨env, m, mu, hE, hR, (Post.bind hp).mono fun x m1 mu1 H1 g1 R1 hp1 v rv => by
    obtain ⟨z, rfl, rfl, hp2⟩ := toS_at rv hp1
    have hq := Post.pure hp2 R1
    cases ht : tabAt tbl z with
    | none =>
      rw [ht] at hq
      exact ⟨z, none, rfl, rfl, T.no z (tabAt_none ht), hq _ (by simp only [Rep]; rfl)⟩
    | some d =>
      rw [ht] at hq
      obtain ⟨q, hq1, rfl, rfl⟩ := tabAt_some ht
      obtain ⟨u, v, h1, _, _⟩ := T.yes q hq1
      exact ⟨_, some u, rfl, rfl, h1, hq _ (by simp only [Rep]; rfl)⟩⟩
theorem me_inK {neg : Bool} {op : CmpOp} (hop : (neg = false ∧ op = .In) ∨ (neg = true ∧ op = .NotIn)) (T : KTab X.K X.w a tbl) (hg : Gl X c) (hm : X.mg c = some (.ref a)) (he : ME X W e r) (hd : (c == ("__debug__" : Str)) = false := by decide) (hb : behindInMarks op (.Name c p) = false := by first | exact nomark _ | rfl) :
    ME X W (.Compare e [op] [.Name c p] pos) (eMap (gInK neg tbl) r) := ⟨(pe_cmpR (opr_inK hop T) he.pe (pe_glob hg hm (v := .ref a) rfl hd) hb).imp (inK_go T)⟩
theorem mt_inK {neg : Bool} {op : CmpOp} (hop : (neg = false ∧ op = .In) ∨ (neg = true ∧ op = .NotIn)) (T : KTab X.K X.w a tbl) (hg : Gl X c) (hm : X.mg c = some (.ref a)) (he : ME X W e r) (hd : (c == ("__debug__" : Str)) = false := by decide) (hb : behindInMarks op (.Name c p) = false := by first | exact nomark _ | rfl) :
    MT X W (.Compare e [op] [.Name c p] pos) (eB (eMap (gInK neg tbl) r)) := ⟨(pt_cmpR (opr_inK hop T) he.pe (pe_glob hg hm (v := .ref a) rfl hd) hb).imp (tT_of (inK_go T))⟩
theorem me_ixK (T : KTab X.K X.w a tbl) (hg : Gl X c) (hm : X.mg c = some (.ref a)) (he : ME X W e r) (hd : (c == ("__debug__" : Str)) = false := by decide) (hs : PlainIx e := by intro _ _; rfl) :
    ME X W (.Subscript (.Name c p) e pos) (eMap (gIxK tbl) r) := by
  obtain ⟨es, n, kd⟩ := T.kd
  have hc : PE X (.Name c p) (tC (.ref a)) := pe_glob hg hm (v := .ref a) rfl hd
  refine ⟨(pe_ix ix_kdict hc he.pe hs).imp fun σ H Q hq => ?_⟩
  obtain ⟨env, m, mu, hE, hR, hp⟩ := hq
  exact ⟨env, m, mu, hE, hR, (Post.bind hp).mono fun x m1 mu1 H1 g1 R1 hp1 v rv => by
    obtain ⟨z, rfl, rfl, hp2⟩ := toS_at rv hp1
    cases ht : tabAt tbl z with
    | none =>
      have hp3 : Post X.K W m1 H1 ((match tabAt tbl z with | some d => (pure d : M D) | none => bad) mu1) _ := hp2
      rw [ht] at hp3
      exact (show False from hp3).elim
    | some d =>
      have hp3 : Post X.K W m1 H1 ((match tabAt tbl z with | some d => (pure d : M D) | none => bad) mu1) _ := hp2
      rw [ht] at hp3
      have hq := Post.pure hp3 R1
      obtain ⟨q, hq1, rfl, rfl⟩ := tabAt_some ht
      obtain ⟨u, v, h1, h2, h3⟩ := T.yes q hq1
      exact ⟨a, _, v, rfl, rfl, ⟨es, n, u, kd.at_, kd.lit, h1, h2⟩, hq v (h3 m1 H1)⟩⟩
end
@[simp] theorem gInK_ap {neg : Bool} {tbl : List (Str × D)} {z : Str} {mu : List MO} : gInK neg tbl (.str z) mu = .ok (.bl ((tabAt tbl z).isSome != neg)) mu := rfl
theorem gIxK_ap {tbl : List (Str × D)} {z : Str} {d : D} {mu : List MO} (h : tabAt tbl z = some d) : gIxK tbl (.str z) mu = .ok d mu := by
  show (match tabAt tbl z with | some d => (pure d : M D) | none => bad) mu = _
  rw [h]; rfl
/-- the table, from what the head tells -/
theorem ktab_of {K : PySem.W.Frag} {w : World} {a : Addr} {tbl : List (Str × D)} (hk : He.dicW K a = some (He.keysIn w.params (tbl.map (·.1)))) (yes : ∀ p ∈ tbl, ∃ u v, PySem.W.nsIn K a p.1 = some (some u) ∧ RelV v u ∧ ∀ m H, Rep K m H p.2 v) : KTab K w a tbl := by
  refine ⟨He.dicW_ok hk, fun z hz => ?_, yes⟩
  unfold He.dicW at hk
  unfold PySem.W.nsIn
  split at hk
  · rename_i c es n sl ho
    rw [ho]
    split at hk
    · have hk := Option.some.inj hk
      have hall : ∀ e ∈ es.toList, ∃ x t, e.key = .str x t ∧ x ∈ tbl.map (·.1) := fun e he => by
        have h1 : He.keyOf e ∈ He.keysIn w.params (tbl.map (·.1)) := by rw [← hk]; exact List.mem_map_of_mem he
        obtain ⟨x, hx, ex⟩ := List.mem_map.mp h1
        unfold He.keyOf at ex
        split at ex
        · rename_i y t hy
          have := Option.some.inj ex
          obtain ⟨e1, _⟩ := Prod.mk.inj this
          exact ⟨y, t, hy, e1 ▸ hx⟩
        · cases ex
      have hf : es.toList.find? (fun e => e.key.isStr z) = none := List.find?_eq_none.mpr fun e he hs => by
        obtain ⟨x, t, e1, hx⟩ := hall e he
        rw [e1] at hs
        obtain ⟨q, hq, rfl⟩ := List.mem_map.mp hx
        have : (q.1 == z) = true := hs
        exact hz q hq (eq_of_beq this)
      have hr : es.toList.any (fun e => e.refKey) = false := List.any_eq_false.mpr fun e he hs => by
        obtain ⟨x, t, e1, _⟩ := hall e he
        unfold DictEntry.refKey at hs
        rw [e1] at hs
        cases hs
      dsimp only
      rw [hf]
      simp only [hr]
      rfl
    · cases hk
  · cases hk
end MP
namespace MP
open PySem L2 PyProof.Rows
/-! ### comprehensions with two clauses -/
noncomputable def loopC2 (asg : D → Env → M Env) (t : Env → M Bool) (w1 : Env → M Wk) (asg1 : D → Env → M Env) (t1 : Env → M Bool) (r : Env → M D) (vs1 : List Nat) (g : List (Nat × List D)) : List D → List D → Env → M (List D)
  | [], acc, env => chk g >>= fun _ => pure acc
  | d :: ds, acc, env => chk g >>= fun _ => asg d env >>= fun env1 => t env1 >>= fun b => if b = true then (w1 env1 >>= fun p => need (acc.length + p.1.length ≤ sizeLine) >>= fun _ => loopC asg1 t1 r p.2 p.1 (wipeE env1 vs1) >>= fun xs => loopC2 asg t w1 asg1 t1 r vs1 g ds (acc ++ xs) env) else loopC2 asg t w1 asg1 t1 r vs1 g ds acc env
noncomputable def fComp2 (w : Env → M Wk) (asg : D → Env → M Env) (t : Env → M Bool) (w1 : Env → M Wk) (asg1 : D → Env → M Env) (t1 : Env → M Bool) (r : Env → M D) (vs vs1 : List Nat) : Env → M (List D) := fun env => w env >>= fun p => noX (loopC2 asg t w1 asg1 t1 r vs1 p.2 p.1 [] (wipeE env vs))
/-- the new list Dd on its way -/
structure CS (K : PySem.W.Frag) (m1 : Mp) (H1 : Hp) (Dd : Addr) (acc : List D) (m : Mp) (mu : List MO) (H2 : Hp) : Prop where
  at_ : ∃ vs2, H2 Dd = some (.lst vs2) ∧ Reps K m H2 acc vs2
  no : Dd ∈ m.no
  ad : Dd ∉ m.ad
  rel : Rel K m mu H2
  gr : Grow m1 m H1 H2
theorem keepD {m : Mp} {H : Hp} {Dd : Addr} {vs ws : List V} (h : H Dd = some (.lst vs)) (hn : Dd ∈ m.no) : Keep m m H (upd H Dd (.lst ws)) :=
  have nD : ∀ b o, H b = some o → m.Out b → b ≠ Dd := fun b o _ n z => n.2 (by rw [z]; exact hn)
  ⟨fun _ _ h => h, fun a o h' n => ⟨by rw [upd_ne (nD a o h' n)]; exact h', n⟩, fun a xs h' => by rw [upd_ne (fun z => by rw [z, h] at h'; cases h')]; exact h', fun a u xs h' => by rw [upd_ne (fun z => by rw [z, h] at h'; cases h')]; exact h'⟩
theorem CS.grow {K : PySem.W.Frag} {m1 m m' : Mp} {H1 H H' : Hp} {Dd : Addr} {acc : List D} {mu mu' : List MO} (c : CS K m1 H1 Dd acc m mu H) (g : Grow m m' H H') (R : Rel K m' mu' H') : CS K m1 H1 Dd acc m' mu' H' := by
  obtain ⟨vs2, h, hr⟩ := c.at_
  obtain ⟨l', k', e1, e2, _, _⟩ := g.ext
  exact ⟨⟨vs2, g.oth Dd _ h c.ad, Reps.grow g acc vs2 hr⟩, by rw [e2]; exact List.mem_append_left _ c.no, g.notin h c.ad, R, c.gr.trans g⟩
theorem CS.add {K : PySem.W.Frag} {m1 m : Mp} {H1 H : Hp} {Dd : Addr} {acc : List D} {mu : List MO} {y : D} {v : V} (c : CS K m1 H1 Dd acc m mu H) (h0 : H1 Dd = none) (ry : Rep K m H y v) : ∃ vs2, H Dd = some (.lst vs2) ∧ vs2.length = acc.length ∧ Keep m m H (upd H Dd (.lst (vs2 ++ [v]))) ∧ CS K m1 H1 Dd (acc ++ [y]) m mu (upd H Dd (.lst (vs2 ++ [v]))) := by
  obtain ⟨vs2, h, hr⟩ := c.at_
  have kp := keepD (ws := vs2 ++ [v]) h c.no
  have hdead : ∀ b o, H1 b = some o → b ≠ Dd := fun b o e z => by rw [z, h0] at e; cases e
  refine ⟨vs2, h, hr.length.symm, kp, ⟨vs2 ++ [v], upd_same, (Reps.keep kp acc vs2 hr).append (Reps.one (Rep.keep kp y v ry))⟩, c.no, c.ad, ?_, ?_⟩
  · have R6 := c.rel
    refine ⟨R6.len, R6.nd, fun a z => ?_, R6.dj, fun n ob a h1 h2 => (R6.obj n ob a h1 h2).keep kp fun u q => ?_⟩
    · by_cases za : a = Dd
      · subst za; exact ⟨_, upd_same⟩
      · rw [upd_ne za]; exact R6.nos a z
    · rw [upd_ne (fun z => c.ad (by rw [← z]; exact List.mem_of_getElem? h2))]; exact q
  · have g16 := c.gr
    refine ⟨g16.ext, fun a o h n => ?_, fun a xs h => ?_, fun a o u h => ?_, fun a o h => ?_⟩
    · rw [upd_ne (hdead a o h)]; exact g16.oth a o h n
    · rw [upd_ne (hdead a _ h)]; exact g16.tups a xs h
    · rw [upd_ne (hdead a _ h)]; exact g16.frzs a o u h
    · rw [upd_ne (hdead a o h)]; exact g16.trk a o h
theorem CS.start {K : PySem.W.Frag} {m1 : Mp} {H1 : Hp} {Dd : Addr} {mu1 : List MO} (R1 : Rel K m1 mu1 H1) (hDn : H1 Dd = none) : CS K m1 H1 Dd [] (m1.shut Dd) mu1 (upd H1 Dd (.lst [])) ∧ Keep m1 (m1.shut Dd) H1 (upd H1 Dd (.lst [])) := by
  have hdead : ∀ b o, H1 b = some o → b ≠ Dd := fun b o e z => by rw [z, hDn] at e; cases e
  have g : Grow m1 m1 H1 (upd H1 Dd (.lst [])) := .laid hDn
  have kp : Keep m1 (m1.shut Dd) H1 (upd H1 Dd (.lst [])) := ⟨fun _ _ h => h, fun a o h n => ⟨by rw [upd_ne (hdead a o h)]; exact h, n.1, fun z => by
    rcases List.mem_append.mp z with z | z
    · exact n.2 z
    · exact hdead a o h (List.mem_singleton.mp z)⟩, g.tups, g.frzs⟩
  refine ⟨⟨⟨[], upd_same, Reps.nil_iff.mpr rfl⟩, by simp [Mp.shut], (R1.free hDn).1, ⟨R1.len, R1.nd, fun a ha => ?_, fun a ha z => ?_, fun n o a h1 h2 => (R1.obj n o a h1 h2).keep kp fun u q => by rw [upd_ne (hdead a u q)]; exact q⟩, ⟨⟨[], [Dd], by simp [Mp.shut], rfl, by simp, fun a ha => by rw [List.mem_singleton.mp ha]; exact hDn⟩, g.oth, g.tups, g.frzs, g.trk⟩⟩, kp⟩
  · rcases List.mem_append.mp ha with z | z
    · exact g.trk a _ (R1.nos a z).choose_spec
    · rw [List.mem_singleton.mp z]; exact ⟨_, upd_same⟩
  · rcases List.mem_append.mp z with z | z
    · exact R1.dj a ha z
    · exact (R1.free hDn).1 (by rw [← List.mem_singleton.mp z]; exact ha)
/-- the new list is taken -/
theorem CS.take {K : PySem.W.Frag} {m1 m2 : Mp} {H H1 H2 : Hp} {Dd : Addr} {acc : List D} {mu1 mu2 : List MO} {Q : VK} (c : CS K m1 H1 Dd acc m2 mu2 H2) (R1 : Rel K m1 mu1 H1) (hDn : H1 Dd = none) (hD0 : H Dd = none)
    (q : ∀ m' H', Grow m1 m' H1 H' → Rel K m' mu2 H' → NewL K H acc m' mu2 H' Q) : Q (.ref Dd) H2 := by
  obtain ⟨vs2, hH2, hacc⟩ := c.at_
  have g2 := c.gr; have R2 := c.rel; have hno := c.no; have had := c.ad
  obtain ⟨l', k', e1, e2, hl', hk'⟩ := g2.ext
  have n1 : Dd ∉ m1.no := (R1.free hDn).2
  have kp : ∀ m3 : Mp, (∀ n a, m2.ad[n]? = some a → m3.ad[n]? = some a) → (∀ a, m2.Out a → m3.Out a) → Keep m2 m3 H2 H2 := fun m3 h1 h2 => ⟨h1, fun a o h n => ⟨h, h2 a n⟩, fun _ _ h => h, fun _ _ _ h => h⟩
  have k3 : Keep m2 ⟨m2.ad, m1.no⟩ H2 H2 := kp _ (fun _ _ h => h) fun a n => ⟨n.1, fun z => n.2 (by rw [e2]; exact List.mem_append_left _ z)⟩
  have g3 : Grow m1 ⟨m2.ad, m1.no⟩ H1 H2 := ⟨⟨l', [], e1, by simp, hl', by simp⟩, g2.oth, g2.tups, g2.frzs, g2.trk⟩
  have R3 : Rel K ⟨m2.ad, m1.no⟩ mu2 H2 := ⟨R2.len, R2.nd, fun a z => R2.nos a (by rw [e2]; exact List.mem_append_left _ z), fun a ha z => R2.dj a ha (by rw [e2]; exact List.mem_append_left _ z), fun n o a h1 h2 => (R2.obj n o a h1 h2).keep k3 fun _ q => q⟩
  have k4 : Keep m2 ((⟨m2.ad, m1.no⟩ : Mp).add Dd) H2 H2 := kp _ (fun n a h => by
    show (m2.ad ++ [Dd])[n]? = some a
    rw [List.getElem?_append_left (List.getElem?_eq_some_iff.mp h).1]; exact h) fun a n => ⟨fun z => by
      rcases List.mem_append.mp z with z | z
      · exact n.1 z
      · exact n.2 (by rw [List.mem_singleton.mp z]; exact hno), fun z => n.2 (by rw [e2]; exact List.mem_append_left _ z)⟩
  refine q ⟨m2.ad, m1.no⟩ H2 g3 R3 Dd vs2 hD0 hH2 ⟨had, n1⟩ (Reps.keep k3 acc vs2 hacc) ?_
  refine ⟨by show (m2.ad ++ [Dd]).length = _; rw [List.length_append, List.length_append, R2.len]; rfl, ?_, fun a z => R3.nos a z, fun a ha z => ?_, fun n ob b h1 h2 => ?_⟩
  · show (m2.ad ++ [Dd]).Nodup
    rw [List.nodup_append]
    refine ⟨R2.nd, by simp, fun x hx y hy => ?_⟩
    rw [List.mem_singleton.mp hy]
    rintro rfl
    exact had hx
  · rcases List.mem_append.mp (show a ∈ m2.ad ++ [Dd] from ha) with z' | z'
    · exact R3.dj a z' z
    · exact n1 (by rw [← List.mem_singleton.mp z']; exact z)
  · have h2 : (m2.ad ++ [Dd])[n]? = some b := h2
    by_cases h : n < mu2.length
    · rw [List.getElem?_append_left h] at h1
      rw [List.getElem?_append_left (by rw [R2.len]; exact h)] at h2
      exact (R2.obj n ob b h1 h2).keep k4 fun _ q => q
    · by_cases hl : n = mu2.length
      · subst hl
        rw [List.getElem?_append_right (Nat.le_refl _), Nat.sub_self] at h1
        rw [List.getElem?_append_right (by rw [R2.len]; exact Nat.le_refl _), ← R2.len, Nat.sub_self] at h2
        cases h1
        cases h2
        exact ⟨vs2, hH2, Reps.keep k4 acc vs2 hacc⟩
      · rw [List.getElem?_eq_none (by rw [List.length_append]; simp only [List.length_cons, List.length_nil]; omega)] at h1
        cases h1
theorem chk_of {K : PySem.W.Frag} {W : Wx} {m : Mp} {H : Hp} {mu : List MO} {α : Type} {g : List (Nat × List D)} {f : Unit → M α} {Q : α → Mp → List MO → Hp → Prop} (h : Post K W m H ((chk g >>= f) mu) Q) : (∀ q ∈ g, mu[q.1]? = some (.lst q.2)) ∧ Post K W m H (f () mu) Q := by
  have h : Post K W m H (M.bind (chk g) f mu) Q := h
  unfold M.bind chk at h
  by_cases z : ∀ q ∈ g, mu[q.1]? = some (.lst q.2)
  · rw [if_pos z] at h; exact ⟨z, h⟩
  · rw [if_neg z] at h; exact (show False from h).elim
theorem need_of {K : PySem.W.Frag} {W : Wx} {m : Mp} {H : Hp} {mu : List MO} {α : Type} {p : Prop} [Decidable p] {f : Unit → M α} {Q : α → Mp → List MO → Hp → Prop} (h : Post K W m H ((need p >>= f) mu) Q) : p ∧ Post K W m H (f () mu) Q := by
  have h : Post K W m H (M.bind (need p) f mu) Q := h
  unfold M.bind need at h
  by_cases z : p
  · rw [if_pos z] at h; exact ⟨z, h⟩
  · rw [if_neg z] at h; exact (show False from h).elim
section
variable {X : Cx} {W : Wx}
theorem Keep.trans {m m1 m2 : Mp} {H H1 H2 : Hp} (a : Keep m m1 H H1) (b : Keep m1 m2 H1 H2) : Keep m m2 H H2 :=
  ⟨fun n x h => b.get n x (a.get n x h), fun x o h n => b.fl x o (a.fl x o h n).1 (a.fl x o h n).2, fun x xs h => b.tups x xs (a.tups x xs h), fun x o u h => b.frzs x o u (a.frzs x o u h)⟩
theorem Keep.refl {m : Mp} {H : Hp} : Keep m m H H := ⟨fun _ _ h => h, fun _ _ h n => ⟨h, n⟩, fun _ _ h => h, fun _ _ _ h => h⟩
theorem Post.bind0 {K : PySem.W.Frag} {W : Wx} {m : Mp} {H : Hp} {mu : List MO} {α β : Type} {c : M α} {f : α → M β} {Q : β → Mp → List MO → Hp → Prop} (h : Post K W m H ((c >>= f) mu) Q) : Post K W m H (c mu) fun a _ mu' _ => Post K W m H (f a mu') Q := by
  have h : Post K W m H (M.bind c f mu) Q := h
  unfold M.bind at h
  cases e : c mu with
  | ok a mu' => rw [e] at h; exact fun _ _ _ _ => h
  | exc x mu' => rw [e] at h; exact h
  | bad => rw [e] at h; exact h
/-- the inner loop -/
theorem inner_go {vs1 l1 : List Nat} {asg1 : D → Env → M Env} {t1 : Env → M Bool} {r : Env → M D} {σ2 : L2.St} {env1 : Env} {m0 m1 : Mp} {H0 H1 : Hp} {Dd : Addr} {p : Wk} {J1 : It} {Nx : Hp → Prop} {P : List D → Mp → List MO → Hp → Prop} {acc0 : List D} (hl1 : ∀ i ∈ l1, i ∈ vs1) (h0 : H0 Dd = none)
    (hz : acc0.length + p.1.length ≤ sizeLine) (ok : ItOk X.K p.2 p.1 J1 m1 H1) (hE1 : RepE X.K m1 H1 (wipeE env1 vs1) (L2.wipe σ2 vs1)) {mu1 : List MO} (c1 : CS X.K m0 H0 Dd acc0 m1 mu1 H1)
    (hp : Post X.K W0 m0 H0 (loopC asg1 t1 r p.2 p.1 (wipeE env1 vs1) mu1) fun xs m' mu' H' => P xs m' mu' H')
    (fin : ∀ xs m mu H, CS X.K m0 H0 Dd (acc0 ++ xs) m mu H → (∀ m' H', Grow m0 m' H0 H' → Rel X.K m' mu H' → P xs m' mu H') → Keep m1 m H1 H → Nx H) :
    ∃ W1 : Nat → Nat → Hp → Prop, (∃ k, W1 0 k H1) ∧ ∀ j k H, W1 j k H → (J1.stop j H ∧ Nx H) ∨ (J1.go j H ∧ ∃ Nx1 : Hp → Prop, (∀ H', Nx1 H' → ∃ k', k' < k ∧ W1 (j + 1) k' H') ∧ ∀ x H', J1.yld j H x H' → tG X.K W0 l1 asg1 x (L2.wipe σ2 vs1) H' fun σ3 H5 => L2.wipe σ3 vs1 = L2.wipe σ2 vs1 ∧ tT X.K W0 t1 σ3 H5 fun b H6 =>
        if b = true then tE X.K W0 r σ3 H6 fun y H7 => ∃ acc, H7 Dd = some (.lst acc) ∧ acc.length < sizeLine ∧ Nx1 (upd H7 Dd (.lst (acc ++ [y]))) else Nx1 H6) := by
  refine ⟨fun j k H => ∃ rest pre m mu, k = rest.length ∧ p.1.drop j = rest ∧ pre.length ≤ j ∧ CS X.K m0 H0 Dd (acc0 ++ pre) m mu H ∧ Keep m1 m H1 H ∧ Post X.K W0 m0 H0 (loopC asg1 t1 r p.2 rest (wipeE env1 vs1) mu) (fun xs m' mu' H' => P (pre ++ xs) m' mu' H'), ⟨_, p.1, [], m1, mu1, rfl, rfl, Nat.le_refl _, by rw [List.append_nil]; exact c1, .refl, hp⟩, ?_⟩
  rintro j k H ⟨rest, pre, m, mu, rfl, hd, hl, c, kp, hp⟩
  have hE := hE1.keep kp
  cases rest with
  | nil =>
    have e0 : loopC asg1 t1 r p.2 [] (wipeE env1 vs1) mu = (chk p.2 >>= fun _ => (pure [] : M (List D))) mu := rfl
    rw [e0] at hp
    obtain ⟨hch, hp⟩ := chk_of hp
    refine .inl ⟨(ok m mu H kp c.rel hch).1 j (by rw [List.drop_eq_nil_iff] at hd; exact hd), fin pre m mu H c (fun m' H' g R => ?_) kp⟩
    have this : P (pre ++ []) m' mu H' := hp m' H' g R
    rw [List.append_nil] at this
    exact this
  | cons d ds =>
    have e0 : loopC asg1 t1 r p.2 (d :: ds) (wipeE env1 vs1) mu = (chk p.2 >>= fun _ => asg1 d (wipeE env1 vs1) >>= fun env3 => t1 env3 >>= fun b => if b = true then (r env3 >>= fun x => loopC asg1 t1 r p.2 ds (wipeE env1 vs1) >>= fun xs => pure (x :: xs)) else loopC asg1 t1 r p.2 ds (wipeE env1 vs1)) mu := rfl
    rw [e0] at hp
    obtain ⟨hch, hp⟩ := chk_of hp
    have hdi : p.1[j]? = some d := by
      have e : (p.1.drop j)[0]? = some d := by rw [hd]; rfl
      rw [List.getElem?_drop] at e
      simpa using e
    have hds : p.1.drop (j + 1) = ds := by
      have e := congrArg List.tail hd
      rw [List.tail_drop] at e
      exact e
    have hil : j < p.1.length := (List.getElem?_eq_some_iff.mp hdi).1
    obtain ⟨go, yl⟩ := (ok m mu H kp c.rel hch).2 j d hdi
    refine .inr ⟨go, fun H3 => ∃ m', m' < (d :: ds).length ∧ ∃ rest pre m mu, m' = rest.length ∧ p.1.drop (j + 1) = rest ∧ pre.length ≤ j + 1 ∧ CS X.K m0 H0 Dd (acc0 ++ pre) m mu H3 ∧ Keep m1 m H1 H3 ∧ Post X.K W0 m0 H0 (loopC asg1 t1 r p.2 rest (wipeE env1 vs1) mu) (fun xs m' mu' H' => P (pre ++ xs) m' mu' H'), fun H3 h => h, fun x H3 y => ?_⟩
    obtain ⟨gy, Ry, rx⟩ := yl x H3 y
    have hp : Post X.K W0 m0 H0 (M.bind (asg1 d (wipeE env1 vs1)) (fun env3 => M.bind (t1 env3) fun b => if b = true then (r env3 >>= fun x => loopC asg1 t1 r p.2 ds (wipeE env1 vs1) >>= fun xs => pure (x :: xs)) else loopC asg1 t1 r p.2 ds (wipeE env1 vs1)) mu) (fun xs m' mu' H' => P (pre ++ xs) m' mu' H') := hp
    refine ⟨d, wipeE env1 vs1, m, mu, hE.grow gy, Ry, rx, ?_⟩
    unfold M.bind at hp
    cases ha1 : asg1 d (wipeE env1 vs1) mu with
    | bad => rw [ha1] at hp; exact (show False from hp).elim
    | exc ex mu4 => rw [ha1] at hp; exact fun m4 H4 g4 R4 => hp m4 H4 ((c.gr.trans gy).trans g4) R4
    | ok env3 mu4 =>
      rw [ha1] at hp
      dsimp only at hp
      intro m4 H4 g4 R4 σ3 hE4 off
      refine ⟨wipe_off off hl1, env3, m4, mu4, hE4, R4, ?_⟩
      cases ht1 : t1 env3 mu4 with
      | bad => rw [ht1] at hp; exact (show False from hp).elim
      | exc ex mu5 => rw [ht1] at hp; exact fun m5 H5 g5 R5 => hp m5 H5 (((c.gr.trans gy).trans g4).trans g5) R5
      | ok b mu5 =>
        rw [ht1] at hp
        dsimp only at hp
        intro m5 H5 g5 R5
        have g25 : Grow m m5 H H5 := (gy.trans g4).trans g5
        have c5 := c.grow g25 R5
        cases b with
        | false =>
          simp only [Bool.false_eq_true, if_false] at hp ⊢
          exact ⟨ds.length, Nat.lt_succ_self _, ds, pre, m5, mu5, rfl, hds, Nat.le_succ_of_le hl, c5, kp.trans g25.keep, hp⟩
        | true =>
          simp only [if_true] at hp ⊢
          refine ⟨env3, m5, mu5, hE4.grow g5, R5, ?_⟩
          have hp : Post X.K W0 m0 H0 (M.bind (r env3) (fun x => loopC asg1 t1 r p.2 ds (wipeE env1 vs1) >>= fun xs => pure (x :: xs)) mu5) (fun xs m' mu' H' => P (pre ++ xs) m' mu' H') := hp
          unfold M.bind at hp
          cases hr1 : r env3 mu5 with
          | bad => rw [hr1] at hp; exact (show False from hp).elim
          | exc ex mu6 => rw [hr1] at hp; exact fun m6 H6 g6 R6 => hp m6 H6 (c5.gr.trans g6) R6
          | ok yd mu6 =>
            rw [hr1] at hp
            dsimp only at hp
            intro m6 H6 g6 R6 v rv
            obtain ⟨vs2, h1, h2, k6, c6⟩ := (c5.grow g6 R6).add h0 rv
            refine ⟨vs2, h1, by rw [h2, List.length_append]; omega, ds.length, Nat.lt_succ_self _, ds, pre ++ [yd], m6, mu6, rfl, hds, by rw [List.length_append]; simp only [List.length_cons, List.length_nil]; omega, by rw [← List.append_assoc]; exact c6, (kp.trans (g25.trans g6).keep).trans k6, ?_⟩
            refine (Post.bind hp).mono fun xs m' mu' H' _ R' q => ?_
            have q2 := Post.pure q R'
            rw [show pre ++ [yd] ++ xs = pre ++ yd :: xs by simp]
            exact q2
/-- the list of a comprehension with two clauses, for its reading -/
theorem comp2_go {wi wi1 : TI} {vs vs1 l l1 : List Nat} {w w1 : Env → M Wk} {asg asg1 : D → Env → M Env} {t t1 : Env → M Bool} {r : Env → M D} (hl : ∀ i ∈ l, i ∈ vs) (hl1 : ∀ i ∈ l1, i ∈ vs1) (hwi : wi = tI X.K W w) (hwi1 : wi1 = tI X.K W0 w1) :
    ∀ σ H Q, tF X.K W (fComp2 w asg t w1 asg1 t1 r vs vs1) σ H Q → tLc2 wi (tG X.K W0 l asg) (tT X.K W0 t) wi1 (tG X.K W0 l1 asg1) (tT X.K W0 t1) (tE X.K W0 r) vs vs1 σ H Q := by
  subst hwi hwi1
  rintro σ H Q ⟨env, m, mu, hE, hR, hp⟩
  refine ⟨env, m, mu, hE, hR, (Post.bind hp).mono fun p m1 mu1 H1 g1 R1 hp0 hz J ok => ?_⟩
  have hp0 := noX_post hp0
  intro Dd hDn
  have hD0 : H Dd = none := g1.none_of hDn
  obtain ⟨c0, k0⟩ := CS.start R1 hDn
  refine ⟨fun i k H2 => ∃ rest acc m2 mu2, k = rest.length ∧ p.1.drop i = rest ∧ CS X.K m1 H1 Dd acc m2 mu2 H2 ∧ RepE X.K m2 H2 (wipeE env vs) (L2.wipe σ vs) ∧ Post X.K W0 m1 H1 (loopC2 asg t w1 asg1 t1 r vs1 p.2 rest acc (wipeE env vs) mu2) fun xs m' mu' H' => NewL X.K H xs m' mu' H' Q, ⟨_, p.1, [], m1.shut Dd, mu1, rfl, rfl, c0, ((hE.grow g1).wipe vs).keep k0, hp0⟩, ?_⟩
  rintro i k H2 ⟨rest, acc, m2, mu2, rfl, hd, c, hE2, hp2⟩
  cases rest with
  | nil =>
    have e0 : loopC2 asg t w1 asg1 t1 r vs1 p.2 [] acc (wipeE env vs) mu2 = (chk p.2 >>= fun _ => (pure acc : M (List D))) mu2 := rfl
    rw [e0] at hp2
    obtain ⟨hch, hp2⟩ := chk_of hp2
    exact .inl ⟨(ok m2 mu2 H2 c.gr.keep c.rel hch).1 i (by rw [List.drop_eq_nil_iff] at hd; exact hd), c.take R1 hDn hD0 fun m' H' g R => hp2 m' H' g R⟩
  | cons d ds =>
    have e0 : loopC2 asg t w1 asg1 t1 r vs1 p.2 (d :: ds) acc (wipeE env vs) mu2 = (chk p.2 >>= fun _ => asg d (wipeE env vs) >>= fun env1 => t env1 >>= fun b => if b = true then (w1 env1 >>= fun p' => need (acc.length + p'.1.length ≤ sizeLine) >>= fun _ => loopC asg1 t1 r p'.2 p'.1 (wipeE env1 vs1) >>= fun xs => loopC2 asg t w1 asg1 t1 r vs1 p.2 ds (acc ++ xs) (wipeE env vs)) else loopC2 asg t w1 asg1 t1 r vs1 p.2 ds acc (wipeE env vs)) mu2 := rfl
    rw [e0] at hp2
    obtain ⟨hch, hp2⟩ := chk_of hp2
    have hdi : p.1[i]? = some d := by
      have e : (p.1.drop i)[0]? = some d := by rw [hd]; rfl
      rw [List.getElem?_drop] at e
      simpa using e
    have hds : p.1.drop (i + 1) = ds := by
      have e := congrArg List.tail hd
      rw [List.tail_drop] at e
      exact e
    obtain ⟨go, yl⟩ := (ok m2 mu2 H2 c.gr.keep c.rel hch).2 i d hdi
    refine .inr ⟨go, fun H3 => ∃ m', m' < (d :: ds).length ∧ ∃ rest acc m2 mu2, m' = rest.length ∧ p.1.drop (i + 1) = rest ∧ CS X.K m1 H1 Dd acc m2 mu2 H3 ∧ RepE X.K m2 H3 (wipeE env vs) (L2.wipe σ vs) ∧ Post X.K W0 m1 H1 (loopC2 asg t w1 asg1 t1 r vs1 p.2 rest acc (wipeE env vs) mu2) fun xs m' mu' H' => NewL X.K H xs m' mu' H' Q, fun H3 h => h, fun x H3 y => ?_⟩
    obtain ⟨gy, Ry, rx⟩ := yl x H3 y
    have hp2 : Post X.K W0 m1 H1 (M.bind (asg d (wipeE env vs)) (fun env1 => M.bind (t env1) fun b => if b = true then (w1 env1 >>= fun p' => need (acc.length + p'.1.length ≤ sizeLine) >>= fun _ => loopC asg1 t1 r p'.2 p'.1 (wipeE env1 vs1) >>= fun xs => loopC2 asg t w1 asg1 t1 r vs1 p.2 ds (acc ++ xs) (wipeE env vs)) else loopC2 asg t w1 asg1 t1 r vs1 p.2 ds acc (wipeE env vs)) mu2) (fun xs m' mu' H' => NewL X.K H xs m' mu' H' Q) := hp2
    refine ⟨d, wipeE env vs, m2, mu2, hE2.grow gy, Ry, rx, ?_⟩
    unfold M.bind at hp2
    cases ha1 : asg d (wipeE env vs) mu2 with
    | bad => rw [ha1] at hp2; exact (show False from hp2).elim
    | exc ex mu4 => rw [ha1] at hp2; exact fun m4 H4 g4 R4 => hp2 m4 H4 ((c.gr.trans gy).trans g4) R4
    | ok env1 mu4 =>
      rw [ha1] at hp2
      dsimp only at hp2
      intro m4 H4 g4 R4 σ2 hE4 off
      refine ⟨wipe_off off hl, env1, m4, mu4, hE4, R4, ?_⟩
      cases ht1 : t env1 mu4 with
      | bad => rw [ht1] at hp2; exact (show False from hp2).elim
      | exc ex mu5 => rw [ht1] at hp2; exact fun m5 H5 g5 R5 => hp2 m5 H5 (((c.gr.trans gy).trans g4).trans g5) R5
      | ok b mu5 =>
        rw [ht1] at hp2
        dsimp only at hp2
        intro m5 H5 g5 R5
        have g25 : Grow m2 m5 H2 H5 := (gy.trans g4).trans g5
        have c5 := c.grow g25 R5
        cases b with
        | false =>
          simp only [Bool.false_eq_true, if_false] at hp2 ⊢
          exact ⟨ds.length, Nat.lt_succ_self _, ds, acc, m5, mu5, rfl, hds, c5, hE2.grow g25, hp2⟩
        | true =>
          simp only [if_true] at hp2 ⊢
          refine ⟨env1, m5, mu5, hE4.grow g5, R5, ?_⟩
          have hp2 : Post X.K W0 m1 H1 (M.bind (w1 env1) (fun p' => need (acc.length + p'.1.length ≤ sizeLine) >>= fun _ => loopC asg1 t1 r p'.2 p'.1 (wipeE env1 vs1) >>= fun xs => loopC2 asg t w1 asg1 t1 r vs1 p.2 ds (acc ++ xs) (wipeE env vs)) mu5) (fun xs m' mu' H' => NewL X.K H xs m' mu' H' Q) := hp2
          unfold M.bind at hp2
          cases hw1 : w1 env1 mu5 with
          | bad => rw [hw1] at hp2; exact (show False from hp2).elim
          | exc ex mu6 => rw [hw1] at hp2; exact fun m6 H6 g6 R6 => hp2 m6 H6 (c5.gr.trans g6) R6
          | ok p' mu6 =>
            rw [hw1] at hp2
            dsimp only at hp2
            intro m6 H6 g6 R6 hz6 J1 ok1
            obtain ⟨hz1, hp2⟩ := need_of hp2
            have c6 := c5.grow g6 R6
            refine inner_go hl1 hDn hz1 ok1 (((hE4.grow g5).grow g6).wipe vs1) c6 (Post.bind0 hp2) fun xs m7 mu7 H7 c7 q7 k7 => ?_
            exact ⟨ds.length, Nat.lt_succ_self _, ds, acc ++ xs, m7, mu7, rfl, hds, c7, (hE2.grow (g25.trans g6)).keep k7, q7 m7 H7 c7.gr c7.rel⟩
theorem mf_comp2 {elt tg iter tg1 iter1 : Expr} {ifs ifs1 : List Expr} {pos : Pos} {scope : Scope} {own : List (Str × Nat)} {w w1 : Env → M Wk} {asg asg1 : D → Env → M Env} {t t1 : Env → M Bool} {r : Env → M D} {l l1 vs1 : List Nat} (hc : X.calm = true) (hN : X.N.Nodup) (hi : MI X W tg iter w) (ok : BlkOk X.N X.env.scope scope own) (hv : ∀ i ∈ vs1, i ∈ own.map (·.2)) (hl : ∀ i ∈ l, i ∈ own.map (·.2)) (hl1 : ∀ i ∈ l1, i ∈ vs1)
    (hg : ∀ (s : Shared) (H : Hp) (C : Addr) (cl : List (Str × Addr)) (fp : List Addr), MG (X.blk s H scope (compEnvC scope cl C X.env) fp) W0 tg l asg) (ht : ∀ (s : Shared) (H : Hp) (C : Addr) (cl : List (Str × Addr)) (fp : List Addr), MTs (X.blk s H scope (compEnvC scope cl C X.env) fp) W0 ifs t)
    (hi1 : ∀ (s : Shared) (H : Hp) (C : Addr) (cl : List (Str × Addr)) (fp : List Addr), MI (X.blk s H scope (compEnvC scope cl C X.env) fp) W0 tg1 iter1 w1)
    (hg1 : ∀ (s : Shared) (H : Hp) (C : Addr) (cl : List (Str × Addr)) (fp : List Addr), MG (X.blk s H scope (compEnvC scope cl C X.env) fp) W0 tg1 l1 asg1) (ht1 : ∀ (s : Shared) (H : Hp) (C : Addr) (cl : List (Str × Addr)) (fp : List Addr), MTs (X.blk s H scope (compEnvC scope cl C X.env) fp) W0 ifs1 t1)
    (he : ∀ (s : Shared) (H : Hp) (C : Addr) (cl : List (Str × Addr)) (fp : List Addr), ME (X.blk s H scope (compEnvC scope cl C X.env) fp) W0 elt r) (hs : ∀ x, foldedSetIterable iter X.env x = pure x := by intro _; rfl) (hs1 : ∀ env x, foldedSetIterable iter1 env x = pure x := by intro _ _; rfl) :
    MF X W (.ListComp elt [⟨tg, iter, ifs, 0⟩, ⟨tg1, iter1, ifs1, 0⟩] scope pos) (fComp2 w asg t w1 asg1 t1 r (own.map (·.2)) vs1) :=
  ⟨(pe_lc2 hc hN hi.pi ok hv (fun s H C cl fp => (hg s H C cl fp).pg) (fun s H C cl fp => (ht s H C cl fp).pt) (fun s H C cl fp => (hi1 s H C cl fp).pi) (fun s H C cl fp => (hg1 s H C cl fp).pg) (fun s H C cl fp => (ht1 s H C cl fp).pt) (fun s H C cl fp => (he s H C cl fp).pe) hs hs1).imp (comp2_go hl hl1 rfl rfl)⟩
end
end MP
namespace MP
open PySem L2 PyProof.Rows
/-! ### sorted of tuples of ints -/
def lexI : List Int → List Int → Bool
  | [], [] => false
  | [], _ :: _ => true
  | _ :: _, [] => false
  | x :: xs, y :: ys => if x = y then lexI xs ys else decide (x < y)
theorem lexI_asym : ∀ (x y : List Int), lexI x y = true → lexI y x = false
  | [], [], h => by cases h
  | [], _ :: _, h => rfl
  | _ :: _, [], h => by cases h
  | x :: xs, y :: ys, h => by
    unfold lexI at h ⊢
    by_cases e : x = y
    · rw [if_pos e] at h; rw [if_pos e.symm]; exact lexI_asym xs ys h
    · rw [if_neg e] at h; rw [if_neg (Ne.symm e)]
      simp only [decide_eq_true_eq, decide_eq_false_iff_not] at h ⊢; omega
theorem lexI_conn : ∀ (x y : List Int), lexI x y = false → lexI y x = false → x = y
  | [], [], _, _ => rfl
  | [], _ :: _, h, _ => by cases h
  | _ :: _, [], _, h => by cases h
  | x :: xs, y :: ys, h, h' => by
    unfold lexI at h h'
    by_cases e : x = y
    · rw [if_pos e] at h; rw [if_pos e.symm] at h'; rw [e, lexI_conn xs ys h h']
    · rw [if_neg e] at h; rw [if_neg (Ne.symm e)] at h'
      simp only [decide_eq_false_iff_not] at h h'; omega
theorem lexI_tr : ∀ (x y z : List Int), lexI y x = false → lexI z y = false → lexI z x = false
  | [], _, [], _, _ => rfl
  | [], _, _ :: _, _, _ => rfl
  | _ :: _, [], _, h, _ => by cases h
  | _ :: _, _ :: _, [], _, h => by cases h
  | x :: xs, y :: ys, z :: zs, h, h' => by
    unfold lexI at h h' ⊢
    by_cases e : y = x
    · rw [if_pos e] at h
      by_cases e' : z = y
      · rw [if_pos e'] at h'; rw [if_pos (e'.trans e)]; exact lexI_tr xs ys zs h h'
      · rw [if_neg e'] at h'; rw [if_neg (by rw [← e]; exact e'), ← e]; exact h'
    · rw [if_neg e] at h
      simp only [decide_eq_false_iff_not] at h
      by_cases e' : z = y
      · rw [e', if_neg e]; simp only [decide_eq_false_iff_not]; exact h
      · rw [if_neg e'] at h'
        simp only [decide_eq_false_iff_not] at h'
        rw [if_neg (by omega)]; simp only [decide_eq_false_iff_not]; omega
section
variable {prog : Program} {w : World} {A : Around} {E : Value → Shared → Prop} {s : Shared}
theorem lexI_kat {b fin : Bool} {Q : Bool → Shared → Prop} : ∀ {xs ys : List Value} {ns ms : List Int} (i : Nat), IntsAre xs ns → IntsAre ys ms → fin = decide (ns.length < ms.length) → Q (lexI ns ms) s → PySem.W.KatLex prog w A b fin Q (xs.zip ys) i s := by
  intro xs ys ns ms i hx
  induction hx generalizing ys ms i with
  | nil =>
    intro hy hf h
    cases hy with
    | nil => rw [show fin = false by rw [hf]; rfl]; exact PySem.W.kat_nil h
    | cons q u hy => rw [show fin = true by rw [hf]; simp]; exact PySem.W.kat_nil h
  | @cons p t xs ns hx ih =>
    intro hy hf h
    cases hy with
    | nil => rw [show fin = false by rw [hf]; simp]; exact PySem.W.kat_nil h
    | @cons q u ys ms hy =>
      show PySem.W.KatLex prog w A b fin Q ((Value.int p t, Value.int q u) :: xs.zip ys) i s
      refine PySem.W.kat_cons (wpAny_eqBool_int ?_)
      unfold lexI at h
      by_cases e : p = q
      · subst e
        rw [beq_self_eq_true]
        rw [if_pos rfl] at h
        exact PySem.W.kat_yes (ih (i + 1) hy (by rw [hf]; simp) h)
      · rw [show (p == q) = false from beq_eq_false_iff_ne.mpr e]
        rw [if_neg e] at h
        exact PySem.W.kat_no (TS.oneLt_ints _ h)
theorem tups_cmp {vs : List Value} {k : Value → List Int} (hp : ∀ v ∈ vs, TS.TupInts s.heap v (k v)) : SrtO.Cmp prog w A s (tuples' true) (fun p => p.1 ∈ vs) (SrtO.lt2 fun v u => lexI (k v) (k u)) := by
  intro p q hm hm'
  have h1 := hp _ hm
  have h2 := hp _ hm'
  show wpAny (model prog w) A (keyLt' (tuples' true) p.1 q.1) (fun r s' => s' = s ∧ r = lexI (k p.1) (k q.1)) (fun _ _ => False) s
  generalize k p.1 = x at h1 ⊢
  generalize k q.1 = y at h2 ⊢
  obtain ⟨a, xs, e, ⟨o, ho, hc, n, hd⟩, i1⟩ := h1
  obtain ⟨a', ys, e', ⟨o', ho', hc', n', hd'⟩, i2⟩ := h2
  rw [e, e']
  have l1 := i1.length
  have l2 := i2.length
  rw [Array.length_toList] at l1 l2
  exact PySem.W.kat_lt ho hd ho' hd' (lexI_kat 0 i1 i2 (by rw [l1, l2]) ⟨rfl, rfl⟩)
theorem swo_lexI {α : Type} (k : α → List Int) : SrtO.Swo fun v u => lexI (k v) (k u) := ⟨fun x y h => lexI_asym _ _ h, fun x y z h1 h2 => lexI_tr _ _ _ h1 h2⟩
theorem tup_firsts {h : Heap} {k : Value → List Int} : ∀ {vs : List Value}, (∀ v ∈ vs, TS.TupInts h v (k v) ∧ k v ≠ []) → ∃ fs : List Value, PySem.W.KatTups h vs fs ∧ fs.length = vs.length ∧ ∀ f ∈ fs, ∃ x t, f = Value.int x t
  | [], _ => ⟨[], PySem.W.KatTups.nil, rfl, fun _ hm => by simp at hm⟩
  | v :: vs, hp => by
    obtain ⟨fs, h1, h2, h3⟩ := tup_firsts (vs := vs) fun v' hm => hp v' (List.mem_cons_of_mem _ hm)
    obtain ⟨⟨a, xs, e, ⟨o, ho, hc, n, hd⟩, i⟩, hne⟩ := hp v List.mem_cons_self
    obtain ⟨y, ys, ey⟩ : ∃ y ys, xs.toList = y :: ys := by
      cases q : xs.toList with
      | nil =>
        rw [q] at i
        have l := i.length
        rw [List.length_nil] at l
        exact absurd (List.length_eq_zero_iff.mp l.symm) hne
      | cons y ys => exact ⟨y, ys, rfl⟩
    obtain ⟨m, t, hy⟩ := i.all y (by rw [ey]; exact List.mem_cons_self ..)
    subst e
    refine ⟨y :: fs, PySem.W.KatTups.cons ho hc hd ?_ h1, by simp [h2], ?_⟩
    · have z := congrArg (fun l : List Value => l[0]?) ey
      simpa using z
    · intro f hf
      rcases List.mem_cons.mp hf with rfl | hf
      · exact ⟨m, t, hy⟩
      · exact h3 f hf
theorem tups_sortable {a : Addr} {vs : List Value} {k : Value → List Int} (h0 : 0 < vs.length) (hp : ∀ v ∈ vs, TS.TupInts s.heap v (k v) ∧ k v ≠ []) (ha : ∀ o, s.heap.get? a = some o → o.cls ≠ .type "tuple") : SrtO.SortableO prog w A s a vs fun v u => lexI (k v) (k u) := by
  intro h' keep
  have hp' : ∀ v ∈ vs, TS.TupInts h' v (k v) ∧ k v ≠ [] := fun v hm => ⟨(hp v hm).1.keeps fun b o e c => keep b o (fun z => by subst z; exact ha o e c) e, (hp v hm).2⟩
  obtain ⟨fs, h1, h2, h3⟩ := tup_firsts hp'
  refine ⟨tuples' true, fun Q E hq => ?_, tups_cmp fun v hm => (hp' v hm).1⟩
  refine PySem.W.kat_kind (T := .type "int") h1 (by omega) (fun f hm => ?_) (by rfl) ?_
  · obtain ⟨x, t, rfl⟩ := h3 f hm
    exact PySem.W.Looks.now
  · have e : (Value.type "int" != Value.type "tuple") = true := by first | decide +kernel | rfl | decide
    rw [e]
    exact hq
end
/-- x before y, by the ints of their tuples -/
abbrev ltT (k : V → List Int) (x y : V) : Bool := lexI (k x) (k y)
def rSortedT (K : PySem.W.Frag) : List V → Hp → VK → Prop := fun vs H Q => ∃ (a : Addr) (xs : List V) (k : V → List Int), vs = [V.ref a] ∧ SqL K H a xs ∧ (∀ x ∈ xs, ∃ t, x = V.ref t ∧ SqT K H t ((k x).map V.int) ∧ k x ≠ []) ∧
  ∀ ys p, SrtO.Srtd (ltT k) ys → ys.Perm xs → H p = none → Q (.ref p) (upd H p (.lst ys))
section
variable {X : Cx}
theorem cr_sortedT : CallR X (.builtin "sorted") (rSortedT X.K) := by
  intro pins s σ H vs us Q I r h
  obtain ⟨a, xs, k, rfl, hs, hx, q⟩ := h
  obtain ⟨its, rv, hl, hz⟩ := I.list hs
  obtain ⟨u, rfl, ru⟩ := vals1 r
  obtain rfl : u = Value.ref a := ru
  obtain ⟨e1, e2⟩ := refs_back rv fun x m => by
    obtain ⟨t, e, _⟩ := hx x m
    exact ⟨t, e⟩
  have hp : ∀ v ∈ its, TS.TupInts s.heap v (k (backV v)) ∧ k (backV v) ≠ [] := fun v hv => by
    obtain ⟨t, rfl⟩ := e2 v hv
    have hm : V.ref t ∈ xs := by rw [e1]; exact List.mem_map.mpr ⟨_, hv, rfl⟩
    obtain ⟨t', e, ht, hne⟩ := hx _ hm
    cases e
    obtain ⟨its2, r2, ht2, _⟩ := I.tuple ht
    exact ⟨⟨t, its2.toArray, rfl, ht2, by rw [List.toList_toArray]; exact r2.ints⟩, hne⟩
  refine SrtO.sorted_ord (swo_lexI fun u => k (backV u)) hl.isList (by rw [← rv.length]; exact hz) (fun h2 h₁ a ha kk => ?_) fun out h1 h2 => ?_
  · refine tups_sortable (s := { s with heap := h₁ }) (by omega) (fun v hm => ⟨(hp v hm).1.keeps fun b o e _ => (kk b o e).2, (hp v hm).2⟩) fun o e => ?_
    have e' : some o = some (seqObj "list" its.toArray 0) := e.symm.trans ha
    cases e'
    intro c
    exact absurd (Value.type.inj c) (by decide)
  · have h3 : ∀ u ∈ out, ∃ a, u = Value.ref a := fun u hu => e2 u (h2.perm.mem_iff.mp hu)
    obtain ⟨n, hn⟩ := PyProof.Rows.sortedAll_at s.heap its out.toArray
    have hpm : (out.map backV).Perm xs := by rw [e1]; exact h2.perm.map _
    refine ⟨.ref _, upd H _ (.lst (out.map backV)), I.laid (t' := s.toks) (fun b o e => PyProof.Rows.sortedAll_old e) (Nat.le_succ _) ⟨?_, out, n, vals_back h3, hn⟩, rfl, q _ _ (SrtO.srtd_map h1) hpm (I.hok.fresh (Nat.le_succ _))⟩
    rw [hpm.length_eq]
    exact hz
end
/-! ### the MP rule -/
def intsT : D → Option (List Int)
  | .tup ds => match intsOf ds with
    | some (n :: ns) => some (n :: ns)
    | _ => none
  | _ => none
def tupsOf : List D → Option (List (List Int))
  | [] => some []
  | d :: r => match intsT d, tupsOf r with
    | some x, some xs => some (x :: xs)
    | _, _ => none
abbrev tupI (x : List Int) : D := .tup (x.map D.int)
theorem intsT_eq {d : D} {x : List Int} (h : intsT d = some x) : d = tupI x ∧ x ≠ [] := by
  unfold intsT at h
  split at h
  · split at h
    · rename_i n ns e
      cases h
      exact ⟨by rw [intsOf_eq e], by simp⟩
    · cases h
  · cases h
theorem tupsOf_eq : ∀ {ds : List D} {xs : List (List Int)}, tupsOf ds = some xs → ds = xs.map tupI ∧ ∀ x ∈ xs, x ≠ []
  | [], xs, h => by cases h; exact ⟨rfl, by simp⟩
  | d :: r, xs, h => by
    unfold tupsOf at h
    split at h
    · rename_i x ys e1 e2
      cases h
      obtain ⟨rfl, n⟩ := intsT_eq e1
      obtain ⟨e3, hn⟩ := tupsOf_eq e2
      exact ⟨by rw [List.map_cons, ← e3], fun y hy => by
        rcases List.mem_cons.mp hy with z | z
        · rw [z]; exact n
        · exact hn y z⟩
    · cases h
theorem intsOf_map : ∀ (ns : List Int), intsOf (ns.map D.int) = some ns
  | [] => rfl
  | n :: ns => by rw [List.map_cons]; unfold intsOf; rw [intsOf_map ns]; rfl
theorem tupsOf_map : ∀ {xs : List (List Int)}, (∀ x ∈ xs, x ≠ []) → tupsOf (xs.map tupI) = some xs
  | [], _ => rfl
  | x :: xs, h => by
    rw [List.map_cons]
    unfold tupsOf
    have e : intsT (tupI x) = some x := by
      unfold intsT tupI
      simp only [intsOf_map]
      cases x with
      | nil => exact absurd rfl (h [] List.mem_cons_self)
      | cons n ns => rfl
    rw [e, tupsOf_map fun y hy => h y (List.mem_cons_of_mem _ hy)]
def srtX (xs : List (List Int)) : List (List Int) := xs.mergeSort fun a b => !lexI b a
theorem srtX_sorted (xs : List (List Int)) : (srtX xs).Pairwise fun a b => lexI b a = false := by
  have q := List.pairwise_mergeSort (le := fun a b => !lexI b a) (fun a b c h h' => by
    simp only [Bool.not_eq_true'] at h h' ⊢
    exact lexI_tr _ _ _ h h') (fun a b => by
    cases h : lexI b a
    · simp
    · rw [lexI_asym _ _ h]; simp) xs
  exact q.imp fun h => by simpa using h
theorem srtX_eq {xs ys : List (List Int)} (h : ys.Perm xs) (hs : ys.Pairwise fun a b => lexI b a = false) : ys = srtX xs :=
  List.Perm.eq_of_pairwise (le := fun a b => lexI b a = false) (fun a b _ _ h h' => lexI_conn _ _ h' h) hs (srtX_sorted xs) (h.trans (List.mergeSort_perm xs _).symm)
def srtT2 (xs : List D) : M (List D) := match tupsOf xs with
  | some ts => pure ((srtX ts).map tupI)
  | none => bad
section
variable {X : Cx} {W : Wx} {e : Expr} {pos p : Pos}
theorem Rep.tup_ints {K : PySem.W.Frag} {m : Mp} {H : Hp} {x : List Int} {v : V} : Rep K m H (tupI x) v ↔ ∃ t, v = .ref t ∧ SqT K H t (x.map V.int) := by
  simp only [Rep]
  constructor
  · rintro ⟨a, vs, e, h, hr⟩
    exact ⟨a, e, by rw [← Reps.of_ints.mp hr]; exact h⟩
  · rintro ⟨a, e, h⟩
    exact ⟨a, _, e, h, Reps.of_ints.mpr rfl⟩
open Classical in
/-- the ints of a tuple's value -/
noncomputable def kOf (K : PySem.W.Frag) (H : Hp) (v : V) : List Int := if h : ∃ x : List Int, ∃ t, v = .ref t ∧ SqT K H t (x.map V.int) then h.choose else []
/-- distinct tuples of ints are told apart -/
def TupInj (K : PySem.W.Frag) (H : Hp) : Prop := ∀ a xs ys, SqT K H a xs → SqT K H a ys → xs = ys
theorem pe_inj {t : TE} (h : PE X e t) : PE X e (fun σ H Q => t σ H fun v H' => TupInj X.K H' → Q v H') := ⟨fun pins s σ H Q I q =>
  thn (h.run pins s σ H _ I q) fun v s1 ⟨x, H1, I1, r, q1⟩ => ⟨x, H1, I1, r, q1 fun a xs ys h h' => I1.tuple_inj h h'⟩⟩
theorem kOf_eq {K : PySem.W.Frag} {H : Hp} (I : TupInj K H) {v : V} {x : List Int} {t : Addr} (e : v = .ref t) (h : SqT K H t (x.map V.int)) : kOf K H v = x := by
  have hx : ∃ x : List Int, ∃ t, v = .ref t ∧ SqT K H t (x.map V.int) := ⟨x, t, e, h⟩
  unfold kOf
  rw [dif_pos hx]
  obtain ⟨t', e', h'⟩ := hx.choose_spec
  generalize hx.choose = y at h'
  rw [e] at e'
  cases e'
  have q := I _ _ _ h' h
  clear h' hx
  induction y generalizing x with
  | nil => cases x with
    | nil => rfl
    | cons b x => cases q
  | cons a y ih => cases x with
    | nil => cases q
    | cons b x =>
      rw [List.map_cons, List.map_cons] at q
      injection q with q1 q2
      injection q1 with q1
      rw [q1]
      congr 1
      clear ih h e
      induction y generalizing x with
      | nil => cases x with
        | nil => rfl
        | cons b x => cases q2
      | cons a y ih => cases x with
        | nil => cases q2
        | cons b x =>
          rw [List.map_cons, List.map_cons] at q2
          injection q2 with q1 q2
          injection q1 with q1
          rw [q1, ih _ q2]
theorem keys_of {K : PySem.W.Frag} {m : Mp} {H : Hp} (I : TupInj K H) : ∀ {ts : List (List Int)} {vs : List V}, Reps K m H (ts.map tupI) vs → vs.map (kOf K H) = ts ∧ ∀ v ∈ vs, ∃ t, v = .ref t ∧ SqT K H t ((kOf K H v).map V.int) ∧ kOf K H v ∈ ts
  | [], vs, h => by rw [List.map_nil, Reps.nil_iff] at h; subst h; exact ⟨rfl, by simp⟩
  | x :: ts, vs, h => by
    rw [List.map_cons] at h
    obtain ⟨v, r, rfl, h1, h2⟩ := Reps.cons_iff.mp h
    obtain ⟨e, f⟩ := keys_of I h2
    obtain ⟨t, e1, ht⟩ := Rep.tup_ints.mp h1
    have k := kOf_eq I e1 ht
    refine ⟨by rw [List.map_cons, k, e], fun y hy => ?_⟩
    rcases List.mem_cons.mp hy with z | z
    · rw [z, k]; exact ⟨t, e1, ht, List.mem_cons_self⟩
    · obtain ⟨t', a, b, c⟩ := f y z
      exact ⟨t', a, b, List.mem_cons_of_mem _ c⟩
theorem reps_of {K : PySem.W.Frag} {m : Mp} {H : Hp} : ∀ {ys : List V}, (∀ v ∈ ys, ∃ t, v = .ref t ∧ SqT K H t ((kOf K H v).map V.int)) → Reps K m H ((ys.map (kOf K H)).map tupI) ys
  | [], _ => Reps.nil_iff.mpr rfl
  | y :: ys, h => by
    rw [List.map_cons, List.map_cons]
    exact Reps.cons_iff.mpr ⟨y, ys, rfl, Rep.tup_ints.mpr (h y List.mem_cons_self), reps_of fun v hv => h v (List.mem_cons_of_mem _ hv)⟩
theorem callM_srtT {x : D} {v : V} {m : Mp} {mu : List MO} {H : Hp} {Q : VK} {H0 : Hp} {m0 : Mp} (I : TupInj X.K H) (g0 : Grow m0 m H0 H) (R : Rel X.K m mu H) (hx : Rep X.K m H x v) (hp : Post X.K W m H ((rdL x >>= srtT2) mu) (fun ds m' mu' H' => NewL X.K H0 ds m' mu' H' Q)) : rSortedT X.K [v] H Q := by
  obtain ⟨a, xs, vs, rfl, hs, hr, _, hp⟩ := rdL_ok R hx (Post.bind hp)
  unfold srtT2 at hp
  cases ht : tupsOf xs with
  | none => rw [ht] at hp; exact (show False from hp).elim
  | some ts =>
    rw [ht] at hp
    obtain ⟨rfl, hne⟩ := tupsOf_eq ht
    obtain ⟨e, f⟩ := keys_of I hr
    refine ⟨a, vs, kOf X.K H, rfl, hs, fun y hy => ?_, fun ys q h1 h2 hn => ?_⟩
    · obtain ⟨t, b, c, d⟩ := f y hy
      exact ⟨t, b, c, hne _ d⟩
    · have e2 : ys.map (kOf X.K H) = srtX ts := srtX_eq (by rw [← e]; exact h2.map _) (by
        unfold SrtO.Srtd at h1
        exact List.pairwise_map.mpr h1)
      have hr2 : Reps X.K m H ((srtX ts).map tupI) ys := by
        rw [← e2]
        exact reps_of fun v hv => by
          obtain ⟨t, b, c, _⟩ := f v (h2.mem_iff.mp hv)
          exact ⟨t, b, c⟩
      exact tF_new g0 R hr2 hp q hn
def fSrtT (r : Env → M D) : Env → M (List D) := fun env => r env >>= fun x => rdL x >>= srtT2
theorem mf_sortedT {x : Str} {r : Env → M D} (hg : Gl X x) (hm : X.mg x = none) (hv : bootBuiltins x = some (.builtin "sorted")) (h : ME X W e r) (hn : x ≠ "__name__" := by decide) (hdb : (x == ("__debug__" : Str)) = false := by decide)
    (he : starEach [e] X.env = (false, eval e X.env) :: starEach [] X.env := by rfl) (hpl : (backTo pos (starEach [] X.env)).any (·.1) = false := by rfl) : MF X W (.Call (.Name x p) [e] [] pos) (fSrtT r) :=
  ⟨(pe_callB cr_sortedT hg hm hv (pa_cons (pe_inj h.pe) pa_nil he) hn hdb he hpl).imp fun σ H Q ⟨env, m, mu, hE, hR, hp⟩ =>
    ⟨env, m, mu, hE, hR, (Post.bind hp).mono fun d m1 mu1 H1 g1 R1 hp v rv I => callM_srtT I g1 R1 rv hp⟩⟩
end
@[simp] theorem fSrtT_ap {r : Env → M D} {env : Env} : fSrtT r env = (r env >>= fun x => rdL x >>= srtT2) := rfl
theorem srtX_id {xs : List (List Int)} (h : xs.Pairwise fun a b => lexI b a = false) : srtX xs = xs := (srtX_eq (List.Perm.refl xs) h).symm
end MP
namespace MP
open PySem L2 PyProof.Rows
/-! ### {k: v, ..}: a dict that nobody changes -/
noncomputable def pairsM : List ((Env → M D) × (Env → M D)) → Env → M (List (Key × D))
  | [], _ => pure []
  | p :: r, env => p.1 env >>= fun x => p.2 env >>= fun y => pairsM r env >>= fun ps => toK x >>= fun k => pure ((k, y) :: ps)
noncomputable def eDisp (rs : List ((Env → M D) × (Env → M D))) : Env → M D := fun env => pairsM rs env >>= fun kvs => need ((kvs.map (·.1)).Nodup ∧ kvs.length ≤ 15) >>= fun _ => pure (.fd (kvs.map (·.1)) (kvs.map (·.2)))
structure MPs (X : Cx) (W : Wx) (pos : Pos) (keys : List (Option Expr)) (values : List Expr) (rs : List ((Env → M D) × (Env → M D))) : Prop where
  pp : PPs X pos keys values (rs.map fun p => (tE X.K W p.1, tE X.K W p.2))
theorem mergeK_app : ∀ (more kvs : List (Key × V)), ((kvs ++ more).map (·.1)).Nodup → mergeK kvs more = kvs ++ more
  | [], kvs, _ => by show kvs = kvs ++ []; rw [List.append_nil]
  | p :: r, kvs, h => by
    show mergeK (putK kvs p.1 p.2) r = _
    have hn : valV kvs p.1 = none := by
      unfold valV
      rw [Option.map_eq_none_iff, List.find?_eq_none]
      intro q hq e
      rw [List.map_append, List.map_cons] at h
      exact (List.nodup_append.mp h).2.2 q.1 (List.mem_map_of_mem hq) p.1 List.mem_cons_self (of_decide_eq_true e)
    rw [putK_new p.2 hn, mergeK_app r (kvs ++ [(p.1, p.2)]) (by rw [List.append_assoc]; exact h), List.append_assoc]; rfl
theorem zip_kV : ∀ (kvs : List (Key × D)) (vs : List V), (kvs.map fun kv => kV kv.1).zip vs = ((kvs.map (·.1)).zip vs).map fun kv => (kV kv.1, kv.2)
  | [], _ => by simp
  | _ :: _, [] => by simp
  | p :: r, v :: vs => by
    rw [List.map_cons, List.map_cons, List.zip_cons_cons, List.zip_cons_cons, List.map_cons, zip_kV r vs]
section
variable {X : Cx} {W : Wx} {pos : Pos}
theorem mps_nil : MPs X W pos [] [] [] := ⟨pps_nil⟩
theorem mps_cons {k v : Expr} {ks : List (Option Expr)} {vs : List Expr} {rk rv : Env → M D} {rs : List ((Env → M D) × (Env → M D))} (hk : ME X W k rk) (hv : ME X W v rv) (h : MPs X W pos ks vs rs) : MPs X W pos (some k :: ks) (v :: vs) ((rk, rv) :: rs) := ⟨pps_cons hk.pe hv.pe h.pp⟩
theorem pairs_go : ∀ (rs : List ((Env → M D) × (Env → M D))) {σ : L2.St} {m : Mp} {H : Hp} {env : Env} {mu : List MO} {Q : List (Key × D) → Mp → List MO → Hp → Prop} {R : List (V × V) → Hp → Prop}, RepE X.K m H env σ → Rel X.K m mu H → Post X.K W m H (pairsM rs env mu) Q →
    (∀ kvs vs m' mu' H', Grow m m' H H' → Rel X.K m' mu' H' → Reps X.K m' H' (kvs.map (·.2)) vs → Q kvs m' mu' H' → R (((kvs.map fun kv => kV kv.1).zip vs)) H') → tPairs (rs.map fun p => (tE X.K W p.1, tE X.K W p.2)) σ H R
  | [], σ, m, H, env, mu, Q, R, hE, hR, hp, hq => hq [] [] m mu H .refl hR (Reps.nil_iff.mpr rfl) (Post.pure hp hR)
  | p :: r, σ, m, H, env, mu, Q, R, hE, hR, hp, hq => by
    refine ⟨env, m, mu, hE, hR, (Post.bind hp).mono fun x m1 mu1 H1 g1 R1 hp1 xv rx => ⟨env, m1, mu1, hE.grow g1, R1, (Post.bind hp1).mono fun y m2 mu2 H2 g2 R2 hp2 yv ry => ?_⟩⟩
    refine pairs_go r ((hE.grow g1).grow g2) R2 (Post.bind hp2) fun kvs vs m3 mu3 H3 g3 R3 hr hp3 => ?_
    obtain ⟨k, rfl, hp3⟩ := toK_ok R3 (Rep.grow g3 x _ (Rep.grow g2 x _ rx)) (Post.bind hp3)
    exact hq ((k, y) :: kvs) (yv :: vs) m3 mu3 H3 ((g1.trans g2).trans g3) R3 (Reps.cons_iff.mpr ⟨_, _, rfl, Rep.grow g3 y _ ry, hr⟩) (Post.pure hp3 R3)
theorem me_disp {keys : List (Option Expr)} {values : List Expr} {rs : List ((Env → M D) × (Env → M D))} (h : MPs X W pos keys values rs) (hall : keys.all (·.isSome) = true) (hl : keys.length = values.length) (h0 : keys ≠ []) (h15 : keys.length ≤ 15) :
    ME X W (.Dict keys values pos) (eDisp rs) := ⟨(pe_disp h.pp hall hl h0 h15).imp fun σ H Q ⟨env, m, mu, hE, hR, hp⟩ p hn => by
  have hdead : ∀ b o, H b = some o → b ≠ p := fun b o e z => by rw [z, hn] at e; cases e
  have g : Grow m m H (upd H p (.dK [])) := .laid hn
  have kp : Keep m (m.shut p) H (upd H p (.dK [])) := ⟨fun _ _ h => h, fun a o h n => ⟨by rw [upd_ne (hdead a o h)]; exact h, n.1, fun z => by
    rcases List.mem_append.mp z with z | z
    · exact n.2 z
    · exact hdead a o h (List.mem_singleton.mp z)⟩, g.tups, g.frzs⟩
  have gs : Grow m (m.shut p) H (upd H p (.dK [])) := ⟨⟨[], [p], by simp [Mp.shut], rfl, by simp, fun a ha => by rw [List.mem_singleton.mp ha]; exact hn⟩, g.oth, g.tups, g.frzs, g.trk⟩
  have R1 : Rel X.K (m.shut p) mu (upd H p (.dK [])) := by
    refine ⟨hR.len, hR.nd, fun a ha => ?_, fun a ha z => ?_, fun n o a h1 h2 => (hR.obj n o a h1 h2).keep kp fun u q => by rw [upd_ne (hdead a u q)]; exact q⟩
    · rcases List.mem_append.mp ha with z | z
      · exact g.trk a _ (hR.nos a z).choose_spec
      · rw [List.mem_singleton.mp z]; exact ⟨_, upd_same⟩
    · rcases List.mem_append.mp z with z | z
      · exact hR.dj a ha z
      · exact (hR.free hn).1 (by rw [← List.mem_singleton.mp z]; exact ha)
  refine pairs_go rs (hE.keep kp) R1 (Post.grow (Post.bind0 hp) gs) fun kvs vs m2 mu2 H2 g2 R2 hr hq => ?_
  have hno : p ∈ m2.no := by obtain ⟨_, k', _, e2, _, _⟩ := g2.ext; rw [e2]; exact List.mem_append_left _ (by simp [Mp.shut])
  have had : p ∉ m2.ad := g2.notin upd_same (hR.free hn).1
  have h2 : H2 p = some (.dK []) := g2.oth p _ upd_same (hR.free hn).1
  obtain ⟨⟨hnd, h15'⟩, hq⟩ := need_of hq
  have hlen : kvs.length = vs.length := by have := hr.length; rwa [List.length_map] at this
  refine ⟨h2, (kvs.map (·.1)).zip vs, ?_, by rw [List.length_zip, List.length_map, ← hlen, Nat.min_self]; exact h15', ?_⟩
  · exact zip_kV kvs vs
  have hm : mergeK [] ((kvs.map (·.1)).zip vs) = (kvs.map (·.1)).zip vs := mergeK_app _ [] (by rw [List.nil_append, List.map_fst_zip (by rw [List.length_map]; omega)]; exact hnd)
  rw [hm]
  obtain ⟨l', k', e1, e2, hl', hk'⟩ := g2.ext
  have n1 : p ∉ m.no := (hR.free hn).2
  have k3 : Keep m2 ⟨m2.ad, m.no⟩ H2 (upd H2 p (.dK ((kvs.map (·.1)).zip vs))) := ⟨fun _ _ h => h, fun a o h n => by
    have na : a ≠ p := fun z => n.2 (by rw [z]; exact hno)
    exact ⟨by rw [upd_ne na]; exact h, n.1, fun z => n.2 (by rw [e2]; exact List.mem_append_left _ (List.mem_append_left _ z))⟩, fun a xs h => by rw [upd_ne (fun z => by rw [z, h2] at h; cases h)]; exact h, fun a u xs h => by rw [upd_ne (fun z => by rw [z, h2] at h; cases h)]; exact h⟩
  have G := gs.trans g2
  have g3 : Grow m ⟨m2.ad, m.no⟩ H (upd H2 p (.dK ((kvs.map (·.1)).zip vs))) := ⟨⟨l', [], e1, by simp, fun a ha => by
      have q := hl' a ha
      by_cases z : a = p
      · rw [z]; exact hn
      · rw [upd_ne z] at q; exact q, by simp⟩, fun a o h n => by rw [upd_ne (hdead a o h)]; exact G.oth a o h n, fun a xs h => by rw [upd_ne (hdead a _ h)]; exact G.tups a xs h, fun a o u h => by rw [upd_ne (hdead a _ h)]; exact G.frzs a o u h, fun a o h => by rw [upd_ne (hdead a o h)]; exact G.trk a o h⟩
  have R3 : Rel X.K ⟨m2.ad, m.no⟩ mu2 (upd H2 p (.dK ((kvs.map (·.1)).zip vs))) := ⟨R2.len, R2.nd, fun a z => g3.trk a _ (hR.nos a z).choose_spec, fun a ha z => R2.dj a ha (by rw [e2]; exact List.mem_append_left _ (List.mem_append_left _ z)), fun n o a h1 h2' => (R2.obj n o a h1 h2').keep k3 fun u q => by
    rw [upd_ne (fun z => had (by rw [← z]; exact List.mem_of_getElem? h2'))]; exact q⟩
  refine hq ⟨m2.ad, m.no⟩ _ g3 R3 (.ref p) ?_
  simp only [Rep]
  exact ⟨p, vs, rfl, upd_same, ⟨had, n1⟩, by rw [List.length_map, List.length_map], Reps.keep k3 _ _ hr⟩⟩
end
/-! ### constants that are tuples -/
section
variable {X : Cx} {W : Wx} {e o f : Expr} {c : Str} {a : Addr} {tbl : List (Str × D)} {p pos apos cpos : Pos} {r rx : Env → M D}
theorem me_gtup {ds : List D} (hg : Gl X c) (hm : X.mg c = some (.ref a)) (hr : ∀ m H, Rep X.K m H (.tup ds) (.ref a)) (hd : (c == ("__debug__" : Str)) = false := by decide) : ME X W (.Name c p) (eC (.tup ds)) := me_c (pe_glob hg hm (v := .ref a) rfl hd) hr
/-- T.get(x, y), T a dict of the written part -/
def gGetK (tbl : List (Str × D)) (x y : D) : M D := toS x >>= fun z => pure ((tabAt tbl z).getD y)
def eGetK (tbl : List (Str × D)) (ri rx : Env → M D) : Env → M D := fun env => ri env >>= fun x => rx env >>= fun y => gGetK tbl x y
def tKGet2 (K : PySem.W.Frag) (a : Addr) (ty tx : TE) : TE := fun σ H Q => ty σ H fun y H2 => tx σ H2 fun z H3 => ∃ (s : Str), y = .str s ∧ ((PySem.W.nsIn K a s = some none ∧ Q z H3) ∨ ∃ u v, PySem.W.nsIn K a s = some (some u) ∧ RelV v u ∧ Q v H3)
theorem pe_kget2 {es : Array DictEntry} {n : Nat} {ty tx : TE} (D : KDict X.K X.w a es n) (hg : Gl X c) (hm : X.mg c = some (.ref a)) (he : PE X e ty) (hf : PE X f tx) (m : M2 X (.Name c p) "get" apos e f cpos) (hd : (c == ("__debug__" : Str)) = false := by decide) :
    PE X (.Call (.Attribute (.Name c p) "get" apos) [e, f] [] cpos) (tKGet2 X.K a ty tx) := by
  have hc : PE X (.Name c p) (tC (.ref a)) := pe_glob hg hm (v := .ref a) rfl hd
  refine ⟨fun pins s σ H Q I h => ?_⟩
  refine wpAny_Call_method m.base m.few m.line PySem.F.plainAttrs_dict PySem.F.slot_dict_get PySem.F.type_dict_get (thn (hc.run pins s σ H (fun v H' => v = .ref a ∧ H' = H) I ⟨rfl, rfl⟩) fun u s1 ⟨x, H1, I1, rx, ex, eH⟩ => ?_)
  subst ex eH
  obtain rfl : u = Value.ref a := rx
  have mo := PySem.W.mapOf_K (prog := X.prog) (w := X.w) I1.kIn D.at_ D.lit
  refine ⟨mo.typeIs, fun b q => ?_, ?_⟩
  · cases q
    exact ⟨_, I1.kIn a _ D.at_, rfl⟩
  rw [m.trees]
  refine Calls.callWith_builtin rfl (Calls.evalArgs_plain (Calls.spliced_cons (thn (he.run pins s1 σ H1 _ I1 h) fun iv s2 ⟨y, H2, I2, ry, q2⟩ =>
    Calls.spliced_cons (thn (hf.run pins s2 σ H2 _ I2 q2) fun fv s3 ⟨z, H3, I3, rz, sv, es', q3⟩ => Calls.spliced_nil ?_))))
  subst es'
  obtain ⟨t, rfl⟩ := ry
  have mo3 := PySem.W.mapOf_K (prog := X.prog) (w := X.w) I3.kIn D.at_ D.lit
  refine call_meetsIn PySem.F.slot_dict_get mo3.typeIs PySem.F.entry_dict_get (PySem.F.args_dict_get_3 _ _ _) (meets_dict_get_default (PySem.strKind X.prog X.w) a (PySem.strKind_is X.prog X.w sv t) D.low fv) ⟨_, mo3, ?_⟩
  rcases q3 with ⟨h1, q⟩ | ⟨u, v, h1, h2, q⟩
  · rw [PySem.W.find_K D.at_ h1]
    exact ⟨z, H3, I3.tok _, rz, q⟩
  · rw [PySem.W.find_K D.at_ h1]
    exact ⟨v, H3, I3.tok _, h2, q⟩
theorem me_getK2 {ri rx : Env → M D} (T : KTab X.K X.w a tbl) (hg : Gl X c) (hm : X.mg c = some (.ref a)) (he : ME X W e ri) (hf : ME X W f rx) (m : M2 X (.Name c p) "get" apos e f cpos := by exact ⟨rfl, rfl, rfl, rfl⟩) (hd : (c == ("__debug__" : Str)) = false := by decide) :
    ME X W (.Call (.Attribute (.Name c p) "get" apos) [e, f] [] cpos) (eGetK tbl ri rx) := by
  obtain ⟨es, n, kd⟩ := T.kd
  refine ⟨(pe_kget2 kd hg hm he.pe hf.pe m hd).imp fun σ H Q ⟨env, m, mu, hE, hR, hp⟩ => ?_⟩
  refine ⟨env, m, mu, hE, hR, (Post.bind hp).mono fun x m1 mu1 H1 g1 R1 hp1 xv rxv => ⟨env, m1, mu1, hE.grow g1, R1, (Post.bind hp1).mono fun y m2 mu2 H2 g2 R2 hp2 yv ryv => ?_⟩⟩
  obtain ⟨z, rfl, rfl, hp3⟩ := toS_at (Rep.grow g2 _ _ rxv) hp2
  have hq := Post.pure hp3 R2
  refine ⟨z, rfl, ?_⟩
  cases ht : tabAt tbl z with
  | none =>
    rw [ht] at hq
    exact .inl ⟨T.no z (tabAt_none ht), hq yv ryv⟩
  | some d =>
    rw [ht] at hq
    obtain ⟨q, hq1, rfl, rfl⟩ := tabAt_some ht
    obtain ⟨u, v, h1, h2, h3⟩ := T.yes q hq1
    exact .inr ⟨u, v, h1, h2, hq v (h3 m2 H2)⟩
end
@[simp] theorem eGetK_ap {tbl : List (Str × D)} {ri rx : Env → M D} {env : Env} : eGetK tbl ri rx env = (ri env >>= fun x => rx env >>= fun y => gGetK tbl x y) := rfl
@[simp] theorem gGetK_ap {tbl : List (Str × D)} {z : Str} {y : D} {mu : List MO} : gGetK tbl (.str z) y mu = .ok ((tabAt tbl z).getD y) mu := rfl
@[simp] theorem eDisp_ap {rs : List ((Env → M D) × (Env → M D))} {env : Env} : eDisp rs env = (pairsM rs env >>= fun kvs => need ((kvs.map (·.1)).Nodup ∧ kvs.length ≤ 15) >>= fun _ => pure (.fd (kvs.map (·.1)) (kvs.map (·.2)))) := rfl
@[simp] theorem pairsM_nil {env : Env} : pairsM [] env = pure [] := rfl
@[simp] theorem pairsM_cons {p : (Env → M D) × (Env → M D)} {r : List ((Env → M D) × (Env → M D))} {env : Env} : pairsM (p :: r) env = (p.1 env >>= fun x => p.2 env >>= fun y => pairsM r env >>= fun ps => toK x >>= fun k => pure ((k, y) :: ps)) := rfl
/-- a written tuple, from what the head tells -/
theorem ktup_of {K : PySem.W.Frag} {a : Addr} {its : Array Value} {n : Nat} {od : Option Addr} {sl : Array (Option Value)} {ds : List D} (h : K.lookup a = some ⟨.type "tuple", od, .seq its n, sl⟩) (hz : its.size ≤ sizeLine) (hv : ∀ m H, ∃ vs, Vals vs its.toList ∧ Reps K m H ds vs) : ∀ m H, Rep K m H (.tup ds) (.ref a) := fun m H => by
  obtain ⟨vs, h1, h2⟩ := hv m H
  simp only [Rep]
  exact ⟨a, vs, rfl, .inr ⟨_, its, n, h, rfl, rfl, hz, h1⟩, h2⟩
end MP
namespace MP
open PySem L2 PyProof.Rows
theorem loopF_step {asg : D → Env → M Env} {body : Env → M Fl} {fg : List Nat} {d : D} {ds : List D} {env env1 e : Env} {mu mu1 : List MO} (h1 : asg d (wipeE env fg) mu = .ok env1 mu) (h2 : body env1 mu = .ok (.nx e) mu1) : loopF asg body fg [] (d :: ds) env mu = loopF asg body fg [] ds e mu1 := by
  rw [loopF_cons]
  simp [h1, h2]
@[simp] theorem rdM_fl {xs : List D} {mu : List MO} : rdM (.fl xs) mu = .ok xs mu := rfl
@[simp] theorem rdM_ref {n : Nat} {mu : List MO} : rdM (.ref n) mu = atL mu n := rfl
theorem cutD_take {xs : List D} {k : Nat} : MP.cutD xs none (some (k : Int)) = xs.take k := by
  unfold MP.cutD
  rw [HT.sIx_none, HT.sIx_nat]
  simp
theorem cutD_drop {xs : List D} {k : Nat} : MP.cutD xs (some (k : Int)) none = xs.drop k := by
  unfold MP.cutD
  rw [HT.sIx_nat, HT.sIx_none]
  by_cases h : k ≤ xs.length
  · rw [Nat.min_eq_left h]
    exact List.take_of_length_le (by rw [List.length_drop]; omega)
  · rw [Nat.min_eq_right (by omega), List.drop_eq_nil_of_le (Nat.le_refl _), List.drop_eq_nil_of_le (by omega)]
    simp
@[simp] theorem gSl_tup {xs : List D} {lo hi : Option Int} {mu : List MO} : gSl (.tup xs) lo hi mu = .ok (.tup (MP.cutD xs lo hi)) mu := rfl
theorem gEq_strs {neg : Bool} {x y : Str} {mu : List MO} : gEq neg (.str x) (.str y) mu = .ok (.bl ((x == y) != neg)) mu := by
  unfold gEq
  simp [okE, dep, eqD]
theorem extend_ok {n : Nat} {xs ys : List D} {d : D} {mu : List MO} (h : mu[n]? = some (.lst xs)) (hd : rdM d mu = .ok ys mu) (hz : xs.length + ys.length ≤ sizeLine) : gExtend (.ref n) [d] mu = .ok .non (mu.set n (.lst (xs ++ ys))) := by
  show (rdM d >>= fun zs => modL n fun xs => if xs.length + zs.length ≤ sizeLine then some (xs ++ zs, .non) else none) mu = _
  rw [bind_ap, hd]
  exact modL_at h (by rw [if_pos hz])
mutual
theorem Clo.mono {k k' : Nat} (h : k ≤ k') : ∀ (d : D), Clo k d → Clo k' d
  | .non, _ => Clo.non
  | .bl _, _ => Clo.bl
  | .int _, _ => Clo.int
  | .str _, _ => Clo.str
  | .tup xs, c => Clo.tup.mpr (Clos.mono h xs (Clo.tup.mp c))
  | .fl xs, c => Clo.fl.mpr (Clos.mono h xs (Clo.fl.mp c))
  | .ro xs, c => Clo.ro.mpr (Clos.mono h xs (Clo.ro.mp c))
  | .fd ks xs, c => Clo.fd.mpr (Clos.mono h xs (Clo.fd.mp c))
  | .ref n, c => Clo.ref.mpr (Nat.lt_of_lt_of_le (Clo.ref.mp c) h)
theorem Clos.mono {k k' : Nat} (h : k ≤ k') : ∀ (ds : List D), Clos k ds → Clos k' ds
  | [], _ => Clos.nil
  | d :: ds, c => Clos.cons (Clo.mono h d c.inv.1) (Clos.mono h ds c.inv.2)
end
theorem CloO.mono {k k' : Nat} (h : k ≤ k') {o : MO} (c : CloO k o) : CloO k' o := by
  cases o with
  | lst xs => exact Clos.mono h xs c
  | dk kvs => exact Clos.mono h _ c
theorem CloH.snoc {mu : List MO} {o : MO} (h : CloH mu) (ho : CloO (mu.length + 1) o) : CloH (mu ++ [o]) := fun x hx => by
  have e : (mu ++ [o]).length = mu.length + 1 := by simp
  rw [e]
  rcases List.mem_append.mp hx with z | z
  · exact (h x z).mono (by omega)
  · rw [List.mem_singleton.mp z]; exact ho
theorem CloH.snoc_flat {mu : List MO} {xs : List D} (h : CloH mu) (hf : flats xs = true) : CloH (mu ++ [.lst xs]) := h.snoc (show CloO _ (.lst xs) from flats_clo xs hf)
theorem strs_flat (ns : List Str) : flats (ns.map D.str) = true := flats_of fun d hd => by
  obtain ⟨z, _, e⟩ := List.mem_map.mp hd
  rw [← e]; rfl
theorem flats_app {xs ys : List D} (h : flats xs = true) (h' : flats ys = true) : flats (xs ++ ys) = true := flats_of fun d hd => (List.mem_append.mp hd).elim (flats_mem h d) (flats_mem h' d)
/-- lists of flat data, whatever stands in them -/
def FlO (ex : List MO) : Prop := ∀ o ∈ ex, ∃ xs, o = .lst xs ∧ flats xs = true
theorem FlO.nil : FlO [] := fun o h => by cases h
theorem FlO.app {a b : List MO} (h : FlO a) (h' : FlO b) : FlO (a ++ b) := fun o ho => (List.mem_append.mp ho).elim (h o) (h' o)
theorem FlO.one {xs : List D} (h : flats xs = true) : FlO [.lst xs] := fun o ho => ⟨xs, List.mem_singleton.mp ho, h⟩
theorem CloH.flo {mu ex : List MO} (h : CloH mu) (hf : FlO ex) : CloH (mu ++ ex) := fun o ho => by
  rcases List.mem_append.mp ho with z | z
  · exact (h o z).mono (by simp)
  · obtain ⟨xs, rfl, hx⟩ := hf o z
    exact flats_clo xs hx
end MP
namespace MP
open PySem L2 PyProof.Rows
theorem gAdd_ref {n : Nat} {xs ys : List D} {mu : List MO} (h : mu[n]? = some (.lst xs)) (hl : xs.length + ys.length ≤ sizeLine) : gAdd (.ref n) (.fl ys) mu = .ok (.fl (xs ++ ys)) mu := by
  show ((rdM (.ref n) : M (List D)) >>= fun xs => (rdM (.fl ys) : M (List D)) >>= fun ys => (need (xs.length + ys.length ≤ sizeLine) : M Unit) >>= fun _ => (pure (.fl (xs ++ ys)) : M D)) mu = _
  have e1 : (rdM (.ref n) : M (List D)) mu = .ok xs mu := by rw [rdM_ref, atL_ap, h]; rfl
  rw [bind_ap, e1]
  show ((rdM (.fl ys) : M (List D)) >>= fun ys => (need (xs.length + ys.length ≤ sizeLine) : M Unit) >>= fun _ => (pure (.fl (xs ++ ys)) : M D)) mu = _
  rw [bind_ap, rdM_fl]
  show ((need (xs.length + ys.length ≤ sizeLine) : M Unit) >>= fun _ => (pure (.fl (xs ++ ys)) : M D)) mu = _
  rw [bind_ap, need_ap, if_pos hl]; rfl
end MP
namespace MP
open PySem L2 PyProof.Rows
theorem gIn_names {neg : Bool} {z : Str} {ns : List Str} {d : D} {mu : List MO} (hd : rdQ d mu = .ok (ns.map D.str) mu) (hns : ∀ y, d ≠ .str y) : gIn neg (.str z) d mu = .ok (.bl (ns.contains z != neg)) mu := by
  have e : gIn neg (.str z) d = (rdQ d >>= fun ys => need (okE (.str z) = true ∧ okEs ys = true ∧ deps ys < 60) >>= fun _ => pure (.bl ((ys.any fun y => eqD y (.str z)) != neg)) : M D) := by
    cases d <;> first | rfl | exact absurd rfl (hns _)
  rw [e]
  have ok1 : ∀ ns : List Str, okEs (ns.map D.str) = true := fun ns => by
    induction ns with
    | nil => rfl
    | cons x xs ih => rw [List.map_cons, okEs, ih]; rfl
  have ok2 : ∀ ns : List Str, deps (ns.map D.str) = 0 := fun ns => by
    induction ns with
    | nil => rfl
    | cons x xs ih => rw [List.map_cons, deps, ih]; rfl
  have ok3 : ∀ ns : List Str, ((ns.map D.str).any fun y => eqD y (.str z)) = ns.contains z := fun ns => by
    induction ns with
    | nil => rfl
    | cons x xs ih =>
      rw [List.map_cons, List.any_cons, ih, List.contains_cons]
      congr 1
      show (x == z) = (z == x)
      exact BEq.comm
  simp [hd, okE, ok1, ok2, ok3]
theorem zip_ok {xs ys : List D} {mu : List MO} : wZip [.tup xs, .tup ys] mu = .ok (zipD xs ys, []) mu := rfl
theorem zipD_map {α β : Type} {f : α → D} {g : β → D} : ∀ (xs : List α) (ys : List β), zipD (xs.map f) (ys.map g) = (xs.zip ys).map fun p => .tup [f p.1, g p.2]
  | [], _ => rfl
  | _ :: _, [] => rfl
  | x :: xs, y :: ys => by
    show D.tup [f x, g y] :: zipD (xs.map f) (ys.map g) = D.tup [f x, g y] :: (xs.zip ys).map fun p => .tup [f p.1, g p.2]
    rw [zipD_map xs ys]
theorem gDget_at {o : D} {z : Str} {kvs : List (Key × D)} {d : D} {mu : List MO} (h : rdD o mu = .ok kvs mu) (hv : valD kvs (.inr z) = some d) : gDget o (.str z) mu = .ok d mu := by
  show (rdD o >>= fun kvs => toK (.str z) >>= fun k => match valD kvs k with | some d => pure d | none => bad) mu = _
  rw [bind_ap, h]
  show (match valD kvs (.inr z) with | some d => (pure d : M D) | none => bad) mu = _
  rw [hv]; rfl
end MP
namespace MP
open PySem L2 PyProof.Rows
section
variable {asg : D → Env → M Env} {t : Env → M Bool} {rk r : Env → M D} {env : Env} {mu : List MO}
theorem loopCD_nil {acc : List (Key × D)} : loopCD asg t rk r [] [] env acc mu = .ok acc mu := by
  show ((chk [] : M Unit) >>= fun _ => (pure acc : M (List (Key × D)))) mu = _
  rw [bind_ap, chk_nil]; rfl
theorem loopCD_yes {d x y : D} {ds : List D} {acc : List (Key × D)} {env1 : Env} {k : Key} {mu1 mu2 mu3 : List MO} (h1 : asg d env mu = .ok env1 mu1) (h2 : t env1 mu1 = .ok true mu1) (h3 : rk env1 mu1 = .ok y mu2) (h4 : r env1 mu2 = .ok x mu3) (h5 : toK y mu3 = .ok k mu3) :
    loopCD asg t rk r [] (d :: ds) env acc mu = loopCD asg t rk r [] ds env (putD acc k x) mu3 := by
  show ((chk [] : M Unit) >>= fun _ => asg d env >>= fun env1 => t env1 >>= fun b => if b = true then (rk env1 >>= fun y => r env1 >>= fun x => toK y >>= fun k => loopCD asg t rk r [] ds env (putD acc k x)) else loopCD asg t rk r [] ds env acc) mu = _
  rw [bind_ap, chk_nil]
  simp [h1, h2, h3, h4, h5]
end
theorem loopW_go {c : Env → M Bool} {body : Env → M Fl} {fg : List Nat} {n : Nat} {env e : Env} {mu mu1 mu2 : List MO} (h1 : c (wipeE env fg) mu = .ok true mu1) (h2 : body (wipeE env fg) mu1 = .ok (.nx e) mu2) : loopW c body fg (n + 1) env mu = loopW c body fg n e mu2 := by
  simp [loopW, h1, h2]
theorem loopW_stop {c : Env → M Bool} {body : Env → M Fl} {fg : List Nat} {n : Nat} {env : Env} {mu mu1 : List MO} (h1 : c (wipeE env fg) mu = .ok false mu1) : loopW c body fg (n + 1) env mu = .ok (.nx (wipeE env fg)) mu1 := by
  simp [loopW, h1]
theorem CloH.set {mu : List MO} {i : Nat} {xs : List D} (h : CloH mu) (hf : flats xs = true) : CloH (mu.set i (.lst xs)) := fun o ho => by
  rw [List.length_set]
  rcases List.mem_or_eq_of_mem_set ho with z | z
  · exact h o z
  · rw [z]; exact flats_clo xs hf
end MP
namespace MP
open PySem L2 PyProof.Rows
theorem rng_eq (n : Nat) : rngD 0 n = (List.range' 0 n).map fun (i : Nat) => D.int (i : Int) := by
  show ((List.range n).map fun (i : Nat) => D.int (0 + (i : Int))) = _
  rw [List.range_eq_range']
  apply List.map_congr_left
  intro i _
  rw [Int.zero_add]
end MP
namespace MP
open PySem L2 PyProof.Rows
theorem draw_tail {s : Nat} {cs : List Int} {most : Int} {mu ex : List MO} (h : At s cs mu) (hm : 0 < most) (hl : most.natAbs.log2 < 9000) : ∃ d mu', den__law_draw [.ref s, .int most] (mu ++ ex) = .ok (.vl (.int d)) (mu' ++ ex) ∧ Nx s cs mu mu' ∧ 0 ≤ d ∧ d < most := by
  obtain ⟨d, m, e, n, h0, h1⟩ := draw_at (h.app ex) hm hl
  obtain ⟨mu', rfl, nn⟩ := Nx.app h n
  exact ⟨d, mu', e, nn, h0, h1⟩
theorem shuf_tail {s : Nat} {cs : List Int} {xs : List D} {mu ex : List MO} (A : At s cs mu) (hl : xs.length < 1000) (hf : flats xs = true) : ∃ ys mu', shufD [.ref s, .fl xs] (mu ++ ex) = .ok (.fr ys) (mu' ++ ex) ∧ Nx s cs mu mu' ∧ ys.Perm xs := by
  obtain ⟨ys, m, e, n, p⟩ := shufD_ok (d := .fl xs) (A.app ex) rfl hl (flats_clo _ hf)
  obtain ⟨mu', rfl, nn⟩ := Nx.app A n
  exact ⟨ys, mu', e, nn, p⟩
theorem one_tail {s : Nat} {cs : List Int} {xs : List D} {mu ex : List MO} (h : At s cs mu) (h0 : 0 < xs.length) (h1 : xs.length < 1000) : ∃ x mu', den__law_one_of den__law_draw [.ref s, .fl xs] (mu ++ ex) = .ok (.vl x) (mu' ++ ex) ∧ Nx s cs mu mu' ∧ x ∈ xs := by
  obtain ⟨x, m, e, n, hx⟩ := one_of_at (h.app ex) h0 h1
  obtain ⟨mu', rfl, nn⟩ := Nx.app h n
  exact ⟨x, mu', e, nn, hx⟩
theorem unmap {α : Type} {f : α → D} {P : α → Prop} : ∀ {xs : List D}, (∀ x ∈ xs, ∃ a, x = f a ∧ P a) → ∃ as : List α, xs = as.map f ∧ ∀ a ∈ as, P a
  | [], _ => ⟨[], rfl, by simp⟩
  | x :: xs, h => by
    obtain ⟨a, e, ha⟩ := h x (by simp)
    obtain ⟨as, e2, h2⟩ := unmap (f := f) (P := P) (xs := xs) fun y hy => h y (by simp [hy])
    exact ⟨a :: as, by rw [e, e2, List.map_cons], fun b hb => by
      rcases List.mem_cons.mp hb with e3 | e3
      · rw [e3]; exact ha
      · exact h2 b e3⟩
theorem gSl_fl_take {xs : List D} {k : Nat} {mu : List MO} : gSl (.fl xs) none (some (k : Int)) mu = .ok (.fl (xs.take k)) mu := by
  have e : gSl (.fl xs) none (some (k : Int)) mu = .ok (.fl (MP.cutD xs none (some (k : Int)))) mu := rfl
  rw [e, cutD_take]
theorem gSl_fl_drop {xs : List D} {k : Nat} {mu : List MO} : gSl (.fl xs) (some (k : Int)) none mu = .ok (.fl (xs.drop k)) mu := by
  have e : gSl (.fl xs) (some (k : Int)) none mu = .ok (.fl (MP.cutD xs (some (k : Int)) none)) mu := rfl
  rw [e, cutD_drop]
theorem nodup_sub_len {α : Type} [DecidableEq α] : ∀ {l m : List α}, l.Nodup → (∀ x ∈ l, x ∈ m) → l.length ≤ m.length
  | [], _, _, _ => Nat.zero_le _
  | a :: l, m, hn, h => by
    have hn' := List.nodup_cons.mp hn
    have ha := h a (by simp)
    have := nodup_sub_len (l := l) (m := m.erase a) hn'.2 fun x hx => (List.mem_erase_of_ne (fun e => hn'.1 (by rw [← e]; exact hx))).mpr (h x (by simp [hx]))
    rw [List.length_erase_of_mem ha] at this
    have hp := List.length_pos_of_mem ha
    rw [List.length_cons]; omega
end MP
namespace MP
open PySem L2 PyProof.Rows
theorem loopC_mapG {γ : Type} {asg : D → Env → M Env} {t : Env → M Bool} {r : Env → M D} {env : Env} {mu : List MO} {gr : List (Nat × List D)} (hgr : chk gr mu = .ok () mu) {g f : γ → D} : ∀ {xs : List γ}, (∀ x ∈ xs, ∃ env1, asg (g x) env mu = .ok env1 mu ∧ t env1 mu = .ok true mu ∧ r env1 mu = .ok (f x) mu) → loopC asg t r gr (xs.map g) env mu = .ok (xs.map f) mu
  | [], _ => by
    show ((chk gr : M Unit) >>= fun _ => (pure [] : M (List D))) mu = _
    rw [bind_ap, hgr]; rfl
  | x :: xs, h => by
    obtain ⟨env1, h1, h2, h3⟩ := h x (by simp)
    have ih := loopC_mapG (xs := xs) hgr fun e he => h e (by simp [he])
    rw [List.map_cons, List.map_cons]
    show ((chk gr : M Unit) >>= fun _ => asg (g x) env >>= fun env1 => t env1 >>= fun b => if b = true then (r env1 >>= fun y => loopC asg t r gr (xs.map g) env >>= fun ys => pure (y :: ys)) else loopC asg t r gr (xs.map g) env) mu = _
    rw [bind_ap, hgr]
    simp [h1, h2, h3, ih]
end MP
namespace MP
open PySem L2 PyProof.Rows
theorem pop_ok {n : Nat} {y : D} {ys : List D} {mu : List MO} (h : mu[n]? = some (.lst (y :: ys))) : gPopAt (.ref n) [.int 0] mu = .ok y (mu.set n (.lst ys)) := by
  show ((toI (.int 0) : M Int) >>= fun i => modL n fun xs => if -(2 ^ 63) ≤ i ∧ i < 2 ^ 63 then match seqIndex? i xs.length with
    | some k => match xs[k]? with
      | some y => some (xs.eraseIdx k, y)
      | none => none
    | none => none else none) mu = _
  rw [bind_ap, toI_int]
  refine modL_at h ?_
  have e : seqIndex? 0 (y :: ys).length = some 0 := by
    unfold seqIndex?
    rw [List.length_cons]
    simp
  rw [if_pos (by decide), e]
  rfl
theorem gAdd_fl {xs ys : List D} {mu : List MO} (h : xs.length + ys.length ≤ sizeLine) : gAdd (.fl xs) (.fl ys) mu = .ok (.fl (xs ++ ys)) mu := by
  show ((rdM (.fl xs) : M (List D)) >>= fun xs => (rdM (.fl ys) : M (List D)) >>= fun ys => (need (xs.length + ys.length ≤ sizeLine) : M Unit) >>= fun _ => (pure (.fl (xs ++ ys)) : M D)) mu = _
  rw [bind_ap, rdM_fl]
  show ((rdM (.fl ys) : M (List D)) >>= fun ys => (need (xs.length + ys.length ≤ sizeLine) : M Unit) >>= fun _ => (pure (.fl (xs ++ ys)) : M D)) mu = _
  rw [bind_ap, rdM_fl]
  show ((need (xs.length + ys.length ≤ sizeLine) : M Unit) >>= fun _ => (pure (.fl (xs ++ ys)) : M D)) mu = _
  rw [bind_ap, need_ap, if_pos h]; rfl
theorem gAdd_tup {xs ys : List D} {mu : List MO} (h : xs.length + ys.length ≤ sizeLine) : gAdd (.tup xs) (.tup ys) mu = .ok (.tup (xs ++ ys)) mu := by
  show ((toT (.tup ys) : M (List D)) >>= fun ys => (need (xs.length + ys.length ≤ sizeLine) : M Unit) >>= fun _ => (pure (.tup (xs ++ ys)) : M D)) mu = _
  rw [bind_ap, toT_tup]
  show ((need (xs.length + ys.length ≤ sizeLine) : M Unit) >>= fun _ => (pure (.tup (xs ++ ys)) : M D)) mu = _
  rw [bind_ap, need_ap, if_pos h]; rfl
end MP
namespace MP
open PySem L2 PyProof.Rows
theorem loopF_ret {asg : D → Env → M Env} {body : Env → M Fl} {fg : List Nat} {d : D} {ds : List D} {env env1 : Env} {mu mu1 : List MO} {rv : Rv} (h1 : asg d (wipeE env fg) mu = .ok env1 mu) (h2 : body env1 mu = .ok (.rt rv) mu1) : loopF asg body fg [] (d :: ds) env mu = .ok (.rt rv) mu1 := by
  rw [loopF_cons]
  simp [h1, h2]
theorem strsOf_map : ∀ (ws : List Str), strsOf (ws.map D.str) = some ws
  | [] => rfl
  | w :: ws => by
    show (strsOf (ws.map D.str)).map (w :: ·) = _
    rw [strsOf_map ws]; rfl
theorem srtD_strs {ws : List Str} {mu : List MO} (h0 : 0 < ws.length) (h : ws.length < 64) : srtD (ws.map D.str) mu = .ok ((srtS ws).map D.str) mu := by
  unfold srtD
  rw [bind_ap, need_ap, if_pos (by rw [List.length_map]; exact h), strsOf_map]
  match ws, h0 with
  | w :: ws, _ => rfl
end MP
namespace MP
open PySem L2 PyProof.Rows
/-! ### equal, a list of the small heap read first -/
def rdE : D → M D
  | .ref n => fun mu => match mu[n]? with
    | some (.lst xs) => .ok (.fl xs) mu
    | _ => .bad
  | d => pure d
def gEqL (neg : Bool) (x y : D) : M D := rdE x >>= fun x' => rdE y >>= fun y' => gEq neg x' y'
mutual
theorem Rep.bare {K : PySem.W.Frag} {m : Mp} {H : Hp} : ∀ (d : D) (v : V), okE d = true → Rep K m H d v → Rep K ⟨[], []⟩ H d v
  | .non, v, _, h => by simp only [Rep] at h ⊢; exact h
  | .bl b, v, _, h => by simp only [Rep] at h ⊢; exact h
  | .int i, v, _, h => by simp only [Rep] at h ⊢; exact h
  | .str x, v, _, h => by simp only [Rep] at h ⊢; exact h
  | .tup ds, v, o, h => by
    simp only [Rep] at h ⊢
    obtain ⟨a, vs, e, hs, hr⟩ := h
    exact ⟨a, vs, e, hs, Reps.bare ds vs o hr⟩
  | .fl ds, v, o, h => by
    simp only [Rep] at h ⊢
    obtain ⟨a, vs, e, hs, hn, hr⟩ := h
    exact ⟨a, vs, e, hs, ⟨by simp, by simp⟩, Reps.bare ds vs o hr⟩
  | .ro ds, v, o, h => by
    simp only [Rep] at h ⊢
    obtain ⟨a, vs, e, hs, hr⟩ := h
    exact ⟨a, vs, e, hs, Reps.bare ds vs o hr⟩
  | .fd _ _, _, o, _ => by cases o
  | .ref _, _, o, _ => by cases o
theorem Reps.bare {K : PySem.W.Frag} {m : Mp} {H : Hp} : ∀ (ds : List D) (vs : List V), okEs ds = true → Reps K m H ds vs → Reps K ⟨[], []⟩ H ds vs
  | [], vs, _, h => by simp only [Reps] at h ⊢; exact h
  | d :: ds, vs, o, h => by
    simp only [okEs, Bool.and_eq_true] at o
    obtain ⟨v, r, e, h1, h2⟩ := Reps.cons_iff.mp h
    exact Reps.cons_iff.mpr ⟨v, r, e, Rep.bare d v o.1 h1, Reps.bare ds r o.2 h2⟩
end
/-- the datum that a value has where no place is known -/
theorem rdE_ok {K : PySem.W.Frag} {W : Wx} {m : Mp} {H : Hp} {mu : List MO} {d : D} {v : V} {Q : D → Mp → List MO → Hp → Prop} (R : Rel K m mu H) (h : Rep K m H d v) (hp : Post K W m H (rdE d mu) Q) : ∃ d', (okE d' = true → Rep K ⟨[], []⟩ H d' v) ∧ Q d' m mu H := by
  cases d
  case ref n =>
    simp only [Rep] at h
    obtain ⟨a, rfl, hm⟩ := h
    obtain ⟨o, ho, hr⟩ := R.at' hm
    have e : rdE (.ref n) mu = match mu[n]? with
      | some (.lst xs) => MP.R.ok (.fl xs) mu
      | _ => .bad := rfl
    rw [e, ho] at hp
    cases o with
    | dk _ => exact (show False from hp).elim
    | lst xs =>
      obtain ⟨vs, hH, hrs⟩ := hr
      refine ⟨.fl xs, fun o => ?_, hp m H .refl R⟩
      simp only [Rep]
      exact ⟨a, vs, rfl, hH, ⟨by simp, by simp⟩, Reps.bare xs vs o hrs⟩
  all_goals exact ⟨_, fun o => Rep.bare _ _ o h, hp m H .refl R⟩
section
variable {X : Cx} {W : Wx}
theorem opm_eqL {neg : Bool} : OpM X.K W (rEqM neg X.K) (gEqL neg) := ⟨fun x y v w m mu H Q rl hx hy hp => by
  obtain ⟨d, h1, hp⟩ := rdE_ok rl hx (Post.bind hp)
  obtain ⟨e, h2, hp⟩ := rdE_ok rl hy (Post.bind hp)
  obtain ⟨⟨k1, k2, k3⟩, hp⟩ := need_ok rl (Post.bind hp)
  exact ⟨d, e, ⟨[], []⟩, h1 k1, h2 k2, k1, k2, k3, Post.pure hp rl _ (by simp only [Rep])⟩⟩
end
@[simp] theorem rdE_ref {n : Nat} {mu : List MO} : rdE (.ref n) mu = match mu[n]? with
    | some (.lst xs) => .ok (.fl xs) mu
    | _ => .bad := rfl
@[simp] theorem rdE_fl {xs : List D} {mu : List MO} : rdE (.fl xs) mu = .ok (.fl xs) mu := rfl
@[simp] theorem fComp2_ap {w w1 : Env → M Wk} {asg asg1 : D → Env → M Env} {t t1 : Env → M Bool} {r : Env → M D} {vs vs1 : List Nat} {env : Env} : fComp2 w asg t w1 asg1 t1 r vs vs1 env = (w env >>= fun p => noX (loopC2 asg t w1 asg1 t1 r vs1 p.2 p.1 [] (wipeE env vs))) := rfl
theorem toBs_map {α : Type} {p : α → Bool} {mu : List MO} : ∀ (ts : List α), toBs (ts.map fun t => D.bl (p t)) mu = .ok (ts.map p) mu
  | [] => rfl
  | t :: ts => by
    show ((toB (.bl (p t)) : M Bool) >>= fun b => toBs (ts.map fun t => D.bl (p t)) >>= fun bs => pure (b :: bs)) mu = _
    simp [toBs_map ts]
theorem gAll_map {α : Type} {p : α → Bool} {mu : List MO} (ts : List α) : gAll (.fl (ts.map fun t => D.bl (p t))) mu = .ok (.bl (ts.all p)) mu := by
  unfold gAll
  simp [toBs_map, List.all_map, Function.comp_def]
theorem gAny_map {α : Type} {p : α → Bool} {mu : List MO} (ts : List α) : gAny (.fl (ts.map fun t => D.bl (p t))) mu = .ok (.bl (ts.any p)) mu := by
  unfold gAny
  simp [toBs_map, List.any_map, Function.comp_def]
theorem loopC2_nil {asg asg1 : D → Env → M Env} {t t1 : Env → M Bool} {w1 : Env → M Wk} {r : Env → M D} {vs1 : List Nat} {acc : List D} {env : Env} {mu : List MO} : loopC2 asg t w1 asg1 t1 r vs1 [] [] acc env mu = .ok acc mu := by
  show (chk [] >>= fun _ => (pure acc : M (List D))) mu = _
  rw [bind_ap, chk_nil]; rfl
theorem loopC2_step {asg asg1 : D → Env → M Env} {t t1 : Env → M Bool} {w1 : Env → M Wk} {r : Env → M D} {vs1 : List Nat} {d : D} {ds acc xs : List D} {p : Wk} {env env1 : Env} {mu : List MO} (h1 : asg d env mu = .ok env1 mu) (h2 : t env1 mu = .ok true mu) (h3 : w1 env1 mu = .ok p mu) (hl : acc.length + p.1.length ≤ sizeLine) (h4 : loopC asg1 t1 r p.2 p.1 (wipeE env1 vs1) mu = .ok xs mu) :
    loopC2 asg t w1 asg1 t1 r vs1 [] (d :: ds) acc env mu = loopC2 asg t w1 asg1 t1 r vs1 [] ds (acc ++ xs) env mu := by
  show (chk [] >>= fun _ => asg d env >>= fun env1 => t env1 >>= fun b => if b = true then (w1 env1 >>= fun p => need (acc.length + p.1.length ≤ sizeLine) >>= fun _ => loopC asg1 t1 r p.2 p.1 (wipeE env1 vs1) >>= fun xs => loopC2 asg t w1 asg1 t1 r vs1 [] ds (acc ++ xs) env) else loopC2 asg t w1 asg1 t1 r vs1 [] ds acc env) mu = _
  rw [bind_ap, chk_nil]
  dsimp only
  rw [bind_ap, h1]
  dsimp only
  rw [bind_ap, h2]
  dsimp only
  rw [if_pos rfl, bind_ap, h3]
  dsimp only
  rw [bind_ap, need_ap, if_pos hl]
  dsimp only
  rw [bind_ap, h4]
theorem ixD8 {a b c d e f g h x : D} {xs : List D} {mu : List MO} : ixD (a :: b :: c :: d :: e :: f :: g :: h :: x :: xs) 8 mu = .ok x mu := ixD_at (by unfold atI ixN; simp; rw [if_pos (by omega)]; rfl)
end MP
namespace MP
open PySem L2 PyProof.Rows
/-! ### defs that may raise -/
section
variable {P : Program} {w : World} {K : PySem.W.Frag} {mg : Str → Option Value} {base : Heap}
theorem fn_mpX {x qual : Str} {st : Stmt} {f : Addr} {fd : FuncData} {N ps : List Str} {k n : Nat} {r : Env → M Fl} (F : Fun K x qual st f fd) (S : FnScope N ps (defScope st)) (hn : ps.length = n)
    (hbody : ∀ (cdv : Value) (A : Around) (outer : List PySem.Env) (s : Shared) (H : Hp) (E : XK), Room k (A.deeper (envOfC qual (defScope st) s.heap.objs.size f cdv)) → MSs (cxOf (L2.CX P w) P w K mg base N qual (defScope st) f cdv A outer s H E) (MP.WE mg K E) (defBody st) r) :
    FnOk P w K mg base (L2.CX P w) (k + 1) f fd ps (sp K mg n (runB N.length r)) := by
  refine F.okX S (fun vs H Q E h => h.1.trans hn.symm) fun cdv A outer s H vs Q E hr h => ?_
  obtain ⟨_, ds, m, mu, hr1, R, hp⟩ := h
  refine ⟨_, (hbody cdv A outer s H E hr).ps, startE N.length ds, m, mu, startE_rep hr1, R, ?_⟩
  unfold runB at hp
  cases hq : r (startE N.length ds) mu with
  | bad => rw [hq] at hp; exact hp
  | exc x mu' => rw [hq] at hp; exact hp
  | ok fl mu' =>
    rw [hq] at hp
    cases fl with
    | rt rv => exact hp
    | nx e => exact fun m' H' g R' σ' _ => hp m' H' g R' .non (by simp only [Rep])
    | bk e => exact (show False from hp).elim
    | ct e => exact (show False from hp).elim
/-- a def that raises nothing, for callers where something may fly -/
theorem sp_noX {CX : CXT} {k n : Nat} {f : Addr} {fd : FuncData} {ps : List Str} {den : List D → M Rv} (F : FnOk P w K mg base CX k f fd ps (sp K mg n den)) : FnOk P w K mg base CX k f fd ps (sp K mg n fun ds => noX (den ds)) :=
  ⟨fun vs H Q E h => F.len vs H Q E (by
      obtain ⟨a, ds, m, mu, hr, R, hp⟩ := h
      exact ⟨a, ds, m, mu, hr, R, (noX_post hp).wx fun _ _ _ z => z.elim⟩),
    fun A outer s H args us vs Q E hr e0 hb hv h => F.run A outer s H args us vs Q E hr e0 hb hv (by
      obtain ⟨a, ds, m, mu, hr, R, hp⟩ := h
      exact ⟨a, ds, m, mu, hr, R, (noX_post hp).wx fun _ _ _ z => z.elim⟩)⟩
end
section
variable {X : Cx} {W : Wx}
theorem xokL : XOk (L2.CX X.prog X.w) X W0 := ⟨E0, passL, fun _ _ _ h => h.elim⟩
theorem xokE {E : XK} (tk : Takes X fun cls d _ H => E cls d H) : XOk (L2.CX X.prog X.w) X (MP.WE X.mg X.K E) := ⟨E, fun _ _ _ _ e s' I c => tk e s' (XE.of_call I (fun _ _ _ h => h) c), fun _ _ _ h => h⟩
/-- what raises nothing, where something may fly -/
theorem _root_.L2.PS.nox {st : Stmt} {t : TS} (h : PS X.nox st t) : PS X st t :=
  ⟨fun pins s σ H D I hw => wpAny_mono (h.run pins s σ H D (Inv.wish I fun _ _ => False) hw) (fun _ _ q => SP.unwish q) fun _ _ z => z.elim⟩
def sNoX (r : Env → M Fl) : Env → M Fl := fun env => noX (r env)
theorem ms_nox {st : Stmt} {r : Env → M Fl} (h : MS X.nox W0 st r) : MS X W st (sNoX r) := ⟨h.ps.nox.imp fun D σ H ⟨env, m, mu, hE, R, hp⟩ => ⟨env, m, mu, hE, R, noX_post hp⟩⟩
/-! ### raise X('..') -/
def sRaise (x : Xn) : Env → M Fl := fun _ => raise x
/-- what the written part says of an own class of errors -/
structure ExcK (K : PySem.W.Frag) (mg : Str → Option Value) (x : Str) (C : Addr) : Prop where
  gC : mg x = some (.ref C)
  kC : PySem.W.keepIn K (.ref C) = true
  bC : PySem.W.subIn K (.ref C) (.type "BaseException") = some true
  tC : PySem.W.typeIn K (.ref C) = some (.type "type")
  dC : PySem.W.hasDictIn K C = true
abbrev veMro : List Value := [.type "ValueError", .type "Exception", .type "BaseException", .type "object"]
/-- the wish W serves the wish Wo -/
def Serves (X : Cx) (W : Wx) (Wo : WX) : Prop := ∀ x m H cls d σ, W x m H → XRep X.mg X.K m H x cls d → Wo cls d σ H
theorem serves0 {Wo : WX} : Serves X W0 Wo := fun _ _ _ _ _ _ h _ => h.elim
theorem servesE {E : XK} : Serves X (MP.WE X.mg X.K E) fun cls d _ H => E cls d H := fun _ _ _ _ _ _ h r => h _ _ r
theorem ms_raise {x m : Str} {C : Addr} {j : Nat} {p p2 pos pos' : Pos} {Wo : WX} (hc : X.calm = true) (tk : Takes X Wo) (sv : Serves X W Wo) (T : ExcK X.K X.mg x C) (q : PySem.W.excIn X.K C veMro "ValueError.__new__" = true) (hg : Gl X x) (hdb : (x == ("__debug__" : Str)) = false := by decide) :
    MS X W (.Raise (some (.Call (.Name x p) [.Constant (.str m) j p2] [] pos)) none pos') (sRaise ⟨x, []⟩) :=
  ⟨(ps_raise hc tk (pmk_own PySem.F.excBase_ValueError q T.gC T.kC (raises_own T.bC T.tC) hg hdb)).imp fun D σ H ⟨env, m, mu, hE, R, hp⟩ => sv _ _ _ _ _ _ (show W ⟨x, []⟩ m H from hp m H .refl R) ⟨T.gC, rfl⟩⟩
end
/-! ### try -/
/-- what the exception is wished for, at the slots that are known -/
def tryW (mg : Str → Option Value) (K : PySem.W.Frag) (h : Env) (W : WX) : Wx := fun x m H => ∀ cls d, XRep mg K m H x cls d → ∀ σ, RepE K m H h σ → W cls d σ H
open Classical in
/-- a call within a try: h is what is known where it is caught -/
noncomputable def eCallT (fg : List Nat) (h : Env) (den : List D → M Rv) (rs : Env → M (List D)) : Env → M D := fun env => rs env >>= fun xs => if wipeE env fg = h then (den xs >>= fun rv => pure (rvD rv)) else bad
theorem eCallT_ap {fg : List Nat} {h env : Env} {den : List D → M Rv} {rs : Env → M (List D)} (e : wipeE env fg = h) : eCallT fg h den rs env = (rs env >>= fun xs => den xs >>= fun rv => pure (rvD rv)) := by
  unfold eCallT
  simp only [if_pos e]
theorem Post.wxg {K : PySem.W.Frag} {W W' : Wx} {m : Mp} {H : Hp} {α : Type} {r : R α} {Q : α → Mp → List MO → Hp → Prop} (h : Post K W m H r Q) (hw : ∀ x m' H', Grow m m' H H' → W x m' H' → W' x m' H') : Post K W' m H r Q := by
  cases r with
  | ok a mu => exact h
  | exc x mu => exact fun m' H' g R => hw _ _ _ g (h m' H' g R)
  | bad => exact h
section
variable {X : Cx} {W : Wx} {k n : Nat} {f : Addr} {fd : FuncData} {ps : List Str} {den : List D → M Rv} {x : Str} {st : Stmt} {p pos : Pos} {e : Expr} {es : List Expr} {h : Env} {fg : List Nat} {Ws : WX}
theorem me_callT {rs : Env → M (List D)} (T : FnI X.K X.mg x st f fd ps) (F : FnOk X.prog X.w X.K X.mg X.base (L2.CX X.prog X.w) k f fd ps (sp X.K X.mg n den)) (hr : Room k X.A) (tk : Takes X Ws) (hg : Gl X x)
    (ha : MA X (tryW X.mg X.K h Ws) (e :: es) rs) (hl : n = (e :: es).length) (hdb : (x == ("__debug__" : Str)) = false := by decide) (he : starEach (e :: es) X.env = (false, eval e X.env) :: starEach es X.env := by rfl) (hpl : (backTo pos (starEach es X.env)).any (·.1) = false := by rfl) :
    ME X (tryW X.mg X.K h Ws) (.Call (.Name x p) (e :: es) [] pos) (eCallT fg h (lenD n den) rs) := by
  refine ⟨(pe_callS F hr hg T.mg T.fn.kp T.bi (fun σ => passAt tk σ) ha.pa hdb he hpl).imp fun σ H Q ⟨env, m, mu, hE, hR, hp⟩ => ⟨env, m, mu, hE, hR, (Post.bind hp).mono fun xs m1 mu1 H1 g1 R1 hp1 vs rv => ?_⟩⟩
  by_cases hw : wipeE env fg = h
  · rw [if_pos hw] at hp1
    by_cases hlen : xs.length = n
    · have hp2 : Post X.K (tryW X.mg X.K h Ws) m1 H1 (if xs.length = n then den xs mu1 else .bad) _ := Post.bind hp1
      rw [if_pos hlen] at hp2
      refine ⟨by rw [← rv.length]; exact hlen, xs, m1, mu1, rv, R1, (Post.wxg hp2 fun y m' H' g q cls d xr => ?_).mono fun r2 m2 mu2 H2 g2 R2 hp3 => ?_⟩
      · refine q cls d xr σ ?_
        rw [← hw]
        exact ((hE.grow g1).grow g).wipeL fg
      · cases r2 with
        | vl d => exact fun v rv => Post.pure (a := d) hp3 R2 v rv
        | fr ds => exact fun a vs h0 h1 hn hr _ => Post.pure (a := D.fl ds) hp3 R2 _ (by simp only [Rep]; exact ⟨a, vs, rfl, h1, hn, hr⟩)
    · have hp2 : Post X.K (tryW X.mg X.K h Ws) m1 H1 (if xs.length = n then den xs mu1 else .bad) _ := Post.bind hp1
      rw [if_neg hlen] at hp2
      exact (show False from hp2).elim
  · rw [if_neg hw] at hp1
    exact (show False from hp1).elim
/-- .. where nothing may fly: in a def that raises nothing, in one that may raise -/
theorem me_callL {rs : Env → M (List D)} (T : FnI X.K X.mg x st f fd ps) (F : FnOk X.prog X.w X.K X.mg X.base (L2.CX X.prog X.w) k f fd ps (sp X.K X.mg n den)) (hr : Room k X.A) (hx : XOk (L2.CX X.prog X.w) X W) (hg : Gl X x)
    (ha : MA X W (e :: es) rs) (hl : n = (e :: es).length) (hdb : (x == ("__debug__" : Str)) = false := by decide) (he : starEach (e :: es) X.env = (false, eval e X.env) :: starEach es X.env := by rfl) (hpl : (backTo pos (starEach es X.env)).any (·.1) = false := by rfl) :
    ME X W (.Call (.Name x p) (e :: es) [] pos) (eCall (lenD n den) rs) := me_call F hr hg T.mg T.fn.kp T.bi hx ha hl hdb he hpl
end
end MP
/-! ### try with several clauses, some of them with a name -/
namespace L2
open PySem PySem.Spec PyProof.Rows
/-- a clause: its class, the slot of its name, what its suite reads -/
abbrev Cl := Value × Option Nat × (Addr → Value → Option Addr → TS)
def putO : Option Nat → Addr → St → St
  | none, _, σ => σ
  | some i, a, σ => σ.set i (some (.ref a))
def clrO : Option Nat → St → St
  | none, σ => σ
  | some i, σ => σ.set i none
def endsO (o : Option Nat) (D : Ends) : Ends := { nx := fun σ H => D.nx (clrO o σ) H, rt := D.rt, bk := fun σ H => D.bk (clrO o σ) H, ct := fun σ H => D.ct (clrO o σ) H }
def wMix (K : PySem.W.Frag) (Wo : WX) (D : Ends) : List Cl → WX
  | [] => Wo
  | (c, o, ts) :: r => fun cls d σ H => ∃ b, PySem.W.exmOne K cls c = some b ∧ (b = true → ∀ a, H a = none → ts a cls d (endsO o D) (putO o a σ) H) ∧ (b = false → wMix K Wo D r cls d σ H)
inductive Clauses (X : Cx) : List ExceptHandler → List Cl → Prop
  | nil : Clauses X [] []
  | plain {x : Str} {c : Value} {ts : Addr → Value → Option Addr → TS} {st : Stmt} {sts : List Stmt} {q1 q2 : Pos} {r : List ExceptHandler} {l : List Cl} (nm : Names X x c)
      (su : ∀ (a : Addr) (oe : Obj) (cls : Value) (d : Option Addr) (pn : List (Addr × Obj)), Zc cls d oe → (∃ vs, oe.data = .fields vs) → PSs (X.suite a ((a, oe) :: pn)) (st :: sts) (ts a cls d)) (rest : Clauses X r l) :
      Clauses X (.ExceptHandler (some (.Name x q1)) none (st :: sts) q2 :: r) ((c, none, ts) :: l)
  | named {x y : Str} {c : Value} {i : Nat} {ts : Addr → Value → Option Addr → TS} {st : Stmt} {sts : List Stmt} {q1 q2 : Pos} {r : List ExceptHandler} {l : List Cl} (nm : Names X x c) (hi : X.N[i]? = some y) (ln : X.env.kindOf y = some .local)
      (su : ∀ (a : Addr) (oe : Obj) (cls : Value) (d : Option Addr) (pn : List (Addr × Obj)), Zc cls d oe → (∃ vs, oe.data = .fields vs) → PSs (X.suite a ((a, oe) :: pn)) (st :: sts) (ts a cls d)) (rest : Clauses X r l) :
      Clauses X (.ExceptHandler (some (.Name x q1)) (some y) (st :: sts) q2 :: r) ((c, some i, ts) :: l)
section
variable {X : Cx} {pins : List (Addr × Obj)} {σ' : St} {H' : Hp} {sI s' : Shared} {B : Heap} {cls : Value} {d : Option Addr} {a : Addr} {D : Ends} {Wo : WX}
/-- the exception stands caught: what is kept of it -/
structure Caught (X : Cx) (pins : List (Addr × Obj)) (B : Heap) (sI s' : Shared) (cls : Value) (d : Option Addr) (a : Addr) (σ' : St) (H' : Hp) (h3 : Heap) : Prop where
  fr : X.stack = X.env :: X.outer
  lf : X.env.frame = some X.env.locals
  inv : Inv X pins σ' H' sI
  nb : ∀ b o, sI.heap.get? b = some o → b ∉ frs X.stack → B.get? b = some o
  up : sI.heap.UpToSlots h3
  fly : HandSPX.FlyingZ B (X.env :: X.outer) a (Zc cls d) h3
  na : H' a = none
  os : s'.os = sI.os
  ag : AllBare s'.gens
theorem Caught.land (c : Caught X pins B sI s' cls d a σ' H' s'.heap) {h4 : Heap} (fl4 : HandSPX.FlyingZ B (X.env :: X.outer) a (Zc cls d) h4) (up4 : s'.heap.UpToSlots h4) : Inv X pins σ' H' { s' with heap := h4 } :=
  c.inv.landed c.nb fl4.1 (c.up.trans up4) c.os c.ag
theorem Caught.out (c : Caught X pins B sI s' cls d a σ' H' s'.heap) : a ≠ X.env.locals ∧ a ∉ X.fs := by
  obtain ⟨oe, vs, he, hz, hd⟩ := c.fly.there
  have no : a ∉ frs (X.env :: X.outer) := fun hm => by
    obtain ⟨_, o1, e1, hnf⟩ := c.fly.2.2.1.mem hm
    cases he.symm.trans e1
    exact hnf _ hd
  refine ⟨fun z => no (List.mem_filterMap.mpr ⟨X.env, List.mem_cons_self, by rw [c.lf, z]⟩), fun hm => ?_⟩
  obtain ⟨e1, h1, h2⟩ := List.mem_filterMap.mp hm
  exact no (List.mem_filterMap.mpr ⟨e1, List.mem_cons_of_mem _ h1, h2⟩)
/-- the class of a clause is asked -/
theorem Caught.ask (c : Caught X pins B sI s' cls d a σ' H' s'.heap) {x : Str} {cv : Value} {q1 : Pos} {Q : Value → Shared → Prop} {E : Value → Shared → Prop} (nm : Names X x cv) (q : Q cv s') :
    wpAny (model X.prog X.w) (X.A.mark (some (.ref a))) (eval (.Name x q1) X.env) Q E s' := by
  obtain ⟨oe, vs, he, hz, hd⟩ := c.fly.there
  have I3 := c.land c.fly (fun b o e _ => ⟨_, e⟩)
  have S3 := I3.suite he hd c.na c.out.1 c.out.2
  rcases nm with ⟨hg, hdb, hm | ⟨hm, hv, hn⟩⟩
  · exact ld_glob (X := X.suite a ((a, oe) :: (X.pn ++ pins))) S3 hg hm q hdb
  · exact ld_blt (X := X.suite a ((a, oe) :: (X.pn ++ pins))) S3 hg hm hv q hn hdb
theorem Caught.looks (c : Caught X pins B sI s' cls d a σ' H' s'.heap) : PySem.W.Looks (model X.prog X.w) s'.heap (typeOf (.ref a)) cls := by
  obtain ⟨oe, vs, he, hz, hd⟩ := c.fly.there
  exact fun A Q E s k q => wpAny_typeOf_ref (k _ _ he) (by rw [hz.1]; exact q)
/-- no clause is left: it flies on -/
theorem Caught.on (c : Caught X pins B sI s' cls d a σ' H' s'.heap) (tk : Takes X Wo) (w : Wo cls d σ' H') : wpAny (model X.prog X.w) X.A (handleBy (.ref a) X.env []) (SP X pins D) X.xe s' := by
  refine wpAny_handleBy_nil ?_
  obtain ⟨_, _, _, oe, vs, T, oT, ts, he, _, hd, h1, _⟩ := c.fly
  unfold PySem.passOn
  refine wpAny_bind (wpAny_field he hd h1 ?_)
  rw [if_neg (by simp : ¬ ((Value.ref T == Value.none) = true))]
  have last : wpAny (model X.prog X.w) X.A (setFlight (.ref a) X.env.frame) (fun _ s4 => wpAny (model X.prog X.w) X.A (throw (.ref a) : Sem Flow) (SP X pins D) X.xe s4) X.xe s' := by
    rw [c.lf]
    refine HandSPX.setFlight_upZ c.fly fun h4 hh4 up4 => wpAny_throw (tk _ _ ?_)
    exact ⟨a, B, sI, pins, σ', H', cls, d, rfl, c.inv, c.nb, c.up.trans up4, .inr (.inr (by rw [c.fr]; exact hh4)), c.na, c.os, c.ag, w⟩
  first
    | exact wpAny_bind last
    | exact wpAny_bind (wpAny_pure (wpAny_bind last))
/-- the clauses, one after the other -/
theorem Caught.go (hN : X.N.Nodup) (tk : Takes X Wo) (c : Caught X pins B sI s' cls d a σ' H' s'.heap) : ∀ {r : List ExceptHandler} {l : List Cl}, Clauses X r l → wMix X.K Wo D l cls d σ' H' →
    wpAny (model X.prog X.w) X.A (handleBy (.ref a) X.env r) (SP X pins D) X.xe s' := by
  intro r l cl
  induction cl with
  | nil => exact fun w => c.on tk w
  | @plain x cv ts st sts q1 q2 r l nm su rest ih =>
    rintro ⟨b, hb, yes, no⟩
    refine wpAny_handleBy_cons (codeAny_handlers_test (c.ask nm ((PySem.W.exm_one (M := model X.prog X.w) ((c.land c.fly fun b o e _ => ⟨_, e⟩).kIn) c.looks hb).here ?_))) (fun z => nomatch z)
    cases b with
    | false => exact ih (no rfl)
    | true =>
      refine codeAny_handlers_suite (HandSPX.lands_againZ c.fly fun h4 fl4 up4 => ?_)
      obtain ⟨oe, vs, he, hz, hd⟩ := fl4.there
      have S4 := (c.land fl4 up4).suite he hd c.na c.out.1 c.out.2
      refine wpAny_mono ((su a oe cls d (X.pn ++ pins) hz ⟨_, hd⟩).run [] _ _ H' (endsO none D) S4 (yes rfl a c.na)) (fun f s6 sp6 => ?_) (fun _ _ z => z.elim)
      cases f with
      | ret u =>
        obtain ⟨v6, σ6, H6, S6, z⟩ := sp6
        exact ⟨_, _, _, S6.unsuite c.inv.ok, z⟩
      | _ =>
        obtain ⟨σ6, H6, S6, z⟩ := sp6
        exact ⟨_, _, S6.unsuite c.inv.ok, z⟩
  | @named x y cv i ts st sts q1 q2 r l nm hi ln su rest ih =>
    rintro ⟨b, hb, yes, no⟩
    refine wpAny_handleBy_cons (codeAny_handlers_test (c.ask nm ((PySem.W.exm_one (M := model X.prog X.w) ((c.land c.fly fun b o e _ => ⟨_, e⟩).kIn) c.looks hb).here ?_))) (fun z => nomatch z)
    cases b with
    | false => exact ih (no rfl)
    | true =>
      refine codeAny_handlers_suite_as (HandSPX.lands_againZ c.fly fun h4 fl4 up4 => ?_)
      obtain ⟨oe, vs, he, hz, hd⟩ := fl4.there
      have S4 := (c.land fl4 up4).suite he hd c.na c.out.1 c.out.2
      refine store_ok (X := X.suite a ((a, oe) :: (X.pn ++ pins))) (v := .ref a) S4 hN hi (.inl ln) rfl (fun s5 S5 => ?_) (.inr ln)
      refine wpAny_mono ((su a oe cls d (X.pn ++ pins) hz ⟨_, hd⟩).run [] s5 _ H' (endsO (some i) D) S5 (yes rfl a c.na)) (fun f s6 sp6 => ?_) (fun _ _ z => z.elim)
      have fin : ∀ {σ6 : St} {H6 : Hp} {Q : Shared → Prop}, Inv (X.suite a ((a, oe) :: (X.pn ++ pins))) [] σ6 H6 s6 → (∀ s7, Inv X pins (σ6.set i none) H6 s7 → Q s7) →
          wpAny (model X.prog X.w) X.A (do bindName X.env y .none; unbindBehindTheSuite X.env y q2) (fun _ s7 => Q s7) X.xe s6 := fun S6 hq => gone_ok (S6.unsuite c.inv.ok) hN hi ln hq
      cases f with
      | ret u =>
        obtain ⟨v6, σ6, H6, S6, z1, z2⟩ := sp6
        exact fin S6 fun s7 J7 => ⟨_, _, _, J7, z1, z2⟩
      | next =>
        obtain ⟨σ6, H6, S6, z⟩ := sp6
        exact fin S6 fun s7 J7 => ⟨_, _, J7, z⟩
      | brk =>
        obtain ⟨σ6, H6, S6, z⟩ := sp6
        exact fin S6 fun s7 J7 => ⟨_, _, J7, z⟩
      | cont =>
        obtain ⟨σ6, H6, S6, z⟩ := sp6
        exact fin S6 fun s7 J7 => ⟨_, _, J7, z⟩
theorem ps_try_mix {body : List Stmt} {h0 : ExceptHandler} {hs0 : List ExceptHandler} {l : List Cl} {pos : Pos} {tb : WX → TS} (hs : X.stack = X.env :: X.outer) (hf : X.env.frame = some X.env.locals) (hN : X.N.Nodup) (tk : Takes X Wo)
    (hb : ∀ (W : WX) (pn : List (Addr × Obj)) (xe : Value → Shared → Prop), Takes (X.tr pn xe) W → PassesOwn (model X.prog X.w) X.A X.env xe → PSs (X.tr pn xe) body (tb W)) (cl : Clauses X (h0 :: hs0) l) :
    PS X (.Try body (h0 :: hs0) [] [] pos) (fun D σ H => tb (wMix X.K Wo D l) D σ H) := by
  refine ⟨fun pins s σ H D I w => wpAny_Try_except ?_⟩
  have run := hb (wMix X.K Wo D l) (X.pn ++ pins) (fun e s1 => wpAny (model X.prog X.w) X.A (noteFrame e X.env) (fun _ s2 => wpAny (model X.prog X.w) X.A (setFlight e none) (fun _ s3 =>
    wpAny (model X.prog X.w) X.A (handleBy e X.env (h0 :: hs0)) (SP X pins D) X.xe s3) X.xe s2) X.xe s1) (fun u s' xx => ?_) PassesOwn.looking
  · refine wpAny_mono (run.run [] s σ H D (I.toTry _) w) (fun f s1 sp1 => ?_) (fun _ _ z => z)
    cases f with
    | next =>
      obtain ⟨σ1, H1, J1, z⟩ := sp1
      exact wpAny_execs_nil ⟨σ1, H1, J1.ofTry I.ok, z⟩
    | ret u =>
      obtain ⟨v, σ1, H1, J1, z⟩ := sp1
      exact ⟨v, σ1, H1, J1.ofTry I.ok, z⟩
    | _ =>
      obtain ⟨σ1, H1, J1, z⟩ := sp1
      exact ⟨σ1, H1, J1.ofTry I.ok, z⟩
  · obtain ⟨a, B, sI, pins', σ', H', cls, d, rfl, J', nb, up, sky, na, os, ag, w'⟩ := xx
    have J : Inv X pins σ' H' sI := J'.ofTry I.ok
    have sky' : Sky B (X.env :: X.outer) a (Zc cls d) X.env.locals s'.heap := by rw [← hs]; exact sky
    refine Sky.land Zc.steady (by rw [I.ok.frames, hs]) hf sky' fun h3 fl3 up3 => ?_
    exact Caught.go (s' := { s' with heap := h3 }) hN tk ⟨hs, hf, J, nb, up.trans up3, fl3, na, os, ag⟩ cl w'
end
end L2
namespace L2
open PySem PySem.Spec PyProof.Rows
/-- isinstance(e, c), e the exception that the suite holds, with a dict or none -/
def rIsX (K : PySem.W.Frag) (D a : Addr) (d : Option Addr) : List V → Hp → VK → Prop := fun xs H Q => (∀ dd, d = some dd → ∃ gs, H dd = some (.xd gs)) ∧ ∃ (c : V) (cv : Value) (b : Bool), xs = [.ref a, c] ∧ (∀ u, RelV c u → u = cv) ∧ PySem.W.kitOne K (.ref D) cv = some b ∧ Q (.bl b) H
theorem call_isX {X : Cx} {a D : Addr} {oe : Obj} {d : Option Addr} {pn : List (Addr × Obj)} (C : ExcC X.K D) (hz : Zc (.ref D) d oe) (hf : ∃ vs, oe.data = .fields vs) : CallR (X.suite a ((a, oe) :: pn)) (.builtin "isinstance") (rIsX X.K D a d) := by
  rintro pins s σ H xs us Q I r ⟨hd, c, cv, b, rfl, hcv, e, q⟩
  match us, r with
  | [u1, u2], .cons r1 (.cons r2 .nil) =>
    obtain rfl : u1 = Value.ref a := r1
    obtain rfl := hcv _ r2
    obtain ⟨vs, hv⟩ := hf
    have hget := (I.pin (a, oe) (List.mem_append_left _ List.mem_cons_self)).1
    have J : ∃ od, PySem.W.InstAt s.heap a oe D od := by
      cases hdo : d with
      | none => exact ⟨none, hget, hz.1, by unfold PySem.W.notCls; rw [hv] <;> rfl, by rw [hz.2, hdo]; trivial⟩
      | some dd =>
        obtain ⟨gs, hgs⟩ := hd dd hdo
        obtain ⟨mA, hns, _⟩ : ObjOk X.prog X.w H s.heap dd (.xd gs) := I.hok dd _ hgs
        obtain ⟨od, ho, _⟩ := lookIn_ns hns
        exact ⟨some od, hget, hz.1, by unfold PySem.W.notCls; rw [hv] <;> rfl, by rw [hz.2, hdo]; exact ho⟩
    obtain ⟨od, J⟩ := J
    obtain ⟨cd, hc, _⟩ := PySem.W.any_some C.hd
    exact PySem.W.kia_one (PySem.W.kitx_exc (od := od) (by rw [hc]; rfl) C.hg C.hk C.hs C.ha C.hn C.ht C.hm) I.kIn J e (fun z => nomatch z) fun tk => ⟨.bl b, H, I.kept (t' := tk) fun _ _ z => z, rfl, q⟩
end L2
namespace MP
open PySem L2 PyProof.Rows
/-! ### which classes are meant -/
abbrev XTab := Str → Option Bool
def xtab (l : List (Str × Bool)) : XTab := fun n => (l.find? fun p => p.1 == n).map (·.2)
theorem xtab_mem {l : List (Str × Bool)} {n : Str} {b : Bool} (h : xtab l n = some b) : (n, b) ∈ l := by
  unfold xtab at h
  cases e : l.find? (fun p => p.1 == n) with
  | none => rw [e] at h; cases h
  | some p =>
    rw [e] at h
    have h1 := List.mem_of_find?_eq_some e
    have h2 : (fun q : Str × Bool => q.1 == n) p = true := List.find?_some (p := fun q : Str × Bool => q.1 == n) e
    obtain ⟨p1, p2⟩ := p
    cases h
    have : p1 = n := eq_of_beq h2
    subst this
    exact h1
/-- an except clause of the class c -/
def ExcTab (mg : Str → Option Value) (K : PySem.W.Frag) (c : Value) (tab : XTab) : Prop := ∀ n cls b, mg n = some cls → tab n = some b → PySem.W.exmOne K cls c = some b
/-- isinstance(e, c) -/
def IsTab (mg : Str → Option Value) (K : PySem.W.Frag) (c : Value) (tab : XTab) : Prop := ∀ n cls b, mg n = some cls → tab n = some b → ∃ D, cls = .ref D ∧ ExcC K D ∧ PySem.W.kitOne K (.ref D) c = some b
/-! ### the clauses, in the small semantics -/
abbrev Hd := XTab × (Xn → Env → M Fl)
def pickH : List Hd → Xn → Env → M Fl
  | [], x, _ => raise x
  | (t, r) :: l, x, h => match t x.cls with
    | some true => noX (r x h)
    | some false => pickH l x h
    | none => bad
/-- behind a suite with a name the name is gone -/
def goneR (i : Nat) : R Fl → R Fl
  | .ok (.nx e) mu => .ok (.nx (e.set i none)) mu
  | .ok (.bk e) mu => .ok (.bk (e.set i none)) mu
  | .ok (.ct e) mu => .ok (.ct (e.set i none)) mu
  | r => r
def asH (i : Nat) (r : Xn → Env → M Fl) : Xn → Env → M Fl := fun x h mu => match h[i]? with
  | some none => goneR i (r x h mu)
  | _ => .bad
def tryR (hs : List Hd) (h : Env) : R Fl → R Fl
  | .exc x mu => pickH hs x h mu
  | r => r
def sTry (fg : List Nat) (rb : Env → Env → M Fl) (hs : List Hd) : Env → M Fl := fun env mu => tryR hs (wipeE env fg) (rb (wipeE env fg) env mu)
/-! ### suites with the exception's name in slot i -/
abbrev Zs := Mp → Hp → Prop
def FlQG (K : PySem.W.Frag) (i : Nat) (a : Addr) (D : Ends) (H : Hp) (fl : Fl) (m' : Mp) (mu' : List MO) (H' : Hp) : Prop := match fl with
  | .nx e => ∀ σ', RepE K m' H' e σ' → σ'[i]? = some (some (.ref a)) → D.nx σ' H'
  | .rt rv => RvQ K H rv m' mu' H' D.rt
  | .bk e => ∀ σ', RepE K m' H' e σ' → σ'[i]? = some (some (.ref a)) → D.bk σ' H'
  | .ct e => ∀ σ', RepE K m' H' e σ' → σ'[i]? = some (some (.ref a)) → D.ct σ' H'
def tSG (K : PySem.W.Frag) (i : Nat) (a : Addr) (Z : Zs) (r : Env → M Fl) : TS := fun D σ H => ∃ env m mu, RepE K m H env σ ∧ Rel K m mu H ∧ σ[i]? = some (some (.ref a)) ∧ Z m H ∧ Post K W0 m H (r env mu) fun fl m' mu' H' => FlQG K i a D H fl m' mu' H'
def tEG (K : PySem.W.Frag) (i : Nat) (a : Addr) (Z : Zs) (r : Env → M D) : TE := fun σ H Q => ∃ env m mu, RepE K m H env σ ∧ Rel K m mu H ∧ σ[i]? = some (some (.ref a)) ∧ Z m H ∧ Post K W0 m H (r env mu) fun d m' _ H' => ∀ v, Rep K m' H' d v → Q v H'
def tTG (K : PySem.W.Frag) (i : Nat) (a : Addr) (Z : Zs) (r : Env → M Bool) : TT := fun σ H Q => ∃ env m mu, RepE K m H env σ ∧ Rel K m mu H ∧ σ[i]? = some (some (.ref a)) ∧ Z m H ∧ Post K W0 m H (r env mu) fun b _ _ H' => Q b H'
def tAG (K : PySem.W.Frag) (i : Nat) (a : Addr) (Z : Zs) (r : Env → M (List D)) : TA := fun σ H Q => ∃ env m mu, RepE K m H env σ ∧ Rel K m mu H ∧ σ[i]? = some (some (.ref a)) ∧ Z m H ∧ Post K W0 m H (r env mu) fun ds m' _ H' => ∀ vs, Reps K m' H' ds vs → Q vs H'
structure MSG (X : Cx) (i : Nat) (a : Addr) (Z : Zs) (st : Stmt) (r : Env → M Fl) : Prop where
  ps : PS X st (tSG X.K i a Z r)
structure MSsG (X : Cx) (i : Nat) (a : Addr) (Z : Zs) (st : List Stmt) (r : Env → M Fl) : Prop where
  ps : PSs X st (tSG X.K i a Z r)
structure MEG (X : Cx) (i : Nat) (a : Addr) (Z : Zs) (e : Expr) (r : Env → M D) : Prop where
  pe : PE X e (tEG X.K i a Z r)
structure MTG (X : Cx) (i : Nat) (a : Addr) (Z : Zs) (e : Expr) (r : Env → M Bool) : Prop where
  pt : PT X e (tTG X.K i a Z r)
structure MAG (X : Cx) (i : Nat) (a : Addr) (Z : Zs) (es : List Expr) (r : Env → M (List D)) : Prop where
  pa : PA X es (tAG X.K i a Z r)
/-- what a suite is told of its exception -/
structure Held (X : Cx) (a : Addr) (oe : Obj) (cls : Value) (d : Option Addr) (x : Xn) : Prop where
  hz : Zc cls d oe
  hf : ∃ vs, oe.data = .fields vs
  mc : X.mg x.cls = some cls
inductive MCl (X : Cx) : List ExceptHandler → List Hd → Prop
  | nil : MCl X [] []
  | plain {x : Str} {c : Value} {tab : XTab} {r : Env → M Fl} {st : Stmt} {sts : List Stmt} {q1 q2 : Pos} {hr : List ExceptHandler} {l : List Hd} (nm : Names X x c) (tb : ExcTab X.mg X.K c tab)
      (su : ∀ (a : Addr) (oe : Obj) (pn : List (Addr × Obj)), MSs (X.suite a ((a, oe) :: pn)) W0 (st :: sts) r) (rest : MCl X hr l) : MCl X (.ExceptHandler (some (.Name x q1)) none (st :: sts) q2 :: hr) ((tab, fun _ => r) :: l)
  | named {x y : Str} {c : Value} {i : Nat} {tab : XTab} {r : Xn → Env → M Fl} {st : Stmt} {sts : List Stmt} {q1 q2 : Pos} {hr : List ExceptHandler} {l : List Hd} (nm : Names X x c) (tb : ExcTab X.mg X.K c tab) (hi : X.N[i]? = some y) (ln : X.env.kindOf y = some .local)
      (su : ∀ (e : Xn) (a : Addr) (oe : Obj) (cls : Value) (d : Option Addr) (pn : List (Addr × Obj)), Held X a oe cls d e → MSsG (X.suite a ((a, oe) :: pn)) i a (fun m H => XRep X.mg X.K m H e cls d) (st :: sts) (r e)) (rest : MCl X hr l) :
      MCl X (.ExceptHandler (some (.Name x q1)) (some y) (st :: sts) q2 :: hr) ((tab, asH i r) :: l)
theorem RepE.unset {K : PySem.W.Frag} {m : Mp} {H : Hp} {e : Env} {σ : L2.St} {i : Nat} {o : Option V} (r : RepE K m H e σ) : RepE K m H (e.set i none) (σ.set i o) := by
  refine ⟨by rw [List.length_set, List.length_set]; exact r.len, fun j d h => ?_⟩
  by_cases hj : i = j
  · subst hj
    rw [List.getElem?_set_self' ] at h
    cases q : e[i]? with
    | none => rw [q] at h; cases h
    | some z => rw [q] at h; cases h
  · rw [List.getElem?_set_ne hj] at h
    rw [List.getElem?_set_ne hj]
    exact r.get j d h
theorem RepE.put {K : PySem.W.Frag} {m : Mp} {H : Hp} {e : Env} {σ : L2.St} {i : Nat} {o : Option V} (r : RepE K m H e σ) (hn : ∀ d, e[i]? ≠ some (some d)) : RepE K m H e (σ.set i o) := by
  refine ⟨by rw [List.length_set]; exact r.len, fun j d h => ?_⟩
  by_cases hj : i = j
  · subst hj; exact absurd h (hn d)
  · rw [List.getElem?_set_ne hj]
    exact r.get j d h
section
variable {X : Cx} {W : Wx} {Wo : WX} {D : Ends}
/-- the clauses' wish from the small semantics -/
theorem mix_of (sv : Serves X W Wo) {hr : List ExceptHandler} {l : List Hd} (c : MCl X hr l) : ∃ cl : List Cl, Clauses X hr cl ∧ ∀ (D : Ends) (x : Xn) (h : Env) (mu' : List MO) (m' m0 : Mp) (H0 H' : Hp), Grow m0 m' H0 H' → Rel X.K m' mu' H' →
    Post X.K W m' H' (pickH l x h mu') (fun fl m'' mu'' H'' => FlQ X.K D H0 fl m'' mu'' H'') → ∀ cls d, XRep X.mg X.K m' H' x cls d → ∀ σ, RepE X.K m' H' h σ → wMix X.K Wo D cl cls d σ H' := by
  induction c with
  | nil => exact ⟨[], .nil, fun D x h mu' m' m0 H0 H' g0 R' hp cls d xr σ hE => sv _ _ _ _ _ _ (show W x m' H' from hp m' H' .refl R') xr⟩
  | @plain xn c tab r st sts q1 q2 hr l nm tb su rest ih =>
    obtain ⟨cl, hcl, hw⟩ := ih
    refine ⟨(c, none, fun a cls d => tS X.K W0 r) :: cl, .plain nm (fun a oe cls d pn hz hf => (su a oe pn).ps) hcl, fun D x h mu' m' m0 H0 H' g0 R' hp cls d xr σ hE => ?_⟩
    unfold pickH at hp
    cases ht : tab x.cls with
    | none => rw [ht] at hp; exact (show False from hp).elim
    | some b =>
      rw [ht] at hp
      refine ⟨b, tb _ _ _ xr.1 ht, fun hb a na => ?_, fun hb => ?_⟩
      · subst hb
        refine ⟨h, m', mu', hE, R', (noX_post hp).mono fun fl m2 mu2 H2 g2 R2 q => ?_⟩
        have q := FlQ.from q g0
        cases fl <;> exact q
      · subst hb
        exact hw D x h mu' m' m0 H0 H' g0 R' hp cls d xr σ hE
  | @named xn y c i tab r st sts q1 q2 hr l nm tb hi ln su rest ih =>
    obtain ⟨cl, hcl, hw⟩ := ih
    refine ⟨(c, some i, fun a cls d D σ H => ∃ e : Xn, X.mg e.cls = some cls ∧ tSG X.K i a (fun m H => XRep X.mg X.K m H e cls d) (r e) D σ H) :: cl,
      .named nm hi ln (fun a oe cls d pn hz hf => ⟨fun pins s σ H D I ⟨e, mc, w⟩ => (su e a oe cls d pn ⟨hz, hf, mc⟩).ps.run pins s σ H D I w⟩) hcl, fun D x h mu' m' m0 H0 H' g0 R' hp cls d xr σ hE => ?_⟩
    unfold pickH at hp
    cases ht : tab x.cls with
    | none => rw [ht] at hp; exact (show False from hp).elim
    | some b =>
      rw [ht] at hp
      refine ⟨b, tb _ _ _ xr.1 ht, fun hb a na => ?_, fun hb => ?_⟩
      · subst hb
        have hp := noX_post hp
        unfold asH at hp
        cases hh : h[i]? with
        | none => rw [hh] at hp; exact (show False from hp).elim
        | some o =>
          rw [hh] at hp
          cases o with
          | some z => exact (show False from hp).elim
          | none =>
            have hp : Post X.K W0 m' H' (goneR i (r x h mu')) (fun fl m'' mu'' H'' => FlQ X.K D H0 fl m'' mu'' H'') := hp
            have hlt : i < σ.length := by rw [← hE.len]; exact (List.getElem?_eq_some_iff.mp hh).1
            refine ⟨x, xr.1, h, m', mu', hE.put (fun z e => by rw [hh] at e; cases e), R', ?_, xr, ?_⟩
            · show (σ.set i (some (.ref a)))[i]? = _
              rw [List.getElem?_set_self hlt]
            · cases hq : r x h mu' with
              | bad => rw [hq] at hp; exact hp
              | exc y mu2 => rw [hq] at hp; exact hp
              | ok fl mu2 =>
                rw [hq] at hp
                cases fl with
                | rt rv => exact fun m2 H2 g2 R2 => RvQ.from (hp m2 H2 g2 R2) g0
                | nx e => exact fun m2 H2 g2 R2 σ2 hE2 _ => hp m2 H2 g2 R2 _ hE2.unset
                | bk e => exact fun m2 H2 g2 R2 σ2 hE2 _ => hp m2 H2 g2 R2 _ hE2.unset
                | ct e => exact fun m2 H2 g2 R2 σ2 hE2 _ => hp m2 H2 g2 R2 _ hE2.unset
      · subst hb
        exact hw D x h mu' m' m0 H0 H' g0 R' hp cls d xr σ hE
theorem ms_try {body : List Stmt} {h0 : ExceptHandler} {hr : List ExceptHandler} {l : List Hd} {pos : Pos} {fg : List Nat} {rb : Env → Env → M Fl} (hs : X.stack = X.env :: X.outer) (hf : X.env.frame = some X.env.locals) (hN : X.N.Nodup) (tk : Takes X Wo) (sv : Serves X W Wo)
    (hb : ∀ (h : Env) (Ws : WX) (pn : List (Addr × Obj)) (xe : Value → Shared → Prop), Takes (X.tr pn xe) Ws → PassesOwn (model X.prog X.w) X.A X.env xe → MSs (X.tr pn xe) (tryW X.mg X.K h Ws) body (rb h)) (cl : MCl X (h0 :: hr) l) :
    MS X W (.Try body (h0 :: hr) [] [] pos) (sTry fg rb l) := by
  obtain ⟨cs, hcs, hw⟩ := mix_of sv cl
  refine ⟨(ps_try_mix (tb := fun Ws D σ H => ∃ env m mu, RepE X.K m H env σ ∧ Rel X.K m mu H ∧ Post X.K (tryW X.mg X.K (wipeE env fg) Ws) m H (rb (wipeE env fg) env mu) fun fl m' mu' H' => FlQ X.K D H fl m' mu' H') hs hf hN tk
    (fun Ws pn xe tk' pa => ⟨fun pins s σ H D I ⟨env, m, mu, hE, R, hp⟩ => (hb (wipeE env fg) Ws pn xe tk' pa).ps.run pins s σ H D I ⟨env, m, mu, hE, R, hp⟩⟩) hcs).imp fun D σ H ⟨env, m, mu, hE, R, hp⟩ => ⟨env, m, mu, hE, R, ?_⟩⟩
  unfold sTry at hp
  cases hq : rb (wipeE env fg) env mu with
  | ok fl mu' => rw [hq] at hp; exact hp
  | bad => rw [hq] at hp; exact hp
  | exc x mu' =>
    rw [hq] at hp
    have hp : Post X.K W m H (pickH l x (wipeE env fg) mu') (fun fl m'' mu'' H'' => FlQ X.K D H fl m'' mu'' H'') := hp
    exact fun m' H' g R' cls d xr σ' hE' => hw D x _ mu' m' m H H' g R' (hp.grow g) cls d xr σ' hE'
end
end MP
namespace MP
open PySem L2 PyProof.Rows
/-! ### suites that name their exception: the rules -/
/-- a fact that stays while the heap grows -/
def ZSt (K : PySem.W.Frag) (Z : Zs) : Prop := ∀ m m' mu H H', Grow m m' H H' → Rel K m mu H → Z m H → Z m' H'
theorem xrep_st {mg : Str → Option Value} {K : PySem.W.Frag} {x : Xn} {cls : Value} {d : Option Addr} : ZSt K fun m H => XRep mg K m H x cls d := fun m m' mu H H' g R h => by
  refine ⟨h.1, ?_⟩
  have h2 := h.2
  cases d with
  | none => exact h2
  | some p =>
    obtain ⟨gs, e1, e2, e3⟩ := h2
    have hn : p ∉ m.ad := fun hm => by
      rcases R.mem hm with ⟨vs, z⟩ | ⟨vs, z⟩ <;> (rw [e1] at z; cases z)
    exact ⟨gs, g.oth p _ e1 hn, e2, Reps.grow g _ _ e3⟩
def eIs (tab : XTab) (x : Xn) : Env → M D := fun _ => match tab x.cls with
  | some b => pure (.bl b)
  | none => bad
@[simp] theorem eIs_ap {tab : XTab} {x : Xn} {env : Env} : eIs tab x env = match tab x.cls with
  | some b => pure (.bl b)
  | none => bad := rfl
def eFld (ft : Str → Bool) (n : Str) (x : Xn) : Env → M D := fun _ => if ft x.cls = true then match x.fs.lookup n with
  | some d => pure d
  | none => bad else bad
@[simp] theorem eFld_ap {ft : Str → Bool} {n : Str} {x : Xn} {env : Env} : eFld ft n x env = if ft x.cls = true then match x.fs.lookup n with
  | some d => pure d
  | none => bad else bad := rfl
theorem lookup_rep {K : PySem.W.Frag} {m : Mp} {H : Hp} {n : Str} : ∀ {fs : List (Str × D)} {gs : List (Str × V)}, gs.map (·.1) = fs.map (·.1) → Reps K m H (fs.map (·.2)) (gs.map (·.2)) → ∀ d, fs.lookup n = some d → ∃ v, gs.lookup n = some v ∧ Rep K m H d v
  | [], _, _, _, d, h => by cases h
  | (k, x) :: fs, [], e, _, d, h => by cases e
  | (k, x) :: fs, (j, y) :: gs, e, r, d, h => by
    rw [List.map_cons, List.map_cons, List.cons.injEq] at e
    have e1 : j = k := e.1
    subst e1
    rw [List.map_cons, List.map_cons] at r
    obtain ⟨v, rr, q1, q2, q3⟩ := Reps.cons_iff.mp r
    cases q1
    rw [List.lookup_cons] at h ⊢
    cases hk : n == j with
    | true =>
      rw [hk] at h
      cases h
      exact ⟨_, rfl, q2⟩
    | false =>
      rw [hk] at h
      exact lookup_rep e.2 q3 d h
section
variable {X : Cx} {i : Nat} {a : Addr} {Z : Zs} {e b : Expr} {es : List Expr} {st : Stmt} {rest : List Stmt} {pos p p1 p2 : Pos}
theorem meg_of {r : Env → M D} (h : ME X W0 e r) : MEG X i a Z e r := ⟨h.pe.imp fun σ H Q ⟨env, m, mu, hE, hR, _, _, hp⟩ => ⟨env, m, mu, hE, hR, hp⟩⟩
theorem pe_never {t : TE} (h : ∀ σ H Q, ¬ t σ H Q) : PE X e t := ⟨fun pins s σ H Q I w => (h σ H Q w).elim⟩
theorem meg_isi {oe : Obj} {cls cv : Value} {d : Option Addr} {pn : List (Addr × Obj)} {x : Xn} {y t z : Str} {cV : V} {tab : XTab} (hd : Held X a oe cls d x) (T : IsTab X.mg X.K cv tab) (ht : PE (X.suite a ((a, oe) :: pn)) (.Name t p2) (tC cV)) (hcv : ∀ u, RelV cV u → u = cv) (hy : PE (X.suite a ((a, oe) :: pn)) (.Name y p1) (tVar i))
    (hg : Gl X z) (hm : X.mg z = none) (hv : bootBuiltins z = some (.builtin "isinstance")) (hn : z ≠ "__name__" := by decide) (hdb : (z == ("__debug__" : Str)) = false := by decide)
    (h1 : starEach [.Name t p2] X.env = (false, eval (.Name t p2) X.env) :: starEach [] X.env := by rfl) (he : starEach [.Name y p1, .Name t p2] X.env = (false, eval (.Name y p1) X.env) :: starEach [.Name t p2] X.env := by rfl) (hpl : (backTo pos (starEach [.Name t p2] X.env)).any (·.1) = false := by rfl) :
    MEG (X.suite a ((a, oe) :: pn)) i a (fun m H => XRep X.mg X.K m H x cls d) (.Call (.Name z p) [.Name y p1, .Name t p2] [] pos) (eIs tab x) := by
  cases hb : tab x.cls with
  | none => exact ⟨pe_never fun σ H Q ⟨env, m, mu, hE, hR, _, _, hp⟩ => by unfold eIs at hp; rw [hb] at hp; exact hp⟩
  | some b =>
    obtain ⟨Dc, rfl, hD, hk⟩ := T _ _ _ hd.mc hb
    refine ⟨(pe_callB (call_isX hD hd.hz hd.hf) hg hm hv (pa_cons hy (pa_cons ht pa_nil h1) he) hn hdb he hpl).imp fun σ H Q ⟨env, m, mu, hE, hR, hs, hx, hp⟩ => ⟨.ref a, hs, ?_⟩⟩
    refine ⟨fun dd ed => ?_, cV, cv, b, rfl, hcv, hk, ?_⟩
    · have h2 := hx.2
      rw [ed] at h2
      obtain ⟨gs, g1, _⟩ := h2
      exact ⟨gs, g1⟩
    · unfold eIs at hp
      rw [hb] at hp
      exact Post.pure (a := D.bl b) hp hR (.bl b) (by simp only [Rep])
theorem meg_fld {oe : Obj} {cls : Value} {d : Option Addr} {pn : List (Addr × Obj)} {x : Xn} {y n : Str} {ft : Str → Bool} (hd : Held X a oe cls d x) (T : ∀ nm cls, X.mg nm = some cls → ft nm = true → ∃ D, cls = .ref D ∧ XfC X.K D ∧ PySem.W.findIn X.K (.ref D) n = some none) (hy : PE (X.suite a ((a, oe) :: pn)) (.Name y p1) (tVar i))
    (hb : attributeBase (.Name y p1) n X.env (eval (.Name y p1) X.env) = eval (.Name y p1) X.env := by rfl) :
    MEG (X.suite a ((a, oe) :: pn)) i a (fun m H => XRep X.mg X.K m H x cls d) (.Attribute (.Name y p1) n pos) (eFld ft n x) := by
  cases hf : ft x.cls with
  | false => exact ⟨pe_never fun σ H Q ⟨env, m, mu, hE, hR, _, _, hp⟩ => by unfold eFld at hp; rw [hf] at hp; exact hp⟩
  | true =>
    obtain ⟨Dc, rfl, xf, no⟩ := T _ _ hd.mc hf
    refine ⟨(pe_xf xf no hd.hz hd.hf hy hb).imp fun σ H Q ⟨env, m, mu, hE, hR, hs, hx, hp⟩ => ⟨.ref a, hs, rfl, rfl, ?_⟩⟩
    unfold eFld at hp
    rw [if_pos hf] at hp
    have h2 := hx.2
    cases hl : x.fs.lookup n with
    | none => rw [hl] at hp; exact (show False from hp).elim
    | some q =>
      rw [hl] at hp
      cases d with
      | none =>
        have h2 : x.fs = [] := h2
        rw [h2] at hl; cases hl
      | some dd =>
        obtain ⟨gs, g1, g2, g3⟩ := h2
        obtain ⟨v, v1, v2⟩ := lookup_rep g2 g3 q hl
        exact ⟨dd, gs, v, rfl, g1, v1, Post.pure (a := q) hp hR v v2⟩
theorem meg_not {r : Env → M D} (h : MEG X i a Z e r) : MEG X i a Z (.UnaryOp .Not e pos) (eMap gNot r) := ⟨(pe_not h.pe).imp fun σ H Q ⟨env, m, mu, hE, hR, hs, hz, hp⟩ =>
  ⟨env, m, mu, hE, hR, hs, hz, (Post.bind hp).mono fun x m1 mu1 H1 g1 R1 hp v rv => by
    obtain ⟨c, rfl, rfl, hp⟩ := toB_ok R1 rv (Post.bind hp)
    exact ⟨c, rfl, Post.pure hp R1 _ (by simp only [Rep])⟩⟩⟩
theorem meg_one {op} {r : Env → M D} (h : MEG X i a Z e r) : MEG X i a Z (.BoolOp op [e] pos) r := ⟨pe_one h.pe⟩
theorem meg_and {r r' : Env → M D} (zs : ZSt X.K Z) (h : MEG X i a Z e r) (h' : MEG X i a Z (.BoolOp .And (b :: es) pos) r') : MEG X i a Z (.BoolOp .And (e :: b :: es) pos) (eAnd r r') := ⟨(pe_and h.pe h'.pe).imp fun σ H Q ⟨env, m, mu, hE, hR, hs, hz, hp⟩ =>
  ⟨env, m, mu, hE, hR, hs, hz, (Post.bind hp).mono fun x m1 mu1 H1 g1 R1 hp v rv => by
    obtain ⟨c, rfl, rfl, hp⟩ := toB_ok R1 rv (Post.bind hp)
    refine ⟨c, rfl, ?_⟩
    cases c
    · exact Post.pure hp R1 _ (by simp only [Rep])
    · exact ⟨env, m1, mu1, hE.grow g1, R1, hs, zs _ _ _ _ _ g1 hR hz, hp⟩⟩⟩
theorem meg_or {r r' : Env → M D} (zs : ZSt X.K Z) (h : MEG X i a Z e r) (h' : MEG X i a Z (.BoolOp .Or (b :: es) pos) r') : MEG X i a Z (.BoolOp .Or (e :: b :: es) pos) (eOr r r') := ⟨(pe_or h.pe h'.pe).imp fun σ H Q ⟨env, m, mu, hE, hR, hs, hz, hp⟩ =>
  ⟨env, m, mu, hE, hR, hs, hz, (Post.bind hp).mono fun x m1 mu1 H1 g1 R1 hp v rv => by
    obtain ⟨c, rfl, rfl, hp⟩ := toB_ok R1 rv (Post.bind hp)
    refine ⟨c, rfl, ?_⟩
    cases c
    · exact ⟨env, m1, mu1, hE.grow g1, R1, hs, zs _ _ _ _ _ g1 hR hz, hp⟩
    · exact Post.pure hp R1 _ (by simp only [Rep])⟩⟩
theorem mag_nil : MAG X i a Z [] aNil := ⟨pa_nil.imp fun σ H Q ⟨env, m, mu, hE, hR, _, _, hp⟩ => Post.pure hp hR [] (Reps.nil_iff.mpr rfl)⟩
theorem mag_cons {r : Env → M D} {rs : Env → M (List D)} (zs : ZSt X.K Z) (h : MEG X i a Z e r) (hs : MAG X i a Z es rs) (he : starEach (e :: es) X.env = (false, eval e X.env) :: starEach es X.env := by rfl) : MAG X i a Z (e :: es) (aCons r rs) :=
  ⟨(pa_cons h.pe hs.pa he).imp fun σ H Q ⟨env, m, mu, hE, hR, hσ, hz, hp⟩ =>
    ⟨env, m, mu, hE, hR, hσ, hz, (Post.bind hp).mono fun x m1 mu1 H1 g1 R1 hp v rv => ⟨env, m1, mu1, hE.grow g1, R1, hσ, zs _ _ _ _ _ g1 hR hz, (Post.bind hp).mono fun xs m2 mu2 H2 g2 R2 hp vs rvs =>
      Post.pure hp R2 (v :: vs) (Reps.cons_iff.mpr ⟨v, vs, rfl, Rep.grow g2 x v rv, rvs⟩)⟩⟩⟩
theorem meg_tup {x1} {rs : Env → M (List D)} (h : MAG X i a Z es rs) : MEG X i a Z (.Tuple es x1 pos) (aThen gTup rs) := ⟨(pe_tup h.pa).imp fun σ H Q ⟨env, m, mu, hE, hR, hσ, hz, hp⟩ =>
  ⟨env, m, mu, hE, hR, hσ, hz, (Post.bind hp).mono fun xs m1 mu1 H1 g1 R1 hp vs rv => by
    obtain ⟨c, hp⟩ := need_ok R1 (Post.bind hp)
    refine ⟨by rw [← rv.length]; exact c, fun p hn => ?_⟩
    obtain ⟨g, R', rp⟩ := new_tup R1 rv hn
    exact hp m1 _ g R' _ rp⟩⟩
/-! tests -/
theorem mtg_val {r : Env → M D} (h : MEG X i a Z e r) (he : ∀ whole, isTrue e X.env whole = (do let v ← whole; standAt e.pos; holding [v] (truthy v)) := by intro _; rfl) : MTG X i a Z e (eB r) :=
  ⟨(pt_val h.pe he).imp fun σ H Q ⟨env, m, mu, hE, hR, hσ, hz, hp⟩ => ⟨env, m, mu, hE, hR, hσ, hz, (Post.bind hp).mono fun x m1 mu1 H1 g1 R1 hp1 v rv => by
    cases x with
    | bl b =>
      simp only [Rep] at rv
      exact ⟨b, rv, Post.pure hp1 R1⟩
    | _ => exact hp1.elim⟩⟩
theorem mtg_not {r : Env → M Bool} (h : MTG X i a Z e r) : MTG X i a Z (.UnaryOp .Not e pos) (bNot r) :=
  ⟨(pt_not h.pt).imp fun σ H Q ⟨env, m, mu, hE, hR, hσ, hz, hp⟩ => ⟨env, m, mu, hE, hR, hσ, hz, (Post.bind hp).mono fun b m1 mu1 H1 g1 R1 hp1 => Post.pure (a := !b) hp1 R1⟩⟩
structure MWG (X : Cx) (i : Nat) (a : Addr) (Z : Zs) (e : Expr) (r : Env → M Bool) : Prop where
  pw : PW X e (tTG X.K i a Z r)
theorem MWG.mt {r : Env → M Bool} (h : MWG X i a Z e r) : MTG X i a Z e r := ⟨h.pw.pt⟩
theorem mwg_and1 {r : Env → M Bool} (h : MTG X i a Z e r) : MWG X i a Z (.BoolOp .And [e] pos) r := ⟨pw_and1 h.pt⟩
theorem mwg_or1 {r : Env → M Bool} (h : MTG X i a Z e r) : MWG X i a Z (.BoolOp .Or [e] pos) r := ⟨pw_or1 h.pt⟩
theorem mwg_and {r r' : Env → M Bool} (zs : ZSt X.K Z) (h : MTG X i a Z e r) (h' : MWG X i a Z (.BoolOp .And (b :: es) pos) r') : MWG X i a Z (.BoolOp .And (e :: b :: es) pos) (bAnd r r') :=
  ⟨(pw_and h.pt h'.pw).imp fun σ H Q ⟨env, m, mu, hE, hR, hσ, hz, hp⟩ => ⟨env, m, mu, hE, hR, hσ, hz, (Post.bind hp).mono fun b m1 mu1 H1 g1 R1 hp1 => by
    cases b
    · exact Post.pure (a := false) hp1 R1
    · exact ⟨env, m1, mu1, hE.grow g1, R1, hσ, zs _ _ _ _ _ g1 hR hz, hp1⟩⟩⟩
theorem mwg_or {r r' : Env → M Bool} (zs : ZSt X.K Z) (h : MTG X i a Z e r) (h' : MWG X i a Z (.BoolOp .Or (b :: es) pos) r') : MWG X i a Z (.BoolOp .Or (e :: b :: es) pos) (bOr r r') :=
  ⟨(pw_or h.pt h'.pw).imp fun σ H Q ⟨env, m, mu, hE, hR, hσ, hz, hp⟩ => ⟨env, m, mu, hE, hR, hσ, hz, (Post.bind hp).mono fun b m1 mu1 H1 g1 R1 hp1 => by
    cases b
    · exact ⟨env, m1, mu1, hE.grow g1, R1, hσ, zs _ _ _ _ _ g1 hR hz, hp1⟩
    · exact Post.pure (a := true) hp1 R1⟩⟩
/-! statements -/
theorem FlQG.from {K : PySem.W.Frag} {D : Ends} {m m1 m' : Mp} {H H1 H' : Hp} {mu' : List MO} {fl : Fl} (h : FlQG K i a D H fl m' mu' H') (g : Grow m m1 H H1) : FlQG K i a D H1 fl m' mu' H' := by
  cases fl with
  | rt rv => exact RvQ.from h g
  | nx e => exact h
  | bk e => exact h
  | ct e => exact h
theorem msg_ret {r : Env → M D} (h : MEG X i a Z e r) : MSG X i a Z (.Return (some e) pos) (sRet r) := ⟨(ps_ret h.pe).imp fun D σ H ⟨env, m, mu, hE, hR, hσ, hz, hp⟩ =>
  ⟨env, m, mu, hE, hR, hσ, hz, (Post.bind hp).mono fun x m1 mu1 H1 g1 R1 hp v rv => (Post.pure hp R1) v rv⟩⟩
theorem msg_set {j : Nat} {x : Str} {r : Env → M D} {pos' : Pos} (hj : j ≠ i) (hN : X.N.Nodup) (hi : X.N[j]? = some x) (hx : Loc X.env.scope x) (h : MEG X i a Z e r) (hs : swapsWith e (some (.Name x pos')) pos.line X.env = pure false := by rfl) (hf : X.fn x = true ∨ X.env.scope.names.lookup x = some .local := by first | exact .inl rfl | exact .inr rfl | assumption) :
    MSG X i a Z (.Assign [.Name x pos'] e pos) (sSet j r) := ⟨(ps_set hN hi hx h.pe hs hf).imp fun D σ H ⟨env, m, mu, hE, hR, hσ, hz, hp⟩ =>
  ⟨env, m, mu, hE, hR, hσ, hz, (Post.bind hp).mono fun x m1 mu1 H1 g1 R1 hp v rv => (Post.pure hp R1) _ ((hE.grow g1).set rv) (by
    show (σ.set j (some v))[i]? = _
    rw [List.getElem?_set_ne hj]; exact hσ)⟩⟩
theorem mssg_nil : MSsG X i a Z [] sNext := ⟨pss_nil.imp fun D σ H ⟨env, m, mu, hE, hR, hσ, hz, hp⟩ => Post.pure hp hR σ hE hσ⟩
theorem mssg_one {r : Env → M Fl} (h : MSG X i a Z st r) : MSsG X i a Z [st] r := ⟨pss_one h.ps⟩
theorem mssg_cons {r r' : Env → M Fl} (zs : ZSt X.K Z) (h : MSG X i a Z st r) (h' : MSsG X i a Z rest r') : MSsG X i a Z (st :: rest) (sSeq r r') := ⟨(pss_cons h.ps h'.ps).imp fun D σ H ⟨env, m, mu, hE, hR, hσ, hz, hp⟩ => by
  refine ⟨env, m, mu, hE, hR, hσ, hz, ?_⟩
  have e0 : sSeq r r' env mu = M.bind (r env) (fun fl => match fl with
    | .nx e => r' e
    | fl => pure fl) mu := rfl
  rw [e0] at hp
  unfold M.bind at hp
  cases hr : r env mu with
  | bad => rw [hr] at hp; exact hp
  | exc x mu5 => rw [hr] at hp; exact hp
  | ok fl mu5 =>
    rw [hr] at hp
    intro m5 H5 g5 R5
    cases fl with
    | nx e => exact fun σ5 hE5 hσ5 => ⟨e, m5, mu5, hE5, R5, hσ5, zs _ _ _ _ _ g5 hR hz, (hp.grow g5).mono fun fl m' mu' H' _ _ q => FlQG.from q g5⟩
    | ct e => exact hp m5 H5 g5 R5
    | bk e => exact hp m5 H5 g5 R5
    | rt rv => exact hp m5 H5 g5 R5⟩
theorem msg_if {s1 s2 : List Stmt} {t : Env → M Bool} {r r' : Env → M Fl} (zs : ZSt X.K Z) (hc : MTG X i a Z e t) (h : MSsG X i a Z s1 r) (h' : MSsG X i a Z s2 r') : MSG X i a Z (.If e s1 s2 pos) (eIf t r r') := ⟨(ps_if hc.pt h.ps h'.ps).imp fun D σ H ⟨env, m, mu, hE, hR, hσ, hz, hp⟩ =>
  ⟨env, m, mu, hE, hR, hσ, hz, (Post.bind hp).mono fun b m1 mu1 H1 g1 R1 hp => by
    cases b
    · exact ⟨env, m1, mu1, hE.grow g1, R1, hσ, zs _ _ _ _ _ g1 hR hz, hp.mono fun fl m' mu' H' _ _ q => FlQG.from q g1⟩
    · exact ⟨env, m1, mu1, hE.grow g1, R1, hσ, zs _ _ _ _ _ g1 hR hz, hp.mono fun fl m' mu' H' _ _ q => FlQG.from q g1⟩⟩⟩
end
end MP
namespace KP
open PySem L2 PyProof.Rows MP
def top (i : Nat) : Stmt := PySem.Challenge.pw_differwithin_k52_change_swap.main.body.getD i (.Pass ⟨0, 0, 0, 0⟩)
section
variable {P : Program} {w : World} {K : PySem.W.Frag} {mg : Str → Option Value} {base : Heap}
def xt_BadPlace : XTab := xtab [("BadPlace", true)]
def tab_BLOCKS : List (Str × D) := [("if", .tup [.int 2, .int 3]), ("while", .tup [.int 2])]
abbrev con_KINDS : D := .tup [.str "turn", .str "peel", .str "swap", .str "rest", .str "unrest", .str "cut", .str "twice"]
abbrev st_proc_in : Stmt := top 7
theorem sc_proc_in : FnScope ["source", "name", "proc"] ["source", "name"] (defScope st_proc_in) := ⟨rfl, rfl, rfl, by decide +kernel, rfl, by decide +kernel, by decide +kernel⟩
/-- names: 0 source, 1 name, 2 proc -/
noncomputable def r_proc_in : MP.Env → M Fl :=
  (sSeq (sFor (eWalk (eBin gIx (eVar 0) (eC (.int 1)))) (asgN 2)
  (eIf (eB (eBin (gEq false) (eBin gIx (eVar 2) (eC (.int 0))) (eVar 1)))
  (sRet (eVar 2))
  sNext) [2])
  sBad)
noncomputable def den_proc_in : List D → M Rv := fun ds => noX (runB 3 (r_proc_in) ds)
theorem mp_proc_in {k : Nat} {f : Addr} {fd : FuncData} (F : Fun K "proc_in" "proc_in" st_proc_in f fd) : FnOk P w K mg base CX0 (k + 1) f fd ["source", "name"] (sp K mg 2 (den_proc_in)) :=
  have sc := sc_proc_in
  fn_mp (N := ["source", "name", "proc"]) (r := r_proc_in) F sc_proc_in rfl fun cdv A outer s H E hr =>
  have hu := hr.units
  have hu1 := units1 hr
  (mss_cons (ms_for (fg := [2]) PassesOwn.never rfl (mi_seq (me_ix (me_var (pv 0)) me_int)) (mg_of (pg_name (i := 2) sc.nd rfl (by first | exact Or.inl rfl | exact Or.inr rfl)))
  (mss_one (ms_if (mt_cmp (op_eqM hu) opm_eq (me_ix (me_var (pv 2)) me_int) (me_var (pv 1)) (by first | exact nomark _ | rfl))
  (mss_one (ms_ret (me_var (pv 2))))
  mss_nil)))
  (mss_one ms_never))
abbrev st_with_body : Stmt := top 8
theorem sc_with_body : FnScope ["source", "name", "body", "procs", "proc"] ["source", "name", "body"] (defScope st_with_body) := ⟨rfl, rfl, rfl, by decide +kernel, rfl, by decide +kernel, by decide +kernel⟩
/-- names: 0 source, 1 name, 2 body, 3 procs, 4 proc -/
noncomputable def r_with_body : MP.Env → M Fl :=
  (sSeq (sSet 3 (eNew (aList aNil)))
  (sSeq (sFor (eWalk (eBin gIx (eVar 0) (eC (.int 1)))) (asgN 4)
  (sExpr (eMeth lstK gAppend (eVar 3) (aCons (eIf (eB (eBin (gEq false) (eBin gIx (eVar 4) (eC (.int 0))) (eVar 1))) (eBin gAdd (eSl (eVar 4) oNone (oSome (eC (.int 8)))) (aThen gTup (aCons (eVar 2) aNil))) (eVar 4)) aNil))) [4])
  (sRet (aThen gTup (aCons (eBin gIx (eVar 0) (eC (.int 0))) (aCons (aThen (g1 gTuple) (aCons (eVar 3) aNil)) aNil))))))
noncomputable def den_with_body : List D → M Rv := fun ds => noX (runB 5 (r_with_body) ds)
theorem mp_with_body {k : Nat} {f : Addr} {fd : FuncData} (F : Fun K "with_body" "with_body" st_with_body f fd) (z_tuple : mg "tuple" = none) : FnOk P w K mg base CX0 (k + 1) f fd ["source", "name", "body"] (sp K mg 3 (den_with_body)) :=
  have sc := sc_with_body
  fn_mp (N := ["source", "name", "body", "procs", "proc"]) (r := r_with_body) F sc_with_body rfl fun cdv A outer s H E hr =>
  have hu := hr.units
  have hu1 := units1 hr
  (mss_cons (ms_set (i := 3) sc.nd rfl (by first | exact Or.inl rfl | exact Or.inr rfl) (me_new (mf_lst ma_nil)))
  (mss_cons (ms_for (fg := [4]) PassesOwn.never rfl (mi_seq (me_ix (me_var (pv 0)) me_int)) (mg_of (pg_name (i := 4) sc.nd rfl (by first | exact Or.inl rfl | exact Or.inr rfl)))
  (mss_one (ms_expr (me_lmeth PySem.F.slot_list_append PySem.F.type_list_append mt_append methM_append (me_var (pv 3)) (ma_cons (me_ifExp (mt_cmp (op_eqM hu) opm_eq (me_ix (me_var (pv 4)) me_int) (me_var (pv 1)) (by first | exact nomark _ | rfl)) (me_bin op_addM opm_add (me_slice (me_var (pv 4)) mo_none (mo_some me_int)) (me_tup (ma_cons (me_var (pv 2)) ma_nil))) (me_var (pv 4))) ma_nil)))))
  (mss_one (ms_ret (me_tup (ma_cons (me_ix (me_var (pv 0)) me_int) (ma_cons (me_callTy call_tuple_of callM_tuple rfl z_tuple (by decide +kernel) (ma_cons (me_var (pv 3)) ma_nil)) ma_nil)))))))
abbrev st_paths_in : Stmt := top 9
theorem sc_paths_in : FnScope ["body", "ahead", "found", "index", "statement", "path", "block"] ["body", "ahead"] (defScope st_paths_in) := ⟨rfl, rfl, rfl, by decide +kernel, rfl, by decide +kernel, by decide +kernel⟩
/-- names: 0 body, 1 ahead, 2 found, 3 index, 4 statement, 5 path, 6 block -/
noncomputable def r_paths_in (d_paths_in : List D → M Rv) : MP.Env → M Fl :=
  (sSeq (sSet 2 (eNew (aList aNil)))
  (sSeq (sFor (wThen wEnumA (aCons (eVar 0) aNil)) (asgT 2 (asgCons (asgN 3) (asgCons (asgN 4) asgNil)))
  (sSeq (sSet 5 (eBin gAdd (eVar 1) (aThen gTup (aCons (eVar 3) aNil))))
  (sSeq (sExpr (eMeth lstK gAppend (eVar 2) (aCons (eVar 5) aNil)))
  (sFor (eWalk (eGetK tab_BLOCKS (eBin gIx (eVar 4) (eC (.int 0))) (aThen gTup aNil))) (asgN 6)
  (sExpr (eMeth lstK gExtend (eVar 2) (aCons (eCall (lenD 2 d_paths_in) (aCons (eBin gIx (eVar 4) (eVar 6)) (aCons (eBin gAdd (eVar 5) (aThen gTup (aCons (eVar 6) aNil))) aNil))) aNil))) [6]))) [3, 4, 5, 6])
  (sRet (eVar 2))))
noncomputable def den_paths_in (d_paths_in : List D → M Rv) : List D → M Rv := fun ds => noX (runB 7 (r_paths_in d_paths_in) ds)
theorem mp_paths_in {k : Nat} {f : Addr} {fd : FuncData} {d_paths_in : List D → M Rv} (T_paths_in : FnI K mg "paths_in" st_paths_in f fd ["body", "ahead"]) (F_paths_in : FnOk P w K mg base CX0 k f fd ["body", "ahead"] (sp K mg 2 d_paths_in)) (z_enumerate : mg "enumerate" = none) {a_BLOCKS : Addr} (K_BLOCKS : KTab K w a_BLOCKS tab_BLOCKS) (g_BLOCKS : mg "BLOCKS" = some (.ref a_BLOCKS)) : FnOk P w K mg base CX0 (k + 1) f fd ["body", "ahead"] (sp K mg 2 (den_paths_in d_paths_in)) :=
  have sc := sc_paths_in
  fn_mp (N := ["body", "ahead", "found", "index", "statement", "path", "block"]) (r := r_paths_in d_paths_in) T_paths_in.fn sc_paths_in rfl fun cdv A outer s H E hr =>
  have hu := hr.units
  have hu1 := units1 hr
  (mss_cons (ms_set (i := 2) sc.nd rfl (by first | exact Or.inl rfl | exact Or.inr rfl) (me_new (mf_lst ma_nil)))
  (mss_cons (ms_for (fg := [3, 4, 5, 6]) PassesOwn.never rfl (mi_enumA rfl z_enumerate (ma_cons (me_var (pv 0)) ma_nil)) (mg_tup rfl (mgs_cons (mg_of (pg_name (i := 3) sc.nd rfl (by first | exact Or.inl rfl | exact Or.inr rfl))) (mgs_cons (mg_of (pg_name (i := 4) sc.nd rfl (by first | exact Or.inl rfl | exact Or.inr rfl))) mgs_nil)))
  (mss_cons (ms_set (i := 5) sc.nd rfl (by first | exact Or.inl rfl | exact Or.inr rfl) (me_bin op_addM opm_add (me_var (pv 1)) (me_tup (ma_cons (me_var (pv 3)) ma_nil))))
  (mss_cons (ms_expr (me_lmeth PySem.F.slot_list_append PySem.F.type_list_append mt_append methM_append (me_var (pv 2)) (ma_cons (me_var (pv 5)) ma_nil)))
  (mss_one (ms_for (fg := [6]) PassesOwn.never rfl (mi_seq (me_getK2 K_BLOCKS rfl g_BLOCKS (me_ix (me_var (pv 4)) me_int) (me_tup ma_nil))) (mg_of (pg_name (i := 6) sc.nd rfl (by first | exact Or.inl rfl | exact Or.inr rfl)))
  (mss_one (ms_expr (me_lmeth PySem.F.slot_list_extend PySem.F.type_list_extend mt_extend methM_extend (me_var (pv 2)) (ma_cons (me_callF T_paths_in F_paths_in hr rfl (ma_cons (me_ix (me_var (pv 4)) (me_var (pv 6))) (ma_cons (me_bin op_addM opm_add (me_var (pv 5)) (me_tup (ma_cons (me_var (pv 6)) ma_nil))) ma_nil)) rfl) ma_nil)))))))))
  (mss_one (ms_ret (me_var (pv 2))))))
abbrev st_statement_at : Stmt := top 10
theorem sc_statement_at : FnScope ["body", "path", "statement"] ["body", "path"] (defScope st_statement_at) := ⟨rfl, rfl, rfl, by decide +kernel, rfl, by decide +kernel, by decide +kernel⟩
/-- names: 0 body, 1 path, 2 statement -/
noncomputable def r_statement_at (d_statement_at : List D → M Rv) : MP.Env → M Fl :=
  (sSeq (sSet 2 (eBin gIx (eVar 0) (eBin gIx (eVar 1) (eC (.int 0)))))
  (sSeq (eIf (eB (eBin (gEq false) (aThen (g1 gLen) (aCons (eVar 1) aNil)) (eC (.int 1))))
  (sRet (eVar 2))
  sNext)
  (sRet (eCall (lenD 2 d_statement_at) (aCons (eBin gIx (eVar 2) (eBin gIx (eVar 1) (eC (.int 1)))) (aCons (eSl (eVar 1) (oSome (eC (.int 2))) oNone) aNil))))))
noncomputable def den_statement_at (d_statement_at : List D → M Rv) : List D → M Rv := fun ds => noX (runB 3 (r_statement_at d_statement_at) ds)
theorem mp_statement_at {k : Nat} {f : Addr} {fd : FuncData} {d_statement_at : List D → M Rv} (T_statement_at : FnI K mg "statement_at" st_statement_at f fd ["body", "path"]) (F_statement_at : FnOk P w K mg base CX0 k f fd ["body", "path"] (sp K mg 2 d_statement_at)) (z_len : mg "len" = none) : FnOk P w K mg base CX0 (k + 1) f fd ["body", "path"] (sp K mg 2 (den_statement_at d_statement_at)) :=
  have sc := sc_statement_at
  fn_mp (N := ["body", "path", "statement"]) (r := r_statement_at d_statement_at) T_statement_at.fn sc_statement_at rfl fun cdv A outer s H E hr =>
  have hu := hr.units
  have hu1 := units1 hr
  (mss_cons (ms_set (i := 2) sc.nd rfl (by first | exact Or.inl rfl | exact Or.inr rfl) (me_ix (me_var (pv 0)) (me_ix (me_var (pv 1)) me_int)))
  (mss_cons (ms_if (mt_cmp (op_eqM hu) opm_eq (me_callB call_lenM callM_len rfl z_len PySem.boot_len (ma_cons (me_var (pv 1)) ma_nil)) me_int (by first | exact nomark _ | rfl))
  (mss_one (ms_ret (me_var (pv 2))))
  mss_nil)
  (mss_one (ms_ret (me_callF T_statement_at F_statement_at hr rfl (ma_cons (me_ix (me_var (pv 2)) (me_ix (me_var (pv 1)) me_int)) (ma_cons (me_slice (me_var (pv 1)) (mo_some me_int) mo_none) ma_nil)) rfl)))))
abbrev st_replaced : Stmt := top 11
theorem sc_replaced : FnScope ["body", "path", "many", "statements", "index", "statement", "block", "inner"] ["body", "path", "many", "statements"] (defScope st_replaced) := ⟨rfl, rfl, rfl, by decide +kernel, rfl, by decide +kernel, by decide +kernel⟩
/-- names: 0 body, 1 path, 2 many, 3 statements, 4 index, 5 statement, 6 block, 7 inner -/
noncomputable def r_replaced (d_replaced : List D → M Rv) : MP.Env → M Fl :=
  (sSeq (sSet 4 (eBin gIx (eVar 1) (eC (.int 0))))
  (sSeq (eIf (eB (eBin (gEq false) (aThen (g1 gLen) (aCons (eVar 1) aNil)) (eC (.int 1))))
  (sRet (eBin gAdd (eBin gAdd (eSl (eVar 0) oNone (oSome (eVar 4))) (eVar 3)) (eSl (eVar 0) (oSome (eBin gAdd (eVar 4) (eVar 2))) oNone)))
  sNext)
  (sSeq (sSet 5 (eBin gIx (eVar 0) (eVar 4)))
  (sSeq (sSet 6 (eBin gIx (eVar 1) (eC (.int 1))))
  (sSeq (sSet 7 (eCall (lenD 4 d_replaced) (aCons (eBin gIx (eVar 5) (eVar 6)) (aCons (eSl (eVar 1) (oSome (eC (.int 2))) oNone) (aCons (eVar 2) (aCons (eVar 3) aNil))))))
  (sRet (eBin gAdd (eBin gAdd (eSl (eVar 0) oNone (oSome (eVar 4))) (aThen gTup (aCons (eBin gAdd (eBin gAdd (eSl (eVar 5) oNone (oSome (eVar 6))) (aThen gTup (aCons (eVar 7) aNil))) (eSl (eVar 5) (oSome (eBin gAdd (eVar 6) (eC (.int 1)))) oNone)) aNil))) (eSl (eVar 0) (oSome (eBin gAdd (eVar 4) (eC (.int 1)))) oNone))))))))
noncomputable def den_replaced (d_replaced : List D → M Rv) : List D → M Rv := fun ds => noX (runB 8 (r_replaced d_replaced) ds)
theorem mp_replaced {k : Nat} {f : Addr} {fd : FuncData} {d_replaced : List D → M Rv} (T_replaced : FnI K mg "replaced" st_replaced f fd ["body", "path", "many", "statements"]) (F_replaced : FnOk P w K mg base CX0 k f fd ["body", "path", "many", "statements"] (sp K mg 4 d_replaced)) (z_len : mg "len" = none) : FnOk P w K mg base CX0 (k + 1) f fd ["body", "path", "many", "statements"] (sp K mg 4 (den_replaced d_replaced)) :=
  have sc := sc_replaced
  fn_mp (N := ["body", "path", "many", "statements", "index", "statement", "block", "inner"]) (r := r_replaced d_replaced) T_replaced.fn sc_replaced rfl fun cdv A outer s H E hr =>
  have hu := hr.units
  have hu1 := units1 hr
  (mss_cons (ms_set (i := 4) sc.nd rfl (by first | exact Or.inl rfl | exact Or.inr rfl) (me_ix (me_var (pv 1)) me_int))
  (mss_cons (ms_if (mt_cmp (op_eqM hu) opm_eq (me_callB call_lenM callM_len rfl z_len PySem.boot_len (ma_cons (me_var (pv 1)) ma_nil)) me_int (by first | exact nomark _ | rfl))
  (mss_one (ms_ret (me_bin op_addM opm_add (me_bin op_addM opm_add (me_slice (me_var (pv 0)) mo_none (mo_some (me_var (pv 4)))) (me_var (pv 3))) (me_slice (me_var (pv 0)) (mo_some (me_bin op_addM opm_add (me_var (pv 4)) (me_var (pv 2)))) mo_none))))
  mss_nil)
  (mss_cons (ms_set (i := 5) sc.nd rfl (by first | exact Or.inl rfl | exact Or.inr rfl) (me_ix (me_var (pv 0)) (me_var (pv 4))))
  (mss_cons (ms_set (i := 6) sc.nd rfl (by first | exact Or.inl rfl | exact Or.inr rfl) (me_ix (me_var (pv 1)) me_int))
  (mss_cons (ms_set (i := 7) sc.nd rfl (by first | exact Or.inl rfl | exact Or.inr rfl) (me_callF T_replaced F_replaced hr rfl (ma_cons (me_ix (me_var (pv 5)) (me_var (pv 6))) (ma_cons (me_slice (me_var (pv 1)) (mo_some me_int) mo_none) (ma_cons (me_var (pv 2)) (ma_cons (me_var (pv 3)) ma_nil)))) rfl))
  (mss_one (ms_ret (me_bin op_addM opm_add (me_bin op_addM opm_add (me_slice (me_var (pv 0)) mo_none (mo_some (me_var (pv 4)))) (me_tup (ma_cons (me_bin op_addM opm_add (me_bin op_addM opm_add (me_slice (me_var (pv 5)) mo_none (mo_some (me_var (pv 6)))) (me_tup (ma_cons (me_var (pv 7)) ma_nil))) (me_slice (me_var (pv 5)) (mo_some (me_bin op_addM opm_add (me_var (pv 6)) me_int)) mo_none)) ma_nil))) (me_slice (me_var (pv 0)) (mo_some (me_bin op_addM opm_add (me_var (pv 4)) me_int)) mo_none)))))))))
abbrev st_block_at : Stmt := top 12
theorem sc_block_at : FnScope ["body", "path"] ["body", "path"] (defScope st_block_at) := ⟨rfl, rfl, rfl, by decide +kernel, rfl, by decide +kernel, by decide +kernel⟩
/-- names: 0 body, 1 path -/
noncomputable def r_block_at (d_block_at : List D → M Rv) : MP.Env → M Fl :=
  (sSeq (eIf (eB (eBin (gEq false) (aThen (g1 gLen) (aCons (eVar 1) aNil)) (eC (.int 1))))
  (sRet (eVar 0))
  sNext)
  (sRet (eCall (lenD 2 d_block_at) (aCons (eBin gIx (eBin gIx (eVar 0) (eBin gIx (eVar 1) (eC (.int 0)))) (eBin gIx (eVar 1) (eC (.int 1)))) (aCons (eSl (eVar 1) (oSome (eC (.int 2))) oNone) aNil)))))
noncomputable def den_block_at (d_block_at : List D → M Rv) : List D → M Rv := fun ds => noX (runB 2 (r_block_at d_block_at) ds)
theorem mp_block_at {k : Nat} {f : Addr} {fd : FuncData} {d_block_at : List D → M Rv} (T_block_at : FnI K mg "block_at" st_block_at f fd ["body", "path"]) (F_block_at : FnOk P w K mg base CX0 k f fd ["body", "path"] (sp K mg 2 d_block_at)) (z_len : mg "len" = none) : FnOk P w K mg base CX0 (k + 1) f fd ["body", "path"] (sp K mg 2 (den_block_at d_block_at)) :=
  have sc := sc_block_at
  fn_mp (N := ["body", "path"]) (r := r_block_at d_block_at) T_block_at.fn sc_block_at rfl fun cdv A outer s H E hr =>
  have hu := hr.units
  have hu1 := units1 hr
  (mss_cons (ms_if (mt_cmp (op_eqM hu) opm_eq (me_callB call_lenM callM_len rfl z_len PySem.boot_len (ma_cons (me_var (pv 1)) ma_nil)) me_int (by first | exact nomark _ | rfl))
  (mss_one (ms_ret (me_var (pv 0))))
  mss_nil)
  (mss_one (ms_ret (me_callF T_block_at F_block_at hr rfl (ma_cons (me_ix (me_ix (me_var (pv 0)) (me_ix (me_var (pv 1)) me_int)) (me_ix (me_var (pv 1)) me_int)) (ma_cons (me_slice (me_var (pv 1)) (mo_some me_int) mo_none) ma_nil)) rfl))))
abbrev st_names_used : Stmt := top 13
theorem sc_names_used : FnScope ["part", "found", "item"] ["part"] (defScope st_names_used) := ⟨rfl, rfl, rfl, by decide +kernel, rfl, by decide +kernel, by decide +kernel⟩
/-- names: 0 part, 1 found, 2 item -/
noncomputable def r_names_used (d_names_used : List D → M Rv) : MP.Env → M Fl :=
  (sSeq (eIf (bOr (bNot (eB (eMap (gIsi "tuple") (eVar 0)))) (bNot (bTru (eVar 0))))
  (sRetF (aList aNil))
  sNext)
  (sSeq (eIf (eB (eBin (gEq false) (eBin gIx (eVar 0) (eC (.int 0))) (eC (.str "number"))))
  (sRetF (aList aNil))
  sNext)
  (sSeq (eIf (eB (eBin (gIn false) (eBin gIx (eVar 0) (eC (.int 0))) (aThen gTup (aCons (eC (.str "field")) (aCons (eC (.str "startfield")) aNil)))))
  (sRetF (aList (aCons (eBin gIx (eVar 0) (eC (.int 1))) aNil)))
  sNext)
  (sSeq (sSet 1 (eNew (aList aNil)))
  (sSeq (sFor (eWalk (eSl (eVar 0) (oSome (eC (.int 1))) oNone)) (asgN 2)
  (eIf (eB (eMap (gIsi "tuple") (eVar 2)))
  (sExpr (eMeth lstK gExtend (eVar 1) (aCons (eCall (lenD 1 d_names_used) (aCons (eVar 2) aNil)) aNil)))
  (eIf (eB (eMap (gIsi "str") (eVar 2)))
  (sExpr (eMeth lstK gAppend (eVar 1) (aCons (eVar 2) aNil)))
  sNext)) [2])
  (sRet (eVar 1)))))))
noncomputable def den_names_used (d_names_used : List D → M Rv) : List D → M Rv := fun ds => noX (runB 3 (r_names_used d_names_used) ds)
theorem mp_names_used {k : Nat} {f : Addr} {fd : FuncData} {d_names_used : List D → M Rv} (T_names_used : FnI K mg "names_used" st_names_used f fd ["part"]) (F_names_used : FnOk P w K mg base CX0 k f fd ["part"] (sp K mg 1 d_names_used)) (z_isinstance : mg "isinstance" = none) (z_tuple : mg "tuple" = none) (z_str : mg "str" = none) : FnOk P w K mg base CX0 (k + 1) f fd ["part"] (sp K mg 1 (den_names_used d_names_used)) :=
  have sc := sc_names_used
  fn_mp (N := ["part", "found", "item"]) (r := r_names_used d_names_used) T_names_used.fn sc_names_used rfl fun cdv A outer s H E hr =>
  have hu := hr.units
  have hu1 := units1 hr
  (mss_cons (ms_if (MW.mt (mw_or (mt_not (mt_val (me_isi (T := "tuple") (by decide) rfl z_isinstance (by decide +kernel) rfl z_tuple (by decide +kernel) (me_var (pv 0))))) (mw_or1 (mt_not (mt_truth (me_var (pv 0)))))))
  (mss_one (ms_retF (mf_lst ma_nil)))
  mss_nil)
  (mss_cons (ms_if (mt_cmp (op_eqM hu) opm_eq (me_ix (me_var (pv 0)) me_int) me_str (by first | exact nomark _ | rfl))
  (mss_one (ms_retF (mf_lst ma_nil)))
  mss_nil)
  (mss_cons (ms_if (mt_cmp (op_inM hu) opm_in (me_ix (me_var (pv 0)) me_int) (me_tup (ma_cons me_str (ma_cons me_str ma_nil))) (by first | exact nomark _ | rfl))
  (mss_one (ms_retF (mf_lst (ma_cons (me_ix (me_var (pv 0)) me_int) ma_nil))))
  mss_nil)
  (mss_cons (ms_set (i := 1) sc.nd rfl (by first | exact Or.inl rfl | exact Or.inr rfl) (me_new (mf_lst ma_nil)))
  (mss_cons (ms_for (fg := [2]) PassesOwn.never rfl (mi_seq (me_slice (me_var (pv 0)) (mo_some me_int) mo_none)) (mg_of (pg_name (i := 2) sc.nd rfl (by first | exact Or.inl rfl | exact Or.inr rfl)))
  (mss_one (ms_if (mt_val (me_isi (T := "tuple") (by decide) rfl z_isinstance (by decide +kernel) rfl z_tuple (by decide +kernel) (me_var (pv 2))))
  (mss_one (ms_expr (me_lmeth PySem.F.slot_list_extend PySem.F.type_list_extend mt_extend methM_extend (me_var (pv 1)) (ma_cons (me_callF T_names_used F_names_used hr rfl (ma_cons (me_var (pv 2)) ma_nil) rfl) ma_nil))))
  (mss_one (ms_if (mt_val (me_isi (T := "str") (by decide) rfl z_isinstance (by decide +kernel) rfl z_str (by decide +kernel) (me_var (pv 2))))
  (mss_one (ms_expr (me_lmeth PySem.F.slot_list_append PySem.F.type_list_append mt_append methM_append (me_var (pv 1)) (ma_cons (me_var (pv 2)) ma_nil))))
  mss_nil)))))
  (mss_one (ms_ret (me_var (pv 1)))))))))
abbrev st_simple_names : Stmt := top 14
theorem sc_simple_names : FnScope ["statement", "kind"] ["statement"] (defScope st_simple_names) := ⟨rfl, rfl, rfl, by decide +kernel, rfl, by decide +kernel, by decide +kernel⟩
/-- names: 0 statement, 1 kind -/
noncomputable def r_simple_names (d_names_used : List D → M Rv) : MP.Env → M Fl :=
  (sSeq (sSet 1 (eBin gIx (eVar 0) (eC (.int 0))))
  (sSeq (eIf (eB (eBin (gEq false) (eVar 1) (eC (.str "set"))))
  (sRet (aThen gTup (aCons (eFl (aList (aCons (eBin gIx (eBin gIx (eVar 0) (eC (.int 1))) (eC (.int 1))) aNil))) (aCons (eBin gAdd (eCall (lenD 1 d_names_used) (aCons (eBin gIx (eVar 0) (eC (.int 1))) aNil)) (eCall (lenD 1 d_names_used) (aCons (eBin gIx (eVar 0) (eC (.int 2))) aNil))) aNil))))
  sNext)
  (sSeq (eIf (eB (eBin (gEq false) (eVar 1) (eC (.str "store"))))
  (sRet (aThen gTup (aCons (eFl (aList (aCons (eBin gIx (eVar 0) (eC (.int 1))) aNil))) (aCons (eBin gAdd (eCall (lenD 1 d_names_used) (aCons (eBin gIx (eVar 0) (eC (.int 2))) aNil)) (eCall (lenD 1 d_names_used) (aCons (eBin gIx (eVar 0) (eC (.int 3))) aNil))) aNil))))
  sNext)
  (sSeq (eIf (eB (eBin (gEq false) (eVar 1) (eC (.str "push"))))
  (sRet (aThen gTup (aCons (eFl (aList (aCons (eBin gIx (eVar 0) (eC (.int 2))) aNil))) (aCons (eCall (lenD 1 d_names_used) (aCons (eBin gIx (eVar 0) (eC (.int 1))) aNil)) aNil))))
  sNext)
  (sSeq (eIf (eB (eBin (gEq false) (eVar 1) (eC (.str "pop"))))
  (sRet (aThen gTup (aCons (eFl (aList (aCons (eBin gIx (eBin gIx (eVar 0) (eC (.int 1))) (eC (.int 1))) (aCons (eBin gIx (eVar 0) (eC (.int 2))) aNil)))) (aCons (eFl (aList aNil)) aNil))))
  sNext)
  (sRet (eC .non)))))))
noncomputable def den_simple_names (d_names_used : List D → M Rv) : List D → M Rv := fun ds => noX (runB 2 (r_simple_names d_names_used) ds)
theorem mp_simple_names {k : Nat} {f : Addr} {fd : FuncData} (F : Fun K "simple_names" "simple_names" st_simple_names f fd) {f_names_used : Addr} {e_names_used : FuncData} {d_names_used : List D → M Rv} (T_names_used : FnI K mg "names_used" st_names_used f_names_used e_names_used ["part"]) (F_names_used : FnOk P w K mg base CX0 k f_names_used e_names_used ["part"] (sp K mg 1 d_names_used)) : FnOk P w K mg base CX0 (k + 1) f fd ["statement"] (sp K mg 1 (den_simple_names d_names_used)) :=
  have sc := sc_simple_names
  fn_mp (N := ["statement", "kind"]) (r := r_simple_names d_names_used) F sc_simple_names rfl fun cdv A outer s H E hr =>
  have hu := hr.units
  have hu1 := units1 hr
  (mss_cons (ms_set (i := 1) sc.nd rfl (by first | exact Or.inl rfl | exact Or.inr rfl) (me_ix (me_var (pv 0)) me_int))
  (mss_cons (ms_if (mt_cmp (op_eqM hu) opm_eq (me_var (pv 1)) me_str (by first | exact nomark _ | rfl))
  (mss_one (ms_ret (me_tup (ma_cons (me_fl (mf_lst (ma_cons (me_ix (me_ix (me_var (pv 0)) me_int) me_int) ma_nil))) (ma_cons (me_bin op_addM opm_add (me_callF T_names_used F_names_used hr rfl (ma_cons (me_ix (me_var (pv 0)) me_int) ma_nil) rfl) (me_callF T_names_used F_names_used hr rfl (ma_cons (me_ix (me_var (pv 0)) me_int) ma_nil) rfl)) ma_nil)))))
  mss_nil)
  (mss_cons (ms_if (mt_cmp (op_eqM hu) opm_eq (me_var (pv 1)) me_str (by first | exact nomark _ | rfl))
  (mss_one (ms_ret (me_tup (ma_cons (me_fl (mf_lst (ma_cons (me_ix (me_var (pv 0)) me_int) ma_nil))) (ma_cons (me_bin op_addM opm_add (me_callF T_names_used F_names_used hr rfl (ma_cons (me_ix (me_var (pv 0)) me_int) ma_nil) rfl) (me_callF T_names_used F_names_used hr rfl (ma_cons (me_ix (me_var (pv 0)) me_int) ma_nil) rfl)) ma_nil)))))
  mss_nil)
  (mss_cons (ms_if (mt_cmp (op_eqM hu) opm_eq (me_var (pv 1)) me_str (by first | exact nomark _ | rfl))
  (mss_one (ms_ret (me_tup (ma_cons (me_fl (mf_lst (ma_cons (me_ix (me_var (pv 0)) me_int) ma_nil))) (ma_cons (me_callF T_names_used F_names_used hr rfl (ma_cons (me_ix (me_var (pv 0)) me_int) ma_nil) rfl) ma_nil)))))
  mss_nil)
  (mss_cons (ms_if (mt_cmp (op_eqM hu) opm_eq (me_var (pv 1)) me_str (by first | exact nomark _ | rfl))
  (mss_one (ms_ret (me_tup (ma_cons (me_fl (mf_lst (ma_cons (me_ix (me_ix (me_var (pv 0)) me_int) me_int) (ma_cons (me_ix (me_var (pv 0)) me_int) ma_nil)))) (ma_cons (me_fl (mf_lst ma_nil)) ma_nil)))))
  mss_nil)
  (mss_one (ms_ret me_non)))))))
abbrev st_are_apart : Stmt := top 15
theorem sc_are_apart : FnScope ["one", "other", "left", "right", "name"] ["one", "other"] (defScope st_are_apart) := ⟨rfl, rfl, rfl, by decide +kernel, rfl, by decide +kernel, by decide +kernel⟩
/-- names: 0 one, 1 other, 2 left, 3 right, 4 name -/
noncomputable def r_are_apart (d_simple_names : List D → M Rv) : MP.Env → M Fl :=
  (sSeq (sSet 2 (eCall (lenD 1 d_simple_names) (aCons (eVar 0) aNil)))
  (sSeq (sSet 3 (eCall (lenD 1 d_simple_names) (aCons (eVar 1) aNil)))
  (sSeq (eIf (bOr (eB (eBin (gIsN false) (eVar 2) (eC .non))) (eB (eBin (gIsN false) (eVar 3) (eC .non))))
  (sRet (eC (.bl false)))
  sNext)
  (sSeq (eIf (eB (aThen (g1 gAny) (aCons (eFl (fComp (eWalk (eBin gIx (eVar 2) (eC (.int 0)))) (asgN 4) tYesM (eBin (gIn false) (eVar 4) (eBin gAdd (eBin gIx (eVar 3) (eC (.int 0))) (eBin gIx (eVar 3) (eC (.int 1))))) [4])) aNil)))
  (sRet (eC (.bl false)))
  sNext)
  (sRet (eMap gNot (aThen (g1 gAny) (aCons (eFl (fComp (eWalk (eBin gIx (eVar 3) (eC (.int 0)))) (asgN 4) tYesM (eBin (gIn false) (eVar 4) (eBin gIx (eVar 2) (eC (.int 1)))) [4])) aNil))))))))
noncomputable def den_are_apart (d_simple_names : List D → M Rv) : List D → M Rv := fun ds => noX (runB 5 (r_are_apart d_simple_names) ds)
theorem mp_are_apart {k : Nat} {f : Addr} {fd : FuncData} (F : Fun K "are_apart" "are_apart" st_are_apart f fd) {f_simple_names : Addr} {e_simple_names : FuncData} {d_simple_names : List D → M Rv} (T_simple_names : FnI K mg "simple_names" st_simple_names f_simple_names e_simple_names ["statement"]) (F_simple_names : FnOk P w K mg base CX0 k f_simple_names e_simple_names ["statement"] (sp K mg 1 d_simple_names)) (z_any : mg "any" = none) : FnOk P w K mg base CX0 (k + 1) f fd ["one", "other"] (sp K mg 2 (den_are_apart d_simple_names)) :=
  have sc := sc_are_apart
  fn_mp (N := ["one", "other", "left", "right", "name"]) (r := r_are_apart d_simple_names) F sc_are_apart rfl fun cdv A outer s H E hr =>
  have hu := hr.units
  have hu1 := units1 hr
  (mss_cons (ms_set (i := 2) sc.nd rfl (by first | exact Or.inl rfl | exact Or.inr rfl) (me_callF T_simple_names F_simple_names hr rfl (ma_cons (me_var (pv 0)) ma_nil) rfl))
  (mss_cons (ms_set (i := 3) sc.nd rfl (by first | exact Or.inl rfl | exact Or.inr rfl) (me_callF T_simple_names F_simple_names hr rfl (ma_cons (me_var (pv 1)) ma_nil) rfl))
  (mss_cons (ms_if (MW.mt (mw_or (mt_cmp op_isNM opm_isN (me_var (pv 2)) me_non (by first | exact nomark _ | rfl)) (mw_or1 (mt_cmp op_isNM opm_isN (me_var (pv 3)) me_non (by first | exact nomark _ | rfl)))))
  (mss_one (ms_ret me_bl))
  mss_nil)
  (mss_cons (ms_if (mt_val (me_callB (cr_any rfl) callM_any rfl z_any (by decide +kernel) (ma_cons (me_fl (mf_comp rfl sc.nd (mi_seq (me_ix (me_var (pv 2)) me_int)) (own := [("name", 4)]) (blkOk_by (N := ["one", "other", "left", "right", "name"]) (sc := defScope st_are_apart) (by decide +kernel)) (by decide) (fun s H C cl fp => (mg_of (pg_name (i := 4) sc.nd rfl (by first | exact Or.inl rfl | exact Or.inr rfl)))) (fun s H C cl fp => mts_nil) (fun s H C cl fp => (me_cmp (op_inM hu) opm_in (me_var (pv 4)) (me_bin op_addM opm_add (me_ix (me_var (pv 3)) me_int) (me_ix (me_var (pv 3)) me_int)) (by first | exact nomark _ | rfl))))) ma_nil)))
  (mss_one (ms_ret me_bl))
  mss_nil)
  (mss_one (ms_ret (me_not (me_callB (cr_any rfl) callM_any rfl z_any (by decide +kernel) (ma_cons (me_fl (mf_comp rfl sc.nd (mi_seq (me_ix (me_var (pv 3)) me_int)) (own := [("name", 4)]) (blkOk_by (N := ["one", "other", "left", "right", "name"]) (sc := defScope st_are_apart) (by decide +kernel)) (by decide) (fun s H C cl fp => (mg_of (pg_name (i := 4) sc.nd rfl (by first | exact Or.inl rfl | exact Or.inr rfl)))) (fun s H C cl fp => mts_nil) (fun s H C cl fp => (me_cmp (op_inM hu) opm_in (me_var (pv 4)) (me_ix (me_var (pv 2)) me_int) (by first | exact nomark _ | rfl))))) ma_nil)))))))))
abbrev st_constant_side : Stmt := top 16
theorem sc_constant_side : FnScope ["condition", "one", "other", "table"] ["condition"] (defScope st_constant_side) := ⟨rfl, rfl, rfl, by decide +kernel, rfl, by decide +kernel, by decide +kernel⟩
/-- names: 0 condition, 1 one, 2 other, 3 table -/
noncomputable def r_constant_side : MP.Env → M Fl :=
  (sSeq (eIf (bOr (eB (eBin (gEq true) (eBin gIx (eVar 0) (eC (.int 0))) (eC (.str "compare")))) (bOr (eB (eBin (gEq true) (eBin gIx (eBin gIx (eVar 0) (eC (.int 2))) (eC (.int 0))) (eC (.str "number")))) (eB (eBin (gEq true) (eBin gIx (eBin gIx (eVar 0) (eC (.int 3))) (eC (.int 0))) (eC (.str "number"))))))
  (sRet (eC .non))
  sNext)
  (sSeq (sSet 1 (eBin gIx (eBin gIx (eVar 0) (eC (.int 2))) (eC (.int 1))))
  (sSeq (sSet 2 (eBin gIx (eBin gIx (eVar 0) (eC (.int 3))) (eC (.int 1))))
  (sSeq (sSet 3 (eDisp [((eC (.str "<")), (eBin gLt (eVar 1) (eVar 2))), ((eC (.str "<=")), (eBin gLe (eVar 1) (eVar 2))), ((eC (.str ">")), (eBin gGt (eVar 1) (eVar 2))), ((eC (.str ">=")), (eBin gGe (eVar 1) (eVar 2))), ((eC (.str "==")), (eBin (gEq false) (eVar 1) (eVar 2)))]))
  (sRet (eGet2 (eVar 3) (eBin gIx (eVar 0) (eC (.int 1))) (eBin (gEq true) (eVar 1) (eVar 2))))))))
noncomputable def den_constant_side : List D → M Rv := fun ds => noX (runB 4 (r_constant_side) ds)
theorem mp_constant_side {k : Nat} {f : Addr} {fd : FuncData} (F : Fun K "constant_side" "constant_side" st_constant_side f fd) : FnOk P w K mg base CX0 (k + 1) f fd ["condition"] (sp K mg 1 (den_constant_side)) :=
  have sc := sc_constant_side
  fn_mp (N := ["condition", "one", "other", "table"]) (r := r_constant_side) F sc_constant_side rfl fun cdv A outer s H E hr =>
  have hu := hr.units
  have hu1 := units1 hr
  (mss_cons (ms_if (MW.mt (mw_or (mt_cmp (op_neM hu) opm_eq (me_ix (me_var (pv 0)) me_int) me_str (by first | exact nomark _ | rfl)) (mw_or (mt_cmp (op_neM hu) opm_eq (me_ix (me_ix (me_var (pv 0)) me_int) me_int) me_str (by first | exact nomark _ | rfl)) (mw_or1 (mt_cmp (op_neM hu) opm_eq (me_ix (me_ix (me_var (pv 0)) me_int) me_int) me_str (by first | exact nomark _ | rfl))))))
  (mss_one (ms_ret me_non))
  mss_nil)
  (mss_cons (ms_set (i := 1) sc.nd rfl (by first | exact Or.inl rfl | exact Or.inr rfl) (me_ix (me_ix (me_var (pv 0)) me_int) me_int))
  (mss_cons (ms_set (i := 2) sc.nd rfl (by first | exact Or.inl rfl | exact Or.inr rfl) (me_ix (me_ix (me_var (pv 0)) me_int) me_int))
  (mss_cons (ms_set (i := 3) sc.nd rfl (by first | exact Or.inl rfl | exact Or.inr rfl) (me_disp (mps_cons me_str (me_cmp op_ltM opm_lt (me_var (pv 1)) (me_var (pv 2)) (by first | exact nomark _ | rfl)) (mps_cons me_str (me_cmp op_leM opm_ord (me_var (pv 1)) (me_var (pv 2)) (by first | exact nomark _ | rfl)) (mps_cons me_str (me_cmp op_gtM opm_ord (me_var (pv 1)) (me_var (pv 2)) (by first | exact nomark _ | rfl)) (mps_cons me_str (me_cmp op_geM opm_ord (me_var (pv 1)) (me_var (pv 2)) (by first | exact nomark _ | rfl)) (mps_cons me_str (me_cmp (op_eqM hu) opm_eq (me_var (pv 1)) (me_var (pv 2)) (by first | exact nomark _ | rfl)) mps_nil))))) rfl rfl nofun (by decide)))
  (mss_one (ms_ret (me_get2 hu1 (me_var (pv 3)) (me_ix (me_var (pv 0)) me_int) (me_cmp (op_neM hu) opm_eq (me_var (pv 1)) (me_var (pv 2)) (by first | exact nomark _ | rfl)))))))))
abbrev st_gives_in : Stmt := top 17
theorem sc_gives_in : FnScope ["statement", "blocks", "block", "inner"] ["statement"] (defScope st_gives_in) := ⟨rfl, rfl, rfl, by decide +kernel, rfl, by decide +kernel, by decide +kernel⟩
/-- names: 0 statement, 1 blocks, 2 block, 3 inner -/
noncomputable def r_gives_in (d_gives_in : List D → M Rv) : MP.Env → M Fl :=
  (sSeq (eIf (eB (eBin (gEq false) (eBin gIx (eVar 0) (eC (.int 0))) (eC (.str "give"))))
  (sRet (eC (.bl true)))
  sNext)
  (sSeq (sSet 1 (eFl (fComp (eWalk (eGetK tab_BLOCKS (eBin gIx (eVar 0) (eC (.int 0))) (aThen gTup aNil))) (asgN 2) tYesM (eBin gIx (eVar 0) (eVar 2)) [2])))
  (sRet (aThen (g1 gAny) (aCons (eFl (fComp2 (eWalk (eVar 1)) (asgN 2) tYesM (eWalk (eVar 2)) (asgN 3) tYesM (eCall (lenD 1 d_gives_in) (aCons (eVar 3) aNil)) [2, 3] [3])) aNil)))))
noncomputable def den_gives_in (d_gives_in : List D → M Rv) : List D → M Rv := fun ds => noX (runB 4 (r_gives_in d_gives_in) ds)
theorem mp_gives_in {k : Nat} {f : Addr} {fd : FuncData} {d_gives_in : List D → M Rv} (T_gives_in : FnI K mg "gives_in" st_gives_in f fd ["statement"]) (F_gives_in : FnOk P w K mg base CX0 k f fd ["statement"] (sp K mg 1 d_gives_in)) (z_any : mg "any" = none) {a_BLOCKS : Addr} (K_BLOCKS : KTab K w a_BLOCKS tab_BLOCKS) (g_BLOCKS : mg "BLOCKS" = some (.ref a_BLOCKS)) : FnOk P w K mg base CX0 (k + 1) f fd ["statement"] (sp K mg 1 (den_gives_in d_gives_in)) :=
  have sc := sc_gives_in
  fn_mp (N := ["statement", "blocks", "block", "inner"]) (r := r_gives_in d_gives_in) T_gives_in.fn sc_gives_in rfl fun cdv A outer s H E hr =>
  have hu := hr.units
  have hu1 := units1 hr
  (mss_cons (ms_if (mt_cmp (op_eqM hu) opm_eq (me_ix (me_var (pv 0)) me_int) me_str (by first | exact nomark _ | rfl))
  (mss_one (ms_ret me_bl))
  mss_nil)
  (mss_cons (ms_setC (i := 1) rfl sc.nd rfl rfl (sw_true rfl rfl (by decide +kernel) (by decide +kernel)) (mi_seq (me_getK2 K_BLOCKS rfl g_BLOCKS (me_ix (me_var (pv 0)) me_int) (me_tup ma_nil))) (own := [("block", 2)]) (blkOk_by (N := ["statement", "blocks", "block", "inner"]) (sc := defScope st_gives_in) (by decide +kernel)) (by decide) (fun s H C cl fp => (mg_of (pg_name (i := 2) sc.nd rfl (by first | exact Or.inl rfl | exact Or.inr rfl)))) (fun s H C cl fp => mts_nil) (fun s H C cl fp => (me_ix (me_var (pv 0)) (me_var (pv 2)))) fl_go)
  (mss_one (ms_ret (me_callB (cr_any rfl) callM_any rfl z_any (by decide +kernel) (ma_cons (me_fl (mf_comp2 rfl sc.nd (mi_seq (me_var (pv 1))) (own := [("block", 2), ("inner", 3)]) (vs1 := [3]) (blkOk_by (N := ["statement", "blocks", "block", "inner"]) (sc := defScope st_gives_in) (by decide +kernel)) (by decide) (by decide) (by decide) (fun s H C cl fp => (mg_of (pg_name (i := 2) sc.nd rfl (by first | exact Or.inl rfl | exact Or.inr rfl)))) (fun s H C cl fp => mts_nil) (fun s H C cl fp => (mi_seq (me_var (pv 2)))) (fun s H C cl fp => (mg_of (pg_name (i := 3) sc.nd rfl (by first | exact Or.inl rfl | exact Or.inr rfl)))) (fun s H C cl fp => mts_nil) (fun s H C cl fp => (me_callF T_gives_in F_gives_in hr rfl (ma_cons (me_var (pv 3)) ma_nil) rfl)))) ma_nil))))))
abbrev st_can_change : Stmt := top 18
theorem sc_can_change : FnScope ["body", "path", "kind", "statement", "block"] ["body", "path", "kind"] (defScope st_can_change) := ⟨rfl, rfl, rfl, by decide +kernel, rfl, by decide +kernel, by decide +kernel⟩
/-- names: 0 body, 1 path, 2 kind, 3 statement, 4 block -/
noncomputable def r_can_change (d_statement_at : List D → M Rv) (d_gives_in : List D → M Rv) (d_block_at : List D → M Rv) (d_are_apart : List D → M Rv) (d_constant_side : List D → M Rv) : MP.Env → M Fl :=
  (sSeq (sSet 3 (eCall (lenD 2 d_statement_at) (aCons (eVar 0) (aCons (eVar 1) aNil))))
  (sSeq (eIf (eB (eBin (gEq false) (eVar 2) (eC (.str "turn"))))
  (sRet (eBin (gEq false) (eBin gIx (eVar 3) (eC (.int 0))) (eC (.str "if"))))
  sNext)
  (sSeq (eIf (bOr (eB (eBin (gEq false) (eVar 2) (eC (.str "peel")))) (eB (eBin (gEq false) (eVar 2) (eC (.str "twice")))))
  (sRet (eAnd (eBin (gEq false) (eBin gIx (eVar 3) (eC (.int 0))) (eC (.str "while"))) (eMap gNot (eCall (lenD 1 d_gives_in) (aCons (eVar 3) aNil)))))
  sNext)
  (sSeq (eIf (eB (eBin (gEq false) (eVar 2) (eC (.str "swap"))))
  (sSeq (sSet 4 (eCall (lenD 2 d_block_at) (aCons (eVar 0) (aCons (eVar 1) aNil))))
  (sRet (eAnd (eBin gLt (eBin gAdd (eBin gIx (eVar 1) (eMap gNeg (eC (.int 1)))) (eC (.int 1))) (aThen (g1 gLen) (aCons (eVar 4) aNil))) (eCall (lenD 2 d_are_apart) (aCons (eVar 3) (aCons (eBin gIx (eVar 4) (eBin gAdd (eBin gIx (eVar 1) (eMap gNeg (eC (.int 1)))) (eC (.int 1)))) aNil))))))
  sNext)
  (sSeq (eIf (eB (eBin (gEq false) (eVar 2) (eC (.str "rest"))))
  (sRet (eC (.bl true)))
  sNext)
  (sSeq (eIf (eB (eBin (gEq false) (eVar 2) (eC (.str "unrest"))))
  (sRet (eBin (gEq false) (eBin gIx (eVar 3) (eC (.int 0))) (eC (.str "pause"))))
  sNext)
  (sRet (eAnd (eBin (gEq false) (eBin gIx (eVar 3) (eC (.int 0))) (eC (.str "if"))) (eAnd (eBin (gIsN true) (eCall (lenD 1 d_constant_side) (aCons (eBin gIx (eVar 3) (eC (.int 1))) aNil)) (eC .non)) (eMap gNot (eCall (lenD 1 d_gives_in) (aCons (eVar 3) aNil))))))))))))
noncomputable def den_can_change (d_statement_at : List D → M Rv) (d_gives_in : List D → M Rv) (d_block_at : List D → M Rv) (d_are_apart : List D → M Rv) (d_constant_side : List D → M Rv) : List D → M Rv := fun ds => noX (runB 5 (r_can_change d_statement_at d_gives_in d_block_at d_are_apart d_constant_side) ds)
theorem mp_can_change {k : Nat} {f : Addr} {fd : FuncData} (F : Fun K "can_change" "can_change" st_can_change f fd) {f_statement_at : Addr} {e_statement_at : FuncData} {f_gives_in : Addr} {e_gives_in : FuncData} {f_block_at : Addr} {e_block_at : FuncData} {f_are_apart : Addr} {e_are_apart : FuncData} {f_constant_side : Addr} {e_constant_side : FuncData} {d_statement_at : List D → M Rv} {d_gives_in : List D → M Rv} {d_block_at : List D → M Rv} {d_are_apart : List D → M Rv} {d_constant_side : List D → M Rv} (T_statement_at : FnI K mg "statement_at" st_statement_at f_statement_at e_statement_at ["body", "path"]) (F_statement_at : FnOk P w K mg base CX0 k f_statement_at e_statement_at ["body", "path"] (sp K mg 2 d_statement_at)) (T_gives_in : FnI K mg "gives_in" st_gives_in f_gives_in e_gives_in ["statement"]) (F_gives_in : FnOk P w K mg base CX0 k f_gives_in e_gives_in ["statement"] (sp K mg 1 d_gives_in)) (T_block_at : FnI K mg "block_at" st_block_at f_block_at e_block_at ["body", "path"]) (F_block_at : FnOk P w K mg base CX0 k f_block_at e_block_at ["body", "path"] (sp K mg 2 d_block_at)) (T_are_apart : FnI K mg "are_apart" st_are_apart f_are_apart e_are_apart ["one", "other"]) (F_are_apart : FnOk P w K mg base CX0 k f_are_apart e_are_apart ["one", "other"] (sp K mg 2 d_are_apart)) (T_constant_side : FnI K mg "constant_side" st_constant_side f_constant_side e_constant_side ["condition"]) (F_constant_side : FnOk P w K mg base CX0 k f_constant_side e_constant_side ["condition"] (sp K mg 1 d_constant_side)) (z_len : mg "len" = none) : FnOk P w K mg base CX0 (k + 1) f fd ["body", "path", "kind"] (sp K mg 3 (den_can_change d_statement_at d_gives_in d_block_at d_are_apart d_constant_side)) :=
  have sc := sc_can_change
  fn_mp (N := ["body", "path", "kind", "statement", "block"]) (r := r_can_change d_statement_at d_gives_in d_block_at d_are_apart d_constant_side) F sc_can_change rfl fun cdv A outer s H E hr =>
  have hu := hr.units
  have hu1 := units1 hr
  (mss_cons (ms_set (i := 3) sc.nd rfl (by first | exact Or.inl rfl | exact Or.inr rfl) (me_callF T_statement_at F_statement_at hr rfl (ma_cons (me_var (pv 0)) (ma_cons (me_var (pv 1)) ma_nil)) rfl))
  (mss_cons (ms_if (mt_cmp (op_eqM hu) opm_eq (me_var (pv 2)) me_str (by first | exact nomark _ | rfl))
  (mss_one (ms_ret (me_cmp (op_eqM hu) opm_eq (me_ix (me_var (pv 3)) me_int) me_str (by first | exact nomark _ | rfl))))
  mss_nil)
  (mss_cons (ms_if (MW.mt (mw_or (mt_cmp (op_eqM hu) opm_eq (me_var (pv 2)) me_str (by first | exact nomark _ | rfl)) (mw_or1 (mt_cmp (op_eqM hu) opm_eq (me_var (pv 2)) me_str (by first | exact nomark _ | rfl)))))
  (mss_one (ms_ret (me_and (me_cmp (op_eqM hu) opm_eq (me_ix (me_var (pv 3)) me_int) me_str (by first | exact nomark _ | rfl)) (me_one (me_not (me_callF T_gives_in F_gives_in hr rfl (ma_cons (me_var (pv 3)) ma_nil) rfl))))))
  mss_nil)
  (mss_cons (ms_if (mt_cmp (op_eqM hu) opm_eq (me_var (pv 2)) me_str (by first | exact nomark _ | rfl))
  (mss_cons (ms_set (i := 4) sc.nd rfl (by first | exact Or.inl rfl | exact Or.inr rfl) (me_callF T_block_at F_block_at hr rfl (ma_cons (me_var (pv 0)) (ma_cons (me_var (pv 1)) ma_nil)) rfl))
  (mss_one (ms_ret (me_and (me_cmp op_ltM opm_lt (me_bin op_addM opm_add (me_ix (me_var (pv 1)) (me_neg me_int)) me_int) (me_callB call_lenM callM_len rfl z_len PySem.boot_len (ma_cons (me_var (pv 4)) ma_nil)) (by first | exact nomark _ | rfl)) (me_one (me_callF T_are_apart F_are_apart hr rfl (ma_cons (me_var (pv 3)) (ma_cons (me_ix (me_var (pv 4)) (me_bin op_addM opm_add (me_ix (me_var (pv 1)) (me_neg me_int)) me_int)) ma_nil)) rfl))))))
  mss_nil)
  (mss_cons (ms_if (mt_cmp (op_eqM hu) opm_eq (me_var (pv 2)) me_str (by first | exact nomark _ | rfl))
  (mss_one (ms_ret me_bl))
  mss_nil)
  (mss_cons (ms_if (mt_cmp (op_eqM hu) opm_eq (me_var (pv 2)) me_str (by first | exact nomark _ | rfl))
  (mss_one (ms_ret (me_cmp (op_eqM hu) opm_eq (me_ix (me_var (pv 3)) me_int) me_str (by first | exact nomark _ | rfl))))
  mss_nil)
  (mss_one (ms_ret (me_and (me_cmp (op_eqM hu) opm_eq (me_ix (me_var (pv 3)) me_int) me_str (by first | exact nomark _ | rfl)) (me_and (me_cmp op_notNM opm_isN (me_callF T_constant_side F_constant_side hr rfl (ma_cons (me_ix (me_var (pv 3)) me_int) ma_nil) rfl) me_non (by first | exact nomark _ | rfl)) (me_one (me_not (me_callF T_gives_in F_gives_in hr rfl (ma_cons (me_var (pv 3)) ma_nil) rfl)))))))))))))
abbrev st_places_for : Stmt := top 19
theorem sc_places_for : FnScope ["source", "name", "kind", "body", "path"] ["source", "name", "kind"] (defScope st_places_for) := ⟨rfl, rfl, rfl, by decide +kernel, rfl, by decide +kernel, by decide +kernel⟩
/-- names: 0 source, 1 name, 2 kind, 3 body, 4 path -/
noncomputable def r_places_for (d_proc_in : List D → M Rv) (d_paths_in : List D → M Rv) (d_can_change : List D → M Rv) : MP.Env → M Fl :=
  (sSeq (sSet 3 (eBin gIx (eCall (lenD 2 d_proc_in) (aCons (eVar 0) (aCons (eVar 1) aNil))) (eC (.int 8))))
  (sSeq (eIf (eB (eBin (gIn true) (eVar 2) (eC con_KINDS)))
  (sRet (aThen gTup aNil))
  sNext)
  (sRet (aThen (g1 gTuple) (aCons (eFl (fSrtT (eFl (fComp (eWalk (eCall (lenD 2 d_paths_in) (aCons (eVar 3) (aCons (aThen gTup aNil) aNil)))) (asgN 4) (eB (eCall (lenD 3 d_can_change) (aCons (eVar 3) (aCons (eVar 4) (aCons (eVar 2) aNil))))) (eVar 4) [4])))) aNil)))))
noncomputable def den_places_for (d_proc_in : List D → M Rv) (d_paths_in : List D → M Rv) (d_can_change : List D → M Rv) : List D → M Rv := fun ds => noX (runB 5 (r_places_for d_proc_in d_paths_in d_can_change) ds)
theorem mp_places_for {k : Nat} {f : Addr} {fd : FuncData} (F : Fun K "places_for" "places_for" st_places_for f fd) {f_proc_in : Addr} {e_proc_in : FuncData} {f_paths_in : Addr} {e_paths_in : FuncData} {f_can_change : Addr} {e_can_change : FuncData} {d_proc_in : List D → M Rv} {d_paths_in : List D → M Rv} {d_can_change : List D → M Rv} (T_proc_in : FnI K mg "proc_in" st_proc_in f_proc_in e_proc_in ["source", "name"]) (F_proc_in : FnOk P w K mg base CX0 k f_proc_in e_proc_in ["source", "name"] (sp K mg 2 d_proc_in)) (T_paths_in : FnI K mg "paths_in" st_paths_in f_paths_in e_paths_in ["body", "ahead"]) (F_paths_in : FnOk P w K mg base CX0 k f_paths_in e_paths_in ["body", "ahead"] (sp K mg 2 d_paths_in)) (T_can_change : FnI K mg "can_change" st_can_change f_can_change e_can_change ["body", "path", "kind"]) (F_can_change : FnOk P w K mg base CX0 k f_can_change e_can_change ["body", "path", "kind"] (sp K mg 3 d_can_change)) (z_sorted : mg "sorted" = none) (z_tuple : mg "tuple" = none) {a_KINDS : Addr} (g_KINDS : mg "KINDS" = some (.ref a_KINDS)) (h_KINDS : ∀ m H, Rep K m H con_KINDS (.ref a_KINDS)) : FnOk P w K mg base CX0 (k + 1) f fd ["source", "name", "kind"] (sp K mg 3 (den_places_for d_proc_in d_paths_in d_can_change)) :=
  have sc := sc_places_for
  fn_mp (N := ["source", "name", "kind", "body", "path"]) (r := r_places_for d_proc_in d_paths_in d_can_change) F sc_places_for rfl fun cdv A outer s H E hr =>
  have hu := hr.units
  have hu1 := units1 hr
  (mss_cons (ms_set (i := 3) sc.nd rfl (by first | exact Or.inl rfl | exact Or.inr rfl) (me_ix (me_callF T_proc_in F_proc_in hr rfl (ma_cons (me_var (pv 0)) (ma_cons (me_var (pv 1)) ma_nil)) rfl) me_int))
  (mss_cons (ms_if (mt_cmp (op_notInM hu) opm_in (me_var (pv 2)) (me_gtup rfl g_KINDS h_KINDS) (by first | exact nomark _ | rfl))
  (mss_one (ms_ret (me_tup ma_nil)))
  mss_nil)
  (mss_one (ms_ret (me_callTy call_tuple_of callM_tuple rfl z_tuple (by decide +kernel) (ma_cons (me_fl (mf_sortedT rfl z_sorted (by decide +kernel) (me_fl (mf_comp rfl sc.nd (mi_seq (me_callF T_paths_in F_paths_in hr rfl (ma_cons (me_var (pv 3)) (ma_cons (me_tup ma_nil) ma_nil)) rfl)) (own := [("path", 4)]) (blkOk_by (N := ["source", "name", "kind", "body", "path"]) (sc := defScope st_places_for) (by decide +kernel)) (by decide) (fun s H C cl fp => (mg_of (pg_name (i := 4) sc.nd rfl (by first | exact Or.inl rfl | exact Or.inr rfl)))) (fun s H C cl fp => (mts_one (mt_val (me_callF T_can_change F_can_change hr rfl (ma_cons (me_var (pv 3)) (ma_cons (me_var (pv 4)) (ma_cons (me_var (pv 2)) ma_nil))) rfl)))) (fun s H C cl fp => (me_var (pv 4))))))) ma_nil))))))
abbrev st_changed_statements : Stmt := top 20
theorem sc_changed_statements : FnScope ["body", "path", "kind", "statement", "again", "block"] ["body", "path", "kind"] (defScope st_changed_statements) := ⟨rfl, rfl, rfl, by decide +kernel, rfl, by decide +kernel, by decide +kernel⟩
/-- names: 0 body, 1 path, 2 kind, 3 statement, 4 again, 5 block -/
noncomputable def r_changed_statements (d_statement_at : List D → M Rv) (d_block_at : List D → M Rv) (d_constant_side : List D → M Rv) : MP.Env → M Fl :=
  (sSeq (sSet 3 (eCall (lenD 2 d_statement_at) (aCons (eVar 0) (aCons (eVar 1) aNil))))
  (sSeq (eIf (eB (eBin (gEq false) (eVar 2) (eC (.str "turn"))))
  (sRet (aThen gTup (aCons (eC (.int 1)) (aCons (aThen gTup (aCons (aThen gTup (aCons (eC (.str "if")) (aCons (aThen gTup (aCons (eC (.str "not")) (aCons (eBin gIx (eVar 3) (eC (.int 1))) aNil))) (aCons (eBin gIx (eVar 3) (eC (.int 3))) (aCons (eBin gIx (eVar 3) (eC (.int 2))) aNil))))) aNil)) aNil))))
  sNext)
  (sSeq (eIf (eB (eBin (gEq false) (eVar 2) (eC (.str "peel"))))
  (sRet (aThen gTup (aCons (eC (.int 1)) (aCons (aThen gTup (aCons (aThen gTup (aCons (eC (.str "if")) (aCons (eBin gIx (eVar 3) (eC (.int 1))) (aCons (eBin gAdd (eBin gIx (eVar 3) (eC (.int 2))) (aThen gTup (aCons (eVar 3) aNil))) (aCons (aThen gTup aNil) aNil))))) aNil)) aNil))))
  sNext)
  (sSeq (eIf (eB (eBin (gEq false) (eVar 2) (eC (.str "twice"))))
  (sSeq (sSet 4 (aThen gTup (aCons (eC (.str "if")) (aCons (eBin gIx (eVar 3) (eC (.int 1))) (aCons (eBin gIx (eVar 3) (eC (.int 2))) (aCons (aThen gTup aNil) aNil))))))
  (sRet (aThen gTup (aCons (eC (.int 1)) (aCons (aThen gTup (aCons (aThen gTup (aCons (eC (.str "while")) (aCons (eBin gIx (eVar 3) (eC (.int 1))) (aCons (eBin gAdd (eBin gIx (eVar 3) (eC (.int 2))) (aThen gTup (aCons (eVar 4) aNil))) aNil)))) aNil)) aNil)))))
  sNext)
  (sSeq (eIf (eB (eBin (gEq false) (eVar 2) (eC (.str "swap"))))
  (sSeq (sSet 5 (eCall (lenD 2 d_block_at) (aCons (eVar 0) (aCons (eVar 1) aNil))))
  (sRet (aThen gTup (aCons (eC (.int 2)) (aCons (aThen gTup (aCons (eBin gIx (eVar 5) (eBin gAdd (eBin gIx (eVar 1) (eMap gNeg (eC (.int 1)))) (eC (.int 1)))) (aCons (eVar 3) aNil))) aNil)))))
  sNext)
  (sSeq (eIf (eB (eBin (gEq false) (eVar 2) (eC (.str "rest"))))
  (sRet (aThen gTup (aCons (eC (.int 0)) (aCons (aThen gTup (aCons (aThen gTup (aCons (eC (.str "pause")) aNil)) aNil)) aNil))))
  sNext)
  (sSeq (eIf (eB (eBin (gEq false) (eVar 2) (eC (.str "unrest"))))
  (sRet (aThen gTup (aCons (eC (.int 1)) (aCons (aThen gTup aNil) aNil))))
  sNext)
  (sRet (aThen gTup (aCons (eC (.int 1)) (aCons (eIf (eB (eCall (lenD 1 d_constant_side) (aCons (eBin gIx (eVar 3) (eC (.int 1))) aNil))) (eBin gIx (eVar 3) (eC (.int 2))) (eBin gIx (eVar 3) (eC (.int 3)))) aNil)))))))))))
noncomputable def den_changed_statements (d_statement_at : List D → M Rv) (d_block_at : List D → M Rv) (d_constant_side : List D → M Rv) : List D → M Rv := fun ds => noX (runB 6 (r_changed_statements d_statement_at d_block_at d_constant_side) ds)
theorem mp_changed_statements {k : Nat} {f : Addr} {fd : FuncData} (F : Fun K "changed_statements" "changed_statements" st_changed_statements f fd) {f_statement_at : Addr} {e_statement_at : FuncData} {f_block_at : Addr} {e_block_at : FuncData} {f_constant_side : Addr} {e_constant_side : FuncData} {d_statement_at : List D → M Rv} {d_block_at : List D → M Rv} {d_constant_side : List D → M Rv} (T_statement_at : FnI K mg "statement_at" st_statement_at f_statement_at e_statement_at ["body", "path"]) (F_statement_at : FnOk P w K mg base CX0 k f_statement_at e_statement_at ["body", "path"] (sp K mg 2 d_statement_at)) (T_block_at : FnI K mg "block_at" st_block_at f_block_at e_block_at ["body", "path"]) (F_block_at : FnOk P w K mg base CX0 k f_block_at e_block_at ["body", "path"] (sp K mg 2 d_block_at)) (T_constant_side : FnI K mg "constant_side" st_constant_side f_constant_side e_constant_side ["condition"]) (F_constant_side : FnOk P w K mg base CX0 k f_constant_side e_constant_side ["condition"] (sp K mg 1 d_constant_side)) : FnOk P w K mg base CX0 (k + 1) f fd ["body", "path", "kind"] (sp K mg 3 (den_changed_statements d_statement_at d_block_at d_constant_side)) :=
  have sc := sc_changed_statements
  fn_mp (N := ["body", "path", "kind", "statement", "again", "block"]) (r := r_changed_statements d_statement_at d_block_at d_constant_side) F sc_changed_statements rfl fun cdv A outer s H E hr =>
  have hu := hr.units
  have hu1 := units1 hr
  (mss_cons (ms_set (i := 3) sc.nd rfl (by first | exact Or.inl rfl | exact Or.inr rfl) (me_callF T_statement_at F_statement_at hr rfl (ma_cons (me_var (pv 0)) (ma_cons (me_var (pv 1)) ma_nil)) rfl))
  (mss_cons (ms_if (mt_cmp (op_eqM hu) opm_eq (me_var (pv 2)) me_str (by first | exact nomark _ | rfl))
  (mss_one (ms_ret (me_tup (ma_cons me_int (ma_cons (me_tup (ma_cons (me_tup (ma_cons me_str (ma_cons (me_tup (ma_cons me_str (ma_cons (me_ix (me_var (pv 3)) me_int) ma_nil))) (ma_cons (me_ix (me_var (pv 3)) me_int) (ma_cons (me_ix (me_var (pv 3)) me_int) ma_nil))))) ma_nil)) ma_nil)))))
  mss_nil)
  (mss_cons (ms_if (mt_cmp (op_eqM hu) opm_eq (me_var (pv 2)) me_str (by first | exact nomark _ | rfl))
  (mss_one (ms_ret (me_tup (ma_cons me_int (ma_cons (me_tup (ma_cons (me_tup (ma_cons me_str (ma_cons (me_ix (me_var (pv 3)) me_int) (ma_cons (me_bin op_addM opm_add (me_ix (me_var (pv 3)) me_int) (me_tup (ma_cons (me_var (pv 3)) ma_nil))) (ma_cons (me_tup ma_nil) ma_nil))))) ma_nil)) ma_nil)))))
  mss_nil)
  (mss_cons (ms_if (mt_cmp (op_eqM hu) opm_eq (me_var (pv 2)) me_str (by first | exact nomark _ | rfl))
  (mss_cons (ms_set (i := 4) sc.nd rfl (by first | exact Or.inl rfl | exact Or.inr rfl) (me_tup (ma_cons me_str (ma_cons (me_ix (me_var (pv 3)) me_int) (ma_cons (me_ix (me_var (pv 3)) me_int) (ma_cons (me_tup ma_nil) ma_nil))))))
  (mss_one (ms_ret (me_tup (ma_cons me_int (ma_cons (me_tup (ma_cons (me_tup (ma_cons me_str (ma_cons (me_ix (me_var (pv 3)) me_int) (ma_cons (me_bin op_addM opm_add (me_ix (me_var (pv 3)) me_int) (me_tup (ma_cons (me_var (pv 4)) ma_nil))) ma_nil)))) ma_nil)) ma_nil))))))
  mss_nil)
  (mss_cons (ms_if (mt_cmp (op_eqM hu) opm_eq (me_var (pv 2)) me_str (by first | exact nomark _ | rfl))
  (mss_cons (ms_set (i := 5) sc.nd rfl (by first | exact Or.inl rfl | exact Or.inr rfl) (me_callF T_block_at F_block_at hr rfl (ma_cons (me_var (pv 0)) (ma_cons (me_var (pv 1)) ma_nil)) rfl))
  (mss_one (ms_ret (me_tup (ma_cons me_int (ma_cons (me_tup (ma_cons (me_ix (me_var (pv 5)) (me_bin op_addM opm_add (me_ix (me_var (pv 1)) (me_neg me_int)) me_int)) (ma_cons (me_var (pv 3)) ma_nil))) ma_nil))))))
  mss_nil)
  (mss_cons (ms_if (mt_cmp (op_eqM hu) opm_eq (me_var (pv 2)) me_str (by first | exact nomark _ | rfl))
  (mss_one (ms_ret (me_tup (ma_cons me_int (ma_cons (me_tup (ma_cons (me_tup (ma_cons me_str ma_nil)) ma_nil)) ma_nil)))))
  mss_nil)
  (mss_cons (ms_if (mt_cmp (op_eqM hu) opm_eq (me_var (pv 2)) me_str (by first | exact nomark _ | rfl))
  (mss_one (ms_ret (me_tup (ma_cons me_int (ma_cons (me_tup ma_nil) ma_nil)))))
  mss_nil)
  (mss_one (ms_ret (me_tup (ma_cons me_int (ma_cons (me_ifExp (mt_val (me_callF T_constant_side F_constant_side hr rfl (ma_cons (me_ix (me_var (pv 3)) me_int) ma_nil) rfl)) (me_ix (me_var (pv 3)) me_int) (me_ix (me_var (pv 3)) me_int)) ma_nil))))))))))))
abbrev st_change : Stmt := top 21
theorem sc_change : FnScope ["source", "name", "kind", "path", "body", "many", "statements"] ["source", "name", "kind", "path"] (defScope st_change) := ⟨rfl, rfl, rfl, by decide +kernel, rfl, by decide +kernel, by decide +kernel⟩
/-- names: 0 source, 1 name, 2 kind, 3 path, 4 body, 5 many, 6 statements -/
noncomputable def r_change (d_proc_in : List D → M Rv) (d_places_for : List D → M Rv) (d_changed_statements : List D → M Rv) (d_with_body : List D → M Rv) (d_replaced : List D → M Rv) : MP.Env → M Fl :=
  (sSeq (sSet 4 (eBin gIx (eCall (lenD 2 d_proc_in) (aCons (eVar 0) (aCons (eVar 1) aNil))) (eC (.int 8))))
  (sSeq (eIf (eB (eBin (gIn true) (eVar 3) (eCall (lenD 3 d_places_for) (aCons (eVar 0) (aCons (eVar 1) (aCons (eVar 2) aNil))))))
  (sRaise ⟨"BadPlace", []⟩)
  sNext)
  (sSeq (sAsg (eCall (lenD 3 d_changed_statements) (aCons (eVar 4) (aCons (eVar 3) (aCons (eVar 2) aNil)))) (asgT 2 (asgCons (asgN 5) (asgCons (asgN 6) asgNil))))
  (sRet (eCall (lenD 3 d_with_body) (aCons (eVar 0) (aCons (eVar 1) (aCons (eCall (lenD 4 d_replaced) (aCons (eVar 4) (aCons (eVar 3) (aCons (eVar 5) (aCons (eVar 6) aNil))))) aNil))))))))
noncomputable def den_change (d_proc_in : List D → M Rv) (d_places_for : List D → M Rv) (d_changed_statements : List D → M Rv) (d_with_body : List D → M Rv) (d_replaced : List D → M Rv) : List D → M Rv := fun ds => runB 7 (r_change d_proc_in d_places_for d_changed_statements d_with_body d_replaced) ds
theorem mp_change {k : Nat} {f : Addr} {fd : FuncData} (F : Fun K "change" "change" st_change f fd) {f_proc_in : Addr} {e_proc_in : FuncData} {f_places_for : Addr} {e_places_for : FuncData} {f_changed_statements : Addr} {e_changed_statements : FuncData} {f_with_body : Addr} {e_with_body : FuncData} {f_replaced : Addr} {e_replaced : FuncData} {d_proc_in : List D → M Rv} {d_places_for : List D → M Rv} {d_changed_statements : List D → M Rv} {d_with_body : List D → M Rv} {d_replaced : List D → M Rv} (T_proc_in : FnI K mg "proc_in" st_proc_in f_proc_in e_proc_in ["source", "name"]) (F_proc_in : FnOk P w K mg base CX0 k f_proc_in e_proc_in ["source", "name"] (sp K mg 2 d_proc_in)) (T_places_for : FnI K mg "places_for" st_places_for f_places_for e_places_for ["source", "name", "kind"]) (F_places_for : FnOk P w K mg base CX0 k f_places_for e_places_for ["source", "name", "kind"] (sp K mg 3 d_places_for)) (T_changed_statements : FnI K mg "changed_statements" st_changed_statements f_changed_statements e_changed_statements ["body", "path", "kind"]) (F_changed_statements : FnOk P w K mg base CX0 k f_changed_statements e_changed_statements ["body", "path", "kind"] (sp K mg 3 d_changed_statements)) (T_with_body : FnI K mg "with_body" st_with_body f_with_body e_with_body ["source", "name", "body"]) (F_with_body : FnOk P w K mg base CX0 k f_with_body e_with_body ["source", "name", "body"] (sp K mg 3 d_with_body)) (T_replaced : FnI K mg "replaced" st_replaced f_replaced e_replaced ["body", "path", "many", "statements"]) (F_replaced : FnOk P w K mg base CX0 k f_replaced e_replaced ["body", "path", "many", "statements"] (sp K mg 4 d_replaced)) {c_BadPlace : Addr} (XK_BadPlace : ExcK K mg "BadPlace" c_BadPlace) (XQ_BadPlace : PySem.W.excIn K c_BadPlace veMro "ValueError.__new__" = true) : FnOk P w K mg base (L2.CX P w) (k + 1) f fd ["source", "name", "kind", "path"] (sp K mg 4 (den_change d_proc_in d_places_for d_changed_statements d_with_body d_replaced)) :=
  have sc := sc_change
  fn_mpX (N := ["source", "name", "kind", "path", "body", "many", "statements"]) (r := r_change d_proc_in d_places_for d_changed_statements d_with_body d_replaced) F sc_change rfl fun cdv A outer s H E hr =>
  have hu := hr.units
  have hu1 := units1 hr
  (mss_cons (ms_set (i := 4) sc.nd rfl (by first | exact Or.inl rfl | exact Or.inr rfl) (me_ix (me_callF T_proc_in F_proc_in hr rfl (ma_cons (me_var (pv 0)) (ma_cons (me_var (pv 1)) ma_nil)) rfl) me_int))
  (mss_cons (ms_if (mt_cmp (op_notInM hu) opm_in (me_var (pv 3)) (me_callF T_places_for F_places_for hr rfl (ma_cons (me_var (pv 0)) (ma_cons (me_var (pv 1)) (ma_cons (me_var (pv 2)) ma_nil))) rfl) (by first | exact nomark _ | rfl))
  (mss_one (ms_raise rfl (takes_of rfl rfl rfl rfl) servesE XK_BadPlace XQ_BadPlace rfl))
  mss_nil)
  (mss_cons (ms_asg (me_callF T_changed_statements F_changed_statements hr rfl (ma_cons (me_var (pv 4)) (ma_cons (me_var (pv 3)) (ma_cons (me_var (pv 2)) ma_nil))) rfl) (mg_tup rfl (mgs_cons (mg_of (pg_name (i := 5) sc.nd rfl (by first | exact Or.inl rfl | exact Or.inr rfl))) (mgs_cons (mg_of (pg_name (i := 6) sc.nd rfl (by first | exact Or.inl rfl | exact Or.inr rfl))) mgs_nil))))
  (mss_one (ms_ret (me_callF T_with_body F_with_body hr rfl (ma_cons (me_var (pv 0)) (ma_cons (me_var (pv 1)) (ma_cons (me_callF T_replaced F_replaced hr rfl (ma_cons (me_var (pv 4)) (ma_cons (me_var (pv 3)) (ma_cons (me_var (pv 5)) (ma_cons (me_var (pv 6)) ma_nil)))) rfl) ma_nil))) rfl))))))
abbrev st__law_start : Stmt := top 23
theorem sc__law_start : FnScope ["script"] ["script"] (defScope st__law_start) := ⟨rfl, rfl, rfl, by decide +kernel, rfl, by decide +kernel, by decide +kernel⟩
theorem mp__law_start {k : Nat} {f : Addr} {fd : FuncData} (F : Fun K "_law_start" "_law_start" st__law_start f fd) (z_list : mg "list" = none) : FnOk P w K mg base CX0 (k + 1) f fd ["script"] (sp K mg 1 (den__law_start)) :=
  have sc := sc__law_start
  fn_mp (N := ["script"]) (r := r__law_start) F sc__law_start rfl fun cdv A outer s H E hr =>
  have hu := hr.units
  have hu1 := units1 hr
  (mss_one (ms_retF (mf_lst (ma_cons (me_fl (mf_list1 rfl z_list (by decide +kernel) (ma_cons (me_var (pv 0)) ma_nil))) (ma_cons me_int (ma_cons me_int (ma_cons me_int ma_nil)))))))
abbrev st__law_draw : Stmt := top 24
theorem sc__law_draw : FnScope ["state", "most", "cell", "mixed", "found"] ["state", "most"] (defScope st__law_draw) := ⟨rfl, rfl, rfl, by decide +kernel, rfl, by decide +kernel, by decide +kernel⟩
theorem mp__law_draw {k : Nat} {f : Addr} {fd : FuncData} (F : Fun K "_law_draw" "_law_draw" st__law_draw f fd) (z_int : mg "int" = none) (z_len : mg "len" = none) (z_abs : mg "abs" = none) : FnOk P w K mg base CX0 (k + 1) f fd ["state", "most"] (sp K mg 2 (den__law_draw)) :=
  have sc := sc__law_draw
  fn_mp (N := ["state", "most", "cell", "mixed", "found"]) (r := r__law_draw) F sc__law_draw rfl fun cdv A outer s H E hr =>
  have hu := hr.units
  have hu1 := units1 hr
  (mss_cons (ms_sub (me_var (pv 0)) me_int (me_bin op_addM opm_add (me_ix (me_var (pv 0)) me_int) me_int))
  (mss_cons (ms_if (mt_cmp op_gt opm_cmp (me_ix (me_var (pv 0)) me_int) me_int (by first | exact nomark _ | rfl))
  (mss_cons (ms_set (i := 4) sc.nd rfl (by first | exact Or.inl rfl | exact Or.inr rfl) (me_bin op_mod opm_mod (me_callTy call_int1 callM_int rfl z_int (by decide +kernel) (ma_cons (me_ix (me_var (pv 0)) me_int) ma_nil)) (me_var (pv 1))))
  (mss_cons (ms_sub (me_var (pv 0)) me_int (me_bin op_fdivW opm_div (me_ix (me_var (pv 0)) me_int) (me_var (pv 1))))
  (mss_one (ms_ret (me_var (pv 4))))))
  mss_nil)
  (mss_cons (ms_set (i := 2) sc.nd rfl (by first | exact Or.inl rfl | exact Or.inr rfl) me_int)
  (mss_cons (ms_if (mt_cmp op_gt opm_cmp (me_callB call_lenM callM_len rfl z_len PySem.boot_len (ma_cons (me_ix (me_var (pv 0)) me_int) ma_nil)) me_int (by first | exact nomark _ | rfl))
  (mss_one (ms_set (i := 2) sc.nd rfl (by first | exact Or.inl rfl | exact Or.inr rfl) (me_callB call_abs callM_abs rfl z_abs (by decide +kernel) (ma_cons (me_ix (me_ix (me_var (pv 0)) me_int) (me_bin op_mod opm_mod (me_callTy call_int1 callM_int rfl z_int (by decide +kernel) (ma_cons (me_ix (me_var (pv 0)) me_int) ma_nil)) (me_callB call_lenM callM_len rfl z_len PySem.boot_len (ma_cons (me_ix (me_var (pv 0)) me_int) ma_nil)))) ma_nil))))
  mss_nil)
  (mss_cons (ms_sub (me_var (pv 0)) me_int (me_bin op_addM opm_add (me_ix (me_var (pv 0)) me_int) me_int))
  (mss_cons (ms_if (mt_cmp op_ge opm_cmp (me_var (pv 2)) (me_bin op_pow opm_pow me_int me_int) (by first | exact nomark _ | rfl))
  (mss_cons (ms_sub (me_var (pv 0)) me_int (me_bin op_fdivW opm_div (me_var (pv 2)) (me_var (pv 1))))
  (mss_one (ms_ret (me_bin op_mod opm_mod (me_callTy call_int1 callM_int rfl z_int (by decide +kernel) (ma_cons (me_var (pv 2)) ma_nil)) (me_var (pv 1))))))
  mss_nil)
  (mss_cons (ms_set (i := 3) sc.nd rfl (by first | exact Or.inl rfl | exact Or.inr rfl) (me_bin op_mod opm_mod (me_callTy call_int1 callM_int rfl z_int (by decide +kernel) (ma_cons (me_bin op_addM opm_add (me_bin op_mulM opm_mul (me_bin op_addM opm_add (me_var (pv 2)) me_int) me_int) (me_bin op_mulM opm_mul (me_ix (me_var (pv 0)) me_int) me_int)) ma_nil)) me_int))
  (mss_cons (ms_set (i := 3) sc.nd rfl (by first | exact Or.inl rfl | exact Or.inr rfl) (me_bin op_mod opm_mod (me_callTy call_int1 callM_int rfl z_int (by decide +kernel) (ma_cons (me_bin op_addM opm_add (me_bin op_addM opm_add (me_bin op_mulM opm_mul (me_var (pv 3)) me_int) (me_bin op_fdivW opm_div (me_var (pv 2)) me_int)) (me_ix (me_var (pv 0)) me_int)) ma_nil)) me_int))
  (mss_one (ms_ret (me_bin op_mod opm_mod (me_bin op_fdivW opm_div (me_var (pv 3)) me_int) (me_var (pv 1)))))))))))))
abbrev st__law_one_of : Stmt := top 25
theorem sc__law_one_of : FnScope ["state", "items"] ["state", "items"] (defScope st__law_one_of) := ⟨rfl, rfl, rfl, by decide +kernel, rfl, by decide +kernel, by decide +kernel⟩
theorem mp__law_one_of {k : Nat} {f : Addr} {fd : FuncData} (F : Fun K "_law_one_of" "_law_one_of" st__law_one_of f fd) {f__law_draw : Addr} {e__law_draw : FuncData} {d__law_draw : List D → M Rv} (T__law_draw : FnI K mg "_law_draw" st__law_draw f__law_draw e__law_draw ["state", "most"]) (F__law_draw : FnOk P w K mg base CX0 k f__law_draw e__law_draw ["state", "most"] (sp K mg 2 d__law_draw)) (z_len : mg "len" = none) : FnOk P w K mg base CX0 (k + 1) f fd ["state", "items"] (sp K mg 2 (den__law_one_of d__law_draw)) :=
  have sc := sc__law_one_of
  fn_mp (N := ["state", "items"]) (r := r__law_one_of d__law_draw) F sc__law_one_of rfl fun cdv A outer s H E hr =>
  have hu := hr.units
  have hu1 := units1 hr
  (mss_one (ms_ret (me_ix (me_var (pv 1)) (me_callF T__law_draw F__law_draw hr rfl (ma_cons (me_var (pv 0)) (ma_cons (me_callB call_lenM callM_len rfl z_len PySem.boot_len (ma_cons (me_var (pv 1)) ma_nil)) ma_nil)) rfl))))
abbrev st__law_words : Stmt := top 26
theorem sc__law_words : FnScope ["state", "many", "letters", "start", "step", "shared", "k"] ["state", "many"] (defScope st__law_words) := ⟨rfl, rfl, rfl, by decide +kernel, rfl, by decide +kernel, by decide +kernel⟩
theorem mp__law_words {k : Nat} {f : Addr} {fd : FuncData} (F : Fun K "_law_words" "_law_words" st__law_words f fd) {f__law_draw : Addr} {e__law_draw : FuncData} {d__law_draw : List D → M Rv} (T__law_draw : FnI K mg "_law_draw" st__law_draw f__law_draw e__law_draw ["state", "most"]) (F__law_draw : FnOk P w K mg base CX0 k f__law_draw e__law_draw ["state", "most"] (sp K mg 2 d__law_draw)) (z_range : mg "range" = none) (z_int : mg "int" = none) : FnOk P w K mg base CX0 (k + 1) f fd ["state", "many"] (sp K mg 2 (den__law_words d__law_draw)) :=
  have sc := sc__law_words
  fn_mp (N := ["state", "many", "letters", "start", "step", "shared", "k"]) (r := r__law_words d__law_draw) F sc__law_words rfl fun cdv A outer s H E hr =>
  have hu := hr.units
  have hu1 := units1 hr
  (mss_cons (ms_set (i := 2) sc.nd rfl (by first | exact Or.inl rfl | exact Or.inr rfl) me_str)
  (mss_cons (ms_set (i := 3) sc.nd rfl (by first | exact Or.inl rfl | exact Or.inr rfl) (me_callF T__law_draw F__law_draw hr rfl (ma_cons (me_var (pv 0)) (ma_cons me_int ma_nil)) rfl))
  (mss_cons (ms_set (i := 4) sc.nd rfl (by first | exact Or.inl rfl | exact Or.inr rfl) (me_bin op_addM opm_add me_int (me_bin op_mulM opm_mul me_int (me_callF T__law_draw F__law_draw hr rfl (ma_cons (me_var (pv 0)) (ma_cons me_int ma_nil)) rfl))))
  (mss_cons (ms_set (i := 5) sc.nd rfl (by first | exact Or.inl rfl | exact Or.inr rfl) (me_slice me_str mo_none (mo_some (me_callF T__law_draw F__law_draw hr rfl (ma_cons (me_var (pv 0)) (ma_cons me_int ma_nil)) rfl))))
  (mss_cons (ms_if (mt_cmp (op_eqM hu) opm_eq (me_callF T__law_draw F__law_draw hr rfl (ma_cons (me_var (pv 0)) (ma_cons me_int ma_nil)) rfl) me_int (by first | exact nomark _ | rfl))
  (mss_one (ms_retF (mf_comp rfl sc.nd (mi_range1 rfl z_range (ma_cons (me_var (pv 1)) ma_nil)) (own := [("k", 6)]) (blkOk_by (N := ["state", "many", "letters", "start", "step", "shared", "k"]) (sc := defScope st__law_words) (by decide +kernel)) (by decide) (fun s H C cl fp => (mg_of (pg_name (i := 6) sc.nd rfl (by first | exact Or.inl rfl | exact Or.inr rfl)))) (fun s H C cl fp => mts_nil) (fun s H C cl fp => (me_bin op_addM opm_add (me_var (pv 5)) (me_ix (me_var (pv 2)) (me_bin op_mod opm_mod (me_callTy call_int1 callM_int rfl z_int (by decide +kernel) (ma_cons (me_bin op_addM opm_add (me_var (pv 3)) (me_bin op_mulM opm_mul (me_var (pv 6)) (me_var (pv 4)))) ma_nil)) me_int)))))))
  mss_nil)
  (mss_one (ms_retF (mf_comp rfl sc.nd (mi_range1 rfl z_range (ma_cons (me_var (pv 1)) ma_nil)) (own := [("k", 6)]) (blkOk_by (N := ["state", "many", "letters", "start", "step", "shared", "k"]) (sc := defScope st__law_words) (by decide +kernel)) (by decide) (fun s H C cl fp => (mg_of (pg_name (i := 6) sc.nd rfl (by first | exact Or.inl rfl | exact Or.inr rfl)))) (fun s H C cl fp => mts_nil) (fun s H C cl fp => (me_bin op_addM opm_add (me_ix (me_var (pv 2)) (me_bin op_mod opm_mod (me_callTy call_int1 callM_int rfl z_int (by decide +kernel) (ma_cons (me_bin op_addM opm_add (me_var (pv 3)) (me_bin op_mulM opm_mul (me_var (pv 6)) (me_var (pv 4)))) ma_nil)) me_int)) (me_var (pv 5))))))))))))
abbrev st__law_is_int : Stmt := top 27
theorem sc__law_is_int : FnScope ["x"] ["x"] (defScope st__law_is_int) := ⟨rfl, rfl, rfl, by decide +kernel, rfl, by decide +kernel, by decide +kernel⟩
theorem mp__law_is_int {k : Nat} {f : Addr} {fd : FuncData} (F : Fun K "_law_is_int" "_law_is_int" st__law_is_int f fd) (z_isinstance : mg "isinstance" = none) (z_int : mg "int" = none) (z_bool : mg "bool" = none) : FnOk P w K mg base CX0 (k + 1) f fd ["x"] (sp K mg 1 (den__law_is_int)) :=
  have sc := sc__law_is_int
  fn_mp (N := ["x"]) (r := r__law_is_int) F sc__law_is_int rfl fun cdv A outer s H E hr =>
  have hu := hr.units
  have hu1 := units1 hr
  (mss_one (ms_ret (me_and (me_isi (T := "int") (by decide) rfl z_isinstance (by decide +kernel) rfl z_int (by decide +kernel) (me_var (pv 0))) (me_one (me_not (me_isi (T := "bool") (by decide) rfl z_isinstance (by decide +kernel) rfl z_bool (by decide +kernel) (me_var (pv 0))))))))
abbrev st__law_same : Stmt := top 28
theorem sc__law_same : FnScope ["x", "y", "k"] ["x", "y"] (defScope st__law_same) := ⟨rfl, rfl, rfl, by decide +kernel, rfl, by decide +kernel, by decide +kernel⟩
theorem mp__law_same {k : Nat} {f : Addr} {fd : FuncData} {f__law_is_int : Addr} {e__law_is_int : FuncData} {d__law_same : List D → M Rv} {d__law_is_int : List D → M Rv} (T__law_same : FnI K mg "_law_same" st__law_same f fd ["x", "y"]) (F__law_same : FnOk P w K mg base CX0 k f fd ["x", "y"] (sp K mg 2 d__law_same)) (T__law_is_int : FnI K mg "_law_is_int" st__law_is_int f__law_is_int e__law_is_int ["x"]) (F__law_is_int : FnOk P w K mg base CX0 k f__law_is_int e__law_is_int ["x"] (sp K mg 1 d__law_is_int)) (z_isinstance : mg "isinstance" = none) (z_tuple : mg "tuple" = none) (z_len : mg "len" = none) (z_range : mg "range" = none) (z_all : mg "all" = none) (z_str : mg "str" = none) : FnOk P w K mg base CX0 (k + 1) f fd ["x", "y"] (sp K mg 2 (den__law_same d__law_same d__law_is_int)) :=
  have sc := sc__law_same
  fn_mp (N := ["x", "y", "k"]) (r := r__law_same d__law_same d__law_is_int) T__law_same.fn sc__law_same rfl fun cdv A outer s H E hr =>
  have hu := hr.units
  have hu1 := units1 hr
  (mss_cons (ms_if (mt_val (me_isi (T := "tuple") (by decide) rfl z_isinstance (by decide +kernel) rfl z_tuple (by decide +kernel) (me_var (pv 1))))
  (mss_cons (ms_if (MW.mt (mw_or (mt_not (mt_val (me_isi (T := "tuple") (by decide) rfl z_isinstance (by decide +kernel) rfl z_tuple (by decide +kernel) (me_var (pv 0))))) (mw_or1 (mt_cmp (op_neM hu) opm_eq (me_callB call_lenM callM_len rfl z_len PySem.boot_len (ma_cons (me_var (pv 0)) ma_nil)) (me_callB call_lenM callM_len rfl z_len PySem.boot_len (ma_cons (me_var (pv 1)) ma_nil)) (by first | exact nomark _ | rfl)))))
  (mss_one (ms_ret me_bl))
  mss_nil)
  (mss_one (ms_ret (me_callB (cr_all rfl) callM_all rfl z_all (by decide +kernel) (ma_cons (me_fl (mf_comp rfl sc.nd (mi_range1 rfl z_range (ma_cons (me_callB call_lenM callM_len rfl z_len PySem.boot_len (ma_cons (me_var (pv 1)) ma_nil)) ma_nil)) (own := [("k", 2)]) (blkOk_by (N := ["x", "y", "k"]) (sc := defScope st__law_same) (by decide +kernel)) (by decide) (fun s H C cl fp => (mg_of (pg_name (i := 2) sc.nd rfl (by first | exact Or.inl rfl | exact Or.inr rfl)))) (fun s H C cl fp => mts_nil) (fun s H C cl fp => (me_callF T__law_same F__law_same hr rfl (ma_cons (me_ix (me_var (pv 0)) (me_var (pv 2))) (ma_cons (me_ix (me_var (pv 1)) (me_var (pv 2))) ma_nil)) rfl)))) ma_nil)))))
  mss_nil)
  (mss_cons (ms_if (mt_val (me_isi (T := "str") (by decide) rfl z_isinstance (by decide +kernel) rfl z_str (by decide +kernel) (me_var (pv 1))))
  (mss_one (ms_ret (me_and (me_isi (T := "str") (by decide) rfl z_isinstance (by decide +kernel) rfl z_str (by decide +kernel) (me_var (pv 0))) (me_one (me_cmp (op_eqM hu) opm_eq (me_var (pv 0)) (me_var (pv 1)) (by first | exact nomark _ | rfl))))))
  mss_nil)
  (mss_one (ms_ret (me_and (me_callF T__law_is_int F__law_is_int hr rfl (ma_cons (me_var (pv 0)) ma_nil) rfl) (me_one (me_cmp (op_eqM hu) opm_eq (me_var (pv 0)) (me_var (pv 1)) (by first | exact nomark _ | rfl))))))))
abbrev st__law_inner_parts : Stmt := top 29
theorem sc__law_inner_parts : FnScope ["s"] ["s"] (defScope st__law_inner_parts) := ⟨rfl, rfl, rfl, by decide +kernel, rfl, by decide +kernel, by decide +kernel⟩
/-- names: 0 s -/
noncomputable def r__law_inner_parts : MP.Env → M Fl :=
  (sSeq (eIf (eB (eBin (gEq false) (eBin gIx (eVar 0) (eC (.int 0))) (eC (.str "while"))))
  (sRetF (aList (aCons (eC (.int 2)) aNil)))
  sNext)
  (sSeq (eIf (eB (eBin (gEq false) (eBin gIx (eVar 0) (eC (.int 0))) (eC (.str "if"))))
  (sRetF (aList (aCons (eC (.int 2)) (aCons (eC (.int 3)) aNil))))
  sNext)
  (sRetF (aList aNil))))
noncomputable def den__law_inner_parts : List D → M Rv := fun ds => noX (runB 1 (r__law_inner_parts) ds)
theorem mp__law_inner_parts {k : Nat} {f : Addr} {fd : FuncData} (F : Fun K "_law_inner_parts" "_law_inner_parts" st__law_inner_parts f fd) : FnOk P w K mg base CX0 (k + 1) f fd ["s"] (sp K mg 1 (den__law_inner_parts)) :=
  have sc := sc__law_inner_parts
  fn_mp (N := ["s"]) (r := r__law_inner_parts) F sc__law_inner_parts rfl fun cdv A outer s H E hr =>
  have hu := hr.units
  have hu1 := units1 hr
  (mss_cons (ms_if (mt_cmp (op_eqM hu) opm_eq (me_ix (me_var (pv 0)) me_int) me_str (by first | exact nomark _ | rfl))
  (mss_one (ms_retF (mf_lst (ma_cons me_int ma_nil))))
  mss_nil)
  (mss_cons (ms_if (mt_cmp (op_eqM hu) opm_eq (me_ix (me_var (pv 0)) me_int) me_str (by first | exact nomark _ | rfl))
  (mss_one (ms_retF (mf_lst (ma_cons me_int (ma_cons me_int ma_nil)))))
  mss_nil)
  (mss_one (ms_retF (mf_lst ma_nil)))))
abbrev st__law_paths_of : Stmt := top 30
theorem sc__law_paths_of : FnScope ["body", "ahead", "found", "k", "part"] ["body", "ahead"] (defScope st__law_paths_of) := ⟨rfl, rfl, rfl, by decide +kernel, rfl, by decide +kernel, by decide +kernel⟩
/-- names: 0 body, 1 ahead, 2 found, 3 k, 4 part -/
noncomputable def r__law_paths_of (d__law_inner_parts : List D → M Rv) (d__law_paths_of : List D → M Rv) : MP.Env → M Fl :=
  (sSeq (sSet 2 (eNew (aList aNil)))
  (sSeq (sFor (wThen wRng1 (aCons (aThen (g1 gLen) (aCons (eVar 0) aNil)) aNil)) (asgN 3)
  (sSeq (sExpr (eMeth lstK gAppend (eVar 2) (aCons (aThen gTup (aCons (eBin gAdd (eVar 1) (aThen gTup (aCons (eVar 3) aNil))) (aCons (eSl (eVar 0) (oSome (eVar 3)) oNone) aNil))) aNil)))
  (sFor (eWalk (eCall (lenD 1 d__law_inner_parts) (aCons (eBin gIx (eVar 0) (eVar 3)) aNil))) (asgN 4)
  (sSet 2 (eNew (fCat (eVar 2) (eCall (lenD 2 d__law_paths_of) (aCons (eBin gIx (eBin gIx (eVar 0) (eVar 3)) (eVar 4)) (aCons (eBin gAdd (eVar 1) (aThen gTup (aCons (eVar 3) (aCons (eVar 4) aNil)))) aNil)))))) [4])) [3, 4])
  (sRet (eVar 2))))
noncomputable def den__law_paths_of (d__law_inner_parts : List D → M Rv) (d__law_paths_of : List D → M Rv) : List D → M Rv := fun ds => noX (runB 5 (r__law_paths_of d__law_inner_parts d__law_paths_of) ds)
theorem mp__law_paths_of {k : Nat} {f : Addr} {fd : FuncData} {f__law_inner_parts : Addr} {e__law_inner_parts : FuncData} {d__law_inner_parts : List D → M Rv} {d__law_paths_of : List D → M Rv} (T__law_inner_parts : FnI K mg "_law_inner_parts" st__law_inner_parts f__law_inner_parts e__law_inner_parts ["s"]) (F__law_inner_parts : FnOk P w K mg base CX0 k f__law_inner_parts e__law_inner_parts ["s"] (sp K mg 1 d__law_inner_parts)) (T__law_paths_of : FnI K mg "_law_paths_of" st__law_paths_of f fd ["body", "ahead"]) (F__law_paths_of : FnOk P w K mg base CX0 k f fd ["body", "ahead"] (sp K mg 2 d__law_paths_of)) (z_range : mg "range" = none) (z_len : mg "len" = none) : FnOk P w K mg base CX0 (k + 1) f fd ["body", "ahead"] (sp K mg 2 (den__law_paths_of d__law_inner_parts d__law_paths_of)) :=
  have sc := sc__law_paths_of
  fn_mp (N := ["body", "ahead", "found", "k", "part"]) (r := r__law_paths_of d__law_inner_parts d__law_paths_of) T__law_paths_of.fn sc__law_paths_of rfl fun cdv A outer s H E hr =>
  have hu := hr.units
  have hu1 := units1 hr
  (mss_cons (ms_set (i := 2) sc.nd rfl (by first | exact Or.inl rfl | exact Or.inr rfl) (me_new (mf_lst ma_nil)))
  (mss_cons (ms_for (fg := [3, 4]) PassesOwn.never rfl (mi_range1 rfl z_range (ma_cons (me_callB call_lenM callM_len rfl z_len PySem.boot_len (ma_cons (me_var (pv 0)) ma_nil)) ma_nil)) (mg_of (pg_name (i := 3) sc.nd rfl (by first | exact Or.inl rfl | exact Or.inr rfl)))
  (mss_cons (ms_expr (me_lmeth PySem.F.slot_list_append PySem.F.type_list_append mt_append methM_append (me_var (pv 2)) (ma_cons (me_tup (ma_cons (me_bin op_addM opm_add (me_var (pv 1)) (me_tup (ma_cons (me_var (pv 3)) ma_nil))) (ma_cons (me_slice (me_var (pv 0)) (mo_some (me_var (pv 3))) mo_none) ma_nil))) ma_nil)))
  (mss_one (ms_for (fg := [4]) PassesOwn.never rfl (mi_seq (me_callF T__law_inner_parts F__law_inner_parts hr rfl (ma_cons (me_ix (me_var (pv 0)) (me_var (pv 3))) ma_nil) rfl)) (mg_of (pg_name (i := 4) sc.nd rfl (by first | exact Or.inl rfl | exact Or.inr rfl)))
  (mss_one (ms_set (i := 2) sc.nd rfl (by first | exact Or.inl rfl | exact Or.inr rfl) (me_new (mf_cat (me_var (pv 2)) (me_callF T__law_paths_of F__law_paths_of hr rfl (ma_cons (me_ix (me_ix (me_var (pv 0)) (me_var (pv 3))) (me_var (pv 4))) (ma_cons (me_bin op_addM opm_add (me_var (pv 1)) (me_tup (ma_cons (me_var (pv 3)) (ma_cons (me_var (pv 4)) ma_nil)))) ma_nil)) rfl)))))))))
  (mss_one (ms_ret (me_var (pv 2))))))
abbrev st__law_has_give : Stmt := top 31
theorem sc__law_has_give : FnScope ["s", "part", "t"] ["s"] (defScope st__law_has_give) := ⟨rfl, rfl, rfl, by decide +kernel, rfl, by decide +kernel, by decide +kernel⟩
/-- names: 0 s, 1 part, 2 t -/
noncomputable def r__law_has_give (d__law_inner_parts : List D → M Rv) (d__law_has_give : List D → M Rv) : MP.Env → M Fl :=
  (sSeq (eIf (eB (eBin (gEq false) (eBin gIx (eVar 0) (eC (.int 0))) (eC (.str "give"))))
  (sRet (eC (.bl true)))
  sNext)
  (sSeq (sFor (eWalk (eCall (lenD 1 d__law_inner_parts) (aCons (eVar 0) aNil))) (asgN 1)
  (eIf (eB (aThen (g1 gAny) (aCons (eFl (fComp (eWalk (eBin gIx (eVar 0) (eVar 1))) (asgN 2) tYesM (eCall (lenD 1 d__law_has_give) (aCons (eVar 2) aNil)) [2])) aNil)))
  (sRet (eC (.bl true)))
  sNext) [1])
  (sRet (eC (.bl false)))))
noncomputable def den__law_has_give (d__law_inner_parts : List D → M Rv) (d__law_has_give : List D → M Rv) : List D → M Rv := fun ds => noX (runB 3 (r__law_has_give d__law_inner_parts d__law_has_give) ds)
theorem mp__law_has_give {k : Nat} {f : Addr} {fd : FuncData} {f__law_inner_parts : Addr} {e__law_inner_parts : FuncData} {d__law_inner_parts : List D → M Rv} {d__law_has_give : List D → M Rv} (T__law_inner_parts : FnI K mg "_law_inner_parts" st__law_inner_parts f__law_inner_parts e__law_inner_parts ["s"]) (F__law_inner_parts : FnOk P w K mg base CX0 k f__law_inner_parts e__law_inner_parts ["s"] (sp K mg 1 d__law_inner_parts)) (T__law_has_give : FnI K mg "_law_has_give" st__law_has_give f fd ["s"]) (F__law_has_give : FnOk P w K mg base CX0 k f fd ["s"] (sp K mg 1 d__law_has_give)) (z_any : mg "any" = none) : FnOk P w K mg base CX0 (k + 1) f fd ["s"] (sp K mg 1 (den__law_has_give d__law_inner_parts d__law_has_give)) :=
  have sc := sc__law_has_give
  fn_mp (N := ["s", "part", "t"]) (r := r__law_has_give d__law_inner_parts d__law_has_give) T__law_has_give.fn sc__law_has_give rfl fun cdv A outer s H E hr =>
  have hu := hr.units
  have hu1 := units1 hr
  (mss_cons (ms_if (mt_cmp (op_eqM hu) opm_eq (me_ix (me_var (pv 0)) me_int) me_str (by first | exact nomark _ | rfl))
  (mss_one (ms_ret me_bl))
  mss_nil)
  (mss_cons (ms_for (fg := [1]) PassesOwn.never rfl (mi_seq (me_callF T__law_inner_parts F__law_inner_parts hr rfl (ma_cons (me_var (pv 0)) ma_nil) rfl)) (mg_of (pg_name (i := 1) sc.nd rfl (by first | exact Or.inl rfl | exact Or.inr rfl)))
  (mss_one (ms_if (mt_val (me_callB (cr_any rfl) callM_any rfl z_any (by decide +kernel) (ma_cons (me_fl (mf_comp rfl sc.nd (mi_seq (me_ix (me_var (pv 0)) (me_var (pv 1)))) (own := [("t", 2)]) (blkOk_by (N := ["s", "part", "t"]) (sc := defScope st__law_has_give) (by decide +kernel)) (by decide) (fun s H C cl fp => (mg_of (pg_name (i := 2) sc.nd rfl (by first | exact Or.inl rfl | exact Or.inr rfl)))) (fun s H C cl fp => mts_nil) (fun s H C cl fp => (me_callF T__law_has_give F__law_has_give hr rfl (ma_cons (me_var (pv 2)) ma_nil) rfl)))) ma_nil)))
  (mss_one (ms_ret me_bl))
  mss_nil)))
  (mss_one (ms_ret me_bl))))
abbrev st__law_put_at : Stmt := top 32
theorem sc__law_put_at : FnScope ["body", "path", "many", "statements", "k", "s", "inner"] ["body", "path", "many", "statements"] (defScope st__law_put_at) := ⟨rfl, rfl, rfl, by decide +kernel, rfl, by decide +kernel, by decide +kernel⟩
/-- names: 0 body, 1 path, 2 many, 3 statements, 4 k, 5 s, 6 inner -/
noncomputable def r__law_put_at (d__law_put_at : List D → M Rv) : MP.Env → M Fl :=
  (sSeq (sSet 4 (eBin gIx (eVar 1) (eC (.int 0))))
  (sSeq (eIf (eB (eBin (gEq false) (aThen (g1 gLen) (aCons (eVar 1) aNil)) (eC (.int 1))))
  (sRet (eBin gAdd (eBin gAdd (eSl (eVar 0) oNone (oSome (eVar 4))) (eVar 3)) (eSl (eVar 0) (oSome (eBin gAdd (eVar 4) (eVar 2))) oNone)))
  sNext)
  (sSeq (sSet 5 (eBin gIx (eVar 0) (eVar 4)))
  (sSeq (sSet 6 (eCall (lenD 4 d__law_put_at) (aCons (eBin gIx (eVar 5) (eBin gIx (eVar 1) (eC (.int 1)))) (aCons (eSl (eVar 1) (oSome (eC (.int 2))) oNone) (aCons (eVar 2) (aCons (eVar 3) aNil))))))
  (sRet (eBin gAdd (eBin gAdd (eSl (eVar 0) oNone (oSome (eVar 4))) (aThen gTup (aCons (eBin gAdd (eBin gAdd (eSl (eVar 5) oNone (oSome (eBin gIx (eVar 1) (eC (.int 1))))) (aThen gTup (aCons (eVar 6) aNil))) (eSl (eVar 5) (oSome (eBin gAdd (eBin gIx (eVar 1) (eC (.int 1))) (eC (.int 1)))) oNone)) aNil))) (eSl (eVar 0) (oSome (eBin gAdd (eVar 4) (eC (.int 1)))) oNone)))))))
noncomputable def den__law_put_at (d__law_put_at : List D → M Rv) : List D → M Rv := fun ds => noX (runB 7 (r__law_put_at d__law_put_at) ds)
theorem mp__law_put_at {k : Nat} {f : Addr} {fd : FuncData} {d__law_put_at : List D → M Rv} (T__law_put_at : FnI K mg "_law_put_at" st__law_put_at f fd ["body", "path", "many", "statements"]) (F__law_put_at : FnOk P w K mg base CX0 k f fd ["body", "path", "many", "statements"] (sp K mg 4 d__law_put_at)) (z_len : mg "len" = none) : FnOk P w K mg base CX0 (k + 1) f fd ["body", "path", "many", "statements"] (sp K mg 4 (den__law_put_at d__law_put_at)) :=
  have sc := sc__law_put_at
  fn_mp (N := ["body", "path", "many", "statements", "k", "s", "inner"]) (r := r__law_put_at d__law_put_at) T__law_put_at.fn sc__law_put_at rfl fun cdv A outer s H E hr =>
  have hu := hr.units
  have hu1 := units1 hr
  (mss_cons (ms_set (i := 4) sc.nd rfl (by first | exact Or.inl rfl | exact Or.inr rfl) (me_ix (me_var (pv 1)) me_int))
  (mss_cons (ms_if (mt_cmp (op_eqM hu) opm_eq (me_callB call_lenM callM_len rfl z_len PySem.boot_len (ma_cons (me_var (pv 1)) ma_nil)) me_int (by first | exact nomark _ | rfl))
  (mss_one (ms_ret (me_bin op_addM opm_add (me_bin op_addM opm_add (me_slice (me_var (pv 0)) mo_none (mo_some (me_var (pv 4)))) (me_var (pv 3))) (me_slice (me_var (pv 0)) (mo_some (me_bin op_addM opm_add (me_var (pv 4)) (me_var (pv 2)))) mo_none))))
  mss_nil)
  (mss_cons (ms_set (i := 5) sc.nd rfl (by first | exact Or.inl rfl | exact Or.inr rfl) (me_ix (me_var (pv 0)) (me_var (pv 4))))
  (mss_cons (ms_set (i := 6) sc.nd rfl (by first | exact Or.inl rfl | exact Or.inr rfl) (me_callF T__law_put_at F__law_put_at hr rfl (ma_cons (me_ix (me_var (pv 5)) (me_ix (me_var (pv 1)) me_int)) (ma_cons (me_slice (me_var (pv 1)) (mo_some me_int) mo_none) (ma_cons (me_var (pv 2)) (ma_cons (me_var (pv 3)) ma_nil)))) rfl))
  (mss_one (ms_ret (me_bin op_addM opm_add (me_bin op_addM opm_add (me_slice (me_var (pv 0)) mo_none (mo_some (me_var (pv 4)))) (me_tup (ma_cons (me_bin op_addM opm_add (me_bin op_addM opm_add (me_slice (me_var (pv 5)) mo_none (mo_some (me_ix (me_var (pv 1)) me_int))) (me_tup (ma_cons (me_var (pv 6)) ma_nil))) (me_slice (me_var (pv 5)) (mo_some (me_bin op_addM opm_add (me_ix (me_var (pv 1)) me_int) me_int)) mo_none)) ma_nil))) (me_slice (me_var (pv 0)) (mo_some (me_bin op_addM opm_add (me_var (pv 4)) me_int)) mo_none))))))))
abbrev st__law_source_with : Stmt := top 33
theorem sc__law_source_with : FnScope ["source", "name", "body", "procs", "p"] ["source", "name", "body"] (defScope st__law_source_with) := ⟨rfl, rfl, rfl, by decide +kernel, rfl, by decide +kernel, by decide +kernel⟩
/-- names: 0 source, 1 name, 2 body, 3 procs, 4 p -/
noncomputable def r__law_source_with : MP.Env → M Fl :=
  (sSeq (sSet 3 (eFl (fComp (eWalk (eBin gIx (eVar 0) (eC (.int 1)))) (asgN 4) tYesM (eIf (eB (eBin (gEq false) (eBin gIx (eVar 4) (eC (.int 0))) (eVar 1))) (eBin gAdd (eSl (eVar 4) oNone (oSome (eC (.int 8)))) (aThen gTup (aCons (eVar 2) aNil))) (eVar 4)) [4])))
  (sRet (aThen gTup (aCons (eBin gIx (eVar 0) (eC (.int 0))) (aCons (aThen (g1 gTuple) (aCons (eVar 3) aNil)) aNil)))))
noncomputable def den__law_source_with : List D → M Rv := fun ds => noX (runB 5 (r__law_source_with) ds)
theorem mp__law_source_with {k : Nat} {f : Addr} {fd : FuncData} (F : Fun K "_law_source_with" "_law_source_with" st__law_source_with f fd) (z_tuple : mg "tuple" = none) : FnOk P w K mg base CX0 (k + 1) f fd ["source", "name", "body"] (sp K mg 3 (den__law_source_with)) :=
  have sc := sc__law_source_with
  fn_mp (N := ["source", "name", "body", "procs", "p"]) (r := r__law_source_with) F sc__law_source_with rfl fun cdv A outer s H E hr =>
  have hu := hr.units
  have hu1 := units1 hr
  (mss_cons (ms_setC (i := 3) rfl sc.nd rfl rfl (sw_true rfl rfl (by decide +kernel) (by decide +kernel)) (mi_seq (me_ix (me_var (pv 0)) me_int)) (own := [("p", 4)]) (blkOk_by (N := ["source", "name", "body", "procs", "p"]) (sc := defScope st__law_source_with) (by decide +kernel)) (by decide) (fun s H C cl fp => (mg_of (pg_name (i := 4) sc.nd rfl (by first | exact Or.inl rfl | exact Or.inr rfl)))) (fun s H C cl fp => mts_nil) (fun s H C cl fp => (me_ifExp (mt_cmp (op_eqM hu) opm_eq (me_ix (me_var (pv 4)) me_int) (me_var (pv 1)) (by first | exact nomark _ | rfl)) (me_bin op_addM opm_add (me_slice (me_var (pv 4)) mo_none (mo_some me_int)) (me_tup (ma_cons (me_var (pv 2)) ma_nil))) (me_var (pv 4)))) fl_go)
  (mss_one (ms_ret (me_tup (ma_cons (me_ix (me_var (pv 0)) me_int) (ma_cons (me_callTy call_tuple_of callM_tuple rfl z_tuple (by decide +kernel) (ma_cons (me_var (pv 3)) ma_nil)) ma_nil))))))
abbrev st__law_body_of : Stmt := top 34
theorem sc__law_body_of : FnScope ["source", "name", "p"] ["source", "name"] (defScope st__law_body_of) := ⟨rfl, rfl, rfl, by decide +kernel, rfl, by decide +kernel, by decide +kernel⟩
/-- names: 0 source, 1 name, 2 p -/
noncomputable def r__law_body_of : MP.Env → M Fl :=
  (sRet (eBin gIx (eBin gIx (eFl (fComp (eWalk (eBin gIx (eVar 0) (eC (.int 1)))) (asgN 2) (eB (eBin (gEq false) (eBin gIx (eVar 2) (eC (.int 0))) (eVar 1))) (eVar 2) [2])) (eC (.int 0))) (eC (.int 8))))
noncomputable def den__law_body_of : List D → M Rv := fun ds => noX (runB 3 (r__law_body_of) ds)
theorem mp__law_body_of {k : Nat} {f : Addr} {fd : FuncData} (F : Fun K "_law_body_of" "_law_body_of" st__law_body_of f fd) : FnOk P w K mg base CX0 (k + 1) f fd ["source", "name"] (sp K mg 2 (den__law_body_of)) :=
  have sc := sc__law_body_of
  fn_mp (N := ["source", "name", "p"]) (r := r__law_body_of) F sc__law_body_of rfl fun cdv A outer s H E hr =>
  have hu := hr.units
  have hu1 := units1 hr
  (mss_one (ms_ret (me_ix (me_ix (me_fl (mf_comp rfl sc.nd (mi_seq (me_ix (me_var (pv 0)) me_int)) (own := [("p", 2)]) (blkOk_by (N := ["source", "name", "p"]) (sc := defScope st__law_body_of) (by decide +kernel)) (by decide) (fun s H C cl fp => (mg_of (pg_name (i := 2) sc.nd rfl (by first | exact Or.inl rfl | exact Or.inr rfl)))) (fun s H C cl fp => (mts_one (mt_cmp (op_eqM hu) opm_eq (me_ix (me_var (pv 2)) me_int) (me_var (pv 1)) (by first | exact nomark _ | rfl)))) (fun s H C cl fp => (me_var (pv 2))))) me_int) me_int)))
abbrev st__law_used_names : Stmt := top 35
theorem sc__law_used_names : FnScope ["e"] ["e"] (defScope st__law_used_names) := ⟨rfl, rfl, rfl, by decide +kernel, rfl, by decide +kernel, by decide +kernel⟩
/-- names: 0 e -/
noncomputable def r__law_used_names (d__law_used_names : List D → M Rv) : MP.Env → M Fl :=
  (sSeq (eIf (eB (eBin (gEq false) (eBin gIx (eVar 0) (eC (.int 0))) (eC (.str "number"))))
  (sRetF (aList aNil))
  sNext)
  (sSeq (eIf (eB (eBin (gIn false) (eBin gIx (eVar 0) (eC (.int 0))) (eFl (aList (aCons (eC (.str "name")) (aCons (eC (.str "field")) (aCons (eC (.str "length")) aNil)))))))
  (sRetF (aList (aCons (eBin gIx (eVar 0) (eC (.int 1))) aNil)))
  sNext)
  (sSeq (eIf (eB (eBin (gEq false) (eBin gIx (eVar 0) (eC (.int 0))) (eC (.str "item"))))
  (sRet (eBin gAdd (eFl (aList (aCons (eBin gIx (eVar 0) (eC (.int 1))) aNil))) (eCall (lenD 1 d__law_used_names) (aCons (eBin gIx (eVar 0) (eC (.int 2))) aNil))))
  sNext)
  (sSeq (eIf (eB (eBin (gEq false) (eBin gIx (eVar 0) (eC (.int 0))) (eC (.str "scale"))))
  (sRet (eCall (lenD 1 d__law_used_names) (aCons (eBin gIx (eVar 0) (eC (.int 2))) aNil)))
  sNext)
  (sSeq (eIf (eB (eBin (gIn false) (eBin gIx (eVar 0) (eC (.int 0))) (eFl (aList (aCons (eC (.str "plus")) (aCons (eC (.str "minus")) aNil))))))
  (sRet (eBin gAdd (eCall (lenD 1 d__law_used_names) (aCons (eBin gIx (eVar 0) (eC (.int 1))) aNil)) (eCall (lenD 1 d__law_used_names) (aCons (eBin gIx (eVar 0) (eC (.int 2))) aNil))))
  sNext)
  (sRet (eCall (lenD 1 d__law_used_names) (aCons (eBin gIx (eVar 0) (eC (.int 1))) aNil))))))))
noncomputable def den__law_used_names (d__law_used_names : List D → M Rv) : List D → M Rv := fun ds => noX (runB 1 (r__law_used_names d__law_used_names) ds)
theorem mp__law_used_names {k : Nat} {f : Addr} {fd : FuncData} {d__law_used_names : List D → M Rv} (T__law_used_names : FnI K mg "_law_used_names" st__law_used_names f fd ["e"]) (F__law_used_names : FnOk P w K mg base CX0 k f fd ["e"] (sp K mg 1 d__law_used_names)) : FnOk P w K mg base CX0 (k + 1) f fd ["e"] (sp K mg 1 (den__law_used_names d__law_used_names)) :=
  have sc := sc__law_used_names
  fn_mp (N := ["e"]) (r := r__law_used_names d__law_used_names) T__law_used_names.fn sc__law_used_names rfl fun cdv A outer s H E hr =>
  have hu := hr.units
  have hu1 := units1 hr
  (mss_cons (ms_if (mt_cmp (op_eqM hu) opm_eq (me_ix (me_var (pv 0)) me_int) me_str (by first | exact nomark _ | rfl))
  (mss_one (ms_retF (mf_lst ma_nil)))
  mss_nil)
  (mss_cons (ms_if (mt_cmp (op_inM hu) opm_in (me_ix (me_var (pv 0)) me_int) (me_fl (mf_lst (ma_cons me_str (ma_cons me_str (ma_cons me_str ma_nil))))) (by first | exact nomark _ | rfl))
  (mss_one (ms_retF (mf_lst (ma_cons (me_ix (me_var (pv 0)) me_int) ma_nil))))
  mss_nil)
  (mss_cons (ms_if (mt_cmp (op_eqM hu) opm_eq (me_ix (me_var (pv 0)) me_int) me_str (by first | exact nomark _ | rfl))
  (mss_one (ms_ret (me_bin op_addM opm_add (me_fl (mf_lst (ma_cons (me_ix (me_var (pv 0)) me_int) ma_nil))) (me_callF T__law_used_names F__law_used_names hr rfl (ma_cons (me_ix (me_var (pv 0)) me_int) ma_nil) rfl))))
  mss_nil)
  (mss_cons (ms_if (mt_cmp (op_eqM hu) opm_eq (me_ix (me_var (pv 0)) me_int) me_str (by first | exact nomark _ | rfl))
  (mss_one (ms_ret (me_callF T__law_used_names F__law_used_names hr rfl (ma_cons (me_ix (me_var (pv 0)) me_int) ma_nil) rfl)))
  mss_nil)
  (mss_cons (ms_if (mt_cmp (op_inM hu) opm_in (me_ix (me_var (pv 0)) me_int) (me_fl (mf_lst (ma_cons me_str (ma_cons me_str ma_nil)))) (by first | exact nomark _ | rfl))
  (mss_one (ms_ret (me_bin op_addM opm_add (me_callF T__law_used_names F__law_used_names hr rfl (ma_cons (me_ix (me_var (pv 0)) me_int) ma_nil) rfl) (me_callF T__law_used_names F__law_used_names hr rfl (ma_cons (me_ix (me_var (pv 0)) me_int) ma_nil) rfl))))
  mss_nil)
  (mss_one (ms_ret (me_callF T__law_used_names F__law_used_names hr rfl (ma_cons (me_ix (me_var (pv 0)) me_int) ma_nil) rfl))))))))
abbrev st__law_changed_names : Stmt := top 36
theorem sc__law_changed_names : FnScope ["s"] ["s"] (defScope st__law_changed_names) := ⟨rfl, rfl, rfl, by decide +kernel, rfl, by decide +kernel, by decide +kernel⟩
/-- names: 0 s -/
noncomputable def r__law_changed_names : MP.Env → M Fl :=
  (sSeq (eIf (eB (eBin (gEq false) (eBin gIx (eVar 0) (eC (.int 0))) (eC (.str "set"))))
  (sRetF (aList (aCons (eBin gIx (eBin gIx (eVar 0) (eC (.int 1))) (eC (.int 1))) aNil)))
  sNext)
  (sSeq (eIf (eB (eBin (gEq false) (eBin gIx (eVar 0) (eC (.int 0))) (eC (.str "store"))))
  (sRetF (aList (aCons (eBin gIx (eVar 0) (eC (.int 1))) aNil)))
  sNext)
  (sSeq (eIf (eB (eBin (gEq false) (eBin gIx (eVar 0) (eC (.int 0))) (eC (.str "push"))))
  (sRetF (aList (aCons (eBin gIx (eVar 0) (eC (.int 2))) aNil)))
  sNext)
  (sRetF (aList (aCons (eBin gIx (eBin gIx (eVar 0) (eC (.int 1))) (eC (.int 1))) (aCons (eBin gIx (eVar 0) (eC (.int 2))) aNil)))))))
noncomputable def den__law_changed_names : List D → M Rv := fun ds => noX (runB 1 (r__law_changed_names) ds)
theorem mp__law_changed_names {k : Nat} {f : Addr} {fd : FuncData} (F : Fun K "_law_changed_names" "_law_changed_names" st__law_changed_names f fd) : FnOk P w K mg base CX0 (k + 1) f fd ["s"] (sp K mg 1 (den__law_changed_names)) :=
  have sc := sc__law_changed_names
  fn_mp (N := ["s"]) (r := r__law_changed_names) F sc__law_changed_names rfl fun cdv A outer s H E hr =>
  have hu := hr.units
  have hu1 := units1 hr
  (mss_cons (ms_if (mt_cmp (op_eqM hu) opm_eq (me_ix (me_var (pv 0)) me_int) me_str (by first | exact nomark _ | rfl))
  (mss_one (ms_retF (mf_lst (ma_cons (me_ix (me_ix (me_var (pv 0)) me_int) me_int) ma_nil))))
  mss_nil)
  (mss_cons (ms_if (mt_cmp (op_eqM hu) opm_eq (me_ix (me_var (pv 0)) me_int) me_str (by first | exact nomark _ | rfl))
  (mss_one (ms_retF (mf_lst (ma_cons (me_ix (me_var (pv 0)) me_int) ma_nil))))
  mss_nil)
  (mss_cons (ms_if (mt_cmp (op_eqM hu) opm_eq (me_ix (me_var (pv 0)) me_int) me_str (by first | exact nomark _ | rfl))
  (mss_one (ms_retF (mf_lst (ma_cons (me_ix (me_var (pv 0)) me_int) ma_nil))))
  mss_nil)
  (mss_one (ms_retF (mf_lst (ma_cons (me_ix (me_ix (me_var (pv 0)) me_int) me_int) (ma_cons (me_ix (me_var (pv 0)) me_int) ma_nil))))))))
abbrev st__law_seen_names : Stmt := top 37
theorem sc__law_seen_names : FnScope ["s"] ["s"] (defScope st__law_seen_names) := ⟨rfl, rfl, rfl, by decide +kernel, rfl, by decide +kernel, by decide +kernel⟩
/-- names: 0 s -/
noncomputable def r__law_seen_names (d__law_used_names : List D → M Rv) : MP.Env → M Fl :=
  (sSeq (eIf (eB (eBin (gEq false) (eBin gIx (eVar 0) (eC (.int 0))) (eC (.str "set"))))
  (sRet (eCall (lenD 1 d__law_used_names) (aCons (eBin gIx (eVar 0) (eC (.int 2))) aNil)))
  sNext)
  (sSeq (eIf (eB (eBin (gEq false) (eBin gIx (eVar 0) (eC (.int 0))) (eC (.str "store"))))
  (sRet (eBin gAdd (eCall (lenD 1 d__law_used_names) (aCons (eBin gIx (eVar 0) (eC (.int 2))) aNil)) (eCall (lenD 1 d__law_used_names) (aCons (eBin gIx (eVar 0) (eC (.int 3))) aNil))))
  sNext)
  (sSeq (eIf (eB (eBin (gEq false) (eBin gIx (eVar 0) (eC (.int 0))) (eC (.str "push"))))
  (sRet (eCall (lenD 1 d__law_used_names) (aCons (eBin gIx (eVar 0) (eC (.int 1))) aNil)))
  sNext)
  (sRetF (aList aNil)))))
noncomputable def den__law_seen_names (d__law_used_names : List D → M Rv) : List D → M Rv := fun ds => noX (runB 1 (r__law_seen_names d__law_used_names) ds)
theorem mp__law_seen_names {k : Nat} {f : Addr} {fd : FuncData} (F : Fun K "_law_seen_names" "_law_seen_names" st__law_seen_names f fd) {f__law_used_names : Addr} {e__law_used_names : FuncData} {d__law_used_names : List D → M Rv} (T__law_used_names : FnI K mg "_law_used_names" st__law_used_names f__law_used_names e__law_used_names ["e"]) (F__law_used_names : FnOk P w K mg base CX0 k f__law_used_names e__law_used_names ["e"] (sp K mg 1 d__law_used_names)) : FnOk P w K mg base CX0 (k + 1) f fd ["s"] (sp K mg 1 (den__law_seen_names d__law_used_names)) :=
  have sc := sc__law_seen_names
  fn_mp (N := ["s"]) (r := r__law_seen_names d__law_used_names) F sc__law_seen_names rfl fun cdv A outer s H E hr =>
  have hu := hr.units
  have hu1 := units1 hr
  (mss_cons (ms_if (mt_cmp (op_eqM hu) opm_eq (me_ix (me_var (pv 0)) me_int) me_str (by first | exact nomark _ | rfl))
  (mss_one (ms_ret (me_callF T__law_used_names F__law_used_names hr rfl (ma_cons (me_ix (me_var (pv 0)) me_int) ma_nil) rfl)))
  mss_nil)
  (mss_cons (ms_if (mt_cmp (op_eqM hu) opm_eq (me_ix (me_var (pv 0)) me_int) me_str (by first | exact nomark _ | rfl))
  (mss_one (ms_ret (me_bin op_addM opm_add (me_callF T__law_used_names F__law_used_names hr rfl (ma_cons (me_ix (me_var (pv 0)) me_int) ma_nil) rfl) (me_callF T__law_used_names F__law_used_names hr rfl (ma_cons (me_ix (me_var (pv 0)) me_int) ma_nil) rfl))))
  mss_nil)
  (mss_cons (ms_if (mt_cmp (op_eqM hu) opm_eq (me_ix (me_var (pv 0)) me_int) me_str (by first | exact nomark _ | rfl))
  (mss_one (ms_ret (me_callF T__law_used_names F__law_used_names hr rfl (ma_cons (me_ix (me_var (pv 0)) me_int) ma_nil) rfl)))
  mss_nil)
  (mss_one (ms_retF (mf_lst ma_nil))))))
abbrev st__law_may_swap : Stmt := top 38
theorem sc__law_may_swap : FnScope ["s", "t", "simple", "one", "other", "x"] ["s", "t"] (defScope st__law_may_swap) := ⟨rfl, rfl, rfl, by decide +kernel, rfl, by decide +kernel, by decide +kernel⟩
/-- names: 0 s, 1 t, 2 simple, 3 one, 4 other, 5 x -/
noncomputable def r__law_may_swap (d__law_changed_names : List D → M Rv) (d__law_seen_names : List D → M Rv) : MP.Env → M Fl :=
  (sSeq (sSet 2 (eFl (aList (aCons (eC (.str "set")) (aCons (eC (.str "store")) (aCons (eC (.str "push")) (aCons (eC (.str "pop")) aNil)))))))
  (sSeq (eIf (bOr (eB (eBin (gIn true) (eBin gIx (eVar 0) (eC (.int 0))) (eVar 2))) (eB (eBin (gIn true) (eBin gIx (eVar 1) (eC (.int 0))) (eVar 2))))
  (sRet (eC (.bl false)))
  sNext)
  (sSeq (sSet 3 (eCall (lenD 1 d__law_changed_names) (aCons (eVar 0) aNil)))
  (sSeq (sSet 4 (eCall (lenD 1 d__law_changed_names) (aCons (eVar 1) aNil)))
  (sSeq (eIf (eB (aThen (g1 gAny) (aCons (eFl (fComp (eWalk (eVar 3)) (asgN 5) tYesM (eBin (gIn false) (eVar 5) (eBin gAdd (eVar 4) (eCall (lenD 1 d__law_seen_names) (aCons (eVar 1) aNil)))) [5])) aNil)))
  (sRet (eC (.bl false)))
  sNext)
  (sRet (eMap gNot (aThen (g1 gAny) (aCons (eFl (fComp (eWalk (eVar 4)) (asgN 5) tYesM (eBin (gIn false) (eVar 5) (eCall (lenD 1 d__law_seen_names) (aCons (eVar 0) aNil))) [5])) aNil)))))))))
noncomputable def den__law_may_swap (d__law_changed_names : List D → M Rv) (d__law_seen_names : List D → M Rv) : List D → M Rv := fun ds => noX (runB 6 (r__law_may_swap d__law_changed_names d__law_seen_names) ds)
theorem mp__law_may_swap {k : Nat} {f : Addr} {fd : FuncData} (F : Fun K "_law_may_swap" "_law_may_swap" st__law_may_swap f fd) {f__law_changed_names : Addr} {e__law_changed_names : FuncData} {f__law_seen_names : Addr} {e__law_seen_names : FuncData} {d__law_changed_names : List D → M Rv} {d__law_seen_names : List D → M Rv} (T__law_changed_names : FnI K mg "_law_changed_names" st__law_changed_names f__law_changed_names e__law_changed_names ["s"]) (F__law_changed_names : FnOk P w K mg base CX0 k f__law_changed_names e__law_changed_names ["s"] (sp K mg 1 d__law_changed_names)) (T__law_seen_names : FnI K mg "_law_seen_names" st__law_seen_names f__law_seen_names e__law_seen_names ["s"]) (F__law_seen_names : FnOk P w K mg base CX0 k f__law_seen_names e__law_seen_names ["s"] (sp K mg 1 d__law_seen_names)) (z_any : mg "any" = none) : FnOk P w K mg base CX0 (k + 1) f fd ["s", "t"] (sp K mg 2 (den__law_may_swap d__law_changed_names d__law_seen_names)) :=
  have sc := sc__law_may_swap
  fn_mp (N := ["s", "t", "simple", "one", "other", "x"]) (r := r__law_may_swap d__law_changed_names d__law_seen_names) F sc__law_may_swap rfl fun cdv A outer s H E hr =>
  have hu := hr.units
  have hu1 := units1 hr
  (mss_cons (ms_set (i := 2) sc.nd rfl (by first | exact Or.inl rfl | exact Or.inr rfl) (me_fl (mf_lst (ma_cons me_str (ma_cons me_str (ma_cons me_str (ma_cons me_str ma_nil)))))))
  (mss_cons (ms_if (MW.mt (mw_or (mt_cmp (op_notInM hu) opm_in (me_ix (me_var (pv 0)) me_int) (me_var (pv 2)) (by first | exact nomark _ | rfl)) (mw_or1 (mt_cmp (op_notInM hu) opm_in (me_ix (me_var (pv 1)) me_int) (me_var (pv 2)) (by first | exact nomark _ | rfl)))))
  (mss_one (ms_ret me_bl))
  mss_nil)
  (mss_cons (ms_set (i := 3) sc.nd rfl (by first | exact Or.inl rfl | exact Or.inr rfl) (me_callF T__law_changed_names F__law_changed_names hr rfl (ma_cons (me_var (pv 0)) ma_nil) rfl))
  (mss_cons (ms_set (i := 4) sc.nd rfl (by first | exact Or.inl rfl | exact Or.inr rfl) (me_callF T__law_changed_names F__law_changed_names hr rfl (ma_cons (me_var (pv 1)) ma_nil) rfl))
  (mss_cons (ms_if (mt_val (me_callB (cr_any rfl) callM_any rfl z_any (by decide +kernel) (ma_cons (me_fl (mf_comp rfl sc.nd (mi_seq (me_var (pv 3))) (own := [("x", 5)]) (blkOk_by (N := ["s", "t", "simple", "one", "other", "x"]) (sc := defScope st__law_may_swap) (by decide +kernel)) (by decide) (fun s H C cl fp => (mg_of (pg_name (i := 5) sc.nd rfl (by first | exact Or.inl rfl | exact Or.inr rfl)))) (fun s H C cl fp => mts_nil) (fun s H C cl fp => (me_cmp (op_inM hu) opm_in (me_var (pv 5)) (me_bin op_addM opm_add (me_var (pv 4)) (me_callF T__law_seen_names F__law_seen_names hr rfl (ma_cons (me_var (pv 1)) ma_nil) rfl)) (by first | exact nomark _ | rfl))))) ma_nil)))
  (mss_one (ms_ret me_bl))
  mss_nil)
  (mss_one (ms_ret (me_not (me_callB (cr_any rfl) callM_any rfl z_any (by decide +kernel) (ma_cons (me_fl (mf_comp rfl sc.nd (mi_seq (me_var (pv 4))) (own := [("x", 5)]) (blkOk_by (N := ["s", "t", "simple", "one", "other", "x"]) (sc := defScope st__law_may_swap) (by decide +kernel)) (by decide) (fun s H C cl fp => (mg_of (pg_name (i := 5) sc.nd rfl (by first | exact Or.inl rfl | exact Or.inr rfl)))) (fun s H C cl fp => mts_nil) (fun s H C cl fp => (me_cmp (op_inM hu) opm_in (me_var (pv 5)) (me_callF T__law_seen_names F__law_seen_names hr rfl (ma_cons (me_var (pv 0)) ma_nil) rfl) (by first | exact nomark _ | rfl))))) ma_nil))))))))))
abbrev st__law_always : Stmt := top 39
theorem sc__law_always : FnScope ["test", "x", "y"] ["test"] (defScope st__law_always) := ⟨rfl, rfl, rfl, by decide +kernel, rfl, by decide +kernel, by decide +kernel⟩
/-- names: 0 test, 1 x, 2 y -/
noncomputable def r__law_always : MP.Env → M Fl :=
  (sSeq (eIf (bOr (eB (eBin (gEq true) (eBin gIx (eVar 0) (eC (.int 0))) (eC (.str "compare")))) (bOr (eB (eBin (gEq true) (eBin gIx (eBin gIx (eVar 0) (eC (.int 2))) (eC (.int 0))) (eC (.str "number")))) (eB (eBin (gEq true) (eBin gIx (eBin gIx (eVar 0) (eC (.int 3))) (eC (.int 0))) (eC (.str "number"))))))
  (sRet (eC .non))
  sNext)
  (sSeq (sSet 1 (eBin gIx (eBin gIx (eVar 0) (eC (.int 2))) (eC (.int 1))))
  (sSeq (sSet 2 (eBin gIx (eBin gIx (eVar 0) (eC (.int 3))) (eC (.int 1))))
  (sRet (eBin gDget (eDisp [((eC (.str "<")), (eBin gLt (eVar 1) (eVar 2))), ((eC (.str "<=")), (eBin gLe (eVar 1) (eVar 2))), ((eC (.str ">")), (eBin gGt (eVar 1) (eVar 2))), ((eC (.str ">=")), (eBin gGe (eVar 1) (eVar 2))), ((eC (.str "==")), (eBin (gEq false) (eVar 1) (eVar 2))), ((eC (.str "!=")), (eBin (gEq true) (eVar 1) (eVar 2)))]) (eBin gIx (eVar 0) (eC (.int 1))))))))
noncomputable def den__law_always : List D → M Rv := fun ds => noX (runB 3 (r__law_always) ds)
theorem mp__law_always {k : Nat} {f : Addr} {fd : FuncData} (F : Fun K "_law_always" "_law_always" st__law_always f fd) : FnOk P w K mg base CX0 (k + 1) f fd ["test"] (sp K mg 1 (den__law_always)) :=
  have sc := sc__law_always
  fn_mp (N := ["test", "x", "y"]) (r := r__law_always) F sc__law_always rfl fun cdv A outer s H E hr =>
  have hu := hr.units
  have hu1 := units1 hr
  (mss_cons (ms_if (MW.mt (mw_or (mt_cmp (op_neM hu) opm_eq (me_ix (me_var (pv 0)) me_int) me_str (by first | exact nomark _ | rfl)) (mw_or (mt_cmp (op_neM hu) opm_eq (me_ix (me_ix (me_var (pv 0)) me_int) me_int) me_str (by first | exact nomark _ | rfl)) (mw_or1 (mt_cmp (op_neM hu) opm_eq (me_ix (me_ix (me_var (pv 0)) me_int) me_int) me_str (by first | exact nomark _ | rfl))))))
  (mss_one (ms_ret me_non))
  mss_nil)
  (mss_cons (ms_set (i := 1) sc.nd rfl (by first | exact Or.inl rfl | exact Or.inr rfl) (me_ix (me_ix (me_var (pv 0)) me_int) me_int))
  (mss_cons (ms_set (i := 2) sc.nd rfl (by first | exact Or.inl rfl | exact Or.inr rfl) (me_ix (me_ix (me_var (pv 0)) me_int) me_int))
  (mss_one (ms_ret (me_dget hu1 (me_disp (mps_cons me_str (me_cmp op_ltM opm_lt (me_var (pv 1)) (me_var (pv 2)) (by first | exact nomark _ | rfl)) (mps_cons me_str (me_cmp op_leM opm_ord (me_var (pv 1)) (me_var (pv 2)) (by first | exact nomark _ | rfl)) (mps_cons me_str (me_cmp op_gtM opm_ord (me_var (pv 1)) (me_var (pv 2)) (by first | exact nomark _ | rfl)) (mps_cons me_str (me_cmp op_geM opm_ord (me_var (pv 1)) (me_var (pv 2)) (by first | exact nomark _ | rfl)) (mps_cons me_str (me_cmp (op_eqM hu) opm_eq (me_var (pv 1)) (me_var (pv 2)) (by first | exact nomark _ | rfl)) (mps_cons me_str (me_cmp (op_neM hu) opm_eq (me_var (pv 1)) (me_var (pv 2)) (by first | exact nomark _ | rfl)) mps_nil)))))) rfl rfl nofun (by decide)) (me_ix (me_var (pv 0)) me_int)))))))
abbrev st__law_fits_kind : Stmt := top 40
theorem sc__law_fits_kind : FnScope ["kind", "rest", "s"] ["kind", "rest"] (defScope st__law_fits_kind) := ⟨rfl, rfl, rfl, by decide +kernel, rfl, by decide +kernel, by decide +kernel⟩
/-- names: 0 kind, 1 rest, 2 s -/
noncomputable def r__law_fits_kind (d__law_has_give : List D → M Rv) (d__law_may_swap : List D → M Rv) (d__law_always : List D → M Rv) : MP.Env → M Fl :=
  (sSeq (sSet 2 (eBin gIx (eVar 1) (eC (.int 0))))
  (sSeq (eIf (eB (eBin (gEq false) (eVar 0) (eC (.str "turn"))))
  (sRet (eBin (gEq false) (eBin gIx (eVar 2) (eC (.int 0))) (eC (.str "if"))))
  sNext)
  (sSeq (eIf (bOr (eB (eBin (gEq false) (eVar 0) (eC (.str "peel")))) (eB (eBin (gEq false) (eVar 0) (eC (.str "twice")))))
  (sRet (eAnd (eBin (gEq false) (eBin gIx (eVar 2) (eC (.int 0))) (eC (.str "while"))) (eMap gNot (eCall (lenD 1 d__law_has_give) (aCons (eVar 2) aNil)))))
  sNext)
  (sSeq (eIf (eB (eBin (gEq false) (eVar 0) (eC (.str "swap"))))
  (sRet (eAnd (eBin gGt (aThen (g1 gLen) (aCons (eVar 1) aNil)) (eC (.int 1))) (eCall (lenD 2 d__law_may_swap) (aCons (eVar 2) (aCons (eBin gIx (eVar 1) (eC (.int 1))) aNil)))))
  sNext)
  (sSeq (eIf (eB (eBin (gEq false) (eVar 0) (eC (.str "rest"))))
  (sRet (eC (.bl true)))
  sNext)
  (sSeq (eIf (eB (eBin (gEq false) (eVar 0) (eC (.str "unrest"))))
  (sRet (eBin (gEq false) (eBin gIx (eVar 2) (eC (.int 0))) (eC (.str "pause"))))
  sNext)
  (sRet (eAnd (eBin (gEq false) (eBin gIx (eVar 2) (eC (.int 0))) (eC (.str "if"))) (eAnd (eBin (gIsN true) (eCall (lenD 1 d__law_always) (aCons (eBin gIx (eVar 2) (eC (.int 1))) aNil)) (eC .non)) (eMap gNot (eCall (lenD 1 d__law_has_give) (aCons (eVar 2) aNil))))))))))))
noncomputable def den__law_fits_kind (d__law_has_give : List D → M Rv) (d__law_may_swap : List D → M Rv) (d__law_always : List D → M Rv) : List D → M Rv := fun ds => noX (runB 3 (r__law_fits_kind d__law_has_give d__law_may_swap d__law_always) ds)
theorem mp__law_fits_kind {k : Nat} {f : Addr} {fd : FuncData} (F : Fun K "_law_fits_kind" "_law_fits_kind" st__law_fits_kind f fd) {f__law_has_give : Addr} {e__law_has_give : FuncData} {f__law_may_swap : Addr} {e__law_may_swap : FuncData} {f__law_always : Addr} {e__law_always : FuncData} {d__law_has_give : List D → M Rv} {d__law_may_swap : List D → M Rv} {d__law_always : List D → M Rv} (T__law_has_give : FnI K mg "_law_has_give" st__law_has_give f__law_has_give e__law_has_give ["s"]) (F__law_has_give : FnOk P w K mg base CX0 k f__law_has_give e__law_has_give ["s"] (sp K mg 1 d__law_has_give)) (T__law_may_swap : FnI K mg "_law_may_swap" st__law_may_swap f__law_may_swap e__law_may_swap ["s", "t"]) (F__law_may_swap : FnOk P w K mg base CX0 k f__law_may_swap e__law_may_swap ["s", "t"] (sp K mg 2 d__law_may_swap)) (T__law_always : FnI K mg "_law_always" st__law_always f__law_always e__law_always ["test"]) (F__law_always : FnOk P w K mg base CX0 k f__law_always e__law_always ["test"] (sp K mg 1 d__law_always)) (z_len : mg "len" = none) : FnOk P w K mg base CX0 (k + 1) f fd ["kind", "rest"] (sp K mg 2 (den__law_fits_kind d__law_has_give d__law_may_swap d__law_always)) :=
  have sc := sc__law_fits_kind
  fn_mp (N := ["kind", "rest", "s"]) (r := r__law_fits_kind d__law_has_give d__law_may_swap d__law_always) F sc__law_fits_kind rfl fun cdv A outer s H E hr =>
  have hu := hr.units
  have hu1 := units1 hr
  (mss_cons (ms_set (i := 2) sc.nd rfl (by first | exact Or.inl rfl | exact Or.inr rfl) (me_ix (me_var (pv 1)) me_int))
  (mss_cons (ms_if (mt_cmp (op_eqM hu) opm_eq (me_var (pv 0)) me_str (by first | exact nomark _ | rfl))
  (mss_one (ms_ret (me_cmp (op_eqM hu) opm_eq (me_ix (me_var (pv 2)) me_int) me_str (by first | exact nomark _ | rfl))))
  mss_nil)
  (mss_cons (ms_if (MW.mt (mw_or (mt_cmp (op_eqM hu) opm_eq (me_var (pv 0)) me_str (by first | exact nomark _ | rfl)) (mw_or1 (mt_cmp (op_eqM hu) opm_eq (me_var (pv 0)) me_str (by first | exact nomark _ | rfl)))))
  (mss_one (ms_ret (me_and (me_cmp (op_eqM hu) opm_eq (me_ix (me_var (pv 2)) me_int) me_str (by first | exact nomark _ | rfl)) (me_one (me_not (me_callF T__law_has_give F__law_has_give hr rfl (ma_cons (me_var (pv 2)) ma_nil) rfl))))))
  mss_nil)
  (mss_cons (ms_if (mt_cmp (op_eqM hu) opm_eq (me_var (pv 0)) me_str (by first | exact nomark _ | rfl))
  (mss_one (ms_ret (me_and (me_cmp op_gtM opm_ord (me_callB call_lenM callM_len rfl z_len PySem.boot_len (ma_cons (me_var (pv 1)) ma_nil)) me_int (by first | exact nomark _ | rfl)) (me_one (me_callF T__law_may_swap F__law_may_swap hr rfl (ma_cons (me_var (pv 2)) (ma_cons (me_ix (me_var (pv 1)) me_int) ma_nil)) rfl)))))
  mss_nil)
  (mss_cons (ms_if (mt_cmp (op_eqM hu) opm_eq (me_var (pv 0)) me_str (by first | exact nomark _ | rfl))
  (mss_one (ms_ret me_bl))
  mss_nil)
  (mss_cons (ms_if (mt_cmp (op_eqM hu) opm_eq (me_var (pv 0)) me_str (by first | exact nomark _ | rfl))
  (mss_one (ms_ret (me_cmp (op_eqM hu) opm_eq (me_ix (me_var (pv 2)) me_int) me_str (by first | exact nomark _ | rfl))))
  mss_nil)
  (mss_one (ms_ret (me_and (me_cmp (op_eqM hu) opm_eq (me_ix (me_var (pv 2)) me_int) me_str (by first | exact nomark _ | rfl)) (me_and (me_cmp op_notNM opm_isN (me_callF T__law_always F__law_always hr rfl (ma_cons (me_ix (me_var (pv 2)) me_int) ma_nil) rfl) me_non (by first | exact nomark _ | rfl)) (me_one (me_not (me_callF T__law_has_give F__law_has_give hr rfl (ma_cons (me_var (pv 2)) ma_nil) rfl)))))))))))))
abbrev st__law_places_of : Stmt := top 41
theorem sc__law_places_of : FnScope ["source", "name", "kind", "rows", "path", "rest"] ["source", "name", "kind"] (defScope st__law_places_of) := ⟨rfl, rfl, rfl, by decide +kernel, rfl, by decide +kernel, by decide +kernel⟩
/-- names: 0 source, 1 name, 2 kind, 3 rows, 4 path, 5 rest -/
noncomputable def r__law_places_of (d__law_paths_of : List D → M Rv) (d__law_body_of : List D → M Rv) (d__law_fits_kind : List D → M Rv) : MP.Env → M Fl :=
  (sSeq (sSet 3 (eCall (lenD 2 d__law_paths_of) (aCons (eCall (lenD 2 d__law_body_of) (aCons (eVar 0) (aCons (eVar 1) aNil))) (aCons (aThen gTup aNil) aNil))))
  (sRet (aThen (g1 gTuple) (aCons (eFl (fComp (eWalk (eVar 3)) (asgT 2 (asgCons (asgN 4) (asgCons (asgN 5) asgNil))) (eB (eCall (lenD 2 d__law_fits_kind) (aCons (eVar 2) (aCons (eVar 5) aNil)))) (eVar 4) [4, 5])) aNil))))
noncomputable def den__law_places_of (d__law_paths_of : List D → M Rv) (d__law_body_of : List D → M Rv) (d__law_fits_kind : List D → M Rv) : List D → M Rv := fun ds => noX (runB 6 (r__law_places_of d__law_paths_of d__law_body_of d__law_fits_kind) ds)
theorem mp__law_places_of {k : Nat} {f : Addr} {fd : FuncData} (F : Fun K "_law_places_of" "_law_places_of" st__law_places_of f fd) {f__law_paths_of : Addr} {e__law_paths_of : FuncData} {f__law_body_of : Addr} {e__law_body_of : FuncData} {f__law_fits_kind : Addr} {e__law_fits_kind : FuncData} {d__law_paths_of : List D → M Rv} {d__law_body_of : List D → M Rv} {d__law_fits_kind : List D → M Rv} (T__law_paths_of : FnI K mg "_law_paths_of" st__law_paths_of f__law_paths_of e__law_paths_of ["body", "ahead"]) (F__law_paths_of : FnOk P w K mg base CX0 k f__law_paths_of e__law_paths_of ["body", "ahead"] (sp K mg 2 d__law_paths_of)) (T__law_body_of : FnI K mg "_law_body_of" st__law_body_of f__law_body_of e__law_body_of ["source", "name"]) (F__law_body_of : FnOk P w K mg base CX0 k f__law_body_of e__law_body_of ["source", "name"] (sp K mg 2 d__law_body_of)) (T__law_fits_kind : FnI K mg "_law_fits_kind" st__law_fits_kind f__law_fits_kind e__law_fits_kind ["kind", "rest"]) (F__law_fits_kind : FnOk P w K mg base CX0 k f__law_fits_kind e__law_fits_kind ["kind", "rest"] (sp K mg 2 d__law_fits_kind)) (z_tuple : mg "tuple" = none) : FnOk P w K mg base CX0 (k + 1) f fd ["source", "name", "kind"] (sp K mg 3 (den__law_places_of d__law_paths_of d__law_body_of d__law_fits_kind)) :=
  have sc := sc__law_places_of
  fn_mp (N := ["source", "name", "kind", "rows", "path", "rest"]) (r := r__law_places_of d__law_paths_of d__law_body_of d__law_fits_kind) F sc__law_places_of rfl fun cdv A outer s H E hr =>
  have hu := hr.units
  have hu1 := units1 hr
  (mss_cons (ms_set (i := 3) sc.nd rfl (by first | exact Or.inl rfl | exact Or.inr rfl) (me_callF T__law_paths_of F__law_paths_of hr rfl (ma_cons (me_callF T__law_body_of F__law_body_of hr rfl (ma_cons (me_var (pv 0)) (ma_cons (me_var (pv 1)) ma_nil)) rfl) (ma_cons (me_tup ma_nil) ma_nil)) rfl))
  (mss_one (ms_ret (me_callTy call_tuple_of callM_tuple rfl z_tuple (by decide +kernel) (ma_cons (me_fl (mf_comp rfl sc.nd (mi_seq (me_var (pv 3))) (own := [("path", 4), ("rest", 5)]) (blkOk_by (N := ["source", "name", "kind", "rows", "path", "rest"]) (sc := defScope st__law_places_of) (by decide +kernel)) (by decide) (fun s H C cl fp => (mg_tup rfl (mgs_cons (mg_of (pg_name (i := 4) sc.nd rfl (by first | exact Or.inl rfl | exact Or.inr rfl))) (mgs_cons (mg_of (pg_name (i := 5) sc.nd rfl (by first | exact Or.inl rfl | exact Or.inr rfl))) mgs_nil)))) (fun s H C cl fp => (mts_one (mt_val (me_callF T__law_fits_kind F__law_fits_kind hr rfl (ma_cons (me_var (pv 2)) (ma_cons (me_var (pv 5)) ma_nil)) rfl)))) (fun s H C cl fp => (me_var (pv 4))))) ma_nil)))))
abbrev st__law_statements_for : Stmt := top 42
theorem sc__law_statements_for : FnScope ["kind", "s", "t"] ["kind", "s", "t"] (defScope st__law_statements_for) := ⟨rfl, rfl, rfl, by decide +kernel, rfl, by decide +kernel, by decide +kernel⟩
/-- names: 0 kind, 1 s, 2 t -/
noncomputable def r__law_statements_for (d__law_always : List D → M Rv) : MP.Env → M Fl :=
  (sSeq (eIf (eB (eBin (gEq false) (eVar 0) (eC (.str "turn"))))
  (sRet (aThen gTup (aCons (eC (.int 1)) (aCons (aThen gTup (aCons (aThen gTup (aCons (eC (.str "if")) (aCons (aThen gTup (aCons (eC (.str "not")) (aCons (eBin gIx (eVar 1) (eC (.int 1))) aNil))) (aCons (eBin gIx (eVar 1) (eC (.int 3))) (aCons (eBin gIx (eVar 1) (eC (.int 2))) aNil))))) aNil)) aNil))))
  sNext)
  (sSeq (eIf (eB (eBin (gEq false) (eVar 0) (eC (.str "peel"))))
  (sRet (aThen gTup (aCons (eC (.int 1)) (aCons (aThen gTup (aCons (aThen gTup (aCons (eC (.str "if")) (aCons (eBin gIx (eVar 1) (eC (.int 1))) (aCons (eBin gAdd (eBin gIx (eVar 1) (eC (.int 2))) (aThen gTup (aCons (eVar 1) aNil))) (aCons (aThen gTup aNil) aNil))))) aNil)) aNil))))
  sNext)
  (sSeq (eIf (eB (eBin (gEq false) (eVar 0) (eC (.str "twice"))))
  (sRet (aThen gTup (aCons (eC (.int 1)) (aCons (aThen gTup (aCons (aThen gTup (aCons (eC (.str "while")) (aCons (eBin gIx (eVar 1) (eC (.int 1))) (aCons (eBin gAdd (eBin gIx (eVar 1) (eC (.int 2))) (aThen gTup (aCons (aThen gTup (aCons (eC (.str "if")) (aCons (eBin gIx (eVar 1) (eC (.int 1))) (aCons (eBin gIx (eVar 1) (eC (.int 2))) (aCons (aThen gTup aNil) aNil))))) aNil))) aNil)))) aNil)) aNil))))
  sNext)
  (sSeq (eIf (eB (eBin (gEq false) (eVar 0) (eC (.str "swap"))))
  (sRet (aThen gTup (aCons (eC (.int 2)) (aCons (aThen gTup (aCons (eVar 2) (aCons (eVar 1) aNil))) aNil))))
  sNext)
  (sSeq (eIf (eB (eBin (gEq false) (eVar 0) (eC (.str "rest"))))
  (sRet (aThen gTup (aCons (eC (.int 0)) (aCons (aThen gTup (aCons (aThen gTup (aCons (eC (.str "pause")) aNil)) aNil)) aNil))))
  sNext)
  (sSeq (eIf (eB (eBin (gEq false) (eVar 0) (eC (.str "unrest"))))
  (sRet (aThen gTup (aCons (eC (.int 1)) (aCons (aThen gTup aNil) aNil))))
  sNext)
  (sSeq (eIf (eB (eCall (lenD 1 d__law_always) (aCons (eBin gIx (eVar 1) (eC (.int 1))) aNil)))
  (sRet (aThen gTup (aCons (eC (.int 1)) (aCons (eBin gIx (eVar 1) (eC (.int 2))) aNil))))
  sNext)
  (sRet (aThen gTup (aCons (eC (.int 1)) (aCons (eBin gIx (eVar 1) (eC (.int 3))) aNil)))))))))))
noncomputable def den__law_statements_for (d__law_always : List D → M Rv) : List D → M Rv := fun ds => noX (runB 3 (r__law_statements_for d__law_always) ds)
theorem mp__law_statements_for {k : Nat} {f : Addr} {fd : FuncData} (F : Fun K "_law_statements_for" "_law_statements_for" st__law_statements_for f fd) {f__law_always : Addr} {e__law_always : FuncData} {d__law_always : List D → M Rv} (T__law_always : FnI K mg "_law_always" st__law_always f__law_always e__law_always ["test"]) (F__law_always : FnOk P w K mg base CX0 k f__law_always e__law_always ["test"] (sp K mg 1 d__law_always)) : FnOk P w K mg base CX0 (k + 1) f fd ["kind", "s", "t"] (sp K mg 3 (den__law_statements_for d__law_always)) :=
  have sc := sc__law_statements_for
  fn_mp (N := ["kind", "s", "t"]) (r := r__law_statements_for d__law_always) F sc__law_statements_for rfl fun cdv A outer s H E hr =>
  have hu := hr.units
  have hu1 := units1 hr
  (mss_cons (ms_if (mt_cmp (op_eqM hu) opm_eq (me_var (pv 0)) me_str (by first | exact nomark _ | rfl))
  (mss_one (ms_ret (me_tup (ma_cons me_int (ma_cons (me_tup (ma_cons (me_tup (ma_cons me_str (ma_cons (me_tup (ma_cons me_str (ma_cons (me_ix (me_var (pv 1)) me_int) ma_nil))) (ma_cons (me_ix (me_var (pv 1)) me_int) (ma_cons (me_ix (me_var (pv 1)) me_int) ma_nil))))) ma_nil)) ma_nil)))))
  mss_nil)
  (mss_cons (ms_if (mt_cmp (op_eqM hu) opm_eq (me_var (pv 0)) me_str (by first | exact nomark _ | rfl))
  (mss_one (ms_ret (me_tup (ma_cons me_int (ma_cons (me_tup (ma_cons (me_tup (ma_cons me_str (ma_cons (me_ix (me_var (pv 1)) me_int) (ma_cons (me_bin op_addM opm_add (me_ix (me_var (pv 1)) me_int) (me_tup (ma_cons (me_var (pv 1)) ma_nil))) (ma_cons (me_tup ma_nil) ma_nil))))) ma_nil)) ma_nil)))))
  mss_nil)
  (mss_cons (ms_if (mt_cmp (op_eqM hu) opm_eq (me_var (pv 0)) me_str (by first | exact nomark _ | rfl))
  (mss_one (ms_ret (me_tup (ma_cons me_int (ma_cons (me_tup (ma_cons (me_tup (ma_cons me_str (ma_cons (me_ix (me_var (pv 1)) me_int) (ma_cons (me_bin op_addM opm_add (me_ix (me_var (pv 1)) me_int) (me_tup (ma_cons (me_tup (ma_cons me_str (ma_cons (me_ix (me_var (pv 1)) me_int) (ma_cons (me_ix (me_var (pv 1)) me_int) (ma_cons (me_tup ma_nil) ma_nil))))) ma_nil))) ma_nil)))) ma_nil)) ma_nil)))))
  mss_nil)
  (mss_cons (ms_if (mt_cmp (op_eqM hu) opm_eq (me_var (pv 0)) me_str (by first | exact nomark _ | rfl))
  (mss_one (ms_ret (me_tup (ma_cons me_int (ma_cons (me_tup (ma_cons (me_var (pv 2)) (ma_cons (me_var (pv 1)) ma_nil))) ma_nil)))))
  mss_nil)
  (mss_cons (ms_if (mt_cmp (op_eqM hu) opm_eq (me_var (pv 0)) me_str (by first | exact nomark _ | rfl))
  (mss_one (ms_ret (me_tup (ma_cons me_int (ma_cons (me_tup (ma_cons (me_tup (ma_cons me_str ma_nil)) ma_nil)) ma_nil)))))
  mss_nil)
  (mss_cons (ms_if (mt_cmp (op_eqM hu) opm_eq (me_var (pv 0)) me_str (by first | exact nomark _ | rfl))
  (mss_one (ms_ret (me_tup (ma_cons me_int (ma_cons (me_tup ma_nil) ma_nil)))))
  mss_nil)
  (mss_cons (ms_if (mt_val (me_callF T__law_always F__law_always hr rfl (ma_cons (me_ix (me_var (pv 1)) me_int) ma_nil) rfl))
  (mss_one (ms_ret (me_tup (ma_cons me_int (ma_cons (me_ix (me_var (pv 1)) me_int) ma_nil)))))
  mss_nil)
  (mss_one (ms_ret (me_tup (ma_cons me_int (ma_cons (me_ix (me_var (pv 1)) me_int) ma_nil))))))))))))
abbrev st__law_changed_source : Stmt := top 43
theorem sc__law_changed_source : FnScope ["source", "name", "kind", "path", "body", "rest", "many", "statements", "row"] ["source", "name", "kind", "path"] (defScope st__law_changed_source) := ⟨rfl, rfl, rfl, by decide +kernel, rfl, by decide +kernel, by decide +kernel⟩
/-- names: 0 source, 1 name, 2 kind, 3 path, 4 body, 5 rest, 6 many, 7 statements, 8 row -/
noncomputable def r__law_changed_source (d__law_body_of : List D → M Rv) (d__law_paths_of : List D → M Rv) (d__law_statements_for : List D → M Rv) (d__law_source_with : List D → M Rv) (d__law_put_at : List D → M Rv) : MP.Env → M Fl :=
  (sSeq (sSet 4 (eCall (lenD 2 d__law_body_of) (aCons (eVar 0) (aCons (eVar 1) aNil))))
  (sSeq (sSet 5 (eBin gIx (eFl (fComp (eWalk (eCall (lenD 2 d__law_paths_of) (aCons (eVar 4) (aCons (aThen gTup aNil) aNil)))) (asgN 8) (eB (eBin (gEq false) (eBin gIx (eVar 8) (eC (.int 0))) (eVar 3))) (eBin gIx (eVar 8) (eC (.int 1))) [8])) (eC (.int 0))))
  (sSeq (sAsg (eCall (lenD 3 d__law_statements_for) (aCons (eVar 2) (aCons (eBin gIx (eVar 5) (eC (.int 0))) (aCons (eBin gIx (eBin gAdd (eVar 5) (eVar 5)) (eC (.int 1))) aNil)))) (asgT 2 (asgCons (asgN 6) (asgCons (asgN 7) asgNil))))
  (sRet (eCall (lenD 3 d__law_source_with) (aCons (eVar 0) (aCons (eVar 1) (aCons (eCall (lenD 4 d__law_put_at) (aCons (eVar 4) (aCons (eVar 3) (aCons (eVar 6) (aCons (eVar 7) aNil))))) aNil))))))))
noncomputable def den__law_changed_source (d__law_body_of : List D → M Rv) (d__law_paths_of : List D → M Rv) (d__law_statements_for : List D → M Rv) (d__law_source_with : List D → M Rv) (d__law_put_at : List D → M Rv) : List D → M Rv := fun ds => noX (runB 9 (r__law_changed_source d__law_body_of d__law_paths_of d__law_statements_for d__law_source_with d__law_put_at) ds)
theorem mp__law_changed_source {k : Nat} {f : Addr} {fd : FuncData} (F : Fun K "_law_changed_source" "_law_changed_source" st__law_changed_source f fd) {f__law_body_of : Addr} {e__law_body_of : FuncData} {f__law_paths_of : Addr} {e__law_paths_of : FuncData} {f__law_statements_for : Addr} {e__law_statements_for : FuncData} {f__law_source_with : Addr} {e__law_source_with : FuncData} {f__law_put_at : Addr} {e__law_put_at : FuncData} {d__law_body_of : List D → M Rv} {d__law_paths_of : List D → M Rv} {d__law_statements_for : List D → M Rv} {d__law_source_with : List D → M Rv} {d__law_put_at : List D → M Rv} (T__law_body_of : FnI K mg "_law_body_of" st__law_body_of f__law_body_of e__law_body_of ["source", "name"]) (F__law_body_of : FnOk P w K mg base CX0 k f__law_body_of e__law_body_of ["source", "name"] (sp K mg 2 d__law_body_of)) (T__law_paths_of : FnI K mg "_law_paths_of" st__law_paths_of f__law_paths_of e__law_paths_of ["body", "ahead"]) (F__law_paths_of : FnOk P w K mg base CX0 k f__law_paths_of e__law_paths_of ["body", "ahead"] (sp K mg 2 d__law_paths_of)) (T__law_statements_for : FnI K mg "_law_statements_for" st__law_statements_for f__law_statements_for e__law_statements_for ["kind", "s", "t"]) (F__law_statements_for : FnOk P w K mg base CX0 k f__law_statements_for e__law_statements_for ["kind", "s", "t"] (sp K mg 3 d__law_statements_for)) (T__law_source_with : FnI K mg "_law_source_with" st__law_source_with f__law_source_with e__law_source_with ["source", "name", "body"]) (F__law_source_with : FnOk P w K mg base CX0 k f__law_source_with e__law_source_with ["source", "name", "body"] (sp K mg 3 d__law_source_with)) (T__law_put_at : FnI K mg "_law_put_at" st__law_put_at f__law_put_at e__law_put_at ["body", "path", "many", "statements"]) (F__law_put_at : FnOk P w K mg base CX0 k f__law_put_at e__law_put_at ["body", "path", "many", "statements"] (sp K mg 4 d__law_put_at)) : FnOk P w K mg base CX0 (k + 1) f fd ["source", "name", "kind", "path"] (sp K mg 4 (den__law_changed_source d__law_body_of d__law_paths_of d__law_statements_for d__law_source_with d__law_put_at)) :=
  have sc := sc__law_changed_source
  fn_mp (N := ["source", "name", "kind", "path", "body", "rest", "many", "statements", "row"]) (r := r__law_changed_source d__law_body_of d__law_paths_of d__law_statements_for d__law_source_with d__law_put_at) F sc__law_changed_source rfl fun cdv A outer s H E hr =>
  have hu := hr.units
  have hu1 := units1 hr
  (mss_cons (ms_set (i := 4) sc.nd rfl (by first | exact Or.inl rfl | exact Or.inr rfl) (me_callF T__law_body_of F__law_body_of hr rfl (ma_cons (me_var (pv 0)) (ma_cons (me_var (pv 1)) ma_nil)) rfl))
  (mss_cons (ms_set (i := 5) sc.nd rfl (by first | exact Or.inl rfl | exact Or.inr rfl) (me_ix (me_fl (mf_comp rfl sc.nd (mi_seq (me_callF T__law_paths_of F__law_paths_of hr rfl (ma_cons (me_var (pv 4)) (ma_cons (me_tup ma_nil) ma_nil)) rfl)) (own := [("row", 8)]) (blkOk_by (N := ["source", "name", "kind", "path", "body", "rest", "many", "statements", "row"]) (sc := defScope st__law_changed_source) (by decide +kernel)) (by decide) (fun s H C cl fp => (mg_of (pg_name (i := 8) sc.nd rfl (by first | exact Or.inl rfl | exact Or.inr rfl)))) (fun s H C cl fp => (mts_one (mt_cmp (op_eqM hu) opm_eq (me_ix (me_var (pv 8)) me_int) (me_var (pv 3)) (by first | exact nomark _ | rfl)))) (fun s H C cl fp => (me_ix (me_var (pv 8)) me_int)))) me_int))
  (mss_cons (ms_asg (me_callF T__law_statements_for F__law_statements_for hr rfl (ma_cons (me_var (pv 2)) (ma_cons (me_ix (me_var (pv 5)) me_int) (ma_cons (me_ix (me_bin op_addM opm_add (me_var (pv 5)) (me_var (pv 5))) me_int) ma_nil))) rfl) (mg_tup rfl (mgs_cons (mg_of (pg_name (i := 6) sc.nd rfl (by first | exact Or.inl rfl | exact Or.inr rfl))) (mgs_cons (mg_of (pg_name (i := 7) sc.nd rfl (by first | exact Or.inl rfl | exact Or.inr rfl))) mgs_nil))))
  (mss_one (ms_ret (me_callF T__law_source_with F__law_source_with hr rfl (ma_cons (me_var (pv 0)) (ma_cons (me_var (pv 1)) (ma_cons (me_callF T__law_put_at F__law_put_at hr rfl (ma_cons (me_var (pv 4)) (ma_cons (me_var (pv 3)) (ma_cons (me_var (pv 6)) (ma_cons (me_var (pv 7)) ma_nil)))) rfl) ma_nil))) rfl))))))
abbrev st__law_few : Stmt := top 44
theorem sc__law_few : FnScope ["state", "words", "fields", "x", "a", "e", "pick"] ["state", "words"] (defScope st__law_few) := ⟨rfl, rfl, rfl, by decide +kernel, rfl, by decide +kernel, by decide +kernel⟩
/-- names: 0 state, 1 words, 2 fields, 3 x, 4 a, 5 e, 6 pick -/
noncomputable def r__law_few (d__law_one_of : List D → M Rv) (d__law_draw : List D → M Rv) : MP.Env → M Fl :=
  (sSeq (sSet 2 (eFl (aList (aCons (aThen gTup (aCons (eC (.str "field")) (aCons (eC (.str "p_p")) (aCons (eBin gIx (eVar 1) (eC (.int 0))) aNil)))) (aCons (aThen gTup (aCons (eC (.str "field")) (aCons (eC (.str "p_p")) (aCons (eBin gIx (eVar 1) (eC (.int 3))) aNil)))) (aCons (aThen gTup (aCons (eC (.str "field")) (aCons (eC (.str "p_p")) (aCons (eBin gIx (eVar 1) (eC (.int 4))) aNil)))) aNil))))))
  (sSeq (sSet 3 (eCall (lenD 2 d__law_one_of) (aCons (eVar 0) (aCons (eBin gAdd (eFl (aList (aCons (aThen gTup (aCons (eC (.str "name")) (aCons (eBin gIx (eVar 1) (eC (.int 0))) aNil))) (aCons (aThen gTup (aCons (eC (.str "name")) (aCons (eBin gIx (eVar 1) (eC (.int 1))) aNil))) aNil)))) (eSl (eVar 2) oNone (oSome (eC (.int 2))))) aNil))))
  (sSeq (sSet 4 (eCall (lenD 2 d__law_one_of) (aCons (eVar 0) (aCons (eFl (aList (aCons (eBin gIx (eVar 1) (eC (.int 3))) (aCons (eBin gIx (eVar 1) (eC (.int 4))) aNil)))) aNil))))
  (sSeq (sSet 5 (eCall (lenD 2 d__law_one_of) (aCons (eVar 0) (aCons (eFl (aList (aCons (aThen gTup (aCons (eC (.str "number")) (aCons (eC (.int 7)) aNil))) (aCons (aThen gTup (aCons (eC (.str "name")) (aCons (eBin gIx (eVar 1) (eC (.int 0))) aNil))) (aCons (aThen gTup (aCons (eC (.str "name")) (aCons (eBin gIx (eVar 1) (eC (.int 2))) aNil))) (aCons (aThen gTup (aCons (eC (.str "length")) (aCons (eVar 4) aNil))) (aCons (eBin gIx (eVar 2) (eC (.int 2))) aNil))))))) aNil))))
  (sSeq (eIf (eB (eBin (gEq false) (eCall (lenD 2 d__law_draw) (aCons (eVar 0) (aCons (eC (.int 3)) aNil))) (eC (.int 0))))
  (sSet 5 (eBin gIx (eFl (aList (aCons (aThen gTup (aCons (eC (.str "item")) (aCons (eBin gIx (eVar 1) (eC (.int 4))) (aCons (eVar 5) aNil)))) (aCons (aThen gTup (aCons (eC (.str "plus")) (aCons (aThen gTup (aCons (eC (.str "number")) (aCons (eC (.int 1)) aNil))) (aCons (eVar 5) aNil)))) (aCons (aThen gTup (aCons (eC (.str "scale")) (aCons (eC (.int 3)) (aCons (eVar 5) aNil)))) (aCons (aThen gTup (aCons (eC (.str "remainder")) (aCons (eVar 5) (aCons (eC (.int 4)) aNil)))) aNil)))))) (eCall (lenD 2 d__law_draw) (aCons (eVar 0) (aCons (eC (.int 4)) aNil)))))
  sNext)
  (sSeq (sSet 6 (eCall (lenD 2 d__law_draw) (aCons (eVar 0) (aCons (eC (.int 6)) aNil))))
  (sSeq (eIf (eB (eBin gLt (eVar 6) (eC (.int 2))))
  (sRet (aThen gTup (aCons (eC (.str "set")) (aCons (eVar 3) (aCons (eVar 5) aNil)))))
  sNext)
  (sSeq (eIf (eB (eBin (gEq false) (eVar 6) (eC (.int 2))))
  (sRet (aThen gTup (aCons (eC (.str "push")) (aCons (eVar 5) (aCons (eVar 4) aNil)))))
  sNext)
  (sSeq (eIf (eB (eBin (gEq false) (eVar 6) (eC (.int 3))))
  (sRet (aThen gTup (aCons (eC (.str "pop")) (aCons (eVar 3) (aCons (eVar 4) aNil)))))
  sNext)
  (sSeq (eIf (eB (eBin (gEq false) (eVar 6) (eC (.int 4))))
  (sRet (aThen gTup (aCons (eC (.str "store")) (aCons (eVar 4) (aCons (eVar 5) (aCons (eCall (lenD 2 d__law_one_of) (aCons (eVar 0) (aCons (eFl (aList (aCons (aThen gTup (aCons (eC (.str "number")) (aCons (eC (.int 1)) aNil))) (aCons (aThen gTup (aCons (eC (.str "name")) (aCons (eBin gIx (eVar 1) (eC (.int 1))) aNil))) aNil)))) aNil))) aNil))))))
  sNext)
  (sRet (eBin gIx (eFl (aList (aCons (aThen gTup (aCons (eC (.str "pause")) aNil)) (aCons (aThen gTup (aCons (eC (.str "set")) (aCons (aThen gTup (aCons (eC (.str "name")) (aCons (eC (.str "p_p")) aNil))) (aCons (aThen gTup (aCons (eC (.str "name")) (aCons (eC (.str "q_q")) aNil))) aNil)))) (aCons (aThen gTup (aCons (eC (.str "store")) (aCons (eVar 4) (aCons (aThen gTup (aCons (eC (.str "number")) (aCons (eC (.int 0)) aNil))) (aCons (eVar 5) aNil))))) aNil))))) (eCall (lenD 2 d__law_draw) (aCons (eVar 0) (aCons (eC (.int 3)) aNil)))))))))))))))
noncomputable def den__law_few (d__law_one_of : List D → M Rv) (d__law_draw : List D → M Rv) : List D → M Rv := fun ds => noX (runB 7 (r__law_few d__law_one_of d__law_draw) ds)
theorem mp__law_few {k : Nat} {f : Addr} {fd : FuncData} (F : Fun K "_law_few" "_law_few" st__law_few f fd) {f__law_one_of : Addr} {e__law_one_of : FuncData} {f__law_draw : Addr} {e__law_draw : FuncData} {d__law_one_of : List D → M Rv} {d__law_draw : List D → M Rv} (T__law_one_of : FnI K mg "_law_one_of" st__law_one_of f__law_one_of e__law_one_of ["state", "items"]) (F__law_one_of : FnOk P w K mg base CX0 k f__law_one_of e__law_one_of ["state", "items"] (sp K mg 2 d__law_one_of)) (T__law_draw : FnI K mg "_law_draw" st__law_draw f__law_draw e__law_draw ["state", "most"]) (F__law_draw : FnOk P w K mg base CX0 k f__law_draw e__law_draw ["state", "most"] (sp K mg 2 d__law_draw)) : FnOk P w K mg base CX0 (k + 1) f fd ["state", "words"] (sp K mg 2 (den__law_few d__law_one_of d__law_draw)) :=
  have sc := sc__law_few
  fn_mp (N := ["state", "words", "fields", "x", "a", "e", "pick"]) (r := r__law_few d__law_one_of d__law_draw) F sc__law_few rfl fun cdv A outer s H E hr =>
  have hu := hr.units
  have hu1 := units1 hr
  (mss_cons (ms_set (i := 2) sc.nd rfl (by first | exact Or.inl rfl | exact Or.inr rfl) (me_fl (mf_lst (ma_cons (me_tup (ma_cons me_str (ma_cons me_str (ma_cons (me_ix (me_var (pv 1)) me_int) ma_nil)))) (ma_cons (me_tup (ma_cons me_str (ma_cons me_str (ma_cons (me_ix (me_var (pv 1)) me_int) ma_nil)))) (ma_cons (me_tup (ma_cons me_str (ma_cons me_str (ma_cons (me_ix (me_var (pv 1)) me_int) ma_nil)))) ma_nil))))))
  (mss_cons (ms_set (i := 3) sc.nd rfl (by first | exact Or.inl rfl | exact Or.inr rfl) (me_callF T__law_one_of F__law_one_of hr rfl (ma_cons (me_var (pv 0)) (ma_cons (me_bin op_addM opm_add (me_fl (mf_lst (ma_cons (me_tup (ma_cons me_str (ma_cons (me_ix (me_var (pv 1)) me_int) ma_nil))) (ma_cons (me_tup (ma_cons me_str (ma_cons (me_ix (me_var (pv 1)) me_int) ma_nil))) ma_nil)))) (me_slice (me_var (pv 2)) mo_none (mo_some me_int))) ma_nil)) rfl))
  (mss_cons (ms_set (i := 4) sc.nd rfl (by first | exact Or.inl rfl | exact Or.inr rfl) (me_callF T__law_one_of F__law_one_of hr rfl (ma_cons (me_var (pv 0)) (ma_cons (me_fl (mf_lst (ma_cons (me_ix (me_var (pv 1)) me_int) (ma_cons (me_ix (me_var (pv 1)) me_int) ma_nil)))) ma_nil)) rfl))
  (mss_cons (ms_set (i := 5) sc.nd rfl (by first | exact Or.inl rfl | exact Or.inr rfl) (me_callF T__law_one_of F__law_one_of hr rfl (ma_cons (me_var (pv 0)) (ma_cons (me_fl (mf_lst (ma_cons (me_tup (ma_cons me_str (ma_cons me_int ma_nil))) (ma_cons (me_tup (ma_cons me_str (ma_cons (me_ix (me_var (pv 1)) me_int) ma_nil))) (ma_cons (me_tup (ma_cons me_str (ma_cons (me_ix (me_var (pv 1)) me_int) ma_nil))) (ma_cons (me_tup (ma_cons me_str (ma_cons (me_var (pv 4)) ma_nil))) (ma_cons (me_ix (me_var (pv 2)) me_int) ma_nil))))))) ma_nil)) rfl))
  (mss_cons (ms_if (mt_cmp (op_eqM hu) opm_eq (me_callF T__law_draw F__law_draw hr rfl (ma_cons (me_var (pv 0)) (ma_cons me_int ma_nil)) rfl) me_int (by first | exact nomark _ | rfl))
  (mss_one (ms_set (i := 5) sc.nd rfl (by first | exact Or.inl rfl | exact Or.inr rfl) (me_ix (me_fl (mf_lst (ma_cons (me_tup (ma_cons me_str (ma_cons (me_ix (me_var (pv 1)) me_int) (ma_cons (me_var (pv 5)) ma_nil)))) (ma_cons (me_tup (ma_cons me_str (ma_cons (me_tup (ma_cons me_str (ma_cons me_int ma_nil))) (ma_cons (me_var (pv 5)) ma_nil)))) (ma_cons (me_tup (ma_cons me_str (ma_cons me_int (ma_cons (me_var (pv 5)) ma_nil)))) (ma_cons (me_tup (ma_cons me_str (ma_cons (me_var (pv 5)) (ma_cons me_int ma_nil)))) ma_nil)))))) (me_callF T__law_draw F__law_draw hr rfl (ma_cons (me_var (pv 0)) (ma_cons me_int ma_nil)) rfl))))
  mss_nil)
  (mss_cons (ms_set (i := 6) sc.nd rfl (by first | exact Or.inl rfl | exact Or.inr rfl) (me_callF T__law_draw F__law_draw hr rfl (ma_cons (me_var (pv 0)) (ma_cons me_int ma_nil)) rfl))
  (mss_cons (ms_if (mt_cmp op_ltM opm_lt (me_var (pv 6)) me_int (by first | exact nomark _ | rfl))
  (mss_one (ms_ret (me_tup (ma_cons me_str (ma_cons (me_var (pv 3)) (ma_cons (me_var (pv 5)) ma_nil))))))
  mss_nil)
  (mss_cons (ms_if (mt_cmp (op_eqM hu) opm_eq (me_var (pv 6)) me_int (by first | exact nomark _ | rfl))
  (mss_one (ms_ret (me_tup (ma_cons me_str (ma_cons (me_var (pv 5)) (ma_cons (me_var (pv 4)) ma_nil))))))
  mss_nil)
  (mss_cons (ms_if (mt_cmp (op_eqM hu) opm_eq (me_var (pv 6)) me_int (by first | exact nomark _ | rfl))
  (mss_one (ms_ret (me_tup (ma_cons me_str (ma_cons (me_var (pv 3)) (ma_cons (me_var (pv 4)) ma_nil))))))
  mss_nil)
  (mss_cons (ms_if (mt_cmp (op_eqM hu) opm_eq (me_var (pv 6)) me_int (by first | exact nomark _ | rfl))
  (mss_one (ms_ret (me_tup (ma_cons me_str (ma_cons (me_var (pv 4)) (ma_cons (me_var (pv 5)) (ma_cons (me_callF T__law_one_of F__law_one_of hr rfl (ma_cons (me_var (pv 0)) (ma_cons (me_fl (mf_lst (ma_cons (me_tup (ma_cons me_str (ma_cons me_int ma_nil))) (ma_cons (me_tup (ma_cons me_str (ma_cons (me_ix (me_var (pv 1)) me_int) ma_nil))) ma_nil)))) ma_nil)) rfl) ma_nil)))))))
  mss_nil)
  (mss_one (ms_ret (me_ix (me_fl (mf_lst (ma_cons (me_tup (ma_cons me_str ma_nil)) (ma_cons (me_tup (ma_cons me_str (ma_cons (me_tup (ma_cons me_str (ma_cons me_str ma_nil))) (ma_cons (me_tup (ma_cons me_str (ma_cons me_str ma_nil))) ma_nil)))) (ma_cons (me_tup (ma_cons me_str (ma_cons (me_var (pv 4)) (ma_cons (me_tup (ma_cons me_str (ma_cons me_int ma_nil))) (ma_cons (me_var (pv 5)) ma_nil))))) ma_nil))))) (me_callF T__law_draw F__law_draw hr rfl (ma_cons (me_var (pv 0)) (ma_cons me_int ma_nil)) rfl))))))))))))))
abbrev st__law_flat_source : Stmt := top 45
theorem sc__law_flat_source : FnScope ["state", "words", "body", "items", "places", "fields", "k"] ["state"] (defScope st__law_flat_source) := ⟨rfl, rfl, rfl, by decide +kernel, rfl, by decide +kernel, by decide +kernel⟩
/-- names: 0 state, 1 words, 2 body, 3 items, 4 places, 5 fields, 6 k -/
noncomputable def r__law_flat_source (d__law_words : List D → M Rv) (d__law_draw : List D → M Rv) (d__law_few : List D → M Rv) : MP.Env → M Fl :=
  (sSeq (sSet 1 (eCall (lenD 2 d__law_words) (aCons (eVar 0) (aCons (eC (.int 5)) aNil))))
  (sSeq (sSet 2 (aThen (g1 gTuple) (aCons (eFl (fComp (wThen wRng1 (aCons (eBin gAdd (eC (.int 2)) (eCall (lenD 2 d__law_draw) (aCons (eVar 0) (aCons (eC (.int 7)) aNil)))) aNil)) (asgN 6) tYesM (eCall (lenD 2 d__law_few) (aCons (eVar 0) (aCons (eVar 1) aNil))) [6])) aNil)))
  (sSeq (eIf (eB (eBin (gEq false) (eCall (lenD 2 d__law_draw) (aCons (eVar 0) (aCons (eC (.int 3)) aNil))) (eC (.int 0))))
  (sSet 2 (eBin gAdd (aThen gTup (aCons (aThen gTup (aCons (eC (.str "if")) (aCons (aThen gTup (aCons (eC (.str "compare")) (aCons (eC (.str "<")) (aCons (aThen gTup (aCons (eC (.str "name")) (aCons (eBin gIx (eVar 1) (eC (.int 0))) aNil))) (aCons (aThen gTup (aCons (eC (.str "number")) (aCons (eC (.int 3)) aNil))) aNil))))) (aCons (eSl (eVar 2) oNone (oSome (eC (.int 3)))) (aCons (eSl (eVar 2) (oSome (eC (.int 2))) oNone) aNil))))) aNil)) (eVar 2)))
  sNext)
  (sSeq (eIf (eB (eBin (gEq false) (eCall (lenD 2 d__law_draw) (aCons (eVar 0) (aCons (eC (.int 3)) aNil))) (eC (.int 0))))
  (sSet 2 (eBin gAdd (aThen gTup (aCons (aThen gTup (aCons (eC (.str "while")) (aCons (aThen gTup (aCons (eC (.str "compare")) (aCons (eC (.str "<")) (aCons (aThen gTup (aCons (eC (.str "name")) (aCons (eBin gIx (eVar 1) (eC (.int 0))) aNil))) (aCons (aThen gTup (aCons (eC (.str "number")) (aCons (eC (.int 3)) aNil))) aNil))))) (aCons (eVar 2) aNil)))) aNil)) (eSl (eVar 2) oNone (oSome (eC (.int 2))))))
  sNext)
  (sSeq (sSet 3 (aThen gTup (aCons (aThen gTup (aCons (eC (.str "int")) (aCons (eBin gIx (eVar 1) (eC (.int 0))) aNil))) (aCons (aThen gTup (aCons (eC (.str "array")) (aCons (eBin gIx (eVar 1) (eC (.int 3))) aNil))) (aCons (aThen gTup (aCons (eC (.str "record")) (aCons (eC (.str "p_p")) (aCons (eC (.str "pair")) aNil)))) aNil)))))
  (sSeq (sSet 4 (aThen gTup (aCons (aThen gTup (aCons (eC (.str "int")) (aCons (eBin gIx (eVar 1) (eC (.int 1))) aNil))) (aCons (aThen gTup (aCons (eC (.str "int")) (aCons (eBin gIx (eVar 1) (eC (.int 2))) aNil))) (aCons (aThen gTup (aCons (eC (.str "array")) (aCons (eBin gIx (eVar 1) (eC (.int 4))) aNil))) (aCons (aThen gTup (aCons (eC (.str "record")) (aCons (eC (.str "q_q")) (aCons (eC (.str "pair")) aNil)))) aNil))))))
  (sSeq (sSet 5 (aThen gTup (aCons (eC (.str "pair")) (aCons (aThen gTup (aCons (eBin gIx (eVar 1) (eC (.int 0))) (aCons (eBin gIx (eVar 1) (eC (.int 3))) (aCons (eBin gIx (eVar 1) (eC (.int 4))) aNil)))) aNil))))
  (sRet (aThen gTup (aCons (aThen gTup (aCons (eVar 5) aNil)) (aCons (aThen gTup (aCons (aThen gTup (aCons (eC (.str "main")) (aCons (eVar 3) (aCons (eC (.str "")) (aCons (eVar 4) (aCons (aThen gTup aNil) (aCons (aThen gTup aNil) (aCons (aThen gTup aNil) (aCons (aThen gTup aNil) (aCons (eVar 2) aNil)))))))))) aNil)) aNil)))))))))))
noncomputable def den__law_flat_source (d__law_words : List D → M Rv) (d__law_draw : List D → M Rv) (d__law_few : List D → M Rv) : List D → M Rv := fun ds => noX (runB 7 (r__law_flat_source d__law_words d__law_draw d__law_few) ds)
theorem mp__law_flat_source {k : Nat} {f : Addr} {fd : FuncData} (F : Fun K "_law_flat_source" "_law_flat_source" st__law_flat_source f fd) {f__law_words : Addr} {e__law_words : FuncData} {f__law_draw : Addr} {e__law_draw : FuncData} {f__law_few : Addr} {e__law_few : FuncData} {d__law_words : List D → M Rv} {d__law_draw : List D → M Rv} {d__law_few : List D → M Rv} (T__law_words : FnI K mg "_law_words" st__law_words f__law_words e__law_words ["state", "many"]) (F__law_words : FnOk P w K mg base CX0 k f__law_words e__law_words ["state", "many"] (sp K mg 2 d__law_words)) (T__law_draw : FnI K mg "_law_draw" st__law_draw f__law_draw e__law_draw ["state", "most"]) (F__law_draw : FnOk P w K mg base CX0 k f__law_draw e__law_draw ["state", "most"] (sp K mg 2 d__law_draw)) (T__law_few : FnI K mg "_law_few" st__law_few f__law_few e__law_few ["state", "words"]) (F__law_few : FnOk P w K mg base CX0 k f__law_few e__law_few ["state", "words"] (sp K mg 2 d__law_few)) (z_range : mg "range" = none) (z_tuple : mg "tuple" = none) : FnOk P w K mg base CX0 (k + 1) f fd ["state"] (sp K mg 1 (den__law_flat_source d__law_words d__law_draw d__law_few)) :=
  have sc := sc__law_flat_source
  fn_mp (N := ["state", "words", "body", "items", "places", "fields", "k"]) (r := r__law_flat_source d__law_words d__law_draw d__law_few) F sc__law_flat_source rfl fun cdv A outer s H E hr =>
  have hu := hr.units
  have hu1 := units1 hr
  (mss_cons (ms_set (i := 1) sc.nd rfl (by first | exact Or.inl rfl | exact Or.inr rfl) (me_callF T__law_words F__law_words hr rfl (ma_cons (me_var (pv 0)) (ma_cons me_int ma_nil)) rfl))
  (mss_cons (ms_set (i := 2) sc.nd rfl (by first | exact Or.inl rfl | exact Or.inr rfl) (me_callTy call_tuple_of callM_tuple rfl z_tuple (by decide +kernel) (ma_cons (me_fl (mf_comp rfl sc.nd (mi_range1 rfl z_range (ma_cons (me_bin op_addM opm_add me_int (me_callF T__law_draw F__law_draw hr rfl (ma_cons (me_var (pv 0)) (ma_cons me_int ma_nil)) rfl)) ma_nil)) (own := [("k", 6)]) (blkOk_by (N := ["state", "words", "body", "items", "places", "fields", "k"]) (sc := defScope st__law_flat_source) (by decide +kernel)) (by decide) (fun s H C cl fp => (mg_of (pg_name (i := 6) sc.nd rfl (by first | exact Or.inl rfl | exact Or.inr rfl)))) (fun s H C cl fp => mts_nil) (fun s H C cl fp => (me_callF T__law_few F__law_few hr rfl (ma_cons (me_var (pv 0)) (ma_cons (me_var (pv 1)) ma_nil)) rfl)))) ma_nil)))
  (mss_cons (ms_if (mt_cmp (op_eqM hu) opm_eq (me_callF T__law_draw F__law_draw hr rfl (ma_cons (me_var (pv 0)) (ma_cons me_int ma_nil)) rfl) me_int (by first | exact nomark _ | rfl))
  (mss_one (ms_set (i := 2) sc.nd rfl (by first | exact Or.inl rfl | exact Or.inr rfl) (me_bin op_addM opm_add (me_tup (ma_cons (me_tup (ma_cons me_str (ma_cons (me_tup (ma_cons me_str (ma_cons me_str (ma_cons (me_tup (ma_cons me_str (ma_cons (me_ix (me_var (pv 1)) me_int) ma_nil))) (ma_cons (me_tup (ma_cons me_str (ma_cons me_int ma_nil))) ma_nil))))) (ma_cons (me_slice (me_var (pv 2)) mo_none (mo_some me_int)) (ma_cons (me_slice (me_var (pv 2)) (mo_some me_int) mo_none) ma_nil))))) ma_nil)) (me_var (pv 2)))))
  mss_nil)
  (mss_cons (ms_if (mt_cmp (op_eqM hu) opm_eq (me_callF T__law_draw F__law_draw hr rfl (ma_cons (me_var (pv 0)) (ma_cons me_int ma_nil)) rfl) me_int (by first | exact nomark _ | rfl))
  (mss_one (ms_set (i := 2) sc.nd rfl (by first | exact Or.inl rfl | exact Or.inr rfl) (me_bin op_addM opm_add (me_tup (ma_cons (me_tup (ma_cons me_str (ma_cons (me_tup (ma_cons me_str (ma_cons me_str (ma_cons (me_tup (ma_cons me_str (ma_cons (me_ix (me_var (pv 1)) me_int) ma_nil))) (ma_cons (me_tup (ma_cons me_str (ma_cons me_int ma_nil))) ma_nil))))) (ma_cons (me_var (pv 2)) ma_nil)))) ma_nil)) (me_slice (me_var (pv 2)) mo_none (mo_some me_int)))))
  mss_nil)
  (mss_cons (ms_set (i := 3) sc.nd rfl (by first | exact Or.inl rfl | exact Or.inr rfl) (me_tup (ma_cons (me_tup (ma_cons me_str (ma_cons (me_ix (me_var (pv 1)) me_int) ma_nil))) (ma_cons (me_tup (ma_cons me_str (ma_cons (me_ix (me_var (pv 1)) me_int) ma_nil))) (ma_cons (me_tup (ma_cons me_str (ma_cons me_str (ma_cons me_str ma_nil)))) ma_nil)))))
  (mss_cons (ms_set (i := 4) sc.nd rfl (by first | exact Or.inl rfl | exact Or.inr rfl) (me_tup (ma_cons (me_tup (ma_cons me_str (ma_cons (me_ix (me_var (pv 1)) me_int) ma_nil))) (ma_cons (me_tup (ma_cons me_str (ma_cons (me_ix (me_var (pv 1)) me_int) ma_nil))) (ma_cons (me_tup (ma_cons me_str (ma_cons (me_ix (me_var (pv 1)) me_int) ma_nil))) (ma_cons (me_tup (ma_cons me_str (ma_cons me_str (ma_cons me_str ma_nil)))) ma_nil))))))
  (mss_cons (ms_set (i := 5) sc.nd rfl (by first | exact Or.inl rfl | exact Or.inr rfl) (me_tup (ma_cons me_str (ma_cons (me_tup (ma_cons (me_ix (me_var (pv 1)) me_int) (ma_cons (me_ix (me_var (pv 1)) me_int) (ma_cons (me_ix (me_var (pv 1)) me_int) ma_nil)))) ma_nil))))
  (mss_one (ms_ret (me_tup (ma_cons (me_tup (ma_cons (me_var (pv 5)) ma_nil)) (ma_cons (me_tup (ma_cons (me_tup (ma_cons me_str (ma_cons (me_var (pv 3)) (ma_cons me_str (ma_cons (me_var (pv 4)) (ma_cons (me_tup ma_nil) (ma_cons (me_tup ma_nil) (ma_cons (me_tup ma_nil) (ma_cons (me_tup ma_nil) (ma_cons (me_var (pv 2)) ma_nil)))))))))) ma_nil)) ma_nil))))))))))))
abbrev st_law : Stmt := top 46
theorem sc_law : FnScope ["script", "state", "source", "due", "path", "rest", "raised", "found"] ["script"] (defScope st_law) := ⟨rfl, rfl, rfl, by decide +kernel, rfl, by decide +kernel, by decide +kernel⟩
/-- names: 0 script, 1 state, 2 source, 3 due, 4 path, 5 rest, 6 raised, 7 found -/
noncomputable def r_law (d__law_start : List D → M Rv) (d__law_flat_source : List D → M Rv) (d__law_places_of : List D → M Rv) (d__law_same : List D → M Rv) (d_places_for : List D → M Rv) (d__law_paths_of : List D → M Rv) (d__law_body_of : List D → M Rv) (d_change : List D → M Rv) (d__law_changed_source : List D → M Rv) : MP.Env → M Fl :=
  (sSeq (sSet 1 (eNew (fCall (lenD 1 d__law_start) (aCons (eVar 0) aNil))))
  (sSeq (sSet 2 (eCall (lenD 1 d__law_flat_source) (aCons (eVar 1) aNil)))
  (sSeq (sSet 3 (eCall (lenD 3 d__law_places_of) (aCons (eVar 2) (aCons (eC (.str "main")) (aCons (eC (.str "swap")) aNil)))))
  (sSeq (eIf (bNot (eB (eCall (lenD 2 d__law_same) (aCons (eCall (lenD 3 d_places_for) (aCons (eVar 2) (aCons (eC (.str "main")) (aCons (eC (.str "swap")) aNil)))) (aCons (eVar 3) aNil)))))
  (sRet (eC (.bl false)))
  sNext)
  (sSeq (sFor (eWalk (eCall (lenD 2 d__law_paths_of) (aCons (eCall (lenD 2 d__law_body_of) (aCons (eVar 2) (aCons (eC (.str "main")) aNil))) (aCons (aThen gTup aNil) aNil)))) (asgT 2 (asgCons (asgN 4) (asgCons (asgN 5) asgNil)))
  (sSeq (sSet 6 (eC (.bl false)))
  (sSeq (sSet 7 (aThen gTup aNil))
  (sSeq (sTry [7] (fun h => (sSet 7 (eCallT [7] h (lenD 4 d_change) (aCons (eVar 2) (aCons (eC (.str "main")) (aCons (eC (.str "swap")) (aCons (eVar 4) aNil))))))) [(xt_BadPlace, fun _ => (sSet 6 (eC (.bl true))))])
  (sSeq (eIf (eB (eBin (gEq true) (eVar 6) (eBin (gIn true) (eVar 4) (eVar 3))))
  (sRet (eC (.bl false)))
  sNext)
  (eIf (bAnd (bNot (eB (eVar 6))) (bNot (eB (eCall (lenD 2 d__law_same) (aCons (eVar 7) (aCons (eCall (lenD 4 d__law_changed_source) (aCons (eVar 2) (aCons (eC (.str "main")) (aCons (eC (.str "swap")) (aCons (eVar 4) aNil))))) aNil))))))
  (sRet (eC (.bl false)))
  sNext))))) [4, 5, 6, 7])
  (sRet (eC (.bl true))))))))
noncomputable def den_law (d__law_start : List D → M Rv) (d__law_flat_source : List D → M Rv) (d__law_places_of : List D → M Rv) (d__law_same : List D → M Rv) (d_places_for : List D → M Rv) (d__law_paths_of : List D → M Rv) (d__law_body_of : List D → M Rv) (d_change : List D → M Rv) (d__law_changed_source : List D → M Rv) : List D → M Rv := fun ds => noX (runB 8 (r_law d__law_start d__law_flat_source d__law_places_of d__law_same d_places_for d__law_paths_of d__law_body_of d_change d__law_changed_source) ds)
theorem mp_law {k : Nat} {f : Addr} {fd : FuncData} (F : Fun K "law" "law" st_law f fd) {f__law_start : Addr} {e__law_start : FuncData} {f__law_flat_source : Addr} {e__law_flat_source : FuncData} {f__law_places_of : Addr} {e__law_places_of : FuncData} {f__law_same : Addr} {e__law_same : FuncData} {f_places_for : Addr} {e_places_for : FuncData} {f__law_paths_of : Addr} {e__law_paths_of : FuncData} {f__law_body_of : Addr} {e__law_body_of : FuncData} {f_change : Addr} {e_change : FuncData} {f__law_changed_source : Addr} {e__law_changed_source : FuncData} {d__law_start : List D → M Rv} {d__law_flat_source : List D → M Rv} {d__law_places_of : List D → M Rv} {d__law_same : List D → M Rv} {d_places_for : List D → M Rv} {d__law_paths_of : List D → M Rv} {d__law_body_of : List D → M Rv} {d_change : List D → M Rv} {d__law_changed_source : List D → M Rv} (T__law_start : FnI K mg "_law_start" st__law_start f__law_start e__law_start ["script"]) (F__law_start : FnOk P w K mg base CX0 k f__law_start e__law_start ["script"] (sp K mg 1 d__law_start)) (T__law_flat_source : FnI K mg "_law_flat_source" st__law_flat_source f__law_flat_source e__law_flat_source ["state"]) (F__law_flat_source : FnOk P w K mg base CX0 k f__law_flat_source e__law_flat_source ["state"] (sp K mg 1 d__law_flat_source)) (T__law_places_of : FnI K mg "_law_places_of" st__law_places_of f__law_places_of e__law_places_of ["source", "name", "kind"]) (F__law_places_of : FnOk P w K mg base CX0 k f__law_places_of e__law_places_of ["source", "name", "kind"] (sp K mg 3 d__law_places_of)) (T__law_same : FnI K mg "_law_same" st__law_same f__law_same e__law_same ["x", "y"]) (F__law_same : FnOk P w K mg base CX0 k f__law_same e__law_same ["x", "y"] (sp K mg 2 d__law_same)) (T_places_for : FnI K mg "places_for" st_places_for f_places_for e_places_for ["source", "name", "kind"]) (F_places_for : FnOk P w K mg base CX0 k f_places_for e_places_for ["source", "name", "kind"] (sp K mg 3 d_places_for)) (T__law_paths_of : FnI K mg "_law_paths_of" st__law_paths_of f__law_paths_of e__law_paths_of ["body", "ahead"]) (F__law_paths_of : FnOk P w K mg base CX0 k f__law_paths_of e__law_paths_of ["body", "ahead"] (sp K mg 2 d__law_paths_of)) (T__law_body_of : FnI K mg "_law_body_of" st__law_body_of f__law_body_of e__law_body_of ["source", "name"]) (F__law_body_of : FnOk P w K mg base CX0 k f__law_body_of e__law_body_of ["source", "name"] (sp K mg 2 d__law_body_of)) (T_change : FnI K mg "change" st_change f_change e_change ["source", "name", "kind", "path"]) (F_change : FnOk P w K mg base (L2.CX P w) k f_change e_change ["source", "name", "kind", "path"] (sp K mg 4 d_change)) (T__law_changed_source : FnI K mg "_law_changed_source" st__law_changed_source f__law_changed_source e__law_changed_source ["source", "name", "kind", "path"]) (F__law_changed_source : FnOk P w K mg base CX0 k f__law_changed_source e__law_changed_source ["source", "name", "kind", "path"] (sp K mg 4 d__law_changed_source)) {c_BadPlace : Addr} (g_BadPlace : mg "BadPlace" = some (.ref c_BadPlace)) (tb_BadPlace : ExcTab mg K (.ref c_BadPlace) xt_BadPlace) : FnOk P w K mg base CX0 (k + 1) f fd ["script"] (sp K mg 1 (den_law d__law_start d__law_flat_source d__law_places_of d__law_same d_places_for d__law_paths_of d__law_body_of d_change d__law_changed_source)) :=
  have sc := sc_law
  fn_mp (N := ["script", "state", "source", "due", "path", "rest", "raised", "found"]) (r := r_law d__law_start d__law_flat_source d__law_places_of d__law_same d_places_for d__law_paths_of d__law_body_of d_change d__law_changed_source) F sc_law rfl fun cdv A outer s H E hr =>
  have hu := hr.units
  have hu1 := units1 hr
  (mss_cons (ms_set (i := 1) sc.nd rfl (by first | exact Or.inl rfl | exact Or.inr rfl) (me_new (mf_callF T__law_start F__law_start hr rfl (ma_cons (me_var (pv 0)) ma_nil) rfl)))
  (mss_cons (ms_set (i := 2) sc.nd rfl (by first | exact Or.inl rfl | exact Or.inr rfl) (me_callF T__law_flat_source F__law_flat_source hr rfl (ma_cons (me_var (pv 1)) ma_nil) rfl))
  (mss_cons (ms_set (i := 3) sc.nd rfl (by first | exact Or.inl rfl | exact Or.inr rfl) (me_callF T__law_places_of F__law_places_of hr rfl (ma_cons (me_var (pv 2)) (ma_cons me_str (ma_cons me_str ma_nil))) rfl))
  (mss_cons (ms_if (mt_not (mt_val (me_callF T__law_same F__law_same hr rfl (ma_cons (me_callF T_places_for F_places_for hr rfl (ma_cons (me_var (pv 2)) (ma_cons me_str (ma_cons me_str ma_nil))) rfl) (ma_cons (me_var (pv 3)) ma_nil)) rfl)))
  (mss_one (ms_ret me_bl))
  mss_nil)
  (mss_cons (ms_for (fg := [4, 5, 6, 7]) PassesOwn.never rfl (mi_seq (me_callF T__law_paths_of F__law_paths_of hr rfl (ma_cons (me_callF T__law_body_of F__law_body_of hr rfl (ma_cons (me_var (pv 2)) (ma_cons me_str ma_nil)) rfl) (ma_cons (me_tup ma_nil) ma_nil)) rfl)) (mg_tup rfl (mgs_cons (mg_of (pg_name (i := 4) sc.nd rfl (by first | exact Or.inl rfl | exact Or.inr rfl))) (mgs_cons (mg_of (pg_name (i := 5) sc.nd rfl (by first | exact Or.inl rfl | exact Or.inr rfl))) mgs_nil)))
  (mss_cons (ms_set (i := 6) sc.nd rfl (by first | exact Or.inl rfl | exact Or.inr rfl) me_bl)
  (mss_cons (ms_set (i := 7) sc.nd rfl (by first | exact Or.inl rfl | exact Or.inr rfl) (me_tup ma_nil))
  (mss_cons (ms_try (fg := [7]) rfl rfl sc.nd takes0 serves0 (fun h Ws pn xe tk pa => (mss_one (ms_set (i := 7) sc.nd rfl (by first | exact Or.inl rfl | exact Or.inr rfl) (me_callT T_change F_change hr tk rfl (ma_cons (me_var (pv 2)) (ma_cons me_str (ma_cons me_str (ma_cons (me_var (pv 4)) ma_nil)))) rfl)))) (MCl.plain ⟨rfl, by decide, .inl g_BadPlace⟩ tb_BadPlace (fun a oe pn => (mss_one (ms_set (i := 6) sc.nd rfl (by first | exact Or.inl rfl | exact Or.inr rfl) me_bl))) MCl.nil))
  (mss_cons (ms_if (mt_cmp (op_neM hu) opm_eq (me_var (pv 6)) (me_cmp (op_notInM hu) opm_in (me_var (pv 4)) (me_var (pv 3)) (by first | exact nomark _ | rfl)) (by first | exact nomark _ | rfl))
  (mss_one (ms_ret me_bl))
  mss_nil)
  (mss_one (ms_if (MW.mt (mw_and (mt_not (mt_val (me_var (pv 6)))) (mw_and1 (mt_not (mt_val (me_callF T__law_same F__law_same hr rfl (ma_cons (me_var (pv 7)) (ma_cons (me_callF T__law_changed_source F__law_changed_source hr rfl (ma_cons (me_var (pv 2)) (ma_cons me_str (ma_cons me_str (ma_cons (me_var (pv 4)) ma_nil)))) rfl) ma_nil)) rfl))))))
  (mss_one (ms_ret me_bl))
  mss_nil)))))))
  (mss_one (ms_ret me_bl)))))))
end
end KP
namespace MP
open PySem L2 PyProof.Rows
theorem get_last' {mu1 : List MO} {x : MO} {k : Nat} (h : k = mu1.length) : (mu1 ++ [x])[k]? = some x := get_last h
theorem two_strs {a b z : Str} {mu : List MO} : gIn false (.str z) (.tup [.str a, .str b]) mu = .ok (.bl ((z == a) || (z == b))) mu := by
  unfold gIn
  simp [okE, okEs, dep, deps, eqD]
  rw [BEq.comm (a := a), BEq.comm (a := b)]
end MP
namespace KP
open PySem L2 PyProof.Rows MP
/-! ### the drawn data -/
/-- sums -/
inductive Sm where
  | nm (x : Str) | ln (x : Str) | fld (p f : Str) | num (i : Int) | item (a : Str) (s : Sm) | qr (b : Bool) (s : Sm) (i : Int) | scale (i : Int) (s : Sm) | neg (s : Sm) | pm (b : Bool) (s t : Sm)
def smD : Sm → D
  | .nm x => .tup [.str "name", .str x]
  | .ln x => .tup [.str "length", .str x]
  | .fld p f => .tup [.str "field", .str p, .str f]
  | .num i => .tup [.str "number", .int i]
  | .item a s => .tup [.str "item", .str a, smD s]
  | .qr b s i => .tup [.str (if b = true then "remainder" else "quotient"), smD s, .int i]
  | .scale i s => .tup [.str "scale", .int i, smD s]
  | .neg s => .tup [.str "negate", smD s]
  | .pm b s t => .tup [.str (if b = true then "minus" else "plus"), smD s, smD t]
def smU : Sm → List Str
  | .nm x => [x]
  | .ln x => [x]
  | .fld p f => [p]
  | .num i => []
  | .item a s => a :: smU s
  | .qr b s i => smU s
  | .scale i s => smU s
  | .neg s => smU s
  | .pm b s t => smU s ++ smU t
def smH : Sm → Nat
  | .item a s => smH s + 1
  | .qr b s i => smH s + 1
  | .scale i s => smH s + 1
  | .neg s => smH s + 1
  | .pm b s t => max (smH s) (smH t) + 1
  | _ => 0
theorem smD_flat : ∀ s : Sm, flat (smD s) = true
  | .nm x => rfl
  | .ln x => rfl
  | .fld p f => rfl
  | .num i => rfl
  | .item a s => by simp [smD, flat, flats, smD_flat s]
  | .qr b s i => by simp [smD, flat, flats, smD_flat s]
  | .scale i s => by simp [smD, flat, flats, smD_flat s]
  | .neg s => by simp [smD, flat, flats, smD_flat s]
  | .pm b s t => by simp [smD, flat, flats, smD_flat s, smD_flat t]
theorem smU_len : ∀ s : Sm, (smU s).length ≤ 2 ^ smH s
  | .nm x => by simp [smU, smH]
  | .ln x => by simp [smU, smH]
  | .fld p f => by simp [smU, smH]
  | .num i => by simp [smU, smH]
  | .item a s => by have := smU_len s; have := Nat.one_le_two_pow (n := smH s); simp only [smU, smH, List.length_cons]; rw [Nat.pow_succ]; omega
  | .qr b s i => by have := smU_len s; simp only [smU, smH]; rw [Nat.pow_succ]; omega
  | .scale i s => by have := smU_len s; simp only [smU, smH]; rw [Nat.pow_succ]; omega
  | .neg s => by have := smU_len s; simp only [smU, smH]; rw [Nat.pow_succ]; omega
  | .pm b s t => by
    have h1 := smU_len s
    have h2 := smU_len t
    simp only [smU, smH, List.length_append]
    have h3 : 2 ^ smH s ≤ 2 ^ max (smH s) (smH t) := Nat.pow_le_pow_right (by omega) (by omega)
    have h4 : 2 ^ smH t ≤ 2 ^ max (smH s) (smH t) := Nat.pow_le_pow_right (by omega) (by omega)
    rw [Nat.pow_succ]; omega
/-! ### names_used -/
noncomputable def usedL : Nat → List D → M Rv
  | 0 => fun _ _ => .bad
  | n + 1 => fgt (den_names_used (usedL n))
noncomputable def usBody (ds : List D → M Rv) : MP.Env → M Fl := (eIf (eB (eMap (gIsi "tuple") (eVar 2)))
  (sExpr (eMeth lstK gExtend (eVar 1) (aCons (eCall (lenD 1 ds) (aCons (eVar 2) aNil)) aNil)))
  (eIf (eB (eMap (gIsi "str") (eVar 2)))
  (sExpr (eMeth lstK gAppend (eVar 1) (aCons (eVar 2) aNil)))
  sNext))
theorem us_er (ds : List D → M Rv) : r_names_used ds = (sSeq (eIf (bOr (bNot (eB (eMap (gIsi "tuple") (eVar 0)))) (bNot (bTru (eVar 0))))
  (sRetF (aList aNil))
  sNext)
  (sSeq (eIf (eB (eBin (gEq false) (eBin gIx (eVar 0) (eC (.int 0))) (eC (.str "number"))))
  (sRetF (aList aNil))
  sNext)
  (sSeq (eIf (eB (eBin (gIn false) (eBin gIx (eVar 0) (eC (.int 0))) (aThen gTup (aCons (eC (.str "field")) (aCons (eC (.str "startfield")) aNil)))))
  (sRetF (aList (aCons (eBin gIx (eVar 0) (eC (.int 1))) aNil)))
  sNext)
  (sSeq (sSet 1 (eNew (aList aNil)))
  (sSeq (sFor (eWalk (eSl (eVar 0) (oSome (eC (.int 1))) oNone)) (asgN 2) (usBody ds) [2])
  (sRet (eVar 1))))))) := rfl
/-- what one part gives -/
def UG (ds : List D → M Rv) (d : D) (xs : List Str) : Prop := ∀ (c : D) (n : Nat) (mu1 : List MO) (acc : List Str), n = mu1.length → CloH mu1 → acc.length + xs.length < 100000 →
  usBody ds [some c, some (.ref n), some d] (mu1 ++ [.lst (acc.map D.str)]) = .ok (.nx [some c, some (.ref n), some d]) (mu1 ++ [.lst ((acc ++ xs).map D.str)])
theorem ug_int {ds : List D → M Rv} {i : Int} : UG ds (.int i) [] := fun c n mu1 acc hn hc hl => by
  rw [List.append_nil]
  generalize acc.map D.str = A
  simp [usBody, isiB]
theorem ug_str {ds : List D → M Rv} {x : Str} : UG ds (.str x) [x] := fun c n mu1 acc hn hc hl => by
  have hg := get_last (x := .lst (acc.map D.str)) hn
  have ha := append_ok (d := .str x) hg (by rw [List.length_map, sizeLine_eq]; omega)
  rw [set_last hn] at ha
  rw [List.map_append]
  have e : acc.map D.str ++ List.map D.str [x] = acc.map D.str ++ [D.str x] := rfl
  rw [e]
  generalize acc.map D.str = A at *
  simp [usBody, isiB, lstK_ref hg, ha]
theorem ug_tup {ds : List D → M Rv} {r : List D} {xs : List Str} (h : ∀ mu, CloH mu → ds [.tup r] mu = .ok (.fr (xs.map D.str)) mu) : UG ds (.tup r) xs := fun c n mu1 acc hn hc hl => by
  have hg := get_last (x := .lst (acc.map D.str)) hn
  have hcl := h _ (hc.snoc_flat (strs_flat acc))
  have he := extend_ok (d := .fl (xs.map D.str)) (ys := xs.map D.str) hg rfl (by rw [List.length_map, List.length_map, sizeLine_eq]; omega)
  rw [set_last hn] at he
  rw [List.map_append]
  generalize acc.map D.str = A at *
  generalize xs.map D.str = XS at *
  simp [usBody, isiB, lstK_ref hg, hcl, he]
theorem us_loop {ds : List D → M Rv} {c : D} {n : Nat} {mu1 : List MO} (hn : n = mu1.length) (hc : CloH mu1) : ∀ (ps : List (D × List Str)) (acc : List Str) (o2 : Option D), (∀ p ∈ ps, UG ds p.1 p.2) → acc.length + (ps.flatMap fun p => p.2).length < 100000 →
    loopF (asgN 2) (usBody ds) [2] [] (ps.map fun p => p.1) [some c, some (.ref n), o2] (mu1 ++ [.lst (acc.map D.str)]) = .ok (.nx [some c, some (.ref n), none]) (mu1 ++ [.lst ((acc ++ ps.flatMap fun p => p.2).map D.str)])
  | [], acc, o2, _, _ => by
    show loopF _ _ _ [] [] _ _ = _
    rw [loopF_nil]; simp
  | p :: ps, acc, o2, h, hl => by
    rw [List.flatMap_cons, List.length_append] at hl
    have e := h p (by simp) c n mu1 acc hn hc (by omega)
    have ih := us_loop (c := c) hn hc ps (acc ++ p.2) (some p.1) (fun q hq => h q (by simp [hq])) (by rw [List.length_append]; omega)
    rw [List.map_cons]
    refine (loopF_step rfl e).trans (ih.trans ?_)
    rw [List.flatMap_cons, List.append_assoc]
theorem used_gen {m : Nat} {k : Str} {ps : List (D × List Str)} {mu : List MO} (hk : (k == Str.ofString "number") = false ∧ (k == Str.ofString "field") = false ∧ (k == Str.ofString "startfield") = false) (h : ∀ p ∈ ps, UG (usedL m) p.1 p.2) (hl : (ps.flatMap fun p => p.2).length < 100000) (hc : CloH mu) :
    usedL (m + 1) [.tup (.str k :: ps.map fun p => p.1)] mu = .ok (.fr ((ps.flatMap fun p => p.2).map D.str)) mu := by
  have s2 : (2 : Nat) ≤ sizeLine := by decide
  have h1 := us_loop (ds := usedL m) (c := .tup (.str k :: ps.map fun p => p.1)) (n := mu.length) rfl hc ps [] none h (by simpa using hl)
  rw [List.nil_append] at h1
  have h1 := (show _ = _ from h1)
  rw [show (List.map D.str []) = [] from rfl] at h1
  have e : den_names_used (usedL m) [.tup (.str k :: ps.map fun p => p.1)] mu = .ok (.vl (.ref mu.length)) (mu ++ [.lst ((ps.flatMap fun p => p.2).map D.str)]) := by
    refine noX_ok ?_
    rw [us_er]
    have sl : ∀ m, gSl (.tup (.str k :: ps.map fun p => p.1)) (some 1) none m = .ok (.tup (ps.map fun p => p.1)) m := fun m => by
      rw [gSl_tup, show (1 : Int) = ((1 : Nat) : Int) from rfl, cutD_drop]; rfl
    generalize (ps.flatMap fun p => p.2).map D.str = Y at h1 ⊢
    generalize ps.map (fun p => p.1) = X at h1 sl ⊢
    simp [startE, isiB, gEq_strs, two_strs, gTup_ok, s2, hk.1, hk.2.1, hk.2.2, sl, h1]
  exact fgt_list e rfl hc (Nat.le_refl _) (get_last rfl) (flats_clo _ (strs_flat _))
theorem used_lit {m : Nat} {k : Str} {ds : List D} {mu : List MO} (r : Rv) (h : den_names_used (usedL m) [.tup ds] mu = .ok r mu) (hc : CloH mu) (xs : List Str) (hr : r = .fr (xs.map D.str)) : usedL (m + 1) [.tup ds] mu = .ok (.fr (xs.map D.str)) mu := by
  subst hr
  refine fgt_lst (ex := []) (by rw [List.append_nil]; exact h) rfl hc (flats_clo _ (strs_flat _))
theorem sm_tup (s : Sm) : ∃ r, smD s = .tup r := by cases s <;> exact ⟨_, rfl⟩
theorem used_ok : ∀ (n : Nat) (s : Sm) (mu : List MO), smH s < n → smH s < 16 → CloH mu → usedL n [smD s] mu = .ok (.fr ((smU s).map D.str)) mu
  | 0, _, _, h, _, _ => by omega
  | n + 1, s, mu, h, h16, hc => by
    have s2 : (2 : Nat) ≤ sizeLine := by decide
    have s1 : (1 : Nat) ≤ sizeLine := by decide
    have big : ∀ t : Sm, smH t < 16 → (smU t).length < 40000 := fun t ht => by
      have a := smU_len t
      have b : 2 ^ smH t ≤ 2 ^ 15 := Nat.pow_le_pow_right (by omega) (by omega)
      have c : (2 : Nat) ^ 15 = 32768 := by decide
      omega
    have gt : ∀ t : Sm, smH t < n → smH t < 16 → UG (usedL n) (smD t) (smU t) := fun t ht h16 => by
      obtain ⟨r, e⟩ := sm_tup t
      rw [e]
      exact ug_tup fun mu hc => by rw [← e]; exact used_ok n t mu ht h16 hc
    cases s with
    | nm x => exact used_gen (k := "name") (ps := [(.str x, [x])]) ⟨by decide +kernel, by decide +kernel, by decide +kernel⟩ (fun p hp => by rw [List.mem_singleton.mp hp]; exact ug_str) (by simp) hc
    | ln x => exact used_gen (k := "length") (ps := [(.str x, [x])]) ⟨by decide +kernel, by decide +kernel, by decide +kernel⟩ (fun p hp => by rw [List.mem_singleton.mp hp]; exact ug_str) (by simp) hc
    | fld p f =>
      refine used_lit (.fr ([p].map D.str)) (k := p) (noX_ok ?_) hc [p] rfl
      rw [us_er]
      have k1 : ((Str.ofString "field") == (Str.ofString "number")) = false := by decide +kernel
      simp [startE, isiB, gEq_strs, two_strs, gTup_ok, s2, s1, k1]
    | num i =>
      refine used_lit (.fr (([] : List Str).map D.str)) (k := "") (noX_ok ?_) hc [] rfl
      rw [us_er]
      simp [startE, isiB, gEq_strs, two_strs, gTup_ok, s2, s1]
    | item a t =>
      simp only [smH] at h h16
      have := big t (by omega)
      refine used_gen (k := "item") (ps := [(.str a, [a]), (smD t, smU t)]) ⟨by decide +kernel, by decide +kernel, by decide +kernel⟩ (fun p hp => ?_) (by simp; omega) hc |>.trans (by simp [smU])
      simp only [List.mem_cons, List.not_mem_nil, or_false] at hp
      rcases hp with rfl | rfl
      · exact ug_str
      · exact gt t (by omega) (by omega)
    | qr b t i =>
      simp only [smH] at h h16
      have := big t (by omega)
      refine used_gen (k := if b = true then "remainder" else "quotient") (ps := [(smD t, smU t), (.int i, [])]) (by cases b <;> exact ⟨by decide +kernel, by decide +kernel, by decide +kernel⟩) (fun p hp => ?_) (by simp; omega) hc |>.trans (by simp [smU])
      simp only [List.mem_cons, List.not_mem_nil, or_false] at hp
      rcases hp with rfl | rfl
      · exact gt t (by omega) (by omega)
      · exact ug_int
    | scale i t =>
      simp only [smH] at h h16
      have := big t (by omega)
      refine used_gen (k := "scale") (ps := [(.int i, []), (smD t, smU t)]) ⟨by decide +kernel, by decide +kernel, by decide +kernel⟩ (fun p hp => ?_) (by simp; omega) hc |>.trans (by simp [smU])
      simp only [List.mem_cons, List.not_mem_nil, or_false] at hp
      rcases hp with rfl | rfl
      · exact ug_int
      · exact gt t (by omega) (by omega)
    | neg t =>
      simp only [smH] at h h16
      have := big t (by omega)
      refine used_gen (k := "negate") (ps := [(smD t, smU t)]) ⟨by decide +kernel, by decide +kernel, by decide +kernel⟩ (fun p hp => ?_) (by simp; omega) hc |>.trans (by simp [smU])
      rw [List.mem_singleton.mp hp]
      exact gt t (by omega) (by omega)
    | pm b t u =>
      simp only [smH] at h h16
      have h1 := big t (by omega)
      have h2 := big u (by omega)
      refine used_gen (k := if b = true then "minus" else "plus") (ps := [(smD t, smU t), (smD u, smU u)]) (by cases b <;> exact ⟨by decide +kernel, by decide +kernel, by decide +kernel⟩) (fun p hp => ?_) (by simp; omega) hc |>.trans (by simp [smU])
      simp only [List.mem_cons, List.not_mem_nil, or_false] at hp
      rcases hp with rfl | rfl
      · exact gt t (by omega) (by omega)
      · exact gt u (by omega) (by omega)
end KP
namespace KP
open PySem L2 PyProof.Rows MP
/-! ### conditions and statements -/
inductive Tg where
  | nm (x : Str) | fd (p f : Str)
def tgS : Tg → Sm
  | .nm x => .nm x
  | .fd p f => .fld p f
def tgN : Tg → Str
  | .nm x => x
  | .fd p f => p
def tgD (t : Tg) : D := smD (tgS t)
theorem tgD_flat (t : Tg) : flat (tgD t) = true := smD_flat _
theorem tg_used (t : Tg) : smU (tgS t) = [tgN t] := by cases t <;> rfl
theorem tg_h (t : Tg) : smH (tgS t) = 0 := by cases t <;> rfl
theorem tg_1 (t : Tg) (mu : List MO) : gIx (tgD t) (.int 1) mu = .ok (.str (tgN t)) mu := by cases t <;> simp [tgD, tgS, smD, tgN]
inductive Cn where
  | cmp (sg : Str) (s t : Sm) | not (c : Cn) | bin (b : Bool) (c d : Cn)
def cnD : Cn → D
  | .cmp sg s t => .tup [.str "compare", .str sg, smD s, smD t]
  | .not c => .tup [.str "not", cnD c]
  | .bin b c d => .tup [.str (if b = true then "or" else "and"), cnD c, cnD d]
theorem cnD_flat : ∀ c : Cn, flat (cnD c) = true
  | .cmp sg s t => by simp [cnD, flat, flats, smD_flat]
  | .not c => by simp [cnD, flat, flats, cnD_flat c]
  | .bin b c d => by simp [cnD, flat, flats, cnD_flat c, cnD_flat d]
inductive Br where
  | set (x : Tg) (e : Sm) | store (a : Str) (s t : Sm) | push (s : Sm) (a : Str) | pop (x : Tg) (a : Str) | call (o : Option Tg) (x : Tg) (a : Str) | pause | give (s : Sm)
  | ite (c : Cn) (b b' : List Br) | whl (c : Cn) (b : List Br)
def brK : Br → Str
  | .set _ _ => "set"
  | .store _ _ _ => "store"
  | .push _ _ => "push"
  | .pop _ _ => "pop"
  | .call _ _ _ => "call"
  | .pause => "pause"
  | .give _ => "give"
  | .ite _ _ _ => "if"
  | .whl _ _ => "while"
def optT : Option Tg → D
  | none => .tup []
  | some x => tgD x
mutual
def brD : Br → D
  | .set x e => .tup [.str "set", tgD x, smD e]
  | .store a s t => .tup [.str "store", .str a, smD s, smD t]
  | .push s a => .tup [.str "push", smD s, .str a]
  | .pop x a => .tup [.str "pop", tgD x, .str a]
  | .call o x a => .tup [.str "call", optT o, .str "main", .tup [tgD x, .tup [.str "name", .str a], .tup [.str "name", .str "p_p"]]]
  | .pause => .tup [.str "pause"]
  | .give s => .tup [.str "give", smD s]
  | .ite c b b' => .tup [.str "if", cnD c, .tup (brsD b), .tup (brsD b')]
  | .whl c b => .tup [.str "while", cnD c, .tup (brsD b)]
def brsD : List Br → List D
  | [] => []
  | s :: r => brD s :: brsD r
end
theorem brsD_map : ∀ b : List Br, brsD b = b.map brD
  | [] => rfl
  | s :: r => by rw [brsD, brsD_map r]; rfl
mutual
def hB : Br → Nat
  | .ite _ b b' => max (hBs b) (hBs b') + 1
  | .whl _ b => hBs b + 1
  | _ => 0
def hBs : List Br → Nat
  | [] => 0
  | s :: r => max (hB s) (hBs r)
end
def signs : List Str := ["<", "<=", ">", ">=", "==", "!="]
def wfC : Cn → Prop
  | .cmp sg s t => sg ∈ signs ∧ smH s ≤ 3 ∧ smH t ≤ 3
  | .not c => wfC c
  | .bin _ c d => wfC c ∧ wfC d
mutual
def wfB : Br → Prop
  | .set x e => smH e ≤ 3
  | .store a s t => smH s ≤ 3 ∧ smH t ≤ 3
  | .push s a => smH s ≤ 3
  | .give s => smH s ≤ 3
  | .ite c b b' => wfC c ∧ wfBs b ∧ wfBs b'
  | .whl c b => wfC c ∧ wfBs b
  | _ => True
def wfBs : List Br → Prop
  | [] => True
  | s :: r => wfB s ∧ wfBs r
end
def cnH : Cn → Nat
  | .cmp _ _ _ => 0
  | .not c => cnH c + 1
  | .bin _ c d => max (cnH c) (cnH d) + 1
mutual
/-- small enough: conditions at most C deep, blocks of at most L statements -/
def plB (C L : Nat) : Br → Prop
  | .ite c b b' => cnH c ≤ C ∧ b.length ≤ L ∧ b'.length ≤ L ∧ plBs C L b ∧ plBs C L b'
  | .whl c b => cnH c ≤ C ∧ b.length ≤ L ∧ plBs C L b
  | _ => True
def plBs (C L : Nat) : List Br → Prop
  | [] => True
  | s :: r => plB C L s ∧ plBs C L r
end
theorem wfBs_mem : ∀ {b : List Br}, wfBs b → ∀ s ∈ b, wfB s
  | s :: r, h, x, hx => by
    rw [wfBs] at h
    rcases List.mem_cons.mp hx with e | e
    · rw [e]; exact h.1
    · exact wfBs_mem h.2 x e
theorem hBs_mem : ∀ {b : List Br}, ∀ s ∈ b, hB s ≤ hBs b
  | s :: r, x, hx => by
    rw [hBs]
    rcases List.mem_cons.mp hx with e | e
    · rw [e]; omega
    · have := hBs_mem x e; omega
mutual
theorem brD_flat : ∀ s : Br, flat (brD s) = true
  | .set x e => by simp [brD, flat, flats, tgD_flat, smD_flat]
  | .store a s t => by simp [brD, flat, flats, smD_flat]
  | .push s a => by simp [brD, flat, flats, smD_flat]
  | .pop x a => by simp [brD, flat, flats, tgD_flat]
  | .call o x a => by cases o <;> simp [brD, optT, flat, flats, tgD_flat]
  | .pause => rfl
  | .give s => by simp [brD, flat, flats, smD_flat]
  | .ite c b b' => by simp [brD, flat, flats, cnD_flat, brsD_flat b, brsD_flat b']
  | .whl c b => by simp [brD, flat, flats, cnD_flat, brsD_flat b]
theorem brsD_flat : ∀ b : List Br, flats (brsD b) = true
  | [] => rfl
  | s :: r => by rw [brsD, flats, brD_flat s, brsD_flat r]; rfl
end
theorem br_tup (s : Br) : ∃ r, brD s = .tup (.str (brK s) :: r) := by cases s <;> (simp only [brD]; exact ⟨_, rfl⟩)
theorem br_0 (s : Br) (mu : List MO) : gIx (brD s) (.int 0) mu = .ok (.str (brK s)) mu := by
  obtain ⟨r, e⟩ := br_tup s
  rw [e]; simp
/-! ### the law's used names -/
noncomputable def lusedL : Nat → List D → M Rv
  | 0 => fun _ _ => .bad
  | n + 1 => den__law_used_names (lusedL n)
theorem lused_eq {n : Nat} {ds : List D} : lusedL (n + 1) ds = noX (runB 1 (r__law_used_names (lusedL n)) ds) := rfl
theorem in_strs {z : Str} {ns : List Str} {mu : List MO} : gIn false (.str z) (.fl (ns.map D.str)) mu = .ok (.bl (ns.contains z)) mu := by
  rw [gIn_names (ns := ns) rfl (fun y e => by cases e)]
  cases ns.contains z <;> rfl
theorem notin_strs {z : Str} {ns : List Str} {mu : List MO} : gIn true (.str z) (.fl (ns.map D.str)) mu = .ok (.bl (!ns.contains z)) mu := by
  rw [gIn_names (ns := ns) rfl (fun y e => by cases e)]
  cases ns.contains z <;> rfl
theorem lused_ok : ∀ (n : Nat) (s : Sm) (mu : List MO), smH s < n → smH s < 16 → ∃ rv, lusedL n [smD s] mu = .ok rv mu ∧ rvD rv = .fl ((smU s).map D.str)
  | 0, _, _, h, _ => by omega
  | n + 1, s, mu, h, h16 => by
    have s2 : (2 : Nat) ≤ sizeLine := by decide
    have s1 : (1 : Nat) ≤ sizeLine := by decide
    have s3 : (3 : Nat) ≤ sizeLine := by decide
    have i3 := fun z => in_strs (z := z) (ns := ["name", "field", "length"]) (mu := mu)
    have i2 := fun z => in_strs (z := z) (ns := ["plus", "minus"]) (mu := mu)
    simp only [List.map_cons, List.map_nil] at i3 i2
    have big : ∀ t : Sm, smH t < 16 → (smU t).length < 40000 := fun t ht => by
      have a := smU_len t
      have b : 2 ^ smH t ≤ 2 ^ 15 := Nat.pow_le_pow_right (by omega) (by omega)
      have c : (2 : Nat) ^ 15 = 32768 := by decide
      omega
    cases s with
    | nm x =>
      refine ⟨.fr [.str x], by rw [lused_eq]; exact noX_ok (by
        have k0 : ((Str.ofString "name") == (Str.ofString "number")) = false := by decide +kernel
        have j1 : gIn false (.str "name") (.fl [.str "name", .str "field", .str "length"]) mu = .ok (.bl true) mu := by rw [i3, show ([Str.ofString "name", Str.ofString "field", Str.ofString "length"] : List Str).contains "name" = true from by decide +kernel]
        simp [r__law_used_names, startE, smD, gEq_strs, s1, s2, s3, k0, j1]), rfl⟩
    | ln x =>
      refine ⟨.fr [.str x], by rw [lused_eq]; exact noX_ok (by
        have k0 : ((Str.ofString "length") == (Str.ofString "number")) = false := by decide +kernel
        have j1 : gIn false (.str "length") (.fl [.str "name", .str "field", .str "length"]) mu = .ok (.bl true) mu := by rw [i3, show ([Str.ofString "name", Str.ofString "field", Str.ofString "length"] : List Str).contains "length" = true from by decide +kernel]
        simp [r__law_used_names, startE, smD, gEq_strs, s1, s2, s3, k0, j1]), rfl⟩
    | fld p f =>
      refine ⟨.fr [.str p], by rw [lused_eq]; exact noX_ok (by
        have k0 : ((Str.ofString "field") == (Str.ofString "number")) = false := by decide +kernel
        have j1 : gIn false (.str "field") (.fl [.str "name", .str "field", .str "length"]) mu = .ok (.bl true) mu := by rw [i3, show ([Str.ofString "name", Str.ofString "field", Str.ofString "length"] : List Str).contains "field" = true from by decide +kernel]
        simp [r__law_used_names, startE, smD, gEq_strs, s1, s2, s3, k0, j1]), rfl⟩
    | num i =>
      refine ⟨.fr [], by rw [lused_eq]; exact noX_ok (by
        simp [r__law_used_names, startE, smD, gEq_strs, s1, s2, s3]), rfl⟩
    | item a t =>
      simp only [smH] at h h16
      obtain ⟨rv, e, er⟩ := lused_ok n t mu (by omega) (by omega)
      have hb := big t (by omega)
      have ga := gAdd_fl (xs := [.str a]) (ys := (smU t).map D.str) (mu := mu) (by rw [List.length_map, sizeLine_eq]; simp; omega)
      refine ⟨.vl (.fl ((smU (.item a t)).map D.str)), by rw [lused_eq]; exact noX_ok (by
        have k0 : ((Str.ofString "item") == (Str.ofString "number")) = false := by decide +kernel
        have j1 : gIn false (.str "item") (.fl [.str "name", .str "field", .str "length"]) mu = .ok (.bl false) mu := by rw [i3, show ([Str.ofString "name", Str.ofString "field", Str.ofString "length"] : List Str).contains "item" = false from by decide +kernel]
        simp [r__law_used_names, startE, smD, gEq_strs, s1, s2, s3, k0, j1, e, er, ga, smU]), rfl⟩
    | scale i t =>
      simp only [smH] at h h16
      obtain ⟨rv, e, er⟩ := lused_ok n t mu (by omega) (by omega)
      have hb := big t (by omega)
      refine ⟨.vl (.fl ((smU (.scale i t)).map D.str)), by rw [lused_eq]; exact noX_ok (by
        have k0 : ((Str.ofString "scale") == (Str.ofString "number")) = false := by decide +kernel
        have j1 : gIn false (.str "scale") (.fl [.str "name", .str "field", .str "length"]) mu = .ok (.bl false) mu := by rw [i3, show ([Str.ofString "name", Str.ofString "field", Str.ofString "length"] : List Str).contains "scale" = false from by decide +kernel]
        have k2 : ((Str.ofString "scale") == (Str.ofString "item")) = false := by decide +kernel
        simp [r__law_used_names, startE, smD, gEq_strs, s1, s2, s3, k0, j1, k2, e, er, smU]), rfl⟩
    | neg t =>
      simp only [smH] at h h16
      obtain ⟨rv, e, er⟩ := lused_ok n t mu (by omega) (by omega)
      have hb := big t (by omega)
      refine ⟨.vl (.fl ((smU (.neg t)).map D.str)), by rw [lused_eq]; exact noX_ok (by
        have k0 : ((Str.ofString "negate") == (Str.ofString "number")) = false := by decide +kernel
        have j1 : gIn false (.str "negate") (.fl [.str "name", .str "field", .str "length"]) mu = .ok (.bl false) mu := by rw [i3, show ([Str.ofString "name", Str.ofString "field", Str.ofString "length"] : List Str).contains "negate" = false from by decide +kernel]
        have k2 : ((Str.ofString "negate") == (Str.ofString "item")) = false := by decide +kernel
        have k3 : ((Str.ofString "negate") == (Str.ofString "scale")) = false := by decide +kernel
        have j4 : gIn false (.str "negate") (.fl [.str "plus", .str "minus"]) mu = .ok (.bl false) mu := by rw [i2, show ([Str.ofString "plus", Str.ofString "minus"] : List Str).contains "negate" = false from by decide +kernel]
        simp [r__law_used_names, startE, smD, gEq_strs, s1, s2, s3, k0, j1, k2, k3, j4, e, er, smU]), rfl⟩
    | qr b t i =>
      simp only [smH] at h h16
      obtain ⟨rv, e, er⟩ := lused_ok n t mu (by omega) (by omega)
      have hb := big t (by omega)
      cases b with
      | false =>
        refine ⟨.vl (.fl ((smU (.qr false t i)).map D.str)), by rw [lused_eq]; exact noX_ok (by
          have k0 : ((Str.ofString "quotient") == (Str.ofString "number")) = false := by decide +kernel
          have j1 : gIn false (.str "quotient") (.fl [.str "name", .str "field", .str "length"]) mu = .ok (.bl false) mu := by rw [i3, show ([Str.ofString "name", Str.ofString "field", Str.ofString "length"] : List Str).contains "quotient" = false from by decide +kernel]
          have k2 : ((Str.ofString "quotient") == (Str.ofString "item")) = false := by decide +kernel
          have k3 : ((Str.ofString "quotient") == (Str.ofString "scale")) = false := by decide +kernel
          have j4 : gIn false (.str "quotient") (.fl [.str "plus", .str "minus"]) mu = .ok (.bl false) mu := by rw [i2, show ([Str.ofString "plus", Str.ofString "minus"] : List Str).contains "quotient" = false from by decide +kernel]
          simp [r__law_used_names, startE, smD, gEq_strs, s1, s2, s3, k0, j1, k2, k3, j4, e, er, smU]), rfl⟩
      | true =>
        refine ⟨.vl (.fl ((smU (.qr true t i)).map D.str)), by rw [lused_eq]; exact noX_ok (by
          have k0 : ((Str.ofString "remainder") == (Str.ofString "number")) = false := by decide +kernel
          have j1 : gIn false (.str "remainder") (.fl [.str "name", .str "field", .str "length"]) mu = .ok (.bl false) mu := by rw [i3, show ([Str.ofString "name", Str.ofString "field", Str.ofString "length"] : List Str).contains "remainder" = false from by decide +kernel]
          have k2 : ((Str.ofString "remainder") == (Str.ofString "item")) = false := by decide +kernel
          have k3 : ((Str.ofString "remainder") == (Str.ofString "scale")) = false := by decide +kernel
          have j4 : gIn false (.str "remainder") (.fl [.str "plus", .str "minus"]) mu = .ok (.bl false) mu := by rw [i2, show ([Str.ofString "plus", Str.ofString "minus"] : List Str).contains "remainder" = false from by decide +kernel]
          simp [r__law_used_names, startE, smD, gEq_strs, s1, s2, s3, k0, j1, k2, k3, j4, e, er, smU]), rfl⟩
    | pm b t u =>
      simp only [smH] at h h16
      obtain ⟨rv, e, er⟩ := lused_ok n t mu (by omega) (by omega)
      have hb := big t (by omega)
      obtain ⟨rv2, e2, er2⟩ := lused_ok n u mu (by omega) (by omega)
      have hb2 := big u (by omega)
      have ga := gAdd_fl (xs := (smU t).map D.str) (ys := (smU u).map D.str) (mu := mu) (by rw [List.length_map, List.length_map, sizeLine_eq]; omega)
      cases b with
      | false =>
        refine ⟨.vl (.fl ((smU (.pm false t u)).map D.str)), by rw [lused_eq]; exact noX_ok (by
          have k0 : ((Str.ofString "plus") == (Str.ofString "number")) = false := by decide +kernel
          have j1 : gIn false (.str "plus") (.fl [.str "name", .str "field", .str "length"]) mu = .ok (.bl false) mu := by rw [i3, show ([Str.ofString "name", Str.ofString "field", Str.ofString "length"] : List Str).contains "plus" = false from by decide +kernel]
          have k2 : ((Str.ofString "plus") == (Str.ofString "item")) = false := by decide +kernel
          have k3 : ((Str.ofString "plus") == (Str.ofString "scale")) = false := by decide +kernel
          have j4 : gIn false (.str "plus") (.fl [.str "plus", .str "minus"]) mu = .ok (.bl true) mu := by rw [i2, show ([Str.ofString "plus", Str.ofString "minus"] : List Str).contains "plus" = true from by decide +kernel]
          simp [r__law_used_names, startE, smD, gEq_strs, s1, s2, s3, k0, j1, k2, k3, j4, e, er, e2, er2, ga, smU]), rfl⟩
      | true =>
        refine ⟨.vl (.fl ((smU (.pm true t u)).map D.str)), by rw [lused_eq]; exact noX_ok (by
          have k0 : ((Str.ofString "minus") == (Str.ofString "number")) = false := by decide +kernel
          have j1 : gIn false (.str "minus") (.fl [.str "name", .str "field", .str "length"]) mu = .ok (.bl false) mu := by rw [i3, show ([Str.ofString "name", Str.ofString "field", Str.ofString "length"] : List Str).contains "minus" = false from by decide +kernel]
          have k2 : ((Str.ofString "minus") == (Str.ofString "item")) = false := by decide +kernel
          have k3 : ((Str.ofString "minus") == (Str.ofString "scale")) = false := by decide +kernel
          have j4 : gIn false (.str "minus") (.fl [.str "plus", .str "minus"]) mu = .ok (.bl true) mu := by rw [i2, show ([Str.ofString "plus", Str.ofString "minus"] : List Str).contains "minus" = true from by decide +kernel]
          simp [r__law_used_names, startE, smD, gEq_strs, s1, s2, s3, k0, j1, k2, k3, j4, e, er, e2, er2, ga, smU]), rfl⟩
end KP
namespace KP
open PySem L2 PyProof.Rows MP
/-! ### what two statements share -/
def chg : Br → List Str
  | .set x e => [tgN x]
  | .store a s t => [a]
  | .push s a => [a]
  | .pop x a => [tgN x, a]
  | _ => []
def seen : Br → List Str
  | .set x e => smU e
  | .store a s t => smU s ++ smU t
  | .push s a => smU s
  | _ => []
/-- the program sees a set's target, too -/
def pseen : Br → List Str
  | .set x e => tgN x :: smU e
  | s => seen s
def simp1 : Br → Bool
  | .set _ _ => true
  | .store _ _ _ => true
  | .push _ _ => true
  | .pop _ _ => true
  | _ => false
def smpD (s : Br) : D := if simp1 s = true then .tup [.fl ((chg s).map D.str), .fl ((pseen s).map D.str)] else .non
theorem big3 {s : Sm} (h : smH s ≤ 3) : (smU s).length ≤ 8 := by
  have a := smU_len s
  have b : 2 ^ smH s ≤ 2 ^ 3 := Nat.pow_le_pow_right (by omega) h
  have c : (2 : Nat) ^ 3 = 8 := by decide
  omega
noncomputable abbrev dUsed : List D → M Rv := usedL 5
theorem simple_other {k : Str} {r : List D} {mu : List MO} (h1 : (k == Str.ofString "set") = false) (h2 : (k == Str.ofString "store") = false) (h3 : (k == Str.ofString "push") = false) (h4 : (k == Str.ofString "pop") = false) : runB 2 (r_simple_names dUsed) [.tup (.str k :: r)] mu = .ok (.vl .non) mu := by
  simp [r_simple_names, startE, gEq_strs, h1, h2, h3, h4]
theorem simple_ok {s : Br} {mu : List MO} (h : wfB s) (hc : CloH mu) : den_simple_names dUsed [brD s] mu = .ok (.vl (smpD s)) mu := by
  refine noX_ok ?_
  have s2 : (2 : Nat) ≤ sizeLine := by decide
  have s1 : (1 : Nat) ≤ sizeLine := by decide
  have u : ∀ s : Sm, smH s ≤ 3 → dUsed [smD s] mu = .ok (.fr ((smU s).map D.str)) mu := fun s hs => used_ok 5 s mu (by omega) (by omega) hc
  have ut : ∀ t : Tg, dUsed [tgD t] mu = .ok (.fr [.str (tgN t)]) mu := fun t => by
    have := u (tgS t) (by rw [tg_h]; omega)
    rw [tg_used] at this
    exact this
  cases s with
  | set x e =>
    have ga := gAdd_fl (xs := [.str (tgN x)]) (ys := (smU e).map D.str) (mu := mu) (by have := big3 h; rw [List.length_map, sizeLine_eq]; simp; omega)
    simp [r_simple_names, startE, brD, gEq_strs, s1, s2, u e h, ut x, tg_1, ga, gTup_ok, smpD, simp1, chg, pseen]
  | store a s t =>
    have ga := gAdd_fl (xs := (smU s).map D.str) (ys := (smU t).map D.str) (mu := mu) (by have := big3 h.1; have := big3 h.2; rw [List.length_map, List.length_map, sizeLine_eq]; omega)
    have k0 : ((Str.ofString "store") == (Str.ofString "set")) = false := by decide +kernel
    simp [r_simple_names, startE, brD, gEq_strs, s1, s2, k0, u s h.1, u t h.2, ga, gTup_ok, smpD, simp1, chg, pseen, seen]
  | push s a =>
    have k0 : ((Str.ofString "push") == (Str.ofString "set")) = false := by decide +kernel
    have k1 : ((Str.ofString "push") == (Str.ofString "store")) = false := by decide +kernel
    simp [r_simple_names, startE, brD, gEq_strs, s1, s2, k0, k1, u s h, gTup_ok, smpD, simp1, chg, pseen, seen]
  | pop x a =>
    have k0 : ((Str.ofString "pop") == (Str.ofString "set")) = false := by decide +kernel
    have k1 : ((Str.ofString "pop") == (Str.ofString "store")) = false := by decide +kernel
    have k2 : ((Str.ofString "pop") == (Str.ofString "push")) = false := by decide +kernel
    simp [r_simple_names, startE, brD, gEq_strs, s1, s2, k0, k1, k2, tg_1, gTup_ok, smpD, simp1, chg, pseen, seen]
  | call o x a => exact simple_other (k := "call") (by decide +kernel) (by decide +kernel) (by decide +kernel) (by decide +kernel)
  | pause => exact simple_other (k := "pause") (by decide +kernel) (by decide +kernel) (by decide +kernel) (by decide +kernel)
  | give s => exact simple_other (k := "give") (by decide +kernel) (by decide +kernel) (by decide +kernel) (by decide +kernel)
  | ite c b b' => exact simple_other (k := "if") (by decide +kernel) (by decide +kernel) (by decide +kernel) (by decide +kernel)
  | whl c b => exact simple_other (k := "while") (by decide +kernel) (by decide +kernel) (by decide +kernel) (by decide +kernel)
/-! ### are_apart, may_swap -/
def apartB (s t : Br) : Bool := simp1 s && simp1 t && !((chg s).any fun x => (chg t ++ pseen t).contains x) && !((chg t).any fun x => (pseen s).contains x)
def swapB (s t : Br) : Bool := simp1 s && simp1 t && !((chg s).any fun x => (chg t ++ seen t).contains x) && !((chg t).any fun x => (seen s).contains x)
theorem apart_swap (s t : Br) : apartB s t = swapB s t := by
  have e1 : ∀ x, (chg t ++ pseen t).contains x = (chg t ++ seen t).contains x := fun x => by
    cases t <;> try rfl
    rename_i y e
    simp only [chg, pseen, seen, List.cons_append, List.nil_append, List.contains_cons]
    cases x == tgN y <;> rfl
  have e2 : (!((chg s).any fun x => (chg t ++ seen t).contains x) && !((chg t).any fun x => (pseen s).contains x)) = (!((chg s).any fun x => (chg t ++ seen t).contains x) && !((chg t).any fun x => (seen s).contains x)) := by
    cases s <;> try rfl
    rename_i y e
    cases h : ((chg (Br.set y e)).any fun x => (chg t ++ seen t).contains x) with
    | true => rfl
    | false =>
      simp only [Bool.not_false, Bool.true_and]
      congr 1
      have hy : (chg t).contains (tgN y) = false := by
        cases hc : (chg t).contains (tgN y) with
        | false => rfl
        | true =>
          have : ((chg (Br.set y e)).any fun x => (chg t ++ seen t).contains x) = true := by
            simp only [chg, List.any_cons, List.any_nil, Bool.or_false]
            rw [List.contains_iff_mem] at hc ⊢
            exact List.mem_append_left _ hc
          rw [h] at this; cases this
      have : ∀ l : List Str, l.contains (tgN y) = false → (l.any fun x => (tgN y :: smU e).contains x) = l.any fun x => (smU e).contains x := fun l hl => by
        induction l with
        | nil => rfl
        | cons a l ih =>
          rw [List.contains_cons, Bool.or_eq_false_iff] at hl
          rw [List.any_cons, List.any_cons, ih hl.2]
          congr 1
          rw [List.contains_cons, BEq.comm, hl.1, Bool.false_or]
      exact this _ hy
  unfold apartB swapB
  rw [show (fun x => (chg t ++ pseen t).contains x) = fun x => (chg t ++ seen t).contains x from funext e1]
  cases simp1 s <;> cases simp1 t <;> first | rfl | exact e2
noncomputable abbrev dSimple : List D → M Rv := den_simple_names dUsed
theorem any_in {X Y : List Str} {env : MP.Env} {i : Nat} {nd : D} {r : MP.Env → M D} {mu : List MO} (hi : i < env.length) (h : ∀ x : Str, r (env.set i (some (.str x))) mu = .ok (.bl (Y.contains x)) mu) :
    loopC (asgN i) tYesM r [] (X.map D.str) env mu = .ok (X.map fun x => D.bl (Y.contains x)) mu := by
  induction X with
  | nil => exact loopC_nil
  | cons x X ih => exact loopC_yes rfl rfl (h x) ih
theorem chg_len (s : Br) : (chg s).length ≤ 2 := by cases s <;> simp [chg]
theorem seen_len {s : Br} (h : wfB s) : (seen s).length ≤ 16 := by
  cases s with
  | set x e => have := big3 h; simp only [seen]; omega
  | store a s t => have := big3 h.1; have := big3 h.2; simp only [seen, List.length_append]; omega
  | push s a => have := big3 h; simp only [seen]; omega
  | _ => simp [seen]
theorem pseen_len {s : Br} (h : wfB s) : (pseen s).length ≤ 17 := by
  have := seen_len h
  cases s <;> simp only [pseen, seen, List.length_cons] at * <;> omega
theorem apart_ok {s t : Br} {mu : List MO} (hs : wfB s) (ht : wfB t) (hc : CloH mu) : den_are_apart dSimple [brD s, brD t] mu = .ok (.vl (.bl (apartB s t))) mu := by
  have h1 := simple_ok (s := s) hs hc
  have h2 := simple_ok (s := t) ht hc
  have s2 : (2 : Nat) ≤ sizeLine := by decide
  refine noX_ok ?_
  have e1 : dSimple [brD s] mu = .ok (.vl (smpD s)) mu := h1
  have e2 : dSimple [brD t] mu = .ok (.vl (smpD t)) mu := h2
  unfold apartB
  cases c1 : simp1 s with
  | false =>
    have q : smpD s = .non := by unfold smpD; rw [c1]; rfl
    rw [q] at e1
    generalize smpD t = T at e2
    simp [r_are_apart, startE, e1, e2, gIsN, isN]
  | true =>
    have q : smpD s = .tup [.fl ((chg s).map D.str), .fl ((pseen s).map D.str)] := by unfold smpD; rw [c1]; rfl
    rw [q] at e1
    cases c2 : simp1 t with
    | false =>
      have q2 : smpD t = .non := by unfold smpD; rw [c2]; rfl
      rw [q2] at e2
      simp [r_are_apart, startE, e1, e2, gIsN, isN]
    | true =>
      have q2 : smpD t = .tup [.fl ((chg t).map D.str), .fl ((pseen t).map D.str)] := by unfold smpD; rw [c2]; rfl
      rw [q2] at e2
      have ga := gAdd_fl (xs := (chg t).map D.str) (ys := (pseen t).map D.str) (mu := mu) (by have := chg_len t; have := pseen_len ht; rw [List.length_map, List.length_map, sizeLine_eq]; omega)
      rw [← List.map_append] at ga
      have in1 := fun z => in_strs (z := z) (ns := chg t ++ pseen t) (mu := mu)
      have in2 := fun z => in_strs (z := z) (ns := pseen s) (mu := mu)
      have l1 := any_in (X := chg s) (Y := chg t ++ pseen t) (i := 4) (nd := .non) (mu := mu) (env := [some (brD s), some (brD t), some (D.tup [.fl ((chg s).map D.str), .fl ((pseen s).map D.str)]), some (D.tup [.fl ((chg t).map D.str), .fl ((pseen t).map D.str)]), none])
        (r := eBin (gIn false) (eVar 4) (eBin gAdd (eBin gIx (eVar 3) (eC (.int 0))) (eBin gIx (eVar 3) (eC (.int 1))))) (by simp) (fun x => by
          have i1 := in1 x
          generalize (chg t ++ pseen t).map D.str = Z at ga i1
          generalize (chg t).map D.str = A at ga ⊢
          generalize (pseen t).map D.str = B at ga ⊢
          generalize (chg t ++ pseen t).contains x = bb at i1 ⊢
          simp [ga, i1])
      have l2 := any_in (X := chg t) (Y := pseen s) (i := 4) (nd := .non) (mu := mu) (env := [some (brD s), some (brD t), some (D.tup [.fl ((chg s).map D.str), .fl ((pseen s).map D.str)]), some (D.tup [.fl ((chg t).map D.str), .fl ((pseen t).map D.str)]), none])
        (r := eBin (gIn false) (eVar 4) (eBin gIx (eVar 2) (eC (.int 1)))) (by simp) (fun x => by
          have i2 := in2 x
          generalize (pseen s).map D.str = B at i2 ⊢
          generalize (pseen s).contains x = bb at i2 ⊢
          simp [i2])
      have y1 := gAny_map (mu := mu) (p := fun x => (chg t ++ pseen t).contains x) (chg s)
      have y2 := gAny_map (mu := mu) (p := fun x => (pseen s).contains x) (chg t)
      generalize (chg s).any (fun x => (chg t ++ pseen t).contains x) = a1 at y1 ⊢
      generalize (chg t).any (fun x => (pseen s).contains x) = a2 at y2 ⊢
      generalize (chg s).map (fun x => D.bl ((chg t ++ pseen t).contains x)) = F1 at l1 y1
      generalize (chg t).map (fun x => D.bl ((pseen s).contains x)) = F2 at l2 y2
      generalize (chg s).map D.str = A at *
      generalize (chg t).map D.str = B at *
      generalize (pseen s).map D.str = C at *
      generalize (pseen t).map D.str = E at *
      cases a1 <;> cases a2 <;> simp [r_are_apart, startE, e1, e2, gIsN, isN, noX_ok l1, noX_ok l2, y1, y2]
end KP
namespace KP
open PySem L2 PyProof.Rows MP
/-! ### the law's swap -/
noncomputable abbrev dLUsed : List D → M Rv := lusedL 5
theorem changed_ok {s : Br} {mu : List MO} (h : simp1 s = true) : den__law_changed_names [brD s] mu = .ok (.fr ((chg s).map D.str)) mu := by
  refine noX_ok ?_
  have s2 : (2 : Nat) ≤ sizeLine := by decide
  have s1 : (1 : Nat) ≤ sizeLine := by decide
  cases s with
  | set x e => simp [r__law_changed_names, startE, brD, gEq_strs, s1, s2, tg_1, chg]
  | store a s t =>
    have k0 : ((Str.ofString "store") == (Str.ofString "set")) = false := by decide +kernel
    simp [r__law_changed_names, startE, brD, gEq_strs, s1, s2, k0, chg]
  | push s a =>
    have k0 : ((Str.ofString "push") == (Str.ofString "set")) = false := by decide +kernel
    have k1 : ((Str.ofString "push") == (Str.ofString "store")) = false := by decide +kernel
    simp [r__law_changed_names, startE, brD, gEq_strs, s1, s2, k0, k1, chg]
  | pop x a =>
    have k0 : ((Str.ofString "pop") == (Str.ofString "set")) = false := by decide +kernel
    have k1 : ((Str.ofString "pop") == (Str.ofString "store")) = false := by decide +kernel
    have k2 : ((Str.ofString "pop") == (Str.ofString "push")) = false := by decide +kernel
    simp [r__law_changed_names, startE, brD, gEq_strs, s1, s2, k0, k1, k2, tg_1, chg]
  | _ => cases h
theorem seen_ok {s : Br} {mu : List MO} (h : simp1 s = true) (hw : wfB s) : ∃ rv, den__law_seen_names dLUsed [brD s] mu = .ok rv mu ∧ rvD rv = .fl ((seen s).map D.str) := by
  have s2 : (2 : Nat) ≤ sizeLine := by decide
  have s1 : (1 : Nat) ≤ sizeLine := by decide
  have u : ∀ s : Sm, smH s ≤ 3 → ∃ rv, dLUsed [smD s] mu = .ok rv mu ∧ rvD rv = .fl ((smU s).map D.str) := fun s hs => lused_ok 5 s mu (by omega) (by omega)
  cases s with
  | set x e =>
    obtain ⟨rv, e1, er⟩ := u e hw
    exact ⟨.vl (.fl ((smU e).map D.str)), noX_ok (by simp [r__law_seen_names, startE, brD, gEq_strs, s1, s2, e1, er]), rfl⟩
  | store a s t =>
    obtain ⟨rv, e1, er⟩ := u s hw.1
    obtain ⟨rv2, e2, er2⟩ := u t hw.2
    have ga := gAdd_fl (xs := (smU s).map D.str) (ys := (smU t).map D.str) (mu := mu) (by have := big3 hw.1; have := big3 hw.2; rw [List.length_map, List.length_map, sizeLine_eq]; omega)
    have k0 : ((Str.ofString "store") == (Str.ofString "set")) = false := by decide +kernel
    exact ⟨.vl (.fl ((smU s ++ smU t).map D.str)), noX_ok (by simp [r__law_seen_names, startE, brD, gEq_strs, s1, s2, k0, e1, er, e2, er2, ga]), rfl⟩
  | push s a =>
    obtain ⟨rv, e1, er⟩ := u s hw
    have k0 : ((Str.ofString "push") == (Str.ofString "set")) = false := by decide +kernel
    have k1 : ((Str.ofString "push") == (Str.ofString "store")) = false := by decide +kernel
    exact ⟨.vl (.fl ((smU s).map D.str)), noX_ok (by simp [r__law_seen_names, startE, brD, gEq_strs, s1, s2, k0, k1, e1, er]), rfl⟩
  | pop x a =>
    have k0 : ((Str.ofString "pop") == (Str.ofString "set")) = false := by decide +kernel
    have k1 : ((Str.ofString "pop") == (Str.ofString "store")) = false := by decide +kernel
    have k2 : ((Str.ofString "pop") == (Str.ofString "push")) = false := by decide +kernel
    exact ⟨.fr [], noX_ok (by simp [r__law_seen_names, startE, brD, gEq_strs, s1, s2, k0, k1, k2]), rfl⟩
  | _ => cases h
def simpl : List Str := ["set", "store", "push", "pop"]
theorem simpl_has (s : Br) : simpl.contains (brK s) = simp1 s := by cases s <;> rfl
noncomputable abbrev dLSeen : List D → M Rv := den__law_seen_names dLUsed
theorem swap_ok {s t : Br} {mu : List MO} (hs : wfB s) (ht : wfB t) : den__law_may_swap den__law_changed_names dLSeen [brD s, brD t] mu = .ok (.vl (.bl (swapB s t))) mu := by
  have s4 : (4 : Nat) ≤ sizeLine := by decide
  refine noX_ok ?_
  have b1 := br_0 s mu
  have b2 := br_0 t mu
  have n1 := notin_strs (z := brK s) (ns := simpl) (mu := mu)
  have n2 := notin_strs (z := brK t) (ns := simpl) (mu := mu)
  rw [simpl_has] at n1 n2
  have n1 : gIn true (.str (brK s)) (.fl [.str "set", .str "store", .str "push", .str "pop"]) mu = .ok (.bl (!simp1 s)) mu := n1
  have n2 : gIn true (.str (brK t)) (.fl [.str "set", .str "store", .str "push", .str "pop"]) mu = .ok (.bl (!simp1 t)) mu := n2
  unfold swapB
  cases c1 : simp1 s with
  | false =>
    rw [c1] at n1
    generalize brK s = ks at *
    generalize brK t = kt at *
    generalize brD s = S at *
    generalize brD t = T at *
    simp [r__law_may_swap, startE, b1, n1, s4]
  | true =>
    rw [c1] at n1
    cases c2 : simp1 t with
    | false =>
      rw [c2] at n2
      generalize brK s = ks at *
      generalize brK t = kt at *
      generalize brD s = S at *
      generalize brD t = T at *
      simp [r__law_may_swap, startE, b1, b2, n1, n2, s4]
    | true =>
      rw [c2] at n2
      have e1 := changed_ok (mu := mu) c1
      have e2 := changed_ok (mu := mu) c2
      obtain ⟨rs, e3, er3⟩ := seen_ok (mu := mu) c1 hs
      obtain ⟨rt, e4, er4⟩ := seen_ok (mu := mu) c2 ht
      have e3 : dLSeen [brD s] mu = .ok rs mu := e3
      have e4 : dLSeen [brD t] mu = .ok rt mu := e4
      have ga := gAdd_fl (xs := (chg t).map D.str) (ys := (seen t).map D.str) (mu := mu) (by have := chg_len t; have := seen_len ht; rw [List.length_map, List.length_map, sizeLine_eq]; omega)
      rw [← List.map_append] at ga
      have in1 := fun z => in_strs (z := z) (ns := chg t ++ seen t) (mu := mu)
      have in2 := fun z => in_strs (z := z) (ns := seen s) (mu := mu)
      have l1 := any_in (X := chg s) (Y := chg t ++ seen t) (i := 5) (nd := .non) (mu := mu) (env := [some (brD s), some (brD t), some (D.fl [.str "set", .str "store", .str "push", .str "pop"]), some (D.fl ((chg s).map D.str)), some (D.fl ((chg t).map D.str)), none])
        (r := eBin (gIn false) (eVar 5) (eBin gAdd (eVar 4) (eCall (lenD 1 dLSeen) (aCons (eVar 1) aNil)))) (by simp) (fun x => by
          have i1 := in1 x
          generalize (chg t ++ seen t).map D.str = Z at ga i1
          generalize (chg t).map D.str = A at ga ⊢
          generalize (chg s).map D.str = A2 at ⊢
          generalize (seen t).map D.str = B at ga er4
          generalize (chg t ++ seen t).contains x = bb at i1 ⊢
          generalize brD s = S at *
          generalize brD t = T at *
          simp [ga, i1, e4, er4])
      have l2 := any_in (X := chg t) (Y := seen s) (i := 5) (nd := .non) (mu := mu) (env := [some (brD s), some (brD t), some (D.fl [.str "set", .str "store", .str "push", .str "pop"]), some (D.fl ((chg s).map D.str)), some (D.fl ((chg t).map D.str)), none])
        (r := eBin (gIn false) (eVar 5) (eCall (lenD 1 dLSeen) (aCons (eVar 0) aNil))) (by simp) (fun x => by
          have i2 := in2 x
          generalize (seen s).map D.str = B at i2 er3
          generalize (chg t).map D.str = A at ⊢
          generalize (chg s).map D.str = A2 at ⊢
          generalize (seen s).contains x = bb at i2 ⊢
          generalize brD s = S at *
          generalize brD t = T at *
          simp [i2, e3, er3])
      have y1 := gAny_map (mu := mu) (p := fun x => (chg t ++ seen t).contains x) (chg s)
      have y2 := gAny_map (mu := mu) (p := fun x => (seen s).contains x) (chg t)
      generalize (chg s).any (fun x => (chg t ++ seen t).contains x) = a1 at y1 ⊢
      generalize (chg t).any (fun x => (seen s).contains x) = a2 at y2 ⊢
      generalize (chg s).map (fun x => D.bl ((chg t ++ seen t).contains x)) = F1 at l1 y1
      generalize (chg t).map (fun x => D.bl ((seen s).contains x)) = F2 at l2 y2
      generalize (chg s).map D.str = A at *
      generalize (chg t).map D.str = B at *
      generalize brK s = ks at *
      generalize brK t = kt at *
      generalize brD s = S at *
      generalize brD t = T at *
      cases a1 <;> cases a2 <;> simp [r__law_may_swap, startE, b1, b2, n1, n2, s4, e1, e2, noX_ok l1, noX_ok l2, y1, y2]
/-! ### constant conditions -/
def numOf : Sm → Option Int
  | .num i => some i
  | _ => none
def sgnB (sg : Str) (i j : Int) : Bool := if sg = "<" then decide (i < j) else if sg = "<=" then decide (i ≤ j) else if sg = ">" then decide (j < i) else if sg = ">=" then decide (j ≤ i) else if sg = "==" then i == j else i != j
def conO : Cn → Option Bool
  | .cmp sg s t => match numOf s, numOf t with
    | some i, some j => some (sgnB sg i j)
    | _, _ => none
  | _ => none
def conD (c : Cn) : D := match conO c with
  | some b => .bl b
  | none => .non
def smK : Sm → Str
  | .nm _ => "name"
  | .ln _ => "length"
  | .fld _ _ => "field"
  | .num _ => "number"
  | .item _ _ => "item"
  | .qr b _ _ => if b = true then "remainder" else "quotient"
  | .scale _ _ => "scale"
  | .neg _ => "negate"
  | .pm b _ _ => if b = true then "minus" else "plus"
theorem sm_0 (s : Sm) (mu : List MO) : gIx (smD s) (.int 0) mu = .ok (.str (smK s)) mu := by cases s <;> simp [smD, smK]
theorem smK_num (s : Sm) : (smK s == Str.ofString "number") = (numOf s).isSome := by
  cases s with
  | qr b s i => cases b <;> rfl
  | pm b s t => cases b <;> rfl
  | _ => rfl
theorem gLe_int' {i j : Int} {mu : List MO} : gLe (.int i) (.int j) mu = .ok (.bl (decide (i ≤ j))) mu := rfl
theorem gGe_int' {i j : Int} {mu : List MO} : gGe (.int i) (.int j) mu = .ok (.bl (decide (j ≤ i))) mu := rfl
theorem toK_str {z : Str} {mu : List MO} : toK (.str z) mu = .ok (.inr z) mu := rfl
theorem num_of {s : Sm} {i : Int} (h : numOf s = some i) : s = .num i := by cases s <;> cases h; rfl
theorem constant_ok {c : Cn} {mu : List MO} (h : wfC c) : den_constant_side [cnD c] mu = .ok (.vl (conD c)) mu := by
  refine noX_ok ?_
  have s2 : (2 : Nat) ≤ sizeLine := by decide
  cases c with
  | not c =>
    have k0 : ((Str.ofString "not") == (Str.ofString "compare")) = false := by decide +kernel
    simp [r_constant_side, startE, cnD, gEq_strs, k0, conD, conO]
  | bin b c d =>
    have k0 : ((Str.ofString "and") == (Str.ofString "compare")) = false := by decide +kernel
    have k1 : ((Str.ofString "or") == (Str.ofString "compare")) = false := by decide +kernel
    cases b <;> simp [r_constant_side, startE, cnD, gEq_strs, k0, k1, conD, conO]
  | cmp sg s t =>
    have a1 := sm_0 s mu
    have a2 := sm_0 t mu
    have b1 := smK_num s
    have b2 := smK_num t
    cases e1 : numOf s with
    | none =>
      rw [e1] at b1
      have q : conD (.cmp sg s t) = .non := by unfold conD conO; simp only [e1]
      rw [q]
      simp only [Option.isSome_none] at b1
      generalize smK s = K1 at *
      generalize smK t = K2 at *
      simp [r_constant_side, startE, cnD, gEq_strs, a1, b1]
    | some i =>
      rw [e1] at b1
      cases e2 : numOf t with
      | none =>
        rw [e2] at b2
        have q : conD (.cmp sg s t) = .non := by unfold conD conO; simp only [e1, e2]
        rw [q]
        simp only [Option.isSome_none, Option.isSome_some] at b1 b2
        generalize smK s = K1 at *
        generalize smK t = K2 at *
        simp [r_constant_side, startE, cnD, gEq_strs, a1, b1, a2, b2]
      | some j =>
        have q : conD (.cmp sg s t) = .bl (sgnB sg i j) := by unfold conD conO; simp only [e1, e2]
        rw [q]
        cases num_of e1
        cases num_of e2
        have nd : ([Sum.inr (Str.ofString "<"), Sum.inr (Str.ofString "<="), Sum.inr (Str.ofString ">"), Sum.inr (Str.ofString ">="), Sum.inr (Str.ofString "==")] : List Key).Nodup := by decide +kernel
        have w : sgnB "<" i j = decide (i < j) ∧ sgnB "<=" i j = decide (i ≤ j) ∧ sgnB ">" i j = decide (j < i) ∧ sgnB ">=" i j = decide (j ≤ i) ∧ sgnB "==" i j = (i == j) ∧ sgnB "!=" i j = (i != j) := ⟨rfl, rfl, rfl, rfl, rfl, rfl⟩
        obtain ⟨w1, w2, w3, w4, w5, w6⟩ := w
        simp only [wfC, signs, List.mem_cons, List.not_mem_nil, or_false] at h
        obtain ⟨h, _, _⟩ := h
        have t1 : (D.tup [.str "compare", .str sg, .tup [.str "number", .int i], .tup [.str "number", .int j]]) = cnD (.cmp sg (.num i) (.num j)) := rfl
        rw [← t1]
        rcases h with rfl | rfl | rfl | rfl | rfl | rfl
        all_goals
          simp only [w1, w2, w3, w4, w5, w6]
          simp [r_constant_side, startE, gEq_strs, gEq_ints, toK_str, gLe_int', gGe_int', nd, dctK]
          rfl
theorem always_ok {c : Cn} {mu : List MO} (h : wfC c) : den__law_always [cnD c] mu = .ok (.vl (conD c)) mu := by
  refine noX_ok ?_
  have s2 : (2 : Nat) ≤ sizeLine := by decide
  cases c with
  | not c =>
    have k0 : ((Str.ofString "not") == (Str.ofString "compare")) = false := by decide +kernel
    simp [r__law_always, startE, cnD, gEq_strs, k0, conD, conO]
  | bin b c d =>
    have k0 : ((Str.ofString "and") == (Str.ofString "compare")) = false := by decide +kernel
    have k1 : ((Str.ofString "or") == (Str.ofString "compare")) = false := by decide +kernel
    cases b <;> simp [r__law_always, startE, cnD, gEq_strs, k0, k1, conD, conO]
  | cmp sg s t =>
    have a1 := sm_0 s mu
    have a2 := sm_0 t mu
    have b1 := smK_num s
    have b2 := smK_num t
    cases e1 : numOf s with
    | none =>
      rw [e1] at b1
      have q : conD (.cmp sg s t) = .non := by unfold conD conO; simp only [e1]
      rw [q]
      simp only [Option.isSome_none] at b1
      generalize smK s = K1 at *
      generalize smK t = K2 at *
      simp [r__law_always, startE, cnD, gEq_strs, a1, b1]
    | some i =>
      rw [e1] at b1
      cases e2 : numOf t with
      | none =>
        rw [e2] at b2
        have q : conD (.cmp sg s t) = .non := by unfold conD conO; simp only [e1, e2]
        rw [q]
        simp only [Option.isSome_none, Option.isSome_some] at b1 b2
        generalize smK s = K1 at *
        generalize smK t = K2 at *
        simp [r__law_always, startE, cnD, gEq_strs, a1, b1, a2, b2]
      | some j =>
        have q : conD (.cmp sg s t) = .bl (sgnB sg i j) := by unfold conD conO; simp only [e1, e2]
        rw [q]
        cases num_of e1
        cases num_of e2
        have nd : ([Sum.inr (Str.ofString "<"), Sum.inr (Str.ofString "<="), Sum.inr (Str.ofString ">"), Sum.inr (Str.ofString ">="), Sum.inr (Str.ofString "=="), Sum.inr (Str.ofString "!=")] : List Key).Nodup := by decide +kernel
        have w : sgnB "<" i j = decide (i < j) ∧ sgnB "<=" i j = decide (i ≤ j) ∧ sgnB ">" i j = decide (j < i) ∧ sgnB ">=" i j = decide (j ≤ i) ∧ sgnB "==" i j = (i == j) ∧ sgnB "!=" i j = (i != j) := ⟨rfl, rfl, rfl, rfl, rfl, rfl⟩
        obtain ⟨w1, w2, w3, w4, w5, w6⟩ := w
        simp only [wfC, signs, List.mem_cons, List.not_mem_nil, or_false] at h
        obtain ⟨h, _, _⟩ := h
        have dg : ∀ (z : Str) (ks : List Key) (xs : List D) (d : D), valD (ks.zip xs) (.inr z) = some d → gDget (.fd ks xs) (.str z) mu = .ok d mu := fun z ks xs d hv => gDget_at rfl hv
        have t1 : (D.tup [.str "compare", .str sg, .tup [.str "number", .int i], .tup [.str "number", .int j]]) = cnD (.cmp sg (.num i) (.num j)) := rfl
        rw [← t1]
        rcases h with rfl | rfl | rfl | rfl | rfl | rfl
        all_goals
          simp only [w1, w2, w3, w4, w5, w6]
          simp [r__law_always, startE, gEq_strs, gEq_ints, toK_str, gLe_int', gGe_int', nd, dctK]
          rw [dg _ _ _ _ rfl]
          try rfl
end KP
namespace KP
open PySem L2 PyProof.Rows MP
/-! ### gives -/
mutual
def givB : Br → Bool
  | .give _ => true
  | .ite _ b b' => givBs b || givBs b'
  | .whl _ b => givBs b
  | _ => false
def givBs : List Br → Bool
  | [] => false
  | s :: r => givB s || givBs r
end
theorem givBs_any : ∀ b : List Br, givBs b = b.any givB
  | [] => rfl
  | s :: r => by rw [givBs, List.any_cons, givBs_any r]
mutual
def cB : Br → Nat
  | .ite _ b b' => cBs b + cBs b'
  | .whl _ b => cBs b
  | _ => 0
/-- statements in all -/
def cBs : List Br → Nat
  | [] => 0
  | s :: r => 1 + cB s + cBs r
end
theorem cBs_len : ∀ b : List Br, b.length ≤ cBs b
  | [] => by simp
  | s :: r => by have := cBs_len r; rw [cBs, List.length_cons]; omega
theorem cBs_mem : ∀ {b : List Br}, ∀ s ∈ b, cB s ≤ cBs b
  | s :: r, x, hx => by
    rw [cBs]
    rcases List.mem_cons.mp hx with e | e
    · rw [e]; omega
    · have := cBs_mem x e; omega
noncomputable def givesL : Nat → List D → M Rv
  | 0 => fun _ _ => .bad
  | n + 1 => den_gives_in (givesL n)
theorem gives_eq {n : Nat} {ds : List D} : givesL (n + 1) ds = noX (runB 4 (r_gives_in (givesL n)) ds) := rfl
theorem tab_if : tabAt tab_BLOCKS "if" = some (.tup [.int 2, .int 3]) := rfl
theorem tab_while : tabAt tab_BLOCKS "while" = some (.tup [.int 2]) := rfl
/-- neither if nor while -/
def Flt (s : Br) : Prop := (brK s == Str.ofString "if") = false ∧ (brK s == Str.ofString "while") = false
theorem tab_none {z : Str} (h1 : (z == Str.ofString "if") = false) (h2 : (z == Str.ofString "while") = false) : tabAt tab_BLOCKS z = none := by
  unfold tabAt tab_BLOCKS
  simp only [List.find?_cons, List.find?_nil]
  rw [BEq.comm] at h1 h2
  simp only [h1, h2]
  rfl
/-- the blocks of a statement -/
def blks : Br → List (Int × List Br)
  | .ite _ b b' => [(2, b), (3, b')]
  | .whl _ b => [(2, b)]
  | _ => []
theorem tab_get (s : Br) : (tabAt tab_BLOCKS (brK s)).getD (.tup []) = .tup ((blks s).map fun p => .int p.1) := by cases s <;> rfl
theorem blk_ix (s : Br) (mu : List MO) : ∀ p ∈ blks s, gIx (brD s) (.int p.1) mu = .ok (.tup (brsD p.2)) mu := fun p hp => by
  cases s <;> simp only [blks, List.mem_cons, List.not_mem_nil, or_false] at hp
  case ite c b b' => rcases hp with rfl | rfl <;> simp [brD]
  case whl c b => subst hp; simp [brD]
theorem blks_mem (s : Br) : ∀ p ∈ blks s, hBs p.2 < hB s ∧ cBs p.2 ≤ cB s ∧ (wfB s → wfBs p.2) := fun p hp => by
  cases s <;> simp only [blks, List.mem_cons, List.not_mem_nil, or_false] at hp
  case ite c b b' =>
    rcases hp with rfl | rfl
    · exact ⟨by rw [hB]; dsimp only; omega, by rw [cB]; dsimp only; omega, fun h => h.2.1⟩
    · exact ⟨by rw [hB]; dsimp only; omega, by rw [cB]; dsimp only; omega, fun h => h.2.2⟩
  case whl c b => subst hp; exact ⟨by rw [hB]; dsimp only; omega, by rw [cB]; dsimp only; omega, fun h => h.2⟩
theorem blks_cnt (s : Br) : ((blks s).map fun p => cBs p.2).sum = cB s ∧ (blks s).length ≤ 2 := by
  cases s <;> simp [blks, cB]
theorem giv_blks (s : Br) : givB s = (brK s == Str.ofString "give" || ((blks s).flatMap fun p => p.2).any givB) := by
  cases s <;> simp only [givB, blks, brK, List.flatMap_nil, List.flatMap_cons, List.any_nil, List.append_nil, List.any_append, givBs_any] <;> first | rfl | (rw [show (Str.ofString "if" == Str.ofString "give") = false from by decide +kernel]; rfl) | (rw [show (Str.ofString "while" == Str.ofString "give") = false from by decide +kernel]; rfl)
theorem brs_loop {i : Nat} {ds : List D → M Rv} {env : MP.Env} {mu : List MO} (hi : i < env.length) : ∀ (b : List Br), (∀ s ∈ b, ds [brD s] mu = .ok (.vl (.bl (givB s))) mu) → loopC (asgN i) tYesM (eCall (lenD 1 ds) (aCons (eVar i) aNil)) [] (brsD b) env mu = .ok (b.map fun s => D.bl (givB s)) mu
  | [], _ => loopC_nil
  | s :: r, h => by
    rw [brsD]
    refine loopC_yes rfl rfl ?_ (brs_loop hi r fun x hx => h x (by simp [hx]))
    have e := h s (by simp)
    generalize brD s = S at *
    simp [hi, e]
theorem gives_ok : ∀ (n : Nat) (s : Br) (mu : List MO), hB s < n → cB s < 100000 → givesL n [brD s] mu = .ok (.vl (.bl (givB s))) mu
  | 0, _, _, h, _ => by omega
  | n + 1, s, mu, h, hc => by
    have s0 : (0 : Nat) ≤ sizeLine := by decide
    rw [gives_eq]
    refine noX_ok ?_
    have b0 := br_0 s mu
    have tg := tab_get s
    have gb := giv_blks s
    cases hk : brK s == Str.ofString "give" with
    | true =>
      rw [hk] at gb
      rw [gb]
      generalize brK s = k at *
      generalize brD s = S at *
      simp [r_gives_in, startE, b0, gEq_strs, hk]
    | false =>
      rw [hk, Bool.false_or] at gb
      have l1 : loopC (asgN 2) tYesM (eBin gIx (eVar 0) (eVar 2)) [] ((blks s).map fun p => D.int p.1) [some (brD s), none, none, none] mu = .ok ((blks s).map fun p => D.tup (brsD p.2)) mu := by
        refine loopC_mapG (by exact chk_nil) fun p hp => ⟨_, rfl, rfl, ?_⟩
        have e := blk_ix s mu p hp
        generalize brD s = S at *
        simp [e]
      have inner : ∀ p ∈ blks s, ∀ env : MP.Env, env.length = 4 → loopC (asgN 3) tYesM (eCall (lenD 1 (givesL n)) (aCons (eVar 3) aNil)) [] (brsD p.2) env mu = .ok (p.2.map fun s => D.bl (givB s)) mu := fun p hp env he => by
        have q := blks_mem s p hp
        exact brs_loop (by omega) p.2 fun x hx => gives_ok n x mu (by have := hBs_mem x hx; omega) (by have := cBs_mem x hx; omega)
      have l2 : ∀ (ps : List (Int × List Br)) (acc : List Br), (∀ p ∈ ps, p ∈ blks s) → acc.length + (ps.map fun p => cBs p.2).sum < 200000 → loopC2 (asgN 2) tYesM (eWalk (eVar 2)) (asgN 3) tYesM (eCall (lenD 1 (givesL n)) (aCons (eVar 3) aNil)) [3] [] (ps.map fun p => D.tup (brsD p.2)) (acc.map fun s => D.bl (givB s)) [some (brD s), some (.fl ((blks s).map fun p => D.tup (brsD p.2))), none, none] mu = .ok ((acc ++ ps.flatMap fun p => p.2).map fun s => D.bl (givB s)) mu := by
        intro ps
        induction ps with
        | nil => intro acc _ _; rw [List.map_nil, loopC2_nil, List.flatMap_nil, List.append_nil]
        | cons p ps ih =>
          intro acc hp hl
          rw [List.map_cons, List.sum_cons] at hl
          have := cBs_len p.2
          rw [List.map_cons]
          refine (loopC2_step (p := (brsD p.2, [])) (xs := p.2.map fun s => D.bl (givB s)) rfl rfl (by simp) ?_ ?_).trans ?_
          · rw [brsD_map, List.length_map, List.length_map, sizeLine_eq]; omega
          · exact inner p (hp p (by simp)) _ rfl
          · rw [← List.map_append]
            refine (ih (acc ++ p.2) (fun q hq => hp q (by simp [hq])) (by rw [List.length_append]; omega)).trans ?_
            rw [List.flatMap_cons, List.append_assoc]
      have l2 := l2 (blks s) [] (fun p hp => hp) (by have := (blks_cnt s).1; simp; omega)
      rw [List.nil_append] at l2
      have l2 : loopC2 (asgN 2) tYesM (eWalk (eVar 2)) (asgN 3) tYesM (eCall (lenD 1 (givesL n)) (aCons (eVar 3) aNil)) [3] [] ((blks s).map fun p => D.tup (brsD p.2)) [] [some (brD s), some (.fl ((blks s).map fun p => D.tup (brsD p.2))), none, none] mu = _ := l2
      have y := gAny_map (mu := mu) (p := givB) ((blks s).flatMap fun p => p.2)
      rw [gb]
      generalize ((blks s).flatMap fun p => p.2).any givB = A at *
      generalize ((blks s).flatMap fun p => p.2).map (fun s => D.bl (givB s)) = F at *
      generalize (blks s).map (fun p => D.tup (brsD p.2)) = BL at *
      generalize (blks s).map (fun p => D.int p.1) = IX at *
      generalize brK s = k at *
      generalize brD s = S at *
      simp [r_gives_in, startE, b0, gEq_strs, hk, gTup_ok, s0, tg, noX_ok l1, noX_ok l2, y]
end KP
namespace MP
open PySem L2 PyProof.Rows
theorem atI_nat {α : Type} {xs : List α} {k : Nat} : atI xs ((k : Nat) : Int) = xs[k]? := by
  unfold atI ixN
  rw [if_pos (by omega)]
  by_cases h : k < xs.length
  · rw [if_pos (by omega)]; simp
  · rw [if_neg (by omega), List.getElem?_eq_none (by omega)]; rfl
theorem ixD_nat {xs : List D} {k : Nat} {d : D} {mu : List MO} (h : xs[k]? = some d) : ixD xs ((k : Nat) : Int) mu = .ok d mu := ixD_at (atI_nat.trans h)
theorem tups_flat (ps : List (List Int)) : flats (ps.map tupI) = true := flats_of fun d hd => by
  obtain ⟨x, _, e⟩ := List.mem_map.mp hd
  rw [← e]
  show flats (x.map D.int) = true
  exact flats_of fun d hd => by
    obtain ⟨i, _, e⟩ := List.mem_map.mp hd
    rw [← e]; rfl
end MP
namespace KP
open PySem L2 PyProof.Rows MP
/-! ### the law's gives -/
theorem parts_ok (s : Br) (mu : List MO) : den__law_inner_parts [brD s] mu = .ok (.fr ((blks s).map fun p => .int p.1)) mu := by
  refine noX_ok ?_
  have b0 := br_0 s mu
  have s2 : (2 : Nat) ≤ sizeLine := by decide
  have s1 : (1 : Nat) ≤ sizeLine := by decide
  have other : ∀ k, (k == Str.ofString "while") = false → (k == Str.ofString "if") = false → brK s = k → runB 1 r__law_inner_parts [brD s] mu = .ok (.fr []) mu := fun k h1 h2 e => by
    rw [e] at b0
    generalize brD s = S at *
    simp [r__law_inner_parts, startE, b0, gEq_strs, h1, h2]
  cases s with
  | ite c b b' =>
    have k0 : ((Str.ofString "if") == (Str.ofString "while")) = false := by decide +kernel
    have b0 : gIx (brD (.ite c b b')) (.int 0) mu = .ok (.str "if") mu := b0
    generalize brD (.ite c b b') = S at *
    simp [r__law_inner_parts, startE, b0, gEq_strs, k0, s2, blks]
  | whl c b =>
    have b0 : gIx (brD (.whl c b)) (.int 0) mu = .ok (.str "while") mu := b0
    generalize brD (.whl c b) = S at *
    simp [r__law_inner_parts, startE, b0, gEq_strs, s1, blks]
  | _ => exact other _ rfl rfl rfl
noncomputable def lgivesL : Nat → List D → M Rv
  | 0 => fun _ _ => .bad
  | n + 1 => den__law_has_give den__law_inner_parts (lgivesL n)
noncomputable def lgBody (ds : List D → M Rv) : MP.Env → M Fl := (eIf (eB (aThen (g1 gAny) (aCons (eFl (fComp (eWalk (eBin gIx (eVar 0) (eVar 1))) (asgN 2) tYesM (eCall (lenD 1 ds) (aCons (eVar 2) aNil)) [2])) aNil)))
  (sRet (eC (.bl true)))
  sNext)
theorem lgives_eq {n : Nat} {ds : List D} : lgivesL (n + 1) ds = noX (runB 3 (sSeq (eIf (eB (eBin (gEq false) (eBin gIx (eVar 0) (eC (.int 0))) (eC (.str "give"))))
  (sRet (eC (.bl true)))
  sNext)
  (sSeq (sFor (eWalk (eCall (lenD 1 den__law_inner_parts) (aCons (eVar 0) aNil))) (asgN 1) (lgBody (lgivesL n)) [1])
  (sRet (eC (.bl false))))) ds) := rfl
theorem lgives_ok : ∀ (n : Nat) (s : Br) (mu : List MO), hB s < n → lgivesL n [brD s] mu = .ok (.vl (.bl (givB s))) mu
  | 0, _, _, h => by omega
  | n + 1, s, mu, h => by
    rw [lgives_eq]
    refine noX_ok ?_
    have b0 := br_0 s mu
    have gb := giv_blks s
    have pk := parts_ok s mu
    cases hk : brK s == Str.ofString "give" with
    | true =>
      rw [hk] at gb
      rw [gb]
      generalize brK s = k at *
      generalize brD s = S at *
      simp [startE, b0, gEq_strs, hk]
    | false =>
      rw [hk, Bool.false_or] at gb
      have l2 : ∀ (ps : List (Int × List Br)) (o1 : Option D), (∀ p ∈ ps, p ∈ blks s) → loopF (asgN 1) (lgBody (lgivesL n)) [1] [] (ps.map fun p => D.int p.1) [some (brD s), o1, none] mu = if ((ps.flatMap fun p => p.2).any givB) = true then .ok (.rt (.vl (.bl true))) mu else .ok (.nx [some (brD s), none, none]) mu := by
        intro ps
        induction ps with
        | nil => intro o1 _; show loopF _ _ _ [] [] _ _ = _; rw [loopF_nil]; rfl
        | cons p ps ih =>
          intro o1 hp
          have q := blks_mem s p (hp p (by simp))
          have inner := fun env (he : env.length = 3) => brs_loop (i := 2) (ds := lgivesL n) (env := env) (mu := mu) (by omega) p.2 fun x hx => lgives_ok n x mu (by have := hBs_mem x hx; omega)
          have inner := inner [some (brD s), some (.int p.1), none] rfl
          have y := gAny_map (mu := mu) (p := givB) p.2
          have ix := blk_ix s mu p (hp p (by simp))
          rw [List.map_cons, List.flatMap_cons, List.any_append]
          have ih := ih (some (.int p.1)) fun q hq => hp q (by simp [hq])
          cases ha : p.2.any givB with
          | true =>
            rw [ha] at y
            refine loopF_ret rfl ?_
            generalize p.2.map (fun s => D.bl (givB s)) = F at *
            generalize brsD p.2 = B at *
            generalize brD s = S at *
            simp [lgBody, ix, noX_ok inner, y]
          | false =>
            rw [ha] at y
            rw [Bool.false_or, ← ih]
            refine loopF_step rfl ?_
            generalize p.2.map (fun s => D.bl (givB s)) = F at *
            generalize brsD p.2 = B at *
            generalize brD s = S at *
            simp [lgBody, ix, noX_ok inner, y]
      have l2 := l2 (blks s) none fun p hp => hp
      rw [← gb] at l2
      generalize (blks s).map (fun p => D.int p.1) = IX at *
      generalize brK s = k at *
      generalize brD s = S at *
      cases hg : givB s <;> rw [hg] at l2 <;> simp at l2 <;> simp [startE, b0, gEq_strs, hk, pk, l2]
/-! ### paths -/
abbrev Row := List Int × List Br
mutual
def rowsS : Br → List Int → List Row
  | .ite _ b b', p => rowsB b 0 (p ++ [2]) ++ rowsB b' 0 (p ++ [3])
  | .whl _ b, p => rowsB b 0 (p ++ [2])
  | _, _ => []
def rowsB : List Br → Nat → List Int → List Row
  | [], _, _ => []
  | s :: r, k, ah => (ah ++ [(k : Int)], s :: r) :: (rowsS s (ah ++ [(k : Int)]) ++ rowsB r (k + 1) ah)
end
theorem rowsS_blks (s : Br) (p : List Int) : rowsS s p = (blks s).flatMap fun q => rowsB q.2 0 (p ++ [q.1]) := by cases s <;> simp [rowsS, blks]
mutual
theorem rowsS_len : ∀ (s : Br) (p : List Int), (rowsS s p).length = cB s
  | .ite _ b b', p => by rw [rowsS, List.length_append, rowsB_len b, rowsB_len b', cB]
  | .whl _ b, p => by rw [rowsS, rowsB_len b, cB]
  | .set _ _, p => rfl
  | .store _ _ _, p => rfl
  | .push _ _, p => rfl
  | .pop _ _, p => rfl
  | .call _ _ _, p => rfl
  | .pause, p => rfl
  | .give _, p => rfl
theorem rowsB_len : ∀ (b : List Br) (k : Nat) (ah : List Int), (rowsB b k ah).length = cBs b
  | [], _, _ => rfl
  | s :: r, k, ah => by rw [rowsB, List.length_cons, List.length_append, rowsS_len s, rowsB_len r, cBs]; omega
end
noncomputable def pathsL : Nat → List D → M Rv
  | 0 => fun _ _ => .bad
  | n + 1 => fgt (den_paths_in (pathsL n))
noncomputable def piIn (ds : List D → M Rv) : MP.Env → M Fl := (sExpr (eMeth lstK gExtend (eVar 2) (aCons (eCall (lenD 2 ds) (aCons (eBin gIx (eVar 4) (eVar 6)) (aCons (eBin gAdd (eVar 5) (aThen gTup (aCons (eVar 6) aNil))) aNil))) aNil)))
noncomputable def piBody (ds : List D → M Rv) : MP.Env → M Fl := (sSeq (sSet 5 (eBin gAdd (eVar 1) (aThen gTup (aCons (eVar 3) aNil))))
  (sSeq (sExpr (eMeth lstK gAppend (eVar 2) (aCons (eVar 5) aNil)))
  (sFor (eWalk (eGetK tab_BLOCKS (eBin gIx (eVar 4) (eC (.int 0))) (aThen gTup aNil))) (asgN 6) (piIn ds) [6])))
theorem pi_er (ds : List D → M Rv) : r_paths_in ds = (sSeq (sSet 2 (eNew (aList aNil)))
  (sSeq (sFor (wThen wEnumA (aCons (eVar 0) aNil)) (asgT 2 (asgCons (asgN 3) (asgCons (asgN 4) asgNil))) (piBody ds) [3, 4, 5, 6])
  (sRet (eVar 2)))) := rfl
abbrev rowP (r : Row) : D := tupI r.1
theorem rows_flat (rs : List Row) : flats (rs.map rowP) = true := by
  have := tups_flat (rs.map (·.1))
  rw [List.map_map] at this
  exact this
theorem pi_inner {ds : List D → M Rv} {c ad kd : D} {n : Nat} {s : Br} {p : List Int} {mu1 : List MO} (hn : n = mu1.length) (hc : CloH mu1) (hp : p.length < 10000) (hd : ∀ q ∈ blks s, ∀ mu, CloH mu → ds [.tup (brsD q.2), tupI (p ++ [q.1])] mu = .ok (.fr ((rowsB q.2 0 (p ++ [q.1])).map rowP)) mu) :
    ∀ (ps : List (Int × List Br)) (acc : List Row) (o6 : Option D), (∀ q ∈ ps, q ∈ blks s) → acc.length + (ps.map fun q => cBs q.2).sum < 200000 →
    loopF (asgN 6) (piIn ds) [6] [] (ps.map fun q => D.int q.1) [some c, some ad, some (.ref n), some kd, some (brD s), some (tupI p), o6] (mu1 ++ [.lst (acc.map rowP)])
      = .ok (.nx [some c, some ad, some (.ref n), some kd, some (brD s), some (tupI p), none]) (mu1 ++ [.lst ((acc ++ ps.flatMap fun q => rowsB q.2 0 (p ++ [q.1])).map rowP)])
  | [], acc, o6, _, _ => by
    show loopF _ _ _ [] [] _ _ = _
    rw [loopF_nil]; simp
  | q :: ps, acc, o6, h, hl => by
    have s1 : (1 : Nat) ≤ sizeLine := by decide
    rw [List.map_cons, List.sum_cons] at hl
    have hq := h q (by simp)
    have hg := get_last (x := .lst (acc.map rowP)) hn
    have e := hd q hq _ (hc.snoc_flat (rows_flat acc))
    have ix := blk_ix s (mu1 ++ [.lst (acc.map rowP)]) q hq
    have ga := gAdd_tup (xs := p.map D.int) (ys := [.int q.1]) (mu := mu1 ++ [.lst (acc.map rowP)]) (by rw [List.length_map, sizeLine_eq]; simp; omega)
    have ga : gAdd (tupI p) (.tup [.int q.1]) (mu1 ++ [.lst (acc.map rowP)]) = .ok (tupI (p ++ [q.1])) (mu1 ++ [.lst (acc.map rowP)]) := by
      rw [ga]
      show R.ok (D.tup (p.map D.int ++ [D.int q.1])) _ = R.ok (D.tup ((p ++ [q.1]).map D.int)) _
      rw [List.map_append]; rfl
    have hx := extend_ok (d := .fl ((rowsB q.2 0 (p ++ [q.1])).map rowP)) (ys := (rowsB q.2 0 (p ++ [q.1])).map rowP) hg rfl (by rw [List.length_map, List.length_map, rowsB_len, sizeLine_eq]; omega)
    rw [set_last hn, ← List.map_append] at hx
    have ih := pi_inner (c := c) (ad := ad) (kd := kd) hn hc hp hd ps (acc ++ rowsB q.2 0 (p ++ [q.1])) (some (.int q.1)) (fun x hx => h x (by simp [hx])) (by rw [List.length_append, rowsB_len]; omega)
    rw [List.map_cons]
    refine (loopF_step rfl ?_).trans (ih.trans ?_)
    · generalize (acc ++ rowsB q.2 0 (p ++ [q.1])).map rowP = F at *
      generalize (rowsB q.2 0 (p ++ [q.1])).map rowP = F2 at *
      generalize acc.map rowP = A at *
      generalize tupI (p ++ [q.1]) = T2 at *
      generalize tupI p = T at *
      generalize brsD q.2 = B at *
      generalize brD s = S at *
      simp [piIn, lstK_ref hg, ix, gTup_ok, s1, ga, e, hx]
    · rw [List.flatMap_cons, List.append_assoc]
theorem enum_cons {k : Int} {d : D} {ds : List D} : enumD k (d :: ds) = .tup [.int k, d] :: enumD (k + 1) ds := rfl
theorem pi_outer {ds : List D → M Rv} {c : D} {ah : List Int} {n : Nat} {mu1 : List MO} (hn : n = mu1.length) (hc : CloH mu1) (ha : ah.length < 1000) : ∀ (r : List Br) (k : Nat) (acc : List Row) (o3 o4 o5 o6 : Option D),
    (∀ s ∈ r, ∀ q ∈ blks s, ∀ (p : List Int), p.length ≤ ah.length + 1 → ∀ mu, CloH mu → ds [.tup (brsD q.2), tupI (p ++ [q.1])] mu = .ok (.fr ((rowsB q.2 0 (p ++ [q.1])).map rowP)) mu) → acc.length + cBs r < 150000 →
    loopF (asgT 2 (asgCons (asgN 3) (asgCons (asgN 4) asgNil))) (piBody ds) [3, 4, 5, 6] [] (enumD (k : Int) (brsD r)) [some c, some (tupI ah), some (.ref n), o3, o4, o5, o6] (mu1 ++ [.lst (acc.map rowP)])
      = .ok (.nx [some c, some (tupI ah), some (.ref n), none, none, none, none]) (mu1 ++ [.lst ((acc ++ rowsB r k ah).map rowP)])
  | [], k, acc, o3, o4, o5, o6, _, _ => by
    show loopF _ _ _ [] [] _ _ = _
    rw [loopF_nil, rowsB, List.append_nil]; rfl
  | s :: r, k, acc, o3, o4, o5, o6, h, hl => by
    have s1 : (1 : Nat) ≤ sizeLine := by decide
    have s0 : (0 : Nat) ≤ sizeLine := by decide
    rw [cBs] at hl
    have ga := gAdd_tup (xs := ah.map D.int) (ys := [.int (k : Int)]) (mu := mu1 ++ [.lst (acc.map rowP)]) (by rw [List.length_map, sizeLine_eq]; simp; omega)
    have ga : gAdd (tupI ah) (.tup [.int (k : Int)]) (mu1 ++ [.lst (acc.map rowP)]) = .ok (tupI (ah ++ [(k : Int)])) (mu1 ++ [.lst (acc.map rowP)]) := by
      rw [ga]
      show R.ok (D.tup (ah.map D.int ++ [D.int (k : Int)])) _ = R.ok (D.tup ((ah ++ [(k : Int)]).map D.int)) _
      rw [List.map_append]; rfl
    have hg := get_last (x := .lst (acc.map rowP)) hn
    have hap := append_ok (d := tupI (ah ++ [(k : Int)])) hg (by rw [List.length_map, sizeLine_eq]; omega)
    rw [set_last hn] at hap
    have e1 : acc.map rowP ++ [tupI (ah ++ [(k : Int)])] = (acc ++ [(ah ++ [(k : Int)], s :: r)]).map rowP := by rw [List.map_append]; rfl
    rw [e1] at hap
    have hin := pi_inner (c := c) (ad := tupI ah) (kd := .int (k : Int)) (s := s) (p := ah ++ [(k : Int)]) hn hc (by rw [List.length_append]; simp; omega) (fun q hq mu hcm => h s (by simp) q hq _ (by simp) mu hcm) (blks s) (acc ++ [(ah ++ [(k : Int)], s :: r)]) none (fun q hq => hq) (by have := (blks_cnt s).1; rw [List.length_append, List.length_singleton]; omega)
    rw [← rowsS_blks] at hin
    have ih := pi_outer (c := c) (ah := ah) hn hc ha r (k + 1) (acc ++ (ah ++ [(k : Int)], s :: r) :: rowsS s (ah ++ [(k : Int)])) (some (.int (k : Int))) (some (brD s)) (some (tupI (ah ++ [(k : Int)]))) none (fun x hx => h x (by simp [hx])) (by rw [List.length_append, List.length_cons, rowsS_len]; omega)
    rw [brsD, enum_cons]
    have e2 : acc ++ [(ah ++ [(k : Int)], s :: r)] ++ rowsS s (ah ++ [(k : Int)]) = acc ++ (ah ++ [(k : Int)], s :: r) :: rowsS s (ah ++ [(k : Int)]) := by simp
    rw [e2] at hin
    have e3 : acc ++ (ah ++ [(k : Int)], s :: r) :: rowsS s (ah ++ [(k : Int)]) ++ rowsB r (k + 1) ah = acc ++ rowsB (s :: r) k ah := by rw [rowsB]; simp
    rw [e3] at ih
    refine (loopF_step (env1 := [some c, some (tupI ah), some (.ref n), some (.int (k : Int)), some (brD s), none, none]) rfl ?_).trans ih
    have tg := tab_get s
    have b0 := fun m => br_0 s m
    generalize (acc ++ (ah ++ [(k : Int)], s :: r) :: rowsS s (ah ++ [(k : Int)])).map rowP = F2 at *
    generalize (acc ++ [(ah ++ [(k : Int)], s :: r)]).map rowP = F at *
    generalize acc.map rowP = A at *
    generalize tupI (ah ++ [(k : Int)]) = T2 at *
    generalize tupI ah = T at *
    generalize (blks s).map (fun q => D.int q.1) = IX at *
    generalize brK s = kk at *
    generalize brD s = S at *
    simp [piBody, lstK_ref hg, gTup_ok, s1, s0, ga, hap, b0, tg, hin]
theorem paths_ok : ∀ (n : Nat) (b : List Br) (ah : List Int) (mu : List MO), hBs b < n → cBs b < 100000 → ah.length + 2 * n < 1000 → CloH mu → pathsL n [.tup (brsD b), tupI ah] mu = .ok (.fr ((rowsB b 0 ah).map rowP)) mu
  | 0, _, _, _, h, _, _, _ => by omega
  | n + 1, b, ah, mu, h, hb, ha, hc => by
    have h1 := pi_outer (ds := pathsL n) (c := .tup (brsD b)) (ah := ah) (n := mu.length) rfl hc (by omega) b 0 [] none none none none (fun s hs q hq p hp m hm => by
      have bm := blks_mem s q hq
      have := hBs_mem s hs
      have := cBs_mem s hs
      exact paths_ok n q.2 (p ++ [q.1]) m (by omega) (by omega) (by rw [List.length_append, List.length_singleton]; omega) hm) (by simp; omega)
    rw [List.nil_append] at h1
    have e : den_paths_in (pathsL n) [.tup (brsD b), tupI ah] mu = .ok (.vl (.ref mu.length)) (mu ++ [.lst ((rowsB b 0 ah).map rowP)]) := by
      refine noX_ok ?_
      rw [pi_er]
      have h1 : loopF (asgT 2 (asgCons (asgN 3) (asgCons (asgN 4) asgNil))) (piBody (pathsL n)) [3, 4, 5, 6] [] (enumD 0 (brsD b)) [some (.tup (brsD b)), some (tupI ah), some (.ref mu.length), none, none, none, none] (mu ++ [.lst []]) = _ := h1
      have we : wEnumA [.tup (brsD b)] (mu ++ [.lst []]) = .ok (enumD 0 (brsD b), []) (mu ++ [.lst []]) := rfl
      generalize (rowsB b 0 ah).map rowP = F at *
      generalize enumD 0 (brsD b) = EN at *
      generalize brsD b = B at *
      generalize tupI ah = T at *
      simp [startE, h1, we]
    exact fgt_list e rfl hc (Nat.le_refl _) (get_last rfl) (flats_clo _ (rows_flat _))
end KP
namespace MP
open PySem L2 PyProof.Rows
/-- the heap with lists of flat data behind it -/
def Ext (mu1 H : List MO) : Prop := ∃ ex, H = mu1 ++ ex ∧ FlO ex
theorem Ext.refl {mu1 : List MO} : Ext mu1 mu1 := ⟨[], by simp, .nil⟩
theorem Ext.clo {mu1 H : List MO} (h : Ext mu1 H) (hc : CloH mu1) : CloH H := by
  obtain ⟨ex, rfl, hf⟩ := h
  exact hc.flo hf
theorem Ext.snoc {mu1 H : List MO} {xs : List D} (h : Ext mu1 H) (hf : flats xs = true) : Ext mu1 (H ++ [.lst xs]) := by
  obtain ⟨ex, rfl, hx⟩ := h
  exact ⟨ex ++ [.lst xs], by rw [List.append_assoc], hx.app (.one hf)⟩
theorem Ext.le {mu1 H : List MO} (h : Ext mu1 H) : mu1.length ≤ H.length := by
  obtain ⟨ex, rfl, _⟩ := h
  rw [List.length_append]; omega
theorem Ext.set {mu1 H : List MO} {n : Nat} {xs : List D} (h : Ext mu1 H) (hn : mu1.length ≤ n) (hf : flats xs = true) : Ext mu1 (H.set n (.lst xs)) := by
  obtain ⟨ex, rfl, hx⟩ := h
  refine ⟨ex.set (n - mu1.length) (.lst xs), by rw [List.set_append_right _ _ hn], fun o ho => ?_⟩
  rcases List.mem_or_eq_of_mem_set ho with z | z
  · exact hx o z
  · exact ⟨xs, z, hf⟩
theorem gAdd_tupI {p q : List Int} {mu : List MO} (h : p.length + q.length ≤ sizeLine) : gAdd (tupI p) (tupI q) mu = .ok (tupI (p ++ q)) mu := by
  rw [gAdd_tup (by rw [List.length_map, List.length_map]; exact h), ← List.map_append]
theorem gAdd_ref2 {n : Nat} {xs ys : List D} {mu : List MO} (h : mu[n]? = some (.lst xs)) (hl : xs.length + ys.length ≤ sizeLine) : gAdd (.ref n) (.fl ys) mu = .ok (.fl (xs ++ ys)) mu := gAdd_ref h hl
end MP
namespace KP
open PySem L2 PyProof.Rows MP
theorem brsD_drop (b : List Br) (k : Nat) : (brsD b).drop k = brsD (b.drop k) := by rw [brsD_map, brsD_map, List.map_drop]
theorem brsD_get {b : List Br} {k : Nat} {s : Br} (h : b[k]? = some s) : (brsD b)[k]? = some (brD s) := by rw [brsD_map, List.getElem?_map, h]; rfl
theorem brsD_len (b : List Br) : (brsD b).length = b.length := by rw [brsD_map, List.length_map]
/-! ### the law's paths -/
abbrev rowD (r : Row) : D := .tup [tupI r.1, .tup (brsD r.2)]
theorem tupI_flat (p : List Int) : flat (tupI p) = true := by
  show flats (p.map D.int) = true
  exact flats_of fun d hd => by
    obtain ⟨i, _, e⟩ := List.mem_map.mp hd
    rw [← e]; rfl
theorem rowD_flat (r : Row) : flat (rowD r) = true := by
  have h1 := tupI_flat r.1
  have h2 := brsD_flat r.2
  show (flat (tupI r.1) && (flats (brsD r.2) && true)) = true
  rw [h1, h2]; rfl
theorem rowsD_flat (rs : List Row) : flats (rs.map rowD) = true := flats_of fun d hd => by
  obtain ⟨x, _, e⟩ := List.mem_map.mp hd
  rw [← e]; exact rowD_flat x
noncomputable def lpathsL : Nat → List D → M Rv
  | 0 => fun _ _ => .bad
  | n + 1 => fgt (den__law_paths_of den__law_inner_parts (lpathsL n))
noncomputable def lpIn (ds : List D → M Rv) : MP.Env → M Fl := (sSet 2 (eNew (fCat (eVar 2) (eCall (lenD 2 ds) (aCons (eBin gIx (eBin gIx (eVar 0) (eVar 3)) (eVar 4)) (aCons (eBin gAdd (eVar 1) (aThen gTup (aCons (eVar 3) (aCons (eVar 4) aNil)))) aNil))))))
noncomputable def lpBody (ds : List D → M Rv) : MP.Env → M Fl := (sSeq (sExpr (eMeth lstK gAppend (eVar 2) (aCons (aThen gTup (aCons (eBin gAdd (eVar 1) (aThen gTup (aCons (eVar 3) aNil))) (aCons (eSl (eVar 0) (oSome (eVar 3)) oNone) aNil))) aNil)))
  (sFor (eWalk (eCall (lenD 1 den__law_inner_parts) (aCons (eBin gIx (eVar 0) (eVar 3)) aNil))) (asgN 4) (lpIn ds) [4]))
theorem lp_er (ds : List D → M Rv) : r__law_paths_of den__law_inner_parts ds = (sSeq (sSet 2 (eNew (aList aNil)))
  (sSeq (sFor (wThen wRng1 (aCons (aThen (g1 gLen) (aCons (eVar 0) aNil)) aNil)) (asgN 3) (lpBody ds) [3, 4])
  (sRet (eVar 2)))) := rfl
theorem lp_inner {ds : List D → M Rv} {c : D} {ah : List Int} {k : Nat} {s : Br} {mu1 : List MO} (hc : CloH mu1) (hi : ∀ mu, gIx c (.int (k : Int)) mu = .ok (brD s) mu) (ha : ah.length < 1000) (hd : ∀ q ∈ blks s, ∀ mu, CloH mu → ds [.tup (brsD q.2), tupI (ah ++ [(k : Int)] ++ [q.1])] mu = .ok (.fr ((rowsB q.2 0 (ah ++ [(k : Int)] ++ [q.1])).map rowD)) mu) :
    ∀ (ps : List (Int × List Br)) (acc : List Row) (n : Nat) (H : List MO) (o4 : Option D), (∀ q ∈ ps, q ∈ blks s) → acc.length + (ps.map fun q => cBs q.2).sum < 200000 → Ext mu1 H → mu1.length ≤ n → H[n]? = some (.lst (acc.map rowD)) →
    ∃ n' H', loopF (asgN 4) (lpIn ds) [4] [] (ps.map fun q => D.int q.1) [some c, some (tupI ah), some (.ref n), some (.int (k : Int)), o4] H
      = .ok (.nx [some c, some (tupI ah), some (.ref n'), some (.int (k : Int)), none]) H' ∧ Ext mu1 H' ∧ mu1.length ≤ n' ∧ H'[n']? = some (.lst ((acc ++ ps.flatMap fun q => rowsB q.2 0 (ah ++ [(k : Int)] ++ [q.1])).map rowD))
  | [], acc, n, H, o4, _, _, hx, hn, hg => ⟨n, H, by
    show loopF _ _ _ [] [] _ _ = _
    rw [loopF_nil]; rfl, hx, hn, by rw [List.flatMap_nil, List.append_nil]; exact hg⟩
  | q :: ps, acc, n, H, o4, h, hl, hx, hn, hg => by
    have s2 : (2 : Nat) ≤ sizeLine := by decide
    rw [List.map_cons, List.sum_cons] at hl
    have hq := h q (by simp)
    have e := hd q hq H (hx.clo hc)
    have ix := blk_ix s H q hq
    have ga := gAdd_tupI (p := ah) (q := [(k : Int), q.1]) (mu := H) (by rw [sizeLine_eq]; simp; omega)
    rw [show ah ++ [(k : Int), q.1] = ah ++ [(k : Int)] ++ [q.1] from by simp] at ga
    have gf : rdM (.ref n) H = .ok (acc.map rowD) H := by rw [rdM_ref, atL_ap, hg]; rfl
    obtain ⟨n', H', e2, hx', hn', hg'⟩ := lp_inner (c := c) (k := k) hc hi ha hd ps (acc ++ rowsB q.2 0 (ah ++ [(k : Int)] ++ [q.1])) H.length (H ++ [.lst ((acc ++ rowsB q.2 0 (ah ++ [(k : Int)] ++ [q.1])).map rowD)]) (some (.int q.1)) (fun x hx => h x (by simp [hx])) (by rw [List.length_append, rowsB_len]; omega) (hx.snoc (rowsD_flat _)) hx.le (get_last rfl)
    refine ⟨n', H', ?_, hx', hn', by rw [List.flatMap_cons, ← List.append_assoc]; exact hg'⟩
    rw [List.map_cons]
    refine (loopF_step (env1 := [some c, some (tupI ah), some (.ref n), some (.int (k : Int)), some (.int q.1)]) rfl ?_).trans e2
    · have hi := hi H
      have hlen : (acc.map rowD).length + ((rowsB q.2 0 (ah ++ [(k : Int)] ++ [q.1])).map rowD).length ≤ sizeLine := by rw [List.length_map, List.length_map, rowsB_len, sizeLine_eq]; omega
      have ga : gAdd (tupI ah) (.tup [.int (k : Int), .int q.1]) H = _ := ga
      rw [List.map_append]
      generalize (rowsB q.2 0 (ah ++ [(k : Int)] ++ [q.1])).map rowD = F2 at *
      generalize acc.map rowD = A at *
      generalize tupI (ah ++ [(k : Int)] ++ [q.1]) = T2 at *
      generalize tupI ah = T at *
      generalize brsD q.2 = B at *
      generalize brD s = S at *
      simp [lpIn, hi, ix, gTup_ok, s2, ga, e, gf, hg, hlen]
theorem lp_outer {ds : List D → M Rv} {b : List Br} {ah : List Int} {mu1 : List MO} (hc : CloH mu1) (ha : ah.length < 1000)
    (hd : ∀ s ∈ b, ∀ q ∈ blks s, ∀ (p : List Int), p.length ≤ ah.length + 1 → ∀ mu, CloH mu → ds [.tup (brsD q.2), tupI (p ++ [q.1])] mu = .ok (.fr ((rowsB q.2 0 (p ++ [q.1])).map rowD)) mu) :
    ∀ (r : List Br) (k : Nat) (acc : List Row) (n : Nat) (H : List MO) (o3 o4 : Option D), b.drop k = r → acc.length + cBs r < 150000 → Ext mu1 H → mu1.length ≤ n → H[n]? = some (.lst (acc.map rowD)) →
    ∃ n' H', loopF (asgN 3) (lpBody ds) [3, 4] [] ((List.range' k r.length).map fun (i : Nat) => D.int (i : Int)) [some (.tup (brsD b)), some (tupI ah), some (.ref n), o3, o4] H
      = .ok (.nx [some (.tup (brsD b)), some (tupI ah), some (.ref n'), none, none]) H' ∧ Ext mu1 H' ∧ mu1.length ≤ n' ∧ H'[n']? = some (.lst ((acc ++ rowsB r k ah).map rowD))
  | [], k, acc, n, H, o3, o4, _, _, hx, hn, hg => ⟨n, H, by
    show loopF _ _ _ [] [] _ _ = _
    rw [loopF_nil]; rfl, hx, hn, by rw [rowsB, List.append_nil]; exact hg⟩
  | s :: r, k, acc, n, H, o3, o4, hb, hl, hx, hn, hg => by
    have s1 : (1 : Nat) ≤ sizeLine := by decide
    have s2 : (2 : Nat) ≤ sizeLine := by decide
    rw [cBs] at hl
    have hbk : b[k]? = some s := by
      have e : (b.drop k)[0]? = some s := by rw [hb]; rfl
      rw [List.getElem?_drop] at e
      simpa using e
    have hbr : b.drop (k + 1) = r := by
      have e := congrArg List.tail hb
      rw [List.tail_drop] at e
      exact e
    have hsm : s ∈ b := List.mem_of_getElem? hbk
    have ix : ∀ mu, gIx (.tup (brsD b)) (.int (k : Int)) mu = .ok (brD s) mu := fun mu => by rw [gIx_tup]; exact ixD_nat (brsD_get hbk)
    have sl : gSl (.tup (brsD b)) (some (k : Int)) none H = .ok (.tup (brsD (s :: r))) H := by rw [gSl_tup, cutD_drop, brsD_drop, hb]
    have ga := gAdd_tupI (p := ah) (q := [(k : Int)]) (mu := H) (by rw [sizeLine_eq]; simp; omega)
    have hap := append_ok (d := rowD (ah ++ [(k : Int)], s :: r)) hg (by rw [List.length_map, sizeLine_eq]; omega)
    have e1 : acc.map rowD ++ [rowD (ah ++ [(k : Int)], s :: r)] = (acc ++ [(ah ++ [(k : Int)], s :: r)]).map rowD := by rw [List.map_append]; rfl
    rw [e1] at hap
    have hnl : n < H.length := (List.getElem?_eq_some_iff.mp hg).1
    obtain ⟨n1, H1, e2, hx1, hn1, hg1⟩ := lp_inner (c := .tup (brsD b)) (ah := ah) (k := k) (s := s) hc ix ha (fun q hq mu hm => hd s hsm q hq _ (by simp) mu hm) (blks s) (acc ++ [(ah ++ [(k : Int)], s :: r)]) n (H.set n (.lst ((acc ++ [(ah ++ [(k : Int)], s :: r)]).map rowD))) none (fun q hq => hq) (by have := (blks_cnt s).1; rw [List.length_append, List.length_singleton]; omega) (hx.set hn (rowsD_flat _)) hn (List.getElem?_set_self hnl)
    rw [← rowsS_blks] at hg1
    have e3 : acc ++ [(ah ++ [(k : Int)], s :: r)] ++ rowsS s (ah ++ [(k : Int)]) = acc ++ (ah ++ [(k : Int)], s :: r) :: rowsS s (ah ++ [(k : Int)]) := by simp
    rw [e3] at hg1
    obtain ⟨n2, H2, e4, hx2, hn2, hg2⟩ := lp_outer (b := b) hc ha hd r (k + 1) (acc ++ (ah ++ [(k : Int)], s :: r) :: rowsS s (ah ++ [(k : Int)])) n1 H1 (some (.int (k : Int))) none hbr (by rw [List.length_append, List.length_cons, rowsS_len]; omega) hx1 hn1 hg1
    have e5 : acc ++ (ah ++ [(k : Int)], s :: r) :: rowsS s (ah ++ [(k : Int)]) ++ rowsB r (k + 1) ah = acc ++ rowsB (s :: r) k ah := by rw [rowsB]; simp
    rw [e5] at hg2
    refine ⟨n2, H2, ?_, hx2, hn2, hg2⟩
    rw [List.length_cons, List.range'_succ, List.map_cons]
    refine (loopF_step (env1 := [some (.tup (brsD b)), some (tupI ah), some (.ref n), some (.int (k : Int)), none]) rfl ?_).trans e4
    have pk := fun m => parts_ok s m
    have hap : gAppend (.ref n) [.tup [tupI (ah ++ [(k : Int)]), .tup (brsD (s :: r))]] H = _ := hap
    have ga : gAdd (tupI ah) (.tup [.int (k : Int)]) H = _ := ga
    have ix1 := ix H
    have ix2 := ix (H.set n (.lst ((acc ++ [(ah ++ [(k : Int)], s :: r)]).map rowD)))
    generalize (acc ++ [(ah ++ [(k : Int)], s :: r)]).map rowD = F at *
    generalize acc.map rowD = A at *
    generalize tupI (ah ++ [(k : Int)]) = T2 at *
    generalize tupI ah = T at *
    generalize (blks s).map (fun q => D.int q.1) = IX at *
    generalize brsD (s :: r) = B2 at *
    generalize D.tup (brsD b) = B at *
    generalize brD s = S at *
    simp [lpBody, lstK_ref hg, gTup_ok, s1, s2, ga, sl, hap, ix2, pk, e2]
theorem lpaths_ok : ∀ (n : Nat) (b : List Br) (ah : List Int) (mu : List MO), hBs b < n → cBs b < 100000 → ah.length + 2 * n < 1000 → CloH mu → lpathsL n [.tup (brsD b), tupI ah] mu = .ok (.fr ((rowsB b 0 ah).map rowD)) mu
  | 0, _, _, _, h, _, _, _ => by omega
  | n + 1, b, ah, mu, h, hb, ha, hc => by
    have hlen := cBs_len b
    obtain ⟨n', H', h1, ⟨ex, rfl, hf⟩, hn', hg'⟩ := lp_outer (ds := lpathsL n) (b := b) (ah := ah) (mu1 := mu) hc (by omega) (fun s hs q hq p hp m hm => by
      have bm := blks_mem s q hq
      have := hBs_mem s hs
      have := cBs_mem s hs
      exact lpaths_ok n q.2 (p ++ [q.1]) m (by omega) (by omega) (by rw [List.length_append, List.length_singleton]; omega) hm) b 0 [] mu.length (mu ++ [.lst []]) none none rfl (by simp; omega) (Ext.refl.snoc rfl) (Nat.le_refl _) (get_last rfl)
    rw [List.nil_append] at hg'
    have e : den__law_paths_of den__law_inner_parts (lpathsL n) [.tup (brsD b), tupI ah] mu = .ok (.vl (.ref n')) (mu ++ ex) := by
      refine noX_ok ?_
      rw [lp_er]
      have hr : rngD 0 (brsD b).length = (List.range' 0 b.length).map fun (i : Nat) => D.int (i : Int) := by rw [brsD_len, rng_eq]
      have wr : wRng1 [.int ((brsD b).length : Int)] (mu ++ [.lst []]) = .ok (rngD 0 (brsD b).length, []) (mu ++ [.lst []]) := by
        rw [wRng1_ok (by rw [brsD_len]; omega)]; rfl
      rw [hr] at wr
      generalize (List.range' 0 b.length).map (fun (i : Nat) => D.int (i : Int)) = RG at *
      generalize brsD b = B at *
      generalize tupI ah = T at *
      simp [startE, h1, wr]
    exact fgt_list e rfl hc hn' hg' (flats_clo _ (rowsD_flat _))
end KP
namespace MP
open PySem L2 PyProof.Rows
theorem ixD_last {xs : List D} {d : D} {mu : List MO} : ixD (xs ++ [d]) (-1) mu = .ok d mu := ixD_at (by
  unfold atI ixN
  have h : (xs ++ [d]).length = xs.length + 1 := by simp
  rw [if_neg (by omega), h, if_pos (by omega)]
  show (xs ++ [d])[_]? = some d
  rw [show (-1 + ((xs.length + 1 : Nat) : Int)).toNat = xs.length from by omega, List.getElem?_append_right (Nat.le_refl _)]
  simp)
end MP
namespace KP
open PySem L2 PyProof.Rows MP
/-! ### where a path leads: the block, the place in it -/
inductive Loc : List Br → List Int → List Br → Nat → Prop where
  | here {b : List Br} {i : Nat} {s : Br} (h : b[i]? = some s) : Loc b [(i : Int)] b i
  | deep {b : List Br} {i : Nat} {s : Br} {q : Int × List Br} {p : List Int} {c : List Br} {j : Nat} (h : b[i]? = some s) (hq : q ∈ blks s) (l : Loc q.2 p c j) : Loc b ((i : Int) :: q.1 :: p) c j
theorem Loc.get {b c : List Br} {p : List Int} {j : Nat} (l : Loc b p c j) : ∃ s, c[j]? = some s := by
  induction l with
  | here h => exact ⟨_, h⟩
  | deep _ _ _ ih => exact ih
theorem Loc.last {b c : List Br} {p : List Int} {j : Nat} (l : Loc b p c j) : ∃ r, p = r ++ [(j : Int)] := by
  induction l with
  | here h => exact ⟨[], rfl⟩
  | deep _ _ _ ih => obtain ⟨r, e⟩ := ih; exact ⟨_ :: _ :: r, by rw [e]; rfl⟩
theorem Loc.wf {b c : List Br} {p : List Int} {j : Nat} (l : Loc b p c j) (h : wfBs b) : wfBs c := by
  induction l with
  | here _ => exact h
  | deep hi hq _ ih => exact ih ((blks_mem _ _ hq).2.2 (wfBs_mem h _ (List.mem_of_getElem? hi)))
theorem Loc.sz {b c : List Br} {p : List Int} {j : Nat} (l : Loc b p c j) : hBs c ≤ hBs b ∧ cBs c ≤ cBs b ∧ p.length ≤ 2 * hBs b + 1 := by
  induction l with
  | here _ => simp
  | deep hi hq _ ih =>
    have h1 := blks_mem _ _ hq
    have h2 := hBs_mem _ (List.mem_of_getElem? hi)
    have h3 := cBs_mem _ (List.mem_of_getElem? hi)
    simp only [List.length_cons]
    omega
theorem rows_loc : ∀ (n : Nat) (b : List Br) (k : Nat) (ah : List Int) (full : List Br), hBs b < n → full.drop k = b → ∀ row ∈ rowsB b k ah, ∃ p c j, row.1 = ah ++ p ∧ Loc full p c j ∧ c.drop j = row.2
  | 0, _, _, _, _, h, _, _, _ => by omega
  | n + 1, [], _, _, _, _, _, _, hr => by cases hr
  | n + 1, s :: r, k, ah, full, h, hb, row, hr => by
    have hbk : full[k]? = some s := by
      have e : (full.drop k)[0]? = some s := by rw [hb]; rfl
      rw [List.getElem?_drop] at e
      simpa using e
    have hbr : full.drop (k + 1) = r := by
      have e := congrArg List.tail hb
      rw [List.tail_drop] at e
      exact e
    rw [hBs] at h
    rw [rowsB] at hr
    rcases List.mem_cons.mp hr with e | hr
    · exact ⟨[(k : Int)], full, k, by rw [e], .here hbk, by rw [e]; exact hb⟩
    · rcases List.mem_append.mp hr with hr | hr
      · rw [rowsS_blks] at hr
        obtain ⟨q, hq, hr⟩ := List.mem_flatMap.mp hr
        have bm := blks_mem s q hq
        obtain ⟨p, c, j, e1, e2, e3⟩ := rows_loc n q.2 0 _ q.2 (by omega) rfl row hr
        exact ⟨(k : Int) :: q.1 :: p, c, j, by rw [e1]; simp, .deep hbk hq e2, e3⟩
      · exact rows_loc (n + 1) r (k + 1) ah full (by omega) hbr row hr
termination_by n b => (n, b.length)
noncomputable def stAtL : Nat → List D → M Rv
  | 0 => fun _ _ => .bad
  | n + 1 => den_statement_at (stAtL n)
noncomputable def blAtL : Nat → List D → M Rv
  | 0 => fun _ _ => .bad
  | n + 1 => den_block_at (blAtL n)
theorem stAt_eq {n : Nat} {ds : List D} : stAtL (n + 1) ds = noX (runB 3 (r_statement_at (stAtL n)) ds) := rfl
theorem blAt_eq {n : Nat} {ds : List D} : blAtL (n + 1) ds = noX (runB 2 (r_block_at (blAtL n)) ds) := rfl
theorem len_one {a b : Int} {p : List Int} (hp : p ≠ []) : (((a :: b :: p).length : Int) == 1) = false := by
  rw [beq_eq_false_iff_ne]
  simp only [List.length_cons]
  omega
theorem stAt_ok {mu : List MO} : ∀ (n : Nat) {b c : List Br} {p : List Int} {j : Nat}, Loc b p c j → p.length < 2 * n → ∃ s, c[j]? = some s ∧ stAtL n [.tup (brsD b), tupI p] mu = .ok (.vl (brD s)) mu
  | 0, _, _, _, _, _, h => by omega
  | n + 1, b, c, p, j, l, h => by
    cases l with
    | @here _ i s hi =>
      refine ⟨s, hi, ?_⟩
      rw [stAt_eq]
      refine noX_ok ?_
      have ix := ixD_nat (mu := mu) (brsD_get hi)
      generalize brD s = S at *
      generalize brsD b = B at *
      simp [r_statement_at, startE, tupI, ix, gEq_ints]
    | @deep _ i s q p c j hi hq l =>
      obtain ⟨r, hr⟩ := l.last
      simp only [List.length_cons] at h
      obtain ⟨s', h1, h2⟩ := stAt_ok (mu := mu) n l (by omega)
      refine ⟨s', h1, ?_⟩
      rw [stAt_eq]
      refine noX_ok ?_
      have ix := ixD_nat (mu := mu) (brsD_get hi)
      have iq := blk_ix s mu q hq
      have ln := len_one (a := (i : Int)) (b := q.1) (p := p) (by rw [hr]; simp)
      have sl : gSl (tupI ((i : Int) :: q.1 :: p)) (some 2) none mu = .ok (tupI p) mu := by
        rw [show (2 : Int) = ((2 : Nat) : Int) from rfl, gSl_tup, cutD_drop]; rfl
      have i0 : gIx (tupI ((i : Int) :: q.1 :: p)) (.int 0) mu = .ok (.int (i : Int)) mu := by simp [tupI]
      have i1 : gIx (tupI ((i : Int) :: q.1 :: p)) (.int 1) mu = .ok (.int q.1) mu := by simp [tupI]
      have le : gLen (tupI ((i : Int) :: q.1 :: p)) mu = .ok (.int (((i : Int) :: q.1 :: p).length : Int)) mu := by
        show R.ok (D.int ((((i : Int) :: q.1 :: p).map D.int).length : Int)) mu = _
        rw [List.length_map]
      generalize (((i : Int) :: q.1 :: p).length : Int) = LN at *
      generalize tupI ((i : Int) :: q.1 :: p) = PT at *
      generalize tupI p = T at *
      generalize brsD q.2 = B2 at *
      generalize brD s = S at *
      generalize brsD b = B at *
      simp [r_statement_at, startE, i0, i1, ix, iq, le, gEq_ints, ln, sl, h2]
theorem blAt_ok {mu : List MO} : ∀ (n : Nat) {b c : List Br} {p : List Int} {j : Nat}, Loc b p c j → p.length < 2 * n → blAtL n [.tup (brsD b), tupI p] mu = .ok (.vl (.tup (brsD c))) mu
  | 0, _, _, _, _, _, h => by omega
  | n + 1, b, c, p, j, l, h => by
    cases l with
    | @here _ i s hi =>
      rw [blAt_eq]
      refine noX_ok ?_
      generalize brsD b = B at *
      simp [r_block_at, startE, tupI, gEq_ints]
    | @deep _ i s q p c j hi hq l =>
      obtain ⟨r, hr⟩ := l.last
      simp only [List.length_cons] at h
      have h2 := blAt_ok (mu := mu) n l (by omega)
      rw [blAt_eq]
      refine noX_ok ?_
      have ix := ixD_nat (mu := mu) (brsD_get hi)
      have iq := blk_ix s mu q hq
      have ln := len_one (a := (i : Int)) (b := q.1) (p := p) (by rw [hr]; simp)
      have sl : gSl (tupI ((i : Int) :: q.1 :: p)) (some 2) none mu = .ok (tupI p) mu := by
        rw [show (2 : Int) = ((2 : Nat) : Int) from rfl, gSl_tup, cutD_drop]; rfl
      have i0 : gIx (tupI ((i : Int) :: q.1 :: p)) (.int 0) mu = .ok (.int (i : Int)) mu := by simp [tupI]
      have i1 : gIx (tupI ((i : Int) :: q.1 :: p)) (.int 1) mu = .ok (.int q.1) mu := by simp [tupI]
      have le : gLen (tupI ((i : Int) :: q.1 :: p)) mu = .ok (.int (((i : Int) :: q.1 :: p).length : Int)) mu := by
        show R.ok (D.int ((((i : Int) :: q.1 :: p).map D.int).length : Int)) mu = _
        rw [List.length_map]
      generalize (((i : Int) :: q.1 :: p).length : Int) = LN at *
      generalize tupI ((i : Int) :: q.1 :: p) = PT at *
      generalize tupI p = T at *
      generalize brsD q.2 = B2 at *
      generalize brD s = S at *
      generalize brsD b = B at *
      simp [r_block_at, startE, i0, i1, ix, iq, le, gEq_ints, ln, sl, h2]
end KP
namespace KP
open PySem L2 PyProof.Rows MP
/-! ### which changes a place takes -/
def conS : Br → Bool
  | .ite c _ _ => (conO c).isSome
  | _ => false
def nextB (s : Br) : Option Br → Bool
  | some t => swapB s t
  | none => false
def fitsB (kind : Str) (s : Br) (nx : Option Br) : Bool :=
  if (kind == Str.ofString "turn") = true then brK s == Str.ofString "if"
  else if ((kind == Str.ofString "peel") || (kind == Str.ofString "twice")) = true then brK s == Str.ofString "while" && !givB s
  else if (kind == Str.ofString "swap") = true then nextB s nx
  else if (kind == Str.ofString "rest") = true then true
  else if (kind == Str.ofString "unrest") = true then brK s == Str.ofString "pause"
  else brK s == Str.ofString "if" && (conS s && !givB s)
noncomputable abbrev dStAt : List D → M Rv := stAtL 6
noncomputable abbrev dBlAt : List D → M Rv := blAtL 6
noncomputable abbrev dGives : List D → M Rv := givesL 6
noncomputable abbrev dLGives : List D → M Rv := lgivesL 6
noncomputable abbrev dApart : List D → M Rv := den_are_apart dSimple
noncomputable abbrev dSwap : List D → M Rv := den__law_may_swap den__law_changed_names dLSeen
/-- what the last test asks of an if -/
theorem con_part {s : Br} {mu : List MO} (h : wfB s) : brK s == Str.ofString "if" → ∃ c d, gIx (brD s) (.int 1) mu = .ok d mu ∧ den_constant_side [d] mu = .ok (.vl c) mu ∧ den__law_always [d] mu = .ok (.vl c) mu ∧ gIsN true c .non mu = .ok (.bl (conS s)) mu := fun hk => by
  cases s with
  | ite c b b' =>
    refine ⟨conD c, cnD c, by simp [brD], constant_ok h.1, always_ok h.1, ?_⟩
    have q : ∀ o : Option Bool, gIsN true (match o with
      | some b => D.bl b
      | none => .non) .non mu = .ok (.bl o.isSome) mu := fun o => by cases o <;> simp [gIsN, isN]
    exact q (conO c)
  | _ => exact absurd (show false = true from hk) (by decide)
theorem can_ok {b c : List Br} {p : List Int} {j : Nat} {s : Br} {kind : Str} {mu : List MO} (l : Loc b p c j) (hs : c[j]? = some s) (hw : wfBs b) (hh : hBs b < 5) (hn : cBs b < 90000) (hc : CloH mu) :
    den_can_change dStAt dGives dBlAt dApart den_constant_side [.tup (brsD b), tupI p, .str kind] mu = .ok (.vl (.bl (fitsB kind s c[j + 1]?))) mu := by
  have hsz := l.sz
  have hwc := l.wf hw
  have ws := wfBs_mem hwc s (List.mem_of_getElem? hs)
  have h1 := hBs_mem s (List.mem_of_getElem? hs)
  have h2 := cBs_mem s (List.mem_of_getElem? hs)
  obtain ⟨s', e1, st⟩ := stAt_ok (mu := mu) 6 l (by omega)
  rw [hs] at e1
  cases e1
  have bl := blAt_ok (mu := mu) 6 l (by omega)
  have gv := gives_ok 6 s mu (by omega) (by omega)
  have b0 := br_0 s mu
  have st : dStAt [.tup (brsD b), tupI p] mu = .ok (.vl (brD s)) mu := st
  have bl : dBlAt [.tup (brsD b), tupI p] mu = .ok (.vl (.tup (brsD c))) mu := bl
  have gv : dGives [brD s] mu = .ok (.vl (.bl (givB s))) mu := gv
  obtain ⟨r, hr⟩ := l.last
  have il : gIx (tupI p) (.int (-1)) mu = .ok (.int (j : Int)) mu := by
    rw [hr]
    show ixD ((r ++ [(j : Int)]).map D.int) (-1) mu = _
    rw [List.map_append]
    exact ixD_last
  refine noX_ok ?_
  unfold fitsB
  cases k1 : kind == Str.ofString "turn" with
  | true =>
    rw [if_pos rfl]
    generalize brsD b = B at *
    generalize tupI p = T at *
    generalize brD s = S at *
    generalize brK s = K at *
    simp [r_can_change, startE, st, gEq_strs, k1, b0]
  | false =>
  rw [if_neg (by decide)]
  cases k2 : ((kind == Str.ofString "peel") || (kind == Str.ofString "twice")) with
  | true =>
    rw [if_pos rfl]
    cases k2' : kind == Str.ofString "peel" with
    | true =>
      generalize brsD b = B at *
      generalize tupI p = T at *
      generalize brD s = S at *
      generalize brK s = K at *
      generalize givB s = G at *
      cases hK : K == Str.ofString "while" <;> simp [r_can_change, startE, st, gEq_strs, k1, k2', b0, hK, gv]
    | false =>
      rw [k2', Bool.false_or] at k2
      generalize brsD b = B at *
      generalize tupI p = T at *
      generalize brD s = S at *
      generalize brK s = K at *
      generalize givB s = G at *
      cases hK : K == Str.ofString "while" <;> simp [r_can_change, startE, st, gEq_strs, k1, k2', k2, b0, hK, gv]
  | false =>
  rw [if_neg (by decide)]
  rw [Bool.or_eq_false_iff] at k2
  obtain ⟨k2, k2'⟩ := k2
  cases k3 : kind == Str.ofString "swap" with
  | true =>
    rw [if_pos rfl]
    have lc : gLen (.tup (brsD c)) mu = .ok (.int ((brsD c).length : Int)) mu := rfl
    have ga : gAdd (.int (j : Int)) (.int 1) mu = .ok (.int ((j : Int) + 1)) mu := by simp
    cases hx : c[j + 1]? with
    | none =>
      have hlt : decide (((j : Int) + 1) < ((brsD c).length : Int)) = false := by
        rw [decide_eq_false_iff_not, brsD_len]
        have := List.getElem?_eq_none_iff.mp hx
        omega
      generalize ((brsD c).length : Int) = LN at *
      generalize brsD b = B at *
      generalize brsD c = C at *
      generalize tupI p = T at *
      generalize brD s = S at *
      generalize (j : Int) = J at *
      simp [r_can_change, startE, st, gEq_strs, k1, k2, k2', k3, bl, il, lc, hlt, nextB]
    | some t =>
      have hlt : decide (((j : Int) + 1) < ((brsD c).length : Int)) = true := by
        rw [decide_eq_true_eq, brsD_len]
        have := (List.getElem?_eq_some_iff.mp hx).1
        omega
      have ixn : gIx (.tup (brsD c)) (.int ((j : Int) + 1)) mu = .ok (brD t) mu := by
        rw [show ((j : Int) + 1) = ((j + 1 : Nat) : Int) from by omega, gIx_tup]
        exact ixD_nat (brsD_get hx)
      have ap := apart_ok (s := s) (t := t) ws (wfBs_mem hwc t (List.mem_of_getElem? hx)) hc
      rw [apart_swap] at ap
      have ap : dApart [brD s, brD t] mu = .ok (.vl (.bl (swapB s t))) mu := ap
      generalize ((brsD c).length : Int) = LN at *
      generalize brsD b = B at *
      generalize D.tup (brsD c) = C at *
      generalize tupI p = T at *
      generalize brD s = S at *
      generalize brD t = S2 at *
      generalize (j : Int) = J at *
      simp [r_can_change, startE, st, gEq_strs, k1, k2, k2', k3, bl, il, lc, hlt, nextB, ixn, ap]
  | false =>
  rw [if_neg (by decide)]
  cases k4 : kind == Str.ofString "rest" with
  | true =>
    rw [if_pos rfl]
    generalize brsD b = B at *
    generalize tupI p = T at *
    generalize brD s = S at *
    simp [r_can_change, startE, st, gEq_strs, k1, k2, k2', k3, k4]
  | false =>
  rw [if_neg (by decide)]
  cases k5 : kind == Str.ofString "unrest" with
  | true =>
    rw [if_pos rfl]
    generalize brsD b = B at *
    generalize tupI p = T at *
    generalize brD s = S at *
    generalize brK s = K at *
    simp [r_can_change, startE, st, gEq_strs, k1, k2, k2', k3, k4, k5, b0]
  | false =>
  rw [if_neg (by decide)]
  cases k6 : brK s == Str.ofString "if" with
  | false =>
    generalize brsD b = B at *
    generalize tupI p = T at *
    generalize brD s = S at *
    generalize brK s = K at *
    simp [r_can_change, startE, st, gEq_strs, k1, k2, k2', k3, k4, k5, k6, b0]
  | true =>
    obtain ⟨cc, d, c1, c2, c3, c4⟩ := con_part (mu := mu) ws k6
    generalize brsD b = B at *
    generalize tupI p = T at *
    generalize brD s = S at *
    generalize brK s = K at *
    generalize conS s = CS at *
    generalize givB s = G at *
    cases CS <;> simp [r_can_change, startE, st, gEq_strs, k1, k2, k2', k3, k4, k5, k6, b0, c1, c2, c4, gv]
theorem fits_ok {s : Br} {r : List Br} {kind : Str} {mu : List MO} (hw : wfBs (s :: r)) (hh : hB s < 5) :
    den__law_fits_kind dLGives dSwap den__law_always [.str kind, .tup (brsD (s :: r))] mu = .ok (.vl (.bl (fitsB kind s r[0]?))) mu := by
  have ws : wfB s := wfBs_mem hw s (by simp)
  have gv := lgives_ok 6 s mu (by omega)
  have gv : dLGives [brD s] mu = .ok (.vl (.bl (givB s))) mu := gv
  have b0 := br_0 s mu
  have i0 : gIx (.tup (brsD (s :: r))) (.int 0) mu = .ok (brD s) mu := by simp [brsD]
  have lc : gLen (.tup (brsD (s :: r))) mu = .ok (.int ((s :: r).length : Int)) mu := by
    show R.ok (D.int ((brsD (s :: r)).length : Int)) mu = _
    rw [brsD_len]
  refine noX_ok ?_
  unfold fitsB
  cases k1 : kind == Str.ofString "turn" with
  | true =>
    rw [if_pos rfl]
    generalize D.tup (brsD (s :: r)) = B at *
    generalize brD s = S at *
    generalize brK s = K at *
    simp [r__law_fits_kind, startE, i0, gEq_strs, k1, b0]
  | false =>
  rw [if_neg (by decide)]
  cases k2 : ((kind == Str.ofString "peel") || (kind == Str.ofString "twice")) with
  | true =>
    rw [if_pos rfl]
    cases k2' : kind == Str.ofString "peel" with
    | true =>
      generalize D.tup (brsD (s :: r)) = B at *
      generalize brD s = S at *
      generalize brK s = K at *
      generalize givB s = G at *
      cases hK : K == Str.ofString "while" <;> simp [r__law_fits_kind, startE, i0, gEq_strs, k1, k2', b0, hK, gv]
    | false =>
      rw [k2', Bool.false_or] at k2
      generalize D.tup (brsD (s :: r)) = B at *
      generalize brD s = S at *
      generalize brK s = K at *
      generalize givB s = G at *
      cases hK : K == Str.ofString "while" <;> simp [r__law_fits_kind, startE, i0, gEq_strs, k1, k2', k2, b0, hK, gv]
  | false =>
  rw [if_neg (by decide)]
  rw [Bool.or_eq_false_iff] at k2
  obtain ⟨k2, k2'⟩ := k2
  cases k3 : kind == Str.ofString "swap" with
  | true =>
    rw [if_pos rfl]
    cases r with
    | nil =>
      generalize D.tup (brsD [s]) = B at *
      generalize brD s = S at *
      simp [r__law_fits_kind, startE, i0, gEq_strs, k1, k2, k2', k3, lc, nextB]
    | cons t r =>
      have hlt : decide ((1 : Int) < ((s :: t :: r).length : Int)) = true := by
        rw [decide_eq_true_eq]; simp only [List.length_cons]; omega
      have ixn : gIx (.tup (brsD (s :: t :: r))) (.int 1) mu = .ok (brD t) mu := by simp [brsD]
      have ap := swap_ok (s := s) (t := t) (mu := mu) ws (wfBs_mem hw t (by simp))
      have ap : dSwap [brD s, brD t] mu = .ok (.vl (.bl (swapB s t))) mu := ap
      have nx : nextB s (t :: r)[0]? = swapB s t := rfl
      rw [nx]
      generalize ((s :: t :: r).length : Int) = LN at *
      generalize D.tup (brsD (s :: t :: r)) = B at *
      generalize brD s = S at *
      generalize brD t = S2 at *
      simp [r__law_fits_kind, startE, i0, gEq_strs, k1, k2, k2', k3, lc, hlt, ixn, ap]
  | false =>
  rw [if_neg (by decide)]
  cases k4 : kind == Str.ofString "rest" with
  | true =>
    rw [if_pos rfl]
    generalize D.tup (brsD (s :: r)) = B at *
    generalize brD s = S at *
    simp [r__law_fits_kind, startE, i0, gEq_strs, k1, k2, k2', k3, k4]
  | false =>
  rw [if_neg (by decide)]
  cases k5 : kind == Str.ofString "unrest" with
  | true =>
    rw [if_pos rfl]
    generalize D.tup (brsD (s :: r)) = B at *
    generalize brD s = S at *
    generalize brK s = K at *
    simp [r__law_fits_kind, startE, i0, gEq_strs, k1, k2, k2', k3, k4, k5, b0]
  | false =>
  rw [if_neg (by decide)]
  cases k6 : brK s == Str.ofString "if" with
  | false =>
    generalize D.tup (brsD (s :: r)) = B at *
    generalize brD s = S at *
    generalize brK s = K at *
    simp [r__law_fits_kind, startE, i0, gEq_strs, k1, k2, k2', k3, k4, k5, k6, b0]
  | true =>
    obtain ⟨cc, d, c1, c2, c3, c4⟩ := con_part (mu := mu) ws k6
    generalize D.tup (brsD (s :: r)) = B at *
    generalize brD s = S at *
    generalize brK s = K at *
    generalize conS s = CS at *
    generalize givB s = G at *
    cases CS <;> simp [r__law_fits_kind, startE, i0, gEq_strs, k1, k2, k2', k3, k4, k5, k6, b0, c1, c3, c4, gv]
end KP
namespace KP
open PySem L2 PyProof.Rows MP
/-! ### the rows stand in order -/
theorem lexI_app : ∀ (a x y : List Int), lexI (a ++ x) (a ++ y) = lexI x y
  | [], _, _ => rfl
  | i :: a, x, y => by
    show (if i = i then lexI (a ++ x) (a ++ y) else decide (i < i)) = _
    rw [if_pos rfl, lexI_app a x y]
theorem lexI_lt {i j : Int} {x y : List Int} (h : i < j) : lexI (i :: x) (j :: y) = true := by
  unfold lexI
  rw [if_neg (by omega)]
  exact decide_eq_true h
theorem rowsB_pre : ∀ (n : Nat) (b : List Br) (k : Nat) (ah : List Int), hBs b < n → ∀ row ∈ rowsB b k ah, ∃ (i : Nat) (t : List Int), k ≤ i ∧ row.1 = ah ++ (i : Int) :: t
  | 0, _, _, _, h, _, _ => by omega
  | n + 1, [], _, _, _, _, hr => by cases hr
  | n + 1, s :: r, k, ah, h, row, hr => by
    rw [hBs] at h
    rw [rowsB] at hr
    rcases List.mem_cons.mp hr with e | hr
    · exact ⟨k, [], Nat.le_refl _, by rw [e]⟩
    · rcases List.mem_append.mp hr with hr | hr
      · rw [rowsS_blks] at hr
        obtain ⟨q, hq, hr⟩ := List.mem_flatMap.mp hr
        have bm := blks_mem s q hq
        obtain ⟨i, t, _, e⟩ := rowsB_pre n q.2 0 _ (by omega) row hr
        exact ⟨k, q.1 :: (i : Int) :: t, Nat.le_refl _, by rw [e]; simp⟩
      · obtain ⟨i, t, hi, e⟩ := rowsB_pre (n + 1) r (k + 1) ah (by omega) row hr
        exact ⟨i, t, by omega, e⟩
termination_by n b => (n, b.length)
theorem rowsB_pw : ∀ (n : Nat) (b : List Br) (k : Nat) (ah : List Int), hBs b < n → (rowsB b k ah).Pairwise fun x y => lexI x.1 y.1 = true
  | 0, _, _, _, h => by omega
  | n + 1, [], _, _, _ => by rw [rowsB]; exact List.Pairwise.nil
  | n + 1, s :: r, k, ah, h => by
    rw [hBs] at h
    have inS : ∀ row ∈ rowsS s (ah ++ [(k : Int)]), ∃ q ∈ blks s, ∃ t, row.1 = ah ++ ((k : Int) :: q.1 :: t) := fun row hr => by
      rw [rowsS_blks] at hr
      obtain ⟨q, hq, hr⟩ := List.mem_flatMap.mp hr
      have bm := blks_mem s q hq
      obtain ⟨i, t, _, e⟩ := rowsB_pre n q.2 0 _ (by omega) row hr
      exact ⟨q, hq, (i : Int) :: t, by rw [e]; simp⟩
    have inR := rowsB_pre (n + 1) r (k + 1) ah (by omega)
    have pS : (rowsS s (ah ++ [(k : Int)])).Pairwise fun x y => lexI x.1 y.1 = true := by
      cases s with
      | ite c b b' =>
        have q1 := blks_mem (.ite c b b') (2, b) (by simp [blks])
        have q2 := blks_mem (.ite c b b') (3, b') (by simp [blks])
        dsimp only at q1 q2
        rw [rowsS]
        refine List.pairwise_append.mpr ⟨rowsB_pw n b 0 _ (by omega), rowsB_pw n b' 0 _ (by omega), fun x hx y hy => ?_⟩
        obtain ⟨i, t, _, e1⟩ := rowsB_pre n b 0 _ (by omega) x hx
        obtain ⟨j, u, _, e2⟩ := rowsB_pre n b' 0 _ (by omega) y hy
        rw [e1, e2, List.append_assoc, List.append_assoc, List.append_assoc, List.append_assoc, lexI_app, lexI_app]
        exact lexI_lt (by omega)
      | whl c b =>
        have q1 := blks_mem (.whl c b) (2, b) (by simp [blks])
        dsimp only at q1
        rw [rowsS]
        exact rowsB_pw n b 0 _ (by omega)
      | _ => rw [rowsS_blks]; exact List.Pairwise.nil
    rw [rowsB]
    refine List.pairwise_cons.mpr ⟨fun y hy => ?_, List.pairwise_append.mpr ⟨pS, rowsB_pw (n + 1) r (k + 1) ah (by omega), fun x hx y hy => ?_⟩⟩
    · rcases List.mem_append.mp hy with hy | hy
      · obtain ⟨q, _, t, e⟩ := inS y hy
        show lexI (ah ++ [(k : Int)]) y.1 = true
        rw [e, lexI_app]
        show (if (k : Int) = (k : Int) then lexI [] (q.1 :: t) else _) = true
        rw [if_pos rfl]; rfl
      · obtain ⟨i, t, hi, e⟩ := inR y hy
        show lexI (ah ++ [(k : Int)]) y.1 = true
        rw [e, lexI_app]
        exact lexI_lt (by omega)
    · obtain ⟨q, _, t, e⟩ := inS x hx
      obtain ⟨i, u, hi, e2⟩ := inR y hy
      rw [e, e2, lexI_app]
      exact lexI_lt (by omega)
termination_by n b => (n, b.length)
/-! ### sources -/
structure Pr where
  name : Str
  items : D
  res : D
  places : D
  body : List Br
def prD (p : Pr) : D := .tup [.str p.name, p.items, p.res, p.places, .tup [], .tup [], .tup [], .tup [], .tup (brsD p.body)]
def srcD (recs : D) (ps : List Pr) : D := .tup [recs, .tup (ps.map prD)]
theorem pr_0 (p : Pr) (mu : List MO) : gIx (prD p) (.int 0) mu = .ok (.str p.name) mu := by simp [prD]
theorem pr_8 (p : Pr) (mu : List MO) : gIx (prD p) (.int 8) mu = .ok (.tup (brsD p.body)) mu := by
  unfold prD
  rw [gIx_tup]
  exact ixD8
theorem src_1 {recs : D} {ps : List Pr} {mu : List MO} : gIx (srcD recs ps) (.int 1) mu = .ok (.tup (ps.map prD)) mu := by simp [srcD]
theorem proc_in_ok {recs : D} {ps : List Pr} {nm : Str} {p : Pr} {mu : List MO} (h : ps.find? (fun q => q.name == nm) = some p) : den_proc_in [srcD recs ps, .str nm] mu = .ok (.vl (prD p)) mu := by
  have l : ∀ (qs : List Pr) (o : Option D), qs.find? (fun q => q.name == nm) = some p → loopF (asgN 2) (eIf (eB (eBin (gEq false) (eBin gIx (eVar 2) (eC (.int 0))) (eVar 1))) (sRet (eVar 2)) sNext) [2] [] (qs.map prD) [some (srcD recs ps), some (.str nm), o] mu = .ok (.rt (.vl (prD p))) mu := by
    intro qs
    induction qs with
    | nil => intro o h; cases h
    | cons q qs ih =>
      intro o h
      have q0 := pr_0 q mu
      rw [List.map_cons]
      rw [List.find?_cons] at h
      cases hq : q.name == nm with
      | true =>
        rw [hq] at h
        cases h
        refine loopF_ret rfl ?_
        generalize prD p = Q at *
        generalize srcD recs ps = SR at *
        simp [q0, gEq_strs, hq]
      | false =>
        rw [hq] at h
        refine (loopF_step (e := [some (srcD recs ps), some (.str nm), some (prD q)]) rfl ?_).trans (ih _ h)
        generalize prD q = Q at *
        generalize srcD recs ps = SR at *
        simp [q0, gEq_strs, hq]
  have l := l ps none h
  have s1 := src_1 (recs := recs) (ps := ps) (mu := mu)
  refine noX_ok ?_
  have er : r_proc_in = (sSeq (sFor (eWalk (eBin gIx (eVar 0) (eC (.int 1)))) (asgN 2) (eIf (eB (eBin (gEq false) (eBin gIx (eVar 2) (eC (.int 0))) (eVar 1))) (sRet (eVar 2)) sNext) [2]) sBad) := rfl
  rw [er]
  generalize (eIf (eB (eBin (gEq false) (eBin gIx (eVar 2) (eC (.int 0))) (eVar 1))) (sRet (eVar 2)) sNext) = BODY at *
  generalize ps.map prD = PS at *
  generalize prD p = PP at *
  generalize srcD recs ps = SR at *
  simp [startE, s1, l]
theorem body_of_ok {recs : D} {ps : List Pr} {nm : Str} {p : Pr} {mu : List MO} (h : ps.find? (fun q => q.name == nm) = some p) : den__law_body_of [srcD recs ps, .str nm] mu = .ok (.vl (.tup (brsD p.body))) mu := by
  have hl : loopC (asgN 2) (eB (eBin (gEq false) (eBin gIx (eVar 2) (eC (.int 0))) (eVar 1))) (eVar 2) [] (ps.map prD) [some (srcD recs ps), some (.str nm), none] mu = .ok ((ps.filter fun q => q.name == nm).map prD) mu := by
    refine loopC_filter' fun q hq => ⟨_, rfl, ?_, fun _ => ?_⟩
    · have q0 := pr_0 q mu
      generalize prD q = Q at *
      generalize srcD recs ps = SR at *
      simp [q0, gEq_strs]
    · simp
  have e : ∃ r, ps.filter (fun q => q.name == nm) = p :: r := by
    rw [← List.head?_filter] at h
    cases hf : ps.filter (fun q => q.name == nm) with
    | nil => rw [hf] at h; cases h
    | cons q r => rw [hf] at h; cases h; exact ⟨r, rfl⟩
  obtain ⟨r, hr⟩ := e
  rw [hr, List.map_cons] at hl
  have s1 := src_1 (recs := recs) (ps := ps) (mu := mu)
  have p8 := pr_8 p mu
  refine noX_ok ?_
  generalize ps.map prD = PS at *
  generalize r.map prD = RS at *
  generalize prD p = PP at *
  generalize srcD recs ps = SR at *
  generalize D.tup (brsD p.body) = B at *
  simp [r__law_body_of, startE, s1, noX_ok hl, p8]
/-! ### places -/
def fitsR (kind : Str) : Row → Bool
  | (_, s :: r) => fitsB kind s r[0]?
  | _ => false
def plc (b : List Br) (kind : Str) : List Row := (rowsB b 0 []).filter (fitsR kind)
structure GoodB (b : List Br) : Prop where
  wf : wfBs b
  h : hBs b < 5
  c : cBs b < 90000
theorem row_loc {b : List Br} {row : Row} (h : row ∈ rowsB b 0 []) : ∃ s c j, Loc b row.1 c j ∧ c[j]? = some s ∧ c.drop j = row.2 ∧ ∀ kind, fitsR kind row = fitsB kind s c[j + 1]? := by
  obtain ⟨p, c, j, e1, l, e2⟩ := rows_loc (hBs b + 1) b 0 [] b (by omega) rfl row h
  rw [List.nil_append] at e1
  rw [← e1] at l
  obtain ⟨s, hs⟩ := l.get
  refine ⟨s, c, j, l, hs, e2, fun kind => ?_⟩
  obtain ⟨pp, rest⟩ := row
  simp only at e2
  have hj := (List.getElem?_eq_some_iff.mp hs).1
  rw [List.drop_eq_getElem_cons hj] at e2
  have hs2 : c[j] = s := (List.getElem?_eq_some_iff.mp hs).2
  rw [hs2] at e2
  subst e2
  show fitsB kind s (c.drop (j + 1))[0]? = _
  rw [List.getElem?_drop]
noncomputable abbrev dPaths : List D → M Rv := pathsL 6
noncomputable abbrev dLPaths : List D → M Rv := lpathsL 6
noncomputable abbrev dCan : List D → M Rv := den_can_change dStAt dGives dBlAt dApart den_constant_side
noncomputable abbrev dFits : List D → M Rv := den__law_fits_kind dLGives dSwap den__law_always
def kinds : List Str := ["turn", "peel", "swap", "rest", "unrest", "cut", "twice"]
theorem kinds_in {z : Str} {mu : List MO} : gIn true (.str z) con_KINDS mu = .ok (.bl (!kinds.contains z)) mu := by
  have := gIn_names (neg := true) (z := z) (ns := kinds) (d := con_KINDS) (mu := mu) rfl (fun y e => by cases e)
  rw [this]
  cases kinds.contains z <;> rfl
theorem places_ok {recs : D} {ps : List Pr} {nm kind : Str} {p : Pr} {mu : List MO} (h : ps.find? (fun q => q.name == nm) = some p) (hk : kinds.contains kind = true) (hb : GoodB p.body) (hc : CloH mu) :
    den_places_for den_proc_in dPaths dCan [srcD recs ps, .str nm, .str kind] mu = .ok (.vl (.tup ((plc p.body kind).map rowP))) mu := by
  have h1 := proc_in_ok (recs := recs) (mu := mu) h
  have p8 := pr_8 p mu
  have kin := kinds_in (z := kind) (mu := mu)
  rw [hk] at kin
  have h2 := paths_ok 6 p.body [] mu (by have := hb.h; omega) (by have := hb.c; omega) (by simp) hc
  have h2 : dPaths [.tup (brsD p.body), .tup []] mu = .ok (.fr ((rowsB p.body 0 []).map rowP)) mu := h2
  have hl : loopC (asgN 4) (eB (eCall (lenD 3 dCan) (aCons (eVar 3) (aCons (eVar 4) (aCons (eVar 2) aNil))))) (eVar 4) [] ((rowsB p.body 0 []).map rowP) [some (srcD recs ps), some (.str nm), some (.str kind), some (.tup (brsD p.body)), none] mu = .ok ((plc p.body kind).map rowP) mu := by
    refine loopC_filter' (p := fitsR kind) fun row hr => ⟨_, rfl, ?_, fun _ => ?_⟩
    · obtain ⟨s, c, j, l, hs, _, hf⟩ := row_loc hr
      have e := can_ok (kind := kind) (mu := mu) l hs hb.wf hb.h hb.c hc
      rw [← hf kind] at e
      have e : dCan [.tup (brsD p.body), rowP row, .str kind] mu = .ok (.vl (.bl (fitsR kind row))) mu := e
      generalize rowP row = RP at *
      generalize brsD p.body = B at *
      generalize srcD recs ps = SR at *
      simp [e]
    · simp
  have srt : srtT2 ((plc p.body kind).map rowP) mu = .ok ((plc p.body kind).map rowP) mu := by
    have e1 : (plc p.body kind).map rowP = ((plc p.body kind).map (·.1)).map tupI := by rw [List.map_map]; rfl
    rw [e1]
    unfold srtT2
    rw [tupsOf_map fun x hx => by
      obtain ⟨row, hr, rfl⟩ := List.mem_map.mp hx
      obtain ⟨i, t, _, e⟩ := rowsB_pre (hBs p.body + 1) p.body 0 [] (by omega) row (List.mem_filter.mp hr).1
      rw [e]; simp]
    show (pure ((srtX ((plc p.body kind).map (·.1))).map tupI) : M (List D)) mu = _
    rw [srtX_id]
    · rfl
    · rw [List.pairwise_map]
      exact ((rowsB_pw (hBs p.body + 1) p.body 0 [] (by omega)).filter (fitsR kind)).imp fun h => lexI_asym _ _ h
  have s0 : (0 : Nat) ≤ sizeLine := by decide
  have hlen : ((plc p.body kind).map rowP).length ≤ sizeLine := by
    rw [List.length_map]
    have a := List.length_filter_le (fitsR kind) (rowsB p.body 0 [])
    rw [rowsB_len] at a
    have := hb.c
    have b : (plc p.body kind).length ≤ cBs p.body := a
    rw [sizeLine_eq]; omega
  refine noX_ok ?_
  generalize (plc p.body kind).map rowP = F at *
  generalize (rowsB p.body 0 []).map rowP = F0 at *
  generalize prD p = PP at *
  generalize srcD recs ps = SR at *
  generalize brsD p.body = B at *
  simp [r_places_for, startE, h1, p8, kin, gTup_ok, s0, h2, noX_ok hl, srt, gTuple, hlen]
theorem places_none {recs : D} {ps : List Pr} {nm kind : Str} {p : Pr} {mu : List MO} (h : ps.find? (fun q => q.name == nm) = some p) (hk : kinds.contains kind = false) :
    den_places_for den_proc_in dPaths dCan [srcD recs ps, .str nm, .str kind] mu = .ok (.vl (.tup [])) mu := by
  have h1 := proc_in_ok (recs := recs) (mu := mu) h
  have p8 := pr_8 p mu
  have kin := kinds_in (z := kind) (mu := mu)
  rw [hk] at kin
  have s0 : (0 : Nat) ≤ sizeLine := by decide
  refine noX_ok ?_
  generalize prD p = PP at *
  generalize srcD recs ps = SR at *
  generalize brsD p.body = B at *
  simp [r_places_for, startE, h1, p8, kin, gTup_ok, s0]
theorem lplaces_ok {recs : D} {ps : List Pr} {nm kind : Str} {p : Pr} {mu : List MO} (h : ps.find? (fun q => q.name == nm) = some p) (hb : GoodB p.body) (hc : CloH mu) :
    den__law_places_of dLPaths den__law_body_of dFits [srcD recs ps, .str nm, .str kind] mu = .ok (.vl (.tup ((plc p.body kind).map rowP))) mu := by
  have h1 := body_of_ok (recs := recs) (mu := mu) h
  have h2 := lpaths_ok 6 p.body [] mu (by have := hb.h; omega) (by have := hb.c; omega) (by simp) hc
  have h2 : dLPaths [.tup (brsD p.body), .tup []] mu = .ok (.fr ((rowsB p.body 0 []).map rowD)) mu := h2
  have hl : loopC (asgT 2 (asgCons (asgN 4) (asgCons (asgN 5) asgNil))) (eB (eCall (lenD 2 dFits) (aCons (eVar 2) (aCons (eVar 5) aNil)))) (eVar 4) [] ((rowsB p.body 0 []).map rowD) [some (srcD recs ps), some (.str nm), some (.str kind), some (.fl ((rowsB p.body 0 []).map rowD)), none, none] mu = .ok ((plc p.body kind).map rowP) mu := by
    refine loopC_filter' (p := fitsR kind) fun row hr => ⟨[some (srcD recs ps), some (.str nm), some (.str kind), some (.fl ((rowsB p.body 0 []).map rowD)), some (rowP row), some (.tup (brsD row.2))], rfl, ?_, fun _ => ?_⟩
    · obtain ⟨s, c, j, l, hs, hd, hf⟩ := row_loc hr
      have hsz := l.sz
      have hwc := l.wf hb.wf
      have hj := (List.getElem?_eq_some_iff.mp hs).1
      have hs2 : c[j] = s := (List.getElem?_eq_some_iff.mp hs).2
      rw [List.drop_eq_getElem_cons hj, hs2] at hd
      have hw : wfBs (s :: c.drop (j + 1)) := by
        have := fun x (hx : x ∈ c) => wfBs_mem hwc x hx
        have all : ∀ l : List Br, (∀ x ∈ l, x ∈ c) → wfBs l := fun l => by
          induction l with
          | nil => intro _; trivial
          | cons y l ih => intro hl; exact ⟨this y (hl y (by simp)), ih fun x hx => hl x (by simp [hx])⟩
        exact all _ fun x hx => by
          rcases List.mem_cons.mp hx with z | z
          · rw [z]; exact List.mem_of_getElem? hs
          · exact List.mem_of_mem_drop z
      have hh := hBs_mem s (List.mem_of_getElem? hs)
      have hb5 := hb.h
      have e := fits_ok (kind := kind) (mu := mu) hw (by omega)
      rw [List.getElem?_drop, show j + 1 + 0 = j + 1 from rfl, ← hf kind, hd] at e
      have e : dFits [.str kind, .tup (brsD row.2)] mu = .ok (.vl (.bl (fitsR kind row))) mu := e
      generalize rowP row = RP at *
      generalize (rowsB p.body 0 []).map rowD = F0 at *
      generalize brsD row.2 = B2 at *
      generalize brsD p.body = B at *
      generalize srcD recs ps = SR at *
      simp [e]
    · generalize rowP row = RP at *
      simp
  have s0 : (0 : Nat) ≤ sizeLine := by decide
  have hlen : ((plc p.body kind).map rowP).length ≤ sizeLine := by
    rw [List.length_map]
    have a := List.length_filter_le (fitsR kind) (rowsB p.body 0 [])
    rw [rowsB_len] at a
    have := hb.c
    have b : (plc p.body kind).length ≤ cBs p.body := a
    rw [sizeLine_eq]; omega
  refine noX_ok ?_
  generalize (plc p.body kind).map rowP = F at *
  generalize (rowsB p.body 0 []).map rowD = F0 at *
  generalize srcD recs ps = SR at *
  generalize brsD p.body = B at *
  simp [r__law_places_of, startE, h1, gTup_ok, s0, h2, noX_ok hl, gTuple, hlen]
end KP
namespace MP
open PySem L2 PyProof.Rows
theorem plainDs_of {n : Nat} : ∀ {xs : List D}, (∀ x ∈ xs, plainD n x = true) → plainDs n xs = true
  | [], _ => rfl
  | x :: xs, h => by rw [plainDs, h x (by simp), plainDs_of fun y hy => h y (by simp [hy])]; rfl
theorem plain_tup {n : Nat} {xs : List D} (hl : xs.length ≤ 1000) (h : ∀ x ∈ xs, plainD n x = true) : plainD (n + 1) (.tup xs) = true := by
  rw [plainD, plainDs_of h, decide_eq_true hl]; rfl
theorem plain_str {n : Nat} {x : Str} : plainD (n + 1) (.str x) = true := rfl
theorem plain_int {n : Nat} {i : Int} : plainD (n + 1) (.int i) = true := rfl
theorem plain_ok : ∀ (n : Nat) (d : D), plainD n d = true → okE d = true ∧ dep d ≤ n
  | 0, d, h => by cases d <;> simp [plainD] at h
  | n + 1, .int _, _ => ⟨rfl, by show 0 ≤ n + 1; omega⟩
  | n + 1, .str _, _ => ⟨rfl, by show 0 ≤ n + 1; omega⟩
  | n + 1, .tup xs, h => by
    have h' : (decide (xs.length ≤ 1000) && plainDs n xs) = true := h
    rw [Bool.and_eq_true] at h'
    have hp := plainDs_mem h'.2
    have : okEs xs = true ∧ deps xs ≤ n := by
      clear h h'
      induction xs with
      | nil => exact ⟨rfl, by rw [deps]; omega⟩
      | cons x xs ih =>
        obtain ⟨a, b⟩ := plain_ok n x (hp x (by simp))
        obtain ⟨c, e⟩ := ih fun y hy => hp y (by simp [hy])
        exact ⟨by rw [okEs, a, c]; rfl, by rw [deps]; omega⟩
    exact ⟨this.1, by rw [dep]; omega⟩
theorem plain_oks {n : Nat} {xs : List D} (h : ∀ x ∈ xs, plainD n x = true) : okEs xs = true ∧ deps xs ≤ n := by
  induction xs with
  | nil => exact ⟨rfl, by rw [deps]; omega⟩
  | cons x xs ih =>
    obtain ⟨a, b⟩ := plain_ok n x (h x (by simp))
    obtain ⟨c, e⟩ := ih fun y hy => h y (by simp [hy])
    exact ⟨by rw [okEs, a, c]; rfl, by rw [deps]; omega⟩
theorem plain_mono : ∀ (n m : Nat) (d : D), n ≤ m → plainD n d = true → plainD m d = true
  | 0, _, d, _, h => by cases d <;> simp [plainD] at h
  | n + 1, 0, _, h, _ => by omega
  | n + 1, m + 1, .int _, _, _ => rfl
  | n + 1, m + 1, .str _, _, _ => rfl
  | n + 1, m + 1, .tup xs, hm, h => by
    have h' : (decide (xs.length ≤ 1000) && plainDs n xs) = true := h
    rw [Bool.and_eq_true, decide_eq_true_eq] at h'
    exact plain_tup h'.1 fun x hx => plain_mono n m x (by omega) (plainDs_mem h'.2 x hx)
end MP
namespace KP
open PySem L2 PyProof.Rows MP
theorem brsD_app (a b : List Br) : brsD (a ++ b) = brsD a ++ brsD b := by rw [brsD_map, brsD_map, brsD_map, List.map_append]
/-! ### the drawn data are plain -/
theorem sm_plain : ∀ (s : Sm) (n : Nat), smH s + 2 ≤ n → plainD n (smD s) = true
  | s, 0, h => by omega
  | s, 1, h => by omega
  | s, n + 2, h => by
    cases s with
    | item a t =>
      simp only [smH] at h
      exact plain_tup (by simp) fun x hx => by
        simp only [List.mem_cons, List.not_mem_nil, or_false] at hx
        rcases hx with rfl | rfl | rfl
        · rfl
        · rfl
        · exact sm_plain t (n + 1) (by omega)
    | qr b t i =>
      simp only [smH] at h
      exact plain_tup (by simp) fun x hx => by
        simp only [List.mem_cons, List.not_mem_nil, or_false] at hx
        rcases hx with rfl | rfl | rfl
        · rfl
        · exact sm_plain t (n + 1) (by omega)
        · rfl
    | scale i t =>
      simp only [smH] at h
      exact plain_tup (by simp) fun x hx => by
        simp only [List.mem_cons, List.not_mem_nil, or_false] at hx
        rcases hx with rfl | rfl | rfl
        · rfl
        · rfl
        · exact sm_plain t (n + 1) (by omega)
    | neg t =>
      simp only [smH] at h
      exact plain_tup (by simp) fun x hx => by
        simp only [List.mem_cons, List.not_mem_nil, or_false] at hx
        rcases hx with rfl | rfl
        · rfl
        · exact sm_plain t (n + 1) (by omega)
    | pm b t u =>
      simp only [smH] at h
      exact plain_tup (by simp) fun x hx => by
        simp only [List.mem_cons, List.not_mem_nil, or_false] at hx
        rcases hx with rfl | rfl | rfl
        · rfl
        · exact sm_plain t (n + 1) (by omega)
        · exact sm_plain u (n + 1) (by omega)
    | _ => rfl
theorem tg_plain (t : Tg) (n : Nat) (h : 2 ≤ n) : plainD n (tgD t) = true := sm_plain _ n (by rw [tg_h]; omega)
theorem cn_plain : ∀ (c : Cn) (n : Nat), wfC c → cnH c + 6 ≤ n → plainD n (cnD c) = true
  | .cmp sg s t, n, w, h => by
    obtain ⟨n, rfl⟩ : ∃ m, n = m + 6 := ⟨n - 6, by omega⟩
    exact plain_tup (by simp) fun x hx => by
      simp only [List.mem_cons, List.not_mem_nil, or_false] at hx
      rcases hx with rfl | rfl | rfl | rfl
      · rfl
      · rfl
      · exact sm_plain s _ (by have := w.2.1; omega)
      · exact sm_plain t _ (by have := w.2.2; omega)
  | .not c, n, w, h => by
    rw [cnH] at h
    obtain ⟨n, rfl⟩ : ∃ m, n = m + 2 := ⟨n - 2, by omega⟩
    exact plain_tup (by simp) fun x hx => by
      simp only [List.mem_cons, List.not_mem_nil, or_false] at hx
      rcases hx with rfl | rfl
      · rfl
      · exact cn_plain c (n + 1) w (by omega)
  | .bin b c d, n, w, h => by
    rw [cnH] at h
    obtain ⟨n, rfl⟩ : ∃ m, n = m + 2 := ⟨n - 2, by omega⟩
    exact plain_tup (by simp) fun x hx => by
      simp only [List.mem_cons, List.not_mem_nil, or_false] at hx
      rcases hx with rfl | rfl | rfl
      · rfl
      · exact cn_plain c (n + 1) w.1 (by omega)
      · exact cn_plain d (n + 1) w.2 (by omega)
mutual
theorem br_plain {C L : Nat} (hC : C ≤ 4) (hL : L ≤ 1000) : ∀ (s : Br) (n : Nat), wfB s → plB C L s → 11 + 2 * hB s ≤ n → plainD n (brD s) = true
  | .set x e, n, w, _, h => by
    obtain ⟨n, rfl⟩ : ∃ m, n = m + 6 := ⟨n - 6, by omega⟩
    rw [brD]
    exact plain_tup (by simp) fun y hy => by
      simp only [List.mem_cons, List.not_mem_nil, or_false] at hy
      rcases hy with rfl | rfl | rfl
      · rfl
      · exact tg_plain x _ (by omega)
      · exact sm_plain e _ (by have : smH e ≤ 3 := w; omega)
  | .store a s t, n, w, _, h => by
    obtain ⟨n, rfl⟩ : ∃ m, n = m + 6 := ⟨n - 6, by omega⟩
    rw [brD]
    exact plain_tup (by simp) fun y hy => by
      simp only [List.mem_cons, List.not_mem_nil, or_false] at hy
      rcases hy with rfl | rfl | rfl | rfl
      · rfl
      · rfl
      · exact sm_plain s _ (by have := w.1; omega)
      · exact sm_plain t _ (by have := w.2; omega)
  | .push s a, n, w, _, h => by
    obtain ⟨n, rfl⟩ : ∃ m, n = m + 6 := ⟨n - 6, by omega⟩
    rw [brD]
    exact plain_tup (by simp) fun y hy => by
      simp only [List.mem_cons, List.not_mem_nil, or_false] at hy
      rcases hy with rfl | rfl | rfl
      · rfl
      · exact sm_plain s _ (by have : smH s ≤ 3 := w; omega)
      · rfl
  | .pop x a, n, w, _, h => by
    obtain ⟨n, rfl⟩ : ∃ m, n = m + 6 := ⟨n - 6, by omega⟩
    rw [brD]
    exact plain_tup (by simp) fun y hy => by
      simp only [List.mem_cons, List.not_mem_nil, or_false] at hy
      rcases hy with rfl | rfl | rfl
      · rfl
      · exact tg_plain x _ (by omega)
      · rfl
  | .call o x a, n, w, _, h => by
    obtain ⟨n, rfl⟩ : ∃ m, n = m + 6 := ⟨n - 6, by omega⟩
    rw [brD]
    exact plain_tup (by simp) fun y hy => by
      simp only [List.mem_cons, List.not_mem_nil, or_false] at hy
      rcases hy with rfl | rfl | rfl | rfl
      · rfl
      · cases o with
        | none => rfl
        | some t => exact tg_plain t _ (by omega)
      · rfl
      · exact plain_tup (by simp) fun z hz => by
          simp only [List.mem_cons, List.not_mem_nil, or_false] at hz
          rcases hz with rfl | rfl | rfl
          · exact tg_plain x _ (by omega)
          · rfl
          · rfl
  | .pause, n, w, _, h => by
    obtain ⟨n, rfl⟩ : ∃ m, n = m + 6 := ⟨n - 6, by omega⟩
    rfl
  | .give s, n, w, _, h => by
    obtain ⟨n, rfl⟩ : ∃ m, n = m + 6 := ⟨n - 6, by omega⟩
    rw [brD]
    exact plain_tup (by simp) fun y hy => by
      simp only [List.mem_cons, List.not_mem_nil, or_false] at hy
      rcases hy with rfl | rfl
      · rfl
      · exact sm_plain s _ (by have : smH s ≤ 3 := w; omega)
  | .ite c b b', n, w, p, h => by
    rw [hB] at h
    obtain ⟨n, rfl⟩ : ∃ m, n = m + 2 := ⟨n - 2, by omega⟩
    rw [brD]
    exact plain_tup (by simp) fun y hy => by
      simp only [List.mem_cons, List.not_mem_nil, or_false] at hy
      rcases hy with rfl | rfl | rfl | rfl
      · rfl
      · exact cn_plain c _ w.1 (by have := p.1; omega)
      · exact plain_tup (by rw [brsD_len]; have := p.2.1; omega) (brs_plain hC hL b n w.2.1 p.2.2.2.1 (by omega))
      · exact plain_tup (by rw [brsD_len]; have := p.2.2.1; omega) (brs_plain hC hL b' n w.2.2 p.2.2.2.2 (by omega))
  | .whl c b, n, w, p, h => by
    rw [hB] at h
    obtain ⟨n, rfl⟩ : ∃ m, n = m + 2 := ⟨n - 2, by omega⟩
    rw [brD]
    exact plain_tup (by simp) fun y hy => by
      simp only [List.mem_cons, List.not_mem_nil, or_false] at hy
      rcases hy with rfl | rfl | rfl
      · rfl
      · exact cn_plain c _ w.1 (by have := p.1; omega)
      · exact plain_tup (by rw [brsD_len]; have := p.2.1; omega) (brs_plain hC hL b n w.2 p.2.2 (by omega))
theorem brs_plain {C L : Nat} (hC : C ≤ 4) (hL : L ≤ 1000) : ∀ (b : List Br) (n : Nat), wfBs b → plBs C L b → 11 + 2 * hBs b ≤ n → ∀ x ∈ brsD b, plainD n x = true
  | [], _, _, _, _, x, hx => by rw [brsD] at hx; cases hx
  | s :: r, n, w, p, h, x, hx => by
    rw [hBs] at h
    rw [brsD] at hx
    rcases List.mem_cons.mp hx with e | e
    · rw [e]; exact br_plain hC hL s n w.1 p.1 (by omega)
    · exact brs_plain hC hL r n w.2 p.2 (by omega) x e
end
end KP
namespace KP
open PySem L2 PyProof.Rows MP
/-! ### the drawn source -/
structure GoodPr (p : Pr) : Prop where
  b : GoodB p.body
  pl : plBs 3 20 p.body
  bl : p.body.length ≤ 20
  items : plainD 5 p.items = true
  res : plainD 5 p.res = true
  places : plainD 5 p.places = true
  c : cBs p.body < 80000
theorem pr_plain {p : Pr} (g : GoodPr p) : plainD 30 (prD p) = true := by
  unfold prD
  refine plain_tup (by simp) fun x hx => ?_
  simp only [List.mem_cons, List.not_mem_nil, or_false] at hx
  rcases hx with rfl | rfl | rfl | rfl | rfl | rfl | rfl | rfl | rfl
  · rfl
  · exact plain_mono 5 _ _ (by decide) g.items
  · exact plain_mono 5 _ _ (by decide) g.res
  · exact plain_mono 5 _ _ (by decide) g.places
  · rfl
  · rfl
  · rfl
  · rfl
  · exact plain_tup (by rw [brsD_len]; have := g.bl; omega) (brs_plain (C := 3) (L := 20) (by decide) (by decide) p.body _ g.b.wf g.pl (by have := g.b.h; omega))
theorem plain_flat : ∀ (n : Nat) (d : D), plainD n d = true → flat d = true
  | 0, d, h => by cases d <;> simp [plainD] at h
  | n + 1, .int _, _ => rfl
  | n + 1, .str _, _ => rfl
  | n + 1, .tup xs, h => by
    have h' : (decide (xs.length ≤ 1000) && plainDs n xs) = true := h
    rw [Bool.and_eq_true] at h'
    show flats xs = true
    exact flats_of fun x hx => plain_flat n x (plainDs_mem h'.2 x hx)
theorem prs_flat {ps : List Pr} (h : ∀ p ∈ ps, GoodPr p) : flats (ps.map prD) = true := flats_of fun d hd => by
  obtain ⟨p, hp, rfl⟩ := List.mem_map.mp hd
  exact plain_flat 30 _ (pr_plain (h p hp))
end KP
namespace KP
open PySem L2 PyProof.Rows MP
/-! ### a block with some statements replaced -/
def blkOf : Br → Int → List Br
  | .ite _ b b', q => if q = 2 then b else b'
  | .whl _ b, _ => b
  | _, _ => []
def setBlk : Br → Int → List Br → Br
  | .ite c b b', q, nb => if q = 2 then .ite c nb b' else .ite c b nb
  | .whl c _, _, nb => .whl c nb
  | s, _, _ => s
theorem blkOf_eq {s : Br} {q : Int × List Br} (h : q ∈ blks s) : blkOf s q.1 = q.2 := by
  cases s <;> simp only [blks, List.mem_cons, List.not_mem_nil, or_false] at h
  case ite c b b' => rcases h with rfl | rfl <;> rfl
  case whl c b => subst h; rfl
def replB : List Int → List Br → Nat → List Br → List Br
  | [], b, _, _ => b
  | [i], b, m, new => b.take i.toNat ++ new ++ b.drop (i.toNat + m)
  | i :: q :: p, b, m, new => match b[i.toNat]? with
    | some s => b.take i.toNat ++ [setBlk s q (replB p (blkOf s q) m new)] ++ b.drop (i.toNat + 1)
    | none => b
theorem replB_here {b : List Br} {i m : Nat} {new : List Br} : replB [(i : Int)] b m new = b.take i ++ new ++ b.drop (i + m) := by
  rw [replB]
  simp
theorem replB_deep {b : List Br} {i m : Nat} {new : List Br} {s : Br} {q : Int × List Br} {p : List Int} (h : b[i]? = some s) (hq : q ∈ blks s) (hp : p ≠ []) : replB ((i : Int) :: q.1 :: p) b m new = b.take i ++ [setBlk s q.1 (replB p q.2 m new)] ++ b.drop (i + 1) := by
  rw [replB]
  simp [h, blkOf_eq hq]
theorem blk_cut {s : Br} {q : Int × List Br} (h : q ∈ blks s) : ∃ pre post : List D, (∀ mu, gSl (brD s) none (some q.1) mu = .ok (.tup pre) mu) ∧ (∀ mu, gSl (brD s) (some (q.1 + 1)) none mu = .ok (.tup post) mu) ∧ (∀ nb, brD (setBlk s q.1 nb) = .tup (pre ++ [.tup (brsD nb)] ++ post)) ∧ pre.length + post.length ≤ 4 := by
  cases s <;> simp only [blks, List.mem_cons, List.not_mem_nil, or_false] at h
  case ite c b b' =>
    have sl : ∀ k : Nat, (∀ mu, gSl (brD (.ite c b b')) none (some (k : Int)) mu = .ok (.tup (([.str "if", cnD c, .tup (brsD b), .tup (brsD b')] : List D).take k)) mu) ∧ ∀ mu, gSl (brD (.ite c b b')) (some (k : Int)) none mu = .ok (.tup (([.str "if", cnD c, .tup (brsD b), .tup (brsD b')] : List D).drop k)) mu := fun k => ⟨fun mu => by rw [brD, gSl_tup, cutD_take], fun mu => by rw [brD, gSl_tup, cutD_drop]⟩
    rcases h with rfl | rfl
    · exact ⟨[.str "if", cnD c], [.tup (brsD b')], (sl 2).1, (sl 3).2, fun nb => by show brD (.ite c nb b') = _; rw [brD]; rfl, by simp⟩
    · exact ⟨[.str "if", cnD c, .tup (brsD b)], [], (sl 3).1, (sl 4).2, fun nb => by show brD (.ite c b nb) = _; rw [brD]; rfl, by simp⟩
  case whl c b =>
    have sl : ∀ k : Nat, (∀ mu, gSl (brD (.whl c b)) none (some (k : Int)) mu = .ok (.tup (([.str "while", cnD c, .tup (brsD b)] : List D).take k)) mu) ∧ ∀ mu, gSl (brD (.whl c b)) (some (k : Int)) none mu = .ok (.tup (([.str "while", cnD c, .tup (brsD b)] : List D).drop k)) mu := fun k => ⟨fun mu => by rw [brD, gSl_tup, cutD_take], fun mu => by rw [brD, gSl_tup, cutD_drop]⟩
    subst h
    exact ⟨[.str "while", cnD c], [], (sl 2).1, (sl 3).2, fun nb => by show brD (.whl c nb) = _; rw [brD]; rfl, by simp⟩
noncomputable def replL : Nat → List D → M Rv
  | 0 => fun _ _ => .bad
  | n + 1 => den_replaced (replL n)
noncomputable def putL : Nat → List D → M Rv
  | 0 => fun _ _ => .bad
  | n + 1 => den__law_put_at (putL n)
theorem repl_eq {n : Nat} {ds : List D} : replL (n + 1) ds = noX (runB 8 (r_replaced (replL n)) ds) := rfl
theorem put_eq {n : Nat} {ds : List D} : putL (n + 1) ds = noX (runB 7 (r__law_put_at (putL n)) ds) := rfl
/-- the slices at a place -/
theorem cuts {b : List Br} {i m : Nat} {new : List Br} (mu : List MO) (hb : b.length < 90000) (hn : new.length < 90000) : gSl (.tup (brsD b)) none (some (i : Int)) mu = .ok (.tup (brsD (b.take i))) mu ∧ gSl (.tup (brsD b)) (some ((i : Int) + (m : Int))) none mu = .ok (.tup (brsD (b.drop (i + m)))) mu ∧
    gAdd (.tup (brsD (b.take i))) (.tup (brsD new)) mu = .ok (.tup (brsD (b.take i ++ new))) mu ∧ gAdd (.tup (brsD (b.take i ++ new))) (.tup (brsD (b.drop (i + m)))) mu = .ok (.tup (brsD (b.take i ++ new ++ b.drop (i + m)))) mu := by
  refine ⟨?_, ?_, ?_, ?_⟩
  · rw [gSl_tup, cutD_take, brsD_map, brsD_map, List.map_take]
  · rw [show (i : Int) + (m : Int) = ((i + m : Nat) : Int) from by omega, gSl_tup, cutD_drop, brsD_drop]
  · rw [gAdd_tup (by rw [brsD_len, brsD_len, List.length_take, sizeLine_eq]; omega), ← brsD_app]
  · rw [gAdd_tup (by rw [brsD_len, brsD_len, List.length_append, List.length_take, List.length_drop, sizeLine_eq]; omega), ← brsD_app]
theorem repl_ok {mu : List MO} {m : Nat} {new : List Br} (hnew : new.length < 90000) : ∀ (n : Nat) {b c : List Br} {p : List Int} {j : Nat}, Loc b p c j → p.length < 2 * n → cBs b < 90000 → replL n [.tup (brsD b), tupI p, .int (m : Int), .tup (brsD new)] mu = .ok (.vl (.tup (brsD (replB p b m new)))) mu
  | 0, _, _, _, _, _, h, _ => by omega
  | n + 1, b, c, p, j, l, h, hc => by
    have hb := cBs_len b
    cases l with
    | @here _ i s hi =>
      obtain ⟨c1, c2, c3, c4⟩ := cuts (b := b) (i := j) (m := m) (new := new) mu (by omega) hnew
      rw [replB_here, repl_eq]
      refine noX_ok ?_
      have i0 : gIx (tupI [(j : Int)]) (.int 0) mu = .ok (.int (j : Int)) mu := by simp [tupI]
      have le : gLen (tupI [(j : Int)]) mu = .ok (.int 1) mu := rfl
      have ad : gAdd (.int (j : Int)) (.int (m : Int)) mu = .ok (.int ((j : Int) + (m : Int))) mu := by simp
      generalize brsD (b.take j ++ new ++ b.drop (j + m)) = R1 at *
      generalize brsD (b.take j ++ new) = R2 at *
      generalize brsD (b.take j) = R3 at *
      generalize brsD (b.drop (j + m)) = R4 at *
      generalize brsD new = NW at *
      generalize tupI [(j : Int)] = T at *
      generalize brsD b = B at *
      generalize (j : Int) + (m : Int) = IM at *
      generalize (m : Int) = MM at *
      generalize (j : Int) = II at *
      simp [r_replaced, startE, i0, le, gEq_ints, c1, c2, c3, c4, ad]
    | @deep _ i s q p c j hi hq l =>
      obtain ⟨r, hr⟩ := l.last
      have hpne : p ≠ [] := by rw [hr]; simp
      simp only [List.length_cons] at h
      have bm := blks_mem s q hq
      have cm := cBs_mem s (List.mem_of_getElem? hi)
      have ih := repl_ok (mu := mu) (m := m) hnew n l (by omega) (by omega)
      obtain ⟨pre, post, k1, k2, k3, k4⟩ := blk_cut hq
      obtain ⟨c1, c2, c3, c4⟩ := cuts (b := b) (i := i) (m := 1) (new := [setBlk s q.1 (replB p q.2 m new)]) mu (by omega) (by simp)
      have c2 : gSl (.tup (brsD b)) (some ((i : Int) + 1)) none mu = _ := c2
      have e1 : brsD [setBlk s q.1 (replB p q.2 m new)] = [.tup (pre ++ [.tup (brsD (replB p q.2 m new))] ++ post)] := by
        rw [← k3]; rfl
      rw [e1] at c3
      have d1 := gAdd_tup (xs := pre) (ys := [.tup (brsD (replB p q.2 m new))]) (mu := mu) (by rw [sizeLine_eq]; simp; omega)
      have d2 := gAdd_tup (xs := pre ++ [.tup (brsD (replB p q.2 m new))]) (ys := post) (mu := mu) (by rw [sizeLine_eq]; simp; omega)
      rw [replB_deep hi hq hpne, repl_eq]
      refine noX_ok ?_
      have ix := ixD_nat (mu := mu) (brsD_get hi)
      have iq := blk_ix s mu q hq
      have ln := len_one (a := (i : Int)) (b := q.1) (p := p) hpne
      have sl : gSl (tupI ((i : Int) :: q.1 :: p)) (some 2) none mu = .ok (tupI p) mu := by
        rw [show (2 : Int) = ((2 : Nat) : Int) from rfl, gSl_tup, cutD_drop]; rfl
      have i0 : gIx (tupI ((i : Int) :: q.1 :: p)) (.int 0) mu = .ok (.int (i : Int)) mu := by simp [tupI]
      have i1 : gIx (tupI ((i : Int) :: q.1 :: p)) (.int 1) mu = .ok (.int q.1) mu := by simp [tupI]
      have le : gLen (tupI ((i : Int) :: q.1 :: p)) mu = .ok (.int (((i : Int) :: q.1 :: p).length : Int)) mu := by
        show R.ok (D.int ((((i : Int) :: q.1 :: p).map D.int).length : Int)) mu = _
        rw [List.length_map]
      have s1 : (1 : Nat) ≤ sizeLine := by decide
      generalize brsD (b.take i ++ [setBlk s q.1 (replB p q.2 m new)] ++ b.drop (i + 1)) = R1 at *
      generalize brsD (b.take i ++ [setBlk s q.1 (replB p q.2 m new)]) = R2 at *
      generalize brsD (b.take i) = R3 at *
      generalize brsD (b.drop (i + 1)) = R4 at *
      generalize brsD (replB p q.2 m new) = RI at *
      generalize pre ++ [D.tup RI] ++ post = Y2 at *
      generalize pre ++ [D.tup RI] = Y1 at *
      generalize brsD new = NW at *
      generalize (((i : Int) :: q.1 :: p).length : Int) = LN at *
      generalize tupI ((i : Int) :: q.1 :: p) = PT at *
      generalize tupI p = T at *
      generalize brsD q.2 = B2 at *
      generalize brD s = S at *
      generalize brsD b = B at *
      generalize (m : Int) = MM at *
      have ad : gAdd (.int (i : Int)) (.int 1) mu = .ok (.int ((i : Int) + 1)) mu := by simp
      have ad2 : gAdd (.int q.1) (.int 1) mu = .ok (.int (q.1 + 1)) mu := by simp
      generalize (i : Int) + 1 = I1 at *
      generalize q.1 + 1 = Q1 at *
      simp [r_replaced, startE, i0, i1, ix, iq, le, gEq_ints, ln, sl, ih, c1, c2, c3, c4, k1, k2, d1, d2, gTup_ok, s1, ad, ad2]
theorem put_ok {mu : List MO} {m : Nat} {new : List Br} (hnew : new.length < 90000) : ∀ (n : Nat) {b c : List Br} {p : List Int} {j : Nat}, Loc b p c j → p.length < 2 * n → cBs b < 90000 → putL n [.tup (brsD b), tupI p, .int (m : Int), .tup (brsD new)] mu = .ok (.vl (.tup (brsD (replB p b m new)))) mu
  | 0, _, _, _, _, _, h, _ => by omega
  | n + 1, b, c, p, j, l, h, hc => by
    have hb := cBs_len b
    cases l with
    | @here _ i s hi =>
      obtain ⟨c1, c2, c3, c4⟩ := cuts (b := b) (i := j) (m := m) (new := new) mu (by omega) hnew
      rw [replB_here, put_eq]
      refine noX_ok ?_
      have i0 : gIx (tupI [(j : Int)]) (.int 0) mu = .ok (.int (j : Int)) mu := by simp [tupI]
      have le : gLen (tupI [(j : Int)]) mu = .ok (.int 1) mu := rfl
      have ad : gAdd (.int (j : Int)) (.int (m : Int)) mu = .ok (.int ((j : Int) + (m : Int))) mu := by simp
      generalize brsD (b.take j ++ new ++ b.drop (j + m)) = R1 at *
      generalize brsD (b.take j ++ new) = R2 at *
      generalize brsD (b.take j) = R3 at *
      generalize brsD (b.drop (j + m)) = R4 at *
      generalize brsD new = NW at *
      generalize tupI [(j : Int)] = T at *
      generalize brsD b = B at *
      generalize (j : Int) + (m : Int) = IM at *
      generalize (m : Int) = MM at *
      generalize (j : Int) = II at *
      simp [r__law_put_at, startE, i0, le, gEq_ints, c1, c2, c3, c4, ad]
    | @deep _ i s q p c j hi hq l =>
      obtain ⟨r, hr⟩ := l.last
      have hpne : p ≠ [] := by rw [hr]; simp
      simp only [List.length_cons] at h
      have bm := blks_mem s q hq
      have cm := cBs_mem s (List.mem_of_getElem? hi)
      have ih := put_ok (mu := mu) (m := m) hnew n l (by omega) (by omega)
      obtain ⟨pre, post, k1, k2, k3, k4⟩ := blk_cut hq
      obtain ⟨c1, c2, c3, c4⟩ := cuts (b := b) (i := i) (m := 1) (new := [setBlk s q.1 (replB p q.2 m new)]) mu (by omega) (by simp)
      have c2 : gSl (.tup (brsD b)) (some ((i : Int) + 1)) none mu = _ := c2
      have e1 : brsD [setBlk s q.1 (replB p q.2 m new)] = [.tup (pre ++ [.tup (brsD (replB p q.2 m new))] ++ post)] := by
        rw [← k3]; rfl
      rw [e1] at c3
      have d1 := gAdd_tup (xs := pre) (ys := [.tup (brsD (replB p q.2 m new))]) (mu := mu) (by rw [sizeLine_eq]; simp; omega)
      have d2 := gAdd_tup (xs := pre ++ [.tup (brsD (replB p q.2 m new))]) (ys := post) (mu := mu) (by rw [sizeLine_eq]; simp; omega)
      rw [replB_deep hi hq hpne, put_eq]
      refine noX_ok ?_
      have ix := ixD_nat (mu := mu) (brsD_get hi)
      have iq := blk_ix s mu q hq
      have ln := len_one (a := (i : Int)) (b := q.1) (p := p) hpne
      have sl : gSl (tupI ((i : Int) :: q.1 :: p)) (some 2) none mu = .ok (tupI p) mu := by
        rw [show (2 : Int) = ((2 : Nat) : Int) from rfl, gSl_tup, cutD_drop]; rfl
      have i0 : gIx (tupI ((i : Int) :: q.1 :: p)) (.int 0) mu = .ok (.int (i : Int)) mu := by simp [tupI]
      have i1 : gIx (tupI ((i : Int) :: q.1 :: p)) (.int 1) mu = .ok (.int q.1) mu := by simp [tupI]
      have le : gLen (tupI ((i : Int) :: q.1 :: p)) mu = .ok (.int (((i : Int) :: q.1 :: p).length : Int)) mu := by
        show R.ok (D.int ((((i : Int) :: q.1 :: p).map D.int).length : Int)) mu = _
        rw [List.length_map]
      have s1 : (1 : Nat) ≤ sizeLine := by decide
      generalize brsD (b.take i ++ [setBlk s q.1 (replB p q.2 m new)] ++ b.drop (i + 1)) = R1 at *
      generalize brsD (b.take i ++ [setBlk s q.1 (replB p q.2 m new)]) = R2 at *
      generalize brsD (b.take i) = R3 at *
      generalize brsD (b.drop (i + 1)) = R4 at *
      generalize brsD (replB p q.2 m new) = RI at *
      generalize pre ++ [D.tup RI] ++ post = Y2 at *
      generalize pre ++ [D.tup RI] = Y1 at *
      generalize brsD new = NW at *
      generalize (((i : Int) :: q.1 :: p).length : Int) = LN at *
      generalize tupI ((i : Int) :: q.1 :: p) = PT at *
      generalize tupI p = T at *
      generalize brsD q.2 = B2 at *
      generalize brD s = S at *
      generalize brsD b = B at *
      generalize (m : Int) = MM at *
      have ad : gAdd (.int (i : Int)) (.int 1) mu = .ok (.int ((i : Int) + 1)) mu := by simp
      have ad2 : gAdd (.int q.1) (.int 1) mu = .ok (.int (q.1 + 1)) mu := by simp
      generalize (i : Int) + 1 = I1 at *
      generalize q.1 + 1 = Q1 at *
      simp [r__law_put_at, startE, i0, i1, ix, iq, le, gEq_ints, ln, sl, ih, c1, c2, c3, c4, k1, k2, d1, d2, gTup_ok, s1, ad, ad2]
/-! ### sources with another body -/
def updP (nm : Str) (nb : List Br) (p : Pr) : Pr := if (p.name == nm) = true then { p with body := nb } else p
theorem prD_upd (p : Pr) (nb : List Br) (mu : List MO) : gSl (prD p) none (some 8) mu = .ok (.tup [.str p.name, p.items, p.res, p.places, .tup [], .tup [], .tup [], .tup []]) mu ∧ gAdd (.tup [.str p.name, p.items, p.res, p.places, .tup [], .tup [], .tup [], .tup []]) (.tup [.tup (brsD nb)]) mu = .ok (prD { p with body := nb }) mu := by
  refine ⟨?_, ?_⟩
  · unfold prD
    rw [show (8 : Int) = ((8 : Nat) : Int) from rfl, gSl_tup, cutD_take]; rfl
  · rw [gAdd_tup (by rw [sizeLine_eq]; simp)]; rfl
theorem src_0 {recs : D} {ps : List Pr} {mu : List MO} : gIx (srcD recs ps) (.int 0) mu = .ok recs mu := by simp [srcD]
theorem source_with_ok {recs : D} {ps : List Pr} {nm : Str} {nb : List Br} {mu : List MO} (hl : ps.length < 1000) : den__law_source_with [srcD recs ps, .str nm, .tup (brsD nb)] mu = .ok (.vl (srcD recs (ps.map (updP nm nb)))) mu := by
  have s1 : (1 : Nat) ≤ sizeLine := by decide
  have s2 : (2 : Nat) ≤ sizeLine := by decide
  have hl : loopC (asgN 4) tYesM (eIf (eB (eBin (gEq false) (eBin gIx (eVar 4) (eC (.int 0))) (eVar 1))) (eBin gAdd (eSl (eVar 4) oNone (oSome (eC (.int 8)))) (aThen gTup (aCons (eVar 2) aNil))) (eVar 4)) [] (ps.map prD) [some (srcD recs ps), some (.str nm), some (.tup (brsD nb)), none, none] mu = .ok (ps.map fun p => prD (updP nm nb p)) mu := by
    refine loopC_mapG chk_nil fun p hp => ⟨_, rfl, rfl, ?_⟩
    have p0 := pr_0 p mu
    obtain ⟨k1, k2⟩ := prD_upd p nb mu
    unfold updP
    cases h : p.name == nm with
    | true =>
      rw [if_pos rfl]
      generalize prD { p with body := nb } = P2 at *
      generalize prD p = PP at *
      generalize srcD recs ps = SR at *
      generalize brsD nb = B at *
      simp [p0, gEq_strs, h, k1, k2, gTup_ok, s1]
    | false =>
      rw [if_neg (by decide)]
      generalize prD p = PP at *
      generalize srcD recs ps = SR at *
      generalize brsD nb = B at *
      simp [p0, gEq_strs, h]
  have e1 := src_1 (recs := recs) (ps := ps) (mu := mu)
  have e0 := src_0 (recs := recs) (ps := ps) (mu := mu)
  have e2 : srcD recs (ps.map (updP nm nb)) = .tup [recs, .tup (ps.map fun p => prD (updP nm nb p))] := by
    unfold srcD; rw [List.map_map]; rfl
  have hz : (ps.map fun p => prD (updP nm nb p)).length ≤ sizeLine := by rw [List.length_map, sizeLine_eq]; omega
  refine noX_ok ?_
  rw [e2]
  generalize (ps.map fun p => prD (updP nm nb p)) = F at *
  generalize ps.map prD = PS at *
  generalize srcD recs ps = SR at *
  generalize brsD nb = B at *
  simp [r__law_source_with, startE, e0, e1, noX_ok hl, gTup_ok, s2]
noncomputable def wbBody : MP.Env → M Fl := (sExpr (eMeth lstK gAppend (eVar 3) (aCons (eIf (eB (eBin (gEq false) (eBin gIx (eVar 4) (eC (.int 0))) (eVar 1))) (eBin gAdd (eSl (eVar 4) oNone (oSome (eC (.int 8)))) (aThen gTup (aCons (eVar 2) aNil))) (eVar 4)) aNil)))
theorem wb_er : r_with_body = (sSeq (sSet 3 (eNew (aList aNil)))
  (sSeq (sFor (eWalk (eBin gIx (eVar 0) (eC (.int 1)))) (asgN 4) wbBody [4])
  (sRet (aThen gTup (aCons (eBin gIx (eVar 0) (eC (.int 0))) (aCons (aThen (MP.g1 gTuple) (aCons (eVar 3) aNil)) aNil)))))) := rfl
noncomputable def dWith : List D → M Rv := fgt den_with_body
theorem wb_loop {recs : D} {ps : List Pr} {nm : Str} {nb : List Br} {mu1 : List MO} {n : Nat} (hn : n = mu1.length) : ∀ (qs acc : List Pr) (o4 : Option D), acc.length + qs.length < 1000 →
    loopF (asgN 4) wbBody [4] [] (qs.map prD) [some (srcD recs ps), some (.str nm), some (.tup (brsD nb)), some (.ref n), o4] (mu1 ++ [.lst (acc.map prD)])
      = .ok (.nx [some (srcD recs ps), some (.str nm), some (.tup (brsD nb)), some (.ref n), none]) (mu1 ++ [.lst ((acc ++ qs.map (updP nm nb)).map prD)])
  | [], acc, o4, _ => by
    show loopF _ _ _ [] [] _ _ = _
    rw [loopF_nil, List.map_nil, List.append_nil]; rfl
  | q :: qs, acc, o4, hl => by
    have s1 : (1 : Nat) ≤ sizeLine := by decide
    rw [List.length_cons] at hl
    have hg := get_last (x := .lst (acc.map prD)) hn
    have hap := append_ok (d := prD (updP nm nb q)) hg (by rw [List.length_map, sizeLine_eq]; omega)
    rw [set_last hn, show acc.map prD ++ [prD (updP nm nb q)] = (acc ++ [updP nm nb q]).map prD from by rw [List.map_append]; rfl] at hap
    have ih := wb_loop (recs := recs) (ps := ps) (nm := nm) (nb := nb) hn qs (acc ++ [updP nm nb q]) (some (prD q)) (by rw [List.length_append, List.length_singleton]; omega)
    rw [List.map_cons, List.map_cons, show acc ++ updP nm nb q :: qs.map (updP nm nb) = acc ++ [updP nm nb q] ++ qs.map (updP nm nb) from by simp]
    refine (loopF_step (env1 := [some (srcD recs ps), some (.str nm), some (.tup (brsD nb)), some (.ref n), some (prD q)]) rfl ?_).trans ih
    have p0 := fun m => pr_0 q m
    have k1 := fun m => (prD_upd q nb m).1
    have k2 := fun m => (prD_upd q nb m).2
    unfold updP at hap ⊢
    cases h : q.name == nm with
    | true =>
      rw [h, if_pos rfl] at hap
      rw [if_pos rfl]
      generalize prD { q with body := nb } = P2 at *
      generalize prD q = PP at *
      generalize srcD recs ps = SR at *
      generalize brsD nb = B at *
      simp [wbBody, lstK_ref hg, p0, gEq_strs, h, k1, k2, gTup_ok, s1, hap]
    | false =>
      rw [h, if_neg (by decide)] at hap
      rw [if_neg (by decide)]
      generalize prD q = PP at *
      generalize srcD recs ps = SR at *
      generalize brsD nb = B at *
      simp [wbBody, lstK_ref hg, p0, gEq_strs, h, hap]
theorem with_ok {recs : D} {ps : List Pr} {nm : Str} {nb : List Br} {mu : List MO} (hl : ps.length < 1000) (hf : flat (srcD recs (ps.map (updP nm nb))) = true) (hc : CloH mu) : dWith [srcD recs ps, .str nm, .tup (brsD nb)] mu = .ok (.vl (srcD recs (ps.map (updP nm nb)))) mu := by
  have s2 : (2 : Nat) ≤ sizeLine := by decide
  have h1 := wb_loop (recs := recs) (ps := ps) (nm := nm) (nb := nb) (mu1 := mu) rfl ps [] none (by simpa using hl)
  rw [List.nil_append] at h1
  have h1 : loopF (asgN 4) wbBody [4] [] (ps.map prD) [some (srcD recs ps), some (.str nm), some (.tup (brsD nb)), some (.ref mu.length), none] (mu ++ [.lst []]) = _ := h1
  have hg := get_last (x := .lst ((ps.map (updP nm nb)).map prD)) (mu1 := mu) rfl
  have gt : gTuple (.ref mu.length) (mu ++ [.lst ((ps.map (updP nm nb)).map prD)]) = .ok (.tup ((ps.map (updP nm nb)).map prD)) (mu ++ [.lst ((ps.map (updP nm nb)).map prD)]) := by
    unfold gTuple
    simp [hg]
  have e1 := fun m => src_1 (recs := recs) (ps := ps) (mu := m)
  have e0 := fun m => src_0 (recs := recs) (ps := ps) (mu := m)
  have e : den_with_body [srcD recs ps, .str nm, .tup (brsD nb)] mu = .ok (.vl (srcD recs (ps.map (updP nm nb)))) (mu ++ [.lst ((ps.map (updP nm nb)).map prD)]) := by
    refine noX_ok ?_
    rw [wb_er]
    have e2 : srcD recs (ps.map (updP nm nb)) = .tup [recs, .tup ((ps.map (updP nm nb)).map prD)] := rfl
    rw [e2]
    generalize (ps.map (updP nm nb)).map prD = F at *
    generalize ps.map prD = PS at *
    generalize srcD recs ps = SR at *
    generalize brsD nb = B at *
    simp [startE, e0, e1, h1, gt, gTup_ok, s2]
  exact fgt_val e rfl hc (flat_clo _ hf)
end KP
namespace MP
open PySem L2 PyProof.Rows
theorem eqDs_ints : ∀ (a b : List Int), eqDs (a.map D.int) (b.map D.int) = decide (a = b)
  | [], [] => by simp [eqDs]
  | [], _ :: _ => by simp [eqDs]
  | _ :: _, [] => by simp [eqDs]
  | x :: a, y :: b => by
    rw [List.map_cons, List.map_cons, eqDs, eqDs_ints a b]
    by_cases h : x = y
    · subst h; by_cases h2 : a = b <;> simp [eqD, h2]
    · simp [eqD, h]
theorem eqD_tupI (a b : List Int) : eqD (tupI a) (tupI b) = decide (a = b) := by
  show eqD (.tup _) (.tup _) = _
  rw [eqD]; exact eqDs_ints a b
theorem okE_tupI (a : List Int) : okE (tupI a) = true ∧ dep (tupI a) ≤ 1 := by
  have : okEs (a.map D.int) = true ∧ deps (a.map D.int) ≤ 0 := by
    induction a with
    | nil => exact ⟨rfl, by rw [List.map_nil, deps]; omega⟩
    | cons x a ih =>
      obtain ⟨c, e⟩ := ih
      exact ⟨by rw [List.map_cons, okEs, c]; rfl, by rw [List.map_cons, deps, show dep (D.int x) = 0 from by simp [dep]]; omega⟩
  exact ⟨this.1, by rw [dep]; omega⟩
theorem gEq_tupI {a b : List Int} {mu : List MO} : gEq false (tupI a) (tupI b) mu = .ok (.bl (decide (a = b))) mu := by
  unfold gEq
  have h1 := okE_tupI a
  have h2 := okE_tupI b
  rw [bind_ap, need_ap, if_pos ⟨h1.1, h2.1, by omega⟩]
  dsimp only
  rw [eqD_tupI, Bool.bne_false]; rfl
theorem gIn_tups {neg : Bool} {a : List Int} {ps : List (List Int)} {mu : List MO} : gIn neg (tupI a) (.tup (ps.map tupI)) mu = .ok (.bl (decide (a ∈ ps) != neg)) mu := by
  have e : gIn neg (tupI a) (.tup (ps.map tupI)) = (rdQ (.tup (ps.map tupI)) >>= fun ys => need (okE (tupI a) = true ∧ okEs ys = true ∧ deps ys < 60) >>= fun _ => pure (.bl ((ys.any fun y => eqD y (tupI a)) != neg)) : M D) := rfl
  have h1 := okE_tupI a
  have h2 : okEs (ps.map tupI) = true ∧ deps (ps.map tupI) ≤ 1 := by
    induction ps with
    | nil => exact ⟨rfl, by rw [List.map_nil, deps]; omega⟩
    | cons x ps ih =>
      obtain ⟨c, d⟩ := ih rfl
      have hx := okE_tupI x
      exact ⟨by rw [List.map_cons, okEs, c, hx.1]; rfl, by rw [List.map_cons, deps]; omega⟩
  have h3 : ((ps.map tupI).any fun y => eqD y (tupI a)) = decide (a ∈ ps) := by
    clear h2 e
    induction ps with
    | nil => simp
    | cons x ps ih =>
      rw [List.map_cons, List.any_cons, ih, eqD_tupI]
      by_cases h : x = a
      · simp [h]
      · by_cases h' : a ∈ ps <;> simp [h, h', Ne.symm h]
  rw [e, bind_ap]
  show (match R.ok (ps.map tupI) mu with
    | .ok ys m => (need (okE (tupI a) = true ∧ okEs ys = true ∧ deps ys < 60) >>= fun _ => (pure (.bl ((ys.any fun y => eqD y (tupI a)) != neg)) : M D)) m
    | .exc x m => .exc x m
    | .bad => .bad) = _
  dsimp only
  rw [bind_ap, need_ap, if_pos ⟨h1.1, h2.1, by omega⟩]
  dsimp only
  rw [h3]; rfl
end MP
namespace KP
open PySem L2 PyProof.Rows MP
/-! ### what a change puts in a statement's place -/
def turnN : Br → List Br
  | .ite c b b' => [.ite (.not c) b' b]
  | _ => []
def peelN : Br → List Br
  | .whl c b => [.ite c (b ++ [.whl c b]) []]
  | _ => []
def twiceN : Br → List Br
  | .whl c b => [.whl c (b ++ [.ite c b []])]
  | _ => []
def swapN (s : Br) : Option Br → List Br
  | some t => [t, s]
  | none => []
def cutN : Br → List Br
  | .ite c b b' => if conO c = some true then b else b'
  | _ => []
def newB (kind : Str) (s : Br) (nx : Option Br) : Nat × List Br :=
  if (kind == Str.ofString "turn") = true then (1, turnN s)
  else if (kind == Str.ofString "peel") = true then (1, peelN s)
  else if (kind == Str.ofString "twice") = true then (1, twiceN s)
  else if (kind == Str.ofString "swap") = true then (2, swapN s nx)
  else if (kind == Str.ofString "rest") = true then (0, [.pause])
  else if (kind == Str.ofString "unrest") = true then (1, [])
  else (1, cutN s)
theorem is_if {s : Br} (h : (brK s == Str.ofString "if") = true) : ∃ c b b', s = .ite c b b' := by
  cases s with
  | ite c b b' => exact ⟨c, b, b', rfl⟩
  | _ => exact absurd (show false = true from h) (by decide)
theorem is_while {s : Br} (h : (brK s == Str.ofString "while") = true) : ∃ c b, s = .whl c b := by
  cases s with
  | whl c b => exact ⟨c, b, rfl⟩
  | _ => exact absurd (show false = true from h) (by decide)
def newD (m : Nat × List Br) : D := .tup [.int (m.1 : Int), .tup (brsD m.2)]
theorem add_one {b : List Br} {s : Br} {mu : List MO} (h : b.length < 90000) : gAdd (.tup (brsD b)) (.tup [brD s]) mu = .ok (.tup (brsD (b ++ [s]))) mu := by
  rw [gAdd_tup (by rw [brsD_len, sizeLine_eq]; simp; omega), brsD_app]; rfl
theorem ite_0 {c : Cn} {b b' : List Br} {mu : List MO} : gIx (brD (.ite c b b')) (.int 1) mu = .ok (cnD c) mu ∧ gIx (brD (.ite c b b')) (.int 2) mu = .ok (.tup (brsD b)) mu ∧ gIx (brD (.ite c b b')) (.int 3) mu = .ok (.tup (brsD b')) mu := by
  rw [brD]; exact ⟨by simp, by simp, by simp⟩
theorem whl_0 {c : Cn} {b : List Br} {mu : List MO} : gIx (brD (.whl c b)) (.int 1) mu = .ok (cnD c) mu ∧ gIx (brD (.whl c b)) (.int 2) mu = .ok (.tup (brsD b)) mu := by
  rw [brD]; exact ⟨by simp, by simp⟩
theorem con_true {c : Cn} (h : (conO c).isSome = true) : conD c = .bl (decide (conO c = some true)) := by
  unfold conD
  cases e : conO c with
  | none => rw [e] at h; cases h
  | some b => cases b <;> rfl
theorem changed_ok2 {b c : List Br} {p : List Int} {j : Nat} {s : Br} {kind : Str} {mu : List MO} (l : Loc b p c j) (hs : c[j]? = some s) (hw : wfBs b) (hh : hBs b < 5) (hn : cBs b < 90000) (hf : fitsB kind s c[j + 1]? = true) :
    den_changed_statements dStAt dBlAt den_constant_side [.tup (brsD b), tupI p, .str kind] mu = .ok (.vl (newD (newB kind s c[j + 1]?))) mu := by
  have s0 : (0 : Nat) ≤ sizeLine := by decide
  have s1 : (1 : Nat) ≤ sizeLine := by decide
  have s2 : (2 : Nat) ≤ sizeLine := by decide
  have s3 : (3 : Nat) ≤ sizeLine := by decide
  have s4 : (4 : Nat) ≤ sizeLine := by decide
  have hsz := l.sz
  have hwc := l.wf hw
  have ws := wfBs_mem hwc s (List.mem_of_getElem? hs)
  have h2 := cBs_mem s (List.mem_of_getElem? hs)
  obtain ⟨s', e1, st⟩ := stAt_ok (mu := mu) 6 l (by omega)
  rw [hs] at e1
  cases e1
  have bl := blAt_ok (mu := mu) 6 l (by omega)
  have st : dStAt [.tup (brsD b), tupI p] mu = .ok (.vl (brD s)) mu := st
  have bl : dBlAt [.tup (brsD b), tupI p] mu = .ok (.vl (.tup (brsD c))) mu := bl
  obtain ⟨r, hr⟩ := l.last
  have il : gIx (tupI p) (.int (-1)) mu = .ok (.int (j : Int)) mu := by
    rw [hr]
    show ixD ((r ++ [(j : Int)]).map D.int) (-1) mu = _
    rw [List.map_append]
    exact ixD_last
  have csz : cBs c ≤ cBs b := hsz.2.1
  refine noX_ok ?_
  unfold fitsB at hf
  unfold newB
  cases k1 : kind == Str.ofString "turn" with
  | true =>
    rw [if_pos k1] at hf
    rw [if_pos rfl]
    obtain ⟨cc, x, y, rfl⟩ := is_if hf
    obtain ⟨i1, i2, i3⟩ := ite_0 (c := cc) (b := x) (b' := y) (mu := mu)
    have fin : newD (1, turnN (.ite cc x y)) = .tup [.int 1, .tup [.tup [.str "if", .tup [.str "not", cnD cc], .tup (brsD y), .tup (brsD x)]]] := by
      show D.tup [.int 1, .tup [brD (.ite (.not cc) y x)]] = _
      rw [brD]; rfl
    rw [fin]
    generalize brsD b = B at *
    generalize tupI p = T at *
    generalize brD (.ite cc x y) = S at *
    generalize brsD x = X at *
    generalize brsD y = Y at *
    generalize cnD cc = CC at *
    simp [r_changed_statements, startE, st, gEq_strs, k1, i1, i2, i3, gTup_ok, s1, s2, s4]
  | false =>
  rw [if_neg (by rw [k1]; decide)] at hf
  rw [if_neg (by decide)]
  cases k2 : kind == Str.ofString "peel" with
  | true =>
    rw [if_pos (by rw [k2]; rfl), Bool.and_eq_true] at hf
    rw [if_pos rfl]
    obtain ⟨cc, x, rfl⟩ := is_while hf.1
    obtain ⟨i1, i2⟩ := whl_0 (c := cc) (b := x) (mu := mu)
    have hx : x.length < 90000 := by
      have := cBs_len x
      rw [cB] at h2; omega
    have ga := add_one (b := x) (s := .whl cc x) (mu := mu) hx
    have fin : newD (1, peelN (.whl cc x)) = .tup [.int 1, .tup [.tup [.str "if", cnD cc, .tup (brsD (x ++ [.whl cc x])), .tup []]]] := by
      show D.tup [.int 1, .tup [brD (.ite cc (x ++ [.whl cc x]) [])]] = _
      rw [brD]; rfl
    rw [fin]
    generalize brsD b = B at *
    generalize tupI p = T at *
    generalize brsD (x ++ [.whl cc x]) = XX at *
    generalize brD (.whl cc x) = S at *
    generalize brsD x = X at *
    generalize cnD cc = CC at *
    simp [r_changed_statements, startE, st, gEq_strs, k1, k2, i1, i2, ga, gTup_ok, s0, s1, s2, s4]
  | false =>
  rw [if_neg (by decide)]
  cases k3 : kind == Str.ofString "twice" with
  | true =>
    rw [if_pos (by rw [k3]; cases kind == Str.ofString "peel" <;> rfl), Bool.and_eq_true] at hf
    rw [if_pos rfl]
    obtain ⟨cc, x, rfl⟩ := is_while hf.1
    obtain ⟨i1, i2⟩ := whl_0 (c := cc) (b := x) (mu := mu)
    have hx : x.length < 90000 := by
      have := cBs_len x
      rw [cB] at h2; omega
    have ga := add_one (b := x) (s := .ite cc x []) (mu := mu) hx
    rw [show brD (.ite cc x []) = .tup [.str "if", cnD cc, .tup (brsD x), .tup []] from by rw [brD]; rfl] at ga
    have fin : newD (1, twiceN (.whl cc x)) = .tup [.int 1, .tup [.tup [.str "while", cnD cc, .tup (brsD (x ++ [.ite cc x []]))]]] := by
      show D.tup [.int 1, .tup [brD (.whl cc (x ++ [.ite cc x []]))]] = _
      rw [brD]
    rw [fin]
    generalize brsD b = B at *
    generalize tupI p = T at *
    generalize brsD (x ++ [.ite cc x []]) = XX at *
    generalize brD (.whl cc x) = S at *
    generalize brsD x = X at *
    generalize cnD cc = CC at *
    simp [r_changed_statements, startE, st, gEq_strs, k1, k2, k3, i1, i2, ga, gTup_ok, s0, s1, s2, s3, s4]
  | false =>
  rw [if_neg (by rw [k2, k3]; decide)] at hf
  rw [if_neg (by decide)]
  cases k4 : kind == Str.ofString "swap" with
  | true =>
    rw [if_pos k4] at hf
    rw [if_pos rfl]
    cases hx : c[j + 1]? with
    | none => rw [hx] at hf; cases hf
    | some t =>
      have ixn : gIx (.tup (brsD c)) (.int ((j : Int) + 1)) mu = .ok (brD t) mu := by
        rw [show ((j : Int) + 1) = ((j + 1 : Nat) : Int) from by omega, gIx_tup]
        exact ixD_nat (brsD_get hx)
      have ga : gAdd (.int (j : Int)) (.int 1) mu = .ok (.int ((j : Int) + 1)) mu := by simp
      have fin : newD (2, swapN s (some t)) = .tup [.int 2, .tup [brD t, brD s]] := rfl
      rw [fin]
      generalize brsD b = B at *
      generalize D.tup (brsD c) = C at *
      generalize tupI p = T at *
      generalize brD s = S at *
      generalize brD t = S2 at *
      generalize (j : Int) + 1 = J1 at *
      simp [r_changed_statements, startE, st, gEq_strs, k1, k2, k3, k4, bl, il, ga, ixn, gTup_ok, s2]
  | false =>
  rw [if_neg (by rw [k4]; decide)] at hf
  rw [if_neg (by decide)]
  cases k5 : kind == Str.ofString "rest" with
  | true =>
    rw [if_pos rfl]
    have fin : newD (0, [.pause]) = .tup [.int 0, .tup [.tup [.str "pause"]]] := rfl
    rw [fin]
    generalize brsD b = B at *
    generalize tupI p = T at *
    generalize brD s = S at *
    simp [r_changed_statements, startE, st, gEq_strs, k1, k2, k3, k4, k5, gTup_ok, s1, s2]
  | false =>
  rw [if_neg (by rw [k5]; decide)] at hf
  rw [if_neg (by decide)]
  cases k6 : kind == Str.ofString "unrest" with
  | true =>
    rw [if_pos rfl]
    have fin : newD (1, []) = .tup [.int 1, .tup []] := rfl
    rw [fin]
    generalize brsD b = B at *
    generalize tupI p = T at *
    generalize brD s = S at *
    simp [r_changed_statements, startE, st, gEq_strs, k1, k2, k3, k4, k5, k6, gTup_ok, s0, s2]
  | false =>
  rw [if_neg (by rw [k6]; decide), Bool.and_eq_true, Bool.and_eq_true] at hf
  rw [if_neg (by decide)]
  obtain ⟨cc, x, y, rfl⟩ := is_if hf.1
  obtain ⟨i1, i2, i3⟩ := ite_0 (c := cc) (b := x) (b' := y) (mu := mu)
  have hcs : (conO cc).isSome = true := hf.2.1
  have co := constant_ok (mu := mu) (show wfC cc from ws.1)
  rw [con_true hcs] at co
  have fin : newD (1, cutN (.ite cc x y)) = .tup [.int 1, .tup (if decide (conO cc = some true) = true then brsD x else brsD y)] := by
    show D.tup [.int 1, .tup (brsD (if conO cc = some true then x else y))] = _
    by_cases h : conO cc = some true
    · rw [if_pos h, if_pos (decide_eq_true h)]
    · rw [if_neg h, if_neg (by simpa using h)]
  rw [fin]
  generalize decide (conO cc = some true) = bb at *
  generalize brsD b = B at *
  generalize tupI p = T at *
  generalize brD (.ite cc x y) = S at *
  generalize brsD x = X at *
  generalize brsD y = Y at *
  generalize cnD cc = CC at *
  cases bb <;> simp [r_changed_statements, startE, st, gEq_strs, k1, k2, k3, k4, k5, k6, i1, i2, i3, co, gTup_ok, s2]
end KP
namespace KP
open PySem L2 PyProof.Rows MP
/-! ### the law's statements for a change -/
theorem stfor_ok {s : Br} {t : D} {nx : Option Br} {kind : Str} {mu : List MO} (hw : wfB s) (hn : cB s < 90000) (hf : fitsB kind s nx = true) (ht : ∀ x, nx = some x → t = brD x) :
    den__law_statements_for den__law_always [.str kind, brD s, t] mu = .ok (.vl (newD (newB kind s nx))) mu := by
  have s0 : (0 : Nat) ≤ sizeLine := by decide
  have s1 : (1 : Nat) ≤ sizeLine := by decide
  have s2 : (2 : Nat) ≤ sizeLine := by decide
  have s3 : (3 : Nat) ≤ sizeLine := by decide
  have s4 : (4 : Nat) ≤ sizeLine := by decide
  refine noX_ok ?_
  unfold fitsB at hf
  unfold newB
  cases k1 : kind == Str.ofString "turn" with
  | true =>
    rw [if_pos k1] at hf
    rw [if_pos rfl]
    obtain ⟨cc, x, y, rfl⟩ := is_if hf
    obtain ⟨i1, i2, i3⟩ := ite_0 (c := cc) (b := x) (b' := y) (mu := mu)
    have fin : newD (1, turnN (.ite cc x y)) = .tup [.int 1, .tup [.tup [.str "if", .tup [.str "not", cnD cc], .tup (brsD y), .tup (brsD x)]]] := by
      show D.tup [.int 1, .tup [brD (.ite (.not cc) y x)]] = _
      rw [brD]; rfl
    rw [fin]
    generalize brD (.ite cc x y) = S at *
    generalize brsD x = X at *
    generalize brsD y = Y at *
    generalize cnD cc = CC at *
    simp [r__law_statements_for, startE, gEq_strs, k1, i1, i2, i3, gTup_ok, s1, s2, s4]
  | false =>
  rw [if_neg (by rw [k1]; decide)] at hf
  rw [if_neg (by decide)]
  cases k2 : kind == Str.ofString "peel" with
  | true =>
    rw [if_pos (by rw [k2]; rfl), Bool.and_eq_true] at hf
    rw [if_pos rfl]
    obtain ⟨cc, x, rfl⟩ := is_while hf.1
    obtain ⟨i1, i2⟩ := whl_0 (c := cc) (b := x) (mu := mu)
    have hx : x.length < 90000 := by
      have := cBs_len x
      rw [cB] at hn; omega
    have ga := add_one (b := x) (s := .whl cc x) (mu := mu) hx
    have fin : newD (1, peelN (.whl cc x)) = .tup [.int 1, .tup [.tup [.str "if", cnD cc, .tup (brsD (x ++ [.whl cc x])), .tup []]]] := by
      show D.tup [.int 1, .tup [brD (.ite cc (x ++ [.whl cc x]) [])]] = _
      rw [brD]; rfl
    rw [fin]
    generalize brsD (x ++ [.whl cc x]) = XX at *
    generalize brD (.whl cc x) = S at *
    generalize brsD x = X at *
    generalize cnD cc = CC at *
    simp [r__law_statements_for, startE, gEq_strs, k1, k2, i1, i2, ga, gTup_ok, s0, s1, s2, s4]
  | false =>
  rw [if_neg (by decide)]
  cases k3 : kind == Str.ofString "twice" with
  | true =>
    rw [if_pos (by rw [k3]; cases kind == Str.ofString "peel" <;> rfl), Bool.and_eq_true] at hf
    rw [if_pos rfl]
    obtain ⟨cc, x, rfl⟩ := is_while hf.1
    obtain ⟨i1, i2⟩ := whl_0 (c := cc) (b := x) (mu := mu)
    have hx : x.length < 90000 := by
      have := cBs_len x
      rw [cB] at hn; omega
    have ga := add_one (b := x) (s := .ite cc x []) (mu := mu) hx
    rw [show brD (.ite cc x []) = .tup [.str "if", cnD cc, .tup (brsD x), .tup []] from by rw [brD]; rfl] at ga
    have fin : newD (1, twiceN (.whl cc x)) = .tup [.int 1, .tup [.tup [.str "while", cnD cc, .tup (brsD (x ++ [.ite cc x []]))]]] := by
      show D.tup [.int 1, .tup [brD (.whl cc (x ++ [.ite cc x []]))]] = _
      rw [brD]
    rw [fin]
    generalize brsD (x ++ [.ite cc x []]) = XX at *
    generalize brD (.whl cc x) = S at *
    generalize brsD x = X at *
    generalize cnD cc = CC at *
    simp [r__law_statements_for, startE, gEq_strs, k1, k2, k3, i1, i2, ga, gTup_ok, s0, s1, s2, s3, s4]
  | false =>
  rw [if_neg (by rw [k2, k3]; decide)] at hf
  rw [if_neg (by decide)]
  cases k4 : kind == Str.ofString "swap" with
  | true =>
    rw [if_pos k4] at hf
    rw [if_pos rfl]
    cases nx with
    | none => cases hf
    | some x =>
      have hx := ht x rfl
      subst hx
      have fin : newD (2, swapN s (some x)) = .tup [.int 2, .tup [brD x, brD s]] := rfl
      rw [fin]
      generalize brD s = S at *
      generalize brD x = S2 at *
      simp [r__law_statements_for, startE, gEq_strs, k1, k2, k3, k4, gTup_ok, s2]
  | false =>
  rw [if_neg (by rw [k4]; decide)] at hf
  rw [if_neg (by decide)]
  cases k5 : kind == Str.ofString "rest" with
  | true =>
    rw [if_pos rfl]
    have fin : newD (0, [.pause]) = .tup [.int 0, .tup [.tup [.str "pause"]]] := rfl
    rw [fin]
    generalize brD s = S at *
    simp [r__law_statements_for, startE, gEq_strs, k1, k2, k3, k4, k5, gTup_ok, s1, s2]
  | false =>
  rw [if_neg (by rw [k5]; decide)] at hf
  rw [if_neg (by decide)]
  cases k6 : kind == Str.ofString "unrest" with
  | true =>
    rw [if_pos rfl]
    have fin : newD (1, []) = .tup [.int 1, .tup []] := rfl
    rw [fin]
    generalize brD s = S at *
    simp [r__law_statements_for, startE, gEq_strs, k1, k2, k3, k4, k5, k6, gTup_ok, s0, s2]
  | false =>
  rw [if_neg (by rw [k6]; decide), Bool.and_eq_true, Bool.and_eq_true] at hf
  rw [if_neg (by decide)]
  obtain ⟨cc, x, y, rfl⟩ := is_if hf.1
  obtain ⟨i1, i2, i3⟩ := ite_0 (c := cc) (b := x) (b' := y) (mu := mu)
  have hcs : (conO cc).isSome = true := hf.2.1
  have co := always_ok (mu := mu) (show wfC cc from hw.1)
  rw [con_true hcs] at co
  have fin : newD (1, cutN (.ite cc x y)) = .tup [.int 1, .tup (if decide (conO cc = some true) = true then brsD x else brsD y)] := by
    show D.tup [.int 1, .tup (brsD (if conO cc = some true then x else y))] = _
    by_cases h : conO cc = some true
    · rw [if_pos h, if_pos (decide_eq_true h)]
    · rw [if_neg h, if_neg (by simpa using h)]
  rw [fin]
  generalize decide (conO cc = some true) = bb at *
  generalize brD (.ite cc x y) = S at *
  generalize brsD x = X at *
  generalize brsD y = Y at *
  generalize cnD cc = CC at *
  cases bb <;> simp [r__law_statements_for, startE, gEq_strs, k1, k2, k3, k4, k5, k6, i1, i2, i3, co, gTup_ok, s2]
/-! ### what a change leaves is still plain -/
theorem plBs_iff {C L : Nat} : ∀ {b : List Br}, plBs C L b ↔ ∀ s ∈ b, plB C L s
  | [] => by simp [plBs]
  | s :: r => by simp [plBs, plBs_iff (b := r)]
theorem wfBs_iff : ∀ {b : List Br}, wfBs b ↔ ∀ s ∈ b, wfB s
  | [] => by simp [wfBs]
  | s :: r => by simp [wfBs, wfBs_iff (b := r)]
theorem hBs_le {n : Nat} : ∀ {b : List Br}, hBs b ≤ n ↔ ∀ s ∈ b, hB s ≤ n
  | [] => by simp [hBs]
  | s :: r => by simp [hBs, hBs_le (b := r), Nat.max_le]
theorem cBs_app : ∀ (a b : List Br), cBs (a ++ b) = cBs a + cBs b
  | [], b => by simp [cBs]
  | s :: r, b => by simp [cBs, cBs_app r b]; omega
mutual
theorem plB_mono {C L C' L' : Nat} (hC : C ≤ C') (hL : L ≤ L') : ∀ (s : Br), plB C L s → plB C' L' s
  | .ite c b b', h => by
    rw [plB] at h ⊢
    exact ⟨by omega, by omega, by omega, plBs_mono hC hL b h.2.2.2.1, plBs_mono hC hL b' h.2.2.2.2⟩
  | .whl c b, h => by
    rw [plB] at h ⊢
    exact ⟨by omega, by omega, plBs_mono hC hL b h.2.2⟩
  | .set _ _, _ => by rw [plB] <;> simp
  | .store _ _ _, _ => by rw [plB] <;> simp
  | .push _ _, _ => by rw [plB] <;> simp
  | .pop _ _, _ => by rw [plB] <;> simp
  | .call _ _ _, _ => by rw [plB] <;> simp
  | .pause, _ => by rw [plB] <;> simp
  | .give _, _ => by rw [plB] <;> simp
theorem plBs_mono {C L C' L' : Nat} (hC : C ≤ C') (hL : L ≤ L') : ∀ (b : List Br), plBs C L b → plBs C' L' b
  | [], _ => by rw [plBs]; trivial
  | s :: r, h => by
    rw [plBs] at h ⊢
    exact ⟨plB_mono hC hL s h.1, plBs_mono hC hL r h.2⟩
end
/-- what may stand where a drawn statement stood -/
structure Nice (b : List Br) : Prop where
  wf : wfBs b
  pl : plBs 4 60 b
theorem Nice.app {a b : List Br} (h : Nice a) (h' : Nice b) : Nice (a ++ b) :=
  ⟨wfBs_iff.mpr fun s hs => (List.mem_append.mp hs).elim (wfBs_iff.mp h.wf s) (wfBs_iff.mp h'.wf s), plBs_iff.mpr fun s hs => (List.mem_append.mp hs).elim (plBs_iff.mp h.pl s) (plBs_iff.mp h'.pl s)⟩
theorem Nice.sub {a b : List Br} (h : Nice b) (hs : ∀ s ∈ a, s ∈ b) : Nice a := ⟨wfBs_iff.mpr fun s q => wfBs_iff.mp h.wf s (hs s q), plBs_iff.mpr fun s q => plBs_iff.mp h.pl s (hs s q)⟩
theorem blks_pl {C L : Nat} {s : Br} (h : plB C L s) : ∀ q ∈ blks s, plBs C L q.2 ∧ q.2.length ≤ L := by
  intro q hq
  cases s with
  | ite c b b' =>
    rw [plB] at h
    simp only [blks, List.mem_cons, List.not_mem_nil, or_false] at hq
    rcases hq with rfl | rfl
    · exact ⟨h.2.2.2.1, h.2.1⟩
    · exact ⟨h.2.2.2.2, h.2.2.1⟩
  | whl c b =>
    rw [plB] at h
    simp only [blks, List.mem_cons, List.not_mem_nil, or_false] at hq
    subst hq
    exact ⟨h.2.2, h.2.1⟩
  | _ => simp [blks] at hq
theorem set_nice {s : Br} {q : Int × List Br} {nb : List Br} (h : Nice [s]) (hq : q ∈ blks s) (hn : Nice nb) (hl : nb.length ≤ 60) : Nice [setBlk s q.1 nb] ∧ ∀ n, hB s ≤ n → hBs nb < n → hB (setBlk s q.1 nb) ≤ n := by
  have hw : wfB s := (wfBs_iff.mp h.wf) s (by simp)
  have hp : plB 4 60 s := (plBs_iff.mp h.pl) s (by simp)
  cases s with
  | ite c b b' =>
    rw [plB] at hp
    rw [wfB] at hw
    simp only [blks, List.mem_cons, List.not_mem_nil, or_false] at hq
    rcases hq with rfl | rfl
    · refine ⟨⟨wfBs_iff.mpr fun x hx => ?_, plBs_iff.mpr fun x hx => ?_⟩, fun n h1 h2 => ?_⟩
      · rw [List.mem_singleton.mp hx]
        show wfB (.ite c nb b')
        rw [wfB]
        exact ⟨hw.1, hn.wf, hw.2.2⟩
      · rw [List.mem_singleton.mp hx]
        show plB 4 60 (.ite c nb b')
        rw [plB]
        exact ⟨hp.1, hl, hp.2.2.1, hn.pl, hp.2.2.2.2⟩
      · show hB (.ite c nb b') ≤ n
        rw [hB] at h1 ⊢; omega
    · refine ⟨⟨wfBs_iff.mpr fun x hx => ?_, plBs_iff.mpr fun x hx => ?_⟩, fun n h1 h2 => ?_⟩
      · rw [List.mem_singleton.mp hx]
        show wfB (.ite c b nb)
        rw [wfB]
        exact ⟨hw.1, hw.2.1, hn.wf⟩
      · rw [List.mem_singleton.mp hx]
        show plB 4 60 (.ite c b nb)
        rw [plB]
        exact ⟨hp.1, hp.2.1, hl, hp.2.2.2.1, hn.pl⟩
      · show hB (.ite c b nb) ≤ n
        rw [hB] at h1 ⊢; omega
  | whl c b =>
    rw [plB] at hp
    rw [wfB] at hw
    simp only [blks, List.mem_cons, List.not_mem_nil, or_false] at hq
    subst hq
    refine ⟨⟨wfBs_iff.mpr fun x hx => ?_, plBs_iff.mpr fun x hx => ?_⟩, fun n h1 h2 => ?_⟩
    · rw [List.mem_singleton.mp hx]
      show wfB (.whl c nb)
      rw [wfB]
      exact ⟨hw.1, hn.wf⟩
    · rw [List.mem_singleton.mp hx]
      show plB 4 60 (.whl c nb)
      rw [plB]
      exact ⟨hp.1, hl, hn.pl⟩
    · show hB (.whl c nb) ≤ n
      rw [hB] at h1 ⊢; omega
  | _ => simp [blks] at hq
theorem Loc.ne {b c : List Br} {p : List Int} {j : Nat} (l : Loc b p c j) : p ≠ [] := by cases l <;> simp
theorem repl_nice {m : Nat} {new : List Br} (hnew : Nice new) (hl : new.length ≤ 30) {b c : List Br} {p : List Int} {j : Nat} (l : Loc b p c j) : wfBs b → plBs 3 20 b → b.length ≤ 20 →
    Nice (replB p b m new) ∧ (replB p b m new).length ≤ 50 ∧ hBs (replB p b m new) ≤ hBs b + hBs new ∧ cBs (replB p b m new) ≤ cBs b + cBs new := by
  induction l with
  | @here b i s h =>
    intro hw hp hb
    have nb : Nice b := ⟨hw, plBs_mono (by decide) (by decide) b hp⟩
    rw [replB_here]
    refine ⟨((nb.sub fun s h => List.mem_of_mem_take h).app hnew).app (nb.sub fun s h => List.mem_of_mem_drop h), ?_, ?_, ?_⟩
    · rw [List.length_append, List.length_append, List.length_take, List.length_drop]; omega
    · refine hBs_le.mpr fun s hs => ?_
      rcases List.mem_append.mp hs with h | h
      · rcases List.mem_append.mp h with h | h
        · have := hBs_mem s (List.mem_of_mem_take h); omega
        · have := hBs_mem s h; omega
      · have := hBs_mem s (List.mem_of_mem_drop h); omega
    · have e : cBs b = cBs (b.take i) + cBs (b.drop i) := by rw [← cBs_app, List.take_append_drop]
      have e2 : cBs (b.drop i) = cBs ((b.drop i).take m) + cBs ((b.drop i).drop m) := by rw [← cBs_app, List.take_append_drop]
      rw [List.drop_drop] at e2
      rw [cBs_app, cBs_app]; omega
  | @deep b i s q p c j h hq l ih =>
    intro hw hp hb
    have nb : Nice b := ⟨hw, plBs_mono (by decide) (by decide) b hp⟩
    have hs := List.mem_of_getElem? h
    have ps := plBs_iff.mp hp s hs
    have ws := wfBs_iff.mp hw s hs
    have bp := blks_pl ps q hq
    have bm := blks_mem s q hq
    obtain ⟨i1, i2, i3, i4⟩ := ih (bm.2.2 ws) bp.1 bp.2
    rw [replB_deep h hq l.ne]
    have sn := set_nice (nb.sub (a := [s]) fun x hx => by rw [List.mem_singleton.mp hx]; exact hs) hq i1 (by omega)
    have hsb := hBs_mem s hs
    refine ⟨((nb.sub fun s h => List.mem_of_mem_take h).app sn.1).app (nb.sub fun s h => List.mem_of_mem_drop h), ?_, ?_, ?_⟩
    · rw [List.length_append, List.length_append, List.length_take, List.length_drop, List.length_singleton]; omega
    · refine hBs_le.mpr fun x hx => ?_
      rcases List.mem_append.mp hx with h | h
      · rcases List.mem_append.mp h with h | h
        · have := hBs_mem x (List.mem_of_mem_take h); omega
        · rw [List.mem_singleton.mp h]
          exact sn.2 _ (by omega) (by omega)
      · have := hBs_mem x (List.mem_of_mem_drop h); omega
    · have cset : cB (setBlk s q.1 (replB p q.2 m new)) + cBs q.2 = cB s + cBs (replB p q.2 m new) := by
        cases s with
        | ite cc b b' =>
          simp only [blks, List.mem_cons, List.not_mem_nil, or_false] at hq
          rcases hq with rfl | rfl
          · show cB (.ite cc _ b') + _ = _
            rw [cB, cB]; dsimp only; omega
          · show cB (.ite cc b _) + _ = _
            rw [cB, cB]; dsimp only; omega
        | whl cc b =>
          simp only [blks, List.mem_cons, List.not_mem_nil, or_false] at hq
          subst hq
          show cB (.whl cc _) + _ = _
          rw [cB, cB]; dsimp only; omega
        | _ => simp [blks] at hq
      have e : cBs b = cBs (b.take i) + cBs (b.drop i) := by rw [← cBs_app, List.take_append_drop]
      have hlt : i < b.length := (List.getElem?_eq_some_iff.mp h).1
      have e3 : b.drop i = s :: b.drop (i + 1) := by
        rw [List.drop_eq_getElem_cons hlt]
        congr 1
        exact (List.getElem?_eq_some_iff.mp h).2
      rw [e3, cBs] at e
      rw [cBs_app, cBs_app, cBs, cBs]; omega
theorem new_nice {kind : Str} {s : Br} {nx : Option Br} (hs : wfB s) (hp : plB 3 20 s) (hx : ∀ t, nx = some t → wfB t ∧ plB 3 20 t) : Nice (newB kind s nx).2 ∧ (newB kind s nx).2.length ≤ 30 ∧ ∀ n, hB s ≤ n → (∀ t, nx = some t → hB t ≤ n) → hBs (newB kind s nx).2 ≤ n + 1 := by
  have n0 : Nice [] := ⟨by rw [wfBs]; trivial, by rw [plBs]; trivial⟩
  have n1 : ∀ {t : Br}, wfB t → plB 4 60 t → Nice [t] := fun h h' => ⟨wfBs_iff.mpr fun x hx => by rw [List.mem_singleton.mp hx]; exact h, plBs_iff.mpr fun x hx => by rw [List.mem_singleton.mp hx]; exact h'⟩
  unfold newB
  split
  · cases s with
    | ite c b b' =>
      rw [wfB] at hs
      rw [plB] at hp
      refine ⟨n1 (by rw [wfB, wfC]; exact ⟨hs.1, hs.2.2, hs.2.1⟩) (by rw [plB, cnH]; exact ⟨by omega, by omega, by omega, plBs_mono (by decide) (by decide) _ hp.2.2.2.2, plBs_mono (by decide) (by decide) _ hp.2.2.2.1⟩), by simp [turnN], fun n hn _ => ?_⟩
      show hBs [Br.ite (.not c) b' b] ≤ _
      rw [hB] at hn
      rw [hBs, hBs, hB]; omega
    | _ => exact ⟨n0, by simp [turnN], fun n _ _ => by simp [turnN, hBs]⟩
  split
  · cases s with
    | whl c b =>
      have hs0 := hs
      have hp0 := hp
      rw [wfB] at hs
      rw [plB] at hp
      have nb : Nice b := ⟨hs.2, plBs_mono (by decide) (by decide) _ hp.2.2⟩
      have nx' := nb.app (n1 hs0 (plB_mono (by decide) (by decide) _ hp0))
      refine ⟨n1 (by rw [wfB]; exact ⟨hs.1, nx'.wf, by rw [wfBs]; trivial⟩) (by rw [plB]; exact ⟨by omega, by rw [List.length_append, List.length_singleton]; omega, by simp, nx'.pl, by rw [plBs]; trivial⟩), by simp [peelN], fun n hn _ => ?_⟩
      show hBs [Br.ite c (b ++ [.whl c b]) []] ≤ _
      rw [hBs, hBs, hB, hBs]
      have : hBs (b ++ [.whl c b]) ≤ hB (.whl c b) := hBs_le.mpr fun x hx => by
        rcases List.mem_append.mp hx with h | h
        · have := hBs_mem x h
          rw [hB]; omega
        · rw [List.mem_singleton.mp h]; exact Nat.le_refl _
      omega
    | _ => exact ⟨n0, by simp [peelN], fun n _ _ => by simp [peelN, hBs]⟩
  split
  · cases s with
    | whl c b =>
      rw [wfB] at hs
      rw [plB] at hp
      have nb : Nice b := ⟨hs.2, plBs_mono (by decide) (by decide) _ hp.2.2⟩
      have nx' := nb.app (n1 (t := .ite c b []) (by rw [wfB]; exact ⟨hs.1, hs.2, by rw [wfBs]; trivial⟩) (by rw [plB]; exact ⟨by omega, by omega, by simp, nb.pl, by rw [plBs]; trivial⟩))
      refine ⟨n1 (by rw [wfB]; exact ⟨hs.1, nx'.wf⟩) (by rw [plB]; exact ⟨by omega, by rw [List.length_append, List.length_singleton]; omega, nx'.pl⟩), by simp [twiceN], fun n hn _ => ?_⟩
      show hBs [Br.whl c (b ++ [.ite c b []])] ≤ _
      rw [hBs, hBs, hB]
      have : hBs (b ++ [.ite c b []]) ≤ hB (.whl c b) := hBs_le.mpr fun x hx => by
        rcases List.mem_append.mp hx with h | h
        · have := hBs_mem x h
          rw [hB]; omega
        · rw [List.mem_singleton.mp h, hB, hB, hBs]; omega
      omega
    | _ => exact ⟨n0, by simp [twiceN], fun n _ _ => by simp [twiceN, hBs]⟩
  split
  · cases nx with
    | none => exact ⟨n0, by simp [swapN], fun n _ _ => by simp [swapN, hBs]⟩
    | some t =>
      obtain ⟨a, b⟩ := hx t rfl
      refine ⟨(n1 a (plB_mono (by decide) (by decide) _ b)).app (n1 hs (plB_mono (by decide) (by decide) _ hp)), by simp [swapN], fun n hn ht => ?_⟩
      show hBs [t, s] ≤ n + 1
      have := ht t rfl
      rw [hBs, hBs, hBs]; omega
  split
  · exact ⟨n1 (by rw [wfB] <;> simp) (by rw [plB] <;> simp), by simp, fun n _ _ => by simp [hBs, hB]⟩
  split
  · exact ⟨n0, by simp, fun n _ _ => by simp [hBs]⟩
  · cases s with
    | ite c b b' =>
      rw [wfB] at hs
      rw [plB] at hp
      show Nice (if conO c = some true then b else b') ∧ (if conO c = some true then b else b').length ≤ 30 ∧ ∀ n, hB (.ite c b b') ≤ n → _ → hBs (if conO c = some true then b else b') ≤ n + 1
      split
      · exact ⟨⟨hs.2.1, plBs_mono (by decide) (by decide) _ hp.2.2.2.1⟩, by omega, fun n hn _ => by rw [hB] at hn; omega⟩
      · exact ⟨⟨hs.2.2, plBs_mono (by decide) (by decide) _ hp.2.2.2.2⟩, by omega, fun n hn _ => by rw [hB] at hn; omega⟩
    | _ => exact ⟨n0, by simp [cutN], fun n _ _ => by simp [cutN, hBs]⟩
end KP
namespace KP
open PySem L2 PyProof.Rows MP
noncomputable abbrev dPlaces : List D → M Rv := den_places_for den_proc_in dPaths dCan
noncomputable abbrev dLPlaces : List D → M Rv := den__law_places_of dLPaths den__law_body_of dFits
noncomputable abbrev dChSt : List D → M Rv := den_changed_statements dStAt dBlAt den_constant_side
noncomputable abbrev dRepl : List D → M Rv := replL 6
noncomputable abbrev dPut : List D → M Rv := putL 6
noncomputable abbrev dChange : List D → M Rv := den_change den_proc_in dPlaces dChSt dWith dRepl
noncomputable abbrev dLStFor : List D → M Rv := den__law_statements_for den__law_always
noncomputable abbrev dLChange : List D → M Rv := den__law_changed_source den__law_body_of dLPaths dLStFor den__law_source_with dPut
theorem find_mem {ps : List Pr} {p : Pr} (h : p ∈ ps) : ∃ q, ps.find? (fun x => x.name == p.name) = some q ∧ q ∈ ps := by
  cases e : ps.find? (fun x => x.name == p.name) with
  | none => exact absurd (beq_self_eq_true p.name) (by simpa using List.find?_eq_none.mp e p h)
  | some q => exact ⟨q, rfl, List.mem_of_find?_eq_some e⟩
/-! ### plain sources -/
structure NicePr (p : Pr) : Prop where
  n : Nice p.body
  l : p.body.length ≤ 60
  h : hBs p.body ≤ 12
  items : plainD 5 p.items = true
  res : plainD 5 p.res = true
  places : plainD 5 p.places = true
theorem GoodPr.nice {p : Pr} (g : GoodPr p) : NicePr p := ⟨⟨g.b.wf, plBs_mono (by decide) (by decide) _ g.pl⟩, by have := g.bl; omega, by have := g.b.h; omega, g.items, g.res, g.places⟩
theorem nice_plain {p : Pr} (g : NicePr p) : plainD 37 (prD p) = true := by
  unfold prD
  refine plain_tup (by simp) fun x hx => ?_
  simp only [List.mem_cons, List.not_mem_nil, or_false] at hx
  rcases hx with rfl | rfl | rfl | rfl | rfl | rfl | rfl | rfl | rfl
  · rfl
  · exact plain_mono 5 _ _ (by decide) g.items
  · exact plain_mono 5 _ _ (by decide) g.res
  · exact plain_mono 5 _ _ (by decide) g.places
  · rfl
  · rfl
  · rfl
  · rfl
  · exact plain_tup (by rw [brsD_len]; have := g.l; omega) (brs_plain (C := 4) (L := 60) (by decide) (by decide) p.body _ g.n.wf g.n.pl (by have := g.h; omega))
theorem src_plain {recs : D} {ps : List Pr} (hr : plainD 6 recs = true) (hl : ps.length ≤ 100) (hg : ∀ p ∈ ps, NicePr p) : plainD 39 (srcD recs ps) = true := by
  unfold srcD
  refine plain_tup (by simp) fun x hx => ?_
  simp only [List.mem_cons, List.not_mem_nil, or_false] at hx
  rcases hx with rfl | rfl
  · exact plain_mono 6 _ _ (by decide) hr
  · refine plain_tup (by rw [List.length_map]; omega) fun x hx => ?_
    obtain ⟨p, hp, rfl⟩ := List.mem_map.mp hx
    exact nice_plain (hg p hp)
theorem upd_nice {ps : List Pr} {nm : Str} {nb : List Br} (hg : ∀ p ∈ ps, NicePr p) (hn : Nice nb) (hl : nb.length ≤ 60) (hh : hBs nb ≤ 12) : ∀ p ∈ ps.map (updP nm nb), NicePr p := fun p hp => by
  obtain ⟨q, hq, rfl⟩ := List.mem_map.mp hp
  have g := hg q hq
  unfold updP
  split
  · exact ⟨hn, hl, hh, g.items, g.res, g.places⟩
  · exact g
/-! ### a change, by the program -/
def chB (kind : Str) (b : List Br) (row : Row) : List Br := match row.2 with
  | s :: r => replB row.1 b (newB kind s r[0]?).1 (newB kind s r[0]?).2
  | [] => b
/-- what a row of places tells -/
theorem plc_row {b : List Br} {kind : Str} {row : Row} (h : row ∈ plc b kind) : ∃ s r c j, Loc b row.1 c j ∧ row.2 = s :: r ∧ c[j]? = some s ∧ c[j + 1]? = r[0]? ∧ fitsB kind s r[0]? = true ∧ (∀ x, r[0]? = some x → x ∈ c) := by
  obtain ⟨h1, h2⟩ := List.mem_filter.mp h
  obtain ⟨s, c, j, l, hs, hd, hf⟩ := row_loc h1
  have hlt : j < c.length := (List.getElem?_eq_some_iff.mp hs).1
  have e3 : c.drop j = s :: c.drop (j + 1) := by
    rw [List.drop_eq_getElem_cons hlt]
    congr 1
    exact (List.getElem?_eq_some_iff.mp hs).2
  have e4 : c[j + 1]? = (c.drop (j + 1))[0]? := by rw [List.getElem?_drop]
  refine ⟨s, c.drop (j + 1), c, j, l, by rw [← hd, e3], hs, e4, ?_, fun x hx => List.mem_of_mem_drop (List.mem_of_getElem? hx)⟩
  rw [← e4, ← hf]; exact h2
theorem Loc.pl {C L : Nat} {b c : List Br} {p : List Int} {j : Nat} (l : Loc b p c j) : plBs C L b → plBs C L c := by
  induction l with
  | here h => exact id
  | deep h hq l ih => exact fun hp => ih (blks_pl (plBs_iff.mp hp _ (List.mem_of_getElem? h)) _ hq).1
/-- the body behind a change is as it should be -/
theorem ch_nice {p : Pr} {kind : Str} {row : Row} (g : GoodPr p) (h : row ∈ plc p.body kind) : Nice (chB kind p.body row) ∧ (chB kind p.body row).length ≤ 50 ∧ hBs (chB kind p.body row) ≤ 12 := by
  obtain ⟨s, r, c, j, l, e, hs, e4, hf, hx⟩ := plc_row h
  have hsm := List.mem_of_getElem? hs
  have wc := l.wf g.b.wf
  have pc := l.pl g.pl
  have hc := l.sz.1
  have hb := g.b.h
  have h1 := hBs_mem s hsm
  obtain ⟨n1, n2, n3⟩ := new_nice (kind := kind) (nx := r[0]?) (wfBs_iff.mp wc s hsm) (plBs_iff.mp pc s hsm) fun t ht => ⟨wfBs_iff.mp wc t (hx t ht), plBs_iff.mp pc t (hx t ht)⟩
  have n4 := n3 5 (by omega) fun t ht => by have := hBs_mem t (hx t ht); omega
  obtain ⟨a, b, cc, d⟩ := repl_nice (m := (newB kind s r[0]?).1) n1 n2 l g.b.wf g.pl g.bl
  unfold chB
  rw [e]
  dsimp only
  exact ⟨a, b, by omega⟩
theorem change_core {recs : D} {ps : List Pr} {nm kind : Str} {p : Pr} {row : Row} {mu : List MO} (h : ps.find? (fun q => q.name == nm) = some p) (gp : GoodB p.body) (hl : ps.length ≤ 100) (hk : kinds.contains kind = true) (hrow : row ∈ plc p.body kind) (hc : CloH mu)
    (hnew : ∀ s r, row.2 = s :: r → (newB kind s r[0]?).2.length < 90000) (hflat : flat (srcD recs (ps.map (updP nm (chB kind p.body row)))) = true) :
    dChange [srcD recs ps, .str nm, .str kind, rowP row] mu = .ok (.vl (srcD recs (ps.map (updP nm (chB kind p.body row))))) mu := by
  have e1 := proc_in_ok (recs := recs) (mu := mu) h
  have e2 := pr_8 p mu
  have e3 := places_ok (recs := recs) h hk gp hc
  have e3 : dPlaces [srcD recs ps, .str nm, .str kind] mu = _ := e3
  have e4 : gIn true (rowP row) (.tup ((plc p.body kind).map rowP)) mu = .ok (.bl false) mu := by
    have := gIn_tups (neg := true) (a := row.1) (ps := (plc p.body kind).map (·.1)) (mu := mu)
    rw [List.map_map, decide_eq_true (List.mem_map.mpr ⟨row, hrow, rfl⟩)] at this
    exact this
  obtain ⟨s, r, c, j, l, e, hs, e5, hf, hx⟩ := plc_row hrow
  have e6 := changed_ok2 (kind := kind) (mu := mu) l hs gp.wf gp.h gp.c (by rw [e5]; exact hf)
  rw [e5] at e6
  have e6 : dChSt [.tup (brsD p.body), rowP row, .str kind] mu = _ := e6
  have e7 := repl_ok (mu := mu) (m := (newB kind s r[0]?).1) (new := (newB kind s r[0]?).2) (hnew s r e) 6 l (by have := l.sz.2.2; have := gp.h; omega) gp.c
  have ech : chB kind p.body row = replB row.1 p.body (newB kind s r[0]?).1 (newB kind s r[0]?).2 := by unfold chB; rw [e]
  rw [← ech] at e7
  have e7 : dRepl [.tup (brsD p.body), rowP row, .int ((newB kind s r[0]?).1 : Int), .tup (brsD (newB kind s r[0]?).2)] mu = _ := e7
  have e8 := with_ok (recs := recs) (ps := ps) (nm := nm) (nb := chB kind p.body row) (by omega) hflat hc
  show runB 7 (r_change den_proc_in dPlaces dChSt dWith dRepl) _ mu = _
  unfold newD at e6
  generalize srcD recs (ps.map (updP nm (chB kind p.body row))) = OUT at *
  generalize srcD recs ps = SR at *
  generalize (plc p.body kind).map rowP = PL at *
  generalize ((newB kind s r[0]?).1 : Int) = MM at *
  generalize brsD (newB kind s r[0]?).2 = NN at *
  generalize brsD (chB kind p.body row) = CB at *
  generalize brsD p.body = BB at *
  generalize prD p = PP at *
  generalize rowP row = RW at *
  simp [r_change, startE, e1, e2, e3, e4, e6, e7, e8]
theorem change_ok {recs : D} {ps : List Pr} {nm kind : Str} {p : Pr} {row : Row} {mu : List MO} (h : ps.find? (fun q => q.name == nm) = some p) (hg : ∀ p ∈ ps, GoodPr p) (hr : plainD 6 recs = true) (hl : ps.length ≤ 100) (hk : kinds.contains kind = true) (hrow : row ∈ plc p.body kind) (hc : CloH mu) :
    dChange [srcD recs ps, .str nm, .str kind, rowP row] mu = .ok (.vl (srcD recs (ps.map (updP nm (chB kind p.body row))))) mu := by
  have gp := hg p (List.mem_of_find?_eq_some h)
  have cn := ch_nice gp hrow
  have un := upd_nice (nm := nm) (fun q hq => (hg q hq).nice) cn.1 (by omega) cn.2.2
  obtain ⟨s, r, c, j, l, e, hs, e5, hf, hx⟩ := plc_row hrow
  have hsm := List.mem_of_getElem? hs
  have wc := l.wf gp.b.wf
  have pc := l.pl gp.pl
  have nn := new_nice (kind := kind) (nx := r[0]?) (wfBs_iff.mp wc s hsm) (plBs_iff.mp pc s hsm) fun t ht => ⟨wfBs_iff.mp wc t (hx t ht), plBs_iff.mp pc t (hx t ht)⟩
  exact change_core h gp.b hl hk hrow hc (fun s' r' e' => by rw [e] at e'; cases e'; have := nn.2.1; omega) (plain_flat 39 _ (src_plain hr (by rw [List.length_map]; exact hl) un))
/-! ### a change, by the law -/
theorem lexI_irr (x : List Int) : lexI x x = false := by
  cases h : lexI x x with
  | false => rfl
  | true => have := lexI_asym x x h; rw [h] at this; cases this
theorem filter_row : ∀ {l : List Row} {row : Row}, l.Pairwise (fun x y => lexI x.1 y.1 = true) → row ∈ l → l.filter (fun r => decide (r.1 = row.1)) = [row]
  | x :: l, row, hp, h => by
    rw [List.pairwise_cons] at hp
    rcases List.mem_cons.mp h with rfl | h
    · rw [List.filter_cons_of_pos (by simp), List.filter_eq_nil_iff.mpr fun y hy => ?_]
      have := hp.1 y hy
      rw [decide_eq_true_iff]
      intro e
      rw [e, lexI_irr] at this
      cases this
    · have := hp.1 row h
      rw [List.filter_cons_of_neg, filter_row hp.2 h]
      rw [decide_eq_true_iff]
      intro e
      rw [e, lexI_irr] at this
      cases this
theorem lchange_ok {recs : D} {ps : List Pr} {nm kind : Str} {p : Pr} {row : Row} {mu : List MO} (h : ps.find? (fun q => q.name == nm) = some p) (hg : ∀ p ∈ ps, GoodPr p) (hl : ps.length ≤ 100) (hrow : row ∈ plc p.body kind) (hc : CloH mu) :
    dLChange [srcD recs ps, .str nm, .str kind, rowP row] mu = .ok (.vl (srcD recs (ps.map (updP nm (chB kind p.body row))))) mu := by
  have s0 : (0 : Nat) ≤ sizeLine := by decide
  have gp := hg p (List.mem_of_find?_eq_some h)
  have e1 := body_of_ok (recs := recs) (mu := mu) h
  have e2 := lpaths_ok 6 p.body [] mu (by have := gp.b.h; omega) (by have := gp.b.c; omega) (by simp) hc
  have e2 : dLPaths [.tup (brsD p.body), .tup []] mu = _ := e2
  obtain ⟨s, r, c, j, l, e, hs, e5, hf, hx⟩ := plc_row hrow
  have hsm := List.mem_of_getElem? hs
  have wc := l.wf gp.b.wf
  have pc := l.pl gp.pl
  have ws := wfBs_iff.mp wc s hsm
  have nn := new_nice (kind := kind) (nx := r[0]?) ws (plBs_iff.mp pc s hsm) fun t ht => ⟨wfBs_iff.mp wc t (hx t ht), plBs_iff.mp pc t (hx t ht)⟩
  have hcs : cB s < 90000 := by
    have a := cBs_mem s hsm
    have b := l.sz.2.1
    have d := gp.b.c
    omega
  have fr := filter_row (rowsB_pw 5 p.body 0 [] gp.b.h) (List.mem_filter.mp hrow).1
  have e3 : loopC (asgN 8) (eB (eBin (gEq false) (eBin gIx (eVar 8) (eC (.int 0))) (eVar 3))) (eBin gIx (eVar 8) (eC (.int 1))) [] ((rowsB p.body 0 []).map rowD) [some (srcD recs ps), some (.str nm), some (.str kind), some (rowP row), some (.tup (brsD p.body)), none, none, none, none] mu = .ok [.tup (brsD row.2)] mu := by
    have := loopC_filter' (asg := asgN 8) (t := eB (eBin (gEq false) (eBin gIx (eVar 8) (eC (.int 0))) (eVar 3))) (r := eBin gIx (eVar 8) (eC (.int 1))) (env := [some (srcD recs ps), some (.str nm), some (.str kind), some (rowP row), some (.tup (brsD p.body)), none, none, none, none]) (mu := mu) (g := rowD) (f := fun r => D.tup (brsD r.2)) (p := fun r => decide (r.1 = row.1)) (xs := rowsB p.body 0 []) fun x _ => by
      have ge := gEq_tupI (a := x.1) (b := row.1) (mu := mu)
      refine ⟨[some (srcD recs ps), some (.str nm), some (.str kind), some (rowP row), some (.tup (brsD p.body)), none, none, none, some (rowD x)], rfl, ?_, fun _ => ?_⟩
      · simp [ge]
      · simp
    rw [fr] at this
    exact this
  have hrl : row.2.length + row.2.length ≤ sizeLine := by
    have a := cBs_len c
    have b := l.sz.2.1
    have d := gp.b.c
    obtain ⟨h1, h2⟩ := List.mem_filter.mp hrow
    obtain ⟨s', c', j', l', _, hd, _⟩ := row_loc h1
    have a' := cBs_len c'
    have b' := l'.sz.2.1
    rw [← hd, List.length_drop, sizeLine_eq]; omega
  have e6 : gAdd (.tup (brsD row.2)) (.tup (brsD row.2)) mu = .ok (.tup (brsD row.2 ++ brsD row.2)) mu := gAdd_tup (by rw [brsD_len]; exact hrl)
  obtain ⟨t, e7, ht⟩ : ∃ t, ixD (brsD row.2 ++ brsD row.2) 1 mu = .ok t mu ∧ ∀ x, r[0]? = some x → t = brD x := by
    rw [e, brsD]
    cases r with
    | nil => exact ⟨brD s, by rw [brsD]; exact ixD1, fun x hx => by cases hx⟩
    | cons x r => exact ⟨brD x, by rw [brsD]; exact ixD1, fun y hy => by cases hy; rfl⟩
  have e8 : ixD (brsD row.2) 0 mu = .ok (brD s) mu := by rw [e, brsD]; exact ixD0
  have e9 := stfor_ok (t := t) (mu := mu) ws hcs hf ht
  have e9 : dLStFor [.str kind, brD s, t] mu = _ := e9
  have e10 := put_ok (mu := mu) (m := (newB kind s r[0]?).1) (new := (newB kind s r[0]?).2) (by have := nn.2.1; omega) 6 l (by have := l.sz.2.2; have := gp.b.h; omega) gp.b.c
  have ech : chB kind p.body row = replB row.1 p.body (newB kind s r[0]?).1 (newB kind s r[0]?).2 := by unfold chB; rw [e]
  rw [← ech] at e10
  have e10 : dPut [.tup (brsD p.body), rowP row, .int ((newB kind s r[0]?).1 : Int), .tup (brsD (newB kind s r[0]?).2)] mu = _ := e10
  have e11 := source_with_ok (recs := recs) (ps := ps) (nm := nm) (nb := chB kind p.body row) (mu := mu) (by omega)
  refine noX_ok ?_
  unfold newD at e9
  generalize srcD recs (ps.map (updP nm (chB kind p.body row))) = OUT at *
  generalize srcD recs ps = SR at *
  generalize (rowsB p.body 0 []).map rowD = PL at *
  generalize ((newB kind s r[0]?).1 : Int) = MM at *
  generalize brsD (newB kind s r[0]?).2 = NN at *
  generalize brsD (chB kind p.body row) = CB at *
  generalize brsD p.body = BB at *
  generalize brsD row.2 = RR at *
  generalize brD s = SS at *
  generalize rowP row = RW at *
  simp [r__law_changed_source, startE, e1, e2, noX_ok e3, e6, e7, e8, e9, e10, e11, gTup_ok, s0]
end KP
namespace MP
open PySem L2 PyProof.Rows
theorem gEq_bls {neg a b : Bool} {mu : List MO} : gEq neg (.bl a) (.bl b) mu = .ok (.bl ((a == b) != neg)) mu := by
  unfold gEq
  simp [okE, dep, eqD]
/-- one of a drawn list -/
theorem one_map {α : Type} {f : α → D} {s : Nat} {cs : List Int} {xs : List α} {mu : List MO} (h : At s cs mu) (h0 : xs ≠ []) (h1 : xs.length < 1000) : ∃ x mu', den__law_one_of den__law_draw [.ref s, .fl (xs.map f)] mu = .ok (.vl (f x)) mu' ∧ Nx s cs mu mu' ∧ x ∈ xs := by
  obtain ⟨y, mu', e, n, hy⟩ := one_of_at (xs := xs.map f) h (by rw [List.length_map]; exact List.length_pos_iff.mpr h0) (by rw [List.length_map]; exact h1)
  obtain ⟨x, hx, rfl⟩ := List.mem_map.mp hy
  exact ⟨x, mu', e, n, hx⟩
/-- .. by its place -/
theorem ix_map {α : Type} {f : α → D} {xs : List α} {i : Int} {mu : List MO} (h0 : 0 ≤ i) (h1 : i < xs.length) : ∃ x, x ∈ xs ∧ ixD (xs.map f) i mu = .ok (f x) mu := by
  obtain ⟨y, hy, e⟩ := atI_of (xs := xs.map f) h0 (by rw [List.length_map]; exact h1)
  obtain ⟨x, hx, rfl⟩ := List.mem_map.mp hy
  exact ⟨x, hx, ixD_at e⟩
end MP
namespace KP
open PySem L2 PyProof.Rows MP
/-! ### the drawn statements -/
noncomputable abbrev dDraw : List D → M Rv := den__law_draw
noncomputable abbrev dOne : List D → M Rv := den__law_one_of den__law_draw
theorem drawN {s : Nat} {cs : List Int} {mu : List MO} (h : At s cs mu) (most : Int) (h0 : 0 < most) (h1 : most < 1000) : ∃ d mu', dDraw [.ref s, .int most] mu = .ok (.vl (.int d)) mu' ∧ Nx s cs mu mu' ∧ 0 ≤ d ∧ d < most := by
  obtain ⟨d, mu', e, n, a, b⟩ := draw_at h h0 (log2_small (by omega))
  exact ⟨d, mu', e, n, a, b⟩
structure Leaf (b : Br) : Prop where
  wf : wfB b
  h : hB b = 0
  c : cB b = 0
  pl : plB 3 20 b
noncomputable abbrev dFew : List D → M Rv := den__law_few dOne dDraw
noncomputable def fwIf : MP.Env → M Fl := (eIf (eB (eBin (gEq false) (eCall (lenD 2 dDraw) (aCons (eVar 0) (aCons (eC (.int 3)) aNil))) (eC (.int 0))))
  (sSet 5 (eBin gIx (eFl (aList (aCons (aThen gTup (aCons (eC (.str "item")) (aCons (eBin gIx (eVar 1) (eC (.int 4))) (aCons (eVar 5) aNil)))) (aCons (aThen gTup (aCons (eC (.str "plus")) (aCons (aThen gTup (aCons (eC (.str "number")) (aCons (eC (.int 1)) aNil))) (aCons (eVar 5) aNil)))) (aCons (aThen gTup (aCons (eC (.str "scale")) (aCons (eC (.int 3)) (aCons (eVar 5) aNil)))) (aCons (aThen gTup (aCons (eC (.str "remainder")) (aCons (eVar 5) (aCons (eC (.int 4)) aNil)))) aNil)))))) (eCall (lenD 2 dDraw) (aCons (eVar 0) (aCons (eC (.int 4)) aNil)))))
  sNext)
noncomputable def fwTail : MP.Env → M Fl := (sSeq (sSet 6 (eCall (lenD 2 dDraw) (aCons (eVar 0) (aCons (eC (.int 6)) aNil))))
  (sSeq (eIf (eB (eBin gLt (eVar 6) (eC (.int 2))))
  (sRet (aThen gTup (aCons (eC (.str "set")) (aCons (eVar 3) (aCons (eVar 5) aNil)))))
  sNext)
  (sSeq (eIf (eB (eBin (gEq false) (eVar 6) (eC (.int 2))))
  (sRet (aThen gTup (aCons (eC (.str "push")) (aCons (eVar 5) (aCons (eVar 4) aNil)))))
  sNext)
  (sSeq (eIf (eB (eBin (gEq false) (eVar 6) (eC (.int 3))))
  (sRet (aThen gTup (aCons (eC (.str "pop")) (aCons (eVar 3) (aCons (eVar 4) aNil)))))
  sNext)
  (sSeq (eIf (eB (eBin (gEq false) (eVar 6) (eC (.int 4))))
  (sRet (aThen gTup (aCons (eC (.str "store")) (aCons (eVar 4) (aCons (eVar 5) (aCons (eCall (lenD 2 dOne) (aCons (eVar 0) (aCons (eFl (aList (aCons (aThen gTup (aCons (eC (.str "number")) (aCons (eC (.int 1)) aNil))) (aCons (aThen gTup (aCons (eC (.str "name")) (aCons (eBin gIx (eVar 1) (eC (.int 1))) aNil))) aNil)))) aNil))) aNil))))))
  sNext)
  (sRet (eBin gIx (eFl (aList (aCons (aThen gTup (aCons (eC (.str "pause")) aNil)) (aCons (aThen gTup (aCons (eC (.str "set")) (aCons (aThen gTup (aCons (eC (.str "name")) (aCons (eC (.str "p_p")) aNil))) (aCons (aThen gTup (aCons (eC (.str "name")) (aCons (eC (.str "q_q")) aNil))) aNil)))) (aCons (aThen gTup (aCons (eC (.str "store")) (aCons (eVar 4) (aCons (aThen gTup (aCons (eC (.str "number")) (aCons (eC (.int 0)) aNil))) (aCons (eVar 5) aNil))))) aNil))))) (eCall (lenD 2 dDraw) (aCons (eVar 0) (aCons (eC (.int 3)) aNil))))))))))
theorem fw_er : r__law_few dOne dDraw = (sSeq (sSet 2 (eFl (aList (aCons (aThen gTup (aCons (eC (.str "field")) (aCons (eC (.str "p_p")) (aCons (eBin gIx (eVar 1) (eC (.int 0))) aNil)))) (aCons (aThen gTup (aCons (eC (.str "field")) (aCons (eC (.str "p_p")) (aCons (eBin gIx (eVar 1) (eC (.int 3))) aNil)))) (aCons (aThen gTup (aCons (eC (.str "field")) (aCons (eC (.str "p_p")) (aCons (eBin gIx (eVar 1) (eC (.int 4))) aNil)))) aNil))))))
  (sSeq (sSet 3 (eCall (lenD 2 dOne) (aCons (eVar 0) (aCons (eBin gAdd (eFl (aList (aCons (aThen gTup (aCons (eC (.str "name")) (aCons (eBin gIx (eVar 1) (eC (.int 0))) aNil))) (aCons (aThen gTup (aCons (eC (.str "name")) (aCons (eBin gIx (eVar 1) (eC (.int 1))) aNil))) aNil)))) (eSl (eVar 2) oNone (oSome (eC (.int 2))))) aNil))))
  (sSeq (sSet 4 (eCall (lenD 2 dOne) (aCons (eVar 0) (aCons (eFl (aList (aCons (eBin gIx (eVar 1) (eC (.int 3))) (aCons (eBin gIx (eVar 1) (eC (.int 4))) aNil)))) aNil))))
  (sSeq (sSet 5 (eCall (lenD 2 dOne) (aCons (eVar 0) (aCons (eFl (aList (aCons (aThen gTup (aCons (eC (.str "number")) (aCons (eC (.int 7)) aNil))) (aCons (aThen gTup (aCons (eC (.str "name")) (aCons (eBin gIx (eVar 1) (eC (.int 0))) aNil))) (aCons (aThen gTup (aCons (eC (.str "name")) (aCons (eBin gIx (eVar 1) (eC (.int 2))) aNil))) (aCons (aThen gTup (aCons (eC (.str "length")) (aCons (eVar 4) aNil))) (aCons (eBin gIx (eVar 2) (eC (.int 2))) aNil))))))) aNil))))
  (sSeq fwIf fwTail))))) := rfl
section
variable {s : Nat} {cs : List Int} {w0 w1 w2 w3 w4 : Str}
abbrev wsD (w0 w1 w2 w3 w4 : Str) : D := .fl [.str w0, .str w1, .str w2, .str w3, .str w4]
theorem ws_ix {mu : List MO} : ixD [.str w0, .str w1, .str w2, .str w3, .str w4] 4 mu = .ok (.str w4) mu := ixD_nat (k := 4) rfl
theorem fw_if {o2 : D} {t : Tg} {a : Str} {e : Sm} {mu : List MO} (H : At s cs mu) (he : smH e = 0) : ∃ e1 mu', fwIf [some (.ref s), some (wsD w0 w1 w2 w3 w4), some o2, some (tgD t), some (.str a), some (smD e), none] mu = .ok (.nx [some (.ref s), some (wsD w0 w1 w2 w3 w4), some o2, some (tgD t), some (.str a), some (smD e1), none]) mu' ∧ Nx s cs mu mu' ∧ smH e1 ≤ 1 := by
  have s2 : (2 : Nat) ≤ sizeLine := by decide
  have s3 : (3 : Nat) ≤ sizeLine := by decide
  have s4 : (4 : Nat) ≤ sizeLine := by decide
  obtain ⟨v, m1, e1, n1, v0, v1⟩ := drawN H 3 (by decide) (by decide)
  by_cases hv : v = 0
  · obtain ⟨u, m2, e2, n2, u0, u1⟩ := drawN (n1.at_ H) 4 (by decide) (by decide)
    obtain ⟨x, hx, ex⟩ := ix_map (f := smD) (xs := [Sm.item w4 e, .pm false (.num 1) e, .scale 3 e, .qr true e 4]) (i := u) (mu := m2) u0 (by simpa using u1)
    refine ⟨x, m2, ?_, n1.trans n2, ?_⟩
    · have ex : ixD [.tup [.str "item", .str w4, smD e], .tup [.str "plus", .tup [.str "number", .int 1], smD e], .tup [.str "scale", .int 3, smD e], .tup [.str "remainder", smD e, .int 4]] u m2 = .ok (smD x) m2 := ex
      have ev : (v == 0) = true := by rw [hv]; rfl
      have wi := ws_ix (w0 := w0) (w1 := w1) (w2 := w2) (w3 := w3) (w4 := w4) (mu := m1)
      generalize smD x = SX at *
      generalize smD e = SE at *
      generalize tgD t = TT at *
      simp [fwIf, e1, gEq_ints, ev, gTup_ok, s2, s3, s4, wi, e2, ex]
    · simp only [List.mem_cons, List.not_mem_nil, or_false] at hx
      rcases hx with rfl | rfl | rfl | rfl <;> simp [smH, he]
  · refine ⟨e, m1, ?_, n1, by omega⟩
    have ev : (v == 0) = false := beq_eq_false_iff_ne.mpr hv
    generalize smD e = SE at *
    generalize tgD t = TT at *
    simp [fwIf, e1, gEq_ints, ev]
theorem fw_tail {o2 : D} {t : Tg} {a : Str} {e : Sm} {mu : List MO} (H : At s cs mu) (he : smH e ≤ 1) : ∃ b mu', fwTail [some (.ref s), some (wsD w0 w1 w2 w3 w4), some o2, some (tgD t), some (.str a), some (smD e), none] mu = .ok (.rt (.vl (brD b))) mu' ∧ Nx s cs mu mu' ∧ Leaf b := by
  have s1 : (1 : Nat) ≤ sizeLine := by decide
  have s2 : (2 : Nat) ≤ sizeLine := by decide
  have s3 : (3 : Nat) ≤ sizeLine := by decide
  have s4 : (4 : Nat) ≤ sizeLine := by decide
  obtain ⟨v, m1, e1, n1, v0, v1⟩ := drawN H 6 (by decide) (by decide)
  by_cases h2 : v < 2
  · refine ⟨.set t e, m1, ?_, n1, by simp [wfB]; omega, by simp [hB], by simp [cB], by simp [plB]⟩
    have d2 : decide (v < 2) = true := decide_eq_true h2
    have fin : brD (.set t e) = .tup [.str "set", tgD t, smD e] := by rw [brD]
    rw [fin]
    generalize smD e = SE at *
    generalize tgD t = TT at *
    simp [fwTail, e1, d2, h2, gTup_ok, s3]
  by_cases h3 : v = 2
  · refine ⟨.push e a, m1, ?_, n1, by simp [wfB]; omega, by simp [hB], by simp [cB], by simp [plB]⟩
    have fin : brD (.push e a) = .tup [.str "push", smD e, .str a] := by rw [brD]
    rw [fin]
    subst h3
    generalize smD e = SE at *
    generalize tgD t = TT at *
    simp [fwTail, e1, gTup_ok, s3, gEq_ints]
  by_cases h4 : v = 3
  · refine ⟨.pop t a, m1, ?_, n1, by simp [wfB], by simp [hB], by simp [cB], by simp [plB]⟩
    have fin : brD (.pop t a) = .tup [.str "pop", tgD t, .str a] := by rw [brD]
    rw [fin]
    subst h4
    generalize smD e = SE at *
    generalize tgD t = TT at *
    simp [fwTail, e1, gTup_ok, s3, gEq_ints]
  by_cases h5 : v = 4
  · obtain ⟨y, m2, e2, n2, hy⟩ := one_map (f := smD) (xs := [Sm.num 1, .nm w1]) (n1.at_ H) (by simp) (by simp)
    have hy0 : smH y ≤ 3 := by
      simp only [List.mem_cons, List.not_mem_nil, or_false] at hy
      rcases hy with rfl | rfl <;> simp [smH]
    refine ⟨.store a e y, m2, ?_, n1.trans n2, ⟨by omega, hy0⟩, by simp [hB], by simp [cB], by simp [plB]⟩
    have fin : brD (.store a e y) = .tup [.str "store", .str a, smD e, smD y] := by rw [brD]
    rw [fin]
    subst h5
    have e2 : dOne [.ref s, .fl [.tup [.str "number", .int 1], .tup [.str "name", .str w1]]] m1 = .ok (.vl (smD y)) m2 := e2
    generalize smD e = SE at *
    generalize smD y = SY at *
    generalize tgD t = TT at *
    simp [fwTail, e1, gTup_ok, s2, s4, gEq_ints, e2]
  · obtain ⟨u, m2, e2, n2, u0, u1⟩ := drawN (n1.at_ H) 3 (by decide) (by decide)
    obtain ⟨b, hb, eb⟩ := ix_map (f := brD) (xs := [Br.pause, .set (.nm "p_p") (.nm "q_q"), .store a (.num 0) e]) (i := u) (mu := m2) u0 (by simpa using u1)
    refine ⟨b, m2, ?_, n1.trans n2, ?_⟩
    · have b1 : brD .pause = .tup [.str "pause"] := by rw [brD]
      have b2 : brD (.set (.nm "p_p") (.nm "q_q")) = .tup [.str "set", .tup [.str "name", .str "p_p"], .tup [.str "name", .str "q_q"]] := by rw [brD]; rfl
      have b3 : brD (.store a (.num 0) e) = .tup [.str "store", .str a, .tup [.str "number", .int 0], smD e] := by rw [brD]; rfl
      rw [List.map_cons, List.map_cons, List.map_cons, List.map_nil, b1, b2, b3] at eb
      have q2 : (v == 2) = false := beq_eq_false_iff_ne.mpr h3
      have q3 : (v == 3) = false := beq_eq_false_iff_ne.mpr h4
      have q4 : (v == 4) = false := beq_eq_false_iff_ne.mpr h5
      generalize brD b = BB at *
      generalize smD e = SE at *
      generalize tgD t = TT at *
      simp [fwTail, e1, h2, gTup_ok, s1, s2, s3, s4, gEq_ints, q2, q3, q4, e2, eb]
    · simp only [List.mem_cons, List.not_mem_nil, or_false] at hb
      rcases hb with rfl | rfl | rfl
      · exact ⟨by simp [wfB], by simp [hB], by simp [cB], by simp [plB]⟩
      · exact ⟨by simp [wfB, smH], by simp [hB], by simp [cB], by simp [plB]⟩
      · exact ⟨by simp [wfB, smH]; omega, by simp [hB], by simp [cB], by simp [plB]⟩
theorem few_ok {mu : List MO} (H : At s cs mu) : ∃ b mu', dFew [.ref s, wsD w0 w1 w2 w3 w4] mu = .ok (.vl (brD b)) mu' ∧ Nx s cs mu mu' ∧ Leaf b := by
  have s2 : (2 : Nat) ≤ sizeLine := by decide
  have s3 : (3 : Nat) ≤ sizeLine := by decide
  have s5 : (5 : Nat) ≤ sizeLine := by decide
  obtain ⟨t, m1, e1, n1, _⟩ := one_map (f := tgD) (xs := [Tg.nm w0, .nm w1, .fd "p_p" w0, .fd "p_p" w3]) H (by simp) (by simp)
  obtain ⟨a, m2, e2, n2, _⟩ := one_map (f := D.str) (xs := [w3, w4]) (n1.at_ H) (by simp) (by simp)
  have H2 := n2.at_ (n1.at_ H)
  obtain ⟨e, m3, e3, n3, he⟩ := one_map (f := smD) (xs := [Sm.num 7, .nm w0, .nm w2, .ln a, .fld "p_p" w4]) H2 (by simp) (by simp)
  have he0 : smH e = 0 := by
    simp only [List.mem_cons, List.not_mem_nil, or_false] at he
    rcases he with rfl | rfl | rfl | rfl | rfl <;> rfl
  have H3 := n3.at_ H2
  obtain ⟨e', m4, e4, n4, he'⟩ := fw_if (w0 := w0) (w1 := w1) (w2 := w2) (w3 := w3) (w4 := w4) (o2 := .fl [.tup [.str "field", .str "p_p", .str w0], .tup [.str "field", .str "p_p", .str w3], .tup [.str "field", .str "p_p", .str w4]]) (t := t) (a := a) H3 he0
  obtain ⟨b, m5, e5, n5, hb⟩ := fw_tail (w0 := w0) (w1 := w1) (w2 := w2) (w3 := w3) (w4 := w4) (o2 := .fl [.tup [.str "field", .str "p_p", .str w0], .tup [.str "field", .str "p_p", .str w3], .tup [.str "field", .str "p_p", .str w4]]) (t := t) (a := a) (n4.at_ H3) he'
  refine ⟨b, m5, ?_, (((n1.trans n2).trans n3).trans n4).trans n5, hb⟩
  refine noX_ok ?_
  rw [fw_er]
  have e1 : dOne [.ref s, .fl [.tup [.str "name", .str w0], .tup [.str "name", .str w1], .tup [.str "field", .str "p_p", .str w0], .tup [.str "field", .str "p_p", .str w3]]] mu = .ok (.vl (tgD t)) m1 := e1
  have e2 : dOne [.ref s, .fl [.str w3, .str w4]] m1 = .ok (.vl (.str a)) m2 := e2
  have e3 : dOne [.ref s, .fl [.tup [.str "number", .int 7], .tup [.str "name", .str w0], .tup [.str "name", .str w2], .tup [.str "length", .str a], .tup [.str "field", .str "p_p", .str w4]]] m2 = .ok (.vl (smD e)) m3 := e3
  have wi := fun m => ws_ix (w0 := w0) (w1 := w1) (w2 := w2) (w3 := w3) (w4 := w4) (mu := m)
  have sl : gSl (.fl [.tup [.str "field", .str "p_p", .str w0], .tup [.str "field", .str "p_p", .str w3], .tup [.str "field", .str "p_p", .str w4]]) none (some 2) mu = .ok (.fl [.tup [.str "field", .str "p_p", .str w0], .tup [.str "field", .str "p_p", .str w3]]) mu := gSl_fl_take (k := 2)
  have ga : gAdd (.fl [.tup [.str "name", .str w0], .tup [.str "name", .str w1]]) (.fl [.tup [.str "field", .str "p_p", .str w0], .tup [.str "field", .str "p_p", .str w3]]) mu = .ok (.fl [.tup [.str "name", .str w0], .tup [.str "name", .str w1], .tup [.str "field", .str "p_p", .str w0], .tup [.str "field", .str "p_p", .str w3]]) mu := gAdd_fl (by simp; decide)
  generalize smD e = SE at *
  generalize smD e' = SE2 at *
  generalize tgD t = TT at *
  generalize brD b = BB at *
  simp [startE, wi, gTup_ok, s2, s3, s5, sl, ga, e1, e2, e3, e4, e5]
end
end KP
namespace KP
open PySem L2 PyProof.Rows MP
/-! ### the drawn source -/
structure GQ (k h c : Nat) (b : List Br) : Prop where
  n : ∀ s ∈ b, wfB s ∧ plB 3 20 s
  l : b.length ≤ k
  h : hBs b ≤ h
  c : cBs b ≤ c
theorem cBs_take (b : List Br) (n : Nat) : cBs (b.take n) ≤ cBs b := by
  have : cBs b = cBs (b.take n) + cBs (b.drop n) := by rw [← cBs_app, List.take_append_drop]
  omega
theorem cBs_drop (b : List Br) (n : Nat) : cBs (b.drop n) ≤ cBs b := by
  have : cBs b = cBs (b.take n) + cBs (b.drop n) := by rw [← cBs_app, List.take_append_drop]
  omega
theorem GQ.take {k h c : Nat} {b : List Br} (g : GQ k h c b) (n : Nat) : GQ k h c (b.take n) := ⟨fun s hs => g.n s (List.mem_of_mem_take hs), by have := g.l; rw [List.length_take]; omega, hBs_le.mpr fun s hs => Nat.le_trans (hBs_mem s (List.mem_of_mem_take hs)) g.h, Nat.le_trans (cBs_take b n) g.c⟩
theorem GQ.drop {k h c : Nat} {b : List Br} (g : GQ k h c b) (n : Nat) : GQ k h c (b.drop n) := ⟨fun s hs => g.n s (List.mem_of_mem_drop hs), by have := g.l; rw [List.length_drop]; omega, hBs_le.mpr fun s hs => Nat.le_trans (hBs_mem s (List.mem_of_mem_drop hs)) g.h, Nat.le_trans (cBs_drop b n) g.c⟩
theorem GQ.wfs {k h c : Nat} {b : List Br} (g : GQ k h c b) : wfBs b ∧ plBs 3 20 b := ⟨wfBs_iff.mpr fun s hs => (g.n s hs).1, plBs_iff.mpr fun s hs => (g.n s hs).2⟩
theorem gq_leaves : ∀ {b : List Br}, (∀ s ∈ b, Leaf s) → GQ b.length 0 b.length b
  | [], _ => ⟨fun _ h => (by cases h), by simp, by simp [hBs], by simp [cBs]⟩
  | s :: r, h => by
    have a := gq_leaves (b := r) fun x hx => h x (by simp [hx])
    have l := h s (by simp)
    refine ⟨fun x hx => ⟨(h x hx).wf, (h x hx).pl⟩, Nat.le_refl _, ?_, ?_⟩
    · rw [hBs, l.h]; have := a.h; omega
    · rw [cBs, l.c, List.length_cons]; have := a.c; omega
theorem GQ.mono {k h c k' h' c' : Nat} {b : List Br} (g : GQ k h c b) (hk : k ≤ k') (hh : h ≤ h') (hc : c ≤ c') : GQ k' h' c' b := ⟨g.n, by have := g.l; omega, by have := g.h; omega, by have := g.c; omega⟩
noncomputable abbrev dWords : List D → M Rv := den__law_words den__law_draw
noncomputable abbrev dSrc : List D → M Rv := den__law_flat_source dWords dDraw dFew
noncomputable def tstD (w0 : Str) : D := .tup [.str "compare", .str "<", .tup [.str "name", .str w0], .tup [.str "number", .int 3]]
noncomputable def f1If : MP.Env → M Fl := (eIf (eB (eBin (gEq false) (eCall (lenD 2 dDraw) (aCons (eVar 0) (aCons (eC (.int 3)) aNil))) (eC (.int 0))))
  (sSet 2 (eBin gAdd (aThen gTup (aCons (aThen gTup (aCons (eC (.str "if")) (aCons (aThen gTup (aCons (eC (.str "compare")) (aCons (eC (.str "<")) (aCons (aThen gTup (aCons (eC (.str "name")) (aCons (eBin gIx (eVar 1) (eC (.int 0))) aNil))) (aCons (aThen gTup (aCons (eC (.str "number")) (aCons (eC (.int 3)) aNil))) aNil))))) (aCons (eSl (eVar 2) oNone (oSome (eC (.int 3)))) (aCons (eSl (eVar 2) (oSome (eC (.int 2))) oNone) aNil))))) aNil)) (eVar 2)))
  sNext)
noncomputable def f2If : MP.Env → M Fl := (eIf (eB (eBin (gEq false) (eCall (lenD 2 dDraw) (aCons (eVar 0) (aCons (eC (.int 3)) aNil))) (eC (.int 0))))
  (sSet 2 (eBin gAdd (aThen gTup (aCons (aThen gTup (aCons (eC (.str "while")) (aCons (aThen gTup (aCons (eC (.str "compare")) (aCons (eC (.str "<")) (aCons (aThen gTup (aCons (eC (.str "name")) (aCons (eBin gIx (eVar 1) (eC (.int 0))) aNil))) (aCons (aThen gTup (aCons (eC (.str "number")) (aCons (eC (.int 3)) aNil))) aNil))))) (aCons (eVar 2) aNil)))) aNil)) (eSl (eVar 2) oNone (oSome (eC (.int 2))))))
  sNext)
theorem fs_er : r__law_flat_source dWords dDraw dFew = (sSeq (sSet 1 (eCall (lenD 2 dWords) (aCons (eVar 0) (aCons (eC (.int 5)) aNil))))
  (sSeq (sSet 2 (aThen (MP.g1 gTuple) (aCons (eFl (fComp (wThen wRng1 (aCons (eBin gAdd (eC (.int 2)) (eCall (lenD 2 dDraw) (aCons (eVar 0) (aCons (eC (.int 7)) aNil)))) aNil)) (asgN 6) tYesM (eCall (lenD 2 dFew) (aCons (eVar 0) (aCons (eVar 1) aNil))) [6])) aNil)))
  (sSeq f1If
  (sSeq f2If
  (sSeq (sSet 3 (aThen gTup (aCons (aThen gTup (aCons (eC (.str "int")) (aCons (eBin gIx (eVar 1) (eC (.int 0))) aNil))) (aCons (aThen gTup (aCons (eC (.str "array")) (aCons (eBin gIx (eVar 1) (eC (.int 3))) aNil))) (aCons (aThen gTup (aCons (eC (.str "record")) (aCons (eC (.str "p_p")) (aCons (eC (.str "pair")) aNil)))) aNil)))))
  (sSeq (sSet 4 (aThen gTup (aCons (aThen gTup (aCons (eC (.str "int")) (aCons (eBin gIx (eVar 1) (eC (.int 1))) aNil))) (aCons (aThen gTup (aCons (eC (.str "int")) (aCons (eBin gIx (eVar 1) (eC (.int 2))) aNil))) (aCons (aThen gTup (aCons (eC (.str "array")) (aCons (eBin gIx (eVar 1) (eC (.int 4))) aNil))) (aCons (aThen gTup (aCons (eC (.str "record")) (aCons (eC (.str "q_q")) (aCons (eC (.str "pair")) aNil)))) aNil))))))
  (sSeq (sSet 5 (aThen gTup (aCons (eC (.str "pair")) (aCons (aThen gTup (aCons (eBin gIx (eVar 1) (eC (.int 0))) (aCons (eBin gIx (eVar 1) (eC (.int 3))) (aCons (eBin gIx (eVar 1) (eC (.int 4))) aNil)))) aNil))))
  (sRet (aThen gTup (aCons (aThen gTup (aCons (eVar 5) aNil)) (aCons (aThen gTup (aCons (aThen gTup (aCons (eC (.str "main")) (aCons (eVar 3) (aCons (eC (.str "")) (aCons (eVar 4) (aCons (aThen gTup aNil) (aCons (aThen gTup aNil) (aCons (aThen gTup aNil) (aCons (aThen gTup aNil) (aCons (eVar 2) aNil)))))))))) aNil)) aNil))))))))))) := rfl
section
variable {s : Nat} {cs : List Int} {w0 w1 w2 w3 w4 : Str}
theorem brs_take (b : List Br) (n : Nat) : (brsD b).take n = brsD (b.take n) := by rw [brsD_map, brsD_map, List.map_take]
theorem f1_ok {b : List Br} {mu : List MO} (H : At s cs mu) (g : GQ 8 0 8 b) : ∃ b' mu', f1If [some (.ref s), some (wsD w0 w1 w2 w3 w4), some (.tup (brsD b)), none, none, none, none] mu = .ok (.nx [some (.ref s), some (wsD w0 w1 w2 w3 w4), some (.tup (brsD b')), none, none, none, none]) mu' ∧ Nx s cs mu mu' ∧ GQ 9 1 25 b' := by
  have s1 : (1 : Nat) ≤ sizeLine := by decide
  have s2 : (2 : Nat) ≤ sizeLine := by decide
  have s4 : (4 : Nat) ≤ sizeLine := by decide
  obtain ⟨v, m1, e1, n1, v0, v1⟩ := drawN H 3 (by decide) (by decide)
  by_cases hv : v = 0
  · refine ⟨.ite (.cmp "<" (.nm w0) (.num 3)) (b.take 3) (b.drop 2) :: b, m1, ?_, n1, ?_⟩
    · have ev : (v == 0) = true := by rw [hv]; rfl
      have q1 : gSl (.tup (brsD b)) none (some 3) m1 = .ok (.tup (brsD (b.take 3))) m1 := by
        show R.ok (D.tup (MP.cutD (brsD b) none (some ((3 : Nat) : Int)))) m1 = _
        rw [cutD_take, brs_take]
      have q2 : gSl (.tup (brsD b)) (some 2) none m1 = .ok (.tup (brsD (b.drop 2))) m1 := by
        show R.ok (D.tup (MP.cutD (brsD b) (some ((2 : Nat) : Int)) none)) m1 = _
        rw [cutD_drop, brsD_drop]
      have fin : brsD (.ite (.cmp "<" (.nm w0) (.num 3)) (b.take 3) (b.drop 2) :: b) = [.tup [.str "if", .tup [.str "compare", .str "<", .tup [.str "name", .str w0], .tup [.str "number", .int 3]], .tup (brsD (b.take 3)), .tup (brsD (b.drop 2))]] ++ brsD b := by
        rw [brsD, brD]; rfl
      have q3 := gAdd_tup (xs := [D.tup [.str "if", .tup [.str "compare", .str "<", .tup [.str "name", .str w0], .tup [.str "number", .int 3]], .tup (brsD (b.take 3)), .tup (brsD (b.drop 2))]]) (ys := brsD b) (mu := m1) (by have := g.l; rw [brsD_len, sizeLine_eq]; simp; omega)
      rw [← fin] at q3
      generalize brsD (.ite (.cmp "<" (.nm w0) (.num 3)) (b.take 3) (b.drop 2) :: b) = F at *
      generalize brsD (b.take 3) = B1 at *
      generalize brsD (b.drop 2) = B2 at *
      generalize brsD b = B at *
      simp [f1If, e1, gEq_ints, ev, gTup_ok, s1, s2, s4, q1, q2, q3]
    · have g1 := g.take 3
      have g2 := g.drop 2
      refine ⟨fun x hx => ?_, by have := g.l; rw [List.length_cons]; omega, ?_, ?_⟩
      · rcases List.mem_cons.mp hx with rfl | hx
        · refine ⟨?_, ?_⟩
          · rw [wfB, wfC]; exact ⟨⟨by simp [signs], by simp [smH], by simp [smH]⟩, g1.wfs.1, g2.wfs.1⟩
          · rw [plB, cnH]; exact ⟨by omega, by have := g1.l; omega, by have := g2.l; omega, g1.wfs.2, g2.wfs.2⟩
        · exact g.n x hx
      · rw [hBs, hB]; have := g1.h; have := g2.h; have := g.h; omega
      · rw [cBs, cB]; have := g1.c; have := g2.c; have := g.c; omega
  · refine ⟨b, m1, ?_, n1, g.mono (by omega) (by omega) (by omega)⟩
    have ev : (v == 0) = false := beq_eq_false_iff_ne.mpr hv
    generalize brsD b = B at *
    simp [f1If, e1, gEq_ints, ev]
theorem f2_ok {b : List Br} {mu : List MO} (H : At s cs mu) (g : GQ 9 1 25 b) : ∃ b' mu', f2If [some (.ref s), some (wsD w0 w1 w2 w3 w4), some (.tup (brsD b)), none, none, none, none] mu = .ok (.nx [some (.ref s), some (wsD w0 w1 w2 w3 w4), some (.tup (brsD b')), none, none, none, none]) mu' ∧ Nx s cs mu mu' ∧ GQ 10 2 51 b' := by
  have s1 : (1 : Nat) ≤ sizeLine := by decide
  have s2 : (2 : Nat) ≤ sizeLine := by decide
  have s3 : (3 : Nat) ≤ sizeLine := by decide
  have s4 : (4 : Nat) ≤ sizeLine := by decide
  obtain ⟨v, m1, e1, n1, v0, v1⟩ := drawN H 3 (by decide) (by decide)
  by_cases hv : v = 0
  · refine ⟨.whl (.cmp "<" (.nm w0) (.num 3)) b :: b.take 2, m1, ?_, n1, ?_⟩
    · have ev : (v == 0) = true := by rw [hv]; rfl
      have q1 : gSl (.tup (brsD b)) none (some 2) m1 = .ok (.tup (brsD (b.take 2))) m1 := by
        show R.ok (D.tup (MP.cutD (brsD b) none (some ((2 : Nat) : Int)))) m1 = _
        rw [cutD_take, brs_take]
      have fin : brsD (.whl (.cmp "<" (.nm w0) (.num 3)) b :: b.take 2) = [.tup [.str "while", .tup [.str "compare", .str "<", .tup [.str "name", .str w0], .tup [.str "number", .int 3]], .tup (brsD b)]] ++ brsD (b.take 2) := by
        rw [brsD, brD]; rfl
      have q3 := gAdd_tup (xs := [D.tup [.str "while", .tup [.str "compare", .str "<", .tup [.str "name", .str w0], .tup [.str "number", .int 3]], .tup (brsD b)]]) (ys := brsD (b.take 2)) (mu := m1) (by have := g.l; rw [brsD_len, List.length_take, sizeLine_eq]; simp; omega)
      rw [← fin] at q3
      generalize brsD (.whl (.cmp "<" (.nm w0) (.num 3)) b :: b.take 2) = F at *
      generalize brsD (b.take 2) = B1 at *
      generalize brsD b = B at *
      simp [f2If, e1, gEq_ints, ev, gTup_ok, s1, s2, s3, s4, q1, q3]
    · have g1 := g.take 2
      refine ⟨fun x hx => ?_, by have := g1.l; rw [List.length_cons]; omega, ?_, ?_⟩
      · rcases List.mem_cons.mp hx with rfl | hx
        · refine ⟨?_, ?_⟩
          · rw [wfB, wfC]; exact ⟨⟨by simp [signs], by simp [smH], by simp [smH]⟩, g.wfs.1⟩
          · rw [plB, cnH]; exact ⟨by omega, by have := g.l; omega, g.wfs.2⟩
        · exact g1.n x hx
      · rw [hBs, hB]; have := g1.h; have := g.h; omega
      · rw [cBs, cB]; have := g1.c; have := g.c; omega
  · refine ⟨b, m1, ?_, n1, g.mono (by omega) (by omega) (by omega)⟩
    have ev : (v == 0) = false := beq_eq_false_iff_ne.mpr hv
    generalize brsD b = B at *
    simp [f2If, e1, gEq_ints, ev]
theorem unmapP {α : Type} {f : α → D} {P : α → Prop} {xs : List D} (h : ∀ x ∈ xs, ∃ a, x = f a ∧ P a) : ∃ as : List α, xs = as.map f ∧ ∀ a ∈ as, P a := unmap h
theorem src_ok {mu : List MO} (H : At s cs mu) : ∃ (recs : D) (p : Pr) (mu' : List MO), dSrc [.ref s] mu = .ok (.vl (srcD recs [p])) mu' ∧ Nx s cs mu mu' ∧ GoodPr p ∧ p.name = "main" ∧ plainD 6 recs = true ∧ cBs p.body ≤ 100 := by
  have s0 : (0 : Nat) ≤ sizeLine := by decide
  have s1 : (1 : Nat) ≤ sizeLine := by decide
  have s2 : (2 : Nat) ≤ sizeLine := by decide
  have s3 : (3 : Nat) ≤ sizeLine := by decide
  have s4 : (4 : Nat) ≤ sizeLine := by decide
  have s9 : (9 : Nat) ≤ sizeLine := by decide
  obtain ⟨ws, m1, e1, n1, hwl, hwn, hwg⟩ := words_ok (n := 5) H (by decide)
  obtain ⟨w0, w1, w2, w3, w4, rfl⟩ : ∃ w0 w1 w2 w3 w4, ws = [w0, w1, w2, w3, w4] := by
    match ws, hwl with
    | [w0, w1, w2, w3, w4], _ => exact ⟨_, _, _, _, _, rfl⟩
  have e1 : dWords [.ref s, .int 5] mu = .ok (.fr [.str w0, .str w1, .str w2, .str w3, .str w4]) m1 := e1
  have H1 := n1.at_ H
  obtain ⟨v, m2, e2, n2, v0, v1⟩ := drawN H1 7 (by decide) (by decide)
  have H2 := n2.at_ H1
  obtain ⟨xs, m3, e3, ⟨H3, n3⟩, hl, hx⟩ := loopC_inv (asg := asgN 6) (t := tYesM) (r := eCall (lenD 2 dFew) (aCons (eVar 0) (aCons (eVar 1) aNil))) (I := fun m => At s cs m ∧ Nx s cs m2 m) (P := fun x => ∃ b, x = brD b ∧ Leaf b) (ds := rngD 0 (2 + v).toNat) (env := [some (.ref s), some (wsD w0 w1 w2 w3 w4), none, none, none, none, none]) (mu := m2)
    (fun d _ m ⟨Hm, nm⟩ => by
      obtain ⟨b, m', e, n, hb⟩ := few_ok (w0 := w0) (w1 := w1) (w2 := w2) (w3 := w3) (w4 := w4) Hm
      refine ⟨[some (.ref s), some (wsD w0 w1 w2 w3 w4), none, none, none, none, some d], m', brD b, rfl, rfl, ?_, ⟨n.at_ Hm, nm.trans n⟩, b, rfl, hb⟩
      generalize brD b = BB at *
      simp [e]) ⟨H2, .refl H2⟩
  rw [rngD_len] at hl
  obtain ⟨b, rfl, hb⟩ := unmap hx
  rw [List.length_map] at hl
  have gb := (gq_leaves hb).mono (k' := 8) (h' := 0) (c' := 8) (by omega) (by omega) (by omega)
  rw [← brsD_map] at e3
  obtain ⟨b1, m4, e4, n4, g4⟩ := f1_ok (w0 := w0) (w1 := w1) (w2 := w2) (w3 := w3) (w4 := w4) H3 gb
  have H4 := n4.at_ H3
  obtain ⟨b2, m5, e5, n5, g5⟩ := f2_ok (w0 := w0) (w1 := w1) (w2 := w2) (w3 := w3) (w4 := w4) H4 g4
  have gw := g5.wfs
  refine ⟨.tup [.tup [.str "pair", .tup [.str w0, .str w3, .str w4]]], ⟨"main", .tup [.tup [.str "int", .str w0], .tup [.str "array", .str w3], .tup [.str "record", .str "p_p", .str "pair"]], .str "", .tup [.tup [.str "int", .str w1], .tup [.str "int", .str w2], .tup [.str "array", .str w4], .tup [.str "record", .str "q_q", .str "pair"]], b2⟩, m5, ?_, (((n1.trans n2).trans n3).trans n4).trans n5,
    ⟨⟨gw.1, by have := g5.h; show hBs b2 < 5; omega, by have := g5.c; show cBs b2 < 90000; omega⟩, gw.2, by have := g5.l; show b2.length ≤ 20; omega, rfl, rfl, rfl, by have := g5.c; show cBs b2 < 80000; omega⟩, rfl, rfl, by have := g5.c; show cBs b2 ≤ 100; omega⟩
  refine noX_ok ?_
  rw [fs_er]
  have wr : wRng1 [.int (2 + v)] m2 = .ok (rngD 0 (2 + v).toNat, []) m2 := wRng1_ok (by omega)
  have wi := fun m => ws_ix (w0 := w0) (w1 := w1) (w2 := w2) (w3 := w3) (w4 := w4) (mu := m)
  have e3 := noX_ok e3
  unfold srcD
  show _ = R.ok (Rv.vl (D.tup [_, .tup [prD _]])) m5
  unfold prD
  dsimp only
  generalize brsD b2 = B2 at *
  generalize brsD b1 = B1 at *
  generalize brsD b = B0 at *
  generalize rngD 0 (2 + v).toNat = RG at *
  simp [startE, e1, e2, wr, e3, e4, e5, wi, gTup_ok, s0, s1, s2, s3, s4, s9]
end
end KP
namespace MP
open PySem L2 PyProof.Rows
@[simp] theorem sRaise_ap {x : Xn} {env : Env} : sRaise x env = raise x := rfl
@[simp] theorem sTry_ap {fg : List Nat} {rb : Env → Env → M Fl} {hs : List Hd} {env : Env} {mu : List MO} : sTry fg rb hs env mu = tryR hs (wipeE env fg) (rb (wipeE env fg) env mu) := rfl
@[simp] theorem tryR_ok {hs : List Hd} {h : Env} {fl : Fl} {mu : List MO} : tryR hs h (.ok fl mu) = .ok fl mu := rfl
@[simp] theorem tryR_exc {hs : List Hd} {h : Env} {x : Xn} {mu : List MO} : tryR hs h (.exc x mu) = pickH hs x h mu := rfl
theorem pick_yes {t : XTab} {r : Xn → Env → M Fl} {l : List Hd} {x : Xn} {h : Env} {mu : List MO} (e : t x.cls = some true) : pickH ((t, r) :: l) x h mu = noX (r x h) mu := by
  unfold pickH
  rw [e]
theorem pick_no {t : XTab} {r : Xn → Env → M Fl} {l : List Hd} {x : Xn} {h : Env} {mu : List MO} (e : t x.cls = some false) : pickH ((t, r) :: l) x h mu = pickH l x h mu := by
  rw [pickH, e]
end MP
namespace KP
open PySem L2 PyProof.Rows MP
theorem change_bad {recs : D} {ps : List Pr} {nm kind : Str} {p : Pr} {row : Row} {mu : List MO} (h : ps.find? (fun q => q.name == nm) = some p) (gp : GoodB p.body) (hk : kinds.contains kind = true) (hrow : row.1 ∉ (plc p.body kind).map (·.1)) (hc : CloH mu) :
    dChange [srcD recs ps, .str nm, .str kind, rowP row] mu = .exc ⟨"BadPlace", []⟩ mu := by
  have e1 := proc_in_ok (recs := recs) (mu := mu) h
  have e2 := pr_8 p mu
  have e3 := places_ok (recs := recs) h hk gp hc
  have e3 : dPlaces [srcD recs ps, .str nm, .str kind] mu = _ := e3
  have e4 : gIn true (rowP row) (.tup ((plc p.body kind).map rowP)) mu = .ok (.bl true) mu := by
    have := gIn_tups (neg := true) (a := row.1) (ps := (plc p.body kind).map (·.1)) (mu := mu)
    rw [List.map_map, decide_eq_false hrow] at this
    exact this
  show runB 7 (r_change den_proc_in dPlaces dChSt dWith dRepl) _ mu = _
  generalize srcD recs ps = SR at *
  generalize (plc p.body kind).map rowP = PL at *
  generalize brsD p.body = BB at *
  generalize prD p = PP at *
  generalize rowP row = RW at *
  simp [r_change, startE, e1, e2, e3, e4]
/-! ### the law -/
noncomputable def lwTry : MP.Env → M Fl := (sTry [7] (fun h => (sSet 7 (eCallT [7] h (lenD 4 dChange) (aCons (eVar 2) (aCons (eC (.str "main")) (aCons (eC (.str "swap")) (aCons (eVar 4) aNil))))))) [(xt_BadPlace, fun _ => (sSet 6 (eC (.bl true))))])
noncomputable def lwBody : MP.Env → M Fl := (sSeq (sSet 6 (eC (.bl false)))
  (sSeq (sSet 7 (aThen gTup aNil))
  (sSeq lwTry
  (sSeq (eIf (eB (eBin (gEq true) (eVar 6) (eBin (gIn true) (eVar 4) (eVar 3))))
  (sRet (eC (.bl false)))
  sNext)
  (eIf (bAnd (bNot (eB (eVar 6))) (bNot (eB (eCall (lenD 2 (sameL 40)) (aCons (eVar 7) (aCons (eCall (lenD 4 dLChange) (aCons (eVar 2) (aCons (eC (.str "main")) (aCons (eC (.str "swap")) (aCons (eVar 4) aNil))))) aNil))))))
  (sRet (eC (.bl false)))
  sNext)))))
theorem law_er : r_law den__law_start dSrc dLPlaces (sameL 40) dPlaces dLPaths den__law_body_of dChange dLChange = (sSeq (sSet 1 (eNew (fCall (lenD 1 den__law_start) (aCons (eVar 0) aNil))))
  (sSeq (sSet 2 (eCall (lenD 1 dSrc) (aCons (eVar 1) aNil)))
  (sSeq (sSet 3 (eCall (lenD 3 dLPlaces) (aCons (eVar 2) (aCons (eC (.str "main")) (aCons (eC (.str "swap")) aNil)))))
  (sSeq (eIf (bNot (eB (eCall (lenD 2 (sameL 40)) (aCons (eCall (lenD 3 dPlaces) (aCons (eVar 2) (aCons (eC (.str "main")) (aCons (eC (.str "swap")) aNil)))) (aCons (eVar 3) aNil)))))
  (sRet (eC (.bl false)))
  sNext)
  (sSeq (sFor (eWalk (eCall (lenD 2 dLPaths) (aCons (eCall (lenD 2 den__law_body_of) (aCons (eVar 2) (aCons (eC (.str "main")) aNil))) (aCons (aThen gTup aNil) aNil)))) (asgT 2 (asgCons (asgN 4) (asgCons (asgN 5) asgNil))) lwBody [4, 5, 6, 7])
  (sRet (eC (.bl true)))))))) := rfl
theorem row_uniq {b : List Br} {r r' : Row} (hh : hBs b < 5) (h : r ∈ rowsB b 0 []) (h' : r' ∈ rowsB b 0 []) (e : r.1 = r'.1) : r = r' := by
  have f := filter_row (rowsB_pw 5 b 0 [] hh) h'
  have : r ∈ (rowsB b 0 []).filter (fun x => decide (x.1 = r'.1)) := List.mem_filter.mpr ⟨h, decide_eq_true e⟩
  rw [f] at this
  exact List.mem_singleton.mp this
theorem lw_loop {recs sc : D} {p : Pr} {s : Nat} {mu : List MO} (g : GoodPr p) (hn : p.name = "main") (hr : plainD 6 recs = true) (hc : CloH mu) : ∀ (rows : List Row) (o4 o5 o6 o7 : Option D), (∀ row ∈ rows, row ∈ rowsB p.body 0 []) →
    loopF (asgT 2 (asgCons (asgN 4) (asgCons (asgN 5) asgNil))) lwBody [4, 5, 6, 7] [] (rows.map rowD) [some sc, some (.ref s), some (srcD recs [p]), some (.tup ((plc p.body "swap").map rowP)), o4, o5, o6, o7] mu
      = .ok (.nx [some sc, some (.ref s), some (srcD recs [p]), some (.tup ((plc p.body "swap").map rowP)), none, none, none, none]) mu
  | [], o4, o5, o6, o7, _ => by
    show loopF _ _ _ [] [] _ _ = _
    rw [loopF_nil]; rfl
  | row :: rows, o4, o5, o6, o7, hm => by
    have s0 : (0 : Nat) ≤ sizeLine := by decide
    have hf : [p].find? (fun q => q.name == Str.ofString "main") = some p := by simp [hn]
    have hg : ∀ q ∈ [p], GoodPr q := fun q hq => by rw [List.mem_singleton.mp hq]; exact g
    have hrow := hm row (by simp)
    have ih := lw_loop (recs := recs) (sc := sc) (s := s) g hn hr hc rows
    rw [List.map_cons]
    by_cases hp : row ∈ plc p.body "swap"
    · have e1 := change_ok (kind := "swap") (recs := recs) hf hg hr (by simp) (by decide +kernel) hp hc
      have e2 := lchange_ok (recs := recs) hf hg (by simp) hp hc
      have cn := ch_nice g hp
      have un := upd_nice (ps := [p]) (nm := "main") (fun q hq => (hg q hq).nice) cn.1 (by omega) cn.2.2
      have e3 := same_ok 39 _ mu (src_plain hr (by simp) un)
      have e4 : gIn true (rowP row) (.tup ((plc p.body "swap").map rowP)) mu = .ok (.bl false) mu := by
        have := gIn_tups (neg := true) (a := row.1) (ps := (plc p.body "swap").map (·.1)) (mu := mu)
        rw [List.map_map, decide_eq_true (List.mem_map.mpr ⟨row, hp, rfl⟩)] at this
        exact this
      generalize srcD recs ([p].map (updP "main" (chB "swap" p.body row))) = OUT at *
      refine (loopF_step (e := [some sc, some (.ref s), some (srcD recs [p]), some (.tup ((plc p.body "swap").map rowP)), some (rowP row), some (.tup (brsD row.2)), some (.bl false), some OUT]) (env1 := [some sc, some (.ref s), some (srcD recs [p]), some (.tup ((plc p.body "swap").map rowP)), some (rowP row), some (.tup (brsD row.2)), none, none]) (by simp) ?_).trans (ih _ _ _ _ fun x hx => hm x (by simp [hx]))
      generalize (plc p.body "swap").map rowP = PL at *
      generalize srcD recs [p] = SR at *
      generalize rowP row = RW at *
      generalize brsD row.2 = BR at *
      have ct := eCallT_ap (fg := [7]) (h := [some sc, some (.ref s), some SR, some (.tup PL), some RW, some (.tup BR), some (.bl false), none]) (env := [some sc, some (.ref s), some SR, some (.tup PL), some RW, some (.tup BR), some (.bl false), some (.tup [])]) (den := lenD 4 dChange) (rs := (aCons (eVar 2) (aCons (eC (.str "main")) (aCons (eC (.str "swap")) (aCons (eVar 4) aNil))))) rfl
      simp [lwBody, lwTry, gTup_ok, s0, ct, e1, e2, e3, e4, gEq_bls]
    · have hp1 : row.1 ∉ (plc p.body "swap").map (·.1) := fun h => by
        obtain ⟨r', h1, h2⟩ := List.mem_map.mp h
        have := row_uniq g.b.h (List.mem_filter.mp h1).1 hrow h2
        rw [this] at h1
        exact hp h1
      have e1 := change_bad (kind := "swap") (recs := recs) hf g.b (by decide +kernel) hp1 hc
      have e4 : gIn true (rowP row) (.tup ((plc p.body "swap").map rowP)) mu = .ok (.bl true) mu := by
        have := gIn_tups (neg := true) (a := row.1) (ps := (plc p.body "swap").map (·.1)) (mu := mu)
        rw [List.map_map, decide_eq_false hp1] at this
        exact this
      refine (loopF_step (e := [some sc, some (.ref s), some (srcD recs [p]), some (.tup ((plc p.body "swap").map rowP)), some (rowP row), some (.tup (brsD row.2)), some (.bl true), none]) (env1 := [some sc, some (.ref s), some (srcD recs [p]), some (.tup ((plc p.body "swap").map rowP)), some (rowP row), some (.tup (brsD row.2)), none, none]) (by simp) ?_).trans (ih _ _ _ _ fun x hx => hm x (by simp [hx]))
      generalize (plc p.body "swap").map rowP = PL at *
      generalize srcD recs [p] = SR at *
      generalize rowP row = RW at *
      generalize brsD row.2 = BR at *
      have ct := eCallT_ap (fg := [7]) (h := [some sc, some (.ref s), some SR, some (.tup PL), some RW, some (.tup BR), some (.bl false), none]) (env := [some sc, some (.ref s), some SR, some (.tup PL), some RW, some (.tup BR), some (.bl false), some (.tup [])]) (den := lenD 4 dChange) (rs := (aCons (eVar 2) (aCons (eC (.str "main")) (aCons (eC (.str "swap")) (aCons (eVar 4) aNil))))) rfl
      have py := fun h m => pick_yes (t := xt_BadPlace) (r := fun _ => (sSet 6 (eC (.bl true)))) (l := []) (x := ⟨"BadPlace", []⟩) (h := h) (mu := m) rfl
      simp [lwBody, lwTry, gTup_ok, s0, ct, e1, e4, gEq_bls, py, noX_ap]
theorem rowP_plain {b : List Br} {row : Row} (h : row ∈ rowsB b 0 []) (hb : hBs b < 5) : plainD 38 (rowP row) = true := by
  obtain ⟨s, c, j, l, _⟩ := row_loc h
  have := l.sz
  refine plain_tup (by rw [List.length_map]; omega) fun x hx => ?_
  obtain ⟨i, _, rfl⟩ := List.mem_map.mp hx
  rfl
theorem law_ok {cs : List Int} (h : cs.length ≤ 63) : ∃ mu', den_law den__law_start dSrc dLPlaces (sameL 40) dPlaces dLPaths den__law_body_of dChange dLChange [.ro (cs.map D.int)] [] = .ok (.vl (.bl true)) mu' := by
  have es := start_ok (cs := cs) (mu := []) h
  have H : At 0 cs [st cs 0 0 0] := ⟨0, 0, 0, rfl⟩
  have hc : CloH [st cs 0 0 0] := fun o ho => by rw [List.mem_singleton.mp ho]; exact st_clo
  obtain ⟨recs, p, m1, e1, n1, hg, hn, hr, hcb⟩ := src_ok H
  have hc1 := n1.clo hc
  have hf : [p].find? (fun q => q.name == Str.ofString "main") = some p := by simp [hn]
  have e2 := lplaces_ok (recs := recs) (kind := "swap") hf hg.b hc1
  have e3 := places_ok (recs := recs) (kind := "swap") hf (by decide +kernel) hg.b hc1
  have e2 : dLPlaces [srcD recs [p], .str "main", .str "swap"] m1 = _ := e2
  have e3 : dPlaces [srcD recs [p], .str "main", .str "swap"] m1 = _ := e3
  have e4 := same_ok 39 (.tup ((plc p.body "swap").map rowP)) m1 (plain_tup (n := 38) (by
    rw [List.length_map]
    have a := List.length_filter_le (fitsR "swap") (rowsB p.body 0 [])
    rw [rowsB_len] at a
    have b : (plc p.body "swap").length ≤ cBs p.body := a
    omega) fun x hx => by
    obtain ⟨row, hrow, rfl⟩ := List.mem_map.mp hx
    exact rowP_plain (List.mem_filter.mp hrow).1 hg.b.h)
  have e5 := body_of_ok (recs := recs) (mu := m1) hf
  have e6 := lpaths_ok 6 p.body [] m1 (by have := hg.b.h; omega) (by have := hg.b.c; omega) (by simp) hc1
  have e6 : dLPaths [.tup (brsD p.body), .tup []] m1 = _ := e6
  have e7 := lw_loop (recs := recs) (sc := .ro (cs.map D.int)) (s := 0) hg hn hr hc1 (rowsB p.body 0 []) none none none none fun _ h => h
  have s0 : (0 : Nat) ≤ sizeLine := by decide
  refine ⟨m1, noX_ok ?_⟩
  rw [law_er]
  have e1 : dSrc [.ref 0] [.lst [.fl (cs.map D.int), .int 0, .int 0, .int 0]] = .ok (.vl (srcD recs [p])) m1 := e1
  generalize (plc p.body "swap").map rowP = PL at *
  generalize (rowsB p.body 0 []).map rowD = RS at *
  generalize brsD p.body = BB at *
  generalize srcD recs [p] = SR at *
  generalize cs.map D.int = CS at *
  simp [startE, es, e1, e2, e3, e4, e5, e6, e7, gTup_ok, s0]
end KP
namespace KP
open PySem L2 PyProof.Rows MP
theorem all_mk {l : PySem.W.OpenLaw} {w : World} {K : PySem.W.Frag} {h : Heap} {mg : Str → Option Value} {fa f0 f1 f2 f3 f4 f5 f6 f7 f8 f9 f10 f11 f12 f13 f14 f15 f16 f17 f18 f19 f20 f21 f22 f23 f24 f25 f26 f27 f28 f29 f30 f31 f32 f33 f34 f35 f36 f37 f38 : Addr} (X : K.In h) (G : h.Ns mainGlobals mg) (hfa : mg "law" = some (.ref fa))
    {od0 an0 : Option Addr} {sl0 : Array (Option Value)} {oc0 kV0 dc0 pm0 cd0 ct0 : Value}
    {od1 an1 : Option Addr} {sl1 : Array (Option Value)} {oc1 kV1 dc1 pm1 cd1 ct1 : Value}
    {od2 an2 : Option Addr} {sl2 : Array (Option Value)} {oc2 kV2 dc2 pm2 cd2 ct2 : Value}
    {od3 an3 : Option Addr} {sl3 : Array (Option Value)} {oc3 kV3 dc3 pm3 cd3 ct3 : Value}
    {od4 an4 : Option Addr} {sl4 : Array (Option Value)} {oc4 kV4 dc4 pm4 cd4 ct4 : Value}
    {od5 an5 : Option Addr} {sl5 : Array (Option Value)} {oc5 kV5 dc5 pm5 cd5 ct5 : Value}
    {od6 an6 : Option Addr} {sl6 : Array (Option Value)} {oc6 kV6 dc6 pm6 cd6 ct6 : Value}
    {od7 an7 : Option Addr} {sl7 : Array (Option Value)} {oc7 kV7 dc7 pm7 cd7 ct7 : Value}
    {od8 an8 : Option Addr} {sl8 : Array (Option Value)} {oc8 kV8 dc8 pm8 cd8 ct8 : Value}
    {od9 an9 : Option Addr} {sl9 : Array (Option Value)} {oc9 kV9 dc9 pm9 cd9 ct9 : Value}
    {od10 an10 : Option Addr} {sl10 : Array (Option Value)} {oc10 kV10 dc10 pm10 cd10 ct10 : Value}
    {od11 an11 : Option Addr} {sl11 : Array (Option Value)} {oc11 kV11 dc11 pm11 cd11 ct11 : Value}
    {od12 an12 : Option Addr} {sl12 : Array (Option Value)} {oc12 kV12 dc12 pm12 cd12 ct12 : Value}
    {od13 an13 : Option Addr} {sl13 : Array (Option Value)} {oc13 kV13 dc13 pm13 cd13 ct13 : Value}
    {od14 an14 : Option Addr} {sl14 : Array (Option Value)} {oc14 kV14 dc14 pm14 cd14 ct14 : Value}
    {od15 an15 : Option Addr} {sl15 : Array (Option Value)} {oc15 kV15 dc15 pm15 cd15 ct15 : Value}
    {od16 an16 : Option Addr} {sl16 : Array (Option Value)} {oc16 kV16 dc16 pm16 cd16 ct16 : Value}
    {od17 an17 : Option Addr} {sl17 : Array (Option Value)} {oc17 kV17 dc17 pm17 cd17 ct17 : Value}
    {od18 an18 : Option Addr} {sl18 : Array (Option Value)} {oc18 kV18 dc18 pm18 cd18 ct18 : Value}
    {od19 an19 : Option Addr} {sl19 : Array (Option Value)} {oc19 kV19 dc19 pm19 cd19 ct19 : Value}
    {od20 an20 : Option Addr} {sl20 : Array (Option Value)} {oc20 kV20 dc20 pm20 cd20 ct20 : Value}
    {od21 an21 : Option Addr} {sl21 : Array (Option Value)} {oc21 kV21 dc21 pm21 cd21 ct21 : Value}
    {od22 an22 : Option Addr} {sl22 : Array (Option Value)} {oc22 kV22 dc22 pm22 cd22 ct22 : Value}
    {od23 an23 : Option Addr} {sl23 : Array (Option Value)} {oc23 kV23 dc23 pm23 cd23 ct23 : Value}
    {od24 an24 : Option Addr} {sl24 : Array (Option Value)} {oc24 kV24 dc24 pm24 cd24 ct24 : Value}
    {od25 an25 : Option Addr} {sl25 : Array (Option Value)} {oc25 kV25 dc25 pm25 cd25 ct25 : Value}
    {od26 an26 : Option Addr} {sl26 : Array (Option Value)} {oc26 kV26 dc26 pm26 cd26 ct26 : Value}
    {od27 an27 : Option Addr} {sl27 : Array (Option Value)} {oc27 kV27 dc27 pm27 cd27 ct27 : Value}
    {od28 an28 : Option Addr} {sl28 : Array (Option Value)} {oc28 kV28 dc28 pm28 cd28 ct28 : Value}
    {od29 an29 : Option Addr} {sl29 : Array (Option Value)} {oc29 kV29 dc29 pm29 cd29 ct29 : Value}
    {od30 an30 : Option Addr} {sl30 : Array (Option Value)} {oc30 kV30 dc30 pm30 cd30 ct30 : Value}
    {od31 an31 : Option Addr} {sl31 : Array (Option Value)} {oc31 kV31 dc31 pm31 cd31 ct31 : Value}
    {od32 an32 : Option Addr} {sl32 : Array (Option Value)} {oc32 kV32 dc32 pm32 cd32 ct32 : Value}
    {od33 an33 : Option Addr} {sl33 : Array (Option Value)} {oc33 kV33 dc33 pm33 cd33 ct33 : Value}
    {od34 an34 : Option Addr} {sl34 : Array (Option Value)} {oc34 kV34 dc34 pm34 cd34 ct34 : Value}
    {od35 an35 : Option Addr} {sl35 : Array (Option Value)} {oc35 kV35 dc35 pm35 cd35 ct35 : Value}
    {od36 an36 : Option Addr} {sl36 : Array (Option Value)} {oc36 kV36 dc36 pm36 cd36 ct36 : Value}
    {od37 an37 : Option Addr} {sl37 : Array (Option Value)} {oc37 kV37 dc37 pm37 cd37 ct37 : Value}
    {od38 an38 : Option Addr} {sl38 : Array (Option Value)} {oc38 kV38 dc38 pm38 cd38 ct38 : Value}
    (a0 : PySem.W.nsIn K mainGlobals "_law_start" = some (some (.ref f0))) (l0 : K.lookup f0 = some ⟨oc0, od0, .func (PySem.W.fnOf "_law_start" "_law_start" (defArgs st__law_start) (defBody st__law_start) (defScope st__law_start) .none kV0 dc0 pm0 an0 cd0 ct0), sl0⟩) (c0 : PySem.W.codeIn K cd0 "_law_start" = true) (k0 : PySem.W.keepIn K (.ref f0) = true)
    (a1 : PySem.W.nsIn K mainGlobals "_law_draw" = some (some (.ref f1))) (l1 : K.lookup f1 = some ⟨oc1, od1, .func (PySem.W.fnOf "_law_draw" "_law_draw" (defArgs st__law_draw) (defBody st__law_draw) (defScope st__law_draw) .none kV1 dc1 pm1 an1 cd1 ct1), sl1⟩) (c1 : PySem.W.codeIn K cd1 "_law_draw" = true) (k1 : PySem.W.keepIn K (.ref f1) = true)
    (a2 : PySem.W.nsIn K mainGlobals "_law_words" = some (some (.ref f2))) (l2 : K.lookup f2 = some ⟨oc2, od2, .func (PySem.W.fnOf "_law_words" "_law_words" (defArgs st__law_words) (defBody st__law_words) (defScope st__law_words) .none kV2 dc2 pm2 an2 cd2 ct2), sl2⟩) (c2 : PySem.W.codeIn K cd2 "_law_words" = true) (k2 : PySem.W.keepIn K (.ref f2) = true)
    (a3 : PySem.W.nsIn K mainGlobals "_law_one_of" = some (some (.ref f3))) (l3 : K.lookup f3 = some ⟨oc3, od3, .func (PySem.W.fnOf "_law_one_of" "_law_one_of" (defArgs st__law_one_of) (defBody st__law_one_of) (defScope st__law_one_of) .none kV3 dc3 pm3 an3 cd3 ct3), sl3⟩) (c3 : PySem.W.codeIn K cd3 "_law_one_of" = true) (k3 : PySem.W.keepIn K (.ref f3) = true)
    (a4 : PySem.W.nsIn K mainGlobals "_law_few" = some (some (.ref f4))) (l4 : K.lookup f4 = some ⟨oc4, od4, .func (PySem.W.fnOf "_law_few" "_law_few" (defArgs st__law_few) (defBody st__law_few) (defScope st__law_few) .none kV4 dc4 pm4 an4 cd4 ct4), sl4⟩) (c4 : PySem.W.codeIn K cd4 "_law_few" = true) (k4 : PySem.W.keepIn K (.ref f4) = true)
    (a5 : PySem.W.nsIn K mainGlobals "_law_flat_source" = some (some (.ref f5))) (l5 : K.lookup f5 = some ⟨oc5, od5, .func (PySem.W.fnOf "_law_flat_source" "_law_flat_source" (defArgs st__law_flat_source) (defBody st__law_flat_source) (defScope st__law_flat_source) .none kV5 dc5 pm5 an5 cd5 ct5), sl5⟩) (c5 : PySem.W.codeIn K cd5 "_law_flat_source" = true) (k5 : PySem.W.keepIn K (.ref f5) = true)
    (a6 : PySem.W.nsIn K mainGlobals "_law_inner_parts" = some (some (.ref f6))) (l6 : K.lookup f6 = some ⟨oc6, od6, .func (PySem.W.fnOf "_law_inner_parts" "_law_inner_parts" (defArgs st__law_inner_parts) (defBody st__law_inner_parts) (defScope st__law_inner_parts) .none kV6 dc6 pm6 an6 cd6 ct6), sl6⟩) (c6 : PySem.W.codeIn K cd6 "_law_inner_parts" = true) (k6 : PySem.W.keepIn K (.ref f6) = true)
    (a7 : PySem.W.nsIn K mainGlobals "_law_paths_of" = some (some (.ref f7))) (l7 : K.lookup f7 = some ⟨oc7, od7, .func (PySem.W.fnOf "_law_paths_of" "_law_paths_of" (defArgs st__law_paths_of) (defBody st__law_paths_of) (defScope st__law_paths_of) .none kV7 dc7 pm7 an7 cd7 ct7), sl7⟩) (c7 : PySem.W.codeIn K cd7 "_law_paths_of" = true) (k7 : PySem.W.keepIn K (.ref f7) = true)
    (a8 : PySem.W.nsIn K mainGlobals "_law_body_of" = some (some (.ref f8))) (l8 : K.lookup f8 = some ⟨oc8, od8, .func (PySem.W.fnOf "_law_body_of" "_law_body_of" (defArgs st__law_body_of) (defBody st__law_body_of) (defScope st__law_body_of) .none kV8 dc8 pm8 an8 cd8 ct8), sl8⟩) (c8 : PySem.W.codeIn K cd8 "_law_body_of" = true) (k8 : PySem.W.keepIn K (.ref f8) = true)
    (a9 : PySem.W.nsIn K mainGlobals "_law_has_give" = some (some (.ref f9))) (l9 : K.lookup f9 = some ⟨oc9, od9, .func (PySem.W.fnOf "_law_has_give" "_law_has_give" (defArgs st__law_has_give) (defBody st__law_has_give) (defScope st__law_has_give) .none kV9 dc9 pm9 an9 cd9 ct9), sl9⟩) (c9 : PySem.W.codeIn K cd9 "_law_has_give" = true) (k9 : PySem.W.keepIn K (.ref f9) = true)
    (a10 : PySem.W.nsIn K mainGlobals "_law_changed_names" = some (some (.ref f10))) (l10 : K.lookup f10 = some ⟨oc10, od10, .func (PySem.W.fnOf "_law_changed_names" "_law_changed_names" (defArgs st__law_changed_names) (defBody st__law_changed_names) (defScope st__law_changed_names) .none kV10 dc10 pm10 an10 cd10 ct10), sl10⟩) (c10 : PySem.W.codeIn K cd10 "_law_changed_names" = true) (k10 : PySem.W.keepIn K (.ref f10) = true)
    (a11 : PySem.W.nsIn K mainGlobals "_law_used_names" = some (some (.ref f11))) (l11 : K.lookup f11 = some ⟨oc11, od11, .func (PySem.W.fnOf "_law_used_names" "_law_used_names" (defArgs st__law_used_names) (defBody st__law_used_names) (defScope st__law_used_names) .none kV11 dc11 pm11 an11 cd11 ct11), sl11⟩) (c11 : PySem.W.codeIn K cd11 "_law_used_names" = true) (k11 : PySem.W.keepIn K (.ref f11) = true)
    (a12 : PySem.W.nsIn K mainGlobals "_law_seen_names" = some (some (.ref f12))) (l12 : K.lookup f12 = some ⟨oc12, od12, .func (PySem.W.fnOf "_law_seen_names" "_law_seen_names" (defArgs st__law_seen_names) (defBody st__law_seen_names) (defScope st__law_seen_names) .none kV12 dc12 pm12 an12 cd12 ct12), sl12⟩) (c12 : PySem.W.codeIn K cd12 "_law_seen_names" = true) (k12 : PySem.W.keepIn K (.ref f12) = true)
    (a13 : PySem.W.nsIn K mainGlobals "_law_may_swap" = some (some (.ref f13))) (l13 : K.lookup f13 = some ⟨oc13, od13, .func (PySem.W.fnOf "_law_may_swap" "_law_may_swap" (defArgs st__law_may_swap) (defBody st__law_may_swap) (defScope st__law_may_swap) .none kV13 dc13 pm13 an13 cd13 ct13), sl13⟩) (c13 : PySem.W.codeIn K cd13 "_law_may_swap" = true) (k13 : PySem.W.keepIn K (.ref f13) = true)
    (a14 : PySem.W.nsIn K mainGlobals "_law_always" = some (some (.ref f14))) (l14 : K.lookup f14 = some ⟨oc14, od14, .func (PySem.W.fnOf "_law_always" "_law_always" (defArgs st__law_always) (defBody st__law_always) (defScope st__law_always) .none kV14 dc14 pm14 an14 cd14 ct14), sl14⟩) (c14 : PySem.W.codeIn K cd14 "_law_always" = true) (k14 : PySem.W.keepIn K (.ref f14) = true)
    (a15 : PySem.W.nsIn K mainGlobals "_law_fits_kind" = some (some (.ref f15))) (l15 : K.lookup f15 = some ⟨oc15, od15, .func (PySem.W.fnOf "_law_fits_kind" "_law_fits_kind" (defArgs st__law_fits_kind) (defBody st__law_fits_kind) (defScope st__law_fits_kind) .none kV15 dc15 pm15 an15 cd15 ct15), sl15⟩) (c15 : PySem.W.codeIn K cd15 "_law_fits_kind" = true) (k15 : PySem.W.keepIn K (.ref f15) = true)
    (a16 : PySem.W.nsIn K mainGlobals "_law_places_of" = some (some (.ref f16))) (l16 : K.lookup f16 = some ⟨oc16, od16, .func (PySem.W.fnOf "_law_places_of" "_law_places_of" (defArgs st__law_places_of) (defBody st__law_places_of) (defScope st__law_places_of) .none kV16 dc16 pm16 an16 cd16 ct16), sl16⟩) (c16 : PySem.W.codeIn K cd16 "_law_places_of" = true) (k16 : PySem.W.keepIn K (.ref f16) = true)
    (a17 : PySem.W.nsIn K mainGlobals "_law_is_int" = some (some (.ref f17))) (l17 : K.lookup f17 = some ⟨oc17, od17, .func (PySem.W.fnOf "_law_is_int" "_law_is_int" (defArgs st__law_is_int) (defBody st__law_is_int) (defScope st__law_is_int) .none kV17 dc17 pm17 an17 cd17 ct17), sl17⟩) (c17 : PySem.W.codeIn K cd17 "_law_is_int" = true) (k17 : PySem.W.keepIn K (.ref f17) = true)
    (a18 : PySem.W.nsIn K mainGlobals "_law_same" = some (some (.ref f18))) (l18 : K.lookup f18 = some ⟨oc18, od18, .func (PySem.W.fnOf "_law_same" "_law_same" (defArgs st__law_same) (defBody st__law_same) (defScope st__law_same) .none kV18 dc18 pm18 an18 cd18 ct18), sl18⟩) (c18 : PySem.W.codeIn K cd18 "_law_same" = true) (k18 : PySem.W.keepIn K (.ref f18) = true)
    (a19 : PySem.W.nsIn K mainGlobals "proc_in" = some (some (.ref f19))) (l19 : K.lookup f19 = some ⟨oc19, od19, .func (PySem.W.fnOf "proc_in" "proc_in" (defArgs st_proc_in) (defBody st_proc_in) (defScope st_proc_in) .none kV19 dc19 pm19 an19 cd19 ct19), sl19⟩) (c19 : PySem.W.codeIn K cd19 "proc_in" = true) (k19 : PySem.W.keepIn K (.ref f19) = true)
    (a20 : PySem.W.nsIn K mainGlobals "paths_in" = some (some (.ref f20))) (l20 : K.lookup f20 = some ⟨oc20, od20, .func (PySem.W.fnOf "paths_in" "paths_in" (defArgs st_paths_in) (defBody st_paths_in) (defScope st_paths_in) .none kV20 dc20 pm20 an20 cd20 ct20), sl20⟩) (c20 : PySem.W.codeIn K cd20 "paths_in" = true) (k20 : PySem.W.keepIn K (.ref f20) = true)
    (a21 : PySem.W.nsIn K mainGlobals "statement_at" = some (some (.ref f21))) (l21 : K.lookup f21 = some ⟨oc21, od21, .func (PySem.W.fnOf "statement_at" "statement_at" (defArgs st_statement_at) (defBody st_statement_at) (defScope st_statement_at) .none kV21 dc21 pm21 an21 cd21 ct21), sl21⟩) (c21 : PySem.W.codeIn K cd21 "statement_at" = true) (k21 : PySem.W.keepIn K (.ref f21) = true)
    (a22 : PySem.W.nsIn K mainGlobals "gives_in" = some (some (.ref f22))) (l22 : K.lookup f22 = some ⟨oc22, od22, .func (PySem.W.fnOf "gives_in" "gives_in" (defArgs st_gives_in) (defBody st_gives_in) (defScope st_gives_in) .none kV22 dc22 pm22 an22 cd22 ct22), sl22⟩) (c22 : PySem.W.codeIn K cd22 "gives_in" = true) (k22 : PySem.W.keepIn K (.ref f22) = true)
    (a23 : PySem.W.nsIn K mainGlobals "block_at" = some (some (.ref f23))) (l23 : K.lookup f23 = some ⟨oc23, od23, .func (PySem.W.fnOf "block_at" "block_at" (defArgs st_block_at) (defBody st_block_at) (defScope st_block_at) .none kV23 dc23 pm23 an23 cd23 ct23), sl23⟩) (c23 : PySem.W.codeIn K cd23 "block_at" = true) (k23 : PySem.W.keepIn K (.ref f23) = true)
    (a24 : PySem.W.nsIn K mainGlobals "names_used" = some (some (.ref f24))) (l24 : K.lookup f24 = some ⟨oc24, od24, .func (PySem.W.fnOf "names_used" "names_used" (defArgs st_names_used) (defBody st_names_used) (defScope st_names_used) .none kV24 dc24 pm24 an24 cd24 ct24), sl24⟩) (c24 : PySem.W.codeIn K cd24 "names_used" = true) (k24 : PySem.W.keepIn K (.ref f24) = true)
    (a25 : PySem.W.nsIn K mainGlobals "simple_names" = some (some (.ref f25))) (l25 : K.lookup f25 = some ⟨oc25, od25, .func (PySem.W.fnOf "simple_names" "simple_names" (defArgs st_simple_names) (defBody st_simple_names) (defScope st_simple_names) .none kV25 dc25 pm25 an25 cd25 ct25), sl25⟩) (c25 : PySem.W.codeIn K cd25 "simple_names" = true) (k25 : PySem.W.keepIn K (.ref f25) = true)
    (a26 : PySem.W.nsIn K mainGlobals "are_apart" = some (some (.ref f26))) (l26 : K.lookup f26 = some ⟨oc26, od26, .func (PySem.W.fnOf "are_apart" "are_apart" (defArgs st_are_apart) (defBody st_are_apart) (defScope st_are_apart) .none kV26 dc26 pm26 an26 cd26 ct26), sl26⟩) (c26 : PySem.W.codeIn K cd26 "are_apart" = true) (k26 : PySem.W.keepIn K (.ref f26) = true)
    (a27 : PySem.W.nsIn K mainGlobals "constant_side" = some (some (.ref f27))) (l27 : K.lookup f27 = some ⟨oc27, od27, .func (PySem.W.fnOf "constant_side" "constant_side" (defArgs st_constant_side) (defBody st_constant_side) (defScope st_constant_side) .none kV27 dc27 pm27 an27 cd27 ct27), sl27⟩) (c27 : PySem.W.codeIn K cd27 "constant_side" = true) (k27 : PySem.W.keepIn K (.ref f27) = true)
    (a28 : PySem.W.nsIn K mainGlobals "can_change" = some (some (.ref f28))) (l28 : K.lookup f28 = some ⟨oc28, od28, .func (PySem.W.fnOf "can_change" "can_change" (defArgs st_can_change) (defBody st_can_change) (defScope st_can_change) .none kV28 dc28 pm28 an28 cd28 ct28), sl28⟩) (c28 : PySem.W.codeIn K cd28 "can_change" = true) (k28 : PySem.W.keepIn K (.ref f28) = true)
    (a29 : PySem.W.nsIn K mainGlobals "places_for" = some (some (.ref f29))) (l29 : K.lookup f29 = some ⟨oc29, od29, .func (PySem.W.fnOf "places_for" "places_for" (defArgs st_places_for) (defBody st_places_for) (defScope st_places_for) .none kV29 dc29 pm29 an29 cd29 ct29), sl29⟩) (c29 : PySem.W.codeIn K cd29 "places_for" = true) (k29 : PySem.W.keepIn K (.ref f29) = true)
    (a30 : PySem.W.nsIn K mainGlobals "changed_statements" = some (some (.ref f30))) (l30 : K.lookup f30 = some ⟨oc30, od30, .func (PySem.W.fnOf "changed_statements" "changed_statements" (defArgs st_changed_statements) (defBody st_changed_statements) (defScope st_changed_statements) .none kV30 dc30 pm30 an30 cd30 ct30), sl30⟩) (c30 : PySem.W.codeIn K cd30 "changed_statements" = true) (k30 : PySem.W.keepIn K (.ref f30) = true)
    (a31 : PySem.W.nsIn K mainGlobals "with_body" = some (some (.ref f31))) (l31 : K.lookup f31 = some ⟨oc31, od31, .func (PySem.W.fnOf "with_body" "with_body" (defArgs st_with_body) (defBody st_with_body) (defScope st_with_body) .none kV31 dc31 pm31 an31 cd31 ct31), sl31⟩) (c31 : PySem.W.codeIn K cd31 "with_body" = true) (k31 : PySem.W.keepIn K (.ref f31) = true)
    (a32 : PySem.W.nsIn K mainGlobals "replaced" = some (some (.ref f32))) (l32 : K.lookup f32 = some ⟨oc32, od32, .func (PySem.W.fnOf "replaced" "replaced" (defArgs st_replaced) (defBody st_replaced) (defScope st_replaced) .none kV32 dc32 pm32 an32 cd32 ct32), sl32⟩) (c32 : PySem.W.codeIn K cd32 "replaced" = true) (k32 : PySem.W.keepIn K (.ref f32) = true)
    (a33 : PySem.W.nsIn K mainGlobals "change" = some (some (.ref f33))) (l33 : K.lookup f33 = some ⟨oc33, od33, .func (PySem.W.fnOf "change" "change" (defArgs st_change) (defBody st_change) (defScope st_change) .none kV33 dc33 pm33 an33 cd33 ct33), sl33⟩) (c33 : PySem.W.codeIn K cd33 "change" = true) (k33 : PySem.W.keepIn K (.ref f33) = true)
    (a34 : PySem.W.nsIn K mainGlobals "_law_statements_for" = some (some (.ref f34))) (l34 : K.lookup f34 = some ⟨oc34, od34, .func (PySem.W.fnOf "_law_statements_for" "_law_statements_for" (defArgs st__law_statements_for) (defBody st__law_statements_for) (defScope st__law_statements_for) .none kV34 dc34 pm34 an34 cd34 ct34), sl34⟩) (c34 : PySem.W.codeIn K cd34 "_law_statements_for" = true) (k34 : PySem.W.keepIn K (.ref f34) = true)
    (a35 : PySem.W.nsIn K mainGlobals "_law_source_with" = some (some (.ref f35))) (l35 : K.lookup f35 = some ⟨oc35, od35, .func (PySem.W.fnOf "_law_source_with" "_law_source_with" (defArgs st__law_source_with) (defBody st__law_source_with) (defScope st__law_source_with) .none kV35 dc35 pm35 an35 cd35 ct35), sl35⟩) (c35 : PySem.W.codeIn K cd35 "_law_source_with" = true) (k35 : PySem.W.keepIn K (.ref f35) = true)
    (a36 : PySem.W.nsIn K mainGlobals "_law_put_at" = some (some (.ref f36))) (l36 : K.lookup f36 = some ⟨oc36, od36, .func (PySem.W.fnOf "_law_put_at" "_law_put_at" (defArgs st__law_put_at) (defBody st__law_put_at) (defScope st__law_put_at) .none kV36 dc36 pm36 an36 cd36 ct36), sl36⟩) (c36 : PySem.W.codeIn K cd36 "_law_put_at" = true) (k36 : PySem.W.keepIn K (.ref f36) = true)
    (a37 : PySem.W.nsIn K mainGlobals "_law_changed_source" = some (some (.ref f37))) (l37 : K.lookup f37 = some ⟨oc37, od37, .func (PySem.W.fnOf "_law_changed_source" "_law_changed_source" (defArgs st__law_changed_source) (defBody st__law_changed_source) (defScope st__law_changed_source) .none kV37 dc37 pm37 an37 cd37 ct37), sl37⟩) (c37 : PySem.W.codeIn K cd37 "_law_changed_source" = true) (k37 : PySem.W.keepIn K (.ref f37) = true)
    (a38 : PySem.W.nsIn K mainGlobals "law" = some (some (.ref f38))) (l38 : K.lookup f38 = some ⟨oc38, od38, .func (PySem.W.fnOf "law" "law" (defArgs st_law) (defBody st_law) (defScope st_law) .none kV38 dc38 pm38 an38 cd38 ct38), sl38⟩) (c38 : PySem.W.codeIn K cd38 "law" = true) (k38 : PySem.W.keepIn K (.ref f38) = true)
    {u_KINDS_0 : Tok} {u_KINDS_1 : Tok} {u_KINDS_2 : Tok} {u_KINDS_3 : Tok} {u_KINDS_4 : Tok} {u_KINDS_5 : Tok} {u_KINDS_6 : Tok} {a_KINDS : Addr} {n_KINDS : Nat} (w_KINDS : K.lookup a_KINDS = some ⟨.type "tuple", none, .seq #[.str "turn" u_KINDS_0, .str "peel" u_KINDS_1, .str "swap" u_KINDS_2, .str "rest" u_KINDS_3, .str "unrest" u_KINDS_4, .str "cut" u_KINDS_5, .str "twice" u_KINDS_6] n_KINDS, #[]⟩) (x_KINDS : PySem.W.nsIn K mainGlobals "KINDS" = some (some (.ref a_KINDS)))
    {u_BLOCKS_0_0 : Tok} {u_BLOCKS_0_1 : Tok} {a_BLOCKS_0 : Addr} {n_BLOCKS_0 : Nat} {u_BLOCKS_1_0 : Tok} {a_BLOCKS_1 : Addr} {n_BLOCKS_1 : Nat} {a_BLOCKS : Addr} {n_BLOCKS : Nat} {r_BLOCKS_0 r_BLOCKS_1 : Tok}
    (w_BLOCKS_0 : K.lookup a_BLOCKS_0 = some ⟨.type "tuple", none, .seq #[.int 2 u_BLOCKS_0_0, .int 3 u_BLOCKS_0_1] n_BLOCKS_0, #[]⟩) (w_BLOCKS_1 : K.lookup a_BLOCKS_1 = some ⟨.type "tuple", none, .seq #[.int 2 u_BLOCKS_1_0] n_BLOCKS_1, #[]⟩) (x_BLOCKS : PySem.W.nsIn K mainGlobals "BLOCKS" = some (some (.ref a_BLOCKS))) (w_BLOCKS : K.lookup a_BLOCKS = some ⟨.type "dict", none, .dict #[⟨PyData.keyHash w.params "if", .str "if" r_BLOCKS_0, .ref a_BLOCKS_0⟩, ⟨PyData.keyHash w.params "while", .str "while" r_BLOCKS_1, .ref a_BLOCKS_1⟩] n_BLOCKS, #[]⟩) (v_BLOCKS_0 : PySem.W.nsIn K a_BLOCKS "if" = some (some (.ref a_BLOCKS_0))) (v_BLOCKS_1 : PySem.W.nsIn K a_BLOCKS "while" = some (some (.ref a_BLOCKS_1))) (s_BLOCKS : (a_BLOCKS == sysModules) = false)
    {c_BadPlace : Addr}
    (xa_BadPlace : PySem.W.nsIn K mainGlobals "BadPlace" = some (some (.ref c_BadPlace)))
    (xk_BadPlace : PySem.W.keepIn K (.ref c_BadPlace) = true)
    (xb_BadPlace : PySem.W.subIn K (.ref c_BadPlace) (.type "BaseException") = some true)
    (xy_BadPlace : PySem.W.typeIn K (.ref c_BadPlace) = some (.type "type"))
    (xd_BadPlace : PySem.W.hasDictIn K c_BadPlace = true)
    (xq_BadPlace : PySem.W.excIn K c_BadPlace veMro "ValueError.__new__" = true)
    (xm_BadPlace_BadPlace : PySem.W.subIn K (.ref c_BadPlace) (.ref c_BadPlace) = some true)
    (y_list : PySem.W.nsIn K mainGlobals "list" = some none) (y_int : PySem.W.nsIn K mainGlobals "int" = some none) (y_len : PySem.W.nsIn K mainGlobals "len" = some none) (y_abs : PySem.W.nsIn K mainGlobals "abs" = some none) (y_range : PySem.W.nsIn K mainGlobals "range" = some none) (y_tuple : PySem.W.nsIn K mainGlobals "tuple" = some none) (y_any : PySem.W.nsIn K mainGlobals "any" = some none) (y_isinstance : PySem.W.nsIn K mainGlobals "isinstance" = some none) (y_bool : PySem.W.nsIn K mainGlobals "bool" = some none) (y_all : PySem.W.nsIn K mainGlobals "all" = some none) (y_str : PySem.W.nsIn K mainGlobals "str" = some none) (y_enumerate : PySem.W.nsIn K mainGlobals "enumerate" = some none) (y_sorted : PySem.W.nsIn K mainGlobals "sorted" = some none) :
    ∃ fd : FuncData, (∀ (s : Shared) (v : Value), BindsTo s fd ⟨[v], []⟩ [("script", v)]) ∧ ∀ base : Heap, K.In base → base.Ns mainGlobals mg → FnOk l.prog w K mg base CX0 43 fa fd ["script"] (spLaw K 63) := by
  have e := hfa.symm.trans (PySem.W.mg_of X G a38)
  cases e
  have U0 := fun_mk (st := st__law_start) l0 c0 k0
  have T__law_start : FnI K mg "_law_start" st__law_start _ _ ["script"] := ⟨U0, PySem.W.mg_of X G a0, U0.binds (ps := ["script"]) fun _ _ _ _ _ _ us hl => match us, hl with | [_], _ => rfl⟩
  have U1 := fun_mk (st := st__law_draw) l1 c1 k1
  have T__law_draw : FnI K mg "_law_draw" st__law_draw _ _ ["state", "most"] := ⟨U1, PySem.W.mg_of X G a1, U1.binds (ps := ["state", "most"]) fun _ _ _ _ _ _ us hl => match us, hl with | [_, _], _ => rfl⟩
  have U2 := fun_mk (st := st__law_words) l2 c2 k2
  have T__law_words : FnI K mg "_law_words" st__law_words _ _ ["state", "many"] := ⟨U2, PySem.W.mg_of X G a2, U2.binds (ps := ["state", "many"]) fun _ _ _ _ _ _ us hl => match us, hl with | [_, _], _ => rfl⟩
  have U3 := fun_mk (st := st__law_one_of) l3 c3 k3
  have T__law_one_of : FnI K mg "_law_one_of" st__law_one_of _ _ ["state", "items"] := ⟨U3, PySem.W.mg_of X G a3, U3.binds (ps := ["state", "items"]) fun _ _ _ _ _ _ us hl => match us, hl with | [_, _], _ => rfl⟩
  have U4 := fun_mk (st := st__law_few) l4 c4 k4
  have T__law_few : FnI K mg "_law_few" st__law_few _ _ ["state", "words"] := ⟨U4, PySem.W.mg_of X G a4, U4.binds (ps := ["state", "words"]) fun _ _ _ _ _ _ us hl => match us, hl with | [_, _], _ => rfl⟩
  have U5 := fun_mk (st := st__law_flat_source) l5 c5 k5
  have T__law_flat_source : FnI K mg "_law_flat_source" st__law_flat_source _ _ ["state"] := ⟨U5, PySem.W.mg_of X G a5, U5.binds (ps := ["state"]) fun _ _ _ _ _ _ us hl => match us, hl with | [_], _ => rfl⟩
  have U6 := fun_mk (st := st__law_inner_parts) l6 c6 k6
  have T__law_inner_parts : FnI K mg "_law_inner_parts" st__law_inner_parts _ _ ["s"] := ⟨U6, PySem.W.mg_of X G a6, U6.binds (ps := ["s"]) fun _ _ _ _ _ _ us hl => match us, hl with | [_], _ => rfl⟩
  have U7 := fun_mk (st := st__law_paths_of) l7 c7 k7
  have T__law_paths_of : FnI K mg "_law_paths_of" st__law_paths_of _ _ ["body", "ahead"] := ⟨U7, PySem.W.mg_of X G a7, U7.binds (ps := ["body", "ahead"]) fun _ _ _ _ _ _ us hl => match us, hl with | [_, _], _ => rfl⟩
  have U8 := fun_mk (st := st__law_body_of) l8 c8 k8
  have T__law_body_of : FnI K mg "_law_body_of" st__law_body_of _ _ ["source", "name"] := ⟨U8, PySem.W.mg_of X G a8, U8.binds (ps := ["source", "name"]) fun _ _ _ _ _ _ us hl => match us, hl with | [_, _], _ => rfl⟩
  have U9 := fun_mk (st := st__law_has_give) l9 c9 k9
  have T__law_has_give : FnI K mg "_law_has_give" st__law_has_give _ _ ["s"] := ⟨U9, PySem.W.mg_of X G a9, U9.binds (ps := ["s"]) fun _ _ _ _ _ _ us hl => match us, hl with | [_], _ => rfl⟩
  have U10 := fun_mk (st := st__law_changed_names) l10 c10 k10
  have T__law_changed_names : FnI K mg "_law_changed_names" st__law_changed_names _ _ ["s"] := ⟨U10, PySem.W.mg_of X G a10, U10.binds (ps := ["s"]) fun _ _ _ _ _ _ us hl => match us, hl with | [_], _ => rfl⟩
  have U11 := fun_mk (st := st__law_used_names) l11 c11 k11
  have T__law_used_names : FnI K mg "_law_used_names" st__law_used_names _ _ ["e"] := ⟨U11, PySem.W.mg_of X G a11, U11.binds (ps := ["e"]) fun _ _ _ _ _ _ us hl => match us, hl with | [_], _ => rfl⟩
  have U12 := fun_mk (st := st__law_seen_names) l12 c12 k12
  have T__law_seen_names : FnI K mg "_law_seen_names" st__law_seen_names _ _ ["s"] := ⟨U12, PySem.W.mg_of X G a12, U12.binds (ps := ["s"]) fun _ _ _ _ _ _ us hl => match us, hl with | [_], _ => rfl⟩
  have U13 := fun_mk (st := st__law_may_swap) l13 c13 k13
  have T__law_may_swap : FnI K mg "_law_may_swap" st__law_may_swap _ _ ["s", "t"] := ⟨U13, PySem.W.mg_of X G a13, U13.binds (ps := ["s", "t"]) fun _ _ _ _ _ _ us hl => match us, hl with | [_, _], _ => rfl⟩
  have U14 := fun_mk (st := st__law_always) l14 c14 k14
  have T__law_always : FnI K mg "_law_always" st__law_always _ _ ["test"] := ⟨U14, PySem.W.mg_of X G a14, U14.binds (ps := ["test"]) fun _ _ _ _ _ _ us hl => match us, hl with | [_], _ => rfl⟩
  have U15 := fun_mk (st := st__law_fits_kind) l15 c15 k15
  have T__law_fits_kind : FnI K mg "_law_fits_kind" st__law_fits_kind _ _ ["kind", "rest"] := ⟨U15, PySem.W.mg_of X G a15, U15.binds (ps := ["kind", "rest"]) fun _ _ _ _ _ _ us hl => match us, hl with | [_, _], _ => rfl⟩
  have U16 := fun_mk (st := st__law_places_of) l16 c16 k16
  have T__law_places_of : FnI K mg "_law_places_of" st__law_places_of _ _ ["source", "name", "kind"] := ⟨U16, PySem.W.mg_of X G a16, U16.binds (ps := ["source", "name", "kind"]) fun _ _ _ _ _ _ us hl => match us, hl with | [_, _, _], _ => rfl⟩
  have U17 := fun_mk (st := st__law_is_int) l17 c17 k17
  have T__law_is_int : FnI K mg "_law_is_int" st__law_is_int _ _ ["x"] := ⟨U17, PySem.W.mg_of X G a17, U17.binds (ps := ["x"]) fun _ _ _ _ _ _ us hl => match us, hl with | [_], _ => rfl⟩
  have U18 := fun_mk (st := st__law_same) l18 c18 k18
  have T__law_same : FnI K mg "_law_same" st__law_same _ _ ["x", "y"] := ⟨U18, PySem.W.mg_of X G a18, U18.binds (ps := ["x", "y"]) fun _ _ _ _ _ _ us hl => match us, hl with | [_, _], _ => rfl⟩
  have U19 := fun_mk (st := st_proc_in) l19 c19 k19
  have T_proc_in : FnI K mg "proc_in" st_proc_in _ _ ["source", "name"] := ⟨U19, PySem.W.mg_of X G a19, U19.binds (ps := ["source", "name"]) fun _ _ _ _ _ _ us hl => match us, hl with | [_, _], _ => rfl⟩
  have U20 := fun_mk (st := st_paths_in) l20 c20 k20
  have T_paths_in : FnI K mg "paths_in" st_paths_in _ _ ["body", "ahead"] := ⟨U20, PySem.W.mg_of X G a20, U20.binds (ps := ["body", "ahead"]) fun _ _ _ _ _ _ us hl => match us, hl with | [_, _], _ => rfl⟩
  have U21 := fun_mk (st := st_statement_at) l21 c21 k21
  have T_statement_at : FnI K mg "statement_at" st_statement_at _ _ ["body", "path"] := ⟨U21, PySem.W.mg_of X G a21, U21.binds (ps := ["body", "path"]) fun _ _ _ _ _ _ us hl => match us, hl with | [_, _], _ => rfl⟩
  have U22 := fun_mk (st := st_gives_in) l22 c22 k22
  have T_gives_in : FnI K mg "gives_in" st_gives_in _ _ ["statement"] := ⟨U22, PySem.W.mg_of X G a22, U22.binds (ps := ["statement"]) fun _ _ _ _ _ _ us hl => match us, hl with | [_], _ => rfl⟩
  have U23 := fun_mk (st := st_block_at) l23 c23 k23
  have T_block_at : FnI K mg "block_at" st_block_at _ _ ["body", "path"] := ⟨U23, PySem.W.mg_of X G a23, U23.binds (ps := ["body", "path"]) fun _ _ _ _ _ _ us hl => match us, hl with | [_, _], _ => rfl⟩
  have U24 := fun_mk (st := st_names_used) l24 c24 k24
  have T_names_used : FnI K mg "names_used" st_names_used _ _ ["part"] := ⟨U24, PySem.W.mg_of X G a24, U24.binds (ps := ["part"]) fun _ _ _ _ _ _ us hl => match us, hl with | [_], _ => rfl⟩
  have U25 := fun_mk (st := st_simple_names) l25 c25 k25
  have T_simple_names : FnI K mg "simple_names" st_simple_names _ _ ["statement"] := ⟨U25, PySem.W.mg_of X G a25, U25.binds (ps := ["statement"]) fun _ _ _ _ _ _ us hl => match us, hl with | [_], _ => rfl⟩
  have U26 := fun_mk (st := st_are_apart) l26 c26 k26
  have T_are_apart : FnI K mg "are_apart" st_are_apart _ _ ["one", "other"] := ⟨U26, PySem.W.mg_of X G a26, U26.binds (ps := ["one", "other"]) fun _ _ _ _ _ _ us hl => match us, hl with | [_, _], _ => rfl⟩
  have U27 := fun_mk (st := st_constant_side) l27 c27 k27
  have T_constant_side : FnI K mg "constant_side" st_constant_side _ _ ["condition"] := ⟨U27, PySem.W.mg_of X G a27, U27.binds (ps := ["condition"]) fun _ _ _ _ _ _ us hl => match us, hl with | [_], _ => rfl⟩
  have U28 := fun_mk (st := st_can_change) l28 c28 k28
  have T_can_change : FnI K mg "can_change" st_can_change _ _ ["body", "path", "kind"] := ⟨U28, PySem.W.mg_of X G a28, U28.binds (ps := ["body", "path", "kind"]) fun _ _ _ _ _ _ us hl => match us, hl with | [_, _, _], _ => rfl⟩
  have U29 := fun_mk (st := st_places_for) l29 c29 k29
  have T_places_for : FnI K mg "places_for" st_places_for _ _ ["source", "name", "kind"] := ⟨U29, PySem.W.mg_of X G a29, U29.binds (ps := ["source", "name", "kind"]) fun _ _ _ _ _ _ us hl => match us, hl with | [_, _, _], _ => rfl⟩
  have U30 := fun_mk (st := st_changed_statements) l30 c30 k30
  have T_changed_statements : FnI K mg "changed_statements" st_changed_statements _ _ ["body", "path", "kind"] := ⟨U30, PySem.W.mg_of X G a30, U30.binds (ps := ["body", "path", "kind"]) fun _ _ _ _ _ _ us hl => match us, hl with | [_, _, _], _ => rfl⟩
  have U31 := fun_mk (st := st_with_body) l31 c31 k31
  have T_with_body : FnI K mg "with_body" st_with_body _ _ ["source", "name", "body"] := ⟨U31, PySem.W.mg_of X G a31, U31.binds (ps := ["source", "name", "body"]) fun _ _ _ _ _ _ us hl => match us, hl with | [_, _, _], _ => rfl⟩
  have U32 := fun_mk (st := st_replaced) l32 c32 k32
  have T_replaced : FnI K mg "replaced" st_replaced _ _ ["body", "path", "many", "statements"] := ⟨U32, PySem.W.mg_of X G a32, U32.binds (ps := ["body", "path", "many", "statements"]) fun _ _ _ _ _ _ us hl => match us, hl with | [_, _, _, _], _ => rfl⟩
  have U33 := fun_mk (st := st_change) l33 c33 k33
  have T_change : FnI K mg "change" st_change _ _ ["source", "name", "kind", "path"] := ⟨U33, PySem.W.mg_of X G a33, U33.binds (ps := ["source", "name", "kind", "path"]) fun _ _ _ _ _ _ us hl => match us, hl with | [_, _, _, _], _ => rfl⟩
  have U34 := fun_mk (st := st__law_statements_for) l34 c34 k34
  have T__law_statements_for : FnI K mg "_law_statements_for" st__law_statements_for _ _ ["kind", "s", "t"] := ⟨U34, PySem.W.mg_of X G a34, U34.binds (ps := ["kind", "s", "t"]) fun _ _ _ _ _ _ us hl => match us, hl with | [_, _, _], _ => rfl⟩
  have U35 := fun_mk (st := st__law_source_with) l35 c35 k35
  have T__law_source_with : FnI K mg "_law_source_with" st__law_source_with _ _ ["source", "name", "body"] := ⟨U35, PySem.W.mg_of X G a35, U35.binds (ps := ["source", "name", "body"]) fun _ _ _ _ _ _ us hl => match us, hl with | [_, _, _], _ => rfl⟩
  have U36 := fun_mk (st := st__law_put_at) l36 c36 k36
  have T__law_put_at : FnI K mg "_law_put_at" st__law_put_at _ _ ["body", "path", "many", "statements"] := ⟨U36, PySem.W.mg_of X G a36, U36.binds (ps := ["body", "path", "many", "statements"]) fun _ _ _ _ _ _ us hl => match us, hl with | [_, _, _, _], _ => rfl⟩
  have U37 := fun_mk (st := st__law_changed_source) l37 c37 k37
  have T__law_changed_source : FnI K mg "_law_changed_source" st__law_changed_source _ _ ["source", "name", "kind", "path"] := ⟨U37, PySem.W.mg_of X G a37, U37.binds (ps := ["source", "name", "kind", "path"]) fun _ _ _ _ _ _ us hl => match us, hl with | [_, _, _, _], _ => rfl⟩
  have U38 := fun_mk (st := st_law) l38 c38 k38
  have T_law : FnI K mg "law" st_law _ _ ["script"] := ⟨U38, PySem.W.mg_of X G a38, U38.binds (ps := ["script"]) fun _ _ _ _ _ _ us hl => match us, hl with | [_], _ => rfl⟩
  have z_list := PySem.W.mg_none_of X G y_list
  have z_int := PySem.W.mg_none_of X G y_int
  have z_len := PySem.W.mg_none_of X G y_len
  have z_abs := PySem.W.mg_none_of X G y_abs
  have z_range := PySem.W.mg_none_of X G y_range
  have z_tuple := PySem.W.mg_none_of X G y_tuple
  have z_any := PySem.W.mg_none_of X G y_any
  have z_isinstance := PySem.W.mg_none_of X G y_isinstance
  have z_bool := PySem.W.mg_none_of X G y_bool
  have z_all := PySem.W.mg_none_of X G y_all
  have z_str := PySem.W.mg_none_of X G y_str
  have z_enumerate := PySem.W.mg_none_of X G y_enumerate
  have z_sorted := PySem.W.mg_none_of X G y_sorted
  have h_KINDS : ∀ m H, Rep K m H (.tup [.str "turn", .str "peel", .str "swap", .str "rest", .str "unrest", .str "cut", .str "twice"]) (.ref a_KINDS) := ktup_of w_KINDS (by show 7 ≤ sizeLine; decide) fun m H => ⟨[.str "turn", .str "peel", .str "swap", .str "rest", .str "unrest", .str "cut", .str "twice"], (.cons ⟨_, rfl⟩ (.cons ⟨_, rfl⟩ (.cons ⟨_, rfl⟩ (.cons ⟨_, rfl⟩ (.cons ⟨_, rfl⟩ (.cons ⟨_, rfl⟩ (.cons ⟨_, rfl⟩ .nil))))))), (Reps.cons_iff.mpr ⟨_, _, rfl, (by simp only [Rep]), (Reps.cons_iff.mpr ⟨_, _, rfl, (by simp only [Rep]), (Reps.cons_iff.mpr ⟨_, _, rfl, (by simp only [Rep]), (Reps.cons_iff.mpr ⟨_, _, rfl, (by simp only [Rep]), (Reps.cons_iff.mpr ⟨_, _, rfl, (by simp only [Rep]), (Reps.cons_iff.mpr ⟨_, _, rfl, (by simp only [Rep]), (Reps.cons_iff.mpr ⟨_, _, rfl, (by simp only [Rep]), (Reps.nil_iff.mpr rfl)⟩)⟩)⟩)⟩)⟩)⟩)⟩)⟩
  have g_KINDS := PySem.W.mg_of X G x_KINDS
  have h_BLOCKS_0 : ∀ m H, Rep K m H (.tup [.int 2, .int 3]) (.ref a_BLOCKS_0) := ktup_of w_BLOCKS_0 (by show 2 ≤ sizeLine; decide) fun m H => ⟨[.int 2, .int 3], (.cons ⟨_, rfl⟩ (.cons ⟨_, rfl⟩ .nil)), (Reps.cons_iff.mpr ⟨_, _, rfl, (by simp only [Rep]), (Reps.cons_iff.mpr ⟨_, _, rfl, (by simp only [Rep]), (Reps.nil_iff.mpr rfl)⟩)⟩)⟩
  have h_BLOCKS_1 : ∀ m H, Rep K m H (.tup [.int 2]) (.ref a_BLOCKS_1) := ktup_of w_BLOCKS_1 (by show 1 ≤ sizeLine; decide) fun m H => ⟨[.int 2], (.cons ⟨_, rfl⟩ .nil), (Reps.cons_iff.mpr ⟨_, _, rfl, (by simp only [Rep]), (Reps.nil_iff.mpr rfl)⟩)⟩
  have g_BLOCKS := PySem.W.mg_of X G x_BLOCKS
  have K_BLOCKS : KTab K w a_BLOCKS tab_BLOCKS := ktab_of (by unfold He.dicW; rw [w_BLOCKS]; simp only [s_BLOCKS]; rfl) fun p hp => by
    simp only [tab_BLOCKS, List.mem_cons, List.not_mem_nil, or_false] at hp
    rcases hp with rfl | rfl
    · exact ⟨_, .ref a_BLOCKS_0, v_BLOCKS_0, rfl, fun m H => (h_BLOCKS_0 m H)⟩
    · exact ⟨_, .ref a_BLOCKS_1, v_BLOCKS_1, rfl, fun m H => (h_BLOCKS_1 m H)⟩
  have g_BadPlace := PySem.W.mg_of X G xa_BadPlace
  have XK_BadPlace : ExcK K mg "BadPlace" c_BadPlace := ⟨g_BadPlace, xk_BadPlace, xb_BadPlace, xy_BadPlace, xd_BadPlace⟩
  have XQ_BadPlace := xq_BadPlace
  have tb_BadPlace : ExcTab mg K (.ref c_BadPlace) xt_BadPlace := by
    intro n cls b hm ht
    have ht := xtab_mem ht
    simp only [List.mem_cons, List.not_mem_nil, or_false, Prod.mk.injEq] at ht
    rcases ht with ⟨rfl, rfl⟩
    · have e := hm.symm.trans g_BadPlace
      cases e
      exact PySem.W.exm_ref xb_BadPlace xd_BadPlace xy_BadPlace xm_BadPlace_BadPlace
  refine ⟨PySem.W.fnOf "law" "law" (defArgs st_law) (defBody st_law) (defScope st_law) .none kV38 dc38 pm38 an38 cd38 ct38, fun s v => .of_eq rfl, fun base _ _ => ?_⟩
  have F__law_start := mp__law_start (P := l.prog) (mg := mg) (w := w) (base := base) (k := 0) T__law_start.fn z_list
  have F__law_draw := mp__law_draw (P := l.prog) (mg := mg) (w := w) (base := base) (k := 0) T__law_draw.fn z_int z_len z_abs
  have F__law_words := mp__law_words (P := l.prog) (mg := mg) (w := w) (base := base) (k := 1) T__law_words.fn T__law_draw (F__law_draw.mono (by decide)) z_range z_int
  have F__law_one_of := mp__law_one_of (P := l.prog) (mg := mg) (w := w) (base := base) (k := 1) T__law_one_of.fn T__law_draw (F__law_draw.mono (by decide)) z_len
  have F__law_few := mp__law_few (P := l.prog) (mg := mg) (w := w) (base := base) (k := 2) T__law_few.fn T__law_one_of (F__law_one_of.mono (by decide)) T__law_draw (F__law_draw.mono (by decide))
  have F__law_flat_source := mp__law_flat_source (P := l.prog) (mg := mg) (w := w) (base := base) (k := 3) T__law_flat_source.fn T__law_words (F__law_words.mono (by decide)) T__law_draw (F__law_draw.mono (by decide)) T__law_few (F__law_few.mono (by decide)) z_range z_tuple
  have F__law_inner_parts := mp__law_inner_parts (P := l.prog) (mg := mg) (w := w) (base := base) (k := 0) T__law_inner_parts.fn
  have FR__law_paths_of : ∀ n : Nat, FnOk l.prog w K mg base CX0 (n + 2) f7 _ ["body", "ahead"] (sp K mg 2 (lpathsL n)) := fun n => by
    induction n with
    | zero => exact fn_bad
    | succ n ih => exact sp_gc (mp__law_paths_of T__law_inner_parts (F__law_inner_parts.mono (by omega)) T__law_paths_of ih z_range z_len) gc_fgt
  have F__law_paths_of := FR__law_paths_of 6
  have F__law_body_of := mp__law_body_of (P := l.prog) (mg := mg) (w := w) (base := base) (k := 0) T__law_body_of.fn
  have FR__law_has_give : ∀ n : Nat, FnOk l.prog w K mg base CX0 (n + 2) f9 _ ["s"] (sp K mg 1 (lgivesL n)) := fun n => by
    induction n with
    | zero => exact fn_bad
    | succ n ih => exact mp__law_has_give T__law_inner_parts (F__law_inner_parts.mono (by omega)) T__law_has_give ih z_any
  have F__law_has_give := FR__law_has_give 6
  have F__law_changed_names := mp__law_changed_names (P := l.prog) (mg := mg) (w := w) (base := base) (k := 0) T__law_changed_names.fn
  have FR__law_used_names : ∀ n : Nat, FnOk l.prog w K mg base CX0 (n + 1) f11 _ ["e"] (sp K mg 1 (lusedL n)) := fun n => by
    induction n with
    | zero => exact fn_bad
    | succ n ih => exact mp__law_used_names T__law_used_names ih
  have F__law_used_names := FR__law_used_names 5
  have F__law_seen_names := mp__law_seen_names (P := l.prog) (mg := mg) (w := w) (base := base) (k := 6) T__law_seen_names.fn T__law_used_names (F__law_used_names.mono (by decide))
  have F__law_may_swap := mp__law_may_swap (P := l.prog) (mg := mg) (w := w) (base := base) (k := 7) T__law_may_swap.fn T__law_changed_names (F__law_changed_names.mono (by decide)) T__law_seen_names (F__law_seen_names.mono (by decide)) z_any
  have F__law_always := mp__law_always (P := l.prog) (mg := mg) (w := w) (base := base) (k := 0) T__law_always.fn
  have F__law_fits_kind := mp__law_fits_kind (P := l.prog) (mg := mg) (w := w) (base := base) (k := 8) T__law_fits_kind.fn T__law_has_give (F__law_has_give.mono (by decide)) T__law_may_swap (F__law_may_swap.mono (by decide)) T__law_always (F__law_always.mono (by decide)) z_len
  have F__law_places_of := mp__law_places_of (P := l.prog) (mg := mg) (w := w) (base := base) (k := 9) T__law_places_of.fn T__law_paths_of (F__law_paths_of.mono (by decide)) T__law_body_of (F__law_body_of.mono (by decide)) T__law_fits_kind (F__law_fits_kind.mono (by decide)) z_tuple
  have F__law_is_int := mp__law_is_int (P := l.prog) (mg := mg) (w := w) (base := base) (k := 0) T__law_is_int.fn z_isinstance z_int z_bool
  have FR__law_same : ∀ n : Nat, FnOk l.prog w K mg base CX0 (n + 2) f18 _ ["x", "y"] (sp K mg 2 (sameL n)) := fun n => by
    induction n with
    | zero => exact fn_bad
    | succ n ih => exact mp__law_same T__law_same ih T__law_is_int (F__law_is_int.mono (by omega)) z_isinstance z_tuple z_len z_range z_all z_str
  have F__law_same := FR__law_same 40
  have F_proc_in := mp_proc_in (P := l.prog) (mg := mg) (w := w) (base := base) (k := 0) T_proc_in.fn
  have FR_paths_in : ∀ n : Nat, FnOk l.prog w K mg base CX0 (n + 1) f20 _ ["body", "ahead"] (sp K mg 2 (pathsL n)) := fun n => by
    induction n with
    | zero => exact fn_bad
    | succ n ih => exact sp_gc (mp_paths_in T_paths_in ih z_enumerate K_BLOCKS g_BLOCKS) gc_fgt
  have F_paths_in := FR_paths_in 6
  have FR_statement_at : ∀ n : Nat, FnOk l.prog w K mg base CX0 (n + 1) f21 _ ["body", "path"] (sp K mg 2 (stAtL n)) := fun n => by
    induction n with
    | zero => exact fn_bad
    | succ n ih => exact mp_statement_at T_statement_at ih z_len
  have F_statement_at := FR_statement_at 6
  have FR_gives_in : ∀ n : Nat, FnOk l.prog w K mg base CX0 (n + 1) f22 _ ["statement"] (sp K mg 1 (givesL n)) := fun n => by
    induction n with
    | zero => exact fn_bad
    | succ n ih => exact mp_gives_in T_gives_in ih z_any K_BLOCKS g_BLOCKS
  have F_gives_in := FR_gives_in 6
  have FR_block_at : ∀ n : Nat, FnOk l.prog w K mg base CX0 (n + 1) f23 _ ["body", "path"] (sp K mg 2 (blAtL n)) := fun n => by
    induction n with
    | zero => exact fn_bad
    | succ n ih => exact mp_block_at T_block_at ih z_len
  have F_block_at := FR_block_at 6
  have FR_names_used : ∀ n : Nat, FnOk l.prog w K mg base CX0 (n + 1) f24 _ ["part"] (sp K mg 1 (usedL n)) := fun n => by
    induction n with
    | zero => exact fn_bad
    | succ n ih => exact sp_gc (mp_names_used T_names_used ih z_isinstance z_tuple z_str) gc_fgt
  have F_names_used := FR_names_used 5
  have F_simple_names := mp_simple_names (P := l.prog) (mg := mg) (w := w) (base := base) (k := 6) T_simple_names.fn T_names_used (F_names_used.mono (by decide))
  have F_are_apart := mp_are_apart (P := l.prog) (mg := mg) (w := w) (base := base) (k := 7) T_are_apart.fn T_simple_names (F_simple_names.mono (by decide)) z_any
  have F_constant_side := mp_constant_side (P := l.prog) (mg := mg) (w := w) (base := base) (k := 0) T_constant_side.fn
  have F_can_change := mp_can_change (P := l.prog) (mg := mg) (w := w) (base := base) (k := 8) T_can_change.fn T_statement_at (F_statement_at.mono (by decide)) T_gives_in (F_gives_in.mono (by decide)) T_block_at (F_block_at.mono (by decide)) T_are_apart (F_are_apart.mono (by decide)) T_constant_side (F_constant_side.mono (by decide)) z_len
  have F_places_for := mp_places_for (P := l.prog) (mg := mg) (w := w) (base := base) (k := 9) T_places_for.fn T_proc_in (F_proc_in.mono (by decide)) T_paths_in (F_paths_in.mono (by decide)) T_can_change (F_can_change.mono (by decide)) z_sorted z_tuple g_KINDS h_KINDS
  have F_changed_statements := mp_changed_statements (P := l.prog) (mg := mg) (w := w) (base := base) (k := 7) T_changed_statements.fn T_statement_at (F_statement_at.mono (by decide)) T_block_at (F_block_at.mono (by decide)) T_constant_side (F_constant_side.mono (by decide))
  have F0_with_body := mp_with_body (P := l.prog) (mg := mg) (w := w) (base := base) (k := 0) T_with_body.fn z_tuple
  have F_with_body := sp_gc F0_with_body gc_fgt
  have FR_replaced : ∀ n : Nat, FnOk l.prog w K mg base CX0 (n + 1) f32 _ ["body", "path", "many", "statements"] (sp K mg 4 (replL n)) := fun n => by
    induction n with
    | zero => exact fn_bad
    | succ n ih => exact mp_replaced T_replaced ih z_len
  have F_replaced := FR_replaced 6
  have F_change := mp_change (P := l.prog) (mg := mg) (w := w) (base := base) (k := 10) T_change.fn T_proc_in (F_proc_in.mono (by decide)) T_places_for (F_places_for.mono (by decide)) T_changed_statements (F_changed_statements.mono (by decide)) T_with_body (F_with_body.mono (by decide)) T_replaced (F_replaced.mono (by decide)) XK_BadPlace XQ_BadPlace
  have F__law_statements_for := mp__law_statements_for (P := l.prog) (mg := mg) (w := w) (base := base) (k := 1) T__law_statements_for.fn T__law_always (F__law_always.mono (by decide))
  have F__law_source_with := mp__law_source_with (P := l.prog) (mg := mg) (w := w) (base := base) (k := 0) T__law_source_with.fn z_tuple
  have FR__law_put_at : ∀ n : Nat, FnOk l.prog w K mg base CX0 (n + 1) f36 _ ["body", "path", "many", "statements"] (sp K mg 4 (putL n)) := fun n => by
    induction n with
    | zero => exact fn_bad
    | succ n ih => exact mp__law_put_at T__law_put_at ih z_len
  have F__law_put_at := FR__law_put_at 6
  have F__law_changed_source := mp__law_changed_source (P := l.prog) (mg := mg) (w := w) (base := base) (k := 8) T__law_changed_source.fn T__law_body_of (F__law_body_of.mono (by decide)) T__law_paths_of (F__law_paths_of.mono (by decide)) T__law_statements_for (F__law_statements_for.mono (by decide)) T__law_source_with (F__law_source_with.mono (by decide)) T__law_put_at (F__law_put_at.mono (by decide))
  have F_law := mp_law (P := l.prog) (mg := mg) (w := w) (base := base) (k := 42) T_law.fn T__law_start (F__law_start.mono (by decide)) T__law_flat_source (F__law_flat_source.mono (by decide)) T__law_places_of (F__law_places_of.mono (by decide)) T__law_same (F__law_same.mono (by decide)) T_places_for (F_places_for.mono (by decide)) T__law_paths_of (F__law_paths_of.mono (by decide)) T__law_body_of (F__law_body_of.mono (by decide)) T_change (F_change.mono (by decide)) T__law_changed_source (F__law_changed_source.mono (by decide)) g_BadPlace tb_BadPlace
  exact law_of F_law fun cs hc => law_ok hc
end KP
open PySem PySem.W PyProof.Rows
set_option maxRecDepth 100000 in
set_option maxHeartbeats 0 in
theorem PySem.Challenge.cw_differwithin_k52_change_swap_holds : PySem.Challenge.rw_differwithin_k52_change_swap.Holds := by
  w_on; o_law; k_head; (case hw => w_witness2)
  k_fill
  refine MP.walkM (l := PySem.Challenge.rw_differwithin_k52_change_swap) (n := 63) (k := 43) rfl (by decide) rfl ⟨rfl, by decide, by decide⟩ (fun w h Y => PySem.W.kIn_of Y) ?F
  case F =>
    intro w mg fa h KX G hmg
    refine' KP.all_mk KX G hmg ?a0 ?l0 ?c0 ?k0 ?a1 ?l1 ?c1 ?k1 ?a2 ?l2 ?c2 ?k2 ?a3 ?l3 ?c3 ?k3 ?a4 ?l4 ?c4 ?k4 ?a5 ?l5 ?c5 ?k5 ?a6 ?l6 ?c6 ?k6 ?a7 ?l7 ?c7 ?k7 ?a8 ?l8 ?c8 ?k8 ?a9 ?l9 ?c9 ?k9 ?a10 ?l10 ?c10 ?k10 ?a11 ?l11 ?c11 ?k11 ?a12 ?l12 ?c12 ?k12 ?a13 ?l13 ?c13 ?k13 ?a14 ?l14 ?c14 ?k14 ?a15 ?l15 ?c15 ?k15 ?a16 ?l16 ?c16 ?k16 ?a17 ?l17 ?c17 ?k17 ?a18 ?l18 ?c18 ?k18 ?a19 ?l19 ?c19 ?k19 ?a20 ?l20 ?c20 ?k20 ?a21 ?l21 ?c21 ?k21 ?a22 ?l22 ?c22 ?k22 ?a23 ?l23 ?c23 ?k23 ?a24 ?l24 ?c24 ?k24 ?a25 ?l25 ?c25 ?k25 ?a26 ?l26 ?c26 ?k26 ?a27 ?l27 ?c27 ?k27 ?a28 ?l28 ?c28 ?k28 ?a29 ?l29 ?c29 ?k29 ?a30 ?l30 ?c30 ?k30 ?a31 ?l31 ?c31 ?k31 ?a32 ?l32 ?c32 ?k32 ?a33 ?l33 ?c33 ?k33 ?a34 ?l34 ?c34 ?k34 ?a35 ?l35 ?c35 ?k35 ?a36 ?l36 ?c36 ?k36 ?a37 ?l37 ?c37 ?k37 ?a38 ?l38 ?c38 ?k38 ?w_KINDS ?x_KINDS ?w_BLOCKS_0 ?w_BLOCKS_1 ?x_BLOCKS ?w_BLOCKS ?v_BLOCKS_0 ?v_BLOCKS_1 ?s_BLOCKS ?xa_BadPlace ?xk_BadPlace ?xb_BadPlace ?xy_BadPlace ?xd_BadPlace ?xq_BadPlace ?xm_BadPlace_BadPlace ?y_list ?y_int ?y_len ?y_abs ?y_range ?y_tuple ?y_any ?y_isinstance ?y_bool ?y_all ?y_str ?y_enumerate ?y_sorted
    (case a0 => k_is); (case l0 => k_is); (case c0 => k_is); (case k0 => k_is)
    (case a1 => k_is); (case l1 => k_is); (case c1 => k_is); (case k1 => k_is)
    (case a2 => k_is); (case l2 => k_is); (case c2 => k_is); (case k2 => k_is)
    (case a3 => k_is); (case l3 => k_is); (case c3 => k_is); (case k3 => k_is)
    (case a4 => k_is); (case l4 => k_is); (case c4 => k_is); (case k4 => k_is)
    (case a5 => k_is); (case l5 => k_is); (case c5 => k_is); (case k5 => k_is)
    (case a6 => k_is); (case l6 => k_is); (case c6 => k_is); (case k6 => k_is)
    (case a7 => k_is); (case l7 => k_is); (case c7 => k_is); (case k7 => k_is)
    (case a8 => k_is); (case l8 => k_is); (case c8 => k_is); (case k8 => k_is)
    (case a9 => k_is); (case l9 => k_is); (case c9 => k_is); (case k9 => k_is)
    (case a10 => k_is); (case l10 => k_is); (case c10 => k_is); (case k10 => k_is)
    (case a11 => k_is); (case l11 => k_is); (case c11 => k_is); (case k11 => k_is)
    (case a12 => k_is); (case l12 => k_is); (case c12 => k_is); (case k12 => k_is)
    (case a13 => k_is); (case l13 => k_is); (case c13 => k_is); (case k13 => k_is)
    (case a14 => k_is); (case l14 => k_is); (case c14 => k_is); (case k14 => k_is)
    (case a15 => k_is); (case l15 => k_is); (case c15 => k_is); (case k15 => k_is)
    (case a16 => k_is); (case l16 => k_is); (case c16 => k_is); (case k16 => k_is)
    (case a17 => k_is); (case l17 => k_is); (case c17 => k_is); (case k17 => k_is)
    (case a18 => k_is); (case l18 => k_is); (case c18 => k_is); (case k18 => k_is)
    (case a19 => k_is); (case l19 => k_is); (case c19 => k_is); (case k19 => k_is)
    (case a20 => k_is); (case l20 => k_is); (case c20 => k_is); (case k20 => k_is)
    (case a21 => k_is); (case l21 => k_is); (case c21 => k_is); (case k21 => k_is)
    (case a22 => k_is); (case l22 => k_is); (case c22 => k_is); (case k22 => k_is)
    (case a23 => k_is); (case l23 => k_is); (case c23 => k_is); (case k23 => k_is)
    (case a24 => k_is); (case l24 => k_is); (case c24 => k_is); (case k24 => k_is)
    (case a25 => k_is); (case l25 => k_is); (case c25 => k_is); (case k25 => k_is)
    (case a26 => k_is); (case l26 => k_is); (case c26 => k_is); (case k26 => k_is)
    (case a27 => k_is); (case l27 => k_is); (case c27 => k_is); (case k27 => k_is)
    (case a28 => k_is); (case l28 => k_is); (case c28 => k_is); (case k28 => k_is)
    (case a29 => k_is); (case l29 => k_is); (case c29 => k_is); (case k29 => k_is)
    (case a30 => k_is); (case l30 => k_is); (case c30 => k_is); (case k30 => k_is)
    (case a31 => k_is); (case l31 => k_is); (case c31 => k_is); (case k31 => k_is)
    (case a32 => k_is); (case l32 => k_is); (case c32 => k_is); (case k32 => k_is)
    (case a33 => k_is); (case l33 => k_is); (case c33 => k_is); (case k33 => k_is)
    (case a34 => k_is); (case l34 => k_is); (case c34 => k_is); (case k34 => k_is)
    (case a35 => k_is); (case l35 => k_is); (case c35 => k_is); (case k35 => k_is)
    (case a36 => k_is); (case l36 => k_is); (case c36 => k_is); (case k36 => k_is)
    (case a37 => k_is); (case l37 => k_is); (case c37 => k_is); (case k37 => k_is)
    (case a38 => k_is); (case l38 => k_is); (case c38 => k_is); (case k38 => k_is)
    (case x_KINDS => k_is); (case w_KINDS => k_is); (case x_BLOCKS => k_is); (case w_BLOCKS => k_is); (case v_BLOCKS_0 => k_is); (case v_BLOCKS_1 => k_is); (case w_BLOCKS_1 => k_is); (case w_BLOCKS_0 => k_is); (case xa_BadPlace => k_is); (case xk_BadPlace => k_is); (case xb_BadPlace => k_is); (case xy_BadPlace => k_is); (case xd_BadPlace => k_is); (case xq_BadPlace => k_exc); (case xm_BadPlace_BadPlace => k_is)
    (case s_BLOCKS => first | rfl | decide)
    (case y_list => k_is); (case y_int => k_is); (case y_len => k_is); (case y_abs => k_is); (case y_range => k_is); (case y_tuple => k_is); (case y_any => k_is); (case y_isinstance => k_is); (case y_bool => k_is); (case y_all => k_is); (case y_str => k_is); (case y_enumerate => k_is); (case y_sorted => k_is)
