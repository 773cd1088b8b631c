import PyProof.Rows.All
import Wide.All
import OpenK.AllK
import Wide.FinOn
import HandS.ForMost
import HandS.TupAny
import HandS.IsInst
import HandS.Wide
import HandS.WordsDict
import HandS.Zip
import HandS.Flow
import HandS.Exc
import HandS.SortKw
import HandS.More
import HandS.Text
import HandS.Style
import HandS.DictComp
import KE.GoesMore
import PySem.Challenge.RW_differwithin_k06_is_claim
set_option Elab.async false
set_option linter.all false
set_option maxRecDepth 100000
set_option maxHeartbeats 1000000
/-! MP: a small semantics of plain data over the hand layer -/
namespace MP
open PySem L2 PyProof.Rows

/-- deep data: fl, fd are lists and dicts that nobody changes any more, ref a place of the small heap, ro a list that is locked or written -/
inductive D where
  | non | bl (b : Bool) | int (i : Int) | str (x : Str)
  | tup (xs : List D) | fl (xs : List D) | ro (xs : List D) | fd (ks : List Key) (xs : List D) | ref (n : Nat)
  deriving Inhabited
/-- what stands in the small heap -/
inductive MO where
  | lst (xs : List D) | dk (kvs : List (Key × D))
/-- an exception: its class's name, its own attributes -/
structure Xn where
  cls : Str
  fs : List (Str × D)
inductive R (α : Type) where
  | ok (a : α) (mu : List MO) | exc (x : Xn) (mu : List MO) | bad
def M (α : Type) := List MO → R α
def M.pure {α : Type} (a : α) : M α := fun mu => .ok a mu
def M.bind {α β : Type} (c : M α) (f : α → M β) : M β := fun mu => match c mu with
  | .ok a mu' => f a mu'
  | .exc x mu' => .exc x mu'
  | .bad => .bad
instance : Monad M where
  pure := M.pure
  bind := M.bind
def bad {α : Type} : M α := fun _ => .bad
def raise {α : Type} (x : Xn) : M α := fun mu => .exc x mu
theorem M.bind_ok {α β : Type} {c : M α} {f : α → M β} {mu mu' : List MO} {a : α} (h : c mu = .ok a mu') : (c >>= f) mu = f a mu' := by
  show M.bind c f mu = _
  unfold M.bind
  rw [h]
theorem M.bind_def {α β : Type} {c : M α} {f : α → M β} {mu : List MO} : (c >>= f) mu = match c mu with
  | .ok a mu' => f a mu'
  | .exc x mu' => .exc x mu'
  | .bad => .bad := rfl
theorem M.pure_def {α : Type} {a : α} {mu : List MO} : (Pure.pure a : M α) mu = .ok a mu := rfl

/-- where the small heap's places stand; further places that no datum may name -/
structure Mp where
  ad : List Addr
  no : List Addr
def Mp.Out (m : Mp) (a : Addr) : Prop := a ∉ m.ad ∧ a ∉ m.no
def Mp.add (m : Mp) (a : Addr) : Mp := ⟨m.ad ++ [a], m.no⟩
def Mp.shut (m : Mp) (a : Addr) : Mp := ⟨m.ad, m.no ++ [a]⟩
/-- a list of the written part; a list that is locked or written -/
def KL (K : PySem.W.Frag) (a : Addr) (xs : List V) : Prop := ∃ (o : Obj) (its : Array Value) (n : Nat), K.lookup a = some o ∧ o.cls = .type "list" ∧ o.dict = none ∧ o.data = .seq its n ∧ its.size ≤ sizeLine ∧ Vals xs its.toList
def RoAt (K : PySem.W.Frag) (H : Hp) (a : Addr) (xs : List V) : Prop := (∃ o, H a = some (.frz o (.lst xs))) ∨ KL K a xs
theorem RoAt.sqL {K : PySem.W.Frag} {H : Hp} {a : Addr} {xs : List V} (h : RoAt K H a xs) : SqL K H a xs := by
  rcases h with ⟨o, h⟩ | h
  · exact .inl (.inr ⟨o, h⟩)
  · exact .inr h
section
variable (K : PySem.W.Frag) (m : Mp) (H : Hp)
mutual
def Rep : D → V → Prop
  | .non, v => v = .non
  | .bl b, v => v = .bl b
  | .int i, v => v = .int i
  | .str x, v => v = .str x
  | .tup ds, v => ∃ a vs, v = .ref a ∧ SqT K H a vs ∧ Reps ds vs
  | .fl ds, v => ∃ a vs, v = .ref a ∧ H a = some (.lst vs) ∧ m.Out a ∧ Reps ds vs
  | .ro ds, v => ∃ a vs, v = .ref a ∧ RoAt K H a vs ∧ Reps ds vs
  | .fd ks ds, v => ∃ a vs, v = .ref a ∧ H a = some (.dK (ks.zip vs)) ∧ m.Out a ∧ ks.length = ds.length ∧ Reps ds vs
  | .ref n, v => ∃ a, v = .ref a ∧ m.ad[n]? = some a
def Reps : List D → List V → Prop
  | [], vs => vs = []
  | d :: ds, vs => ∃ v r, vs = v :: r ∧ Rep d v ∧ Reps ds r
end
def RepO (a : Addr) : MO → Prop
  | .lst ds => ∃ vs, H a = some (.lst vs) ∧ Reps K m H ds vs
  | .dk kvs => ∃ vs, H a = some (.dK ((kvs.map (·.1)).zip vs)) ∧ Reps K m H (kvs.map (·.2)) vs
end

/-- the heap grows: new places, what stands outside of m stays -/
structure Grow (m m' : Mp) (H H' : Hp) : Prop where
  ext : ∃ l k, m'.ad = m.ad ++ l ∧ m'.no = m.no ++ k ∧ (∀ a ∈ l, H a = none) ∧ ∀ a ∈ k, H a = none
  oth : ∀ a o, H a = some o → a ∉ m.ad → H' a = some o
  tups : ∀ a xs, H a = some (.tup xs) → H' a = some (.tup xs)
  frzs : ∀ a o u, H a = some (.frz o u) → H' a = some (.frz o u)
  trk : ∀ a o, H a = some o → ∃ o', H' a = some o'
theorem nodup_ix' {N : List Addr} (hN : N.Nodup) {i j : Nat} {x : Addr} (a : N[i]? = some x) (b : N[j]? = some x) : i = j := by
  obtain ⟨h1, e1⟩ := List.getElem?_eq_some_iff.mp a
  obtain ⟨h2, e2⟩ := List.getElem?_eq_some_iff.mp b
  exact (List.getElem_inj hN).mp (by rw [e1, e2])
theorem Grow.refl {m : Mp} {H : Hp} : Grow m m H H := ⟨⟨[], [], by simp, by simp, by simp, by simp⟩, fun _ _ h _ => h, fun _ _ h => h, fun _ _ _ h => h, fun _ o h => ⟨o, h⟩⟩
theorem Grow.notin {m m' : Mp} {H H' : Hp} (g : Grow m m' H H') {a : Addr} {o : HO} (h : H a = some o) (n : a ∉ m.ad) : a ∉ m'.ad := by
  obtain ⟨l, k, e, _, hl, _⟩ := g.ext
  rw [e]
  intro hm
  rcases List.mem_append.mp hm with z | z
  · exact n z
  · rw [hl a z] at h; cases h
theorem Grow.out {m m' : Mp} {H H' : Hp} (g : Grow m m' H H') {a : Addr} {o : HO} (h : H a = some o) (n : m.Out a) : m'.Out a := by
  refine ⟨g.notin h n.1, ?_⟩
  obtain ⟨l, k, _, e, _, hk⟩ := g.ext
  rw [e]
  intro hm
  rcases List.mem_append.mp hm with z | z
  · exact n.2 z
  · rw [hk a z] at h; cases h
theorem Grow.trans {m m1 m2 : Mp} {H H1 H2 : Hp} (g : Grow m m1 H H1) (g' : Grow m1 m2 H1 H2) : Grow m m2 H H2 := by
  have back : ∀ a, H1 a = none → H a = none := fun a h => by
    cases e : H a with
    | none => rfl
    | some o =>
      obtain ⟨o', h'⟩ := g.trk a o e
      rw [h] at h'; cases h'
  refine ⟨?_, fun a o h n => g'.oth a o (g.oth a o h n) (g.notin h n), fun a xs h => g'.tups a xs (g.tups a xs h), fun a o u h => g'.frzs a o u (g.frzs a o u h), fun a o h => ?_⟩
  · obtain ⟨l, k, e1, e2, hl, hk⟩ := g.ext
    obtain ⟨l', k', e1', e2', hl', hk'⟩ := g'.ext
    refine ⟨l ++ l', k ++ k', by rw [e1', e1, List.append_assoc], by rw [e2', e2, List.append_assoc], fun a ha => ?_, fun a ha => ?_⟩
    · rcases List.mem_append.mp ha with z | z
      · exact hl a z
      · exact back a (hl' a z)
    · rcases List.mem_append.mp ha with z | z
      · exact hk a z
      · exact back a (hk' a z)
  · obtain ⟨o1, h1⟩ := g.trk a o h
    exact g'.trk a o1 h1
theorem Grow.get {m m' : Mp} {H H' : Hp} (g : Grow m m' H H') {n : Nat} {a : Addr} (h : m.ad[n]? = some a) : m'.ad[n]? = some a := by
  obtain ⟨l, k, e, _⟩ := g.ext
  rw [e, List.getElem?_append_left (List.getElem?_eq_some_iff.mp h).1]; exact h
theorem Grow.sqT {K : PySem.W.Frag} {m m' : Mp} {H H' : Hp} (g : Grow m m' H H') {a : Addr} {xs : List V} (h : SqT K H a xs) : SqT K H' a xs := by
  rcases h with (h | ⟨o, h⟩) | h
  · exact .inl (.inl (g.tups a xs h))
  · exact .inl (.inr ⟨o, g.frzs a o _ h⟩)
  · exact .inr h
theorem Grow.roAt {K : PySem.W.Frag} {m m' : Mp} {H H' : Hp} (g : Grow m m' H H') {a : Addr} {xs : List V} (h : RoAt K H a xs) : RoAt K H' a xs := by
  rcases h with ⟨o, h⟩ | h
  · exact .inl ⟨o, g.frzs a o _ h⟩
  · exact .inr h
section
variable {K : PySem.W.Frag} {m m' : Mp} {H H' : Hp}
/-- what the data lean on stays -/
structure Keep (m m' : Mp) (H H' : Hp) : Prop where
  get : ∀ (n : Nat) (a : Addr), m.ad[n]? = some a → m'.ad[n]? = some a
  fl : ∀ a o, H a = some o → m.Out a → H' a = some o ∧ m'.Out a
  tups : ∀ a xs, H a = some (.tup xs) → H' a = some (.tup xs)
  frzs : ∀ a o u, H a = some (.frz o u) → H' a = some (.frz o u)
theorem Grow.keep (g : Grow m m' H H') : Keep m m' H H' := ⟨fun _ _ h => g.get h, fun a o h n => ⟨g.oth a o h n.1, g.out h n⟩, g.tups, g.frzs⟩
theorem Keep.sqT (g : Keep m m' H H') {a : Addr} {xs : List V} (h : SqT K H a xs) : SqT K H' a xs := by
  rcases h with (h | ⟨o, h⟩) | h
  · exact .inl (.inl (g.tups a xs h))
  · exact .inl (.inr ⟨o, g.frzs a o _ h⟩)
  · exact .inr h
theorem Keep.roAt (g : Keep m m' H H') {a : Addr} {xs : List V} (h : RoAt K H a xs) : RoAt K H' a xs := by
  rcases h with ⟨o, h⟩ | h
  · exact .inl ⟨o, g.frzs a o _ h⟩
  · exact .inr h
mutual
theorem Rep.keep (g : Keep m m' H H') : ∀ (d : D) (v : V), Rep K m H d v → Rep K m' H' d v
  | .non, v, h => by simp only [Rep] at h ⊢; exact h
  | .bl b, v, h => by simp only [Rep] at h ⊢; exact h
  | .int i, v, h => by simp only [Rep] at h ⊢; exact h
  | .str x, v, h => by simp only [Rep] at h ⊢; exact h
  | .tup ds, v, h => by
    simp only [Rep] at h ⊢
    obtain ⟨a, vs, e, hs, hr⟩ := h
    exact ⟨a, vs, e, g.sqT hs, Reps.keep g ds vs hr⟩
  | .fl ds, v, h => by
    simp only [Rep] at h ⊢
    obtain ⟨a, vs, e, hs, hn, hr⟩ := h
    exact ⟨a, vs, e, (g.fl a _ hs hn).1, (g.fl a _ hs hn).2, Reps.keep g ds vs hr⟩
  | .ro ds, v, h => by
    simp only [Rep] at h ⊢
    obtain ⟨a, vs, e, hs, hr⟩ := h
    exact ⟨a, vs, e, g.roAt hs, Reps.keep g ds vs hr⟩
  | .fd ks ds, v, h => by
    simp only [Rep] at h ⊢
    obtain ⟨a, vs, e, hs, hn, hl, hr⟩ := h
    exact ⟨a, vs, e, (g.fl a _ hs hn).1, (g.fl a _ hs hn).2, hl, Reps.keep g ds vs hr⟩
  | .ref n, v, h => by
    simp only [Rep] at h ⊢
    obtain ⟨a, e, hm⟩ := h
    exact ⟨a, e, g.get n a hm⟩
theorem Reps.keep (g : Keep m m' H H') : ∀ (ds : List D) (vs : List V), Reps K m H ds vs → Reps K m' H' ds vs
  | [], vs, h => by simp only [Reps] at h ⊢; exact h
  | d :: ds, vs, h => by
    simp only [Reps] at h ⊢
    obtain ⟨v, r, e, h1, h2⟩ := h
    exact ⟨v, r, e, Rep.keep g d v h1, Reps.keep g ds r h2⟩
end
theorem Rep.grow (g : Grow m m' H H') (d : D) (v : V) (h : Rep K m H d v) : Rep K m' H' d v := Rep.keep g.keep d v h
theorem Reps.grow (g : Grow m m' H H') (ds : List D) (vs : List V) (h : Reps K m H ds vs) : Reps K m' H' ds vs := Reps.keep g.keep ds vs h
theorem Reps.nil_iff {vs : List V} : Reps K m H [] vs ↔ vs = [] := by simp only [Reps]
theorem Reps.cons_iff {d : D} {ds : List D} {vs : List V} : Reps K m H (d :: ds) vs ↔ ∃ v r, vs = v :: r ∧ Rep K m H d v ∧ Reps K m H ds r := by simp only [Reps]
theorem Reps.length : ∀ {ds : List D} {vs : List V}, Reps K m H ds vs → ds.length = vs.length
  | [], vs, h => by rw [Reps.nil_iff] at h; subst h; rfl
  | d :: ds, vs, h => by
    obtain ⟨v, r, e, _, h2⟩ := Reps.cons_iff.mp h
    subst e
    rw [List.length_cons, List.length_cons, Reps.length h2]
theorem Reps.get : ∀ {ds : List D} {vs : List V} {i : Nat} {d : D}, Reps K m H ds vs → ds[i]? = some d → ∃ v, vs[i]? = some v ∧ Rep K m H d v
  | [], vs, i, d, _, e => by simp at e
  | d' :: ds, vs, i, d, h, e => by
    obtain ⟨v, r, ev, h1, h2⟩ := Reps.cons_iff.mp h
    subst ev
    cases i with
    | zero => simp at e; subst e; exact ⟨v, rfl, h1⟩
    | succ i =>
      obtain ⟨w, hw, rw'⟩ := Reps.get (i := i) (d := d) h2 (by simpa using e)
      exact ⟨w, by simpa using hw, rw'⟩
theorem Reps.append : ∀ {ds es : List D} {vs ws : List V}, Reps K m H ds vs → Reps K m H es ws → Reps K m H (ds ++ es) (vs ++ ws)
  | [], es, vs, ws, h, h' => by rw [Reps.nil_iff] at h; subst h; exact h'
  | d :: ds, es, vs, ws, h, h' => by
    obtain ⟨v, r, ev, h1, h2⟩ := Reps.cons_iff.mp h
    subst ev
    exact Reps.cons_iff.mpr ⟨v, r ++ ws, rfl, h1, Reps.append h2 h'⟩
theorem Reps.one {d : D} {v : V} (h : Rep K m H d v) : Reps K m H [d] [v] := Reps.cons_iff.mpr ⟨v, [], rfl, h, Reps.nil_iff.mpr rfl⟩
theorem Reps.take (n : Nat) : ∀ {ds : List D} {vs : List V}, Reps K m H ds vs → Reps K m H (ds.take n) (vs.take n) := by
  induction n with
  | zero => intro ds vs _; exact Reps.nil_iff.mpr rfl
  | succ n ih =>
    intro ds vs h
    cases ds with
    | nil => rw [Reps.nil_iff] at h; subst h; exact Reps.nil_iff.mpr rfl
    | cons d ds =>
      obtain ⟨v, r, ev, h1, h2⟩ := Reps.cons_iff.mp h
      subst ev
      exact Reps.cons_iff.mpr ⟨v, r.take n, rfl, h1, ih h2⟩
theorem Reps.drop (n : Nat) : ∀ {ds : List D} {vs : List V}, Reps K m H ds vs → Reps K m H (ds.drop n) (vs.drop n) := by
  induction n with
  | zero => intro ds vs h; exact h
  | succ n ih =>
    intro ds vs h
    cases ds with
    | nil => rw [Reps.nil_iff] at h; subst h; exact Reps.nil_iff.mpr rfl
    | cons d ds =>
      obtain ⟨v, r, ev, h1, h2⟩ := Reps.cons_iff.mp h
      subst ev
      exact ih h2
theorem Reps.set {d : D} {v : V} (hd : Rep K m H d v) : ∀ {ds : List D} {vs : List V} (i : Nat), Reps K m H ds vs → Reps K m H (ds.set i d) (vs.set i v)
  | [], vs, i, h => by rw [Reps.nil_iff] at h; subst h; exact Reps.nil_iff.mpr rfl
  | e :: ds, vs, i, h => by
    obtain ⟨w, r, ev, h1, h2⟩ := Reps.cons_iff.mp h
    subst ev
    cases i with
    | zero => exact Reps.cons_iff.mpr ⟨v, r, rfl, hd, h2⟩
    | succ i => exact Reps.cons_iff.mpr ⟨w, r.set i v, rfl, h1, Reps.set hd i h2⟩
theorem Reps.of_ints : ∀ {ns : List Int} {vs : List V}, Reps K m H (ns.map D.int) vs ↔ vs = ns.map V.int
  | [], vs => Reps.nil_iff
  | n :: ns, vs => by
    rw [List.map_cons, Reps.cons_iff, List.map_cons]
    constructor
    · rintro ⟨v, r, e, h1, h2⟩
      simp only [Rep] at h1
      rw [e, h1, Reps.of_ints.mp h2]
    · rintro rfl
      exact ⟨_, _, rfl, by simp only [Rep], Reps.of_ints.mpr rfl⟩
theorem Reps.of_strs : ∀ {ns : List Str} {vs : List V}, Reps K m H (ns.map D.str) vs ↔ vs = ns.map V.str
  | [], vs => Reps.nil_iff
  | n :: ns, vs => by
    rw [List.map_cons, Reps.cons_iff, List.map_cons]
    constructor
    · rintro ⟨v, r, e, h1, h2⟩
      simp only [Rep] at h1
      rw [e, h1, Reps.of_strs.mp h2]
    · rintro rfl
      exact ⟨_, _, rfl, by simp only [Rep], Reps.of_strs.mpr rfl⟩
theorem Reps.of_bls : ∀ {ns : List Bool} {vs : List V}, Reps K m H (ns.map D.bl) vs ↔ vs = ns.map V.bl
  | [], vs => Reps.nil_iff
  | n :: ns, vs => by
    rw [List.map_cons, Reps.cons_iff, List.map_cons]
    constructor
    · rintro ⟨v, r, e, h1, h2⟩
      simp only [Rep] at h1
      rw [e, h1, Reps.of_bls.mp h2]
    · rintro rfl
      exact ⟨_, _, rfl, by simp only [Rep], Reps.of_bls.mpr rfl⟩
theorem RepO.keep (g : Keep m m' H H') {a : Addr} (hk : ∀ o, H a = some o → H' a = some o) : ∀ {o : MO}, RepO K m H a o → RepO K m' H' a o
  | .lst ds, ⟨vs, h, r⟩ => ⟨vs, hk _ h, Reps.keep g ds vs r⟩
  | .dk kvs, ⟨vs, h, r⟩ => ⟨vs, hk _ h, Reps.keep g _ vs r⟩
theorem RepO.grow (g : Grow m m' H H') {a : Addr} (hk : ∀ o, H a = some o → H' a = some o) : ∀ {o : MO}, RepO K m H a o → RepO K m' H' a o
  | .lst ds, ⟨vs, h, r⟩ => ⟨vs, hk _ h, Reps.grow g ds vs r⟩
  | .dk kvs, ⟨vs, h, r⟩ => ⟨vs, hk _ h, Reps.grow g _ vs r⟩
/-- the small heap stands -/
structure Rel (K : PySem.W.Frag) (m : Mp) (mu : List MO) (H : Hp) : Prop where
  len : m.ad.length = mu.length
  nd : m.ad.Nodup
  nos : ∀ a, a ∈ m.no → ∃ o, H a = some o
  dj : ∀ a, a ∈ m.ad → a ∉ m.no
  obj : ∀ (n : Nat) (o : MO) (a : Addr), mu[n]? = some o → m.ad[n]? = some a → RepO K m H a o
theorem Rel.at {mu : List MO} (r : Rel K m mu H) {n : Nat} {o : MO} (h : mu[n]? = some o) : ∃ a, m.ad[n]? = some a ∧ RepO K m H a o := by
  have hn : n < m.ad.length := by rw [r.len]; exact (List.getElem?_eq_some_iff.mp h).1
  exact ⟨m.ad[n], List.getElem?_eq_getElem hn, r.obj n o _ h (List.getElem?_eq_getElem hn)⟩
theorem Rel.at' {mu : List MO} (r : Rel K m mu H) {n : Nat} {a : Addr} (h : m.ad[n]? = some a) : ∃ o, mu[n]? = some o ∧ RepO K m H a o := by
  have hn : n < mu.length := by rw [← r.len]; exact (List.getElem?_eq_some_iff.mp h).1
  exact ⟨mu[n], List.getElem?_eq_getElem hn, r.obj n _ a (List.getElem?_eq_getElem hn) h⟩
theorem RepO.there {a : Addr} : ∀ {o : MO}, RepO K m H a o → (∃ vs, H a = some (.lst vs)) ∨ ∃ kvs, H a = some (.dK kvs)
  | .lst _, ⟨vs, h, _⟩ => .inl ⟨vs, h⟩
  | .dk _, ⟨_, h, _⟩ => .inr ⟨_, h⟩
theorem Rel.mem {mu : List MO} (r : Rel K m mu H) {a : Addr} (h : a ∈ m.ad) : (∃ vs, H a = some (.lst vs)) ∨ ∃ kvs, H a = some (.dK kvs) := by
  obtain ⟨n, hn⟩ := List.mem_iff_getElem?.mp h
  obtain ⟨o, _, ho⟩ := r.at' hn
  exact ho.there
/-- a place that is free may be taken for an object outside of m -/
theorem Grow.laid {a : Addr} {o : HO} (h : H a = none) : Grow m m H (upd H a o) :=
  ⟨⟨[], [], by simp, by simp, by simp, by simp⟩, fun b u e _ => by rw [upd_ne (ne_of_none e h)]; exact e, fun b u e => by rw [upd_ne (ne_of_none e h)]; exact e, fun b u w e => by rw [upd_ne (ne_of_none e h)]; exact e, fun b u e => ⟨u, by rw [upd_ne (ne_of_none e h)]; exact e⟩⟩
theorem Rel.laid {mu : List MO} {a : Addr} {o : HO} (r : Rel K m mu H) (h : H a = none) : Rel K m mu (upd H a o) :=
  ⟨r.len, r.nd, fun b hb => (Grow.laid (m := m) h).trk b _ (r.nos b hb).choose_spec, r.dj, fun n ob b e e' => (r.obj n ob b e e').grow (.laid h) fun u q => by rw [upd_ne (ne_of_none q h)]; exact q⟩
theorem Rel.free {mu : List MO} {a : Addr} (r : Rel K m mu H) (h : H a = none) : m.Out a := ⟨fun z => by
  rcases r.mem z with ⟨_, q⟩ | ⟨_, q⟩ <;> (rw [h] at q; cases q), fun z => by
  obtain ⟨o, q⟩ := r.nos a z
  rw [h] at q; cases q⟩
/-- an object that is not yet of the small heap is taken into it -/
theorem Grow.adopt {H0 : Hp} {a : Addr} (g : Grow m m' H0 H) (h0 : H0 a = none) : Grow m (m'.add a) H0 H := by
  obtain ⟨l, k, e, e2, hl, hk⟩ := g.ext
  refine ⟨⟨l ++ [a], k, by show m'.ad ++ [a] = _; rw [e, List.append_assoc], e2, fun b hb => ?_, hk⟩, g.oth, g.tups, g.frzs, g.trk⟩
  rcases List.mem_append.mp hb with z | z
  · exact hl b z
  · rw [List.mem_singleton.mp z]; exact h0
/-- an object of the small heap is changed -/
theorem Grow.write {mu : List MO} {n : Nat} {a : Addr} {ho : HO} (r : Rel K m mu H) (hm : m.ad[n]? = some a) : Grow m m H (upd H a ho) := by
  have hmem : a ∈ m.ad := List.mem_of_getElem? hm
  have hin := r.mem hmem
  refine ⟨⟨[], [], by simp, by simp, by simp, by simp⟩, fun b u e nb => ?_, fun b u e => ?_, fun b u w e => ?_, fun b u e => ?_⟩
  · rw [upd_ne (show b ≠ a from fun z => nb (by rw [z]; exact hmem))]; exact e
  · rw [upd_ne (show b ≠ a from fun z => by rw [z] at e; rcases hin with ⟨_, q⟩ | ⟨_, q⟩ <;> (rw [q] at e; cases e))]; exact e
  · rw [upd_ne (show b ≠ a from fun z => by rw [z] at e; rcases hin with ⟨_, q⟩ | ⟨_, q⟩ <;> (rw [q] at e; cases e))]; exact e
  · by_cases z : b = a
    · subst z; exact ⟨ho, upd_same⟩
    · exact ⟨u, by rw [upd_ne z]; exact e⟩
theorem Rel.write {mu : List MO} {n : Nat} {a : Addr} {o : MO} {ho : HO} (r : Rel K m mu H) (hm : m.ad[n]? = some a) (hnew : RepO K m (upd H a ho) a o) : Rel K m (mu.set n o) (upd H a ho) := by
  have g : Grow m m H (upd H a ho) := .write r hm
  refine ⟨by rw [List.length_set]; exact r.len, r.nd, fun b hb => g.trk b _ (r.nos b hb).choose_spec, r.dj, fun k ob b e e' => ?_⟩
  by_cases hk : k = n
  · subst hk
    rw [hm] at e'; cases e'
    rw [List.getElem?_set_self (by rw [← r.len]; exact (List.getElem?_eq_some_iff.mp hm).1)] at e
    cases e
    exact hnew
  · rw [List.getElem?_set_ne (Ne.symm hk)] at e
    have hba : b ≠ a := fun z => hk (nodup_ix' r.nd e' (z ▸ hm))
    exact (r.obj k ob b e e').grow g fun u q => by rw [upd_ne hba]; exact q
end
end MP
namespace MP
open PySem L2 PyProof.Rows

abbrev Env := List (Option D)
structure RepE (K : PySem.W.Frag) (m : Mp) (H : Hp) (env : Env) (σ : L2.St) : Prop where
  len : env.length = σ.length
  get : ∀ (i : Nat) (d : D), env[i]? = some (some d) → ∃ v, σ[i]? = some (some v) ∧ Rep K m H d v
abbrev Wx := Xn → Mp → Hp → Prop
def Post (K : PySem.W.Frag) (W : Wx) (m : Mp) (H : Hp) {α : Type} (r : R α) (Q : α → Mp → List MO → Hp → Prop) : Prop := match r with
  | .ok a mu' => ∀ m' H', Grow m m' H H' → Rel K m' mu' H' → Q a m' mu' H'
  | .exc x mu' => ∀ m' H', Grow m m' H H' → Rel K m' mu' H' → W x m' H'
  | .bad => False
section
variable {K : PySem.W.Frag} {W : Wx} {m m' : Mp} {H H' : Hp} {α β : Type} {env : Env} {σ : L2.St} {mu : List MO}
theorem RepE.grow (r : RepE K m H env σ) (g : Grow m m' H H') : RepE K m' H' env σ :=
  ⟨r.len, fun i d e => let ⟨v, h, q⟩ := r.get i d e; ⟨v, h, Rep.grow g d v q⟩⟩
theorem RepE.keep (r : RepE K m H env σ) (g : Keep m m' H H') : RepE K m' H' env σ :=
  ⟨r.len, fun i d e => let ⟨v, h, q⟩ := r.get i d e; ⟨v, h, Rep.keep g d v q⟩⟩
theorem RepE.set (r : RepE K m H env σ) {i : Nat} {d : D} {v : V} (h : Rep K m H d v) : RepE K m H (env.set i (some d)) (σ.set i (some v)) := by
  refine ⟨by rw [List.length_set, List.length_set, r.len], fun j e he => ?_⟩
  by_cases hj : i = j
  · subst hj
    by_cases hi : i < env.length
    · rw [List.getElem?_set_self hi] at he
      cases he
      exact ⟨v, List.getElem?_set_self (by rw [← r.len]; exact hi), h⟩
    · rw [List.getElem?_eq_none (by rw [List.length_set]; omega)] at he
      cases he
  · rw [List.getElem?_set_ne hj] at he
    obtain ⟨w, hw, q⟩ := r.get j e he
    exact ⟨w, by rw [List.getElem?_set_ne hj]; exact hw, q⟩
/-- slots forgotten -/
def wipeE (env : Env) : List Nat → Env
  | [] => env
  | i :: is => (wipeE env is).set i none
theorem wipeE_length : ∀ (is : List Nat), (wipeE env is).length = env.length
  | [] => rfl
  | i :: is => by unfold wipeE; rw [List.length_set, wipeE_length is]
theorem wipeE_some {i : Nat} {d : D} : ∀ {is : List Nat}, (wipeE env is)[i]? = some (some d) → env[i]? = some (some d) ∧ i ∉ is
  | [], h => ⟨h, by simp⟩
  | j :: is, h => by
    unfold wipeE at h
    by_cases hi : j = i
    · subst hi
      by_cases hv : j < (wipeE env is).length
      · rw [List.getElem?_set_self hv] at h; cases h
      · rw [List.getElem?_eq_none (by simpa using hv)] at h; cases h
    · rw [List.getElem?_set_ne hi] at h
      obtain ⟨h1, h2⟩ := wipeE_some h
      exact ⟨h1, by simp only [List.mem_cons, not_or]; exact ⟨fun e => hi e.symm, h2⟩⟩
theorem RepE.wipeL (r : RepE K m H env σ) (is : List Nat) : RepE K m H (wipeE env is) σ :=
  ⟨by rw [wipeE_length]; exact r.len, fun i d e => r.get i d (wipeE_some e).1⟩
theorem L2wipe_get {i : Nat} : ∀ {is : List Nat}, i ∉ is → (L2.wipe σ is)[i]? = σ[i]?
  | [], _ => rfl
  | j :: is, h => by
    simp only [List.mem_cons, not_or] at h
    unfold L2.wipe
    rw [List.getElem?_set_ne (Ne.symm h.1), L2wipe_get h.2]
theorem RepE.wipe (r : RepE K m H env σ) (is : List Nat) : RepE K m H (wipeE env is) (L2.wipe σ is) :=
  ⟨by rw [wipeE_length, L2.wipe_length]; exact r.len, fun i d e => by
    obtain ⟨h1, h2⟩ := wipeE_some e
    obtain ⟨v, h, q⟩ := r.get i d h1
    exact ⟨v, by rw [L2wipe_get h2]; exact h, q⟩⟩
theorem Post.mono {r : R α} {Q Q' : α → Mp → List MO → Hp → Prop} (h : Post K W m H r Q) (hQ : ∀ a m' mu' H', Grow m m' H H' → Rel K m' mu' H' → Q a m' mu' H' → Q' a m' mu' H') : Post K W m H r Q' := by
  cases r with
  | ok a mu' => exact fun m' H' g rl => hQ a m' mu' H' g rl (h m' H' g rl)
  | exc x mu' => exact h
  | bad => exact h
theorem Post.grow {r : R α} {Q : α → Mp → List MO → Hp → Prop} (h : Post K W m H r Q) (g : Grow m m' H H') : Post K W m' H' r Q := by
  cases r with
  | ok a mu' => exact fun m2 H2 g2 rl => h m2 H2 (g.trans g2) rl
  | exc x mu' => exact fun m2 H2 g2 rl => h m2 H2 (g.trans g2) rl
  | bad => exact h
theorem Post.bind {c : M α} {f : α → M β} {Q : β → Mp → List MO → Hp → Prop} (h : Post K W m H ((c >>= f) mu) Q) : Post K W m H (c mu) (fun a m' mu' H' => Post K W m' H' (f a mu') Q) := by
  rw [M.bind_def] at h
  cases e : c mu with
  | ok a mu' =>
    rw [e] at h
    exact fun m' H' g rl => h.grow g
  | exc x mu' => rw [e] at h; exact h
  | bad => rw [e] at h; exact h
theorem Post.pure {a : α} {Q : α → Mp → List MO → Hp → Prop} (h : Post K W m H ((Pure.pure a : M α) mu) Q) (rl : Rel K m mu H) : Q a m mu H := h m H .refl rl
theorem Post.wx {W' : Wx} {r : R α} {Q : α → Mp → List MO → Hp → Prop} (h : Post K W m H r Q) (hw : ∀ x m H, W x m H → W' x m H) : Post K W' m H r Q := by
  cases r with
  | ok a mu' => exact h
  | exc x mu' => exact fun m' H' g rl => hw _ _ _ (h m' H' g rl)
  | bad => exact h
end

/-! ### readings -/
def tE (K : PySem.W.Frag) (W : Wx) (r : Env → M D) : TE := fun σ H Q => ∃ env m mu, RepE K m H env σ ∧ Rel K m mu H ∧ Post K W m H (r env mu) fun d m' _ H' => ∀ v, Rep K m' H' d v → Q v H'
def tT (K : PySem.W.Frag) (W : Wx) (r : Env → M Bool) : TT := fun σ H Q => ∃ env m mu, RepE K m H env σ ∧ Rel K m mu H ∧ Post K W m H (r env mu) fun b _ _ H' => Q b H'
def tA (K : PySem.W.Frag) (W : Wx) (r : Env → M (List D)) : TA := fun σ H Q => ∃ env m mu, RepE K m H env σ ∧ Rel K m mu H ∧ Post K W m H (r env mu) fun ds m' _ H' => ∀ vs, Reps K m' H' ds vs → Q vs H'
/-- what a def hands back: a datum, or a list that is new -/
inductive Rv where
  | vl (d : D) | fr (ds : List D)
inductive Fl where
  | nx (e : Env) | rt (rv : Rv) | bk (e : Env) | ct (e : Env)
/-- a list that was not there ahead of H, and that nothing else holds -/
def NewL (K : PySem.W.Frag) (H : Hp) (ds : List D) (m' : Mp) (mu' : List MO) (H' : Hp) (Q : VK) : Prop :=
  ∀ a vs, H a = none → H' a = some (.lst vs) → m'.Out a → Reps K m' H' ds vs → Rel K (m'.add a) (mu' ++ [.lst ds]) H' → Q (.ref a) H'
def RvQ (K : PySem.W.Frag) (H : Hp) (rv : Rv) (m' : Mp) (mu' : List MO) (H' : Hp) (Q : VK) : Prop := match rv with
  | .vl d => ∀ v, Rep K m' H' d v → Q v H'
  | .fr ds => NewL K H ds m' mu' H' Q
theorem Grow.none_of {m m1 : Mp} {H H1 : Hp} (g : Grow m m1 H H1) {a : Addr} (h : H1 a = none) : H a = none := by
  cases e : H a with
  | none => rfl
  | some o =>
    obtain ⟨o', h'⟩ := g.trk a o e
    rw [h] at h'; cases h'
theorem NewL.from {K : PySem.W.Frag} {m m1 m' : Mp} {mu' : List MO} {H H1 H' : Hp} {ds : List D} {Q : VK} (h : NewL K H ds m' mu' H' Q) (g : Grow m m1 H H1) : NewL K H1 ds m' mu' H' Q := fun a vs h1 => h a vs (g.none_of h1)
theorem RvQ.from {K : PySem.W.Frag} {m m1 m' : Mp} {mu' : List MO} {H H1 H' : Hp} {rv : Rv} {Q : VK} (h : RvQ K H rv m' mu' H' Q) (g : Grow m m1 H H1) : RvQ K H1 rv m' mu' H' Q := by
  cases rv with
  | vl d => exact h
  | fr ds => exact NewL.from h g
def FlQ (K : PySem.W.Frag) (D : Ends) (H : Hp) (fl : Fl) (m' : Mp) (mu' : List MO) (H' : Hp) : Prop := match fl with
  | .nx e => ∀ σ', RepE K m' H' e σ' → D.nx σ' H'
  | .rt rv => RvQ K H rv m' mu' H' D.rt
  | .bk e => ∀ σ', RepE K m' H' e σ' → D.bk σ' H'
  | .ct e => ∀ σ', RepE K m' H' e σ' → D.ct σ' H'
def tS (K : PySem.W.Frag) (W : Wx) (r : Env → M Fl) : TS := fun D σ H => ∃ env m mu, RepE K m H env σ ∧ Rel K m mu H ∧ Post K W m H (r env mu) fun fl m' mu' H' => FlQ K D H fl m' mu' H'
def tF (K : PySem.W.Frag) (W : Wx) (r : Env → M (List D)) : TE := fun σ H Q => ∃ env m mu, RepE K m H env σ ∧ Rel K m mu H ∧ Post K W m H (r env mu) fun ds m' mu' H' => NewL K H ds m' mu' H' Q
structure ME (X : Cx) (W : Wx) (e : Expr) (r : Env → M D) : Prop where
  pe : PE X e (tE X.K W r)
structure MF (X : Cx) (W : Wx) (e : Expr) (r : Env → M (List D)) : Prop where
  pe : PE X e (tF X.K W r)
structure MT (X : Cx) (W : Wx) (e : Expr) (r : Env → M Bool) : Prop where
  pt : PT X e (tT X.K W r)
structure MA (X : Cx) (W : Wx) (es : List Expr) (r : Env → M (List D)) : Prop where
  pa : PA X es (tA X.K W r)
structure MS (X : Cx) (W : Wx) (st : Stmt) (r : Env → M Fl) : Prop where
  ps : PS X st (tS X.K W r)
structure MSs (X : Cx) (W : Wx) (st : List Stmt) (r : Env → M Fl) : Prop where
  ps : PSs X st (tS X.K W r)
section
variable {X : Cx} {W : Wx} {e a b : Expr} {pos : Pos}
theorem _root_.L2.PE.imp {t t' : TE} (h : PE X e t) (i : ∀ σ H Q, t' σ H Q → t σ H Q) : PE X e t' := ⟨fun pins s σ H Q I q => h.run pins s σ H Q I (i σ H Q q)⟩
theorem _root_.L2.PT.imp {t t' : TT} (h : PT X e t) (i : ∀ σ H Q, t' σ H Q → t σ H Q) : PT X e t' := ⟨fun pins s σ H Q I q => h.run pins s σ H Q I (i σ H Q q)⟩
theorem _root_.L2.PW.imp {t t' : TT} (h : PW X e t) (i : ∀ σ H Q, t' σ H Q → t σ H Q) : PW X e t' := ⟨fun wh pins s σ H Q I q => h.run wh pins s σ H Q I (i σ H Q q)⟩
theorem _root_.L2.PA.imp {es : List Expr} {t t' : TA} (h : PA X es t) (i : ∀ σ H Q, t' σ H Q → t σ H Q) : PA X es t' := ⟨fun p pins s σ H Q I q => h.run p pins s σ H Q I (i σ H Q q)⟩
theorem _root_.L2.PS.imp {st : Stmt} {t t' : TS} (h : PS X st t) (i : ∀ D σ H, t' D σ H → t D σ H) : PS X st t' := ⟨fun pins s σ H D I q => h.run pins s σ H D I (i D σ H q)⟩
theorem _root_.L2.PSs.imp {st : List Stmt} {t t' : TS} (h : PSs X st t) (i : ∀ D σ H, t' D σ H → t D σ H) : PSs X st t' := ⟨fun pins s σ H D I q => h.run pins s σ H D I (i D σ H q)⟩
theorem _root_.L2.PE.or {t t' : TE} (h : PE X e t) (h' : PE X e t') : PE X e (fun σ H Q => t σ H Q ∨ t' σ H Q) := ⟨fun pins s σ H Q I q => q.elim (h.run pins s σ H Q I) (h'.run pins s σ H Q I)⟩
theorem ME.eq {r r' : Env → M D} (h : ME X W e r) (i : ∀ env mu, r' env mu = r env mu) : ME X W e r' := by
  rw [show r' = r from funext fun env => funext fun mu => i env mu]; exact h

/-! ### names, constants -/
def eVar (i : Nat) : Env → M D := fun env => match env[i]? with
  | some (some d) => pure d
  | _ => bad
def eC (d : D) : Env → M D := fun _ => pure d
theorem me_var {i : Nat} {x : Str} (h : PE X (.Name x pos) (tVar i)) : ME X W (.Name x pos) (eVar i) := ⟨h.imp fun σ H Q ⟨env, m, mu, hE, hR, hp⟩ => by
  cases e : env[i]? with
  | none => unfold eVar at hp; rw [e] at hp; exact hp.elim
  | some o =>
    cases o with
    | none => unfold eVar at hp; rw [e] at hp; exact hp.elim
    | some d =>
      unfold eVar at hp
      rw [e] at hp
      obtain ⟨v, hv, rv⟩ := hE.get i d e
      exact ⟨v, hv, Post.pure hp hR v rv⟩⟩
theorem me_c {d : D} {v : V} (h : PE X e (tC v)) (hr : ∀ m H, Rep X.K m H d v) : ME X W e (eC d) := ⟨h.imp fun σ H Q ⟨env, m, mu, hE, hR, hp⟩ => Post.pure hp hR v (hr m H)⟩
theorem me_int {i j} : ME X W (.Constant (.int i) j pos) (eC (.int i)) := me_c pe_int fun m H => by simp only [Rep]
theorem me_bl {i j} : ME X W (.Constant (.bool i) j pos) (eC (.bl i)) := me_c pe_bl fun m H => by simp only [Rep]
theorem me_non {j} : ME X W (.Constant .none j pos) (eC .non) := me_c pe_non fun m H => by simp only [Rep]
theorem me_str {i j} : ME X W (.Constant (.str i) j pos) (eC (.str i)) := me_c pe_str fun m H => by simp only [Rep]

/-! ### operators by values -/
/-- a reading of two values is a function of two data -/
structure OpM (K : PySem.W.Frag) (W : Wx) (r : R2) (g : D → D → M D) : Prop where
  go : ∀ (x y : D) (v w : V) (m : Mp) (mu : List MO) (H : Hp) (Q : VK), Rel K m mu H → Rep K m H x v → Rep K m H y w → Post K W m H (g x y mu) (fun d m' _ H' => ∀ u, Rep K m' H' d u → Q u H') → r v w H Q
def eBin (g : D → D → M D) (ra rb : Env → M D) : Env → M D := fun env => ra env >>= fun x => rb env >>= fun y => g x y
theorem tE_bin {r : R2} {g : D → D → M D} {ra rb : Env → M D} (o : OpM X.K W r g) : ∀ σ H Q, tE X.K W (eBin g ra rb) σ H Q → tOp r (tE X.K W ra) (tE X.K W rb) σ H Q := fun σ H Q ⟨env, m, mu, hE, hR, hp⟩ =>
  ⟨env, m, mu, hE, hR, (Post.bind hp).mono fun x m1 mu1 H1 g1 R1 hp1 v rv => ⟨env, m1, mu1, hE.grow g1, R1, (Post.bind hp1).mono fun y m2 mu2 H2 g2 R2 hp2 w rw' => o.go x y v w m2 mu2 H2 Q R2 (Rep.grow g2 x v rv) rw' hp2⟩⟩
theorem me_bin {op : Operator} {r : R2} {g : D → D → M D} {ra rb : Env → M D} (ho : OpR X (binaryOp op) r) (o : OpM X.K W r g) (ha : ME X W a ra) (hb : ME X W b rb) : ME X W (.BinOp a op b pos) (eBin g ra rb) :=
  ⟨(pe_op ho ha.pe hb.pe).imp (tE_bin o)⟩
theorem me_cmp {op : CmpOp} {r : R2} {g : D → D → M D} {ra rb : Env → M D} (ho : OpR X (compareOp op) r) (o : OpM X.K W r g) (ha : ME X W a ra) (hb : ME X W b rb) (hm : behindInMarks op b = false) : ME X W (.Compare a [op] [b] pos) (eBin g ra rb) :=
  ⟨(pe_cmpR ho ha.pe hb.pe hm).imp (tE_bin o)⟩
def asB : D → M Bool
  | .bl b => pure b
  | _ => bad
def eB (r : Env → M D) : Env → M Bool := fun env => r env >>= asB
theorem tT_of {r : Env → M D} {t : TE} (h : ∀ σ H Q, tE X.K W r σ H Q → t σ H Q) : ∀ σ H Q, tT X.K W (eB r) σ H Q → t σ H (fun x H' => ∃ k, x = .bl k ∧ Q k H') := fun σ H Q ⟨env, m, mu, hE, hR, hp⟩ =>
  h σ H _ ⟨env, m, mu, hE, hR, (Post.bind hp).mono fun x m1 mu1 H1 g1 R1 hp1 v rv => by
    cases x with
    | bl b =>
      simp only [Rep] at rv
      exact ⟨b, rv, Post.pure hp1 R1⟩
    | _ => exact hp1.elim⟩
theorem mt_cmp {op : CmpOp} {r : R2} {g : D → D → M D} {ra rb : Env → M D} (ho : OpR X (compareOp op) r) (o : OpM X.K W r g) (ha : ME X W a ra) (hb : ME X W b rb) (hm : behindInMarks op b = false) : MT X W (.Compare a [op] [b] pos) (eB (eBin g ra rb)) :=
  ⟨(pt_cmpR ho ha.pe hb.pe hm).imp (tT_of (tE_bin o))⟩
/-- any expression that gives True or False -/
theorem mt_val {r : Env → M D} (h : ME X W e r) (he : ∀ whole, isTrue e X.env whole = (do let v ← whole; standAt e.pos; holding [v] (truthy v)) := by intro _; rfl) : MT X W e (eB r) :=
  ⟨(pt_val h.pe he).imp (tT_of fun _ _ _ q => q)⟩
end
end MP
namespace MP
open PySem L2 PyProof.Rows

def b2n (b : Bool) : Int := if b = true then 1 else 0
mutual
/-- == of data -/
def eqD : D → D → Bool
  | .non, .non => true
  | .bl a, .bl b => a == b
  | .bl a, .int j => b2n a == j
  | .int i, .bl b => i == b2n b
  | .int i, .int j => i == j
  | .str x, .str y => x == y
  | .tup xs, .tup ys => eqDs xs ys
  | .fl xs, .fl ys => eqDs xs ys
  | .fl xs, .ro ys => eqDs xs ys
  | .ro xs, .fl ys => eqDs xs ys
  | .ro xs, .ro ys => eqDs xs ys
  | _, _ => false
def eqDs : List D → List D → Bool
  | [], [] => true
  | x :: xs, y :: ys => eqD x y && eqDs xs ys
  | _, _ => false
end
mutual
/-- == is served -/
def okE : D → Bool
  | .ref _ => false
  | .fd _ _ => false
  | .tup xs => okEs xs
  | .fl xs => okEs xs
  | .ro xs => okEs xs
  | _ => true
def okEs : List D → Bool
  | [] => true
  | x :: xs => okE x && okEs xs
end
mutual
def dep : D → Nat
  | .tup xs => deps xs + 1
  | .fl xs => deps xs + 1
  | .ro xs => deps xs + 1
  | _ => 0
def deps : List D → Nat
  | [] => 0
  | x :: xs => max (dep x) (deps xs)
end
theorem eqDs_range : ∀ (xs ys : List D), (((List.range (min xs.length ys.length)).all fun j => eqD (xs.getD j .non) (ys.getD j .non)) && xs.length == ys.length) = eqDs xs ys
  | [], [] => by simp [eqDs]
  | [], _ :: _ => by simp [eqDs]
  | _ :: _, [] => by simp [eqDs]
  | x :: xs, y :: ys => by
    have ih := eqDs_range xs ys
    rw [List.length_cons, List.length_cons, Nat.succ_min_succ, List.range_succ_eq_map, List.all_cons, List.all_map]
    rw [show eqDs (x :: xs) (y :: ys) = (eqD x y && eqDs xs ys) from by simp only [eqDs], ← ih, Bool.and_assoc]
    congr 2
    rw [Bool.eq_iff_iff]; simp
theorem eqDs_len : ∀ {xs ys : List D}, xs.length ≠ ys.length → eqDs xs ys = false
  | [], [], h => absurd rfl h
  | [], _ :: _, _ => by simp only [eqDs]
  | _ :: _, [], _ => by simp only [eqDs]
  | x :: xs, y :: ys, h => by
    simp only [eqDs]
    rw [eqDs_len (xs := xs) (ys := ys) (fun z => h (by rw [List.length_cons, List.length_cons, z])), Bool.and_false]
theorem eqDs_all {xs ys : List D} (h : xs.length = ys.length) : ((List.range xs.length).all fun j => eqD (xs.getD j .non) (ys.getD j .non)) = eqDs xs ys := by
  rw [← eqDs_range, h, Nat.min_self]
  simp
theorem okEs_get : ∀ {xs : List D} {j : Nat} {d : D}, okEs xs = true → xs[j]? = some d → okE d = true
  | [], _, _, _, e => by simp at e
  | x :: xs, 0, d, h, e => by simp only [okEs, Bool.and_eq_true] at h; simp at e; rw [← e]; exact h.1
  | x :: xs, j + 1, d, h, e => by simp only [okEs, Bool.and_eq_true] at h; exact okEs_get h.2 (by simpa using e)
theorem deps_get : ∀ {xs : List D} {j : Nat} {d : D}, xs[j]? = some d → dep d ≤ deps xs
  | [], _, _, e => by simp at e
  | x :: xs, 0, d, e => by simp at e; rw [← e]; simp only [deps]; exact Nat.le_max_left _ _
  | x :: xs, j + 1, d, e => by simp only [deps]; exact Nat.le_trans (deps_get (xs := xs) (j := j) (by simpa using e)) (Nat.le_max_right _ _)

section
variable {X : Cx} {pins : List (Addr × Obj)} {σ : L2.St} {H : Hp} {s : Shared} {m : Mp}
theorem Inv.list_not_tuple (I : Inv X pins σ H s) {a : Addr} {xs ys : List V} (h : SqL X.K H a xs) (h' : SqT X.K H a ys) : False := by
  obtain ⟨its, r, pl, _⟩ := I.list h
  obtain ⟨its', r', pt, _⟩ := I.tuple h'
  exact SeqAt.ne_of_list_tuple pl.isList (show s.heap.IsTuple a its'.toArray from pt) rfl
mutual
/-- one value's data are equal -/
theorem rep_same (I : Inv X pins σ H s) : ∀ (d e : D) (v : V), Rep X.K m H d v → Rep X.K m H e v → okE d = true → okE e = true → eqD d e = true
  | .non, e, v, h, h', _, ok => by
    simp only [Rep] at h; subst h
    cases e <;> simp only [Rep] at h' <;> first | (simp only [eqD]; done) | (cases h' <;> done) | (obtain ⟨_, _, z, _⟩ := h'; cases z; done) | (obtain ⟨_, z, _⟩ := h'; cases z; done) | (cases h'; simp [eqD]; done)
  | .bl b, e, v, h, h', _, ok => by
    simp only [Rep] at h; subst h
    cases e <;> simp only [Rep] at h' <;> first | (simp only [eqD]; done) | (cases h' <;> done) | (obtain ⟨_, _, z, _⟩ := h'; cases z; done) | (obtain ⟨_, z, _⟩ := h'; cases z; done) | (cases h'; simp [eqD]; done)
  | .int i, e, v, h, h', _, ok => by
    simp only [Rep] at h; subst h
    cases e <;> simp only [Rep] at h' <;> first | (simp only [eqD]; done) | (cases h' <;> done) | (obtain ⟨_, _, z, _⟩ := h'; cases z; done) | (obtain ⟨_, z, _⟩ := h'; cases z; done) | (cases h'; simp [eqD]; done)
  | .str x, e, v, h, h', _, ok => by
    simp only [Rep] at h; subst h
    cases e <;> simp only [Rep] at h' <;> first | (simp only [eqD]; done) | (cases h' <;> done) | (obtain ⟨_, _, z, _⟩ := h'; cases z; done) | (obtain ⟨_, z, _⟩ := h'; cases z; done) | (cases h'; simp [eqD]; done)
  | .tup ds, e, v, h, h', ok, ok' => by
    simp only [Rep] at h
    obtain ⟨a, vs, rfl, hs, hr⟩ := h
    cases e <;> simp only [Rep] at h'
    case tup es =>
      obtain ⟨b, ws, eb, hs', hr'⟩ := h'
      cases eb
      rw [I.tuple_inj hs' hs] at hr'
      simp only [eqD]
      exact reps_same I ds es vs hr hr' (by simpa [okE] using ok) (by simpa [okE] using ok')
    case fl es =>
      obtain ⟨b, ws, eb, hs', _⟩ := h'
      cases eb
      exact (Inv.list_not_tuple I (.of hs') hs).elim
    case ro es =>
      obtain ⟨b, ws, eb, hs', _⟩ := h'
      cases eb
      exact (Inv.list_not_tuple I hs'.sqL hs).elim
    all_goals first | (cases h' <;> done) | (simp [okE] at ok'; done)
  | .fl ds, e, v, h, h', ok, ok' => by
    simp only [Rep] at h
    obtain ⟨a, vs, rfl, hs, hn, hr⟩ := h
    cases e <;> simp only [Rep] at h'
    case tup es =>
      obtain ⟨b, ws, eb, hs', hr'⟩ := h'
      cases eb
      exact (Inv.list_not_tuple I (.of hs) hs').elim
    case fl es =>
      obtain ⟨b, ws, eb, hs', _, hr'⟩ := h'
      cases eb
      rw [I.list_inj (.of hs') (.of hs)] at hr'
      simp only [eqD]
      exact reps_same I ds es vs hr hr' (by simpa [okE] using ok) (by simpa [okE] using ok')
    case ro es =>
      obtain ⟨b, ws, eb, hs', hr'⟩ := h'
      cases eb
      rw [I.list_inj hs'.sqL (.of hs)] at hr'
      simp only [eqD]
      exact reps_same I ds es vs hr hr' (by simpa [okE] using ok) (by simpa [okE] using ok')
    all_goals first | (cases h' <;> done) | (simp [okE] at ok'; done)
  | .ro ds, e, v, h, h', ok, ok' => by
    simp only [Rep] at h
    obtain ⟨a, vs, rfl, hs, hr⟩ := h
    cases e <;> simp only [Rep] at h'
    case tup es =>
      obtain ⟨b, ws, eb, hs', hr'⟩ := h'
      cases eb
      exact (Inv.list_not_tuple I hs.sqL hs').elim
    case fl es =>
      obtain ⟨b, ws, eb, hs', _, hr'⟩ := h'
      cases eb
      rw [I.list_inj (.of hs') hs.sqL] at hr'
      simp only [eqD]
      exact reps_same I ds es vs hr hr' (by simpa [okE] using ok) (by simpa [okE] using ok')
    case ro es =>
      obtain ⟨b, ws, eb, hs', hr'⟩ := h'
      cases eb
      rw [I.list_inj hs'.sqL hs.sqL] at hr'
      simp only [eqD]
      exact reps_same I ds es vs hr hr' (by simpa [okE] using ok) (by simpa [okE] using ok')
    all_goals first | (cases h' <;> done) | (simp [okE] at ok'; done)
  | .fd _ _, _, _, _, _, ok, _ => by simp [okE] at ok
  | .ref _, _, _, _, _, ok, _ => by simp [okE] at ok
theorem reps_same (I : Inv X pins σ H s) : ∀ (ds es : List D) (vs : List V), Reps X.K m H ds vs → Reps X.K m H es vs → okEs ds = true → okEs es = true → eqDs ds es = true
  | [], es, vs, h, h', _, _ => by
    rw [Reps.nil_iff] at h; subst h
    cases es with
    | nil => simp only [eqDs]
    | cons e es => obtain ⟨_, _, z, _⟩ := Reps.cons_iff.mp h'; cases z
  | d :: ds, es, vs, h, h', ok, ok' => by
    obtain ⟨v, r, rfl, h1, h2⟩ := Reps.cons_iff.mp h
    cases es with
    | nil => rw [Reps.nil_iff] at h'; cases h'
    | cons e es =>
      obtain ⟨v', r', z, h1', h2'⟩ := Reps.cons_iff.mp h'
      cases z
      simp only [okEs, Bool.and_eq_true] at ok ok'
      simp only [eqDs, Bool.and_eq_true]
      exact ⟨rep_same I d e _ h1 h1' ok.1 ok'.1, reps_same I ds es _ h2 h2' ok.2 ok'.2⟩
end
end
end MP
namespace MP
open PySem L2 PyProof.Rows
open PySem.SeqAt (EqAt RcAt)
theorem in1_units (A : Around) : A.in1.units = A.units + 1 := rfl
section
variable {X : Cx} {pins : List (Addr × Obj)} {σ : L2.St} {H : Hp} {s : Shared} {m : Mp}
theorem vals_at {vs : List V} {its : List Value} (r : Vals vs its) {j : Nat} (h : j < its.toArray.size) : ∃ v, vs[j]? = some v ∧ RelV v (its.toArray[j]) := by
  have hj : j < its.length := by simpa using h
  have hl := r.length
  have e : vs[j]? = some vs[j] := List.getElem?_eq_getElem (by omega)
  obtain ⟨u, hu, ru⟩ := r.get e
  refine ⟨_, e, ?_⟩
  rw [List.getElem?_eq_getElem hj] at hu
  cases hu
  simpa using ru
theorem getD_at {ds : List D} {j : Nat} {d : D} (h : ds[j]? = some d) : ds.getD j .non = d := by rw [List.getD_eq_getElem?_getD, h]; rfl
theorem Reps.at {K : PySem.W.Frag} {ds : List D} {vs : List V} (r : Reps K m H ds vs) {j : Nat} {v : V} (h : vs[j]? = some v) : ∃ d, ds[j]? = some d ∧ Rep K m H d v := by
  have hj : j < ds.length := by rw [r.length]; exact (List.getElem?_eq_some_iff.mp h).1
  obtain ⟨w, hw, q⟩ := r.get (List.getElem?_eq_getElem hj)
  rw [h] at hw; cases hw
  exact ⟨_, List.getElem?_eq_getElem hj, q⟩
/-- items by items, then the lists -/
theorem eq_lists {a b : Addr} {ds es : List D} {vs ws : List V} {A : Around} (I : Inv X pins σ H s) (ha : SqL X.K H a vs) (hb : SqL X.K H b ws) (ra : Reps X.K m H ds vs) (rb : Reps X.K m H es ws) (ok : okEs ds = true) (ok' : okEs es = true) (hu : A.units + (deps ds + 1) < cLine)
    (ih : ∀ (j : Nat) d e v w u u', ds[j]? = some d → es[j]? = some e → Rep X.K m H d v → Rep X.K m H e w → RelV v u → RelV w u' → EqAt A.in1 s u u' (eqD d e)) :
    RcAt A s (.ref a) (.ref b) (eqDs ds es) ∧ EqAt A s (.ref a) (.ref b) (eqDs ds es) := by
  obtain ⟨its, r, pl, _⟩ := I.list ha
  obtain ⟨its', r', pl', _⟩ := I.list hb
  have h1 := ra.length
  have h2 := rb.length
  have h3 := r.length
  have h4 := r'.length
  have rc : RcAt A s (.ref a) (.ref b) (eqDs ds es) := by
    by_cases hsz : its.toArray.size = its'.toArray.size
    · have hl : ds.length = es.length := by simp only [List.size_toArray] at hsz; omega
      rw [← eqDs_all hl]
      have q := RcAt.lists (A := A) (e := fun j => eqD (ds.getD j .non) (es.getD j .non)) pl.isList pl'.isList hsz (by omega) fun j j1 j2 => by
        obtain ⟨v, hv, rv⟩ := vals_at r j1
        obtain ⟨w, hw, rw'⟩ := vals_at r' j2
        obtain ⟨d, hd, qd⟩ := ra.at hv
        obtain ⟨e, he, qe⟩ := rb.at hw
        show EqAt A.in1 s _ _ (eqD (ds.getD j .non) (es.getD j .non))
        rw [getD_at hd, getD_at he]
        exact ih j d e v w _ _ hd he qd qe rv rw'
      rw [show ds.length = its.toArray.size by simp only [List.size_toArray]; omega]
      exact q
    · rw [eqDs_len (by simp only [List.size_toArray] at hsz; omega)]
      exact RcAt.lists_lengths pl.isList pl'.isList (by simpa using hsz) (by omega)
  refine ⟨rc, ?_⟩
  by_cases z : a = b
  · subst z
    rw [I.list_inj hb ha] at rb
    rw [reps_same I ds es vs ra rb ok ok']
    exact EqAt.same _
  · exact EqAt.of_refs z rc
theorem eq_tuples {a b : Addr} {ds es : List D} {vs ws : List V} {A : Around} (I : Inv X pins σ H s) (ha : SqT X.K H a vs) (hb : SqT X.K H b ws) (ra : Reps X.K m H ds vs) (rb : Reps X.K m H es ws) (ok : okEs ds = true) (ok' : okEs es = true) (hu : A.units + (deps ds + 1) < cLine)
    (ih : ∀ (j : Nat) d e v w u u', ds[j]? = some d → es[j]? = some e → Rep X.K m H d v → Rep X.K m H e w → RelV v u → RelV w u' → EqAt A.in1 s u u' (eqD d e)) :
    RcAt A s (.ref a) (.ref b) (eqDs ds es) ∧ EqAt A s (.ref a) (.ref b) (eqDs ds es) := by
  obtain ⟨its, r, pl, _⟩ := I.tuple ha
  obtain ⟨its', r', pl', _⟩ := I.tuple hb
  have h1 := ra.length
  have h2 := rb.length
  have h3 := r.length
  have h4 := r'.length
  have rc : RcAt A s (.ref a) (.ref b) (eqDs ds es) := by
    rw [← eqDs_range]
    have q := RcAt.tuples (A := A) (e := fun j => eqD (ds.getD j .non) (es.getD j .non)) (show s.heap.IsTuple a its.toArray from pl) (show s.heap.IsTuple b its'.toArray from pl') (by omega) fun j j1 j2 => by
      obtain ⟨v, hv, rv⟩ := vals_at r j1
      obtain ⟨w, hw, rw'⟩ := vals_at r' j2
      obtain ⟨d, hd, qd⟩ := ra.at hv
      obtain ⟨e, he, qe⟩ := rb.at hw
      show EqAt A.in1 s _ _ (eqD (ds.getD j .non) (es.getD j .non))
      rw [getD_at hd, getD_at he]
      exact ih j d e v w _ _ hd he qd qe rv rw'
    have e1 : its.toArray.size = ds.length := by simp only [List.size_toArray]; omega
    have e2 : its'.toArray.size = es.length := by simp only [List.size_toArray]; omega
    rw [e1, e2] at q
    exact q
  refine ⟨rc, ?_⟩
  by_cases z : a = b
  · subst z
    rw [I.tuple_inj hb ha] at rb
    rw [reps_same I ds es vs ra rb ok ok']
    exact EqAt.same _
  · exact EqAt.of_refs z rc
theorem list_at (I : Inv X pins σ H s) {a : Addr} {vs : List V} (h : SqL X.K H a vs) : ∃ its, s.heap.IsList a its := by
  obtain ⟨its, _, pl, _⟩ := I.list h
  exact ⟨_, pl.isList⟩
theorem tuple_at (I : Inv X pins σ H s) {a : Addr} {vs : List V} (h : SqT X.K H a vs) : ∃ its, s.heap.IsTuple a its := by
  obtain ⟨its, _, pl, _⟩ := I.tuple h
  exact ⟨its.toArray, pl⟩
/-- what a datum is, for == -/
inductive Kd (K : PySem.W.Frag) (m : Mp) (H : Hp) : D → Value → Prop where
  | non : Kd K m H .non .none
  | bl (b : Bool) : Kd K m H (.bl b) (.bool b)
  | int (i : Int) (t : Tok) : Kd K m H (.int i) (.int i t)
  | str (x : Str) (t : Tok) : Kd K m H (.str x) (.str x t)
  | tup {ds : List D} {a : Addr} {vs : List V} : SqT K H a vs → Reps K m H ds vs → Kd K m H (.tup ds) (.ref a)
  | fl {ds : List D} {a : Addr} {vs : List V} : SqL K H a vs → Reps K m H ds vs → Kd K m H (.fl ds) (.ref a)
  | ro {ds : List D} {a : Addr} {vs : List V} : SqL K H a vs → Reps K m H ds vs → Kd K m H (.ro ds) (.ref a)
theorem kd_of {K : PySem.W.Frag} {d : D} {v : V} {u : Value} (h : Rep K m H d v) (r : RelV v u) (ok : okE d = true) : Kd K m H d u := by
  cases d <;> simp only [Rep] at h
  case non => subst h; cases r; exact .non
  case bl b => subst h; cases r; exact .bl b
  case int i => subst h; obtain ⟨t, rfl⟩ := r; exact .int i t
  case str x => subst h; obtain ⟨t, rfl⟩ := r; exact .str x t
  case tup ds => obtain ⟨a, vs, rfl, hs, hr⟩ := h; cases r; exact .tup hs hr
  case fl ds => obtain ⟨a, vs, rfl, hs, _, hr⟩ := h; cases r; exact .fl (.of hs) hr
  case ro ds => obtain ⟨a, vs, rfl, hs, hr⟩ := h; cases r; exact .ro hs.sqL hr
  all_goals simp [okE] at ok
mutual
theorem eq_at (I : Inv X pins σ H s) : ∀ (d e : D) (u u' : Value) (A : Around), Kd X.K m H d u → Kd X.K m H e u' → okE d = true → okE e = true → A.units + dep d < cLine → RcAt A s u u' (eqD d e) ∧ EqAt A s u u' (eqD d e)
  | .non, e, u, u', A, h, h', ok, ok', hu => by
    cases h
    cases h' <;> simp only [eqD, dep, Nat.add_zero] at hu ⊢
    case non => exact ⟨RcAt.none_none, EqAt.same _⟩
    case bl b => exact ⟨RcAt.none_bool _, EqAt.none_bool _⟩
    case int i t => exact ⟨RcAt.none_int _ _, EqAt.none_int _ _⟩
    case str x t => exact ⟨RcAt.none_str _ _, EqAt.none_str _ _⟩
    case tup hs hr => obtain ⟨_, p⟩ := tuple_at I hs; exact ⟨RcAt.none_tuple p hu, EqAt.none_tuple p hu⟩
    case fl hs hr => obtain ⟨_, p⟩ := list_at I hs; exact ⟨RcAt.none_list p hu, EqAt.none_list p hu⟩
    case ro hs hr => obtain ⟨_, p⟩ := list_at I hs; exact ⟨RcAt.none_list p hu, EqAt.none_list p hu⟩
  | .bl b, e, u, u', A, h, h', ok, ok', hu => by
    cases h
    cases h' <;> simp only [eqD, dep, Nat.add_zero] at hu ⊢
    case non => exact ⟨RcAt.bool_none _, EqAt.bool_none _⟩
    case bl b => exact ⟨RcAt.bool_bool _ _, EqAt.bool_bool _ _⟩
    case int i t => exact ⟨RcAt.bool_int _ _ _, EqAt.bool_int _ _ _⟩
    case str x t => exact ⟨RcAt.bool_str _ _ _, EqAt.bool_str _ _ _⟩
    case tup hs hr => obtain ⟨_, p⟩ := tuple_at I hs; exact ⟨RcAt.bool_tuple _ p hu, EqAt.bool_tuple _ p hu⟩
    case fl hs hr => obtain ⟨_, p⟩ := list_at I hs; exact ⟨RcAt.bool_list _ p hu, EqAt.bool_list _ p hu⟩
    case ro hs hr => obtain ⟨_, p⟩ := list_at I hs; exact ⟨RcAt.bool_list _ p hu, EqAt.bool_list _ p hu⟩
  | .int i, e, u, u', A, h, h', ok, ok', hu => by
    cases h
    cases h' <;> simp only [eqD, dep, Nat.add_zero] at hu ⊢
    case non => exact ⟨RcAt.int_none _ _, EqAt.int_none _ _⟩
    case bl b => exact ⟨RcAt.int_bool _ _ _, EqAt.int_bool _ _ _⟩
    case int i t => exact ⟨RcAt.int_int _ _ _ _, EqAt.int_int _ _ _ _⟩
    case str x t => exact ⟨RcAt.int_str _ _ _ _, EqAt.int_str _ _ _ _⟩
    case tup hs hr => obtain ⟨_, p⟩ := tuple_at I hs; exact ⟨RcAt.int_tuple _ _ p hu, EqAt.int_tuple _ _ p hu⟩
    case fl hs hr => obtain ⟨_, p⟩ := list_at I hs; exact ⟨RcAt.int_list _ _ p hu, EqAt.int_list _ _ p hu⟩
    case ro hs hr => obtain ⟨_, p⟩ := list_at I hs; exact ⟨RcAt.int_list _ _ p hu, EqAt.int_list _ _ p hu⟩
  | .str x, e, u, u', A, h, h', ok, ok', hu => by
    cases h
    cases h' <;> simp only [eqD, dep, Nat.add_zero] at hu ⊢
    case non => exact ⟨RcAt.str_none _ _, EqAt.str_none _ _⟩
    case bl b => exact ⟨RcAt.str_bool _ _ _, EqAt.str_bool _ _ _⟩
    case int i t => exact ⟨RcAt.str_int _ _ _ _, EqAt.str_int _ _ _ _⟩
    case str x t => exact ⟨RcAt.str_str _ _ _ _, EqAt.str_str _ _ _ _⟩
    case tup hs hr => obtain ⟨_, p⟩ := tuple_at I hs; exact ⟨RcAt.str_tuple _ _ p hu, EqAt.str_tuple _ _ p hu⟩
    case fl hs hr => obtain ⟨_, p⟩ := list_at I hs; exact ⟨RcAt.str_list _ _ p hu, EqAt.str_list _ _ p hu⟩
    case ro hs hr => obtain ⟨_, p⟩ := list_at I hs; exact ⟨RcAt.str_list _ _ p hu, EqAt.str_list _ _ p hu⟩
  | .tup ds, e, u, u', A, h, h', ok, ok', hu => by
    cases h with
    | tup hs hr =>
    have hu0 : A.units < cLine := by omega
    cases h' <;> simp only [eqD]
    case non => obtain ⟨_, p⟩ := tuple_at I hs; exact ⟨RcAt.tuple_none p hu0, EqAt.tuple_none p hu0⟩
    case bl b => obtain ⟨_, p⟩ := tuple_at I hs; exact ⟨RcAt.tuple_bool _ p hu0, EqAt.tuple_bool _ p hu0⟩
    case int i t => obtain ⟨_, p⟩ := tuple_at I hs; exact ⟨RcAt.tuple_int _ _ p hu0, EqAt.tuple_int _ _ p hu0⟩
    case str x t => obtain ⟨_, p⟩ := tuple_at I hs; exact ⟨RcAt.tuple_str _ _ p hu0, EqAt.tuple_str _ _ p hu0⟩
    case tup es b ws hs' hr' =>
      simp only [okE] at ok ok'
      simp only [dep] at hu
      exact eq_tuples I hs hs' hr hr' ok ok' hu fun j d e v w u u' hd he qd qe rv rw' => (eq_ats I ds j d hd e u u' A.in1 (kd_of qd rv (okEs_get ok hd)) (kd_of qe rw' (okEs_get ok' he)) ok (okEs_get ok' he) (by rw [in1_units]; omega))
    case fl es b ws hs' hr' => obtain ⟨_, p⟩ := tuple_at I hs; obtain ⟨_, p'⟩ := list_at I hs'; exact ⟨RcAt.tuple_list p p' hu0, EqAt.tuple_list p p' hu0⟩
    case ro es b ws hs' hr' => obtain ⟨_, p⟩ := tuple_at I hs; obtain ⟨_, p'⟩ := list_at I hs'; exact ⟨RcAt.tuple_list p p' hu0, EqAt.tuple_list p p' hu0⟩
  | .fl ds, e, u, u', A, h, h', ok, ok', hu => by
    cases h with
    | fl hs hr =>
    have hu0 : A.units < cLine := by omega
    simp only [dep] at hu
    cases h' <;> simp only [eqD]
    case non => obtain ⟨_, p⟩ := list_at I hs; exact ⟨RcAt.list_none p hu0, EqAt.list_none p hu0⟩
    case bl b => obtain ⟨_, p⟩ := list_at I hs; exact ⟨RcAt.list_bool _ p hu0, EqAt.list_bool _ p hu0⟩
    case int i t => obtain ⟨_, p⟩ := list_at I hs; exact ⟨RcAt.list_int _ _ p hu0, EqAt.list_int _ _ p hu0⟩
    case str x t => obtain ⟨_, p⟩ := list_at I hs; exact ⟨RcAt.list_str _ _ p hu0, EqAt.list_str _ _ p hu0⟩
    case tup es b ws hs' hr' => obtain ⟨_, p⟩ := list_at I hs; obtain ⟨_, p'⟩ := tuple_at I hs'; exact ⟨RcAt.list_tuple p p' hu0, EqAt.list_tuple p p' hu0⟩
    case fl es b ws hs' hr' =>
      simp only [okE] at ok ok'
      exact eq_lists I hs hs' hr hr' ok ok' hu fun j d e v w u u' hd he qd qe rv rw' => (eq_ats I ds j d hd e u u' A.in1 (kd_of qd rv (okEs_get ok hd)) (kd_of qe rw' (okEs_get ok' he)) ok (okEs_get ok' he) (by rw [in1_units]; omega))
    case ro es b ws hs' hr' =>
      simp only [okE] at ok ok'
      exact eq_lists I hs hs' hr hr' ok ok' hu fun j d e v w u u' hd he qd qe rv rw' => (eq_ats I ds j d hd e u u' A.in1 (kd_of qd rv (okEs_get ok hd)) (kd_of qe rw' (okEs_get ok' he)) ok (okEs_get ok' he) (by rw [in1_units]; omega))
  | .ro ds, e, u, u', A, h, h', ok, ok', hu => by
    cases h with
    | ro hs hr =>
    have hu0 : A.units < cLine := by omega
    simp only [dep] at hu
    cases h' <;> simp only [eqD]
    case non => obtain ⟨_, p⟩ := list_at I hs; exact ⟨RcAt.list_none p hu0, EqAt.list_none p hu0⟩
    case bl b => obtain ⟨_, p⟩ := list_at I hs; exact ⟨RcAt.list_bool _ p hu0, EqAt.list_bool _ p hu0⟩
    case int i t => obtain ⟨_, p⟩ := list_at I hs; exact ⟨RcAt.list_int _ _ p hu0, EqAt.list_int _ _ p hu0⟩
    case str x t => obtain ⟨_, p⟩ := list_at I hs; exact ⟨RcAt.list_str _ _ p hu0, EqAt.list_str _ _ p hu0⟩
    case tup es b ws hs' hr' => obtain ⟨_, p⟩ := list_at I hs; obtain ⟨_, p'⟩ := tuple_at I hs'; exact ⟨RcAt.list_tuple p p' hu0, EqAt.list_tuple p p' hu0⟩
    case fl es b ws hs' hr' =>
      simp only [okE] at ok ok'
      exact eq_lists I hs hs' hr hr' ok ok' hu fun j d e v w u u' hd he qd qe rv rw' => (eq_ats I ds j d hd e u u' A.in1 (kd_of qd rv (okEs_get ok hd)) (kd_of qe rw' (okEs_get ok' he)) ok (okEs_get ok' he) (by rw [in1_units]; omega))
    case ro es b ws hs' hr' =>
      simp only [okE] at ok ok'
      exact eq_lists I hs hs' hr hr' ok ok' hu fun j d e v w u u' hd he qd qe rv rw' => (eq_ats I ds j d hd e u u' A.in1 (kd_of qd rv (okEs_get ok hd)) (kd_of qe rw' (okEs_get ok' he)) ok (okEs_get ok' he) (by rw [in1_units]; omega))
  | .fd _ _, _, _, _, _, _, _, ok, _, _ => by simp [okE] at ok
  | .ref _, _, _, _, _, _, _, ok, _, _ => by simp [okE] at ok
theorem eq_ats (I : Inv X pins σ H s) : ∀ (ds : List D) (j : Nat) (d : D), ds[j]? = some d → ∀ (e : D) (u u' : Value) (A : Around), Kd X.K m H d u → Kd X.K m H e u' → okEs ds = true → okE e = true → A.units + deps ds < cLine → EqAt A s u u' (eqD d e)
  | [], _, _, h => by simp at h
  | x :: xs, 0, d, h => fun e u u' A k k' ok ok' hu => by
    simp only [okEs, Bool.and_eq_true] at ok
    simp only [deps] at hu
    have : x = d := by simpa using h
    subst this
    exact (eq_at I x e u u' A k k' ok.1 ok' (by have := Nat.le_max_left (dep x) (deps xs); omega)).2
  | x :: xs, j + 1, d, h => fun e u u' A k k' ok ok' hu => by
    simp only [okEs, Bool.and_eq_true] at ok
    simp only [deps] at hu
    exact eq_ats I xs j d (by simpa using h) e u u' A k k' ok.2 ok' (by have := Nat.le_max_right (dep x) (deps xs); omega)
end
end
end MP
namespace MP
open PySem L2 PyProof.Rows

/-- the list at a place -/
def atL (mu : List MO) (n : Nat) : R (List D) := match mu[n]? with
  | some (.lst xs) => .ok xs mu
  | _ => .bad
theorem atL_lst {mu : List MO} {n : Nat} {xs : List D} (h : mu[n]? = some (.lst xs)) : atL mu n = .ok xs mu := by unfold atL; rw [h]
theorem atL_dk {mu : List MO} {n : Nat} {kvs : List (Key × D)} (h : mu[n]? = some (.dk kvs)) : atL mu n = .bad := by unfold atL; rw [h]
/-- the items of a list, as it stands -/
def rdL : D → M (List D)
  | .fl xs => pure xs
  | .ro xs => pure xs
  | .ref n => fun mu => atL mu n
  | _ => bad
/-- of a list that is not locked -/
def rdM : D → M (List D)
  | .fl xs => pure xs
  | .ref n => fun mu => atL mu n
  | _ => bad
section
variable {K : PySem.W.Frag} {W : Wx} {m m' : Mp} {H H' : Hp} {mu : List MO}
theorem rdL_ok {d : D} {v : V} {Q : List D → Mp → List MO → Hp → Prop} (rl : Rel K m mu H) (h : Rep K m H d v) (hp : Post K W m H (rdL d mu) Q) : ∃ a xs vs, v = .ref a ∧ SqL K H a vs ∧ Reps K m H xs vs ∧ rdL d mu = .ok xs mu ∧ Q xs m mu H := by
  cases d <;> simp only [Rep] at h
  case fl ds => obtain ⟨a, vs, rfl, hs, _, hr⟩ := h; exact ⟨a, ds, vs, rfl, .of hs, hr, rfl, hp m H .refl rl⟩
  case ro ds => obtain ⟨a, vs, rfl, hs, hr⟩ := h; exact ⟨a, ds, vs, rfl, hs.sqL, hr, rfl, hp m H .refl rl⟩
  case ref n =>
    obtain ⟨a, rfl, hm⟩ := h
    obtain ⟨o, ho, hr⟩ := rl.at' hm
    cases o with
    | lst xs =>
      obtain ⟨vs, hH, hr⟩ := hr
      have e : rdL (.ref n) mu = .ok xs mu := atL_lst ho
      rw [e] at hp
      exact ⟨a, xs, vs, rfl, .of hH, hr, e, hp m H .refl rl⟩
    | dk kvs =>
      have e : rdL (.ref n) mu = .bad := atL_dk ho
      rw [e] at hp
      exact hp.elim
  all_goals exact (show False from hp).elim
theorem rdM_ok {d : D} {v : V} {Q : List D → Mp → List MO → Hp → Prop} (rl : Rel K m mu H) (h : Rep K m H d v) (hp : Post K W m H (rdM d mu) Q) : ∃ a xs vs, v = .ref a ∧ H a = some (.lst vs) ∧ Reps K m H xs vs ∧ rdM d mu = .ok xs mu ∧ Q xs m mu H := by
  cases d <;> simp only [Rep] at h
  case fl ds => obtain ⟨a, vs, rfl, hs, _, hr⟩ := h; exact ⟨a, ds, vs, rfl, hs, hr, rfl, hp m H .refl rl⟩
  case ref n =>
    obtain ⟨a, rfl, hm⟩ := h
    obtain ⟨o, ho, hr⟩ := rl.at' hm
    cases o with
    | lst xs =>
      obtain ⟨vs, hH, hr⟩ := hr
      have e : rdM (.ref n) mu = .ok xs mu := atL_lst ho
      rw [e] at hp
      exact ⟨a, xs, vs, rfl, hH, hr, e, hp m H .refl rl⟩
    | dk kvs =>
      have e : rdM (.ref n) mu = .bad := atL_dk ho
      rw [e] at hp
      exact hp.elim
  all_goals exact (show False from hp).elim
theorem Post.ok_of {α : Type} {a : α} {r : R α} {Q : α → Mp → List MO → Hp → Prop} {mu' : List MO} (e : r = .ok a mu') (hp : Post K W m H r Q) (rl : Rel K m mu' H) : Q a m mu' H := by
  rw [e] at hp; exact hp m H .refl rl
/-- a new list outside of the small heap -/
theorem new_fl {ds : List D} {vs : List V} {p : Addr} (rl : Rel K m mu H) (hr : Reps K m H ds vs) (hp : H p = none) : Grow m m H (upd H p (.lst vs)) ∧ Rel K m mu (upd H p (.lst vs)) ∧ Rep K m (upd H p (.lst vs)) (.fl ds) (.ref p) := by
  have g : Grow m m H (upd H p (.lst vs)) := .laid hp
  exact ⟨g, rl.laid hp, by simp only [Rep]; exact ⟨p, vs, rfl, upd_same, rl.free hp, Reps.grow g ds vs hr⟩⟩
theorem new_tup {ds : List D} {vs : List V} {p : Addr} (rl : Rel K m mu H) (hr : Reps K m H ds vs) (hp : H p = none) : Grow m m H (upd H p (.tup vs)) ∧ Rel K m mu (upd H p (.tup vs)) ∧ Rep K m (upd H p (.tup vs)) (.tup ds) (.ref p) := by
  have g : Grow m m H (upd H p (.tup vs)) := .laid hp
  exact ⟨g, rl.laid hp, by simp only [Rep]; exact ⟨p, vs, rfl, .of upd_same, Reps.grow g ds vs hr⟩⟩
end

/-! ### views -/
def toI : D → M Int
  | .int i => pure i
  | _ => bad
def toS : D → M Str
  | .str x => pure x
  | _ => bad
def toT : D → M (List D)
  | .tup xs => pure xs
  | _ => bad
def toB : D → M Bool
  | .bl b => pure b
  | _ => bad
section
variable {K : PySem.W.Frag} {W : Wx} {m m' : Mp} {H H' : Hp} {mu : List MO}
theorem toI_ok {d : D} {v : V} {Q : Int → Mp → List MO → Hp → Prop} (rl : Rel K m mu H) (h : Rep K m H d v) (hp : Post K W m H (toI d mu) Q) : ∃ i, d = .int i ∧ v = .int i ∧ Q i m mu H := by
  cases d
  case int i => simp only [Rep] at h; exact ⟨i, rfl, h, hp m H .refl rl⟩
  all_goals exact (show False from hp).elim
theorem toS_ok {d : D} {v : V} {Q : Str → Mp → List MO → Hp → Prop} (rl : Rel K m mu H) (h : Rep K m H d v) (hp : Post K W m H (toS d mu) Q) : ∃ i, d = .str i ∧ v = .str i ∧ Q i m mu H := by
  cases d
  case str i => simp only [Rep] at h; exact ⟨i, rfl, h, hp m H .refl rl⟩
  all_goals exact (show False from hp).elim
theorem toB_ok {d : D} {v : V} {Q : Bool → Mp → List MO → Hp → Prop} (rl : Rel K m mu H) (h : Rep K m H d v) (hp : Post K W m H (toB d mu) Q) : ∃ i, d = .bl i ∧ v = .bl i ∧ Q i m mu H := by
  cases d
  case bl i => simp only [Rep] at h; exact ⟨i, rfl, h, hp m H .refl rl⟩
  all_goals exact (show False from hp).elim
theorem toT_ok {d : D} {v : V} {Q : List D → Mp → List MO → Hp → Prop} (rl : Rel K m mu H) (h : Rep K m H d v) (hp : Post K W m H (toT d mu) Q) : ∃ xs a vs, d = .tup xs ∧ v = .ref a ∧ SqT K H a vs ∧ Reps K m H xs vs ∧ Q xs m mu H := by
  cases d
  case tup xs => simp only [Rep] at h; obtain ⟨a, vs, e, hs, hr⟩ := h; exact ⟨xs, a, vs, rfl, e, hs, hr, hp m H .refl rl⟩
  all_goals exact (show False from hp).elim
/-- a condition that the data must meet -/
def need (c : Prop) [Decidable c] : M Unit := if c then pure () else bad
theorem need_ok {c : Prop} [Decidable c] {Q : Unit → Mp → List MO → Hp → Prop} (rl : Rel K m mu H) (hp : Post K W m H (need c mu) Q) : c ∧ Q () m mu H := by
  by_cases h : c
  · unfold need at hp
    rw [if_pos h] at hp
    exact ⟨h, hp m H .refl rl⟩
  · unfold need at hp
    rw [if_neg h] at hp
    exact (show False from hp).elim
end

/-! ### arithmetic, +, comparisons -/
def gII (c : Int → Int → Prop) [∀ i j, Decidable (c i j)] (f : Int → Int → D) (x y : D) : M D := do
  let i ← toI x
  let j ← toI y
  need (c i j)
  pure (f i j)
def gCat (x y : D) : M D := do
  let xs ← rdM x
  let ys ← rdM y
  need (xs.length + ys.length ≤ sizeLine)
  pure (.fl (xs ++ ys))
def gAdd : D → D → M D
  | .int i, y => do
    let j ← toI y
    pure (.int (i + j))
  | .str x, y => do
    let z ← toS y
    need (x.length + z.length ≤ sizeLine)
    pure (.str (x ++ z))
  | .tup xs, y => do
    let ys ← toT y
    need (xs.length + ys.length ≤ sizeLine)
    pure (.tup (xs ++ ys))
  | x, y => gCat x y
def cAny (_ _ : Int) : Prop := True
instance (i j : Int) : Decidable (cAny i j) := isTrue trivial
instance (i j : Int) : Decidable (CMulW i j) := inferInstanceAs (Decidable (_ < _))
instance (i j : Int) : Decidable (CDivW i j) := inferInstanceAs (Decidable (_ ∧ _))
instance (i j : Int) : Decidable (CPow i j) := inferInstanceAs (Decidable (_ ∧ _ ∧ _))
def cPos (_ j : Int) : Prop := 0 < j
instance (i j : Int) : Decidable (cPos i j) := inferInstanceAs (Decidable (_ < _))
def gSub : D → D → M D := gII cAny fun i j => .int (i - j)
def cMul (i j : Int) : Prop := CMul i j ∨ CMulW i j
instance (i j : Int) : Decidable (CMul i j) := inferInstanceAs (Decidable ((-(2 ^ 64) < i ∧ i < 2 ^ 64) ∨ (-(2 ^ 64) < j ∧ j < 2 ^ 64)))
instance (i j : Int) : Decidable (cMul i j) := inferInstanceAs (Decidable (CMul i j ∨ CMulW i j))
def gMul : D → D → M D := gII cMul fun i j => .int (i * j)
def gDiv : D → D → M D := gII CDivW fun i j => .int (i / j)
def gMod : D → D → M D := gII cPos fun i j => .int (i % j)
def gPow : D → D → M D := gII CPow fun i j => .int (i ^ j.toNat)
def gCmp (f : Int → Int → Bool) : D → D → M D := gII cAny fun i j => .bl (f i j)
def ltS (x y : Str) : Bool := decide (x.cps.toList < y.cps.toList)
def gLt : D → D → M D
  | .str x, y => do
    let z ← toS y
    pure (.bl (ltS x z))
  | x, y => gCmp (fun i j => decide (i < j)) x y
def gEq (neg : Bool) (x y : D) : M D := do
  need (okE x = true ∧ okE y = true ∧ dep x < 64)
  pure (.bl (eqD x y != neg))
def isN : D → Bool
  | .non => true
  | _ => false
def gIsN (neg : Bool) (x y : D) : M D := do
  need (isN y = true)
  pure (.bl (isN x != neg))
section
variable {X : Cx} {W : Wx}
theorem opm_ii {c : Int → Int → Prop} [∀ i j, Decidable (c i j)] {f : Int → Int → D} {fv : Int → Int → V} (hf : ∀ i j m H, Rep X.K m H (f i j) (fv i j)) : OpM X.K W (rI c fv) (gII c f) := ⟨fun x y v w m mu H Q rl hx hy hp => by
  obtain ⟨i, rfl, rfl, hp⟩ := toI_ok rl hx (Post.bind hp)
  obtain ⟨j, rfl, rfl, hp⟩ := toI_ok rl hy (Post.bind hp)
  obtain ⟨hc, hp⟩ := need_ok rl (Post.bind hp)
  exact ⟨i, j, rfl, rfl, hc, Post.pure hp rl _ (hf i j _ _)⟩⟩
theorem rI0_any {g : Int → Int → V} {x y : V} {H : Hp} {Q : VK} (h : rI cAny g x y H Q) : rI0 g x y H Q := let ⟨i, j, e, e', _, q⟩ := h; ⟨i, j, e, e', q⟩
theorem OpM.imp {K : PySem.W.Frag} {r r' : R2} {g : D → D → M D} (o : OpM K W r g) (h : ∀ x y H Q, r x y H Q → r' x y H Q) : OpM K W r' g := ⟨fun x y v w m mu H Q rl hx hy hp => h _ _ _ _ (o.go x y v w m mu H Q rl hx hy hp)⟩
theorem opm_sub : OpM X.K W (rI0 fun i j => .int (i - j)) gSub := (opm_ii (c := cAny) fun i j m H => by simp only [Rep]).imp fun _ _ _ _ => rI0_any
def rMulM : R2 := fun x y H Q => rI CMul (fun i j => .int (i * j)) x y H Q ∨ rI CMulW (fun i j => .int (i * j)) x y H Q
theorem op_mulM : OpR X (binaryOp .Mult) rMulM := op_mul.or op_mulW
theorem opm_mul : OpM X.K W rMulM gMul := (opm_ii (c := cMul) (fv := fun i j => .int (i * j)) fun i j m H => by simp only [Rep]).imp fun _ _ _ _ ⟨i, j, e, e', c, q⟩ => c.elim (fun c => .inl ⟨i, j, e, e', c, q⟩) (fun c => .inr ⟨i, j, e, e', c, q⟩)
theorem opm_div : OpM X.K W (rI CDivW fun i j => .int (i / j)) gDiv := opm_ii fun i j m H => by simp only [Rep]
theorem opm_mod : OpM X.K W (rI (fun _ j => 0 < j) fun i j => .int (i % j)) gMod := opm_ii (c := cPos) fun i j m H => by simp only [Rep]
theorem opm_pow : OpM X.K W (rI CPow fun i j => .int (i ^ j.toNat)) gPow := opm_ii fun i j m H => by simp only [Rep]
theorem opm_cmp {f : Int → Int → Bool} : OpM X.K W (rI0 fun i j => .bl (f i j)) (gCmp f) := (opm_ii (c := cAny) fun i j m H => by simp only [Rep]).imp fun _ _ _ _ => rI0_any
def rLtM : R2 := fun x y H Q => rI0 (fun i j => .bl (decide (i < j))) x y H Q ∨ ∃ i j, x = .str i ∧ y = .str j ∧ Q (.bl (decide (i.cps.toList < j.cps.toList))) H
theorem op_ltM : OpR X (compareOp .Lt) rLtM := op_lt.or op_lt_str
theorem opm_lt : OpM X.K W rLtM gLt := ⟨fun x y v w m mu H Q rl hx hy hp => by
  cases x
  case str x =>
    obtain ⟨z, rfl, rfl, hp⟩ := toS_ok rl hy (Post.bind hp)
    simp only [Rep] at hx
    exact .inr ⟨x, z, hx, rfl, Post.pure hp rl _ (by simp only [Rep, ltS])⟩
  all_goals exact .inl (opm_cmp.go _ y v w m mu H Q rl hx hy hp)⟩
/-- + of anything -/
def rAddM (K : PySem.W.Frag) : R2 := fun x y H Q => rI0 (fun i j => .int (i + j)) x y H Q ∨ (∃ i j, x = .str i ∧ y = .str j ∧ i.length + j.length ≤ sizeLine ∧ Q (.str (i ++ j)) H) ∨ rCatA K x y H Q ∨ rCat x y H Q
theorem op_addM : OpR X (binaryOp .Add) (rAddM X.K) := op_add.or (op_add_str.or (op_catA.or op_cat))
theorem opm_addL {x y : D} {v w : V} {m : Mp} {mu : List MO} {H : Hp} {Q : VK} (rl : Rel X.K m mu H) (hx : Rep X.K m H x v) (hy : Rep X.K m H y w)
    (hp : Post X.K W m H (gCat x y mu) (fun d m' _ H' => ∀ u, Rep X.K m' H' d u → Q u H')) : rAddM X.K v w H Q := by
  obtain ⟨a, xs, vs, rfl, ha, ra, ea, hp⟩ := rdM_ok rl hx (Post.bind hp)
  obtain ⟨b, ys, ws, rfl, hb, rb, eb, hp⟩ := rdM_ok rl hy (Post.bind hp)
  obtain ⟨c, hp⟩ := need_ok rl (Post.bind hp)
  refine .inr (.inr (.inr ⟨a, b, vs, ws, rfl, rfl, ha, hb, by rw [← ra.length, ← rb.length]; exact c, fun p hn => ?_⟩))
  obtain ⟨g, R', rp⟩ := new_fl rl (ra.append rb) hn
  exact hp m _ g R' _ rp
theorem opm_add : OpM X.K W (rAddM X.K) gAdd := ⟨fun x y v w m mu H Q rl hx hy hp => by
  cases x
  case int i =>
    obtain ⟨j, rfl, rfl, hp⟩ := toI_ok rl hy (Post.bind hp)
    simp only [Rep] at hx
    exact .inl ⟨i, j, hx, rfl, Post.pure hp rl _ (by simp only [Rep])⟩
  case str x =>
    obtain ⟨z, rfl, rfl, hp⟩ := toS_ok rl hy (Post.bind hp)
    obtain ⟨c, hp⟩ := need_ok rl (Post.bind hp)
    simp only [Rep] at hx
    exact .inr (.inl ⟨x, z, hx, rfl, c, Post.pure hp rl _ (by simp only [Rep])⟩)
  case tup xs =>
    obtain ⟨ys, b, ws, rfl, rfl, hb, rb, hp⟩ := toT_ok rl hy (Post.bind hp)
    obtain ⟨c, hp⟩ := need_ok rl (Post.bind hp)
    simp only [Rep] at hx
    obtain ⟨a, vs, rfl, ha, ra⟩ := hx
    refine .inr (.inr (.inl ⟨a, b, vs, ws, rfl, rfl, ha, hb, by rw [← ra.length, ← rb.length]; exact c, fun e => ?_, fun _ e => ?_, fun _ _ p hn => ?_⟩))
    · subst e
      have z : xs = [] := List.eq_nil_of_length_eq_zero (by rw [ra.length]; rfl)
      subst z
      exact Post.pure hp rl _ (by simp only [Rep]; exact ⟨b, ws, rfl, hb, rb⟩)
    · subst e
      have z : ys = [] := List.eq_nil_of_length_eq_zero (by rw [rb.length]; rfl)
      subst z
      rw [List.append_nil] at hp
      exact Post.pure hp rl _ (by simp only [Rep]; exact ⟨a, vs, rfl, ha, ra⟩)
    · obtain ⟨g, R', rp⟩ := new_tup rl (ra.append rb) hn
      exact hp m _ g R' _ rp
  all_goals exact opm_addL rl hx hy hp⟩
/-- ==, != of data -/
def rEqM (neg : Bool) (K : PySem.W.Frag) : R2 := fun x y H Q => ∃ d e m, Rep K m H d x ∧ Rep K m H e y ∧ okE d = true ∧ okE e = true ∧ dep d < 64 ∧ Q (.bl (eqD d e != neg)) H
theorem op_eqM (hu : X.A.units + 64 < cLine) : OpR X (compareOp .Eq) (rEqM false X.K) := by
  intro pins s σ H x y v u Q I rx ry h
  obtain ⟨d, e, m, hd, he, ok, ok', hdep, q⟩ := h
  have z := (eq_at I d e v u X.A (kd_of hd rx ok) (kd_of he ry ok') ok ok' (by omega)).1
  rw [Bool.bne_false] at q
  exact z X.prog X.w _ _ ⟨.bl _, H, I, rfl, q⟩
theorem opm_eq {neg : Bool} : OpM X.K W (rEqM neg X.K) (gEq neg) := ⟨fun x y v w m mu H Q rl hx hy hp => by
  obtain ⟨⟨h1, h2, h3⟩, hp⟩ := need_ok rl (Post.bind hp)
  exact ⟨x, y, m, hx, hy, h1, h2, h3, Post.pure hp rl _ (by simp only [Rep])⟩⟩
def rIsNM (neg : Bool) : R2 := fun x y H Q => y = .non ∧ Q (.bl (decide (x = .non) != neg)) H
theorem op_isNM : OpR X (compareOp .Is) (rIsNM false) := fun pins s σ H x y v u Q I rx ry h => op_isN pins s σ H x y v u Q I rx ry ⟨h.1, by have := h.2; rw [Bool.bne_false] at this; exact this⟩
theorem op_notNM : OpR X (compareOp .IsNot) (rIsNM true) := fun pins s σ H x y v u Q I rx ry h => op_notN pins s σ H x y v u Q I rx ry ⟨h.1, by have := h.2; rw [Bool.bne_true] at this; exact this⟩
theorem isN_eq {K : PySem.W.Frag} {m : Mp} {H : Hp} {d : D} {v : V} (h : Rep K m H d v) : isN d = decide (v = .non) := by
  cases d <;> simp only [Rep] at h
  case non => subst h; rfl
  case bl => subst h; rfl
  case int => subst h; rfl
  case str => subst h; rfl
  all_goals (obtain ⟨a, h⟩ := h)
  case tup => obtain ⟨vs, rfl, _⟩ := h; rfl
  case fl => obtain ⟨vs, rfl, _⟩ := h; rfl
  case ro => obtain ⟨vs, rfl, _⟩ := h; rfl
  case fd => obtain ⟨vs, rfl, _⟩ := h; rfl
  case ref => obtain ⟨rfl, _⟩ := h; rfl
theorem opm_isN {neg : Bool} : OpM X.K W (rIsNM neg) (gIsN neg) := ⟨fun x y v w m mu H Q rl hx hy hp => by
  obtain ⟨h1, hp⟩ := need_ok rl (Post.bind hp)
  rw [isN_eq hy] at h1
  rw [isN_eq hx] at hp
  exact ⟨of_decide_eq_true h1, Post.pure hp rl _ (by simp only [Rep])⟩⟩
end
end MP
namespace MP
open PySem L2 PyProof.Rows
open PySem.SeqAt (EqAt RcAt)
mutual
/-- the one form of equal data -/
def nf : D → D
  | .non => .non
  | .bl b => .int (b2n b)
  | .int i => .int i
  | .str x => .str x
  | .tup xs => .tup (nfs xs)
  | .fl xs => .fl (nfs xs)
  | .ro xs => .fl (nfs xs)
  | .fd ks xs => .fd ks xs
  | .ref n => .ref n
def nfs : List D → List D
  | [] => []
  | x :: xs => nf x :: nfs xs
end
mutual
theorem eqD_nf : ∀ (d e : D), okE d = true → okE e = true → (eqD d e = true ↔ nf d = nf e)
  | .non, e, _, h => by cases e <;> simp [eqD, nf, okE] at h ⊢
  | .bl b, e, _, h => by cases e <;> simp [eqD, nf, okE] at h ⊢ <;> (cases b <;> simp [b2n]) <;> rename_i c <;> cases c <;> simp
  | .int i, e, _, h => by cases e <;> simp [eqD, nf, okE] at h ⊢
  | .str x, e, _, h => by cases e <;> simp [eqD, nf, okE] at h ⊢
  | .tup xs, e, h, h' => by
    simp only [okE] at h
    cases e <;> simp only [eqD, nf, D.tup.injEq, reduceCtorEq, Bool.false_eq_true]
    case tup ys => exact eqDs_nf xs ys h (by simpa [okE] using h')
  | .fl xs, e, h, h' => by
    simp only [okE] at h
    cases e <;> simp only [eqD, nf, D.fl.injEq, reduceCtorEq, Bool.false_eq_true]
    case fl ys => exact eqDs_nf xs ys h (by simpa [okE] using h')
    case ro ys => exact eqDs_nf xs ys h (by simpa [okE] using h')
  | .ro xs, e, h, h' => by
    simp only [okE] at h
    cases e <;> simp only [eqD, nf, D.fl.injEq, reduceCtorEq, Bool.false_eq_true]
    case fl ys => exact eqDs_nf xs ys h (by simpa [okE] using h')
    case ro ys => exact eqDs_nf xs ys h (by simpa [okE] using h')
  | .fd _ _, _, h, _ => by simp [okE] at h
  | .ref _, _, h, _ => by simp [okE] at h
theorem eqDs_nf : ∀ (ds es : List D), okEs ds = true → okEs es = true → (eqDs ds es = true ↔ nfs ds = nfs es)
  | [], [], _, _ => by simp [eqDs, nfs]
  | [], _ :: _, _, _ => by simp [eqDs, nfs]
  | _ :: _, [], _, _ => by simp [eqDs, nfs]
  | d :: ds, e :: es, h, h' => by
    simp only [okEs, Bool.and_eq_true] at h h'
    simp only [eqDs, nfs, Bool.and_eq_true, List.cons.injEq]
    rw [eqD_nf d e h.1 h'.1, eqDs_nf ds es h.2 h'.2]
end
theorem eqD_trans {d e x : D} (hd : okE d = true) (he : okE e = true) (hx : okE x = true) (h : eqD d e = true) : eqD d x = eqD e x := by
  have h1 := (eqD_nf d e hd he).mp h
  rw [Bool.eq_iff_iff, eqD_nf d x hd hx, eqD_nf e x he hx, h1]

/-! ### in -/
def inS (x y : Str) : Bool := !(Builtin.Str.occurrences y x 0 y.length 1).isEmpty
/-- the items of a list or a tuple -/
def rdQ : D → M (List D)
  | .tup xs => pure xs
  | d => rdL d
def gIn (neg : Bool) : D → D → M D
  | x, .str y => do
    let z ← toS x
    pure (.bl (inS z y != neg))
  | x, y => do
    let ys ← rdQ y
    need (okE x = true ∧ okEs ys = true ∧ deps ys < 60)
    pure (.bl ((ys.any fun y => eqD y x) != neg))
section
variable {X : Cx} {W : Wx} {K : PySem.W.Frag} {m m' : Mp} {H H' : Hp} {mu : List MO}
theorem rdQ_ok {d : D} {v : V} {Q : List D → Mp → List MO → Hp → Prop} (rl : Rel K m mu H) (h : Rep K m H d v) (hp : Post K W m H (rdQ d mu) Q) : ∃ a xs vs, v = .ref a ∧ (SqL K H a vs ∨ SqT K H a vs) ∧ Reps K m H xs vs ∧ Q xs m mu H := by
  cases d
  case tup xs =>
    simp only [Rep] at h
    obtain ⟨a, vs, e, hs, hr⟩ := h
    exact ⟨a, xs, vs, e, .inr hs, hr, hp m H .refl rl⟩
  all_goals (
    obtain ⟨a, xs, vs, e, hs, hr, _, q⟩ := rdL_ok rl h hp
    exact ⟨a, xs, vs, e, .inl hs, hr, q⟩)
def rInM (neg : Bool) (K : PySem.W.Frag) : R2 := fun x y H Q => (∃ i j, x = .str i ∧ y = .str j ∧ Q (.bl (inS i j != neg)) H) ∨
  ∃ d p ds vs m, y = .ref p ∧ (SqL K H p vs ∨ SqT K H p vs) ∧ Rep K m H d x ∧ Reps K m H ds vs ∧ okE d = true ∧ okEs ds = true ∧ deps ds < 60 ∧ Q (.bl ((ds.any fun y => eqD y d) != neg)) H
open Classical in
theorem in_fun {pins : List (Addr × Obj)} {σ : L2.St} {s : Shared} {A : Around} (I : Inv X pins σ H s) {d : D} {x : V} {v : Value} {ds : List D} {vs : List V} {its : List Value} (hx : Rep X.K m H d x) (rx : RelV x v) (hr : Reps X.K m H ds vs) (r : Vals vs its)
    (ok : okE d = true) (oks : okEs ds = true) (hu : A.units + deps ds < cLine) : ∃ e : Value → Bool, (∀ u ∈ its, EqAt A s u v (e u)) ∧ its.any e = ds.any fun y => eqD y d := by
  have kx := kd_of hx rx ok
  have hl := hr.length
  have hl' := r.length
  have key : ∀ (i : Nat) (u : Value) (y : D), its[i]? = some u → ds[i]? = some y → Kd X.K m H y u ∧ okE y = true ∧ EqAt A s u v (eqD y d) := fun i u y hi hy => by
    obtain ⟨w, hw, qw⟩ := hr.get hy
    obtain ⟨u', hu', ru⟩ := r.get hw
    rw [hi] at hu'; cases hu'
    have oky := okEs_get oks hy
    have k := kd_of qw ru oky
    exact ⟨k, oky, eq_ats I ds i y hy d u v A k kx oks ok hu⟩
  have uniq : ∀ (i j : Nat) (u : Value) (y z : D), its[i]? = some u → its[j]? = some u → ds[i]? = some y → ds[j]? = some z → eqD y d = eqD z d := fun i j u y z hi hj hy hz => by
    obtain ⟨w, hw, qw⟩ := hr.get hy
    obtain ⟨w', hw', qw'⟩ := hr.get hz
    obtain ⟨u1, hu1, r1⟩ := r.get hw
    obtain ⟨u2, hu2, r2⟩ := r.get hw'
    rw [hi] at hu1; cases hu1
    rw [hj] at hu2; cases hu2
    have ew : w = w' := r1.inj r2
    subst ew
    have oky := okEs_get oks hy
    have okz := okEs_get oks hz
    exact eqD_trans oky okz ok (rep_same I y z w qw qw' oky okz)
  refine ⟨fun u => decide (∃ (i : Nat) (y : D), its[i]? = some u ∧ ds[i]? = some y ∧ eqD y d = true), fun u hm => ?_, ?_⟩
  · obtain ⟨i, hi⟩ := List.mem_iff_getElem?.mp hm
    have hil : i < ds.length := by have := (List.getElem?_eq_some_iff.mp hi).1; omega
    have hy : ds[i]? = some ds[i] := List.getElem?_eq_getElem hil
    have e : decide (∃ (i : Nat) (y : D), its[i]? = some u ∧ ds[i]? = some y ∧ eqD y d = true) = eqD ds[i] d := by
      rw [Bool.eq_iff_iff, decide_eq_true_iff]
      constructor
      · rintro ⟨j, z, hj, hz, q⟩
        rw [uniq i j u _ z hi hj hy hz]; exact q
      · intro q
        exact ⟨i, _, hi, hy, q⟩
    show EqAt A s u v (decide _)
    rw [e]
    exact (key i u _ hi hy).2.2
  · rw [Bool.eq_iff_iff, List.any_eq_true, List.any_eq_true]
    constructor
    · rintro ⟨u, hm, q⟩
      obtain ⟨i, y, hi, hy, q⟩ := of_decide_eq_true q
      exact ⟨y, List.mem_of_getElem? hy, q⟩
    · rintro ⟨y, hm, q⟩
      obtain ⟨i, hy⟩ := List.mem_iff_getElem?.mp hm
      have hil : i < its.length := by have := (List.getElem?_eq_some_iff.mp hy).1; omega
      exact ⟨its[i], List.getElem_mem hil, decide_eq_true ⟨i, y, List.getElem?_eq_getElem hil, hy, q⟩⟩
theorem op_inM (hu : X.A.units + 64 < cLine) : OpR X (compareOp .In) (rInM false X.K) := by
  intro pins s σ H x y v u Q I rx ry h
  rcases h with ⟨i, j, rfl, rfl, q⟩ | ⟨d, p, ds, vs, m, rfl, hq, hx, hr, ok, oks, hd, q⟩
  · rw [Bool.bne_false] at q
    exact op_in_str pins s σ H _ _ v u Q I rx ry ⟨i, j, rfl, rfl, q⟩
  · rw [Bool.bne_false] at q
    cases ry
    rcases hq with hq | hq
    · obtain ⟨its, r, pl, hz⟩ := I.list hq
      obtain ⟨e, he, ha⟩ := in_fun (A := X.A.in1) I hx rx hr r ok oks (by rw [in1_units]; omega)
      refine SeqAt.in_listAt e pl.isList (fun w hw => he w (by simpa using hw)) ⟨.bl _, H, I, rfl, ?_⟩
      rw [show its.toArray.any e = its.any e by simp, ha]
      exact q
    · obtain ⟨its, r, pl, hz⟩ := I.tuple hq
      obtain ⟨e, he, ha⟩ := in_fun (A := X.A.in1) I hx rx hr r ok oks (by rw [in1_units]; omega)
      refine SeqAt.in_tupleAt e pl (fun w hw => he w (by simpa using hw)) ⟨.bl _, H, I, rfl, ?_⟩
      rw [show its.toArray.any e = its.any e by simp, ha]
      exact q
theorem op_notInM (hu : X.A.units + 64 < cLine) : OpR X (compareOp .NotIn) (rInM true X.K) := by
  intro pins s σ H x y v u Q I rx ry h
  rcases h with ⟨i, j, rfl, rfl, q⟩ | ⟨d, p, ds, vs, m, rfl, hq, hx, hr, ok, oks, hd, q⟩
  · rw [Bool.bne_true] at q
    exact L2.op_notIn_str pins s σ H _ _ v u Q I rx ry ⟨i, j, rfl, rfl, q⟩
  · rw [Bool.bne_true] at q
    cases ry
    rcases hq with hq | hq
    · obtain ⟨its, r, pl, hz⟩ := I.list hq
      obtain ⟨e, he, ha⟩ := in_fun (A := X.A.in1) I hx rx hr r ok oks (by rw [in1_units]; omega)
      refine SeqAt.notIn_listAt e pl.isList (fun w hw => he w (by simpa using hw)) ⟨.bl _, H, I, rfl, ?_⟩
      rw [show its.toArray.any e = its.any e by simp, ha]
      exact q
    · obtain ⟨its, r, pl, hz⟩ := I.tuple hq
      obtain ⟨e, he, ha⟩ := in_fun (A := X.A.in1) I hx rx hr r ok oks (by rw [in1_units]; omega)
      refine SeqAt.notIn_tupleAt e pl (fun w hw => he w (by simpa using hw)) ⟨.bl _, H, I, rfl, ?_⟩
      rw [show its.toArray.any e = its.any e by simp, ha]
      exact q
theorem opm_in {neg : Bool} : OpM X.K W (rInM neg X.K) (gIn neg) := ⟨fun x y v w m mu H Q rl hx hy hp => by
  have seq : ∀ y, Rep X.K m H y w → Post X.K W m H ((do let ys ← rdQ y; need (okE x = true ∧ okEs ys = true ∧ deps ys < 60); pure (D.bl ((ys.any fun y => eqD y x) != neg))) mu) (fun d m' _ H' => ∀ u, Rep X.K m' H' d u → Q u H') → rInM neg X.K v w H Q := fun y hy hp => by
    obtain ⟨a, ys, vs, rfl, hs, hr, hp⟩ := rdQ_ok rl hy (Post.bind hp)
    obtain ⟨⟨h1, h2, h3⟩, hp⟩ := need_ok rl (Post.bind hp)
    exact .inr ⟨x, a, ys, vs, m, rfl, hs, hx, hr, h1, h2, h3, Post.pure hp rl _ (by simp only [Rep])⟩
  cases y
  case str y =>
    obtain ⟨z, rfl, rfl, hp⟩ := toS_ok rl hx (Post.bind hp)
    simp only [Rep] at hy
    exact .inl ⟨z, y, rfl, hy, Post.pure hp rl _ (by simp only [Rep])⟩
  all_goals exact seq _ hy hp⟩
open PySem.SeqAt (RcNeAt) in
theorem ne_lists {pins : List (Addr × Obj)} {σ : L2.St} {s : Shared} {a b : Addr} {ds es : List D} {vs ws : List V} {A : Around} (I : Inv X pins σ H s) (ha : SqL X.K H a vs) (hb : SqL X.K H b ws) (ra : Reps X.K m H ds vs) (rb : Reps X.K m H es ws) (ok : okEs ds = true) (hu : A.units + (deps ds + 1) < cLine)
    (ih : ∀ (j : Nat) d e v w u u', ds[j]? = some d → es[j]? = some e → Rep X.K m H d v → Rep X.K m H e w → RelV v u → RelV w u' → EqAt A.in1 s u u' (eqD d e)) : RcNeAt A s (.ref a) (.ref b) (!eqDs ds es) := by
  obtain ⟨its, r, pl, _⟩ := I.list ha
  obtain ⟨its', r', pl', _⟩ := I.list hb
  have h1 := ra.length
  have h2 := rb.length
  have h3 := r.length
  have h4 := r'.length
  by_cases hsz : its.toArray.size = its'.toArray.size
  · have hl : ds.length = es.length := by simp only [List.size_toArray] at hsz; omega
    rw [← eqDs_all hl]
    have q := RcNeAt.lists (A := A) (e := fun j => eqD (ds.getD j .non) (es.getD j .non)) pl.isList pl'.isList hsz (by omega) fun j j1 j2 => by
      obtain ⟨v, hv, rv⟩ := vals_at r j1
      obtain ⟨w, hw, rw'⟩ := vals_at r' j2
      obtain ⟨d, hd, qd⟩ := ra.at hv
      obtain ⟨e, he, qe⟩ := rb.at hw
      show EqAt A.in1 s _ _ (eqD (ds.getD j .non) (es.getD j .non))
      rw [getD_at hd, getD_at he]
      exact ih j d e v w _ _ hd he qd qe rv rw'
    rw [show ds.length = its.toArray.size by simp only [List.size_toArray]; omega]
    exact q
  · rw [eqDs_len (by simp only [List.size_toArray] at hsz; omega)]
    exact RcNeAt.lists_lengths pl.isList pl'.isList (by simpa using hsz) (by omega)
open PySem.SeqAt (RcNeAt) in
theorem ne_tuples {pins : List (Addr × Obj)} {σ : L2.St} {s : Shared} {a b : Addr} {ds es : List D} {vs ws : List V} {A : Around} (I : Inv X pins σ H s) (ha : SqT X.K H a vs) (hb : SqT X.K H b ws) (ra : Reps X.K m H ds vs) (rb : Reps X.K m H es ws) (ok : okEs ds = true) (hu : A.units + (deps ds + 1) < cLine)
    (ih : ∀ (j : Nat) d e v w u u', ds[j]? = some d → es[j]? = some e → Rep X.K m H d v → Rep X.K m H e w → RelV v u → RelV w u' → EqAt A.in1 s u u' (eqD d e)) : RcNeAt A s (.ref a) (.ref b) (!eqDs ds es) := by
  obtain ⟨its, r, pl, _⟩ := I.tuple ha
  obtain ⟨its', r', pl', _⟩ := I.tuple hb
  have h1 := ra.length
  have h2 := rb.length
  have h3 := r.length
  have h4 := r'.length
  rw [← eqDs_range]
  have q := RcNeAt.tuples (A := A) (e := fun j => eqD (ds.getD j .non) (es.getD j .non)) (show s.heap.IsTuple a its.toArray from pl) (show s.heap.IsTuple b its'.toArray from pl') (by omega) fun j j1 j2 => by
    obtain ⟨v, hv, rv⟩ := vals_at r j1
    obtain ⟨w, hw, rw'⟩ := vals_at r' j2
    obtain ⟨d, hd, qd⟩ := ra.at hv
    obtain ⟨e, he, qe⟩ := rb.at hw
    show EqAt A.in1 s _ _ (eqD (ds.getD j .non) (es.getD j .non))
    rw [getD_at hd, getD_at he]
    exact ih j d e v w _ _ hd he qd qe rv rw'
  have e1 : its.toArray.size = ds.length := by simp only [List.size_toArray]; omega
  have e2 : its'.toArray.size = es.length := by simp only [List.size_toArray]; omega
  rw [e1, e2] at q
  exact q
open PySem.SeqAt (RcNeAt) in
theorem ne_at {pins : List (Addr × Obj)} {σ : L2.St} {s : Shared} (I : Inv X pins σ H s) (d e : D) (u u' : Value) (A : Around) (h : Kd X.K m H d u) (h' : Kd X.K m H e u') (ok : okE d = true) (ok' : okE e = true) (hu : A.units + dep d < cLine) : RcNeAt A s u u' (!eqD d e) := by
  have hu0 : A.units < cLine := by omega
  cases h with
  | non =>
    cases h' <;> simp only [eqD, Bool.not_false, Bool.not_true]
    case non => exact RcNeAt.none_none
    case bl c => exact RcNeAt.none_bool _
    case int j t2 => exact RcNeAt.none_int _ _
    case str y t2 => exact RcNeAt.none_str _ _
    case tup es b ws hs' hr' => obtain ⟨_, p⟩ := tuple_at I hs'; exact RcNeAt.none_tuple p hu0
    case fl es b ws hs' hr' => obtain ⟨_, p⟩ := list_at I hs'; exact RcNeAt.none_list p hu0
    case ro es b ws hs' hr' => obtain ⟨_, p⟩ := list_at I hs'; exact RcNeAt.none_list p hu0
  | bl b =>
    cases h' <;> simp only [eqD, Bool.not_false, Bool.not_true]
    case non => exact RcNeAt.bool_none _
    case bl c => exact RcNeAt.bool_bool _ _
    case int j t2 => exact RcNeAt.bool_int _ _ _
    case str y t2 => exact RcNeAt.bool_str _ _ _
    case tup es b ws hs' hr' => obtain ⟨_, p⟩ := tuple_at I hs'; exact RcNeAt.bool_tuple _ p hu0
    case fl es b ws hs' hr' => obtain ⟨_, p⟩ := list_at I hs'; exact RcNeAt.bool_list _ p hu0
    case ro es b ws hs' hr' => obtain ⟨_, p⟩ := list_at I hs'; exact RcNeAt.bool_list _ p hu0
  | int i t =>
    cases h' <;> simp only [eqD, Bool.not_false, Bool.not_true]
    case non => exact RcNeAt.int_none _ _
    case bl c => exact RcNeAt.int_bool _ _ _
    case int j t2 => exact RcNeAt.int_int _ _ _ _
    case str y t2 => exact RcNeAt.int_str _ _ _ _
    case tup es b ws hs' hr' => obtain ⟨_, p⟩ := tuple_at I hs'; exact RcNeAt.int_tuple _ _ p hu0
    case fl es b ws hs' hr' => obtain ⟨_, p⟩ := list_at I hs'; exact RcNeAt.int_list _ _ p hu0
    case ro es b ws hs' hr' => obtain ⟨_, p⟩ := list_at I hs'; exact RcNeAt.int_list _ _ p hu0
  | str x t =>
    cases h' <;> simp only [eqD, Bool.not_false, Bool.not_true]
    case non => exact RcNeAt.str_none _ _
    case bl c => exact RcNeAt.str_bool _ _ _
    case int j t2 => exact RcNeAt.str_int _ _ _ _
    case str y t2 => exact RcNeAt.str_str _ _ _ _
    case tup es b ws hs' hr' => obtain ⟨_, p⟩ := tuple_at I hs'; exact RcNeAt.str_tuple _ _ p hu0
    case fl es b ws hs' hr' => obtain ⟨_, p⟩ := list_at I hs'; exact RcNeAt.str_list _ _ p hu0
    case ro es b ws hs' hr' => obtain ⟨_, p⟩ := list_at I hs'; exact RcNeAt.str_list _ _ p hu0
  | @tup ds a vs hs hr =>
    simp only [okE] at ok
    simp only [dep] at hu
    obtain ⟨_, p⟩ := tuple_at I hs
    cases h' <;> simp only [eqD, Bool.not_false, Bool.not_true]
    case non => exact RcNeAt.tuple_none p hu0
    case bl c => exact RcNeAt.tuple_bool _ p hu0
    case int j t2 => exact RcNeAt.tuple_int _ _ p hu0
    case str y t2 => exact RcNeAt.tuple_str _ _ p hu0
    case tup es b ws hs' hr' => simp only [okE] at ok'; exact ne_tuples I hs hs' hr hr' ok hu fun j d e v w u u' hd he qd qe rv rw' => (eq_ats I ds j d hd e u u' A.in1 (kd_of qd rv (okEs_get ok hd)) (kd_of qe rw' (okEs_get ok' he)) ok (okEs_get ok' he) (by rw [in1_units]; omega))
    case fl es b ws hs' hr' => obtain ⟨_, p'⟩ := list_at I hs'; exact RcNeAt.tuple_list p p' hu0
    case ro es b ws hs' hr' => obtain ⟨_, p'⟩ := list_at I hs'; exact RcNeAt.tuple_list p p' hu0
  | @fl ds a vs hs hr =>
    simp only [okE] at ok
    simp only [dep] at hu
    obtain ⟨_, p⟩ := list_at I hs
    cases h' <;> simp only [eqD, Bool.not_false, Bool.not_true]
    case non => exact RcNeAt.list_none p hu0
    case bl c => exact RcNeAt.list_bool _ p hu0
    case int j t2 => exact RcNeAt.list_int _ _ p hu0
    case str y t2 => exact RcNeAt.list_str _ _ p hu0
    case tup es b ws hs' hr' => obtain ⟨_, p'⟩ := tuple_at I hs'; exact RcNeAt.list_tuple p p' hu0
    case fl es b ws hs' hr' => simp only [okE] at ok'; exact ne_lists I hs hs' hr hr' ok hu fun j d e v w u u' hd he qd qe rv rw' => (eq_ats I ds j d hd e u u' A.in1 (kd_of qd rv (okEs_get ok hd)) (kd_of qe rw' (okEs_get ok' he)) ok (okEs_get ok' he) (by rw [in1_units]; omega))
    case ro es b ws hs' hr' => simp only [okE] at ok'; exact ne_lists I hs hs' hr hr' ok hu fun j d e v w u u' hd he qd qe rv rw' => (eq_ats I ds j d hd e u u' A.in1 (kd_of qd rv (okEs_get ok hd)) (kd_of qe rw' (okEs_get ok' he)) ok (okEs_get ok' he) (by rw [in1_units]; omega))
  | @ro ds a vs hs hr =>
    simp only [okE] at ok
    simp only [dep] at hu
    obtain ⟨_, p⟩ := list_at I hs
    cases h' <;> simp only [eqD, Bool.not_false, Bool.not_true]
    case non => exact RcNeAt.list_none p hu0
    case bl c => exact RcNeAt.list_bool _ p hu0
    case int j t2 => exact RcNeAt.list_int _ _ p hu0
    case str y t2 => exact RcNeAt.list_str _ _ p hu0
    case tup es b ws hs' hr' => obtain ⟨_, p'⟩ := tuple_at I hs'; exact RcNeAt.list_tuple p p' hu0
    case fl es b ws hs' hr' => simp only [okE] at ok'; exact ne_lists I hs hs' hr hr' ok hu fun j d e v w u u' hd he qd qe rv rw' => (eq_ats I ds j d hd e u u' A.in1 (kd_of qd rv (okEs_get ok hd)) (kd_of qe rw' (okEs_get ok' he)) ok (okEs_get ok' he) (by rw [in1_units]; omega))
    case ro es b ws hs' hr' => simp only [okE] at ok'; exact ne_lists I hs hs' hr hr' ok hu fun j d e v w u u' hd he qd qe rv rw' => (eq_ats I ds j d hd e u u' A.in1 (kd_of qd rv (okEs_get ok hd)) (kd_of qe rw' (okEs_get ok' he)) ok (okEs_get ok' he) (by rw [in1_units]; omega))
theorem op_neM (hu : X.A.units + 64 < cLine) : OpR X (compareOp .NotEq) (rEqM true X.K) := by
  intro pins s σ H x y v u Q I rx ry h
  obtain ⟨d, e, m, hd, he, ok, ok', hdep, q⟩ := h
  have z := ne_at I d e v u X.A (kd_of hd rx ok) (kd_of he ry ok') ok ok' (by omega)
  rw [Bool.bne_true] at q
  exact z X.prog X.w _ _ ⟨.bl _, H, I, rfl, q⟩
end
end MP
namespace MP
open PySem L2 PyProof.Rows
/-! ### expressions made of expressions -/
section
variable {X : Cx} {W : Wx} {e a b : Expr} {es : List Expr} {pos : Pos}
def eMap (f : D → M D) (r : Env → M D) : Env → M D := fun env => r env >>= f
def gNeg (x : D) : M D := do
  let i ← toI x
  pure (.int (-i))
theorem me_neg {r : Env → M D} (h : ME X W a r) : ME X W (.UnaryOp .USub a pos) (eMap gNeg r) := ⟨(pe_un un_neg h.pe).imp fun σ H Q ⟨env, m, mu, hE, hR, hp⟩ =>
  ⟨env, m, mu, hE, hR, (Post.bind hp).mono fun x m1 mu1 H1 g1 R1 hp v rv => by
    obtain ⟨i, rfl, rfl, hp⟩ := toI_ok R1 rv (Post.bind hp)
    exact ⟨i, rfl, Post.pure hp R1 _ (by simp only [Rep])⟩⟩⟩
def gNot (x : D) : M D := do
  let b ← toB x
  pure (.bl (!b))
theorem me_not {r : Env → M D} (h : ME X W a r) : ME X W (.UnaryOp .Not a pos) (eMap gNot r) := ⟨(pe_not h.pe).imp fun σ H Q ⟨env, m, mu, hE, hR, hp⟩ =>
  ⟨env, m, mu, hE, hR, (Post.bind hp).mono fun x m1 mu1 H1 g1 R1 hp v rv => by
    obtain ⟨i, rfl, rfl, hp⟩ := toB_ok R1 rv (Post.bind hp)
    exact ⟨i, rfl, Post.pure hp R1 _ (by simp only [Rep])⟩⟩⟩
theorem tT_bind {α : Type} {r : Env → M Bool} {t : TT} {f : Bool → Env → M Bool} (h : ∀ σ H Q, tT X.K W r σ H Q → t σ H Q) {σ : L2.St} {H : Hp} {Q : Bool → Hp → Prop} {Q' : Bool → Hp → Prop}
    (hq : tT X.K W (fun env => r env >>= fun b => f b env) σ H Q) (hn : ∀ b H1, tT X.K W (f b) σ H1 Q → Q' b H1) : t σ H Q' := by
  obtain ⟨env, m, mu, hE, hR, hp⟩ := hq
  exact h σ H _ ⟨env, m, mu, hE, hR, (Post.bind hp).mono fun b m1 mu1 H1 g1 R1 hp => hn b H1 ⟨env, m1, mu1, hE.grow g1, R1, hp⟩⟩
theorem tT_pure {c : Bool} {σ : L2.St} {H : Hp} {Q : Bool → Hp → Prop} (h : tT X.K W (fun _ => pure c) σ H Q) : Q c H := by
  obtain ⟨env, m, mu, hE, hR, hp⟩ := h
  exact Post.pure hp hR
def bNot (r : Env → M Bool) : Env → M Bool := fun env => r env >>= fun b => pure (!b)
def bAnd (r r' : Env → M Bool) : Env → M Bool := fun env => r env >>= fun b => if b = true then r' env else pure false
def bOr (r r' : Env → M Bool) : Env → M Bool := fun env => r env >>= fun b => if b = true then pure true else r' env
theorem mt_not {r : Env → M Bool} (h : MT X W a r) : MT X W (.UnaryOp .Not a pos) (bNot r) :=
  ⟨(pt_not h.pt).imp fun σ H Q hq => tT_bind (α := Bool) (f := fun b _ => pure (!b)) (fun _ _ _ q => q) hq fun b H1 q => tT_pure q⟩
/-- and, or as tests -/
structure MW (X : Cx) (W : Wx) (e : Expr) (r : Env → M Bool) : Prop where
  pw : PW X e (tT X.K W r)
theorem MW.mt {r : Env → M Bool} (h : MW X W e r) : MT X W e r := ⟨h.pw.pt⟩
theorem mw_and1 {r : Env → M Bool} (h : MT X W a r) : MW X W (.BoolOp .And [a] pos) r := ⟨pw_and1 h.pt⟩
theorem mw_or1 {r : Env → M Bool} (h : MT X W a r) : MW X W (.BoolOp .Or [a] pos) r := ⟨pw_or1 h.pt⟩
theorem mw_and {r r' : Env → M Bool} (h : MT X W a r) (h' : MW X W (.BoolOp .And (b :: es) pos) r') : MW X W (.BoolOp .And (a :: b :: es) pos) (bAnd r r') :=
  ⟨(pw_and h.pt h'.pw).imp fun σ H Q hq => tT_bind (α := Bool) (f := fun b env => if b = true then r' env else pure false) (fun _ _ _ q => q) hq fun b H1 q => by
    cases b
    · exact tT_pure q
    · exact q⟩
theorem mw_or {r r' : Env → M Bool} (h : MT X W a r) (h' : MW X W (.BoolOp .Or (b :: es) pos) r') : MW X W (.BoolOp .Or (a :: b :: es) pos) (bOr r r') :=
  ⟨(pw_or h.pt h'.pw).imp fun σ H Q hq => tT_bind (α := Bool) (f := fun b env => if b = true then pure true else r' env) (fun _ _ _ q => q) hq fun b H1 q => by
    cases b
    · exact q
    · exact tT_pure q⟩
/-- .. as values, of bools -/
def eAnd (r r' : Env → M D) : Env → M D := fun env => r env >>= fun x => toB x >>= fun b => if b = true then r' env else pure (.bl false)
def eOr (r r' : Env → M D) : Env → M D := fun env => r env >>= fun x => toB x >>= fun b => if b = true then pure (.bl true) else r' env
theorem me_one {op} {r : Env → M D} (h : ME X W a r) : ME X W (.BoolOp op [a] pos) r := ⟨pe_one h.pe⟩
theorem me_and {r r' : Env → M D} (h : ME X W a r) (h' : ME X W (.BoolOp .And (b :: es) pos) r') : ME X W (.BoolOp .And (a :: b :: es) pos) (eAnd r r') := ⟨(pe_and h.pe h'.pe).imp fun σ H Q ⟨env, m, mu, hE, hR, hp⟩ =>
  ⟨env, m, mu, hE, hR, (Post.bind hp).mono fun x m1 mu1 H1 g1 R1 hp v rv => by
    obtain ⟨c, rfl, rfl, hp⟩ := toB_ok R1 rv (Post.bind hp)
    refine ⟨c, rfl, ?_⟩
    cases c
    · exact Post.pure hp R1 _ (by simp only [Rep])
    · exact ⟨env, m1, mu1, hE.grow g1, R1, hp⟩⟩⟩
theorem me_or {r r' : Env → M D} (h : ME X W a r) (h' : ME X W (.BoolOp .Or (b :: es) pos) r') : ME X W (.BoolOp .Or (a :: b :: es) pos) (eOr r r') := ⟨(pe_or h.pe h'.pe).imp fun σ H Q ⟨env, m, mu, hE, hR, hp⟩ =>
  ⟨env, m, mu, hE, hR, (Post.bind hp).mono fun x m1 mu1 H1 g1 R1 hp v rv => by
    obtain ⟨c, rfl, rfl, hp⟩ := toB_ok R1 rv (Post.bind hp)
    refine ⟨c, rfl, ?_⟩
    cases c
    · exact ⟨env, m1, mu1, hE.grow g1, R1, hp⟩
    · exact Post.pure hp R1 _ (by simp only [Rep])⟩⟩
def eIf {α : Type} (t : Env → M Bool) (r r' : Env → M α) : Env → M α := fun env => t env >>= fun b => if b = true then r env else r' env
theorem me_ifExp {c : Expr} {t : Env → M Bool} {r r' : Env → M D} (hc : MT X W c t) (h : ME X W a r) (h' : ME X W b r') : ME X W (.IfExp c a b pos) (eIf t r r') := ⟨(pe_ifExp hc.pt h.pe h'.pe).imp fun σ H Q ⟨env, m, mu, hE, hR, hp⟩ =>
  ⟨env, m, mu, hE, hR, (Post.bind hp).mono fun b m1 mu1 H1 g1 R1 hp => by
    cases b
    · exact ⟨env, m1, mu1, hE.grow g1, R1, hp⟩
    · exact ⟨env, m1, mu1, hE.grow g1, R1, hp⟩⟩⟩

/-! ### argument lists, displays -/
def aNil : Env → M (List D) := fun _ => pure []
def aCons (r : Env → M D) (rs : Env → M (List D)) : Env → M (List D) := fun env => r env >>= fun x => rs env >>= fun xs => pure (x :: xs)
theorem ma_nil : MA X W [] aNil := ⟨pa_nil.imp fun σ H Q ⟨env, m, mu, hE, hR, hp⟩ => Post.pure hp hR [] (Reps.nil_iff.mpr rfl)⟩
theorem ma_cons {r : Env → M D} {rs : Env → M (List D)} (h : ME X W e r) (hs : MA X W es rs) (he : starEach (e :: es) X.env = (false, eval e X.env) :: starEach es X.env := by rfl) : MA X W (e :: es) (aCons r rs) :=
  ⟨(pa_cons h.pe hs.pa he).imp fun σ H Q ⟨env, m, mu, hE, hR, hp⟩ =>
    ⟨env, m, mu, hE, hR, (Post.bind hp).mono fun x m1 mu1 H1 g1 R1 hp v rv => ⟨env, m1, mu1, hE.grow g1, R1, (Post.bind hp).mono fun xs m2 mu2 H2 g2 R2 hp vs rvs =>
      Post.pure hp R2 (v :: vs) (Reps.cons_iff.mpr ⟨v, vs, rfl, Rep.grow g2 x v rv, rvs⟩)⟩⟩⟩
def gTup (xs : List D) : M D := do
  need (xs.length ≤ sizeLine)
  pure (.tup xs)
def aThen (f : List D → M D) (rs : Env → M (List D)) : Env → M D := fun env => rs env >>= f
theorem me_tup {x1} {rs : Env → M (List D)} (h : MA X W es rs) : ME X W (.Tuple es x1 pos) (aThen gTup rs) := ⟨(pe_tup h.pa).imp fun σ H Q ⟨env, m, mu, hE, hR, hp⟩ =>
  ⟨env, m, mu, hE, hR, (Post.bind hp).mono fun xs m1 mu1 H1 g1 R1 hp vs rv => by
    obtain ⟨c, hp⟩ := need_ok R1 (Post.bind hp)
    refine ⟨by rw [← rv.length]; exact c, fun p hn => ?_⟩
    obtain ⟨g, R', rp⟩ := new_tup R1 rv hn
    exact hp m1 _ g R' _ rp⟩⟩
/-- a new object is taken into the small heap -/
theorem Rel.adopt {K : PySem.W.Frag} {m : Mp} {H H' : Hp} {mu : List MO} (R : Rel K m mu H) {a : Addr} {o : MO} (hn : m.Out a) (hg : Grow m (m.add a) H H') (hk : ∀ b u, H b = some u → H' b = some u) (ho : RepO K (m.add a) H' a o) : Rel K (m.add a) (mu ++ [o]) H' := by
  refine ⟨by show (m.ad ++ [a]).length = _; rw [List.length_append, List.length_append, R.len]; rfl, ?_, fun b hb => hg.trk b _ (R.nos b hb).choose_spec, fun b hb => ?_, fun n ob b h1 h2 => ?_⟩
  · show (m.ad ++ [a]).Nodup
    rw [List.nodup_append]
    refine ⟨R.nd, by simp, fun x hx y hy => ?_⟩
    rw [List.mem_singleton.mp hy]
    rintro rfl
    exact hn.1 hx
  · rcases List.mem_append.mp (show b ∈ m.ad ++ [a] from hb) with z | z
    · exact R.dj b z
    · rw [List.mem_singleton.mp z]; exact hn.2
  · have h2 : (m.ad ++ [a])[n]? = some b := h2
    by_cases h : n < mu.length
    · rw [List.getElem?_append_left h] at h1
      rw [List.getElem?_append_left (by rw [R.len]; exact h)] at h2
      exact (R.obj n ob b h1 h2).grow hg fun u q => hk b u q
    · by_cases hl : n = mu.length
      · subst hl
        rw [List.getElem?_append_right (Nat.le_refl _), Nat.sub_self] at h1
        rw [List.getElem?_append_right (by rw [R.len]; exact Nat.le_refl _), ← R.len, Nat.sub_self] at h2
        cases h1
        cases h2
        exact ho
      · rw [List.getElem?_eq_none (by rw [List.length_append]; simp only [List.length_cons, List.length_nil]; omega)] at h1
        cases h1
theorem add_get {K : PySem.W.Frag} {m : Mp} {H : Hp} {mu : List MO} (R : Rel K m mu H) {a : Addr} : (m.add a).ad[mu.length]? = some a := by
  show (m.ad ++ [a])[mu.length]? = some a
  rw [List.getElem?_append_right (by rw [R.len]; exact Nat.le_refl _), ← R.len, Nat.sub_self]
  rfl
theorem Grow.fresh {m : Mp} {H : Hp} {p : Addr} {o : HO} (hn : H p = none) : Grow m (m.add p) H (upd H p o) :=
  let g : Grow m m H (upd H p o) := .laid hn
  ⟨⟨[p], [], rfl, by simp [Mp.add], fun a ha => by rw [List.mem_singleton.mp ha]; exact hn, by simp⟩, g.oth, g.tups, g.frzs, g.trk⟩
theorem upd_keeps {H : Hp} {p : Addr} {o : HO} (hn : H p = none) : ∀ b u, H b = some u → upd H p o b = some u := fun b u e => by rw [upd_ne (ne_of_none e hn)]; exact e
/-- a new list: from its reading -/
theorem tF_new {K : PySem.W.Frag} {W : Wx} {m m1 : Mp} {H H1 : Hp} {mu1 : List MO} {ds : List D} {vs : List V} {Q : VK} (g : Grow m m1 H H1) (R1 : Rel K m1 mu1 H1) (r : Reps K m1 H1 ds vs) (hp : Post K W m1 H1 ((pure ds : M (List D)) mu1) fun ds m' mu' H' => NewL K H ds m' mu' H' Q) : ∀ p, H1 p = none → Q (.ref p) (upd H1 p (.lst vs)) := fun p hn => by
  have g1 : Grow m1 m1 H1 (upd H1 p (.lst vs)) := .laid hn
  have q := hp m1 _ g1 (R1.laid hn)
  exact q p vs (g.none_of hn) upd_same (R1.free hn) (Reps.grow g1 ds vs r) (R1.adopt (R1.free hn) (.fresh hn) (upd_keeps hn) ⟨vs, upd_same, Reps.grow (.fresh hn) ds vs r⟩)
def aList (rs : Env → M (List D)) : Env → M (List D) := fun env => rs env >>= fun xs => need (xs.length ≤ sizeLine) >>= fun _ => pure xs
theorem mf_lst {rs : Env → M (List D)} (h : MA X W es rs) : MF X W (.List es pos) (aList rs) := ⟨(pe_lst h.pa).imp fun σ H Q ⟨env, m, mu, hE, hR, hp⟩ =>
  ⟨env, m, mu, hE, hR, (Post.bind hp).mono fun xs m1 mu1 H1 g1 R1 hp vs rv => by
    obtain ⟨c, hp⟩ := need_ok R1 (Post.bind hp)
    exact ⟨by rw [← rv.length]; exact c, tF_new g1 R1 rv hp⟩⟩⟩
def eFl (r : Env → M (List D)) : Env → M D := fun env => r env >>= fun xs => pure (.fl xs)
def alloc (o : MO) : M D := fun mu => .ok (.ref mu.length) (mu ++ [o])
def eNew (r : Env → M (List D)) : Env → M D := fun env => r env >>= fun xs => alloc (.lst xs)
/-- a new list, from now on read alone -/
theorem me_fl {r : Env → M (List D)} (h : MF X W e r) : ME X W e (eFl r) := ⟨h.pe.imp fun σ H Q ⟨env, m, mu, hE, hR, hp⟩ =>
  ⟨env, m, mu, hE, hR, (Post.bind hp).mono fun xs m1 mu1 H1 g1 R1 hp a vs h0 h1 hn hr _ => Post.pure hp R1 _ (by simp only [Rep]; exact ⟨a, vs, rfl, h1, hn, hr⟩)⟩⟩
/-- a new list, taken into the small heap -/
theorem me_new {r : Env → M (List D)} (h : MF X W e r) : ME X W e (eNew r) := ⟨h.pe.imp fun σ H Q ⟨env, m, mu, hE, hR, hp⟩ => by
  refine ⟨env, m, mu, hE, hR, ?_⟩
  have e0 : eNew r env mu = M.bind (r env) (fun xs => alloc (.lst xs)) mu := rfl
  rw [e0] at hp
  unfold M.bind at hp
  cases hr : r env mu with
  | ok xs mu1 =>
    rw [hr] at hp
    intro m1 H1 g1 R1 a vs h0 h1 hn hrs ha
    have q := hp (m1.add a) H1 (g1.adopt h0) ha (.ref a)
    exact q (by simp only [Rep]; exact ⟨a, rfl, add_get R1⟩)
  | exc x mu1 => rw [hr] at hp; exact hp
  | bad => rw [hr] at hp; exact hp⟩
/-- {} , taken into the small heap -/
def eNewD : Env → M D := fun _ => alloc (.dk [])
theorem me_dict0 : ME X W (.Dict [] [] pos) eNewD := ⟨pe_dnewK.imp fun σ H Q ⟨env, m, mu, hE, hR, hp⟩ p hn => by
  have q := hp (m.add p) (upd H p (.dK [])) (.fresh hn) (hR.adopt (hR.free hn) (.fresh hn) (upd_keeps hn) ⟨[], upd_same, Reps.nil_iff.mpr rfl⟩) (.ref p)
  exact q (by simp only [Rep]; exact ⟨p, rfl, add_get hR⟩)⟩

/-! ### subscripts -/
def ixD (xs : List D) (i : Int) : M D := match atI xs i with
  | some d => pure d
  | none => bad
def gIx : D → D → M D
  | .str z, y => do
    let i ← toI y
    need (z.length ≤ sizeLine)
    match atI z.cps.toList i with
    | some c => pure (.str ⟨#[c]⟩)
    | none => bad
  | x, y => do
    let xs ← rdQ x
    let i ← toI y
    ixD xs i
theorem ixD_ok {K : PySem.W.Frag} {m : Mp} {H : Hp} {mu : List MO} {xs : List D} {vs : List V} {i : Int} {Q : D → Mp → List MO → Hp → Prop} (R : Rel K m mu H) (r : Reps K m H xs vs) (hp : Post K W m H (ixD xs i mu) Q) : ∃ d v, atI vs i = some v ∧ Rep K m H d v ∧ Q d m mu H := by
  unfold ixD at hp
  cases e : atI xs i with
  | none => rw [e] at hp; exact (show False from hp).elim
  | some d =>
    rw [e] at hp
    unfold atI at e
    rw [r.length] at e
    cases e2 : ixN vs.length i with
    | none => rw [e2] at e; cases e
    | some j =>
      rw [e2] at e
      obtain ⟨v, hv, rv⟩ := r.get (show xs[j]? = some d from e)
      exact ⟨d, v, by unfold atI; rw [e2]; exact hv, rv, Post.pure hp R⟩
theorem opm_ix : OpM X.K W (rIx X.K) gIx := ⟨fun x y v w m mu H Q rl hx hy hp => by
  have seq : ∀ x, Rep X.K m H x v → Post X.K W m H ((do let xs ← rdQ x; let i ← toI y; ixD xs i) mu) (fun d m' _ H' => ∀ u, Rep X.K m' H' d u → Q u H') → rIx X.K v w H Q := fun x hx hp => by
    obtain ⟨a, xs, vs, rfl, hs, hr, hp⟩ := rdQ_ok rl hx (Post.bind hp)
    obtain ⟨i, rfl, rfl, hp⟩ := toI_ok rl hy (Post.bind hp)
    obtain ⟨d, v, hv, rv, hp⟩ := ixD_ok rl hr hp
    rcases hs with hs | hs
    · exact .inl ⟨a, vs, i, v, rfl, rfl, hs, hv, hp v rv⟩
    · exact .inr (.inl ⟨a, vs, i, v, rfl, rfl, hs, hv, hp v rv⟩)
  cases x
  case str z =>
    obtain ⟨i, rfl, rfl, hp⟩ := toI_ok rl hy (Post.bind hp)
    obtain ⟨c, hp⟩ := need_ok rl (Post.bind hp)
    simp only [Rep] at hx
    cases e : atI z.cps.toList i with
    | none => rw [e] at hp; exact (show False from hp).elim
    | some k =>
      rw [e] at hp
      exact .inr (.inr ⟨z, i, k, hx, rfl, c, e, Post.pure hp rl _ (by simp only [Rep])⟩)
  all_goals exact seq _ hx hp⟩
theorem me_ix {ra rb : Env → M D} (ha : ME X W a ra) (hb : ME X W b rb) (hs : PlainIx b := by intro _ _; rfl) : ME X W (.Subscript a b pos) (eBin gIx ra rb) := ⟨(pe_ix ix_seq ha.pe hb.pe hs).imp (tE_bin opm_ix)⟩
/-- keys of a dict -/
def toK : D → M Key
  | .int i => pure (.inl i)
  | .str x => pure (.inr x)
  | _ => bad
theorem toK_ok {K : PySem.W.Frag} {m : Mp} {H : Hp} {mu : List MO} {d : D} {v : V} {Q : Key → Mp → List MO → Hp → Prop} (R : Rel K m mu H) (h : Rep K m H d v) (hp : Post K W m H (toK d mu) Q) : ∃ k, v = kV k ∧ Q k m mu H := by
  cases d
  case int i => simp only [Rep] at h; exact ⟨.inl i, h, hp m H .refl R⟩
  case str i => simp only [Rep] at h; exact ⟨.inr i, h, hp m H .refl R⟩
  all_goals exact (show False from hp).elim
/-- what a dict holds at a key -/
def valD (kvs : List (Key × D)) (k : Key) : Option D := (kvs.find? fun kv => decide (kv.1 = k)).map (·.2)
def atD (mu : List MO) (n : Nat) : R (List (Key × D)) := match mu[n]? with
  | some (.dk kvs) => .ok kvs mu
  | _ => .bad
theorem atD_dk {mu : List MO} {n : Nat} {kvs : List (Key × D)} (h : mu[n]? = some (.dk kvs)) : atD mu n = .ok kvs mu := by unfold atD; rw [h]
theorem atD_lst {mu : List MO} {n : Nat} {xs : List D} (h : mu[n]? = some (.lst xs)) : atD mu n = .bad := by unfold atD; rw [h]
def rdD : D → M (List (Key × D))
  | .fd ks xs => pure (ks.zip xs)
  | .ref n => fun mu => atD mu n
  | _ => bad
theorem zip_keys {α β : Type} : ∀ (kvs : List (α × β)), (kvs.map (·.1)).zip (kvs.map (·.2)) = kvs
  | [] => rfl
  | (k, v) :: r => by rw [List.map_cons, List.map_cons, List.zip_cons_cons, zip_keys r]
theorem valD_rep {K : PySem.W.Frag} {m : Mp} {H : Hp} {k : Key} : ∀ {ks : List Key} {ds : List D} {vs : List V}, Reps K m H ds vs → match valD (ks.zip ds) k with
    | some d => ∃ v, valV (ks.zip vs) k = some v ∧ Rep K m H d v
    | none => valV (ks.zip vs) k = none
  | [], ds, vs, _ => by simp [valD, valV]
  | _ :: _, [], vs, h => by rw [Reps.nil_iff] at h; subst h; simp [valD, valV]
  | j :: ks, d :: ds, vs, h => by
    obtain ⟨v, r, rfl, h1, h2⟩ := Reps.cons_iff.mp h
    have ih := valD_rep (k := k) (ks := ks) h2
    by_cases e : j = k
    · subst e
      simp only [valD, valV, List.zip_cons_cons, List.find?_cons, decide_true, Option.map_some]
      exact ⟨v, rfl, h1⟩
    · simp only [valD, valV, List.zip_cons_cons, List.find?_cons, decide_eq_false e] at ih ⊢
      exact ih
theorem rdD_ok {K : PySem.W.Frag} {m : Mp} {H : Hp} {mu : List MO} {d : D} {v : V} {Q : List (Key × D) → Mp → List MO → Hp → Prop} (R : Rel K m mu H) (h : Rep K m H d v) (hp : Post K W m H (rdD d mu) Q) : ∃ a kvs vs, v = .ref a ∧ H a = some (.dK ((kvs.map (·.1)).zip vs)) ∧ Reps K m H (kvs.map (·.2)) vs ∧ Q kvs m mu H := by
  cases d <;> simp only [Rep] at h
  case fd ks ds =>
    obtain ⟨a, vs, rfl, hs, _, hl, hr⟩ := h
    refine ⟨a, ks.zip ds, vs, rfl, ?_, ?_, hp m H .refl R⟩
    · rw [List.map_fst_zip (by omega)]; exact hs
    · rw [List.map_snd_zip (by omega)]; exact hr
  case ref n =>
    obtain ⟨a, rfl, hm⟩ := h
    obtain ⟨o, ho, hr⟩ := R.at' hm
    cases o with
    | dk kvs =>
      obtain ⟨vs, hH, hr⟩ := hr
      have e : rdD (.ref n) mu = .ok kvs mu := atD_dk ho
      rw [e] at hp
      exact ⟨a, kvs, vs, rfl, hH, hr, hp m H .refl R⟩
    | lst xs =>
      have e : rdD (.ref n) mu = .bad := atD_lst ho
      rw [e] at hp
      exact hp.elim
  all_goals exact (show False from hp).elim
theorem valD_get {K : PySem.W.Frag} {m : Mp} {H : Hp} {kvs : List (Key × D)} {vs : List V} {a : Addr} (k : Key) (hH : H a = some (.dK ((kvs.map (·.1)).zip vs))) (hr : Reps K m H (kvs.map (·.2)) vs) : (∃ d v, valD kvs k = some d ∧ Rep K m H d v ∧ DGet H a (kV k) (some v)) ∨ (valD kvs k = none ∧ DGet H a (kV k) none) := by
  have q := valD_rep (k := k) (ks := kvs.map (·.1)) hr
  rw [zip_keys] at q
  have g := DGet.k (k := k) hH
  cases e : valD kvs k with
  | none =>
    rw [e] at q
    rw [show valV ((kvs.map (·.1)).zip vs) k = none from q] at g
    exact .inr ⟨rfl, g⟩
  | some d =>
    rw [e] at q
    obtain ⟨v, hv, rv⟩ := q
    rw [hv] at g
    exact .inl ⟨d, v, rfl, rv, g⟩
def gDget (x y : D) : M D := do
  let kvs ← rdD x
  let k ← toK y
  match valD kvs k with
  | some d => pure d
  | none => bad
theorem me_dget {ra rb : Env → M D} (hu : X.A.units + 1 < cLine) (ha : ME X W a ra) (hb : ME X W b rb) (hs : NoSl b := by intro _ _; rfl) : ME X W (.Subscript a b pos) (eBin gDget ra rb) := ⟨(pe_dget hu ha.pe hb.pe hs).imp fun σ H Q ⟨env, m, mu, hE, hR, hp⟩ =>
  ⟨env, m, mu, hE, hR, (Post.bind hp).mono fun x m1 mu1 H1 g1 R1 hp1 v rv => ⟨env, m1, mu1, hE.grow g1, R1, (Post.bind hp1).mono fun y m2 mu2 H2 g2 R2 hp w rw' => by
    obtain ⟨p, kvs, vs, rfl, hH, hr, hp⟩ := rdD_ok R2 (Rep.grow g2 x v rv) (Post.bind hp)
    obtain ⟨k, rfl, hp⟩ := toK_ok R2 rw' (Post.bind hp)
    rcases valD_get k hH hr with ⟨d, z, e, rz, g⟩ | ⟨e, g⟩
    · rw [e] at hp
      exact ⟨p, z, rfl, g, Post.pure hp R2 z rz⟩
    · rw [e] at hp
      exact (show False from hp).elim⟩⟩⟩
/-- in a dict -/
def gDin (neg : Bool) (y x : D) : M D := do
  let kvs ← rdD x
  let k ← toK y
  pure (.bl ((valD kvs k).isSome != neg))
theorem din_go {neg : Bool} {σ : L2.St} {ra rb : Env → M D} {H : Hp} {Q : VK} (h : tE X.K W (eBin (gDin neg) ra rb) σ H Q) : (tE X.K W ra) σ H fun y H1 => (tE X.K W rb) σ H1 fun x H2 => ∃ a o, x = .ref a ∧ DGet H2 a y o ∧ Q (.bl (o.isSome != neg)) H2 := by
  obtain ⟨env, m, mu, hE, hR, hp⟩ := h
  exact ⟨env, m, mu, hE, hR, (Post.bind hp).mono fun y m1 mu1 H1 g1 R1 hp1 v rv => ⟨env, m1, mu1, hE.grow g1, R1, (Post.bind hp1).mono fun x m2 mu2 H2 g2 R2 hp w rw' => by
    obtain ⟨p, kvs, vs, rfl, hH, hr, hp⟩ := rdD_ok R2 rw' (Post.bind hp)
    obtain ⟨k, rfl, hp⟩ := toK_ok R2 (Rep.grow g2 y v rv) (Post.bind hp)
    rcases valD_get k hH hr with ⟨d, z, e, rz, g⟩ | ⟨e, g⟩
    · rw [e] at hp
      exact ⟨p, _, rfl, g, Post.pure hp R2 _ (by simp only [Rep, Option.isSome_some])⟩
    · rw [e] at hp
      exact ⟨p, _, rfl, g, Post.pure hp R2 _ (by simp only [Rep, Option.isSome_none])⟩⟩⟩
theorem pc_dinM {ra rb : Env → M D} (hu : X.A.units + 1 < cLine) (ha : ME X W a ra) (hb : ME X W b rb) : PC X .In a b (tE X.K W (eBin (gDin false) ra rb)) := ⟨fun pins s σ H Q I h => (pc_din hu ha.pe hb.pe).run pins s σ H Q I (by
  have q := din_go h
  simp only [Bool.bne_false] at q
  exact q)⟩
theorem pc_dnotinM {ra rb : Env → M D} (hu : X.A.units + 1 < cLine) (ha : ME X W a ra) (hb : ME X W b rb) : PC X .NotIn a b (tE X.K W (eBin (gDin true) ra rb)) := ⟨fun pins s σ H Q I h => (pc_dnotin hu ha.pe hb.pe).run pins s σ H Q I (by
  have q := din_go h
  simp only [Bool.bne_true] at q
  exact q)⟩
theorem me_pc {op : CmpOp} {r : Env → M D} (h : PC X op a b (tE X.K W r)) (h1 : behindInMarks op b = false := by first | exact nobehind _ (by decide) (by decide) | rfl) : ME X W (.Compare a [op] [b] pos) r := ⟨pe_cmp h h1⟩
theorem mt_pc {op : CmpOp} {r : Env → M D} (h : PC X op a b (tE X.K W r)) (h1 : behindInMarks op b = false := by first | exact nobehind _ (by decide) (by decide) | rfl) : MT X W (.Compare a [op] [b] pos) (eB r) := ⟨(pt_cmp h h1).imp (tT_of fun _ _ _ q => q)⟩
end
end MP
namespace MP
open PySem L2 PyProof.Rows
/-! ### slices, built-ins -/
section
variable {X : Cx} {W : Wx} {e a b : Expr} {es : List Expr} {pos p : Pos}
structure MO_ (X : Cx) (W : Wx) (e : Option Expr) (r : Env → M (Option Int)) : Prop where
  po : PO X e fun σ H Q => ∃ env m mu, RepE X.K m H env σ ∧ Rel X.K m mu H ∧ Post X.K W m H (r env mu) fun o _ _ H' => Q o H'
theorem _root_.L2.PO.imp {e : Option Expr} {t t' : TO} (h : PO X e t) (i : ∀ σ H Q, t' σ H Q → t σ H Q) : PO X e t' := ⟨fun pins s σ H Q I q => h.run pins s σ H Q I (i σ H Q q)⟩
def oNone : Env → M (Option Int) := fun _ => pure none
def oSome (r : Env → M D) : Env → M (Option Int) := fun env => r env >>= fun x => toI x >>= fun i => pure (some i)
theorem mo_none : MO_ X W none oNone := ⟨po_none.imp fun σ H Q ⟨env, m, mu, hE, hR, hp⟩ => Post.pure hp hR⟩
theorem mo_some {r : Env → M D} (h : ME X W e r) : MO_ X W (some e) (oSome r) := ⟨(po_some h.pe).imp fun σ H Q ⟨env, m, mu, hE, hR, hp⟩ =>
  ⟨env, m, mu, hE, hR, (Post.bind hp).mono fun x m1 mu1 H1 g1 R1 hp v rv => by
    obtain ⟨i, rfl, rfl, hp⟩ := toI_ok R1 rv (Post.bind hp)
    exact ⟨i, rfl, Post.pure hp R1⟩⟩⟩
def cutD (xs : List D) (lo hi : Option Int) : List D := (xs.drop (HT.sIx xs.length 0 lo)).take (HT.sIx xs.length xs.length hi - HT.sIx xs.length 0 lo)
theorem cut_rep {K : PySem.W.Frag} {m : Mp} {H : Hp} {xs : List D} {vs : List V} {lo hi : Option Int} (h : Reps K m H xs vs) : Reps K m H (cutD xs lo hi) (cutV vs lo hi) := by
  unfold cutD cutV
  rw [h.length]
  exact (h.drop _).take _
def gSl (x : D) (lo hi : Option Int) : M D := match x with
  | .str z => do
    need (z.length ≤ sizeLine)
    pure (.str (cutS z lo hi))
  | .tup xs => pure (.tup (cutD xs lo hi))
  | x => do
    let xs ← rdL x
    pure (.fl (cutD xs lo hi))
def rSlM (K : PySem.W.Frag) : V → Option Int → Option Int → Hp → VK → Prop := fun x lo hi H Q => rSlS x lo hi H Q ∨ rSlA K x lo hi H Q ∨ rSlL K x lo hi H Q
theorem sl_M : SlR X (rSlM X.K) := sl_str.or (sl_tupA.or sl_list)
def eSl (r : Env → M D) (rl rh : Env → M (Option Int)) : Env → M D := fun env => r env >>= fun x => rl env >>= fun lo => rh env >>= fun hi => gSl x lo hi
theorem cut_whole {vs : List V} {lo hi : Option Int} (h : HT.sIx vs.length 0 lo = 0 ∧ HT.sIx vs.length vs.length hi = vs.length) : cutV vs lo hi = vs := by
  unfold cutV
  rw [h.1, h.2, List.drop_zero, Nat.sub_zero, List.take_length]
theorem slice_go {x : D} {v : V} {l u : Option Int} {m3 : Mp} {mu3 : List MO} {H3 : Hp} {Q : VK} (R3 : Rel X.K m3 mu3 H3) (rv3 : Rep X.K m3 H3 x v) (hp : Post X.K W m3 H3 (gSl x l u mu3) fun d m' _ H' => ∀ u, Rep X.K m' H' d u → Q u H') : rSlM X.K v l u H3 Q := by
    have lst : ∀ x, Rep X.K m3 H3 x v → Post X.K W m3 H3 ((do let xs ← rdL x; pure (D.fl (cutD xs l u))) mu3) (fun d m' _ H' => ∀ u, Rep X.K m' H' d u → Q u H') → rSlM X.K v l u H3 Q := fun x rv3 hp => by
      obtain ⟨a, xs, vs, rfl, hs, hr, _, hp⟩ := rdL_ok R3 rv3 (Post.bind hp)
      refine .inr (.inr ⟨a, vs, rfl, hs, fun p hn => ?_⟩)
      obtain ⟨g, R', rp⟩ := new_fl R3 (cut_rep (lo := l) (hi := u) hr) hn
      exact hp m3 _ g R' _ rp
    cases x
    case str z =>
      obtain ⟨c, hp⟩ := need_ok R3 (Post.bind hp)
      simp only [Rep] at rv3
      exact .inl ⟨z, rv3, c, Post.pure hp R3 _ (by simp only [Rep])⟩
    case tup xs =>
      simp only [Rep] at rv3
      obtain ⟨a, vs, rfl, hs, hr⟩ := rv3
      refine .inr (.inl ⟨a, vs, rfl, hs, fun hw => ?_, fun _ p hn => ?_⟩)
      · refine Post.pure hp R3 _ ?_
        simp only [Rep]
        exact ⟨a, vs, rfl, hs, by have q := cut_rep (lo := l) (hi := u) hr; rw [cut_whole hw] at q; exact q⟩
      · obtain ⟨g, R', rp⟩ := new_tup R3 (cut_rep (lo := l) (hi := u) hr) hn
        exact hp m3 _ g R' _ rp
    all_goals exact lst _ rv3 hp
theorem me_slice {p2 : Pos} {lo hi : Option Expr} {r : Env → M D} {rl rh : Env → M (Option Int)} (h : ME X W e r) (hl : MO_ X W lo rl) (hh : MO_ X W hi rh) : ME X W (.Subscript e (.Slice lo hi none p2) pos) (eSl r rl rh) := ⟨(pe_slice sl_M h.pe hl.po hh.po).imp fun σ H Q ⟨env, m, mu, hE, hR, hp⟩ =>
  ⟨env, m, mu, hE, hR, (Post.bind hp).mono fun x m1 mu1 H1 g1 R1 hpa v rv => ⟨env, m1, mu1, hE.grow g1, R1, (Post.bind hpa).mono fun l m2 mu2 H2 g2 R2 hpb => ⟨env, m2, mu2, (hE.grow g1).grow g2, R2, (Post.bind hpb).mono fun u m3 mu3 H3 g3 R3 hpc => slice_go R3 (Rep.grow g3 x v (Rep.grow g2 x v rv)) hpc⟩⟩⟩⟩
/-- .. of a list, as a new list -/
def fSl (r : Env → M D) (rl rh : Env → M (Option Int)) : Env → M (List D) := fun env => r env >>= fun x => rl env >>= fun lo => rh env >>= fun hi => rdL x >>= fun xs => pure (cutD xs lo hi)
theorem mf_slice {p2 : Pos} {lo hi : Option Expr} {r : Env → M D} {rl rh : Env → M (Option Int)} (h : ME X W e r) (hl : MO_ X W lo rl) (hh : MO_ X W hi rh) : MF X W (.Subscript e (.Slice lo hi none p2) pos) (fSl r rl rh) := ⟨(pe_slice sl_list h.pe hl.po hh.po).imp fun σ H Q ⟨env, m, mu, hE, hR, hp⟩ =>
  ⟨env, m, mu, hE, hR, (Post.bind hp).mono fun x m1 mu1 H1 g1 R1 hp v rv => ⟨env, m1, mu1, hE.grow g1, R1, (Post.bind hp).mono fun l m2 mu2 H2 g2 R2 hp => ⟨env, m2, mu2, (hE.grow g1).grow g2, R2, (Post.bind hp).mono fun u m3 mu3 H3 g3 R3 hp => by
    obtain ⟨a, xs, vs, rfl, hs, hr, _, hp⟩ := rdL_ok R3 (Rep.grow g3 x v (Rep.grow g2 x v rv)) (Post.bind hp)
    exact ⟨a, vs, rfl, hs, tF_new ((g1.trans g2).trans g3) R3 (cut_rep hr) hp⟩⟩⟩⟩⟩
/-- xs + ys, a new list -/
def fCat (ra rb : Env → M D) : Env → M (List D) := fun env => ra env >>= fun x => rb env >>= fun y => rdM x >>= fun xs => rdM y >>= fun ys => need (xs.length + ys.length ≤ sizeLine) >>= fun _ => pure (xs ++ ys)
theorem mf_cat {ra rb : Env → M D} (ha : ME X W a ra) (hb : ME X W b rb) : MF X W (.BinOp a .Add b pos) (fCat ra rb) := ⟨(pe_op op_cat ha.pe hb.pe).imp fun σ H Q ⟨env, m, mu, hE, hR, hp⟩ =>
  ⟨env, m, mu, hE, hR, (Post.bind hp).mono fun x m1 mu1 H1 g1 R1 hp1 v rv => ⟨env, m1, mu1, hE.grow g1, R1, (Post.bind hp1).mono fun y m2 mu2 H2 g2 R2 hp w rw' => by
    obtain ⟨a, xs, vs, rfl, ha, ra, ea, hp⟩ := rdM_ok R2 (Rep.grow g2 x v rv) (Post.bind hp)
    obtain ⟨b, ys, ws, rfl, hb, rb, eb, hp⟩ := rdM_ok R2 rw' (Post.bind hp)
    obtain ⟨c, hp⟩ := need_ok R2 (Post.bind hp)
    exact ⟨a, b, vs, ws, rfl, rfl, ha, hb, by rw [← ra.length, ← rb.length]; exact c, tF_new (g1.trans g2) R2 (ra.append rb) hp⟩⟩⟩⟩

/-! ### built-ins by their values -/
structure CallM (K : PySem.W.Frag) (W : Wx) (r : List V → Hp → VK → Prop) (g : List D → M D) : Prop where
  go : ∀ (ds : List D) (vs : List V) (m : Mp) (mu : List MO) (H : Hp) (Q : VK), Rel K m mu H → Reps K m H ds vs → Post K W m H (g ds mu) (fun d m' _ H' => ∀ u, Rep K m' H' d u → Q u H') → r vs H Q
theorem tCB_of {r : List V → Hp → VK → Prop} {g : List D → M D} {rs : Env → M (List D)} (c : CallM X.K W r g) : ∀ σ H Q, tE X.K W (aThen g rs) σ H Q → tCB r (tA X.K W rs) σ H Q := fun σ H Q ⟨env, m, mu, hE, hR, hp⟩ =>
  ⟨env, m, mu, hE, hR, (Post.bind hp).mono fun xs m1 mu1 H1 g1 R1 hp vs rv => c.go xs vs m1 mu1 H1 Q R1 rv hp⟩
/-- one argument -/
def g1 (g : D → M D) : List D → M D
  | [x] => g x
  | _ => bad
def g2 (g : D → D → M D) : List D → M D
  | [x, y] => g x y
  | _ => bad
theorem callM1 {r : List V → Hp → VK → Prop} {g : D → M D} {K : PySem.W.Frag} (h : ∀ (x : D) (v : V) (m : Mp) (mu : List MO) (H : Hp) (Q : VK), Rel K m mu H → Rep K m H x v → Post K W m H (g x mu) (fun d m' _ H' => ∀ u, Rep K m' H' d u → Q u H') → r [v] H Q) : CallM K W r (g1 g) := ⟨fun ds vs m mu H Q R hr hp => by
  match ds, hr, hp with
  | [x], hr, hp =>
    obtain ⟨v, r', rfl, h1, h2⟩ := Reps.cons_iff.mp hr
    rw [Reps.nil_iff] at h2
    subst h2
    exact h x v m mu H Q R h1 hp
  | [], _, hp => exact (show False from hp).elim
  | _ :: _ :: _, _, hp => exact (show False from hp).elim⟩
theorem callM2 {r : List V → Hp → VK → Prop} {g : D → D → M D} {K : PySem.W.Frag} (h : ∀ (x y : D) (v w : V) (m : Mp) (mu : List MO) (H : Hp) (Q : VK), Rel K m mu H → Rep K m H x v → Rep K m H y w → Post K W m H (g x y mu) (fun d m' _ H' => ∀ u, Rep K m' H' d u → Q u H') → r [v, w] H Q) : CallM K W r (g2 g) := ⟨fun ds vs m mu H Q R hr hp => by
  match ds, hr, hp with
  | [x, y], hr, hp =>
    obtain ⟨v, r', rfl, h1, h2⟩ := Reps.cons_iff.mp hr
    obtain ⟨w, r2, rfl, h3, h4⟩ := Reps.cons_iff.mp h2
    rw [Reps.nil_iff] at h4
    subst h4
    exact h x y v w m mu H Q R h1 h3 hp
  | [], _, hp => exact (show False from hp).elim
  | [_], _, hp => exact (show False from hp).elim
  | _ :: _ :: _ :: _, _, hp => exact (show False from hp).elim⟩
/-- len -/
def gLen : D → M D
  | .str z => do
    need (z.length ≤ sizeLine)
    pure (.int z.length)
  | .fd ks xs => pure (.int xs.length)
  | .ref n => fun mu => match mu[n]? with
    | some (.lst xs) => .ok (.int xs.length) mu
    | some (.dk kvs) => .ok (.int kvs.length) mu
    | none => .bad
  | x => do
    let xs ← rdQ x
    pure (.int xs.length)
def rLenM (K : PySem.W.Frag) : List V → Hp → VK → Prop := fun xs H Q => (∃ x n, xs = [x] ∧ LenV K x H n ∧ Q (.int n) H) ∨ ∃ a kvs, xs = [V.ref a] ∧ H a = some (.dK kvs) ∧ Q (.int kvs.length) H
theorem call_lenM : CallR X (.builtin "len") (rLenM X.K) := call_len.or call_lenD
theorem callM_len : CallM X.K W (rLenM X.K) (g1 gLen) := callM1 fun x v m mu H Q R hx hp => by
  have seq : ∀ x, Rep X.K m H x v → Post X.K W m H ((do let xs ← rdQ x; pure (D.int xs.length)) mu) (fun d m' _ H' => ∀ u, Rep X.K m' H' d u → Q u H') → rLenM X.K [v] H Q := fun x hx hp => by
    obtain ⟨a, xs, vs, rfl, hs, hr, hp⟩ := rdQ_ok R hx (Post.bind hp)
    refine .inl ⟨_, vs.length, rfl, ?_, ?_⟩
    · rcases hs with hs | hs
      · exact .inl ⟨vs, hs, rfl⟩
      · exact .inr ⟨vs, hs, rfl⟩
    · rw [← hr.length]
      exact Post.pure hp R _ (by simp only [Rep])
  cases x
  case str z =>
    obtain ⟨c, hp⟩ := need_ok R (Post.bind hp)
    simp only [Rep] at hx
    exact .inl ⟨v, z.length, rfl, by rw [hx]; exact ⟨c, rfl⟩, Post.pure hp R _ (by simp only [Rep])⟩
  case fd ks xs =>
    simp only [Rep] at hx
    obtain ⟨a, vs, rfl, hs, _, hl, hr⟩ := hx
    refine .inr ⟨a, _, rfl, hs, ?_⟩
    rw [List.length_zip, ← hr.length, hl, Nat.min_self]
    exact Post.pure hp R _ (by simp only [Rep])
  case ref n =>
    simp only [Rep] at hx
    obtain ⟨a, rfl, hm⟩ := hx
    obtain ⟨o, ho, hr⟩ := R.at' hm
    have e : gLen (.ref n) mu = (match mu[n]? with
      | some (.lst xs) => MP.R.ok (.int xs.length) mu
      | some (.dk kvs) => .ok (.int kvs.length) mu
      | none => .bad) := rfl
    rw [e, ho] at hp
    cases o with
    | lst xs =>
      obtain ⟨vs, hH, hr⟩ := hr
      refine .inl ⟨_, vs.length, rfl, .inl ⟨vs, .of hH, rfl⟩, ?_⟩
      rw [← hr.length]
      exact hp m H .refl R _ (by simp only [Rep])
    | dk kvs =>
      obtain ⟨vs, hH, hr⟩ := hr
      refine .inr ⟨a, _, rfl, hH, ?_⟩
      have := hr.length
      rw [List.length_map] at this
      rw [List.length_zip, List.length_map, ← this, Nat.min_self]
      exact hp m H .refl R _ (by simp only [Rep])
  all_goals exact seq _ hx hp
/-- abs, int -/
def gAbs (x : D) : M D := do
  let i ← toI x
  pure (.int (if i < 0 then -i else i))
theorem callM_abs : CallM X.K W (fun xs H Q => ∃ i, xs = [.int i] ∧ Q (.int (if i < 0 then -i else i)) H) (g1 gAbs) := callM1 fun x v m mu H Q R hx hp => by
  obtain ⟨i, rfl, rfl, hp⟩ := toI_ok R hx (Post.bind hp)
  exact ⟨i, rfl, Post.pure hp R _ (by simp only [Rep])⟩
def gInt : D → M D
  | .bl b => pure (.int (b2n b))
  | x => do
    let i ← toI x
    pure (.int i)
theorem callM_int : CallM X.K W (fun xs H Q => (∃ i, xs = [.int i] ∧ Q (.int i) H) ∨ ∃ k, xs = [.bl k] ∧ Q (.int (if k then 1 else 0)) H) (g1 gInt) := callM1 fun x v m mu H Q R hx hp => by
  have oth : ∀ x, Rep X.K m H x v → Post X.K W m H ((do let i ← toI x; pure (D.int i)) mu) (fun d m' _ H' => ∀ u, Rep X.K m' H' d u → Q u H') → (∃ i, [v] = [V.int i] ∧ Q (.int i) H) := fun x hx hp => by
    obtain ⟨i, rfl, rfl, hp⟩ := toI_ok R hx (Post.bind hp)
    exact ⟨i, rfl, Post.pure hp R _ (by simp only [Rep])⟩
  cases x
  case bl b =>
    simp only [Rep] at hx
    refine .inr ⟨b, by rw [hx], Post.pure hp R _ (by simp only [Rep]; cases b <;> rfl)⟩
  all_goals exact .inl (oth _ hx hp)
/-- tuple(x) of a list or a tuple -/
def gTuple (x : D) : M D := do
  let xs ← rdQ x
  pure (.tup xs)
theorem callM_tuple : CallM X.K W (fun xs H Q => ∃ p ys, xs = [.ref p] ∧ ((SqL X.K H p ys ∧ ∀ l, H l = none → Q (.ref l) (upd H l (.tup ys))) ∨ (SqT X.K H p ys ∧ Q (.ref p) H))) (g1 gTuple) := callM1 fun x v m mu H Q R hx hp => by
  obtain ⟨a, xs, vs, rfl, hs, hr, hp⟩ := rdQ_ok R hx (Post.bind hp)
  refine ⟨a, vs, rfl, ?_⟩
  rcases hs with hs | hs
  · refine .inl ⟨hs, fun p hn => ?_⟩
    obtain ⟨g, R', rp⟩ := new_tup R hr hn
    exact hp m _ g R' _ rp
  · exact .inr ⟨hs, Post.pure hp R _ (by simp only [Rep]; exact ⟨a, vs, rfl, hs, hr⟩)⟩
/-- list(x) -/
def fThen1 (g : D → M (List D)) (rs : Env → M (List D)) : Env → M (List D) := fun env => rs env >>= fun xs => match xs with
  | [x] => g x
  | _ => bad
theorem mf_list1 {rs : Env → M (List D)} {x : Str} (hg : Gl X x) (hm : X.mg x = none) (hv : bootBuiltins x = some (.type "list")) (h : MA X W (e :: es) rs) (hn : x ≠ "__name__" := by decide) (hdb : (x == ("__debug__" : Str)) = false := by decide)
    (he : starEach (e :: es) X.env = (false, eval e X.env) :: starEach es X.env := by rfl) (hpl : (backTo pos (starEach es X.env)).any (·.1) = false := by rfl) : MF X W (.Call (.Name x p) (e :: es) [] pos) (fThen1 rdQ rs) :=
  ⟨(pe_callTy call_list_of hg hm hv h.pa hn hdb he hpl).imp fun σ H Q ⟨env, m, mu, hE, hR, hp⟩ => ⟨env, m, mu, hE, hR, (Post.bind hp).mono fun xs m1 mu1 H1 g1 R1 hp vs rv => by
    match xs, rv, hp with
    | [x], rv, hp =>
      obtain ⟨v, r', rfl, h1, h2⟩ := Reps.cons_iff.mp rv
      rw [Reps.nil_iff] at h2
      subst h2
      have hp2 : Post X.K W m1 H1 ((rdQ x >>= fun ys => pure ys) mu1) fun ds m' mu' H' => NewL X.K H ds m' mu' H' Q := by
        have e : (rdQ x >>= fun ys => pure ys) mu1 = rdQ x mu1 := by rw [M.bind_def]; cases rdQ x mu1 <;> rfl
        rw [e]; exact hp
      obtain ⟨a, ys, vs, rfl, hs, hr, hp⟩ := rdQ_ok R1 h1 (Post.bind hp2)
      exact ⟨a, vs, rfl, hs, tF_new g1 R1 hr hp⟩
    | [], _, hp => exact (show False from hp).elim
    | _ :: _ :: _, _, hp => exact (show False from hp).elim⟩⟩
theorem me_callB {x : Str} {id : String} {r : List V → Hp → VK → Prop} {g : List D → M D} {rs : Env → M (List D)} (hc : CallR X (.builtin id) r) (c : CallM X.K W r g) (hg : Gl X x) (hm : X.mg x = none) (hv : bootBuiltins x = some (.builtin id)) (h : MA X W (e :: es) rs) (hn : x ≠ "__name__" := by decide) (hdb : (x == ("__debug__" : Str)) = false := by decide)
    (he : starEach (e :: es) X.env = (false, eval e X.env) :: starEach es X.env := by rfl) (hpl : (backTo pos (starEach es X.env)).any (·.1) = false := by rfl) : ME X W (.Call (.Name x p) (e :: es) [] pos) (aThen g rs) := ⟨(pe_callB hc hg hm hv h.pa hn hdb he hpl).imp (tCB_of c)⟩
theorem me_callTy {x : Str} {T : String} {r : List V → Hp → VK → Prop} {g : List D → M D} {rs : Env → M (List D)} (hc : CallR X (.type T) r) (c : CallM X.K W r g) (hg : Gl X x) (hm : X.mg x = none) (hv : bootBuiltins x = some (.type T)) (h : MA X W (e :: es) rs) (hn : x ≠ "__name__" := by decide) (hdb : (x == ("__debug__" : Str)) = false := by decide)
    (he : starEach (e :: es) X.env = (false, eval e X.env) :: starEach es X.env := by rfl) (hpl : (backTo pos (starEach es X.env)).any (·.1) = false := by rfl) : ME X W (.Call (.Name x p) (e :: es) [] pos) (aThen g rs) := ⟨(pe_callTy hc hg hm hv h.pa hn hdb he hpl).imp (tCB_of c)⟩
/-- all, any of a list of truth values -/
def toBs : List D → M (List Bool)
  | [] => pure []
  | x :: xs => toB x >>= fun b => toBs xs >>= fun bs => pure (b :: bs)
theorem toBs_ok {K : PySem.W.Frag} {m : Mp} {H : Hp} {mu : List MO} (R : Rel K m mu H) : ∀ {xs : List D} {vs : List V} {Q : List Bool → Mp → List MO → Hp → Prop}, Reps K m H xs vs → Post K W m H (toBs xs mu) Q → ∃ bs, vs = bs.map V.bl ∧ Q bs m mu H
  | [], vs, Q, h, hp => by rw [Reps.nil_iff] at h; subst h; exact ⟨[], rfl, Post.pure hp R⟩
  | x :: xs, vs, Q, h, hp => by
    obtain ⟨v, r, rfl, h1, h2⟩ := Reps.cons_iff.mp h
    obtain ⟨b, rfl, rfl, hp⟩ := toB_ok R h1 (Post.bind hp)
    obtain ⟨bs, rfl, hp⟩ := toBs_ok R h2 (Post.bind hp)
    exact ⟨b :: bs, rfl, Post.pure hp R⟩
def gAll (x : D) : M D := do
  let xs ← rdL x
  let bs ← toBs xs
  pure (.bl (bs.all id))
def gAny (x : D) : M D := do
  let xs ← rdL x
  let bs ← toBs xs
  pure (.bl (bs.any id))
theorem callM_all : CallM X.K W (rAll X.K) (g1 gAll) := callM1 fun x v m mu H Q R hx hp => by
  obtain ⟨a, xs, vs, rfl, hs, hr, _, hp⟩ := rdL_ok R hx (Post.bind hp)
  obtain ⟨bs, rfl, hp⟩ := toBs_ok R hr (Post.bind hp)
  exact ⟨a, bs, rfl, hs, Post.pure hp R _ (by simp only [Rep])⟩
theorem callM_any : CallM X.K W (rAny X.K) (g1 gAny) := callM1 fun x v m mu H Q R hx hp => by
  obtain ⟨a, xs, vs, rfl, hs, hr, _, hp⟩ := rdL_ok R hx (Post.bind hp)
  obtain ⟨bs, rfl, hp⟩ := toBs_ok R hr (Post.bind hp)
  exact ⟨a, bs, rfl, hs, Post.pure hp R _ (by simp only [Rep])⟩
/-- sum, max, min of a list of ints -/
def toIs : List D → M (List Int)
  | [] => pure []
  | x :: xs => toI x >>= fun b => toIs xs >>= fun bs => pure (b :: bs)
theorem toIs_ok {K : PySem.W.Frag} {m : Mp} {H : Hp} {mu : List MO} (R : Rel K m mu H) : ∀ {xs : List D} {vs : List V} {Q : List Int → Mp → List MO → Hp → Prop}, Reps K m H xs vs → Post K W m H (toIs xs mu) Q → ∃ bs, vs = bs.map V.int ∧ Q bs m mu H
  | [], vs, Q, h, hp => by rw [Reps.nil_iff] at h; subst h; exact ⟨[], rfl, Post.pure hp R⟩
  | x :: xs, vs, Q, h, hp => by
    obtain ⟨v, r, rfl, h1, h2⟩ := Reps.cons_iff.mp h
    obtain ⟨b, rfl, rfl, hp⟩ := toI_ok R h1 (Post.bind hp)
    obtain ⟨bs, rfl, hp⟩ := toIs_ok R h2 (Post.bind hp)
    exact ⟨b :: bs, rfl, Post.pure hp R⟩
def gSum (x : D) : M D := do
  let xs ← rdL x
  let bs ← toIs xs
  pure (.int bs.sum)
theorem callM_sum : CallM X.K W (rSum X.K) (g1 gSum) := callM1 fun x v m mu H Q R hx hp => by
  obtain ⟨a, xs, vs, rfl, hs, hr, _, hp⟩ := rdL_ok R hx (Post.bind hp)
  obtain ⟨bs, rfl, hp⟩ := toIs_ok R hr (Post.bind hp)
  exact ⟨a, bs, rfl, hs, Post.pure hp R _ (by simp only [Rep])⟩
/-- max, min of two ints -/
theorem callM_max2 : CallM X.K W (fun xs H Q => ∃ i j, xs = [.int i, .int j] ∧ Q (.int (if j > i then j else i)) H) (g2 (gII cAny fun i j => .int (if j > i then j else i))) := callM2 fun x y v w m mu H Q R hx hy hp => by
  obtain ⟨i, rfl, rfl, hp⟩ := toI_ok R hx (Post.bind hp)
  obtain ⟨j, rfl, rfl, hp⟩ := toI_ok R hy (Post.bind hp)
  obtain ⟨_, hp⟩ := need_ok R (Post.bind hp)
  exact ⟨i, j, rfl, Post.pure hp R _ (by simp only [Rep])⟩
theorem callM_min2 : CallM X.K W (fun xs H Q => ∃ i j, xs = [.int i, .int j] ∧ Q (.int (if j < i then j else i)) H) (g2 (gII cAny fun i j => .int (if j < i then j else i))) := callM2 fun x y v w m mu H Q R hx hy hp => by
  obtain ⟨i, rfl, rfl, hp⟩ := toI_ok R hx (Post.bind hp)
  obtain ⟨j, rfl, rfl, hp⟩ := toI_ok R hy (Post.bind hp)
  obtain ⟨_, hp⟩ := need_ok R (Post.bind hp)
  exact ⟨i, j, rfl, Post.pure hp R _ (by simp only [Rep])⟩
end
end MP
namespace MP
open PySem L2 PyProof.Rows
/-! ### what is walked -/
/-- at each turn the iterator gives the data in their order; g: a list of the small heap that must not change meanwhile -/
def ItOk (K : PySem.W.Frag) (g : List (Nat × List D)) (its : List D) (J : It) (m0 : Mp) (H0 : Hp) : Prop := ∀ (m : Mp) (mu : List MO) (H : Hp), Grow m0 m H0 H → Rel K m mu H → (∀ p ∈ g, mu[p.1]? = some (.lst p.2)) →
  (∀ i, its.length ≤ i → J.stop i H) ∧ ∀ (i : Nat) (d : D), its[i]? = some d → J.go i H ∧ ∀ x H', J.yld i H x H' → Grow m m H H' ∧ Rel K m mu H' ∧ Rep K m H' d x
/-- the items, and the lists of the small heap that are walked -/
abbrev Wk := List D × List (Nat × List D)
def tI (K : PySem.W.Frag) (W : Wx) (r : Env → M Wk) : TI := fun σ H R => ∃ env m mu, RepE K m H env σ ∧ Rel K m mu H ∧ Post K W m H (r env mu) fun p m' _ H' => p.1.length ≤ sizeLine → ∀ J, ItOk K p.2 p.1 J m' H' → R J H'
structure MI (X : Cx) (W : Wx) (tg iter : Expr) (r : Env → M Wk) : Prop where
  pi : PI X tg iter (tI X.K W r)
/-- sizes that hold wherever the abstract heap is held -/
def Sz (K : PySem.W.Frag) (H : Hp) : Prop := (∀ a xs, SqL K H a xs → xs.length ≤ sizeLine) ∧ ∀ a xs, SqT K H a xs → xs.length ≤ sizeLine
section
variable {X : Cx} {W : Wx} {e a b tg iter : Expr} {es : List Expr} {pos p : Pos}
theorem sz_of {pins : List (Addr × Obj)} {σ : L2.St} {H : Hp} {s : Shared} (I : Inv X pins σ H s) : Sz X.K H := ⟨fun a xs h => let ⟨_, _, _, z⟩ := I.list h; z, fun a xs h => let ⟨_, _, _, z⟩ := I.tuple h; z⟩
theorem pi_sz {t : TI} (h : PI X tg iter t) : PI X tg iter (fun σ H R => t σ H fun J H' => Sz X.K H' → R J H') := ⟨fun pins s σ H R I q =>
  thn (h.run pins s σ H _ I q) fun v s1 h1 => thn h1 fun itv s2 ⟨it, fp, tn, J, H', e, I2, T, st, f2, q2⟩ => ⟨it, fp, tn, J, H', e, I2, T, st, f2, q2 (sz_of I2)⟩⟩
theorem pe_sz {t : TE} (h : PE X e t) : PE X e (fun σ H Q => t σ H fun v H' => Sz X.K H' → Q v H') := ⟨fun pins s σ H Q I q =>
  thn (h.run pins s σ H _ I q) fun v s1 ⟨x, H1, I1, r, q1⟩ => ⟨x, H1, I1, r, q1 (sz_of I1)⟩⟩
theorem pi_imp {t t' : TI} (h : PI X tg iter t) (i : ∀ σ H R, t' σ H R → t σ H R) : PI X tg iter t' := ⟨fun pins s σ H R I q => h.run pins s σ H R I (i σ H R q)⟩
theorem pi_or {t t' : TI} (h : PI X tg iter t) (h' : PI X tg iter t') : PI X tg iter (fun σ H R => t σ H R ∨ t' σ H R) := ⟨fun pins s σ H R I q => q.elim (h.run pins s σ H R I) (h'.run pins s σ H R I)⟩
theorem itOk_list {K : PySem.W.Frag} {m0 : Mp} {H0 : Hp} {ds : List D} {vs : List V} {a : Addr} {g : List (Nat × List D)} (hk : ∀ (m : Mp) (mu : List MO) (H : Hp), Grow m0 m H0 H → Rel K m mu H → (∀ p ∈ g, mu[p.1]? = some (.lst p.2)) → ∃ vs, SqL K H a vs ∧ Reps K m H ds vs) : ItOk K g ds (Itl K a) m0 H0 := fun m mu H gr R hg => by
  obtain ⟨vs, hs, hr⟩ := hk m mu H gr R hg
  refine ⟨fun i hi => ⟨vs, hs, by rw [← hr.length]; exact hi⟩, fun i d hd => ?_⟩
  obtain ⟨v, hv, rv⟩ := hr.get hd
  refine ⟨⟨vs, v, hs, hv⟩, fun x H' y => ?_⟩
  obtain ⟨e, y⟩ := y
  subst e
  have e2 := y vs hs
  rw [hv] at e2
  cases e2
  exact ⟨.refl, R, rv⟩
theorem itOk_tup {K : PySem.W.Frag} {m0 : Mp} {H0 : Hp} {ds : List D} {vs : List V} {a : Addr} (hs : SqT K H0 a vs) (hr : Reps K m0 H0 ds vs) : ItOk K [] ds (Itt K a) m0 H0 := fun m mu H gr R hg => by
  have hs' := gr.sqT hs
  have hr' := Reps.grow gr ds vs hr
  refine ⟨fun i hi => ⟨vs, hs', by rw [← hr.length]; exact hi⟩, fun i d hd => ?_⟩
  obtain ⟨v, hv, rv⟩ := hr'.get hd
  refine ⟨⟨vs, v, hs', hv⟩, fun x H' y => ?_⟩
  obtain ⟨e, y⟩ := y
  subst e
  have e2 := y vs hs'
  rw [hv] at e2
  cases e2
  exact ⟨.refl, R, rv⟩
/-- the items of a walked thing -/
def walkD : D → M Wk
  | .tup xs => pure (xs, [])
  | .fl xs => pure (xs, [])
  | .ro xs => pure (xs, [])
  | .ref n => fun mu => match atL mu n with
    | .ok xs mu => .ok (xs, [(n, xs)]) mu
    | _ => .bad
  | .str z => do
    need (z.length ≤ sizeLine)
    pure (z.cps.toList.map fun c => D.str ⟨#[c]⟩, [])
  | _ => bad
def eWalk (r : Env → M D) : Env → M Wk := fun env => r env >>= walkD
theorem mi_seq {r : Env → M D} (h : ME X W iter r) : MI X W tg iter (eWalk r) := ⟨pi_imp (pi_sz (pi_or (pi_list h.pe) (pi_or (pi_tup h.pe) (pi_str h.pe)))) fun σ H Q ⟨env, m, mu, hE, hR, hp⟩ => by
  have e0 : eWalk r env mu = M.bind (r env) walkD mu := rfl
  rw [e0] at hp
  unfold M.bind at hp
  cases hr : r env mu with
  | exc x mu1 => rw [hr] at hp; exact .inl ⟨env, m, mu, hE, hR, by rw [hr]; exact hp⟩
  | bad => rw [hr] at hp; exact hp.elim
  | ok x mu1 =>
    rw [hr] at hp
    cases x
    case tup xs =>
      refine .inr (.inl ⟨env, m, mu, hE, hR, ?_⟩)
      rw [hr]
      intro m' H' g R v rv
      simp only [Rep] at rv
      obtain ⟨a, vs, rfl, hs, hq⟩ := rv
      refine ⟨a, rfl, ⟨vs, hs⟩, fun sz => hp m' H' g R (by show xs.length ≤ _; rw [hq.length]; exact sz.2 a vs hs) _ (itOk_tup hs hq)⟩
    case fl xs =>
      refine .inl ⟨env, m, mu, hE, hR, ?_⟩
      rw [hr]
      intro m' H' g R v rv
      simp only [Rep] at rv
      obtain ⟨a, vs, rfl, hs, hn, hq⟩ := rv
      exact ⟨a, rfl, ⟨vs, .of hs⟩, fun sz => hp m' H' g R (by show xs.length ≤ _; rw [hq.length]; exact sz.1 a vs (.of hs)) _ (itOk_list (vs := vs) (fun m mu H gr R hg => ⟨vs, .of (gr.oth a _ hs hn.1), Reps.grow gr xs vs hq⟩))⟩
    case ro xs =>
      refine .inl ⟨env, m, mu, hE, hR, ?_⟩
      rw [hr]
      intro m' H' g R v rv
      simp only [Rep] at rv
      obtain ⟨a, vs, rfl, hs, hq⟩ := rv
      exact ⟨a, rfl, ⟨vs, hs.sqL⟩, fun sz => hp m' H' g R (by show xs.length ≤ _; rw [hq.length]; exact sz.1 a vs hs.sqL) _ (itOk_list (vs := vs) (fun m mu H gr R hg => ⟨vs, (gr.roAt hs).sqL, Reps.grow gr xs vs hq⟩))⟩
    case ref n =>
      refine .inl ⟨env, m, mu, hE, hR, ?_⟩
      rw [hr]
      intro m' H' g R v rv
      simp only [Rep] at rv
      obtain ⟨a, rfl, hm⟩ := rv
      obtain ⟨o, ho, hro⟩ := R.at' hm
      have e1 : walkD (.ref n) mu1 = match atL mu1 n with
        | .ok xs mu => MP.R.ok (xs, [(n, xs)]) mu
        | _ => .bad := rfl
      have hp : Post X.K W m H (walkD (.ref n) mu1) fun p m' _ H' => p.1.length ≤ sizeLine → ∀ J, ItOk X.K p.2 p.1 J m' H' → Q J H' := hp
      rw [e1] at hp
      cases o with
      | dk kvs => rw [atL_dk ho] at hp; exact (show False from hp).elim
      | lst xs =>
        rw [atL_lst ho] at hp
        obtain ⟨vs, hH, hq⟩ := hro
        refine ⟨a, rfl, ⟨vs, .of hH⟩, fun sz => hp m' H' g R (by show xs.length ≤ _; rw [hq.length]; exact sz.1 a vs (.of hH)) _ (itOk_list (vs := vs) (fun m mu H gr R hg => ?_))⟩
        obtain ⟨ws, h1, h2⟩ := R.obj n _ a (hg (n, xs) (by simp)) (gr.get hm)
        exact ⟨ws, .of h1, h2⟩
    case str z =>
      refine .inr (.inr ⟨env, m, mu, hE, hR, ?_⟩)
      rw [hr]
      intro m' H' g R v rv
      simp only [Rep] at rv
      refine ⟨z, rv, fun sz => ?_⟩
      have hp : Post X.K W m H ((need (z.length ≤ sizeLine) >>= fun _ => (pure (z.cps.toList.map fun c => D.str ⟨#[c]⟩, []) : M Wk)) mu1) fun p m' _ H' => p.1.length ≤ sizeLine → ∀ J, ItOk X.K p.2 p.1 J m' H' → Q J H' := hp
      obtain ⟨hz, hp⟩ := need_ok R (Post.bind (hp.grow g))
      have ok : ItOk X.K [] (z.cps.toList.map fun c => D.str ⟨#[c]⟩) (Its z) m' H' := fun m2 mu2 H2 gr R2 hg => by
        refine ⟨fun i hi => by show z.cps.size ≤ i; simpa using hi, fun i d hd => ?_⟩
        rw [List.getElem?_map] at hd
        obtain ⟨c, hc, ed⟩ := Option.map_eq_some_iff.mp hd
        have hc' : z.cps[i]? = some c := by simpa using hc
        refine ⟨by show i < z.cps.size; exact (Array.getElem?_eq_some_iff.mp hc').1, fun x H' y => ?_⟩
        obtain ⟨e1, c2, h2, e2⟩ := y
        rw [hc'] at h2
        cases h2
        subst e1 e2 ed
        exact ⟨.refl, R2, by simp only [Rep]⟩
      exact Post.pure hp R (by show (z.cps.toList.map _).length ≤ _; rw [List.length_map, Array.length_toList]; exact hz) _ ok
    all_goals exact (show False from hp).elim⟩
/-- range(n), range(a, b) -/
def rngD (lo : Int) (n : Nat) : List D := (List.range n).map fun (i : Nat) => D.int (lo + (i : Int))
theorem itOk_range {K : PySem.W.Frag} {lo : Int} {n : Nat} {m0 : Mp} {H0 : Hp} : ItOk K [] (rngD lo n) (Itr lo n) m0 H0 := fun m mu H gr R hg => by
  refine ⟨fun i hi => by show n ≤ i; unfold rngD at hi; simpa using hi, fun i d hd => ?_⟩
  unfold rngD at hd
  rw [List.getElem?_map] at hd
  obtain ⟨c, hc, ed⟩ := Option.map_eq_some_iff.mp hd
  obtain ⟨hi, ei⟩ := List.getElem?_eq_some_iff.mp hc
  rw [List.getElem_range] at ei
  subst ei ed
  rw [List.length_range] at hi
  refine ⟨hi, fun x H' y => ?_⟩
  obtain ⟨e1, e2⟩ := y
  subst e1 e2
  exact ⟨.refl, R, by simp only [Rep]⟩
def wRng1 : List D → M Wk
  | [x] => do
    let n ← toI x
    need (-16777216 ≤ n ∧ n ≤ 16777216)
    pure (rngD 0 n.toNat, [])
  | _ => bad
def wRng2 : List D → M Wk
  | [x, y] => do
    let lo ← toI x
    let hi ← toI y
    need (-16777216 ≤ lo ∧ lo ≤ 16777216 ∧ -16777216 ≤ hi ∧ hi ≤ 16777216 ∧ hi - lo ≤ 16777216)
    pure (rngD lo (hi - lo).toNat, [])
  | _ => bad
def wThen (g : List D → M Wk) (rs : Env → M (List D)) : Env → M Wk := fun env => rs env >>= g
theorem rep1 {K : PySem.W.Frag} {m : Mp} {H : Hp} {x : D} {vs : List V} (h : Reps K m H [x] vs) : ∃ v, vs = [v] ∧ Rep K m H x v := by
  obtain ⟨v, r', rfl, h1, h2⟩ := Reps.cons_iff.mp h
  rw [Reps.nil_iff] at h2
  subst h2
  exact ⟨v, rfl, h1⟩
theorem rep2 {K : PySem.W.Frag} {m : Mp} {H : Hp} {x y : D} {vs : List V} (h : Reps K m H [x, y] vs) : ∃ v w, vs = [v, w] ∧ Rep K m H x v ∧ Rep K m H y w := by
  obtain ⟨v, r', rfl, h1, h2⟩ := Reps.cons_iff.mp h
  obtain ⟨w, rfl, h3⟩ := rep1 h2
  exact ⟨v, w, rfl, h1, h3⟩
theorem rngD_len (lo : Int) (n : Nat) : (rngD lo n).length = n := by unfold rngD; rw [List.length_map, List.length_range]
theorem mi_range1 {rs : Env → M (List D)} (hg : Gl X "range") (hm : X.mg "range" = none) (h : MA X W [a] rs) (hs : starEach [a] X.env = [(false, eval a X.env)] := by rfl) : MI X W tg (.Call (.Name "range" p) [a] [] pos) (wThen wRng1 rs) :=
  ⟨pi_imp (pi_range1 hg hm h.pa hs) fun σ H Q ⟨env, m, mu, hE, hR, hp⟩ => ⟨env, m, mu, hE, hR, (Post.bind hp).mono fun xs m1 mu1 H1 g1 R1 hp vs rv => by
    match xs, rv, hp with
    | [x], rv, hp =>
      obtain ⟨v, rfl, h1⟩ := rep1 rv
      obtain ⟨n, rfl, rfl, hp⟩ := toI_ok R1 h1 (Post.bind hp)
      obtain ⟨hc, hp⟩ := need_ok R1 (Post.bind hp)
      exact ⟨n, rfl, by omega, by omega, Post.pure hp R1 (by show (rngD 0 n.toNat).length ≤ _; rw [rngD_len, sizeLine_eq]; omega) _ itOk_range⟩
    | [], _, hp => exact (show False from hp).elim
    | _ :: _ :: _, _, hp => exact (show False from hp).elim⟩⟩
theorem mi_range2 {rs : Env → M (List D)} (hg : Gl X "range") (hm : X.mg "range" = none) (h : MA X W [a, b] rs) (hs : starEach [a, b] X.env = [(false, eval a X.env), (false, eval b X.env)] := by rfl) (hs2 : starEach [b] X.env = [(false, eval b X.env)] := by rfl) :
    MI X W tg (.Call (.Name "range" p) [a, b] [] pos) (wThen wRng2 rs) :=
  ⟨pi_imp (pi_range2 hg hm h.pa hs hs2) fun σ H Q ⟨env, m, mu, hE, hR, hp⟩ => ⟨env, m, mu, hE, hR, (Post.bind hp).mono fun xs m1 mu1 H1 g1 R1 hp vs rv => by
    match xs, rv, hp with
    | [x, y], rv, hp =>
      obtain ⟨v, w, rfl, h1, h2⟩ := rep2 rv
      obtain ⟨n, rfl, rfl, hp⟩ := toI_ok R1 h1 (Post.bind hp)
      obtain ⟨k, rfl, rfl, hp⟩ := toI_ok R1 h2 (Post.bind hp)
      obtain ⟨hc, hp⟩ := need_ok R1 (Post.bind hp)
      exact ⟨n, k, rfl, ⟨by omega, by omega, by omega, by omega⟩, Post.pure hp R1 (by show (rngD n (k - n).toNat).length ≤ _; rw [rngD_len, sizeLine_eq]; omega) _ itOk_range⟩
    | [], _, hp => exact (show False from hp).elim
    | [_], _, hp => exact (show False from hp).elim
    | _ :: _ :: _ :: _, _, hp => exact (show False from hp).elim⟩⟩
/-- enumerate(xs) -/
def enumD : Int → List D → List D
  | _, [] => []
  | k, d :: ds => .tup [.int k, d] :: enumD (k + 1) ds
theorem enumD_get : ∀ (ds : List D) (k : Int) (i : Nat), (enumD k ds)[i]? = (ds[i]?).map fun d => .tup [.int (k + (i : Int)), d]
  | [], _, _ => by simp [enumD]
  | d :: ds, k, 0 => by simp [enumD]
  | d :: ds, k, i + 1 => by
    simp only [enumD, List.getElem?_cons_succ]
    rw [enumD_get ds (k + 1) i]
    have e : k + 1 + (i : Int) = k + ((i + 1 : Nat) : Int) := by omega
    rw [e]
theorem enumD_len : ∀ (ds : List D) (k : Int), (enumD k ds).length = ds.length
  | [], _ => rfl
  | d :: ds, k => by simp only [enumD, List.length_cons]; rw [enumD_len ds]
/-- a list that is walked, at its address -/
def LsAt (K : PySem.W.Frag) (g : List (Nat × List D)) (ds : List D) (a : Addr) (m0 : Mp) (H0 : Hp) : Prop := ∀ (m : Mp) (mu : List MO) (H : Hp), Grow m0 m H0 H → Rel K m mu H → (∀ p ∈ g, mu[p.1]? = some (.lst p.2)) → ∃ vs, SqL K H a vs ∧ Reps K m H ds vs
/-- a list, and how it is held still -/
def rdW : D → M Wk
  | .fl xs => pure (xs, [])
  | .ro xs => pure (xs, [])
  | .ref n => fun mu => match atL mu n with
    | .ok xs mu => .ok (xs, [(n, xs)]) mu
    | _ => .bad
  | _ => bad
theorem rdW_ok {K : PySem.W.Frag} {W : Wx} {m : Mp} {H : Hp} {mu : List MO} {d : D} {v : V} {Q : Wk → Mp → List MO → Hp → Prop} (R : Rel K m mu H) (h : Rep K m H d v) (hp : Post K W m H (rdW d mu) Q) : ∃ a xs g vs, v = .ref a ∧ SqL K H a vs ∧ Reps K m H xs vs ∧ LsAt K g xs a m H ∧ Q (xs, g) m mu H := by
  cases d <;> simp only [Rep] at h
  case fl ds =>
    obtain ⟨a, vs, rfl, hs, hn, hr⟩ := h
    exact ⟨a, ds, [], vs, rfl, .of hs, hr, fun m2 mu2 H2 gr R2 _ => ⟨vs, .of (gr.oth a _ hs hn.1), Reps.grow gr ds vs hr⟩, hp m H .refl R⟩
  case ro ds =>
    obtain ⟨a, vs, rfl, hs, hr⟩ := h
    exact ⟨a, ds, [], vs, rfl, hs.sqL, hr, fun m2 mu2 H2 gr R2 _ => ⟨vs, (gr.roAt hs).sqL, Reps.grow gr ds vs hr⟩, hp m H .refl R⟩
  case ref n =>
    obtain ⟨a, rfl, hm⟩ := h
    obtain ⟨o, ho, hro⟩ := R.at' hm
    have e1 : rdW (.ref n) mu = match atL mu n with
      | .ok xs mu => MP.R.ok (xs, [(n, xs)]) mu
      | _ => .bad := rfl
    rw [e1] at hp
    cases o with
    | dk kvs => rw [atL_dk ho] at hp; exact (show False from hp).elim
    | lst xs =>
      rw [atL_lst ho] at hp
      obtain ⟨vs, hH, hq⟩ := hro
      refine ⟨a, xs, [(n, xs)], vs, rfl, .of hH, hq, fun m2 mu2 H2 gr R2 hg => ?_, hp m H .refl R⟩
      obtain ⟨ws, h1, h2⟩ := R2.obj n _ a (hg (n, xs) (by simp)) (gr.get hm)
      exact ⟨ws, .of h1, h2⟩
  all_goals exact (show False from hp).elim
theorem pairT {K : PySem.W.Frag} {m : Mp} {mu : List MO} {H : Hp} {x y : D} {v w : V} {T : Addr} (R : Rel K m mu H) (h1 : Rep K m H x v) (h2 : Rep K m H y w) (hn : H T = none) : Grow m m H (upd H T (.tup [v, w])) ∧ Rel K m mu (upd H T (.tup [v, w])) ∧ Rep K m (upd H T (.tup [v, w])) (.tup [x, y]) (.ref T) :=
  new_tup R (Reps.cons_iff.mpr ⟨v, [w], rfl, h1, Reps.one h2⟩) hn
theorem itOk_enum {K : PySem.W.Frag} {m0 : Mp} {H0 : Hp} {ds : List D} {a : Addr} {g : List (Nat × List D)} (hk : LsAt K g ds a m0 H0) : ItOk K g (enumD 0 ds) (Ite K a) m0 H0 := fun m mu H gr R hg => by
  obtain ⟨vs, hs, hr⟩ := hk m mu H gr R hg
  refine ⟨fun i hi => ⟨vs, hs, by rw [← hr.length, ← enumD_len ds 0]; exact hi⟩, fun i d hd => ?_⟩
  rw [enumD_get] at hd
  obtain ⟨x, hx, ed⟩ := Option.map_eq_some_iff.mp hd
  obtain ⟨v, hv, rv⟩ := hr.get hx
  refine ⟨⟨vs, v, hs, hv⟩, fun y H' yy => ?_⟩
  obtain ⟨T, z, rfl, hn, rfl, u⟩ := yy
  have e2 := u vs hs
  rw [hv] at e2
  cases e2
  subst ed
  rw [Int.zero_add]
  exact pairT R (by simp only [Rep]) rv hn
def wEnum : List D → M Wk
  | [x] => do
    let p ← rdW x
    pure (enumD 0 p.1, p.2)
  | _ => bad
theorem mi_enum {elts : List Expr} {kk : Nat} {tpos : Pos} {rs : Env → M (List D)} (hg : Gl X "enumerate") (hm : X.mg "enumerate" = none) (h : MA X W [a] rs) (hs : starEach [a] X.env = [(false, eval a X.env)] := by rfl) : MI X W (.Tuple elts kk tpos) (.Call (.Name "enumerate" p) [a] [] pos) (wThen wEnum rs) :=
  ⟨pi_imp (pi_sz (pi_enum hg hm h.pa hs)) fun σ H Q ⟨env, m, mu, hE, hR, hp⟩ => ⟨env, m, mu, hE, hR, (Post.bind hp).mono fun xs m1 mu1 H1 g1 R1 hp vs rv => by
    match xs, rv, hp with
    | [x], rv, hp =>
      obtain ⟨v, rfl, h1⟩ := rep1 rv
      obtain ⟨a, ds, g, vs, rfl, hs, hr, hk, hp⟩ := rdW_ok R1 h1 (Post.bind hp)
      exact ⟨a, vs, rfl, hs, fun sz => Post.pure hp R1 (by show (enumD 0 ds).length ≤ _; rw [enumD_len, hr.length]; exact sz.1 a vs hs) _ (itOk_enum hk)⟩
    | [], _, hp => exact (show False from hp).elim
    | _ :: _ :: _, _, hp => exact (show False from hp).elim⟩⟩
/-- zip(xs, ys): two lists, or two tuples -/
def zipD (xs ys : List D) : List D := List.zipWith (fun x y => .tup [x, y]) xs ys
theorem zipD_len (xs ys : List D) : (zipD xs ys).length = min xs.length ys.length := by unfold zipD; rw [List.length_zipWith]
theorem zipD_get {xs ys : List D} {i : Nat} {d : D} (h : (zipD xs ys)[i]? = some d) : ∃ x y, xs[i]? = some x ∧ ys[i]? = some y ∧ d = .tup [x, y] := by
  unfold zipD at h
  rw [List.getElem?_zipWith] at h
  cases ex : xs[i]? with
  | none => rw [ex] at h; simp at h
  | some x =>
    cases ey : ys[i]? with
    | none => rw [ex, ey] at h; simp at h
    | some y => rw [ex, ey] at h; simp at h; exact ⟨x, y, rfl, rfl, h.symm⟩
theorem itOk_zip {K : PySem.W.Frag} {m0 : Mp} {H0 : Hp} {ds es : List D} {a b : Addr} {g g' : List (Nat × List D)} (hk : LsAt K g ds a m0 H0) (hk' : LsAt K g' es b m0 H0) : ItOk K (g ++ g') (zipD ds es) (Itz K a b) m0 H0 := fun m mu H gr R hg => by
  obtain ⟨vs, hs, hr⟩ := hk m mu H gr R fun p hp => hg p (List.mem_append_left _ hp)
  obtain ⟨ws, hs', hr'⟩ := hk' m mu H gr R fun p hp => hg p (List.mem_append_right _ hp)
  refine ⟨fun i hi => ⟨vs, ws, hs, hs', by rw [← hr.length, ← hr'.length]; rw [zipD_len] at hi; omega⟩, fun i d hd => ?_⟩
  obtain ⟨x, y, hx, hy, rfl⟩ := zipD_get hd
  obtain ⟨v, hv, rv⟩ := hr.get hx
  obtain ⟨w, hw, rw'⟩ := hr'.get hy
  refine ⟨⟨vs, ws, v, w, hs, hs', hv, hw⟩, fun z H' yy => ?_⟩
  obtain ⟨T, x2, y2, rfl, hn, rfl, u, u'⟩ := yy
  have e2 := u vs hs
  rw [hv] at e2
  cases e2
  have e3 := u' ws hs'
  rw [hw] at e3
  cases e3
  exact pairT R rv rw' hn
theorem itOk_zipT {K : PySem.W.Frag} {m0 : Mp} {H0 : Hp} {ds es : List D} {vs ws : List V} {a b : Addr} (hs0 : SqT K H0 a vs) (hr0 : Reps K m0 H0 ds vs) (hs0' : SqT K H0 b ws) (hr0' : Reps K m0 H0 es ws) : ItOk K [] (zipD ds es) (RZ.ItzT K a b) m0 H0 := fun m mu H gr R hg => by
  have hs := gr.sqT hs0
  have hr := Reps.grow gr _ _ hr0
  have hs' := gr.sqT hs0'
  have hr' := Reps.grow gr _ _ hr0'
  refine ⟨fun i hi => ⟨vs, ws, hs, hs', by rw [← hr.length, ← hr'.length]; rw [zipD_len] at hi; omega⟩, fun i d hd => ?_⟩
  obtain ⟨x, y, hx, hy, rfl⟩ := zipD_get hd
  obtain ⟨v, hv, rv⟩ := hr.get hx
  obtain ⟨w, hw, rw'⟩ := hr'.get hy
  refine ⟨⟨vs, ws, v, w, hs, hs', hv, hw⟩, fun z H' yy => ?_⟩
  obtain ⟨T, x2, y2, rfl, hn, rfl, u, u'⟩ := yy
  have e2 := u vs hs
  rw [hv] at e2
  cases e2
  have e3 := u' ws hs'
  rw [hw] at e3
  cases e3
  exact pairT R rv rw' hn
def zip2 : D → D → M Wk
  | .tup xs, y => do
    let ys ← toT y
    pure (zipD xs ys, [])
  | x, y => do
    let p ← rdW x
    let q ← rdW y
    pure (zipD p.1 q.1, p.2 ++ q.2)
def wZip : List D → M Wk
  | [x, y] => zip2 x y
  | _ => bad
theorem mi_zip {elts : List Expr} {kk : Nat} {tpos : Pos} {rs : Env → M (List D)} (hg : Gl X "zip") (hm : X.mg "zip" = none) (h : MA X W [a, b] rs) (hs : starEach [a, b] X.env = (false, eval a X.env) :: starEach [b] X.env := by rfl) (hpl : (backTo pos (starEach [b] X.env)).any (·.1) = false := by rfl) :
    MI X W (.Tuple elts kk tpos) (.Call (.Name "zip" p) [a, b] [] pos) (wThen wZip rs) :=
  ⟨pi_imp (pi_sz (RZ.pi_zipA hg hm h.pa hs hpl)) fun σ H Q ⟨env, m, mu, hE, hR, hp⟩ => ⟨env, m, mu, hE, hR, (Post.bind hp).mono fun xs m1 mu1 H1 g1 R1 hp vs rv => by
    match xs, rv, hp with
    | [x, y], rv, hp =>
      obtain ⟨v, w, rfl, h1, h2⟩ := rep2 rv
      have lst : ∀ x, Rep X.K m1 H1 x v → Post X.K W m1 H1 ((do let p ← rdW x; let q ← rdW y; pure (zipD p.1 q.1, p.2 ++ q.2)) mu1) (fun (p : Wk) m' _ H' => p.1.length ≤ sizeLine → ∀ J, ItOk X.K p.2 p.1 J m' H' → Q J H') → ∃ a b xs ys, [v, w] = [V.ref a, V.ref b] ∧ ((SqL X.K H1 a xs ∧ SqL X.K H1 b ys ∧ (Sz X.K H1 → Q (Itz X.K a b) H1)) ∨ (SqT X.K H1 a xs ∧ SqT X.K H1 b ys ∧ (Sz X.K H1 → Q (RZ.ItzT X.K a b) H1))) := fun x h1 hp => by
        obtain ⟨a, ds, g, vs, rfl, hs, hr, hk, hp⟩ := rdW_ok R1 h1 (Post.bind hp)
        obtain ⟨b, es, g', ws, rfl, hs', hr', hk', hp⟩ := rdW_ok R1 h2 (Post.bind hp)
        exact ⟨a, b, vs, ws, rfl, .inl ⟨hs, hs', fun sz => Post.pure hp R1 (by show (zipD ds es).length ≤ _; have := sz.1 a vs hs; rw [zipD_len, hr.length]; omega) _ (itOk_zip hk hk')⟩⟩
      cases x
      case tup xs =>
        obtain ⟨ys, b, ws, rfl, rfl, hs', hr', hp⟩ := toT_ok R1 h2 (Post.bind hp)
        simp only [Rep] at h1
        obtain ⟨a, vs, rfl, hs, hr⟩ := h1
        exact ⟨a, b, vs, ws, rfl, .inr ⟨hs, hs', fun sz => Post.pure hp R1 (by show (zipD xs ys).length ≤ _; have := sz.2 a vs hs; rw [zipD_len, hr.length]; omega) _ (itOk_zipT hs hr hs' hr')⟩⟩
      all_goals exact lst _ h1 hp
    | [], _, hp => exact (show False from hp).elim
    | [_], _, hp => exact (show False from hp).elim
    | _ :: _ :: _ :: _, _, hp => exact (show False from hp).elim⟩⟩
end
end MP
namespace MP
open PySem L2 PyProof.Rows
/-! ### targets -/
/-- the slots outside of l are as they were -/
def Off (l : List Nat) (σ' σ : L2.St) : Prop := σ'.length = σ.length ∧ ∀ i, i ∉ l → σ'[i]? = σ[i]?
def tG (K : PySem.W.Frag) (W : Wx) (l : List Nat) (asg : D → Env → M Env) : TG := fun v σ H Q => ∃ d env m mu, RepE K m H env σ ∧ Rel K m mu H ∧ Rep K m H d v ∧ Post K W m H (asg d env mu) fun env' m' _ H' => ∀ σ', RepE K m' H' env' σ' → Off l σ' σ → Q σ' H'
def tGs (K : PySem.W.Frag) (W : Wx) (l : List Nat) (asg : List D → Env → M Env) : TGs := fun vs σ H Q => ∃ ds env m mu, RepE K m H env σ ∧ Rel K m mu H ∧ Reps K m H ds vs ∧ Post K W m H (asg ds env mu) fun env' m' _ H' => ∀ σ', RepE K m' H' env' σ' → Off l σ' σ → Q σ' H'
structure MG (X : Cx) (W : Wx) (tg : Expr) (l : List Nat) (asg : D → Env → M Env) : Prop where
  pg : PG X tg (tG X.K W l asg)
structure MGs (X : Cx) (W : Wx) (tg : List Expr) (l : List Nat) (asg : List D → Env → M Env) : Prop where
  pg : PGs X tg (tGs X.K W l asg)
section
variable {X : Cx} {W : Wx} {e a b tg iter : Expr} {es : List Expr} {pos p : Pos}
theorem Off.refl {l : List Nat} {σ : L2.St} : Off l σ σ := ⟨rfl, fun _ _ => rfl⟩
theorem Off.trans {l l' : List Nat} {σ σ1 σ2 : L2.St} (h : Off l σ1 σ) (h' : Off l' σ2 σ1) : Off (l ++ l') σ2 σ := ⟨h'.1.trans h.1, fun i hi => by
  rw [List.mem_append, not_or] at hi
  rw [h'.2 i hi.2, h.2 i hi.1]⟩
theorem _root_.L2.PG.imp {t t' : TG} (h : PG X tg t) (i : ∀ v σ H Q, t' v σ H Q → t v σ H Q) : PG X tg t' := ⟨fun pins s σ H v u Q I r q => h.run pins s σ H v u Q I r (i v σ H Q q)⟩
theorem _root_.L2.PGs.imp {ts : List Expr} {t t' : TGs} (h : PGs X ts t) (i : ∀ v σ H Q, t' v σ H Q → t v σ H Q) : PGs X ts t' := ⟨fun pins s σ H v u Q I r q => h.run pins s σ H v u Q I r (i v σ H Q q)⟩
def asgN (i : Nat) : D → Env → M Env := fun d env => pure (env.set i (some d))
theorem mg_of {i : Nat} (h : PG X tg (gName i)) : MG X W tg [i] (asgN i) := ⟨h.imp fun v σ H Q ⟨d, env, m, mu, hE, hR, hd, hp⟩ =>
  Post.pure hp hR _ (hE.set hd) ⟨by rw [List.length_set], fun j hj => by rw [List.getElem?_set_ne (fun z => hj (by rw [z]; exact List.mem_singleton.mpr rfl))]⟩⟩
def asgNil : List D → Env → M Env := fun ds env => match ds with
  | [] => pure env
  | _ => bad
def asgCons (f : D → Env → M Env) (g : List D → Env → M Env) : List D → Env → M Env := fun ds env => match ds with
  | d :: ds => f d env >>= fun env' => g ds env'
  | [] => bad
theorem mgs_nil : MGs X W [] [] asgNil := ⟨pgs_nil.imp fun vs σ H Q ⟨ds, env, m, mu, hE, hR, hd, hp⟩ => by
  match ds, hd, hp with
  | [], hd, hp =>
    rw [Reps.nil_iff] at hd
    exact ⟨hd, Post.pure hp hR _ hE .refl⟩
  | _ :: _, _, hp => exact (show False from hp).elim⟩
theorem mgs_cons {l l' : List Nat} {f : D → Env → M Env} {g : List D → Env → M Env} (h : MG X W e l f) (h' : MGs X W es l' g) (hs : (assignEach (e :: es) X.env).map (·.2) = assign e X.env :: (assignEach es X.env).map (·.2) := by rfl) : MGs X W (e :: es) (l ++ l') (asgCons f g) :=
  ⟨(pgs_cons h.pg h'.pg hs).imp fun vs σ H Q ⟨ds, env, m, mu, hE, hR, hd, hp⟩ => by
    match ds, hd, hp with
    | [], _, hp => exact (show False from hp).elim
    | d :: ds, hd, hp =>
      obtain ⟨v, r, rfl, h1, h2⟩ := Reps.cons_iff.mp hd
      exact ⟨v, r, rfl, d, env, m, mu, hE, hR, h1, (Post.bind hp).mono fun env1 m1 mu1 H1 g1 R1 hp σ1 hE1 o1 =>
        ⟨ds, env1, m1, mu1, hE1, R1, Reps.grow g1 ds r h2, hp.mono fun env2 m2 mu2 H2 g2 R2 hq σ2 hE2 o2 => hq σ2 hE2 (o1.trans o2)⟩⟩⟩
def asgT (n : Nat) (g : List D → Env → M Env) : D → Env → M Env := fun d env => toT d >>= fun xs => need (xs.length = n) >>= fun _ => g xs env
theorem mg_tup {k : Nat} {l : List Nat} {g : List D → Env → M Env} {n : Nat} (hc : X.calm = true) (h : MGs X W es l g) (hn : (assignEach es X.env).length = n := by rfl) (hst : (assignEach es X.env).findIdx? (·.1) = none := by rfl) : MG X W (.Tuple es k pos) l (asgT n g) :=
  ⟨(pg_tup hc h.pg hn hst).imp fun v σ H Q ⟨d, env, m, mu, hE, hR, hd, hp⟩ => by
    obtain ⟨xs, a, vs, rfl, rfl, hs, hr, hp⟩ := toT_ok hR hd (Post.bind hp)
    obtain ⟨c, hp⟩ := need_ok hR (Post.bind hp)
    exact ⟨a, vs, rfl, hs, by rw [← hr.length]; exact c, xs, env, m, mu, hE, hR, hr, hp⟩⟩
theorem mg_par {l : List Nat} {g : D → Env → M Env} (h : MG X W tg l g) : MG X W tg l g := h

/-! ### loops -/
open Classical in
/-- the walked lists stand as they stood -/
noncomputable def chk (g : List (Nat × List D)) : M Unit := fun mu => if ∀ p ∈ g, mu[p.1]? = some (.lst p.2) then .ok () mu else .bad
theorem chk_ok {K : PySem.W.Frag} {m : Mp} {H : Hp} {mu : List MO} {g : List (Nat × List D)} {Q : Unit → Mp → List MO → Hp → Prop} (R : Rel K m mu H) (hp : Post K W m H (chk g mu) Q) : (∀ p ∈ g, mu[p.1]? = some (.lst p.2)) ∧ Q () m mu H := by
  unfold chk at hp
  split at hp
  · rename_i h
    exact ⟨h, hp m H .refl R⟩
  · exact (show False from hp).elim
/-- for: over the items; fg: the slots that are forgotten ahead of each turn and behind the loop -/
noncomputable def loopF (asg : D → Env → M Env) (body : Env → M Fl) (fg : List Nat) (g : List (Nat × List D)) : List D → Env → M Fl
  | [], env => chk g >>= fun _ => pure (.nx (wipeE env fg))
  | d :: ds, env => chk g >>= fun _ => asg d (wipeE env fg) >>= fun env1 => body env1 >>= fun fl => match fl with
    | .nx e => loopF asg body fg g ds e
    | .ct e => loopF asg body fg g ds e
    | .bk e => pure (.nx (wipeE e fg))
    | .rt rv => pure (.rt rv)
noncomputable def sFor (r : Env → M Wk) (asg : D → Env → M Env) (body : Env → M Fl) (fg : List Nat) : Env → M Fl := fun env => r env >>= fun p => loopF asg body fg p.2 p.1 env
theorem FlQ.from {K : PySem.W.Frag} {D : Ends} {m m1 m' : Mp} {H H1 H' : Hp} {mu' : List MO} {fl : Fl} (h : FlQ K D H fl m' mu' H') (g : Grow m m1 H H1) : FlQ K D H1 fl m' mu' H' := by
  cases fl with
  | rt rv => exact RvQ.from h g
  | nx e => exact h
  | bk e => exact h
  | ct e => exact h
theorem ms_for {fg l : List Nat} {r : Env → M Wk} {asg : D → Env → M Env} {body : List Stmt} {rb : Env → M Fl} (hp : PassesOwn (model X.prog X.w) X.A X.env X.xe) (hc : X.calm = true) (hi : MI X W tg iter r) (hg : MG X W tg l asg) (hb : MSs X W body rb)
    (hs : ∀ x, foldedSetIterable iter X.env x = pure x := by intro _; rfl) : MS X W (.For tg iter body [] pos) (sFor r asg rb fg) := ⟨(ps_for hp hc hi.pi hg.pg hb.ps hs).imp fun D σ H ⟨env, m, mu, hE, hR, hp⟩ =>
  ⟨env, m, mu, hE, hR, (Post.bind hp).mono fun p m1 mu1 H1 g1 R1 hp _ J ok => by
    refine ⟨fun i k σ2 H2 => ∃ rest env2 m2 mu2, k = rest.length ∧ p.1.drop i = rest ∧ RepE X.K m2 H2 env2 σ2 ∧ Rel X.K m2 mu2 H2 ∧ Grow m1 m2 H1 H2 ∧ Post X.K W m2 H2 (loopF asg rb fg p.2 rest env2 mu2) fun fl m' mu' H' => FlQ X.K D H fl m' mu' H', ⟨_, p.1, env, m1, mu1, rfl, rfl, hE.grow g1, R1, .refl, hp⟩, ?_⟩
    rintro i k σ2 H2 ⟨rest, env2, m2, mu2, rfl, hd, hE2, R2, g2, hp2⟩
    cases rest with
    | nil =>
      obtain ⟨hch, hp2⟩ := chk_ok R2 (Post.bind hp2)
      have q := Post.pure hp2 R2
      refine .inl ⟨((ok m2 mu2 H2 g2 R2 hch).1 i) (by rw [List.drop_eq_nil_iff] at hd; exact hd), q σ2 (hE2.wipeL fg)⟩
    | cons d ds =>
      obtain ⟨hch, hp2⟩ := chk_ok R2 (Post.bind hp2)
      have hdi : p.1[i]? = some d := by
        have e : (p.1.drop i)[0]? = some d := by rw [hd]; rfl
        rw [List.getElem?_drop] at e
        simpa using e
      have hds : p.1.drop (i + 1) = ds := by
        have e := congrArg List.tail hd
        rw [List.tail_drop] at e
        exact e
      obtain ⟨go, yl⟩ := (ok m2 mu2 H2 g2 R2 hch).2 i d hdi
      refine .inr ⟨go, fun σ3 H3 => ∃ env3 m3 mu3, RepE X.K m3 H3 env3 σ3 ∧ Rel X.K m3 mu3 H3 ∧ Grow m1 m3 H1 H3 ∧ Post X.K W m3 H3 (loopF asg rb fg p.2 ds env3 mu3) fun fl m' mu' H' => FlQ X.K D H fl m' mu' H',
        fun σ3 H3 ⟨env3, m3, mu3, hE3, R3, g3, hp3⟩ => ⟨ds.length, Nat.lt_succ_self _, ds, env3, m3, mu3, rfl, hds, hE3, R3, g3, hp3⟩, fun x H3 y => ?_⟩
      obtain ⟨gy, Ry, rx⟩ := yl x H3 y
      refine ⟨d, wipeE env2 fg, m2, mu2, (hE2.grow gy).wipeL fg, Ry, rx, (Post.bind (hp2.grow gy)).mono fun env4 m4 mu4 H4 g4 R4 hp4 σ4 hE4 _ => ⟨env4, m4, mu4, hE4, R4, ?_⟩⟩
      have e0 : (rb env4 >>= fun fl => match fl with
        | .nx e => loopF asg rb fg p.2 ds e
        | .ct e => loopF asg rb fg p.2 ds e
        | .bk e => pure (.nx (wipeE e fg))
        | .rt rv => pure (.rt rv)) mu4 = M.bind (rb env4) _ mu4 := rfl
      rw [e0] at hp4
      unfold M.bind at hp4
      cases hr : rb env4 mu4 with
      | bad => rw [hr] at hp4; exact hp4
      | exc x mu5 => rw [hr] at hp4; exact hp4
      | ok fl mu5 =>
        rw [hr] at hp4
        intro m5 H5 g5 R5
        cases fl with
        | nx e => exact fun σ5 hE5 => ⟨e, m5, mu5, hE5, R5, (((g2.trans gy).trans g4).trans g5), hp4.grow g5⟩
        | ct e => exact fun σ5 hE5 => ⟨e, m5, mu5, hE5, R5, (((g2.trans gy).trans g4).trans g5), hp4.grow g5⟩
        | bk e => exact fun σ5 hE5 => (hp4 m5 H5 g5 R5) σ5 (hE5.wipeL fg)
        | rt rv => exact RvQ.from (hp4 m5 H5 g5 R5) ((g1.trans (g2.trans gy)).trans g4)⟩⟩
end
end MP
namespace MP
open PySem L2 PyProof.Rows
section
variable {X : Cx} {W : Wx} {e a b tg iter : Expr} {es : List Expr} {pos p : Pos} {st : Stmt} {rest : List Stmt}
/-! ### while -/
/-- a lid on the turns; never reckoned with -/
def lid : Nat := 10 ^ 12
def loopW (c : Env → M Bool) (body : Env → M Fl) (fg : List Nat) : Nat → Env → M Fl
  | 0, _ => bad
  | n + 1, env => c (wipeE env fg) >>= fun b => if b = true then (body (wipeE env fg) >>= fun fl => match fl with
    | .nx e => loopW c body fg n e
    | .ct e => loopW c body fg n e
    | .bk e => pure (.nx (wipeE e fg))
    | .rt rv => pure (.rt rv)) else pure (.nx (wipeE env fg))
def sWhile (c : Env → M Bool) (body : Env → M Fl) (fg : List Nat) : Env → M Fl := fun env => loopW c body fg lid env
theorem ms_while {fg : List Nat} {c : Expr} {body : List Stmt} {rc : Env → M Bool} {rb : Env → M Fl} (hp : PassesOwn (model X.prog X.w) X.A X.env X.xe) (hc : MT X W c rc) (hb : MSs X W body rb) : MS X W (.While c body [] pos) (sWhile rc rb fg) := ⟨(ps_while hp hc.pt hb.ps).imp fun D σ H ⟨env, m, mu, hE, hR, hp⟩ => by
  refine ⟨fun k σ2 H2 => ∃ env2 m2 mu2, RepE X.K m2 H2 env2 σ2 ∧ Rel X.K m2 mu2 H2 ∧ Grow m m2 H H2 ∧ Post X.K W m2 H2 (loopW rc rb fg k env2 mu2) fun fl m' mu' H' => FlQ X.K D H fl m' mu' H', ⟨_, env, m, mu, hE, hR, .refl, hp⟩, ?_⟩
  rintro k σ2 H2 ⟨env2, m2, mu2, hE2, R2, g2, hp2⟩
  cases k with
  | zero => exact (show False from hp2).elim
  | succ k =>
    refine ⟨wipeE env2 fg, m2, mu2, hE2.wipeL fg, R2, (Post.bind hp2).mono fun b m3 mu3 H3 g3 R3 hp3 => ?_⟩
    cases b with
    | false =>
      rw [if_neg Bool.false_ne_true]
      exact (Post.pure hp3 R3) σ2 ((hE2.grow g3).wipeL fg)
    | true =>
      rw [if_pos rfl]
      rw [if_pos rfl] at hp3
      refine ⟨fun σ5 H5 => ∃ env5 m5 mu5, RepE X.K m5 H5 env5 σ5 ∧ Rel X.K m5 mu5 H5 ∧ Grow m m5 H H5 ∧ Post X.K W m5 H5 (loopW rc rb fg k env5 mu5) fun fl m' mu' H' => FlQ X.K D H fl m' mu' H',
        fun σ5 H5 h => ⟨k, Nat.lt_succ_self _, h⟩, wipeE env2 fg, m3, mu3, (hE2.grow g3).wipeL fg, R3, ?_⟩
      have e0 : (rb (wipeE env2 fg) >>= fun fl => match fl with
        | .nx e => loopW rc rb fg k e
        | .ct e => loopW rc rb fg k e
        | .bk e => pure (.nx (wipeE e fg))
        | .rt rv => pure (.rt rv)) mu3 = M.bind (rb (wipeE env2 fg)) _ mu3 := rfl
      rw [e0] at hp3
      unfold M.bind at hp3
      cases hr : rb (wipeE env2 fg) mu3 with
      | bad => rw [hr] at hp3; exact hp3
      | exc x mu5 => rw [hr] at hp3; exact hp3
      | ok fl mu5 =>
        rw [hr] at hp3
        intro m5 H5 g5 R5
        cases fl with
        | nx e => exact fun σ5 hE5 => ⟨e, m5, mu5, hE5, R5, (g2.trans g3).trans g5, hp3.grow g5⟩
        | ct e => exact fun σ5 hE5 => ⟨e, m5, mu5, hE5, R5, (g2.trans g3).trans g5, hp3.grow g5⟩
        | bk e => exact fun σ5 hE5 => (hp3 m5 H5 g5 R5) σ5 (hE5.wipeL fg)
        | rt rv => exact RvQ.from (hp3 m5 H5 g5 R5) (g2.trans g3)⟩

/-! ### small statements -/
def sNext : Env → M Fl := fun env => pure (.nx env)
def sSeq (r r' : Env → M Fl) : Env → M Fl := fun env => r env >>= fun fl => match fl with
  | .nx e => r' e
  | fl => pure fl
theorem mss_nil : MSs X W [] sNext := ⟨pss_nil.imp fun D σ H ⟨env, m, mu, hE, hR, hp⟩ => Post.pure hp hR σ hE⟩
theorem mss_one {r : Env → M Fl} (h : MS X W st r) : MSs X W [st] r := ⟨pss_one h.ps⟩
theorem mss_cons {r r' : Env → M Fl} (h : MS X W st r) (h' : MSs X W rest r') : MSs X W (st :: rest) (sSeq r r') := ⟨(pss_cons h.ps h'.ps).imp fun D σ H ⟨env, m, mu, hE, hR, hp⟩ => by
  refine ⟨env, m, mu, hE, hR, ?_⟩
  have e0 : sSeq r r' env mu = M.bind (r env) (fun fl => match fl with
    | .nx e => r' e
    | fl => pure fl) mu := rfl
  rw [e0] at hp
  unfold M.bind at hp
  cases hr : r env mu with
  | bad => rw [hr] at hp; exact hp
  | exc x mu5 => rw [hr] at hp; exact hp
  | ok fl mu5 =>
    rw [hr] at hp
    intro m5 H5 g5 R5
    cases fl with
    | nx e => exact fun σ5 hE5 => ⟨e, m5, mu5, hE5, R5, (hp.grow g5).mono fun fl m' mu' H' _ _ q => FlQ.from q g5⟩
    | ct e => exact hp m5 H5 g5 R5
    | bk e => exact hp m5 H5 g5 R5
    | rt rv => exact hp m5 H5 g5 R5⟩
theorem ms_pass : MS X W (.Pass pos) sNext := ⟨ps_pass.imp fun D σ H ⟨env, m, mu, hE, hR, hp⟩ => Post.pure hp hR σ hE⟩
def sBreak : Env → M Fl := fun env => pure (.bk env)
def sCont : Env → M Fl := fun env => pure (.ct env)
theorem ms_break : MS X W (.Break pos) sBreak := ⟨ps_break.imp fun D σ H ⟨env, m, mu, hE, hR, hp⟩ => Post.pure hp hR σ hE⟩
theorem ms_continue : MS X W (.Continue pos) sCont := ⟨ps_continue.imp fun D σ H ⟨env, m, mu, hE, hR, hp⟩ => Post.pure hp hR σ hE⟩
def sExpr (r : Env → M D) : Env → M Fl := fun env => r env >>= fun _ => pure (.nx env)
theorem ms_expr {r : Env → M D} (h : ME X W e r) (hs : swapsWith e none pos.line X.env = pure false := by rfl) : MS X W (.Expr e pos) (sExpr r) := ⟨(ps_expr h.pe hs).imp fun D σ H ⟨env, m, mu, hE, hR, hp⟩ =>
  ⟨env, m, mu, hE, hR, (Post.bind hp).mono fun x m1 mu1 H1 g1 R1 hp v rv => (Post.pure hp R1) σ (hE.grow g1)⟩⟩
def sRet (r : Env → M D) : Env → M Fl := fun env => r env >>= fun d => pure (.rt (.vl d))
theorem ms_ret {r : Env → M D} (h : ME X W e r) : MS X W (.Return (some e) pos) (sRet r) := ⟨(ps_ret h.pe).imp fun D σ H ⟨env, m, mu, hE, hR, hp⟩ =>
  ⟨env, m, mu, hE, hR, (Post.bind hp).mono fun x m1 mu1 H1 g1 R1 hp v rv => (Post.pure hp R1) v rv⟩⟩
def sRetF (r : Env → M (List D)) : Env → M Fl := fun env => r env >>= fun ds => pure (.rt (.fr ds))
theorem ms_retF {r : Env → M (List D)} (h : MF X W e r) : MS X W (.Return (some e) pos) (sRetF r) := ⟨(ps_ret h.pe).imp fun D σ H ⟨env, m, mu, hE, hR, hp⟩ =>
  ⟨env, m, mu, hE, hR, (Post.bind hp).mono fun x m1 mu1 H1 g1 R1 hp => Post.pure hp R1⟩⟩
def sRetN : Env → M Fl := fun env => pure (.rt (.vl .non))
theorem ms_retN : MS X W (.Return none pos) sRetN := ⟨ps_retN.imp fun D σ H ⟨env, m, mu, hE, hR, hp⟩ => (Post.pure hp hR) .non (by simp only [Rep])⟩
theorem ms_if {c : Expr} {s1 s2 : List Stmt} {t : Env → M Bool} {r r' : Env → M Fl} (hc : MT X W c t) (h : MSs X W s1 r) (h' : MSs X W s2 r') : MS X W (.If c s1 s2 pos) (eIf t r r') := ⟨(ps_if hc.pt h.ps h'.ps).imp fun D σ H ⟨env, m, mu, hE, hR, hp⟩ =>
  ⟨env, m, mu, hE, hR, (Post.bind hp).mono fun b m1 mu1 H1 g1 R1 hp => by
    cases b
    · exact ⟨env, m1, mu1, hE.grow g1, R1, hp.mono fun fl m' mu' H' _ _ q => FlQ.from q g1⟩
    · exact ⟨env, m1, mu1, hE.grow g1, R1, hp.mono fun fl m' mu' H' _ _ q => FlQ.from q g1⟩⟩⟩
def sAsg (r : Env → M D) (asg : D → Env → M Env) : Env → M Fl := fun env => r env >>= fun d => asg d env >>= fun env' => pure (.nx env')
theorem asg_go {l : List Nat} {r : Env → M D} {asg : D → Env → M Env} : ∀ D σ H, tS X.K W (sAsg r asg) D σ H → tAsg (tE X.K W r) (tG X.K W l asg) D σ H := fun D σ H ⟨env, m, mu, hE, hR, hp⟩ =>
  ⟨env, m, mu, hE, hR, (Post.bind hp).mono fun x m1 mu1 H1 g1 R1 hp v rv => ⟨x, env, m1, mu1, hE.grow g1, R1, rv, (Post.bind hp).mono fun env2 m2 mu2 H2 g2 R2 hp σ2 hE2 _ => (Post.pure hp R2) σ2 hE2⟩⟩
theorem ms_asg {l : List Nat} {r : Env → M D} {asg : D → Env → M Env} (h : ME X W e r) (hg : MG X W tg l asg) (hs : swapsWithSole [tg] e pos.line X.env = pure false := by rfl) (hw : swappedStores [tg] e X.env = pure none := by rfl) (h1 : (assignEach [tg] X.env).map (·.2) = [assign tg X.env] := by rfl) : MS X W (.Assign [tg] e pos) (sAsg r asg) :=
  ⟨(ps_asg h.pe hg.pg hs hw h1).imp (asg_go (l := l))⟩
/-- name = value -/
def sSet (i : Nat) (r : Env → M D) : Env → M Fl := fun env => r env >>= fun d => pure (.nx (env.set i (some d)))
theorem set_go {i : Nat} {r : Env → M D} : ∀ D σ H, tS X.K W (sSet i r) D σ H → tAsg (tE X.K W r) (gName i) D σ H := fun D σ H ⟨env, m, mu, hE, hR, hp⟩ =>
  ⟨env, m, mu, hE, hR, (Post.bind hp).mono fun x m1 mu1 H1 g1 R1 hp v rv => (Post.pure hp R1) _ ((hE.grow g1).set rv)⟩
theorem ms_set {i : Nat} {x : Str} {r : Env → M D} {pos' : Pos} (hN : X.N.Nodup) (hi : X.N[i]? = some x) (hx : Loc X.env.scope x) (h : ME X W e r) (hs : swapsWith e (some (.Name x pos')) pos.line X.env = pure false := by rfl) (hf : X.fn x = true ∨ X.env.scope.names.lookup x = some .local := by first | exact .inl rfl | exact .inr rfl | assumption) :
    MS X W (.Assign [.Name x pos'] e pos) (sSet i r) := ⟨(ps_set hN hi hx h.pe hs hf).imp set_go⟩
/-- name op= value -/
def sAug (i : Nat) (g : D → D → M D) (r : Env → M D) : Env → M Fl := fun env => eVar i env >>= fun x => r env >>= fun y => g x y >>= fun z => pure (.nx (env.set i (some z)))
theorem ms_aug {i : Nat} {x : Str} {op : Operator} {rr : R2} {g : D → D → M D} {r : Env → M D} {pos' : Pos} (hN : X.N.Nodup) (hi : X.N[i]? = some x) (hx : Loc X.env.scope x) (h : ME X W e r) (ho : OpR X (inplaceOp op) rr) (o : OpM X.K W rr g) (hf : X.fn x = true ∨ X.env.scope.names.lookup x = some .local := by first | exact .inl rfl | exact .inr rfl | assumption) :
    MS X W (.AugAssign (.Name x pos') op e pos) (sAug i g r) := ⟨(ps_aug (ti := fun x y H Q => rr x y H Q) hN hi hx h.pe (fun pins s σ H x y v u Q I r1 r2 h => ho pins s σ H x y v u Q I r1 r2 h) hf).imp fun D σ H ⟨env, m, mu, hE, hR, hp⟩ => by
  have hp0 := Post.bind hp
  cases ev : env[i]? with
  | none => unfold eVar at hp0; rw [ev] at hp0; exact (show False from hp0).elim
  | some o2 =>
    cases o2 with
    | none => unfold eVar at hp0; rw [ev] at hp0; exact (show False from hp0).elim
    | some d =>
      unfold eVar at hp0
      rw [ev] at hp0
      obtain ⟨v, hv, rv⟩ := hE.get i d ev
      have hp1 := Post.pure hp0 hR
      exact ⟨v, hv, env, m, mu, hE, hR, (Post.bind hp1).mono fun y m1 mu1 H1 g1 R1 hp2 w rw' => o.go d y v w m1 mu1 H1 _ R1 (Rep.grow g1 d v rv) rw' ((Post.bind hp2).mono fun z m2 mu2 H2 g2 R2 hp3 u ru => (Post.pure hp3 R2) _ (((hE.grow g1).grow g2).set ru))⟩⟩
end
end MP
namespace MP
open PySem L2 PyProof.Rows
/-! ### objects of the small heap that change -/
/-- the list at a place is changed by f, which hands back what the method gives -/
def modLr (o : Option MO) (n : Nat) (f : List D → Option (List D × D)) (mu : List MO) : R D := match o with
  | some (.lst xs) => match f xs with
    | some (ys, d) => .ok d (mu.set n (.lst ys))
    | none => .bad
  | _ => .bad
def modL (n : Nat) (f : List D → Option (List D × D)) : M D := fun mu => modLr mu[n]? n f mu
def modDr (o : Option MO) (n : Nat) (f : List (Key × D) → Option (List (Key × D) × D)) (mu : List MO) : R D := match o with
  | some (.dk xs) => match f xs with
    | some (ys, d) => .ok d (mu.set n (.dk ys))
    | none => .bad
  | _ => .bad
def modD (n : Nat) (f : List (Key × D) → Option (List (Key × D) × D)) : M D := fun mu => modDr mu[n]? n f mu
def toR : D → M Nat
  | .ref n => pure n
  | _ => bad
section
variable {K : PySem.W.Frag} {W : Wx} {m m' : Mp} {H H' : Hp} {mu : List MO}
theorem toR_ok {d : D} {v : V} {Q : Nat → Mp → List MO → Hp → Prop} (rl : Rel K m mu H) (h : Rep K m H d v) (hp : Post K W m H (toR d mu) Q) : ∃ n a, d = .ref n ∧ v = .ref a ∧ m.ad[n]? = some a ∧ Q n m mu H := by
  cases d
  case ref n => simp only [Rep] at h; obtain ⟨a, e, hm⟩ := h; exact ⟨n, a, rfl, e, hm, hp m H .refl rl⟩
  all_goals exact (show False from hp).elim
theorem modL_ok {n : Nat} {f : List D → Option (List D × D)} {a : Addr} {Q : D → Mp → List MO → Hp → Prop} (R : Rel K m mu H) (hm : m.ad[n]? = some a) (hp : Post K W m H (modL n f mu) Q) : ∃ xs vs ys d, H a = some (.lst vs) ∧ Reps K m H xs vs ∧ f xs = some (ys, d) ∧
    (∀ ws, Grow m m H (upd H a (.lst ws))) ∧ ∀ ws, Reps K m (upd H a (.lst ws)) ys ws → Q d m (mu.set n (.lst ys)) (upd H a (.lst ws)) := by
  unfold modL at hp
  obtain ⟨o, ho, hr⟩ := R.at' hm
  rw [ho] at hp
  cases o with
  | dk _ => exact (show False from hp).elim
  | lst xs =>
    obtain ⟨vs, hH, hr⟩ := hr
    cases e : f xs with
    | none =>
      have hp : Post K W m H (match f xs with
        | some (ys, d) => MP.R.ok d (mu.set n (.lst ys))
        | none => .bad) Q := hp
      rw [e] at hp; exact (show False from hp).elim
    | some p =>
      obtain ⟨ys, d⟩ := p
      have hp : Post K W m H (match f xs with
        | some (ys, d) => MP.R.ok d (mu.set n (.lst ys))
        | none => .bad) Q := hp
      rw [e] at hp
      exact ⟨xs, vs, ys, d, hH, hr, e, fun ws => .write R hm, fun ws hw => hp m _ (.write R hm) (R.write hm ⟨ws, upd_same, hw⟩)⟩
theorem modD_ok {n : Nat} {f : List (Key × D) → Option (List (Key × D) × D)} {a : Addr} {Q : D → Mp → List MO → Hp → Prop} (R : Rel K m mu H) (hm : m.ad[n]? = some a) (hp : Post K W m H (modD n f mu) Q) : ∃ xs vs ys d, H a = some (.dK ((xs.map (·.1)).zip vs)) ∧ Reps K m H (xs.map (·.2)) vs ∧ f xs = some (ys, d) ∧
    (∀ ws, Grow m m H (upd H a (.dK ws))) ∧ ∀ ws, Reps K m (upd H a (.dK ((ys.map (·.1)).zip ws))) (ys.map (·.2)) ws → Q d m (mu.set n (.dk ys)) (upd H a (.dK ((ys.map (·.1)).zip ws))) := by
  unfold modD at hp
  obtain ⟨o, ho, hr⟩ := R.at' hm
  rw [ho] at hp
  cases o with
  | lst _ => exact (show False from hp).elim
  | dk xs =>
    obtain ⟨vs, hH, hr⟩ := hr
    have hp : Post K W m H (match f xs with
      | some (ys, d) => MP.R.ok d (mu.set n (.dk ys))
      | none => .bad) Q := hp
    cases e : f xs with
    | none => rw [e] at hp; exact (show False from hp).elim
    | some p =>
      obtain ⟨ys, d⟩ := p
      rw [e] at hp
      exact ⟨xs, vs, ys, d, hH, hr, e, fun ws => .write R hm, fun ws hw => hp m _ (.write R hm) (R.write hm ⟨ws, upd_same, hw⟩)⟩
end
/-- it is a list -/
def lstK : D → M Unit
  | .fl _ => pure ()
  | .ro _ => pure ()
  | .ref n => fun mu => match mu[n]? with
    | some (.lst _) => .ok () mu
    | _ => .bad
  | _ => bad
def eMeth (k : D → M Unit) (g : D → List D → M D) (ro : Env → M D) (rs : Env → M (List D)) : Env → M D := fun env => ro env >>= fun o => k o >>= fun _ => rs env >>= fun xs => g o xs
structure MethM (K : PySem.W.Frag) (W : Wx) (r : V → List V → Hp → VK → Prop) (g : D → List D → M D) : Prop where
  go : ∀ (o : D) (ds : List D) (v : V) (vs : List V) (m : Mp) (mu : List MO) (H : Hp) (Q : VK), Rel K m mu H → Rep K m H o v → Reps K m H ds vs → Post K W m H (g o ds mu) (fun d m' _ H' => ∀ u, Rep K m' H' d u → Q u H') → r v vs H Q
section
variable {X : Cx} {W : Wx} {e o a b tg iter : Expr} {es : List Expr} {pos apos cpos p : Pos}
theorem lstK_ok {K : PySem.W.Frag} {m : Mp} {H : Hp} {mu : List MO} {d : D} {v : V} {Q : Unit → Mp → List MO → Hp → Prop} (R : Rel K m mu H) (h : Rep K m H d v) (hp : Post K W m H (lstK d mu) Q) : ∃ a vs, v = .ref a ∧ SqL K H a vs ∧ Q () m mu H := by
  cases d <;> simp only [Rep] at h
  case fl ds => obtain ⟨a, vs, rfl, hs, _, _⟩ := h; exact ⟨a, vs, rfl, .of hs, hp m H .refl R⟩
  case ro ds => obtain ⟨a, vs, rfl, hs, _⟩ := h; exact ⟨a, vs, rfl, hs.sqL, hp m H .refl R⟩
  case ref n =>
    obtain ⟨a, rfl, hm⟩ := h
    obtain ⟨o, ho, hr⟩ := R.at' hm
    have e1 : lstK (.ref n) mu = match mu[n]? with
      | some (.lst _) => MP.R.ok () mu
      | _ => .bad := rfl
    rw [e1, ho] at hp
    cases o with
    | dk _ => exact (show False from hp).elim
    | lst xs => obtain ⟨vs, hH, _⟩ := hr; exact ⟨a, vs, rfl, .of hH, hp m H .refl R⟩
  all_goals exact (show False from hp).elim
theorem meth_go {T : String} {k : D → M Unit} {r : V → List V → Hp → VK → Prop} {g : D → List D → M D} {ro : Env → M D} {rs : Env → M (List D)} (c : MethM X.K W r g)
    (hk : ∀ (m : Mp) (mu : List MO) (H : Hp) (d : D) (v : V) (Q : Unit → Mp → List MO → Hp → Prop), Rel X.K m mu H → Rep X.K m H d v → Post X.K W m H (k d mu) Q → tyV X.K T v H ∧ Q () m mu H) : ∀ σ H Q, tE X.K W (eMeth k g ro rs) σ H Q → tBM X.K T r (tE X.K W ro) (tA X.K W rs) σ H Q := fun σ H Q ⟨env, m, mu, hE, hR, hp⟩ =>
  ⟨env, m, mu, hE, hR, (Post.bind hp).mono fun x m1 mu1 H1 g1 R1 hp1 v rv => by
    obtain ⟨ty, hp2⟩ := hk m1 mu1 H1 x v _ R1 rv (Post.bind hp1)
    exact ⟨ty, env, m1, mu1, hE.grow g1, R1, (Post.bind hp2).mono fun xs m2 mu2 H2 g2 R2 hp3 vs rvs => c.go x xs v vs m2 mu2 H2 Q R2 (Rep.grow g2 x v rv) rvs hp3⟩⟩
theorem me_lmeth {id : String} {name : Str} {r : V → List V → Hp → VK → Prop} {g : D → List D → M D} {ro : Env → M D} {rs : Env → M (List D)} (slot : Slot "list" name id) (hty : typeOf (.builtin id) = pure (.type "method_descriptor")) (hm : MtR X id r) (c : MethM X.K W r g) (h : ME X W o ro) (hs : MA X W (e :: es) rs)
    (hbase : attributeBase o name X.env (eval o X.env) = eval o X.env := by rfl)
    (hfew : ((backTo cpos (starEach (e :: es) X.env)).all (fun x => !x.1) && (backToKw cpos (keywordEach [] X.env)).all (fun x => x.1.isSome)
      && decide ((e :: es).length + ([] : List Keyword).length + (if ([] : List Keyword).isEmpty then 0 else 1) < 30)) = true := by rfl)
    (hline : (apos.endLine == cpos.line) = true := by rfl) (hst : starEach (e :: es) X.env = (false, eval e X.env) :: starEach es X.env := by rfl) (hplain : (backTo cpos (starEach es X.env)).any (·.1) = false := by rfl) :
    ME X W (.Call (.Attribute o name apos) (e :: es) [] cpos) (eMeth lstK g ro rs) :=
  ⟨(pe_bm PySem.F.plainAttrs_list slot hty hm h.pe hs.pa hbase hfew hline hst hplain).imp (meth_go c fun m mu H d v Q R hd hp => by
    obtain ⟨a, vs, rfl, hs, q⟩ := lstK_ok R hd hp
    exact ⟨.inl ⟨rfl, vs, hs⟩, q⟩)⟩
theorem me_lmeth0 {id : String} {name : Str} {r : V → List V → Hp → VK → Prop} {g : D → List D → M D} {ro : Env → M D} (slot : Slot "list" name id) (hty : typeOf (.builtin id) = pure (.type "method_descriptor")) (hm : MtR X id r) (c : MethM X.K W r g) (h : ME X W o ro)
    (hbase : attributeBase o name X.env (eval o X.env) = eval o X.env := by rfl) (hline : (apos.endLine == cpos.line) = true := by rfl) :
    ME X W (.Call (.Attribute o name apos) [] [] cpos) (eMeth lstK g ro aNil) :=
  ⟨(pe_bm0 PySem.F.plainAttrs_list slot hty hm h.pe hbase hline).imp fun σ H Q hq => by
    obtain ⟨env, m, mu, hE, hR, hp⟩ := hq
    exact ⟨env, m, mu, hE, hR, (Post.bind hp).mono fun x m1 mu1 H1 g1 R1 hp1 v rv => by
      obtain ⟨a, vs, rfl, hs, hp2⟩ := lstK_ok R1 rv (Post.bind hp1)
      exact ⟨.inl ⟨rfl, vs, hs⟩, c.go x [] _ [] m1 mu1 H1 Q R1 rv (Reps.nil_iff.mpr rfl) (Post.pure (Post.bind hp2) R1)⟩⟩⟩
/-- append -/
def gAppend : D → List D → M D
  | .ref n, [y] => modL n fun xs => if xs.length < sizeLine then some (xs ++ [y], .non) else none
  | _, _ => bad
theorem methM_append : MethM X.K W rAppend gAppend := ⟨fun o ds v vs m mu H Q R ho hr hp => by
  cases o
  case ref n =>
    match ds, hr, hp with
    | [y], hr, hp =>
      obtain ⟨w, rfl, hw⟩ := rep1 hr
      simp only [Rep] at ho
      obtain ⟨a, rfl, hm⟩ := ho
      obtain ⟨xs, us, ys, d, hH, hrs, hf, hg, hq⟩ := modL_ok R hm hp
      by_cases c : xs.length < sizeLine
      · rw [if_pos c] at hf
        cases hf
        refine ⟨a, us, w, rfl, rfl, hH, by rw [← hrs.length]; exact c, ?_⟩
        exact hq (us ++ [w]) ((Reps.grow (hg _) xs us hrs).append (Reps.one (Rep.grow (hg _) y w hw))) .non (by simp only [Rep])
      · rw [if_neg c] at hf; cases hf
    | [], _, hp => exact (show False from hp).elim
    | _ :: _ :: _, _, hp => exact (show False from hp).elim
  all_goals exact (show False from hp).elim⟩
/-- extend -/
def gExtend : D → List D → M D
  | .ref n, [y] => rdM y >>= fun zs => modL n fun xs => if xs.length + zs.length ≤ sizeLine then some (xs ++ zs, .non) else none
  | _, _ => bad
theorem methM_extend : MethM X.K W rExtend gExtend := ⟨fun o ds v vs m mu H Q R ho hr hp => by
  cases o
  case ref n =>
    match ds, hr, hp with
    | [y], hr, hp =>
      obtain ⟨w, rfl, hw⟩ := rep1 hr
      simp only [Rep] at ho
      obtain ⟨a, rfl, hm⟩ := ho
      obtain ⟨b, zs, ws, rfl, hb, hz, _, hp⟩ := rdM_ok R hw (Post.bind hp)
      obtain ⟨xs, us, ys, d, hH, hrs, hf, hg, hq⟩ := modL_ok R hm hp
      by_cases c : xs.length + zs.length ≤ sizeLine
      · rw [if_pos c] at hf
        cases hf
        refine ⟨a, b, us, ws, rfl, rfl, hH, hb, by rw [← hrs.length, ← hz.length]; exact c, ?_⟩
        exact hq (us ++ ws) ((Reps.grow (hg _) xs us hrs).append (Reps.grow (hg _) zs ws hz)) .non (by simp only [Rep])
      · rw [if_neg c] at hf; cases hf
    | [], _, hp => exact (show False from hp).elim
    | _ :: _ :: _, _, hp => exact (show False from hp).elim
  all_goals exact (show False from hp).elim⟩
/-- insert -/
def gInsert : D → List D → M D
  | .ref n, [x, y] => toI x >>= fun i => modL n fun xs => if xs.length < sizeLine ∧ 0 ≤ i ∧ i < 2 ^ 63 then some (xs.take i.toNat ++ [y] ++ xs.drop i.toNat, .non) else none
  | _, _ => bad
def rInsert : V → List V → Hp → VK → Prop := fun x vs H Q => ∃ (l : Addr) (xs : List V) (i : Int) (y : V), x = .ref l ∧ vs = [.int i, y] ∧ H l = some (.lst xs) ∧ xs.length < sizeLine ∧ 0 ≤ i ∧ i < 2 ^ 63 ∧ Q .non (upd H l (.lst (xs.take i.toNat ++ [y] ++ xs.drop i.toNat)))
theorem methM_insert : MethM X.K W rInsert gInsert := ⟨fun o ds v vs m mu H Q R ho hr hp => by
  cases o
  case ref n =>
    match ds, hr, hp with
    | [x, y], hr, hp =>
      obtain ⟨v, w, rfl, hv, hw⟩ := rep2 hr
      simp only [Rep] at ho
      obtain ⟨a, rfl, hm⟩ := ho
      obtain ⟨i, rfl, rfl, hp⟩ := toI_ok R hv (Post.bind hp)
      obtain ⟨xs, us, ys, d, hH, hrs, hf, hg, hq⟩ := modL_ok R hm hp
      by_cases c : xs.length < sizeLine ∧ 0 ≤ i ∧ i < 2 ^ 63
      · rw [if_pos c] at hf
        cases hf
        refine ⟨a, us, i, w, rfl, rfl, hH, by rw [← hrs.length]; exact c.1, c.2.1, c.2.2, ?_⟩
        have hrs' : ∀ ws, Reps X.K m (upd H a (.lst ws)) xs us := fun ws => Reps.grow (hg ws) xs us hrs
        exact hq _ ((((hrs' _).take _).append (Reps.one (Rep.grow (hg _) y w hw))).append ((hrs' _).drop _)) .non (by simp only [Rep])
      · rw [if_neg c] at hf; cases hf
    | [], _, hp => exact (show False from hp).elim
    | [_], _, hp => exact (show False from hp).elim
    | _ :: _ :: _ :: _, _, hp => exact (show False from hp).elim
  all_goals exact (show False from hp).elim⟩
/-- pop(), pop(i) -/
def gPop0 : D → List D → M D
  | .ref n, [] => modL n fun xs => match xs[xs.length - 1]? with
    | some y => some (xs.dropLast, y)
    | none => none
  | _, _ => bad
theorem Reps.dropLast {K : PySem.W.Frag} {m : Mp} {H : Hp} {ds : List D} {vs : List V} (h : Reps K m H ds vs) : Reps K m H ds.dropLast vs.dropLast := by
  rw [List.dropLast_eq_take, List.dropLast_eq_take, h.length]
  exact h.take _
theorem methM_pop0 : MethM X.K W rPop gPop0 := ⟨fun o ds v vs m mu H Q R ho hr hp => by
  cases o
  case ref n =>
    match ds, hr, hp with
    | [], hr, hp =>
      rw [Reps.nil_iff] at hr
      subst hr
      simp only [Rep] at ho
      obtain ⟨a, rfl, hm⟩ := ho
      obtain ⟨xs, us, ys, d, hH, hrs, hf, hg, hq⟩ := modL_ok R hm hp
      cases e : xs[xs.length - 1]? with
      | none => rw [e] at hf; cases hf
      | some y =>
        rw [e] at hf
        cases hf
        obtain ⟨w, hw, rw'⟩ := hrs.get e
        refine ⟨a, us, w, rfl, rfl, hH, by rw [← hrs.length]; exact hw, ?_⟩
        exact hq _ (Reps.dropLast (Reps.grow (hg _) xs us hrs)) w (Rep.grow (hg _) _ w rw')
    | _ :: _, _, hp => exact (show False from hp).elim
  all_goals exact (show False from hp).elim⟩
def gPopAt : D → List D → M D
  | .ref n, [x] => toI x >>= fun i => modL n fun xs => if -(2 ^ 63) ≤ i ∧ i < 2 ^ 63 then match seqIndex? i xs.length with
    | some k => match xs[k]? with
      | some y => some (xs.eraseIdx k, y)
      | none => none
    | none => none else none
  | _, _ => bad
theorem Reps.eraseIdx {K : PySem.W.Frag} {m : Mp} {H : Hp} : ∀ {ds : List D} {vs : List V} (i : Nat), Reps K m H ds vs → Reps K m H (ds.eraseIdx i) (vs.eraseIdx i)
  | [], vs, i, h => by rw [Reps.nil_iff] at h; subst h; exact Reps.nil_iff.mpr rfl
  | d :: ds, vs, i, h => by
    obtain ⟨v, r, rfl, h1, h2⟩ := Reps.cons_iff.mp h
    cases i with
    | zero => exact h2
    | succ i => exact Reps.cons_iff.mpr ⟨v, _, rfl, h1, Reps.eraseIdx i h2⟩
theorem methM_popAt : MethM X.K W rPopAt gPopAt := ⟨fun o ds v vs m mu H Q R ho hr hp => by
  cases o
  case ref n =>
    match ds, hr, hp with
    | [y], hr, hp =>
      obtain ⟨w, rfl, hw⟩ := rep1 hr
      simp only [Rep] at ho
      obtain ⟨a, rfl, hm⟩ := ho
      obtain ⟨i, rfl, rfl, hp⟩ := toI_ok R hw (Post.bind hp)
      obtain ⟨xs, us, ys, d, hH, hrs, hf, hg, hq⟩ := modL_ok R hm hp
      by_cases c : -(2 ^ 63) ≤ i ∧ i < 2 ^ 63
      · rw [if_pos c] at hf
        cases ek : seqIndex? i xs.length with
        | none => rw [ek] at hf; cases hf
        | some k =>
          rw [ek] at hf
          cases e : xs[k]? with
          | none => simp only [e] at hf; cases hf
          | some y =>
            simp only [e] at hf
            cases hf
            obtain ⟨w, hw, rw'⟩ := hrs.get e
            refine ⟨a, us, i, k, w, rfl, rfl, hH, c.1, c.2, by rw [← hrs.length]; exact ek, hw, ?_⟩
            exact hq _ (Reps.eraseIdx k (Reps.grow (hg _) xs us hrs)) w (Rep.grow (hg _) _ w rw')
      · rw [if_neg c] at hf; cases hf
    | [], _, hp => exact (show False from hp).elim
    | _ :: _ :: _, _, hp => exact (show False from hp).elim
  all_goals exact (show False from hp).elim⟩
/-- xs[i] = e -/
def setL (o i v : D) : M D := toR o >>= fun n => toI i >>= fun k => modL n fun xs => match ixN xs.length k with
  | some j => some (xs.set j v, .non)
  | none => none
def sSub (ro ri rv : Env → M D) : Env → M Fl := fun env => rv env >>= fun v => ro env >>= fun o => ri env >>= fun i => setL o i v >>= fun _ => pure (.nx env)
theorem ms_sub {ro ri rv : Env → M D} {sp : Pos} (ho : ME X W o ro) (hi : ME X W a ri) (hv : ME X W e rv)
    (ha : ∀ v, assign (.Subscript o a sp) X.env v = (do
      let ov ← holding [v] (eval o X.env)
      let iv ← holding [v, ov] (eval a X.env)
      standAt sp
      holding [v, ov, iv] (setItem ov iv v)
      release [v, ov, iv] []) := by intro _; rfl)
    (hs : swapsWithSole [.Subscript o a sp] e pos.line X.env = pure false := by rfl) (hw : swappedStores [.Subscript o a sp] e X.env = pure none := by rfl) (h1 : (assignEach [.Subscript o a sp] X.env).map (·.2) = [assign (.Subscript o a sp) X.env] := by rfl) :
    MS X W (.Assign [.Subscript o a sp] e pos) (sSub ro ri rv) := ⟨(ps_asg hv.pe (pg_sub ho.pe hi.pe set_list ha) hs hw h1).imp fun D σ H ⟨env, m, mu, hE, hR, hp⟩ =>
  ⟨env, m, mu, hE, hR, (Post.bind hp).mono fun v m1 mu1 H1 g1 R1 hp vv rv => ⟨env, m1, mu1, hE.grow g1, R1, (Post.bind hp).mono fun o m2 mu2 H2 g2 R2 hp ov ro => ⟨env, m2, mu2, (hE.grow g1).grow g2, R2, (Post.bind hp).mono fun i m3 mu3 H3 g3 R3 hp iv ri => by
    have hp := Post.bind hp
    unfold setL at hp
    obtain ⟨n, a, rfl, rfl, hm, hp⟩ := toR_ok R3 (Rep.grow g3 o ov ro) (Post.bind hp)
    obtain ⟨k, rfl, rfl, hp⟩ := toI_ok R3 ri (Post.bind hp)
    obtain ⟨xs, us, ys, d, hH, hrs, hf, hg, hq⟩ := modL_ok R3 hm hp
    cases ej : ixN xs.length k with
    | none => rw [ej] at hf; cases hf
    | some j =>
      rw [ej] at hf
      cases hf
      refine ⟨a, us, k, j, rfl, rfl, hH, by rw [← hrs.length]; exact ej, ?_⟩
      have gg := hg (us.set j vv)
      have q := hq (us.set j vv) (Reps.set (Rep.grow gg v vv (Rep.grow g3 v vv (Rep.grow g2 v vv rv))) j (Reps.grow gg xs us hrs))
      exact (Post.pure q (R3.write hm ⟨_, upd_same, Reps.set (Rep.grow gg v vv (Rep.grow g3 v vv (Rep.grow g2 v vv rv))) j (Reps.grow gg xs us hrs)⟩)) σ (((hE.grow g1).grow g2).grow g3 |>.grow gg)⟩⟩⟩⟩
end
end MP
namespace MP
open PySem L2 PyProof.Rows
/-! ### list comprehensions -/
/-- no exception -/
def noX {α : Type} (c : M α) : M α := fun mu => match c mu with
  | .exc _ _ => .bad
  | r => r
abbrev W0 : Wx := fun _ _ _ => False
theorem noX_post {K : PySem.W.Frag} {W : Wx} {m : Mp} {H : Hp} {mu : List MO} {α : Type} {c : M α} {Q : α → Mp → List MO → Hp → Prop} (h : Post K W m H (noX c mu) Q) : Post K W0 m H (c mu) Q := by
  have e : noX c mu = match c mu with
    | .exc _ _ => .bad
    | r => r := rfl
  rw [e] at h
  cases hc : c mu with
  | ok a mu' => rw [hc] at h; exact h
  | exc x mu' => rw [hc] at h; exact (show False from h).elim
  | bad => rw [hc] at h; exact h
noncomputable def loopC (asg : D → Env → M Env) (t : Env → M Bool) (r : Env → M D) (g : List (Nat × List D)) : List D → Env → M (List D)
  | [], _ => chk g >>= fun _ => pure []
  | d :: ds, env => chk g >>= fun _ => asg d env >>= fun env1 => t env1 >>= fun b => if b = true then (r env1 >>= fun x => loopC asg t r g ds env >>= fun xs => pure (x :: xs)) else loopC asg t r g ds env
/-- [elt for .. in .. if ..]; vs: the slots of the comprehension's own names -/
noncomputable def fComp (w : Env → M Wk) (asg : D → Env → M Env) (t : Env → M Bool) (r : Env → M D) (vs : List Nat) : Env → M (List D) := fun env => w env >>= fun p => noX (loopC asg t r p.2 p.1 (wipeE env vs))
def tYesM : Env → M Bool := fun _ => pure true
structure MTs (X : Cx) (W : Wx) (ifs : List Expr) (r : Env → M Bool) : Prop where
  pt : PTs X ifs (tT X.K W r)
theorem _root_.L2.PTs.imp {X : Cx} {ifs : List Expr} {t t' : TT} (h : PTs X ifs t) (i : ∀ σ H Q, t' σ H Q → t σ H Q) : PTs X ifs t' := ⟨fun pins s σ H Q I q => h.run pins s σ H Q I (i σ H Q q)⟩
section
variable {X : Cx} {W : Wx} {e o a b tg iter elt : Expr} {es ifs : List Expr} {pos apos cpos p : Pos}
theorem mts_nil : MTs X W [] tYesM := ⟨pts_nil.imp fun σ H Q ⟨env, m, mu, hE, hR, hp⟩ => Post.pure hp hR⟩
theorem mts_one {r : Env → M Bool} (h : MT X W e r) : MTs X W [e] r := ⟨pts_one h.pt⟩
theorem wipe_off {vs : List Nat} {σ' σ : L2.St} {l : List Nat} (h : Off l σ' (L2.wipe σ vs)) (hl : ∀ i ∈ l, i ∈ vs) : L2.wipe σ' vs = L2.wipe σ vs := by
  have len : σ'.length = σ.length := by rw [h.1, L2.wipe_length]
  apply List.ext_getElem?
  intro i
  by_cases hi : i ∈ vs
  · have none_at : ∀ (τ : L2.St), τ.length = σ.length → (L2.wipe τ vs)[i]? = if i < σ.length then some none else none := by
      intro τ ht
      clear h hl len
      induction vs with
      | nil => cases hi
      | cons j vs ih =>
        show ((L2.wipe τ vs).set j none)[i]? = _
        by_cases hj : j = i
        · subst hj
          by_cases hlt : j < σ.length
          · rw [List.getElem?_set_self (by rw [L2.wipe_length, ht]; exact hlt), if_pos hlt]
          · rw [List.getElem?_eq_none (by rw [List.length_set, L2.wipe_length, ht]; omega), if_neg hlt]
        · rw [List.getElem?_set_ne hj]
          exact ih (by rcases List.mem_cons.mp hi with z | z; exact absurd z.symm hj; exact z)
    rw [none_at σ' len, none_at σ rfl]
  · rw [L2wipe_get hi, h.2 i (fun z => hi (hl i z))]
/-- the comprehension's list, for its reading -/
theorem comp_go {wi : TI} {vs l : List Nat} {w : Env → M Wk} {asg : D → Env → M Env} {t : Env → M Bool} {r : Env → M D} (hl : ∀ i ∈ l, i ∈ vs) (hwi : wi = tI X.K W w) : ∀ σ H Q, tF X.K W (fComp w asg t r vs) σ H Q → tLc wi (tG X.K W0 l asg) (tT X.K W0 t) (tE X.K W0 r) vs σ H Q := by
  subst hwi
  rintro σ H Q ⟨env, m, mu, hE, hR, hp⟩
  refine ⟨env, m, mu, hE, hR, (Post.bind hp).mono fun p m1 mu1 H1 g1 R1 hp0 hz J ok => ?_⟩
  have hp0 := noX_post hp0
  intro Dd hDn
  have hdead : ∀ b o, H1 b = some o → b ≠ Dd := fun b o e z => by rw [z, hDn] at e; cases e
  have hD0 : H Dd = none := g1.none_of hDn
  refine ⟨fun i k H2 => ∃ rest acc vs2 m2 mu2, k = rest.length ∧ p.1.drop i = rest ∧ acc.length ≤ i ∧ H2 Dd = some (.lst vs2) ∧ Dd ∈ m2.no ∧ Dd ∉ m2.ad ∧ Reps X.K m2 H2 acc vs2 ∧ Rel X.K m2 mu2 H2 ∧ RepE X.K m2 H2 (wipeE env vs) (L2.wipe σ vs) ∧ Grow m1 m2 H1 H2 ∧
      Post X.K W0 m1 H1 (loopC asg t r p.2 rest (wipeE env vs) mu2) fun xs m' mu' H' => NewL X.K H (acc ++ xs) m' mu' H' Q, ⟨_, p.1, [], [], m1.shut Dd, mu1, rfl, rfl, Nat.le_refl _, upd_same, by simp [Mp.shut], ?_, Reps.nil_iff.mpr rfl, ?_, ?_, ?_, ?_⟩, ?_⟩
  · exact (R1.free hDn).1
  · have g : Grow m1 m1 H1 (upd H1 Dd (.lst [])) := .laid hDn
    have kp : Keep m1 (m1.shut Dd) H1 (upd H1 Dd (.lst [])) := ⟨fun _ _ h => h, fun a o h n => ⟨by rw [upd_ne (hdead a o h)]; exact h, n.1, fun z => by
      rcases List.mem_append.mp z with z | z
      · exact n.2 z
      · exact hdead a o h (List.mem_singleton.mp z)⟩, g.tups, g.frzs⟩
    refine ⟨R1.len, R1.nd, fun a ha => ?_, fun a ha z => ?_, fun n o a h1 h2 => (R1.obj n o a h1 h2).keep kp fun u q => by rw [upd_ne (hdead a u q)]; exact q⟩
    · rcases List.mem_append.mp ha with z | z
      · exact g.trk a _ (R1.nos a z).choose_spec
      · rw [List.mem_singleton.mp z]; exact ⟨_, upd_same⟩
    · rcases List.mem_append.mp z with z | z
      · exact R1.dj a ha z
      · exact (R1.free hDn).1 (by rw [← List.mem_singleton.mp z]; exact ha)
  · have g : Grow m1 m1 H1 (upd H1 Dd (.lst [])) := .laid hDn
    have kp : Keep m1 (m1.shut Dd) H1 (upd H1 Dd (.lst [])) := ⟨fun _ _ h => h, fun a o h n => ⟨by rw [upd_ne (hdead a o h)]; exact h, n.1, fun z => by
      rcases List.mem_append.mp z with z | z
      · exact n.2 z
      · exact hdead a o h (List.mem_singleton.mp z)⟩, g.tups, g.frzs⟩
    exact ((hE.grow g1).wipe vs).keep kp
  · have g : Grow m1 m1 H1 (upd H1 Dd (.lst [])) := .laid hDn
    exact ⟨⟨[], [Dd], by simp [Mp.shut], rfl, by simp, fun a ha => by rw [List.mem_singleton.mp ha]; exact hDn⟩, g.oth, g.tups, g.frzs, g.trk⟩
  · exact hp0
  rintro i k H2 ⟨rest, acc, vs2, m2, mu2, rfl, hd, ha, hH2, hno, had, hacc, R2, hE2, g2, hp2⟩
  cases rest with
  | nil =>
    have e0 : loopC asg t r p.2 [] (wipeE env vs) mu2 = M.bind (chk p.2) (fun _ => pure []) mu2 := rfl
    rw [e0] at hp2
    unfold M.bind at hp2
    have hch : ∀ q ∈ p.2, mu2[q.1]? = some (.lst q.2) := by
      unfold chk at hp2
      by_cases z : ∀ q ∈ p.2, mu2[q.1]? = some (.lst q.2)
      · exact z
      · rw [if_neg z] at hp2; exact (show False from hp2).elim
    have ec : chk p.2 mu2 = .ok () mu2 := by unfold chk; rw [if_pos hch]
    rw [ec] at hp2
    refine .inl ⟨((ok m2 mu2 H2 g2 R2 hch).1 i) (by rw [List.drop_eq_nil_iff] at hd; exact hd), ?_⟩
    obtain ⟨l', k', e1, e2, hl', hk'⟩ := g2.ext
    have n1 : Dd ∉ m1.no := (R1.free hDn).2
    have kp : ∀ m3 : Mp, (∀ n a, m2.ad[n]? = some a → m3.ad[n]? = some a) → (∀ a, m2.Out a → m3.Out a) → Keep m2 m3 H2 H2 := fun m3 h1 h2 => ⟨h1, fun a o h n => ⟨h, h2 a n⟩, fun _ _ h => h, fun _ _ _ h => h⟩
    have k3 : Keep m2 ⟨m2.ad, m1.no⟩ H2 H2 := kp _ (fun _ _ h => h) fun a n => ⟨n.1, fun z => n.2 (by rw [e2]; exact List.mem_append_left _ z)⟩
    have g3 : Grow m1 ⟨m2.ad, m1.no⟩ H1 H2 := ⟨⟨l', [], e1, by simp, hl', by simp⟩, g2.oth, g2.tups, g2.frzs, g2.trk⟩
    have R3 : Rel X.K ⟨m2.ad, m1.no⟩ mu2 H2 := ⟨R2.len, R2.nd, fun a z => R2.nos a (by rw [e2]; exact List.mem_append_left _ z), fun a ha z => R2.dj a ha (by rw [e2]; exact List.mem_append_left _ z), fun n o a h1 h2 => (R2.obj n o a h1 h2).keep k3 fun _ q => q⟩
    have k4 : Keep m2 ((⟨m2.ad, m1.no⟩ : Mp).add Dd) H2 H2 := kp _ (fun n a h => by
      show (m2.ad ++ [Dd])[n]? = some a
      rw [List.getElem?_append_left (List.getElem?_eq_some_iff.mp h).1]; exact h) fun a n => ⟨fun z => by
        rcases List.mem_append.mp z with z | z
        · exact n.1 z
        · exact n.2 (by rw [List.mem_singleton.mp z]; exact hno), fun z => n.2 (by rw [e2]; exact List.mem_append_left _ z)⟩
    have q := hp2 ⟨m2.ad, m1.no⟩ H2 g3 R3 Dd vs2 hD0 hH2 ⟨had, n1⟩ (by rw [List.append_nil]; exact Reps.keep k3 acc vs2 hacc)
    refine q ?_
    rw [List.append_nil]
    refine ⟨by show (m2.ad ++ [Dd]).length = _; rw [List.length_append, List.length_append, R2.len]; rfl, ?_, fun a z => R3.nos a z, fun a ha z => ?_, fun n ob b h1 h2 => ?_⟩
    · show (m2.ad ++ [Dd]).Nodup
      rw [List.nodup_append]
      refine ⟨R2.nd, by simp, fun x hx y hy => ?_⟩
      rw [List.mem_singleton.mp hy]
      rintro rfl
      exact had hx
    · rcases List.mem_append.mp (show a ∈ m2.ad ++ [Dd] from ha) with z' | z'
      · exact R3.dj a z' z
      · exact n1 (by rw [← List.mem_singleton.mp z']; exact z)
    · have h2 : (m2.ad ++ [Dd])[n]? = some b := h2
      by_cases h : n < mu2.length
      · rw [List.getElem?_append_left h] at h1
        rw [List.getElem?_append_left (by rw [R2.len]; exact h)] at h2
        exact (R2.obj n ob b h1 h2).keep k4 fun _ q => q
      · by_cases hl : n = mu2.length
        · subst hl
          rw [List.getElem?_append_right (Nat.le_refl _), Nat.sub_self] at h1
          rw [List.getElem?_append_right (by rw [R2.len]; exact Nat.le_refl _), ← R2.len, Nat.sub_self] at h2
          cases h1
          cases h2
          exact ⟨vs2, hH2, Reps.keep k4 acc vs2 hacc⟩
        · rw [List.getElem?_eq_none (by rw [List.length_append]; simp only [List.length_cons, List.length_nil]; omega)] at h1
          cases h1
  | cons d ds =>
    have e0 : loopC asg t r p.2 (d :: ds) (wipeE env vs) mu2 = M.bind (chk p.2) (fun _ => M.bind (asg d (wipeE env vs)) fun env1 => M.bind (t env1) fun b => if b = true then (r env1 >>= fun x => loopC asg t r p.2 ds (wipeE env vs) >>= fun xs => pure (x :: xs)) else loopC asg t r p.2 ds (wipeE env vs)) mu2 := rfl
    rw [e0] at hp2
    unfold M.bind at hp2
    have hch : ∀ q ∈ p.2, mu2[q.1]? = some (.lst q.2) := by
      unfold chk at hp2
      by_cases z : ∀ q ∈ p.2, mu2[q.1]? = some (.lst q.2)
      · exact z
      · rw [if_neg z] at hp2; exact (show False from hp2).elim
    have ec : chk p.2 mu2 = .ok () mu2 := by unfold chk; rw [if_pos hch]
    rw [ec] at hp2
    dsimp only at hp2
    have hdi : p.1[i]? = some d := by
      have e : (p.1.drop i)[0]? = some d := by rw [hd]; rfl
      rw [List.getElem?_drop] at e
      simpa using e
    have hds : p.1.drop (i + 1) = ds := by
      have e := congrArg List.tail hd
      rw [List.tail_drop] at e
      exact e
    have hil : i < p.1.length := (List.getElem?_eq_some_iff.mp hdi).1
    obtain ⟨go, yl⟩ := (ok m2 mu2 H2 g2 R2 hch).2 i d hdi
    -- the turn's end: nothing is added, or a datum
    have fin : ∀ (acc' : List D) (vs' : List V) (m3 : Mp) (mu3 : List MO) (H3 : Hp), acc'.length ≤ i + 1 → H3 Dd = some (.lst vs') → Dd ∈ m3.no → Dd ∉ m3.ad → Reps X.K m3 H3 acc' vs' → Rel X.K m3 mu3 H3 → RepE X.K m3 H3 (wipeE env vs) (L2.wipe σ vs) → Grow m1 m3 H1 H3 →
        (Post X.K W0 m1 H1 (loopC asg t r p.2 ds (wipeE env vs) mu3) fun xs m' mu' H' => NewL X.K H (acc' ++ xs) m' mu' H' Q) → ∃ m', m' < (d :: ds).length ∧ ∃ rest acc vs2 m2 mu2, m' = rest.length ∧ p.1.drop (i + 1) = rest ∧ acc.length ≤ i + 1 ∧ H3 Dd = some (.lst vs2) ∧ Dd ∈ m2.no ∧ Dd ∉ m2.ad ∧ Reps X.K m2 H3 acc vs2 ∧ Rel X.K m2 mu2 H3 ∧ RepE X.K m2 H3 (wipeE env vs) (L2.wipe σ vs) ∧ Grow m1 m2 H1 H3 ∧
      Post X.K W0 m1 H1 (loopC asg t r p.2 rest (wipeE env vs) mu2) fun xs m' mu' H' => NewL X.K H (acc ++ xs) m' mu' H' Q := fun acc' vs' m3 mu3 H3 a1 a2 a3 a4 a5 a6 a7 a8 a9 =>
      ⟨ds.length, Nat.lt_succ_self _, ds, acc', vs', m3, mu3, rfl, hds, a1, a2, a3, a4, a5, a6, a7, a8, a9⟩
    refine .inr ⟨go, fun H3 => ∃ m', m' < (d :: ds).length ∧ ∃ rest acc vs2 m2 mu2, m' = rest.length ∧ p.1.drop (i + 1) = rest ∧ acc.length ≤ i + 1 ∧ H3 Dd = some (.lst vs2) ∧ Dd ∈ m2.no ∧ Dd ∉ m2.ad ∧ Reps X.K m2 H3 acc vs2 ∧ Rel X.K m2 mu2 H3 ∧ RepE X.K m2 H3 (wipeE env vs) (L2.wipe σ vs) ∧ Grow m1 m2 H1 H3 ∧
      Post X.K W0 m1 H1 (loopC asg t r p.2 rest (wipeE env vs) mu2) fun xs m' mu' H' => NewL X.K H (acc ++ xs) m' mu' H' Q, fun H3 h => h, fun x H3 y => ?_⟩
    obtain ⟨gy, Ry, rx⟩ := yl x H3 y
    refine ⟨d, wipeE env vs, m2, mu2, hE2.grow gy, Ry, rx, ?_⟩
    have stay : ∀ (m3 : Mp) (H4 : Hp), Grow m2 m3 H2 H4 → H4 Dd = some (.lst vs2) ∧ Dd ∈ m3.no ∧ Dd ∉ m3.ad := fun m3 H4 g => by
      obtain ⟨l', k', e1, e2, _, _⟩ := g.ext
      exact ⟨g.oth Dd _ hH2 had, by rw [e2]; exact List.mem_append_left _ hno, g.notin hH2 had⟩
    cases ha1 : asg d (wipeE env vs) mu2 with
    | bad => rw [ha1] at hp2; exact (show False from hp2).elim
    | exc ex mu4 => rw [ha1] at hp2; exact fun m4 H4 g4 R4 => hp2 m4 H4 ((g2.trans gy).trans g4) R4
    | ok env1 mu4 =>
      rw [ha1] at hp2
      dsimp only at hp2
      intro m4 H4 g4 R4 σ2 hE4 off
      refine ⟨wipe_off off hl, env1, m4, mu4, hE4, R4, ?_⟩
      cases ht1 : t env1 mu4 with
      | bad => rw [ht1] at hp2; exact (show False from hp2).elim
      | exc ex mu5 => rw [ht1] at hp2; exact fun m5 H5 g5 R5 => hp2 m5 H5 (((g2.trans gy).trans g4).trans g5) R5
      | ok b mu5 =>
        rw [ht1] at hp2
        dsimp only at hp2
        intro m5 H5 g5 R5
        have g25 : Grow m2 m5 H2 H5 := (gy.trans g4).trans g5
        cases b with
        | false =>
          simp only [Bool.false_eq_true, if_false] at hp2 ⊢
          obtain ⟨s1, s2, s3⟩ := stay m5 H5 g25
          exact fin acc vs2 m5 mu5 H5 (Nat.le_succ_of_le ha) s1 s2 s3 (Reps.grow g25 acc vs2 hacc) R5 (hE2.grow g25) (g2.trans g25) hp2
        | true =>
          simp only [if_true] at hp2 ⊢
          refine ⟨env1, m5, mu5, hE4.grow g5, R5, ?_⟩
          have hp2 : Post X.K W0 m1 H1 (M.bind (r env1) (fun x => loopC asg t r p.2 ds (wipeE env vs) >>= fun xs => pure (x :: xs)) mu5) fun xs m' mu' H' => NewL X.K H (acc ++ xs) m' mu' H' Q := hp2
          unfold M.bind at hp2
          cases hr1 : r env1 mu5 with
          | bad => rw [hr1] at hp2; exact (show False from hp2).elim
          | exc ex mu6 => rw [hr1] at hp2; exact fun m6 H6 g6 R6 => hp2 m6 H6 ((g2.trans g25).trans g6) R6
          | ok yd mu6 =>
            rw [hr1] at hp2
            dsimp only at hp2
            intro m6 H6 g6 R6 v rv
            have g26 : Grow m2 m6 H2 H6 := g25.trans g6
            obtain ⟨s1, s2, s3⟩ := stay m6 H6 g26
            have hlen := hacc.length
            refine ⟨vs2, s1, by omega, ?_⟩
            have nD : ∀ b o, H6 b = some o → m6.Out b → b ≠ Dd := fun b o _ n z => n.2 (by rw [z]; exact s2)
            have kp : Keep m6 m6 H6 (upd H6 Dd (.lst (vs2 ++ [v]))) := ⟨fun _ _ h => h, fun a o h n => ⟨by rw [upd_ne (nD a o h n)]; exact h, n⟩, fun a xs h => by rw [upd_ne (fun z => by rw [z, s1] at h; cases h)]; exact h, fun a u xs h => by rw [upd_ne (fun z => by rw [z, s1] at h; cases h)]; exact h⟩
            have g6f : Grow m1 m6 H1 (upd H6 Dd (.lst (vs2 ++ [v]))) := by
              have g16 := g2.trans g26
              refine ⟨g16.ext, fun a o h n => ?_, fun a xs h => ?_, fun a o u h => ?_, fun a o h => ?_⟩
              · rw [upd_ne (hdead a o h)]; exact g16.oth a o h n
              · rw [upd_ne (hdead a _ h)]; exact g16.tups a xs h
              · rw [upd_ne (hdead a _ h)]; exact g16.frzs a o u h
              · rw [upd_ne (hdead a o h)]; exact g16.trk a o h
            refine fin (acc ++ [yd]) (vs2 ++ [v]) m6 mu6 _ (by rw [List.length_append]; simp only [List.length_cons, List.length_nil]; omega) upd_same s2 s3 ((Reps.keep kp acc vs2 (Reps.grow g26 acc vs2 hacc)).append (Reps.one (Rep.keep kp yd v rv))) ?_ ((hE2.grow g26).keep kp) g6f ?_
            · refine ⟨R6.len, R6.nd, fun a z => ?_, R6.dj, fun n ob a h1 h2 => (R6.obj n ob a h1 h2).keep kp fun u q => ?_⟩
              · by_cases za : a = Dd
                · subst za; exact ⟨_, upd_same⟩
                · rw [upd_ne za]; exact R6.nos a z
              · rw [upd_ne (fun z => s3 (by rw [← z]; exact List.mem_of_getElem? h2))]; exact q
            · refine (Post.bind hp2).mono fun xs m' mu' H' _ R' q => ?_
              have q2 := Post.pure q R'
              rw [show acc ++ [yd] ++ xs = acc ++ yd :: xs by simp]
              exact q2
theorem mf_comp {scope : Scope} {own : List (Str × Nat)} {w : Env → M Wk} {asg : D → Env → M Env} {t : Env → M Bool} {r : Env → M D} {l : List Nat} (hc : X.calm = true) (hN : X.N.Nodup) (hi : MI X W tg iter w) (ok : BlkOk X.N X.env.scope scope own) (hl : ∀ i ∈ l, i ∈ own.map (·.2))
    (hg : ∀ (s : Shared) (H : Hp) (C : Addr) (cl : List (Str × Addr)) (fp : List Addr), MG (X.blk s H scope (compEnvC scope cl C X.env) fp) W0 tg l asg) (ht : ∀ (s : Shared) (H : Hp) (C : Addr) (cl : List (Str × Addr)) (fp : List Addr), MTs (X.blk s H scope (compEnvC scope cl C X.env) fp) W0 ifs t)
    (he : ∀ (s : Shared) (H : Hp) (C : Addr) (cl : List (Str × Addr)) (fp : List Addr), ME (X.blk s H scope (compEnvC scope cl C X.env) fp) W0 elt r) (hs : ∀ x, foldedSetIterable iter X.env x = pure x := by intro _; rfl) :
    MF X W (.ListComp elt [⟨tg, iter, ifs, 0⟩] scope pos) (fComp w asg t r (own.map (·.2))) :=
  ⟨(pe_lc hc hN hi.pi ok (fun s H C cl fp => (hg s H C cl fp).pg) (fun s H C cl fp => (ht s H C cl fp).pt) (fun s H C cl fp => (he s H C cl fp).pe) hs).imp (comp_go hl rfl)⟩
/-- name = [..], by what becomes of the new list -/
theorem tAsg_imp {te te' : TE} {i : Nat} (h : ∀ σ H Q, te' σ H Q → te σ H Q) : ∀ D σ H, tAsg te' (gName i) D σ H → tAsg te (gName i) D σ H := fun D σ H q => h σ H _ q
theorem ms_setC {i : Nat} {y : Str} {py spos : Pos} {scope : Scope} {own : List (Str × Nat)} {w : Env → M Wk} {asg : D → Env → M Env} {t : Env → M Bool} {r : Env → M D} {l : List Nat} {rr : Env → M D} (hc : X.calm = true) (hN : X.N.Nodup) (hy : X.N[i]? = some y) (hyl : X.env.scope.names.lookup y = some .local)
    (hsw : swapsWith (.ListComp elt [⟨tg, iter, ifs, 0⟩] scope pos) (some (.Name y py)) spos.line X.env = pure true) (hi : MI X W tg iter w) (ok : BlkOk X.N X.env.scope scope own) (hl : ∀ i ∈ l, i ∈ own.map (·.2))
    (hg : ∀ (s : Shared) (H : Hp) (C : Addr) (cl : List (Str × Addr)) (fp : List Addr), MG (X.blk s H scope (compEnvC scope cl C X.env) fp) W0 tg l asg) (ht : ∀ (s : Shared) (H : Hp) (C : Addr) (cl : List (Str × Addr)) (fp : List Addr), MTs (X.blk s H scope (compEnvC scope cl C X.env) fp) W0 ifs t)
    (he : ∀ (s : Shared) (H : Hp) (C : Addr) (cl : List (Str × Addr)) (fp : List Addr), ME (X.blk s H scope (compEnvC scope cl C X.env) fp) W0 elt r)
    (hrr : ∀ σ H Q, tE X.K W rr σ H Q → tF X.K W (fComp w asg t r (own.map (·.2))) σ H Q) (hs : ∀ x, foldedSetIterable iter X.env x = pure x := by intro _; rfl) :
    MS X W (.Assign [.Name y py] (.ListComp elt [⟨tg, iter, ifs, 0⟩] scope pos) spos) (sSet i rr) :=
  ⟨(ps_setLc hc hN hy hyl hsw hi.pi ok (fun s H C cl fp => (hg s H C cl fp).pg) (fun s H C cl fp => (ht s H C cl fp).pt) (fun s H C cl fp => (he s H C cl fp).pe) hs).imp fun D σ H q => comp_go hl rfl σ H _ (hrr σ H _ (set_go D σ H q))⟩
theorem fl_go {r : Env → M (List D)} : ∀ σ H Q, tE X.K W (eFl r) σ H Q → tF X.K W r σ H Q := fun σ H Q ⟨env, m, mu, hE, hR, hp⟩ =>
  ⟨env, m, mu, hE, hR, (Post.bind hp).mono fun xs m1 mu1 H1 g1 R1 hp a vs h0 h1 hn hr _ => Post.pure hp R1 _ (by simp only [Rep]; exact ⟨a, vs, rfl, h1, hn, hr⟩)⟩
theorem new_go {r : Env → M (List D)} : ∀ σ H Q, tE X.K W (eNew r) σ H Q → tF X.K W r σ H Q := fun σ H Q ⟨env, m, mu, hE, hR, hp⟩ => by
  refine ⟨env, m, mu, hE, hR, ?_⟩
  have e0 : eNew r env mu = M.bind (r env) (fun xs => alloc (.lst xs)) mu := rfl
  rw [e0] at hp
  unfold M.bind at hp
  cases hr : r env mu with
  | ok xs mu1 =>
    rw [hr] at hp
    intro m1 H1 g1 R1 a vs h0 h1 hn hrs ha
    have q := hp (m1.add a) H1 (g1.adopt h0) ha (.ref a)
    exact q (by simp only [Rep]; exact ⟨a, rfl, add_get R1⟩)
  | exc x mu1 => rw [hr] at hp; exact hp
  | bad => rw [hr] at hp; exact hp
end
end MP
namespace MP
open PySem L2 PyProof.Rows
/-! ### what a def promises -/
/-- an exception as it flies -/
def XRep (mg : Str → Option Value) (K : PySem.W.Frag) (m : Mp) (H : Hp) (x : Xn) (cls : Value) (d : Option Addr) : Prop := mg x.cls = some cls ∧ match d with
  | none => x.fs = []
  | some p => ∃ gs : List (Str × V), H p = some (.xd gs) ∧ gs.map (·.1) = x.fs.map (·.1) ∧ Reps K m H (x.fs.map (·.2)) (gs.map (·.2))
def WE (mg : Str → Option Value) (K : PySem.W.Frag) (E : XK) : Wx := fun x m H => ∀ cls d, XRep mg K m H x cls d → E cls d H
def sp (K : PySem.W.Frag) (mg : Str → Option Value) (n : Nat) (den : List D → M Rv) : Sp := fun vs H Q E => vs.length = n ∧ ∃ ds m mu, Reps K m H ds vs ∧ Rel K m mu H ∧ Post K (WE mg K E) m H (den ds mu) fun rv m' mu' H' => RvQ K H rv m' mu' H' Q
def startE (n : Nat) (ds : List D) : Env := ds.map some ++ List.replicate (n - ds.length) none
/-- a body run at its arguments -/
def runB (n : Nat) (r : Env → M Fl) (ds : List D) : M Rv := fun mu => match r (startE n ds) mu with
  | .ok (.rt rv) mu' => .ok rv mu'
  | .ok (.nx _) mu' => .ok (.vl .non) mu'
  | .ok _ _ => .bad
  | .exc x mu' => .exc x mu'
  | .bad => .bad
/-- a datum out of what comes back -/
def rvD : Rv → D
  | .vl d => d
  | .fr ds => .fl ds
section
variable {P : Program} {w : World} {K : PySem.W.Frag} {mg : Str → Option Value} {base : Heap}
theorem startE_rep {m : Mp} {H : Hp} {ds : List D} {vs : List V} {N : List Str} (h : Reps K m H ds vs) : RepE K m H (startE N.length ds) (L2.start N vs) := by
  refine ⟨by unfold startE L2.start; rw [List.length_append, List.length_append, List.length_map, List.length_map, List.length_replicate, List.length_replicate, h.length], fun i d e => ?_⟩
  unfold startE at e
  by_cases hi : i < ds.length
  · rw [List.getElem?_append_left (by rw [List.length_map]; exact hi), List.getElem?_map] at e
    obtain ⟨x, hx, ex⟩ := Option.map_eq_some_iff.mp e
    cases ex
    obtain ⟨v, hv, rv⟩ := h.get hx
    refine ⟨v, ?_, rv⟩
    unfold L2.start
    rw [List.getElem?_append_left (by rw [List.length_map, ← h.length]; exact hi), List.getElem?_map, hv]
    rfl
  · rw [List.getElem?_append_right (by rw [List.length_map]; omega), List.getElem?_replicate] at e
    split at e <;> cases e
/-- a def that raises nothing, by its body -/
theorem fn_mp {x qual : Str} {st : Stmt} {f : Addr} {fd : FuncData} {N ps : List Str} {k n : Nat} {r : Env → M Fl} (F : Fun K x qual st f fd) (S : FnScope N ps (defScope st)) (hn : ps.length = n)
    (hbody : ∀ (cdv : Value) (A : Around) (outer : List PySem.Env) (s : Shared) (H : Hp) (E : XK), Room k (A.deeper (envOfC qual (defScope st) s.heap.objs.size f cdv)) → MSs (cxOf CX0 P w K mg base N qual (defScope st) f cdv A outer s H E).nox W0 (defBody st) r) :
    FnOk P w K mg base CX0 (k + 1) f fd ps (sp K mg n fun ds => noX (runB N.length r ds)) := by
  refine F.ok S (fun vs H Q E h => h.1.trans hn.symm) fun cdv A outer s H vs Q E hr h => ?_
  obtain ⟨_, ds, m, mu, hr1, R, hp⟩ := h
  refine ⟨_, (hbody cdv A outer s H E hr).ps, startE N.length ds, m, mu, startE_rep hr1, R, ?_⟩
  have hp := noX_post hp
  have e : runB N.length r ds mu = match r (startE N.length ds) mu with
    | .ok (.rt rv) mu' => .ok rv mu'
    | .ok (.nx _) mu' => .ok (.vl .non) mu'
    | .ok _ _ => .bad
    | .exc x mu' => .exc x mu'
    | .bad => .bad := rfl
  rw [e] at hp
  cases hq : r (startE N.length ds) mu with
  | bad => rw [hq] at hp; exact hp
  | exc x mu' => rw [hq] at hp; exact hp
  | ok fl mu' =>
    rw [hq] at hp
    cases fl with
    | rt rv => exact hp
    | nx e => exact fun m' H' g R' σ' _ => hp m' H' g R' .non (by simp only [Rep])
    | bk e => exact (show False from hp).elim
    | ct e => exact (show False from hp).elim
end
section
variable {X : Cx} {W : Wx} {CX : CXT} {k n : Nat} {f : Addr} {fd : FuncData} {ps : List Str} {den : List D → M Rv} {E : XK} {x : Str} {p pos : Pos} {e : Expr} {es : List Expr} {ds : List Value}
/-- what a callee lets out is wanted here -/
def XOk (CX : CXT) (X : Cx) (W : Wx) : Prop := ∃ E : XK, Passes CX X E ∧ ∀ x m H, W x m H → WE X.mg X.K E x m H
theorem xok0 {W : Wx} : XOk CX0 X W := ⟨fun _ _ _ => True, fun _ _ _ _ _ _ _ h => h.elim, fun _ _ _ _ _ _ _ => trivial⟩
def eCall (den : List D → M Rv) (rs : Env → M (List D)) : Env → M D := fun env => rs env >>= fun xs => den xs >>= fun rv => pure (rvD rv)
theorem Post.wx' {K : PySem.W.Frag} {W W' : Wx} {m : Mp} {H : Hp} {α : Type} {r : R α} {Q : α → Mp → List MO → Hp → Prop} (h : Post K W m H r Q) (hw : ∀ x m H, W x m H → W' x m H) : Post K W' m H r Q := Post.wx h hw
/-- f(e, ..) -/
theorem me_call {rs : Env → M (List D)} (F : FnOk X.prog X.w X.K X.mg X.base CX k f fd ps (sp X.K X.mg n den)) (hr : Room k X.A) (hg : Gl X x) (hm : X.mg x = some (.ref f)) (hk : PySem.W.keepIn X.K (.ref f) = true) (hb : Binds X.K fd ps []) (hx : XOk CX X W)
    (ha : MA X W (e :: es) rs) (hl : n = (e :: es).length) (hdb : (x == ("__debug__" : Str)) = false := by decide) (he : starEach (e :: es) X.env = (false, eval e X.env) :: starEach es X.env := by rfl) (hpl : (backTo pos (starEach es X.env)).any (·.1) = false := by rfl) :
    ME X W (.Call (.Name x p) (e :: es) [] pos) (eCall (fun ds mu => if ds.length = n then den ds mu else .bad) rs) := by
  obtain ⟨E, hE0, hW⟩ := hx
  refine ⟨(pe_call F hr hg hm hk hb .nil hE0 ha.pa hdb he hpl).imp fun σ H Q ⟨env, m, mu, hE, hR, hp⟩ => ⟨env, m, mu, hE, hR, (Post.bind hp).mono fun xs m1 mu1 H1 g1 R1 hp1 vs rv => ?_⟩⟩
  by_cases hlen : xs.length = n
  · have hp2 : Post X.K W m1 H1 (if xs.length = n then den xs mu1 else .bad) _ := Post.bind hp1
    rw [if_pos hlen] at hp2
    have hp1 := hp2
    refine ⟨by rw [List.append_nil, ← rv.length]; exact hlen, xs, m1, mu1, by rw [List.append_nil]; exact rv, R1, (Post.wx hp1 hW).mono fun r2 m2 mu2 H2 g2 R2 hp2 => ?_⟩
    cases r2 with
    | vl d => exact fun v rv => Post.pure (a := d) hp2 R2 v rv
    | fr ds => exact fun a vs h0 h1 hn hr _ => Post.pure (a := D.fl ds) hp2 R2 _ (by simp only [Rep]; exact ⟨a, vs, rfl, h1, hn, hr⟩)
  · have hp2 : Post X.K W m1 H1 (if xs.length = n then den xs mu1 else .bad) _ := Post.bind hp1
    rw [if_neg hlen] at hp2
    exact (show False from hp2).elim
/-- .. that hands back a new list -/
def fCall (den : List D → M Rv) (rs : Env → M (List D)) : Env → M (List D) := fun env => rs env >>= fun xs => den xs >>= fun rv => match rv with
  | .fr ds => pure ds
  | .vl _ => bad
theorem mf_call {rs : Env → M (List D)} (F : FnOk X.prog X.w X.K X.mg X.base CX k f fd ps (sp X.K X.mg n den)) (hr : Room k X.A) (hg : Gl X x) (hm : X.mg x = some (.ref f)) (hk : PySem.W.keepIn X.K (.ref f) = true) (hb : Binds X.K fd ps []) (hx : XOk CX X W)
    (ha : MA X W (e :: es) rs) (hl : n = (e :: es).length) (hdb : (x == ("__debug__" : Str)) = false := by decide) (he : starEach (e :: es) X.env = (false, eval e X.env) :: starEach es X.env := by rfl) (hpl : (backTo pos (starEach es X.env)).any (·.1) = false := by rfl) :
    MF X W (.Call (.Name x p) (e :: es) [] pos) (fCall (fun ds mu => if ds.length = n then den ds mu else .bad) rs) := by
  obtain ⟨E, hE0, hW⟩ := hx
  refine ⟨(pe_call F hr hg hm hk hb .nil hE0 ha.pa hdb he hpl).imp fun σ H Q ⟨env, m, mu, hE, hR, hp⟩ => ⟨env, m, mu, hE, hR, (Post.bind hp).mono fun xs m1 mu1 H1 g1 R1 hp1 vs rv => ?_⟩⟩
  by_cases hlen : xs.length = n
  · have hp2 : Post X.K W m1 H1 (if xs.length = n then den xs mu1 else .bad) _ := Post.bind hp1
    rw [if_pos hlen] at hp2
    have hp1 := hp2
    refine ⟨by rw [List.append_nil, ← rv.length]; exact hlen, xs, m1, mu1, by rw [List.append_nil]; exact rv, R1, (Post.wx hp1 hW).mono fun r2 m2 mu2 H2 g2 R2 hp2 => ?_⟩
    cases r2 with
    | vl d => exact (show False from hp2).elim
    | fr ds => exact NewL.from (Post.pure (a := ds) hp2 R2) g1
  · have hp2 : Post X.K W m1 H1 (if xs.length = n then den xs mu1 else .bad) _ := Post.bind hp1
    rw [if_neg hlen] at hp2
    exact (show False from hp2).elim
end
/-! ### what is left behind is forgotten, what comes back is frozen -/
mutual
/-- refs from k on are read as they stand at the end; ok: the places that may be frozen -/
inductive Frz (mu : List MO) (k : Nat) (ok : Nat → Prop) : D → D → Prop
  | non : Frz mu k ok .non .non
  | bl (b : Bool) : Frz mu k ok (.bl b) (.bl b)
  | int (i : Int) : Frz mu k ok (.int i) (.int i)
  | str (x : Str) : Frz mu k ok (.str x) (.str x)
  | tup {xs ys : List D} : Frzs mu k ok xs ys → Frz mu k ok (.tup xs) (.tup ys)
  | fl {xs ys : List D} : Frzs mu k ok xs ys → Frz mu k ok (.fl xs) (.fl ys)
  | ro {xs ys : List D} : Frzs mu k ok xs ys → Frz mu k ok (.ro xs) (.ro ys)
  | fd {ks : List Key} {xs ys : List D} : Frzs mu k ok xs ys → Frz mu k ok (.fd ks xs) (.fd ks ys)
  | ref {n : Nat} : n < k → Frz mu k ok (.ref n) (.ref n)
  | lst {n : Nat} {xs ys : List D} : k ≤ n → ok n → mu[n]? = some (.lst xs) → Frzs mu k ok xs ys → Frz mu k ok (.ref n) (.fl ys)
  | dk {n : Nat} {kvs : List (Key × D)} {ys : List D} : k ≤ n → ok n → mu[n]? = some (.dk kvs) → Frzs mu k ok (kvs.map (·.2)) ys → Frz mu k ok (.ref n) (.fd (kvs.map (·.1)) ys)
inductive Frzs (mu : List MO) (k : Nat) (ok : Nat → Prop) : List D → List D → Prop
  | nil : Frzs mu k ok [] []
  | cons {x y : D} {xs ys : List D} : Frz mu k ok x y → Frzs mu k ok xs ys → Frzs mu k ok (x :: xs) (y :: ys)
end
inductive FrzO (mu : List MO) (k : Nat) (ok : Nat → Prop) : MO → MO → Prop
  | lst {xs ys : List D} : Frzs mu k ok xs ys → FrzO mu k ok (.lst xs) (.lst ys)
  | dk {kvs kws : List (Key × D)} : kvs.map (·.1) = kws.map (·.1) → Frzs mu k ok (kvs.map (·.2)) (kws.map (·.2)) → FrzO mu k ok (.dk kvs) (.dk kws)
/-- the first places, frozen -/
structure FrzH (mu : List MO) (ok : Nat → Prop) (nu : List MO) : Prop where
  le : nu.length ≤ mu.length
  at_ : ∀ (n : Nat) (o o' : MO), mu[n]? = some o → nu[n]? = some o' → FrzO mu nu.length ok o o'
inductive FrzR (mu nu : List MO) : Rv → Rv → Prop
  | vl {d d' : D} : FrzH mu (fun _ => True) nu → Frz mu nu.length (fun _ => True) d d' → FrzR mu nu (.vl d) (.vl d')
  | newL {n : Nat} {xs ys : List D} : nu.length ≤ n → mu[n]? = some (.lst xs) → FrzH mu (fun j => j ≠ n) nu → Frzs mu nu.length (fun j => j ≠ n) xs ys → FrzR mu nu (.vl (.ref n)) (.fr ys)
  | fr {xs ys : List D} : FrzH mu (fun _ => True) nu → Frzs mu nu.length (fun _ => True) xs ys → FrzR mu nu (.fr xs) (.fr ys)
  | frv {xs ys : List D} : FrzH mu (fun _ => True) nu → Frzs mu nu.length (fun _ => True) xs ys → FrzR mu nu (.fr xs) (.vl (.fl ys))
section
variable {K : PySem.W.Frag} {m mm : Mp} {H : Hp} {mu nu : List MO} {k : Nat} {ok : Nat → Prop}
theorem zip_len {α β : Type} : ∀ {ks : List α} {vs : List β}, ks.length = vs.length → (ks.zip vs).map (·.2) = vs
  | [], [], _ => rfl
  | _ :: ks, v :: vs, h => by rw [List.zip_cons_cons, List.map_cons, zip_len (by simpa using h)]
mutual
theorem Frz.rep (R : Rel K m mu H) (h1 : ∀ n a, n < k → m.ad[n]? = some a → mm.ad[n]? = some a) (h2 : ∀ a, m.Out a → mm.Out a) (h3 : ∀ n a, k ≤ n → ok n → m.ad[n]? = some a → mm.Out a) : ∀ {d d' : D} {v : V}, Frz mu k ok d d' → Rep K m H d v → Rep K mm H d' v
  | _, _, v, .non, h => by simp only [Rep] at h ⊢; exact h
  | _, _, v, .bl _, h => by simp only [Rep] at h ⊢; exact h
  | _, _, v, .int _, h => by simp only [Rep] at h ⊢; exact h
  | _, _, v, .str _, h => by simp only [Rep] at h ⊢; exact h
  | _, _, v, .tup q, h => by
    simp only [Rep] at h ⊢
    obtain ⟨a, vs, e, hs, hr⟩ := h
    exact ⟨a, vs, e, hs, Frzs.rep R h1 h2 h3 q hr⟩
  | _, _, v, .fl q, h => by
    simp only [Rep] at h ⊢
    obtain ⟨a, vs, e, hs, hn, hr⟩ := h
    exact ⟨a, vs, e, hs, h2 a hn, Frzs.rep R h1 h2 h3 q hr⟩
  | _, _, v, .ro q, h => by
    simp only [Rep] at h ⊢
    obtain ⟨a, vs, e, hs, hr⟩ := h
    exact ⟨a, vs, e, hs, Frzs.rep R h1 h2 h3 q hr⟩
  | _, _, v, .fd q, h => by
    simp only [Rep] at h ⊢
    obtain ⟨a, vs, e, hs, hn, hl, hr⟩ := h
    have hr' := Frzs.rep R h1 h2 h3 q hr
    exact ⟨a, vs, e, hs, h2 a hn, by rw [hl, hr.length, hr'.length], hr'⟩
  | _, _, v, .ref hk, h => by
    simp only [Rep] at h ⊢
    obtain ⟨a, e, hm⟩ := h
    exact ⟨a, e, h1 _ a hk hm⟩
  | _, _, v, .lst hk ho hx q, h => by
    simp only [Rep] at h ⊢
    obtain ⟨a, e, hm⟩ := h
    obtain ⟨vs, hH, hr⟩ := R.obj _ _ a hx hm
    exact ⟨a, vs, e, hH, h3 _ a hk ho hm, Frzs.rep R h1 h2 h3 q hr⟩
  | _, _, v, .dk hk ho hx q, h => by
    simp only [Rep] at h ⊢
    obtain ⟨a, e, hm⟩ := h
    obtain ⟨vs, hH, hr⟩ := R.obj _ _ a hx hm
    have hr' := Frzs.rep R h1 h2 h3 q hr
    refine ⟨a, vs, e, hH, h3 _ a hk ho hm, ?_, hr'⟩
    have := hr.length
    rw [List.length_map] at this
    rw [List.length_map, this, hr'.length]
theorem Frzs.rep (R : Rel K m mu H) (h1 : ∀ n a, n < k → m.ad[n]? = some a → mm.ad[n]? = some a) (h2 : ∀ a, m.Out a → mm.Out a) (h3 : ∀ n a, k ≤ n → ok n → m.ad[n]? = some a → mm.Out a) : ∀ {ds es : List D} {vs : List V}, Frzs mu k ok ds es → Reps K m H ds vs → Reps K mm H es vs
  | _, _, vs, .nil, h => by rw [Reps.nil_iff] at h ⊢; exact h
  | _, _, vs, .cons q qs, h => by
    obtain ⟨v, r, e, r1, r2⟩ := Reps.cons_iff.mp h
    exact Reps.cons_iff.mpr ⟨v, r, e, Frz.rep R h1 h2 h3 q r1, Frzs.rep R h1 h2 h3 qs r2⟩
end
theorem FrzO.rep (R : Rel K m mu H) (h1 : ∀ n a, n < k → m.ad[n]? = some a → mm.ad[n]? = some a) (h2 : ∀ a, m.Out a → mm.Out a) (h3 : ∀ n a, k ≤ n → ok n → m.ad[n]? = some a → mm.Out a) {a : Addr} {o o' : MO} (q : FrzO mu k ok o o') (h : RepO K m H a o) : RepO K mm H a o' := by
  cases q with
  | lst q => obtain ⟨vs, hH, hr⟩ := h; exact ⟨vs, hH, Frzs.rep R h1 h2 h3 q hr⟩
  | dk e q => obtain ⟨vs, hH, hr⟩ := h; exact ⟨vs, by rw [← e]; exact hH, Frzs.rep R h1 h2 h3 q hr⟩
/-- the first places alone -/
def Mp.cut (m : Mp) (k : Nat) : Mp := ⟨m.ad.take k, m.no⟩
theorem cut_get {n : Nat} {a : Addr} (hn : n < k) (h : m.ad[n]? = some a) : (m.cut k).ad[n]? = some a := by
  show (m.ad.take k)[n]? = some a
  rw [List.getElem?_take_of_lt hn]; exact h
theorem cut_out {a : Addr} (h : m.Out a) : (m.cut k).Out a := ⟨fun z => h.1 (List.mem_of_mem_take z), h.2⟩
theorem cut_not {n : Nat} {a : Addr} (R : Rel K m mu H) (hk : k ≤ n) (h : m.ad[n]? = some a) : (m.cut k).Out a := by
  refine ⟨fun z => ?_, R.dj a (List.mem_of_getElem? h)⟩
  obtain ⟨j, hj⟩ := List.mem_iff_getElem?.mp (show a ∈ m.ad.take k from z)
  have hjk : j < k := by
    have := (List.getElem?_eq_some_iff.mp hj).1
    rw [List.length_take] at this
    omega
  rw [List.getElem?_take_of_lt hjk] at hj
  have := nodup_ix' R.nd hj h
  omega
theorem FrzH.rel (R : Rel K m mu H) {ok : Nat → Prop} (q : FrzH mu ok nu) (mm : Mp) (he : mm.ad = m.ad.take nu.length) (hno : mm.no = m.no) : Rel K mm nu H := by
  have e : mm = m.cut nu.length := by cases mm; simp only at he hno; rw [he, hno]; rfl
  subst e
  refine ⟨by show (m.ad.take nu.length).length = _; rw [List.length_take, R.len]; have := q.le; omega, R.nd.sublist (List.take_sublist _ _), R.nos, fun a ha => R.dj a (List.mem_of_mem_take ha), fun n o' a h1 h2 => ?_⟩
  have hn : n < nu.length := (List.getElem?_eq_some_iff.mp h1).1
  have h2' : m.ad[n]? = some a := by
    have h2 : (m.ad.take nu.length)[n]? = some a := h2
    rw [List.getElem?_take_of_lt hn] at h2; exact h2
  obtain ⟨o, ho, hr⟩ := R.at' h2'
  exact (q.at_ n o o' ho h1).rep R (fun n a hk h => cut_get hk h) (fun a h => cut_out h) (fun n a hk _ h => cut_not R hk h) hr
end
end MP
namespace MP
open PySem L2 PyProof.Rows
/-! ### a datum that names only old places is its own freezing -/
def Clo (k : Nat) (d : D) : Prop := ∀ mu ok, Frz mu k ok d d
def Clos (k : Nat) (ds : List D) : Prop := ∀ mu ok, Frzs mu k ok ds ds
theorem Clos.nil {k : Nat} : Clos k [] := fun _ _ => .nil
theorem Clos.cons {k : Nat} {d : D} {ds : List D} (h : Clo k d) (hs : Clos k ds) : Clos k (d :: ds) := fun mu ok => .cons (h mu ok) (hs mu ok)
theorem Clos.inv {k : Nat} {d : D} {ds : List D} (h : Clos k (d :: ds)) : Clo k d ∧ Clos k ds := ⟨fun mu ok => by
  have := h mu ok
  cases this with
  | cons a b => exact a, fun mu ok => by
  have := h mu ok
  cases this with
  | cons a b => exact b⟩
theorem Clos.mem {k : Nat} : ∀ {ds : List D}, Clos k ds → ∀ d ∈ ds, Clo k d
  | d :: ds, h, x, hx => by
    rcases List.mem_cons.mp hx with e | e
    · rw [e]; exact h.inv.1
    · exact Clos.mem h.inv.2 x e
theorem Clos.of {k : Nat} : ∀ {ds : List D}, (∀ d ∈ ds, Clo k d) → Clos k ds
  | [], _ => .nil
  | d :: ds, h => .cons (h d (by simp)) (Clos.of fun x hx => h x (by simp [hx]))
theorem Clo.tup {k : Nat} {ds : List D} : Clo k (.tup ds) ↔ Clos k ds := ⟨fun h mu ok => by
  have := h mu ok
  cases this with
  | tup q => exact q, fun h mu ok => .tup (h mu ok)⟩
theorem Clo.fl {k : Nat} {ds : List D} : Clo k (.fl ds) ↔ Clos k ds := ⟨fun h mu ok => by
  have := h mu ok
  cases this with
  | fl q => exact q, fun h mu ok => .fl (h mu ok)⟩
theorem Clo.ro {k : Nat} {ds : List D} : Clo k (.ro ds) ↔ Clos k ds := ⟨fun h mu ok => by
  have := h mu ok
  cases this with
  | ro q => exact q, fun h mu ok => .ro (h mu ok)⟩
theorem Clo.fd {k : Nat} {ks : List Key} {ds : List D} : Clo k (.fd ks ds) ↔ Clos k ds := ⟨fun h mu ok => by
  have := h mu ok
  cases this with
  | fd q => exact q, fun h mu ok => .fd (h mu ok)⟩
theorem Clo.ref {k n : Nat} : Clo k (.ref n) ↔ n < k := ⟨fun h => by
  have := h [] (fun _ => False)
  cases this with
  | ref h => exact h, fun h mu ok => .ref h⟩
theorem Clo.non {k : Nat} : Clo k .non := fun _ _ => .non
theorem Clo.bl {k : Nat} {b : Bool} : Clo k (.bl b) := fun _ _ => .bl b
theorem Clo.int {k : Nat} {i : Int} : Clo k (.int i) := fun _ _ => .int i
theorem Clo.str {k : Nat} {x : Str} : Clo k (.str x) := fun _ _ => .str x
section
variable {K : PySem.W.Frag} {m mm : Mp} {H : Hp} {mu nu : List MO} {k : Nat} {ok : Nat → Prop}
mutual
theorem Rep.clo : ∀ {d : D} {v : V}, Rep K m H d v → Clo m.ad.length d
  | .non, v, _ => Clo.non
  | .bl b, v, _ => Clo.bl
  | .int i, v, _ => Clo.int
  | .str x, v, _ => Clo.str
  | .tup ds, v, h => by
    simp only [Rep] at h
    obtain ⟨a, vs, e, hs, hr⟩ := h
    exact Clo.tup.mpr (Reps.clo hr)
  | .fl ds, v, h => by
    simp only [Rep] at h
    obtain ⟨a, vs, e, hs, hn, hr⟩ := h
    exact Clo.fl.mpr (Reps.clo hr)
  | .ro ds, v, h => by
    simp only [Rep] at h
    obtain ⟨a, vs, e, hs, hr⟩ := h
    exact Clo.ro.mpr (Reps.clo hr)
  | .fd ks ds, v, h => by
    simp only [Rep] at h
    obtain ⟨a, vs, e, hs, hn, hl, hr⟩ := h
    exact Clo.fd.mpr (Reps.clo hr)
  | .ref n, v, h => by
    simp only [Rep] at h
    obtain ⟨a, e, hm⟩ := h
    exact Clo.ref.mpr (List.getElem?_eq_some_iff.mp hm).1
theorem Reps.clo : ∀ {ds : List D} {vs : List V}, Reps K m H ds vs → Clos m.ad.length ds
  | [], vs, _ => Clos.nil
  | d :: ds, vs, h => by
    obtain ⟨v, r, e, r1, r2⟩ := Reps.cons_iff.mp h
    exact Clos.cons (Rep.clo r1) (Reps.clo r2)
end
def CloO (k : Nat) : MO → Prop
  | .lst xs => Clos k xs
  | .dk kvs => Clos k (kvs.map (·.2))
/-- a small heap that names only its own places -/
def CloH (mu : List MO) : Prop := ∀ o ∈ mu, CloO mu.length o
theorem Rel.clo (R : Rel K m mu H) : CloH mu := fun o ho => by
  obtain ⟨n, hn⟩ := List.mem_iff_getElem?.mp ho
  obtain ⟨a, _, hr⟩ := R.at hn
  rw [← R.len]
  cases o with
  | lst xs => obtain ⟨vs, _, h⟩ := hr; exact Reps.clo h
  | dk kvs => obtain ⟨vs, _, h⟩ := hr; exact Reps.clo h
theorem CloO.frz {o : MO} (h : CloO k o) : FrzO mu k ok o o := by
  cases o with
  | lst xs => exact .lst (h mu ok)
  | dk kvs => exact .dk rfl (h mu ok)
/-- what stands ahead of new places stays as it is -/
theorem CloH.frz (h : CloH mu) (ex : List MO) : FrzH (mu ++ ex) ok mu := ⟨by rw [List.length_append]; omega, fun n o o' h1 h2 => by
  rw [List.getElem?_append_left (List.getElem?_eq_some_iff.mp h2).1, h2] at h1
  cases h1
  exact (h o (List.mem_of_getElem? h2)).frz⟩
theorem Frz.weak {mu mu' : List MO} {k : Nat} {ok ok' : Nat → Prop} (h : ∀ n o, mu[n]? = some o → ok n → mu'[n]? = some o ∧ ok' n) : (∀ {d d' : D}, Frz mu k ok d d' → Frz mu' k ok' d d') ∧ (∀ {d d' : List D}, Frzs mu k ok d d' → Frzs mu' k ok' d d') := by
  have key : ∀ {d d' : D} (q : Frz mu k ok d d'), Frz mu' k ok' d d' := by
    intro d d' q
    exact Frz.rec (motive_1 := fun d d' _ => Frz mu' k ok' d d') (motive_2 := fun d d' _ => Frzs mu' k ok' d d') .non .bl .int .str (fun _ q => .tup q) (fun _ q => .fl q) (fun _ q => .ro q) (fun _ q => .fd q) .ref (fun hk ho hx _ q => .lst hk (h _ _ hx ho).2 (h _ _ hx ho).1 q) (fun hk ho hx _ q => .dk hk (h _ _ hx ho).2 (h _ _ hx ho).1 q) .nil (fun _ _ q qs => .cons q qs) q
  refine ⟨key, ?_⟩
  intro d d' q
  exact Frzs.rec (motive_1 := fun d d' _ => Frz mu' k ok' d d') (motive_2 := fun d d' _ => Frzs mu' k ok' d d') .non .bl .int .str (fun _ q => .tup q) (fun _ q => .fl q) (fun _ q => .ro q) (fun _ q => .fd q) .ref (fun hk ho hx _ q => .lst hk (h _ _ hx ho).2 (h _ _ hx ho).1 q) (fun hk ho hx _ q => .dk hk (h _ _ hx ho).2 (h _ _ hx ho).1 q) .nil (fun _ _ q qs => .cons q qs) q
theorem FrzO.weak {mu mu' : List MO} {k : Nat} {ok ok' : Nat → Prop} (h : ∀ n o, mu[n]? = some o → ok n → mu'[n]? = some o ∧ ok' n) {o o' : MO} (q : FrzO mu k ok o o') : FrzO mu' k ok' o o' := by
  cases q with
  | lst q => exact .lst ((Frz.weak h).2 q)
  | dk e q => exact .dk e ((Frz.weak h).2 q)
/-- a list handed out of the small heap -/
theorem frz_add {n : Nat} {a : Addr} {vs : List V} {xs ys : List D} (R : Rel K m mu H) (q : FrzH mu (fun j => j ≠ n) nu) (hk : nu.length ≤ n) (hx : mu[n]? = some (.lst xs)) (hm : m.ad[n]? = some a) (hys : Frzs mu nu.length (fun j => j ≠ n) xs ys) (hv : H a = some (.lst vs)) (hr : Reps K m H xs vs) :
    (m.cut nu.length).Out a ∧ Reps K (m.cut nu.length) H ys vs ∧ Rel K ((m.cut nu.length).add a) (nu ++ [.lst ys]) H := by
  have hout := cut_not (k := nu.length) R hk hm
  have R1 := q.rel R (m.cut nu.length) rfl rfl
  have g1 : ∀ n' a', n' < nu.length → m.ad[n']? = some a' → ((m.cut nu.length).add a).ad[n']? = some a' := fun n' a' h e => by
    show ((m.cut nu.length).ad ++ [a])[n']? = some a'
    rw [List.getElem?_append_left (by rw [R1.len]; exact h)]
    exact cut_get h e
  have g2 : ∀ a', m.Out a' → ((m.cut nu.length).add a).Out a' := fun a' h => ⟨fun z => by
    rcases List.mem_append.mp (show a' ∈ (m.cut nu.length).ad ++ [a] from z) with z | z
    · exact (cut_out h).1 z
    · rw [List.mem_singleton.mp z] at h
      exact h.1 (List.mem_of_getElem? hm), h.2⟩
  have g3 : ∀ n' a', nu.length ≤ n' → n' ≠ n → m.ad[n']? = some a' → ((m.cut nu.length).add a).Out a' := fun n' a' h1 h2 e => ⟨fun z => by
    rcases List.mem_append.mp (show a' ∈ (m.cut nu.length).ad ++ [a] from z) with z | z
    · exact (cut_not R h1 e).1 z
    · rw [List.mem_singleton.mp z] at e
      exact h2 (nodup_ix' R.nd e hm), R.dj a' (List.mem_of_getElem? e)⟩
  refine ⟨hout, hys.rep R (fun n a hk h => cut_get hk h) (fun a h => cut_out h) (fun n a hk _ h => cut_not R hk h) hr, ?_⟩
  refine ⟨?_, ?_, R.nos, ?_, ?_⟩
  · show ((m.cut nu.length).ad ++ [a]).length = _
    rw [List.length_append, List.length_append, R1.len]; rfl
  · show ((m.cut nu.length).ad ++ [a]).Nodup
    rw [List.nodup_append]
    exact ⟨R1.nd, by simp, fun x hx y hy e => by rw [List.mem_singleton.mp hy] at e; rw [e] at hx; exact hout.1 hx⟩
  · intro a' ha'
    rcases List.mem_append.mp (show a' ∈ (m.cut nu.length).ad ++ [a] from ha') with z | z
    · exact R1.dj a' z
    · rw [List.mem_singleton.mp z]; exact hout.2
  · intro n' o' a' h1 h2
    have h2 : ((m.cut nu.length).ad ++ [a])[n']? = some a' := h2
    by_cases hn' : n' < nu.length
    · rw [List.getElem?_append_left hn'] at h1
      rw [List.getElem?_append_left (by rw [R1.len]; exact hn')] at h2
      have h2 : (m.ad.take nu.length)[n']? = some a' := h2
      rw [List.getElem?_take_of_lt hn'] at h2
      obtain ⟨o, ho, hr'⟩ := R.at' h2
      exact (q.at_ n' o o' ho h1).rep R g1 g2 g3 hr'
    · rw [List.getElem?_append_right (by omega)] at h1
      rw [List.getElem?_append_right (by rw [R1.len]; omega), R1.len] at h2
      have e0 : n' - nu.length = 0 := by
        have := (List.getElem?_eq_some_iff.mp h1).1
        simp only [List.length_cons, List.length_nil] at this
        omega
      rw [e0] at h1 h2
      simp only [List.getElem?_cons_zero, Option.some.injEq] at h1 h2
      subst h1 h2
      exact ⟨vs, hv, hys.rep R g1 g2 g3 hr⟩
/-- the law of an answer that has been frozen -/
inductive FrzX (mu nu : List MO) : Xn → Xn → Prop
  | mk {c : Str} {ks : List Str} {xs ys : List D} : ks.length = xs.length → ks.length = ys.length → FrzH mu (fun _ => True) nu → Frzs mu nu.length (fun _ => True) xs ys → FrzX mu nu ⟨c, ks.zip xs⟩ ⟨c, ks.zip ys⟩
/-- den is as den' says, but for what is left behind -/
def GC (n : Nat) (den den' : List D → M Rv) : Prop := ∀ ds mu, ds.length = n → Clos mu.length ds → CloH mu → match den' ds mu with
  | .bad => True
  | .ok rv' nu => ∃ rv mu', den ds mu = .ok rv mu' ∧ mu.length ≤ nu.length ∧ FrzR mu' nu rv rv'
  | .exc x' nu => ∃ x mu', den ds mu = .exc x mu' ∧ mu.length ≤ nu.length ∧ FrzX mu' nu x x'
theorem Grow.cut {m m' : Mp} {H H' : Hp} {k : Nat} (g : Grow m m' H H') (hk : m.ad.length ≤ k) : Grow m (m'.cut k) H H' := by
  obtain ⟨l, j, e1, e2, hl, hj⟩ := g.ext
  refine ⟨⟨l.take (k - m.ad.length), j, ?_, e2, fun a ha => hl a (List.mem_of_mem_take ha), hj⟩, g.oth, g.tups, g.frzs, g.trk⟩
  show m'.ad.take k = _
  rw [e1, List.take_append, List.take_of_length_le hk]
theorem Grow.new {m m' : Mp} {H H' : Hp} (g : Grow m m' H H') {n : Nat} {a : Addr} (hn : m.ad.length ≤ n) (h : m'.ad[n]? = some a) : H a = none := by
  obtain ⟨l, j, e1, _, hl, _⟩ := g.ext
  rw [e1, List.getElem?_append_right hn] at h
  exact hl a (List.mem_of_getElem? h)
theorem Post.gc {W : Wx} {m : Mp} {den den' : List D → M Rv} {n : Nat} {ds : List D} {vs : List V} {Q : VK} (hg : GC n den den') (hn : ds.length = n) (hr : Reps K m H ds vs) (R : Rel K m mu H)
    (hW : ∀ x x' mu' nu m' H', FrzX mu' nu x x' → Rel K m' mu' H' → W x' (m'.cut nu.length) H' → W x m' H')
    (hp : Post K W m H (den' ds mu) fun rv m' mu' H' => RvQ K H rv m' mu' H' Q) : Post K W m H (den ds mu) fun rv m' mu' H' => RvQ K H rv m' mu' H' Q := by
  have hc := hg ds mu hn (by rw [← R.len]; exact hr.clo) R.clo
  cases e : den' ds mu with
  | bad => rw [e] at hp; exact (show False from hp).elim
  | exc x' nu =>
    rw [e] at hc hp
    obtain ⟨x, mu', e', hl, hx⟩ := hc
    rw [e']
    intro m' H' g R'
    refine hW x x' mu' nu m' H' hx R' (hp _ H' (g.cut (by rw [R.len]; exact hl)) ?_)
    cases hx with
    | mk _ _ hh _ => exact hh.rel R' _ rfl rfl
  | ok rv' nu =>
    rw [e] at hc hp
    obtain ⟨rv, mu', e', hl, hf⟩ := hc
    rw [e']
    intro m' H' g R'
    have gc := g.cut (k := nu.length) (by rw [R.len]; exact hl)
    cases hf with
    | vl hh hd =>
      have hq := hp _ H' gc (hh.rel R' _ rfl rfl)
      exact fun v rv => hq v (hd.rep R' (fun n a hk h => cut_get hk h) (fun a h => cut_out h) (fun n a hk _ h => cut_not R' hk h) rv)
    | newL hk hx hh hys =>
      have hq := hp _ H' gc (hh.rel R' _ rfl rfl)
      intro v rv
      simp only [Rep] at rv
      obtain ⟨a, ev, hm⟩ := rv
      obtain ⟨vs, hv, hr'⟩ := R'.obj _ _ a hx hm
      obtain ⟨h1, h2, h3⟩ := frz_add R' hh hk hx hm hys hv hr'
      rw [ev]
      exact hq a vs (g.new (by rw [R.len]; omega) hm) hv h1 h2 h3
    | fr hh hys =>
      have hq := hp _ H' gc (hh.rel R' _ rfl rfl)
      rename_i xs ys
      intro a vs h0 h1 ho hr' R2
      have hm : (m'.add a).ad[mu'.length]? = some a := by
        show (m'.ad ++ [a])[mu'.length]? = some a
        rw [List.getElem?_append_right (by rw [R'.len]; exact Nat.le_refl _), R'.len]; simp
      have hx : (mu' ++ [MO.lst xs])[mu'.length]? = some (.lst xs) := by
        rw [List.getElem?_append_right (Nat.le_refl _)]; simp
      have wk : ∀ n o, mu'[n]? = some o → True → (mu' ++ [MO.lst xs])[n]? = some o ∧ n ≠ mu'.length := fun n o h _ => by
        have := (List.getElem?_eq_some_iff.mp h).1
        exact ⟨by rw [List.getElem?_append_left this]; exact h, by omega⟩
      have hh' : FrzH (mu' ++ [MO.lst xs]) (fun j => j ≠ mu'.length) nu := ⟨by rw [List.length_append]; have := hh.le; omega, fun n o o' h1 h2 => by
        have hlt : n < mu'.length := Nat.lt_of_lt_of_le (List.getElem?_eq_some_iff.mp h2).1 hh.le
        rw [List.getElem?_append_left hlt] at h1
        exact (hh.at_ n o o' h1 h2).weak wk⟩
      have hr2 : Reps K (m'.add a) H' xs vs := by
        obtain ⟨vs2, hv2, hr2⟩ := R2.obj _ _ a hx hm
        rw [h1] at hv2
        cases hv2
        exact hr2
      obtain ⟨q1, q2, q3⟩ := frz_add R2 hh' (by have := hh.le; omega) hx hm ((Frz.weak wk).2 hys) h1 hr2
      have ec : (m'.add a).cut nu.length = m'.cut nu.length := by
        show Mp.mk ((m'.ad ++ [a]).take nu.length) m'.no = Mp.mk (m'.ad.take nu.length) m'.no
        rw [List.take_append_of_le_length (by rw [R'.len]; exact hh.le)]
      rw [ec] at q1 q2 q3
      exact hq a vs h0 h1 q1 q2 q3
    | frv hh hys =>
      have hq := hp _ H' gc (hh.rel R' _ rfl rfl)
      intro a vs h0 h1 ho hr' R2
      refine hq (.ref a) ?_
      simp only [Rep]
      exact ⟨a, vs, rfl, h1, cut_out ho, hys.rep R' (fun n a hk h => cut_get hk h) (fun a h => cut_out h) (fun n a hk _ h => cut_not R' hk h) hr'⟩
theorem XRep.gc {mg : Str → Option Value} {m : Mp} {x x' : Xn} (hx : FrzX mu nu x x') (R : Rel K m mu H) {cls : Value} {d : Option Addr} (h : XRep mg K m H x cls d) : XRep mg K (m.cut nu.length) H x' cls d := by
  cases hx with
  | @mk c ks xs ys l1 l2 hh hf =>
    obtain ⟨h1, h2⟩ := h
    refine ⟨h1, ?_⟩
    cases d with
    | none =>
      have h2 : ks.zip xs = [] := h2
      show ks.zip ys = []
      cases ks with
      | nil => rfl
      | cons k ks => cases xs with
        | nil => simp at l1
        | cons x xs => simp at h2
    | some p =>
      obtain ⟨gs, g1, g2, g3⟩ := h2
      refine ⟨gs, g1, ?_, ?_⟩
      · rw [g2]
        show (ks.zip xs).map (·.1) = (ks.zip ys).map (·.1)
        rw [List.map_fst_zip (by omega), List.map_fst_zip (by omega)]
      · show Reps K _ H ((ks.zip ys).map (·.2)) _
        have g3 : Reps K m H ((ks.zip xs).map (·.2)) _ := g3
        rw [zip_len l2]
        rw [zip_len l1] at g3
        exact hf.rep R (fun n a hk h => cut_get hk h) (fun a h => cut_out h) (fun n a hk _ h => cut_not R hk h) g3
end
/-- a def's promise, without what it leaves behind -/
theorem sp_gc {P : Program} {w : World} {K : PySem.W.Frag} {mg : Str → Option Value} {base : Heap} {CX : CXT} {k n : Nat} {f : Addr} {fd : FuncData} {ps : List Str} {den den' : List D → M Rv} (F : FnOk P w K mg base CX k f fd ps (sp K mg n den)) (hg : GC n den den') : FnOk P w K mg base CX k f fd ps (sp K mg n den') :=
  F.imp fun vs H Q E ⟨h1, ds, m, mu, hr, R, hp⟩ => ⟨h1, ds, m, mu, hr, R, Post.gc hg (by rw [hr.length]; exact h1) hr R (fun x x' mu' nu m' H' hx R' hw cls d h => hw cls d (XRep.gc hx R' h)) hp⟩
end MP
namespace MP
open PySem L2 PyProof.Rows
/-! ### dicts that change -/
def mapV {β : Type} (kvs : List (Key × β)) (k : Key) (y : β) : List (Key × β) := kvs.map fun kv => if kv.1 = k then (kv.1, y) else kv
def putD {β : Type} (kvs : List (Key × β)) (k : Key) (y : β) : List (Key × β) := if (kvs.any fun kv => decide (kv.1 = k)) = true then mapV kvs k y else kvs ++ [(k, y)]
theorem mapV_keys {β : Type} {k : Key} {y : β} : ∀ (kvs : List (Key × β)), (mapV kvs k y).map (·.1) = kvs.map (·.1)
  | [] => rfl
  | p :: r => by
    have ih := mapV_keys (k := k) (y := y) r
    unfold mapV at ih ⊢
    rw [List.map_cons, List.map_cons, List.map_cons, ih]
    by_cases e : p.1 = k
    · rw [if_pos e]
    · rw [if_neg e]
theorem any_zip {α : Type} {k : Key} : ∀ (kvs : List (Key × α)) {β : Type} (vs : List β), kvs.length = vs.length → (((kvs.map (·.1)).zip vs).any fun kv => decide (kv.1 = k)) = kvs.any fun kv => decide (kv.1 = k)
  | [], _, _, _ => by simp
  | p :: r, _, [], h => by simp at h
  | p :: r, _, v :: vs, h => by
    rw [List.map_cons, List.zip_cons_cons, List.any_cons, List.any_cons, any_zip r vs (by simpa using h)]
theorem mapV_rep {K : PySem.W.Frag} {m : Mp} {H : Hp} {k : Key} {d : D} {v : V} (hd : Rep K m H d v) : ∀ {kvs : List (Key × D)} {vs : List V}, Reps K m H (kvs.map (·.2)) vs → Reps K m H ((mapV kvs k d).map (·.2)) ((mapV ((kvs.map (·.1)).zip vs) k v).map (·.2))
  | [], vs, h => by rw [List.map_nil, Reps.nil_iff] at h; subst h; exact Reps.nil_iff.mpr rfl
  | p :: r, vs, h => by
    rw [List.map_cons] at h
    obtain ⟨w, ws, rfl, h1, h2⟩ := Reps.cons_iff.mp h
    have ih := mapV_rep (k := k) hd h2
    unfold mapV at ih ⊢
    rw [List.map_cons, List.map_cons, List.map_cons, List.zip_cons_cons, List.map_cons, List.map_cons]
    refine Reps.cons_iff.mpr ⟨_, _, rfl, ?_, ih⟩
    by_cases e : p.1 = k
    · rw [if_pos e, if_pos e]; exact hd
    · rw [if_neg e, if_neg e]; exact h1
theorem put_rep {K : PySem.W.Frag} {m : Mp} {H : Hp} {k : Key} {d : D} {v : V} {kvs : List (Key × D)} {vs : List V} (h : Reps K m H (kvs.map (·.2)) vs) (hd : Rep K m H d v) : ∃ ws, putK ((kvs.map (·.1)).zip vs) k v = ((putD kvs k d).map (·.1)).zip ws ∧ ∀ m' H', Reps K m' H' (kvs.map (·.2)) vs → Rep K m' H' d v → Reps K m' H' ((putD kvs k d).map (·.2)) ws := by
  have hl : kvs.length = vs.length := by have := h.length; rwa [List.length_map] at this
  unfold putK putD
  rw [any_zip kvs vs hl]
  by_cases a : (kvs.any fun kv => decide (kv.1 = k)) = true
  · rw [if_pos a, if_pos a]
    refine ⟨(mapV ((kvs.map (·.1)).zip vs) k v).map (·.2), ?_, fun m' H' h hd => mapV_rep hd h⟩
    rw [mapV_keys]
    have e : (mapV ((kvs.map (·.1)).zip vs) k v).map (·.1) = kvs.map (·.1) := by rw [mapV_keys, List.map_fst_zip (by rw [List.length_map]; omega)]
    have z := zip_keys (mapV ((kvs.map (·.1)).zip vs) k v)
    rw [e] at z
    exact z.symm
  · rw [if_neg a, if_neg a]
    refine ⟨vs ++ [v], ?_, fun m' H' h hd => ?_⟩
    · rw [List.map_append, List.zip_append (by rw [List.length_map]; exact hl)]; rfl
    · rw [List.map_append]; exact h.append (Reps.one hd)
def putM (o k v : D) : M D := toR o >>= fun n => toK k >>= fun kk => modD n fun kvs => if kvs.length < sizeLine then some (putD kvs kk v, .non) else none
section
variable {X : Cx} {W : Wx} {e o a b c value i : Expr} {es : List Expr} {pos apos cpos tpos p pos' : Pos}
theorem putM_ok {K : PySem.W.Frag} {W : Wx} {m : Mp} {H : Hp} {mu : List MO} {o k d : D} {x y v : V} {Q : D → Mp → List MO → Hp → Prop} (R : Rel K m mu H) (ho : Rep K m H o x) (hk : Rep K m H k y) (hd : Rep K m H d v) (hp : Post K W m H (putM o k d mu) Q) :
    ∃ a H4 mu', x = .ref a ∧ DPut H a y v H4 ∧ Grow m m H H4 ∧ Rel K m mu' H4 ∧ Q .non m mu' H4 := by
  unfold putM at hp
  obtain ⟨n, a, rfl, rfl, hm, hp⟩ := toR_ok R ho (Post.bind hp)
  obtain ⟨kk, rfl, hp⟩ := toK_ok R hk (Post.bind hp)
  obtain ⟨kvs, us, ys, d', hH, hrs, hf, hg, hq⟩ := modD_ok R hm hp
  by_cases hl : kvs.length < sizeLine
  · rw [if_pos hl] at hf
    cases hf
    obtain ⟨ws, e, hr⟩ := put_rep (k := kk) hrs hd
    have gg := hg (((putD kvs kk d).map (·.1)).zip ws)
    have rr := hr m _ (Reps.grow gg _ _ hrs) (Rep.grow gg _ _ hd)
    have hlen : ((kvs.map (·.1)).zip us).length = kvs.length := by have := hrs.length; rw [List.length_map] at this; rw [List.length_zip, List.length_map, ← this, Nat.min_self]
    exact ⟨a, _, _, rfl, by rw [← e]; exact DPut.k hH (by rw [hlen]; exact hl), gg, R.write hm (show RepO K m _ a (.dk (putD kvs kk d)) from ⟨ws, upd_same, rr⟩), hq ws rr⟩
  · rw [if_neg hl] at hf; cases hf
/-- d[k] = v -/
def sDput (ro ri rv : Env → M D) : Env → M Fl := fun env => rv env >>= fun v => ro env >>= fun o => ri env >>= fun i => putM o i v >>= fun _ => pure (.nx env)
theorem ms_dput {ro ri rv : Env → M D} (hu : X.A.units + 1 < cLine) (ho : ME X W o ro) (hi : ME X W i ri) (hv : ME X W value rv) (hs : swapsWith value (some (.Subscript o i pos')) pos.line X.env = pure false := by rfl) :
    MS X W (.Assign [.Subscript o i pos'] value pos) (sDput ro ri rv) := ⟨(ps_dput hu ho.pe hi.pe hv.pe hs).imp fun D σ H ⟨env, m, mu, hE, hR, hp⟩ =>
  ⟨env, m, mu, hE, hR, (Post.bind hp).mono fun v m1 mu1 H1 g1 R1 hp vv rv => ⟨env, m1, mu1, hE.grow g1, R1, (Post.bind hp).mono fun o m2 mu2 H2 g2 R2 hp ov ro => ⟨env, m2, mu2, (hE.grow g1).grow g2, R2, (Post.bind hp).mono fun i m3 mu3 H3 g3 R3 hp iv ri => by
    obtain ⟨a, H4, mu4, ex, hd, g4, R4, hq⟩ := putM_ok R3 (Rep.grow g3 o ov ro) ri (Rep.grow g3 v vv (Rep.grow g2 v vv rv)) (Post.bind hp)
    exact ⟨a, H4, ex, hd, (Post.pure hq R4) σ ((((hE.grow g1).grow g2).grow g3).grow g4)⟩⟩⟩⟩⟩
/-- d.get(k), d.get(k, x) -/
def dctK (o : D) : M Unit := rdD o >>= fun _ => pure ()
def eGet1 (ro ri : Env → M D) : Env → M D := fun env => ro env >>= fun o => dctK o >>= fun _ => ri env >>= fun y => rdD o >>= fun kvs => toK y >>= fun k => pure ((valD kvs k).getD .non)
def eGet2 (ro ri rx : Env → M D) : Env → M D := fun env => ro env >>= fun o => dctK o >>= fun _ => ri env >>= fun y => rx env >>= fun x => rdD o >>= fun kvs => toK y >>= fun k => pure ((valD kvs k).getD x)
theorem dctK_ok {K : PySem.W.Frag} {W : Wx} {m : Mp} {H : Hp} {mu : List MO} {d : D} {v : V} {Q : Unit → Mp → List MO → Hp → Prop} (R : Rel K m mu H) (h : Rep K m H d v) (hp : Post K W m H (dctK d mu) Q) : ∃ a, v = .ref a ∧ IsD H a ∧ Q () m mu H := by
  obtain ⟨a, kvs, vs, rfl, hH, hr, hp⟩ := rdD_ok R h (Post.bind hp)
  exact ⟨a, rfl, .inl ⟨_, .inl hH⟩, Post.pure hp R⟩
theorem me_get1 {ro ri : Env → M D} (hu : X.A.units + 1 < cLine) (ho : ME X W o ro) (hi : ME X W e ri) (m : M1 X o "get" apos e cpos := by exact ⟨rfl, rfl, rfl, rfl⟩) : ME X W (.Call (.Attribute o "get" apos) [e] [] cpos) (eGet1 ro ri) := ⟨(pe_dget1 hu ho.pe hi.pe m).imp fun σ H Q ⟨env, m, mu, hE, hR, hp⟩ =>
  ⟨env, m, mu, hE, hR, (Post.bind hp).mono fun o m1 mu1 H1 g1 R1 hp ov ro => by
    obtain ⟨a, rfl, hi, hp⟩ := dctK_ok R1 ro (Post.bind hp)
    refine ⟨a, rfl, hi, env, m1, mu1, hE.grow g1, R1, (Post.bind hp).mono fun y m2 mu2 H2 g2 R2 hp yv ry => ?_⟩
    obtain ⟨p, kvs, vs, e, hH, hr, hp⟩ := rdD_ok R2 (Rep.grow g2 o _ ro) (Post.bind hp)
    cases e
    obtain ⟨k, rfl, hp⟩ := toK_ok R2 ry (Post.bind hp)
    rcases valD_get k hH hr with ⟨d, z, e, rz, g⟩ | ⟨e, g⟩
    · rw [e] at hp
      exact ⟨_, g, Post.pure hp R2 z rz⟩
    · rw [e] at hp
      exact ⟨_, g, Post.pure hp R2 .non (by simp only [Rep, Option.getD_none])⟩⟩⟩
theorem me_get2 {ro ri rx : Env → M D} (hu : X.A.units + 1 < cLine) (ho : ME X W o ro) (hi : ME X W e ri) (hx : ME X W c rx) (m : M2 X o "get" apos e c cpos := by exact ⟨rfl, rfl, rfl, rfl⟩) : ME X W (.Call (.Attribute o "get" apos) [e, c] [] cpos) (eGet2 ro ri rx) := ⟨(pe_dget2 hu ho.pe hi.pe hx.pe m).imp fun σ H Q ⟨env, m, mu, hE, hR, hp⟩ =>
  ⟨env, m, mu, hE, hR, (Post.bind hp).mono fun o m1 mu1 H1 g1 R1 hp ov ro => by
    obtain ⟨a, rfl, hi, hp⟩ := dctK_ok R1 ro (Post.bind hp)
    refine ⟨a, rfl, hi, env, m1, mu1, hE.grow g1, R1, (Post.bind hp).mono fun y m2 mu2 H2 g2 R2 hp yv ry => ⟨env, m2, mu2, (hE.grow g1).grow g2, R2, (Post.bind hp).mono fun x m3 mu3 H3 g3 R3 hp xv rx => ?_⟩⟩
    obtain ⟨p, kvs, vs, e, hH, hr, hp⟩ := rdD_ok R3 (Rep.grow g3 o _ (Rep.grow g2 o _ ro)) (Post.bind hp)
    cases e
    obtain ⟨k, rfl, hp⟩ := toK_ok R3 (Rep.grow g3 y _ ry) (Post.bind hp)
    rcases valD_get k hH hr with ⟨d, z, e, rz, g⟩ | ⟨e, g⟩
    · rw [e] at hp
      exact ⟨_, g, Post.pure hp R3 z rz⟩
    · rw [e] at hp
      exact ⟨_, g, Post.pure hp R3 xv rx⟩⟩⟩
/-! ### isinstance -/
def tyD : D → M String
  | .non => pure "NoneType"
  | .bl _ => pure "bool"
  | .int _ => pure "int"
  | .str _ => pure "str"
  | .tup _ => pure "tuple"
  | .fl _ => pure "list"
  | .ro _ => pure "list"
  | .fd _ _ => pure "dict"
  | .ref n => fun mu => match mu[n]? with
    | some (.lst _) => .ok "list" mu
    | some (.dk _) => .ok "dict" mu
    | none => .bad
def tys : List String := ["NoneType", "bool", "int", "str", "tuple", "list", "dict"]
theorem tyD_ok {K : PySem.W.Frag} {W : Wx} {m : Mp} {H : Hp} {mu : List MO} {d : D} {v : V} {Q : String → Mp → List MO → Hp → Prop} (R : Rel K m mu H) (h : Rep K m H d v) (hp : Post K W m H (tyD d mu) Q) : ∃ t, t ∈ tys ∧ TyX K H v (.type t) ∧ Q t m mu H := by
  cases d <;> simp only [Rep] at h
  case non => subst h; exact ⟨_, by simp [tys], .base .non, Post.pure hp R⟩
  case bl b => subst h; exact ⟨_, by simp [tys], .base (.bl b), Post.pure hp R⟩
  case int b => subst h; exact ⟨_, by simp [tys], .base (.int b), Post.pure hp R⟩
  case str b => subst h; exact ⟨_, by simp [tys], .base (.str b), Post.pure hp R⟩
  case tup ds =>
    obtain ⟨a, vs, rfl, hs, _⟩ := h
    refine ⟨"tuple", by simp [tys], ?_, Post.pure hp R⟩
    rcases hs with (hs | ⟨o, hs⟩) | ⟨o, its, n, hs, hc, _⟩
    · exact .base (.tup hs)
    · exact .fTuple hs
    · exact .kTuple hs hc
  case fl ds =>
    obtain ⟨a, vs, rfl, hs, _⟩ := h
    exact ⟨"list", by simp [tys], .base (.lst hs), Post.pure hp R⟩
  case ro ds =>
    obtain ⟨a, vs, rfl, hs, _⟩ := h
    refine ⟨"list", by simp [tys], ?_, Post.pure hp R⟩
    rcases hs with ⟨o, hs⟩ | ⟨o, its, n, hs, hc, _⟩
    · exact .base (.frz hs)
    · exact .kList hs hc
  case fd ks ds =>
    obtain ⟨a, vs, rfl, hs, _⟩ := h
    exact ⟨"dict", by simp [tys], .base (.dK hs), Post.pure hp R⟩
  case ref n =>
    obtain ⟨a, rfl, hm⟩ := h
    obtain ⟨o, ho, hr⟩ := R.at' hm
    have e1 : tyD (.ref n) mu = match mu[n]? with
      | some (.lst _) => MP.R.ok "list" mu
      | some (.dk _) => .ok "dict" mu
      | none => .bad := rfl
    rw [e1, ho] at hp
    cases o with
    | lst xs => obtain ⟨vs, hH, _⟩ := hr; exact ⟨"list", by simp [tys], .base (.lst hH), hp m H .refl R⟩
    | dk xs => obtain ⟨vs, hH, _⟩ := hr; exact ⟨"dict", by simp [tys], .base (.dK hH), hp m H .refl R⟩
def isiB (t T : String) : Bool := t == T || (t == "bool" && T == "int")
theorem isi_tab : ∀ T ∈ (["bool", "int", "str", "tuple", "list", "dict"] : List String), ∀ t ∈ tys, kitB t T = some (isiB t T) := by decide +kernel
def gIsi (T : String) (x : D) : M D := tyD x >>= fun t => pure (.bl (isiB t T))
theorem me_isi {T : String} {x y : Str} {r : Env → M D} (hT : T ∈ (["bool", "int", "str", "tuple", "list", "dict"] : List String)) (hg : Gl X x) (hm : X.mg x = none) (hv : bootBuiltins x = some (.builtin "isinstance")) (hg' : Gl X y) (hm' : X.mg y = none) (hv' : bootBuiltins y = some (.type T)) (h : ME X W e r)
    (hn : x ≠ "__name__" := by decide) (hdb : (x == ("__debug__" : Str)) = false := by decide) (hn' : y ≠ "__name__" := by decide) (hdb' : (y == ("__debug__" : Str)) = false := by decide)
    (h1 : starEach [.Name y pos'] X.env = (false, eval (.Name y pos') X.env) :: starEach [] X.env := by rfl)
    (he : starEach [e, .Name y pos'] X.env = (false, eval e X.env) :: starEach [.Name y pos'] X.env := by rfl) (hpl : (backTo pos (starEach [.Name y pos'] X.env)).any (·.1) = false := by rfl) : ME X W (.Call (.Name x p) [e, .Name y pos'] [] pos) (eMap (gIsi T) r) :=
  ⟨(pe_callB call_isi hg hm hv (pa_cons h.pe (pa_cons (pe_bltn hg' hm' hv' (v := .ty T) rfl hn' hdb') pa_nil h1) he) hn hdb he hpl).imp fun σ H Q ⟨env, m, mu, hE, hR, hp⟩ =>
    ⟨env, m, mu, hE, hR, (Post.bind hp).mono fun d m1 mu1 H1 g1 R1 hp v rv => by
      obtain ⟨t, ht, ty, hp⟩ := tyD_ok R1 rv (Post.bind hp)
      exact ⟨v, .ty T, .type t, .type T, isiB t T, rfl, .ty T, ty, kit_ty (isi_tab T hT t ht), Post.pure hp R1 _ (by simp only [Rep])⟩⟩⟩
end
/-! ### sorted -/
def leS (x y : Str) : Bool := !Spec.ltCps y.cps.toList x.cps.toList
theorem leS_iff {x y : Str} : leS x y = true ↔ x.cps.toList ≤ y.cps.toList := by
  unfold leS
  rw [ltCps_eq, Bool.not_eq_true', decide_eq_false_iff_not]
  exact Iff.rfl
theorem leS_trans (a b c : Str) (h : leS a b = true) (h' : leS b c = true) : leS a c = true := leS_iff.mpr (List.le_trans (leS_iff.mp h) (leS_iff.mp h'))
theorem leS_total (a b : Str) : (leS a b || leS b a) = true := by
  rw [Bool.or_eq_true, leS_iff, leS_iff]
  exact List.le_total _ _
theorem leS_anti {a b : Str} (h : leS a b = true) (h' : leS b a = true) : a = b := by
  have e := List.le_antisymm (leS_iff.mp h) (leS_iff.mp h')
  cases a; cases b
  simp only at e
  congr 1
  exact Array.toList_inj.mp e
theorem risingS_pw : ∀ (l : List Str) (p : Str), risingS p l = true → (p :: l).Pairwise fun a b => leS a b = true
  | [], p, _ => List.pairwise_singleton ..
  | x :: r, p, h => by
    rw [risingS, Bool.and_eq_true] at h
    have ih := risingS_pw r x h.2
    refine List.pairwise_cons.mpr ⟨fun y hy => ?_, ih⟩
    rcases List.mem_cons.mp hy with e | hy
    · rw [e]; exact h.1
    · exact leS_trans p x y h.1 ((List.pairwise_cons.mp ih).1 y hy)
theorem sortedS_pw : ∀ {l : List Str}, sortedS l = true → l.Pairwise fun a b => leS a b = true
  | [], _ => List.Pairwise.nil
  | x :: r, h => risingS_pw r x h
def srtS (xs : List Str) : List Str := xs.mergeSort leS
def srtI (xs : List Int) : List Int := xs.mergeSort fun a b => decide (a ≤ b)
theorem srtS_eq {xs ys : List Str} (h : ys.Perm xs) (hs : sortedS ys = true) : ys = srtS xs :=
  List.Perm.eq_of_pairwise (le := fun a b => leS a b = true) (fun a b _ _ h h' => leS_anti h h') (sortedS_pw hs) (List.pairwise_mergeSort leS_trans leS_total xs) (h.trans (List.mergeSort_perm xs leS).symm)
theorem srtI_eq {xs ys : List Int} (h : ys.Perm xs) (hs : ys.Pairwise (· ≤ ·)) : ys = srtI xs := by
  refine List.Perm.eq_of_pairwise (le := fun a b => a ≤ b) (fun a b _ _ h h' => Int.le_antisymm h h') hs ?_ (h.trans (List.mergeSort_perm xs _).symm)
  have q := List.pairwise_mergeSort (le := fun a b : Int => decide (a ≤ b)) (fun a b c h h' => by simp only [decide_eq_true_eq] at h h' ⊢; omega) (fun a b => by simp only [Bool.or_eq_true, decide_eq_true_eq]; omega) xs
  exact q.imp fun h => by simpa using h
def strsOf : List D → Option (List Str)
  | [] => some []
  | .str x :: r => (strsOf r).map (x :: ·)
  | _ => none
def intsOf : List D → Option (List Int)
  | [] => some []
  | .int x :: r => (intsOf r).map (x :: ·)
  | _ => none
theorem strsOf_eq : ∀ {ds : List D} {xs : List Str}, strsOf ds = some xs → ds = xs.map D.str
  | [], xs, h => by cases h; rfl
  | .str x :: r, xs, h => by
    obtain ⟨ys, hy, e⟩ := Option.map_eq_some_iff.mp (show (strsOf r).map (x :: ·) = some xs from h)
    subst e
    rw [List.map_cons, ← strsOf_eq hy]
theorem intsOf_eq : ∀ {ds : List D} {xs : List Int}, intsOf ds = some xs → ds = xs.map D.int
  | [], xs, h => by cases h; rfl
  | .int x :: r, xs, h => by
    obtain ⟨ys, hy, e⟩ := Option.map_eq_some_iff.mp (show (intsOf r).map (x :: ·) = some xs from h)
    subst e
    rw [List.map_cons, ← intsOf_eq hy]
/-- sorted(x): a list of texts or of ints, fewer than 64 -/
def srtT : Option (List Int) → Option (List Str) → M (List D)
  | some is, _ => pure ((srtI is).map D.int)
  | none, some ss => pure ((srtS ss).map D.str)
  | none, none => bad
def srtD (xs : List D) : M (List D) := need (xs.length < 64) >>= fun _ => srtT (intsOf xs) (strsOf xs)
def keyStrs : List Key → Option (List Str)
  | [] => some []
  | .inr x :: r => (keyStrs r).map (x :: ·)
  | _ => none
theorem keyStrs_eq : ∀ {ds : List Key} {xs : List Str}, keyStrs ds = some xs → ds = xs.map Sum.inr
  | [], xs, h => by cases h; rfl
  | .inr x :: r, xs, h => by
    obtain ⟨ys, hy, e⟩ := Option.map_eq_some_iff.mp (show (keyStrs r).map (x :: ·) = some xs from h)
    subst e
    rw [List.map_cons, ← keyStrs_eq hy]
def srtK (ks : List Key) : M (List D) := need (ks.length < 64) >>= fun _ => match keyStrs ks with
  | some ss => pure ((srtS ss).map D.str)
  | none => bad
section
variable {X : Cx} {W : Wx} {e : Expr} {es : List Expr} {pos p : Pos}
/-- sorted of a list -/
def rSrt (K : PySem.W.Frag) : List V → Hp → VK → Prop := fun xs H Q => rSorted K xs H Q ∨ rSortedS K xs H Q
theorem callM_srt {x : D} {v : V} {m : Mp} {mu : List MO} {H : Hp} {Q : VK} {H0 : Hp} {m0 : Mp} (g0 : Grow m0 m H0 H) (R : Rel X.K m mu H) (hx : Rep X.K m H x v) (hp : Post X.K W m H ((rdL x >>= srtD) mu) (fun ds m' mu' H' => NewL X.K H0 ds m' mu' H' Q)) : rSrt X.K [v] H Q := by
  obtain ⟨a, xs, vs, rfl, hs, hr, _, hp⟩ := rdL_ok R hx (Post.bind hp)
  unfold srtD at hp
  obtain ⟨hl, hp3⟩ := need_ok R (Post.bind hp)
  cases hi : intsOf xs with
  | some is =>
    rw [hi] at hp3
    have e := intsOf_eq hi
    subst e
    have ev := Reps.of_ints.mp hr
    refine .inl ⟨a, is, rfl, by rw [← ev]; exact hs, by simpa using hl, fun ns' q h1 h2 hn => ?_⟩
    rw [srtI_eq h1 h2]
    have q2 := tF_new g0 R (Reps.of_ints.mpr rfl) hp3
    exact q2 q hn
  | none =>
    rw [hi] at hp3
    cases hs' : strsOf xs with
    | none => rw [hs'] at hp3; exact (show False from hp3).elim
    | some ss =>
      rw [hs'] at hp3
      have e := strsOf_eq hs'
      subst e
      have ev := Reps.of_strs.mp hr
      refine .inr ⟨a, ss, rfl, by rw [← ev]; exact hs, by simpa using hl, fun ys q h1 h2 hn => ?_⟩
      rw [srtS_eq h1 h2]
      exact tF_new g0 R (Reps.of_strs.mpr rfl) hp3 q hn
theorem mf_sorted {x : Str} {r : Env → M D} (hg : Gl X x) (hm : X.mg x = none) (hv : bootBuiltins x = some (.builtin "sorted")) (h : ME X W e r) (hn : x ≠ "__name__" := by decide) (hdb : (x == ("__debug__" : Str)) = false := by decide)
    (he : starEach [e] X.env = (false, eval e X.env) :: starEach [] X.env := by rfl) (hpl : (backTo pos (starEach [] X.env)).any (·.1) = false := by rfl) : MF X W (.Call (.Name x p) [e] [] pos) (fun env => r env >>= fun x => rdL x >>= srtD) :=
  ⟨(pe_callB (cr_sorted.or cr_sortedS) hg hm hv (pa_cons h.pe pa_nil he) hn hdb he hpl).imp fun σ H Q ⟨env, m, mu, hE, hR, hp⟩ =>
    ⟨env, m, mu, hE, hR, (Post.bind hp).mono fun d m1 mu1 H1 g1 R1 hp v rv => callM_srt g1 R1 rv hp⟩⟩
theorem mf_sortedD {x : Str} {r : Env → M D} (hc : X.calm = true) (hg : Gl X x) (hm : X.mg x = none) (hv : bootBuiltins x = some (.builtin "sorted")) (h : ME X W e r) (hn : x ≠ "__name__" := by decide) (hdb : (x == ("__debug__" : Str)) = false := by decide)
    (he : starEach [e] X.env = (false, eval e X.env) :: starEach [] X.env := by rfl) (hpl : (backTo pos (starEach [] X.env)).any (·.1) = false := by rfl) : MF X W (.Call (.Name x p) [e] [] pos) (fun env => r env >>= fun x => rdD x >>= fun kvs => srtK (kvs.map (·.1))) :=
  ⟨(pe_callB (call_sortedD hc) hg hm hv (pa_cons h.pe pa_nil he) hn hdb he hpl).imp fun σ H Q ⟨env, m, mu, hE, hR, hp⟩ =>
    ⟨env, m, mu, hE, hR, (Post.bind hp).mono fun d m1 mu1 H1 g1 R1 hp v rv => by
      obtain ⟨a, kvs, vs, rfl, hH, hr, hp⟩ := rdD_ok R1 rv (Post.bind hp)
      unfold srtK at hp
      obtain ⟨hl, hp⟩ := need_ok R1 (Post.bind hp)
      cases hk : keyStrs (kvs.map (·.1)) with
      | none => rw [hk] at hp; exact (show False from hp).elim
      | some ss =>
        rw [hk] at hp
        have e := keyStrs_eq hk
        have hz : (kvs.map (·.1)).length = vs.length := by have := hr.length; rw [List.length_map] at this ⊢; exact this
        refine ⟨a, _, ss, rfl, .inl hH, by rw [List.map_fst_zip (by omega)]; exact e, by rw [e] at hl; simpa using hl, fun ys q h1 h2 hn => ?_⟩
        rw [srtS_eq h1 h2]
        exact tF_new g1 R1 (Reps.of_strs.mpr rfl) hp q hn⟩⟩
end
end MP
namespace MP
open PySem L2 PyProof.Rows
/-! ### what a printed walk leans on -/
structure FnI (K : PySem.W.Frag) (mg : Str → Option Value) (x : Str) (st : Stmt) (f : Addr) (fd : FuncData) (ps : List Str) : Prop where
  fn : Fun K x x st f fd
  mg : mg x = some (.ref f)
  bi : Binds K fd ps []
def lenD (n : Nat) (den : List D → M Rv) : List D → M Rv := fun ds mu => if ds.length = n then den ds mu else .bad
theorem lenD_eq {n : Nat} {den : List D → M Rv} {ds : List D} (h : ds.length = n) : lenD n den ds = den ds := by
  funext mu
  unfold lenD
  rw [if_pos h]
theorem units1 {k : Nat} {A : Around} (r : Room k A) : A.units + 1 < cLine := by have := r.units; omega
def fSrt (r : Env → M D) : Env → M (List D) := fun env => r env >>= fun x => rdL x >>= srtD
def fSrtD (r : Env → M D) : Env → M (List D) := fun env => r env >>= fun x => rdD x >>= fun kvs => srtK (kvs.map (·.1))
section
variable {X : Cx} {W : Wx} {k n : Nat} {f : Addr} {fd : FuncData} {ps : List Str} {den : List D → M Rv} {x : Str} {st : Stmt} {p pos : Pos} {e : Expr} {es : List Expr}
theorem me_callF {rs : Env → M (List D)} (T : FnI X.K X.mg x st f fd ps) (F : FnOk X.prog X.w X.K X.mg X.base CX0 k f fd ps (sp X.K X.mg n den)) (hr : Room k X.A) (hg : Gl X x)
    (ha : MA X W (e :: es) rs) (hl : n = (e :: es).length) (hdb : (x == ("__debug__" : Str)) = false := by decide) (he : starEach (e :: es) X.env = (false, eval e X.env) :: starEach es X.env := by rfl) (hpl : (backTo pos (starEach es X.env)).any (·.1) = false := by rfl) :
    ME X W (.Call (.Name x p) (e :: es) [] pos) (eCall (lenD n den) rs) := me_call F hr hg T.mg T.fn.kp T.bi xok0 ha hl hdb he hpl
theorem mf_callF {rs : Env → M (List D)} (T : FnI X.K X.mg x st f fd ps) (F : FnOk X.prog X.w X.K X.mg X.base CX0 k f fd ps (sp X.K X.mg n den)) (hr : Room k X.A) (hg : Gl X x)
    (ha : MA X W (e :: es) rs) (hl : n = (e :: es).length) (hdb : (x == ("__debug__" : Str)) = false := by decide) (he : starEach (e :: es) X.env = (false, eval e X.env) :: starEach es X.env := by rfl) (hpl : (backTo pos (starEach es X.env)).any (·.1) = false := by rfl) :
    MF X W (.Call (.Name x p) (e :: es) [] pos) (fCall (lenD n den) rs) := mf_call F hr hg T.mg T.fn.kp T.bi xok0 ha hl hdb he hpl
end
/-! ### y += x -/
def gAddI : D → D → M D
  | .int i, .int j => pure (.int (i + j))
  | .str i, .str j => do
    need (i.length + j.length ≤ sizeLine)
    pure (.str (i ++ j))
  | _, _ => bad
section
variable {X : Cx} {W : Wx}
def rAddI : R2 := fun x y H Q => rI0 (fun i j => .int (i + j)) x y H Q ∨ ∃ i j, x = .str i ∧ y = .str j ∧ i.length + j.length ≤ sizeLine ∧ Q (.str (i ++ j)) H
theorem iop_addM : OpR X (inplaceOp .Add) rAddI := iop_add.or iop_add_str
theorem opm_addI : OpM X.K W rAddI gAddI := ⟨fun x y v w m mu H Q rl hx hy hp => by
  cases x
  case int i =>
    cases y
    case int j => simp only [Rep] at hx hy; exact .inl ⟨i, j, hx, hy, Post.pure hp rl _ (by simp only [Rep])⟩
    all_goals exact (show False from hp).elim
  case str i =>
    cases y
    case str j =>
      obtain ⟨c, hp⟩ := need_ok rl (Post.bind hp)
      simp only [Rep] at hx hy
      exact .inr ⟨i, j, hx, hy, c, Post.pure hp rl _ (by simp only [Rep])⟩
    all_goals exact (show False from hp).elim
  all_goals exact (show False from hp).elim⟩
theorem iop_mulM : OpR X (inplaceOp .Mult) (rI CMul fun i j => .int (i * j)) := iop_mul
end
/-! ### a def's answer, what is left behind forgotten -/
/-- a def that only looks: f gives its answer -/
def pureD (f : List D → Option D) : List D → M Rv := fun ds mu => match f ds with
  | some d => .ok (.vl d) mu
  | none => .bad
theorem gc_pure {n : Nat} {den : List D → M Rv} {f : List D → Option D} (h : ∀ ds mu d, ds.length = n → Clos mu.length ds → CloH mu → f ds = some d → Clo mu.length d ∧ ∃ ex, den ds mu = .ok (.vl d) (mu ++ ex)) : GC n den (pureD f) := fun ds mu hn hc hh => by
  cases e : f ds with
  | none =>
    have e0 : pureD f ds mu = .bad := by unfold pureD; rw [e]
    rw [e0]; trivial
  | some d =>
    have e0 : pureD f ds mu = .ok (.vl d) mu := by unfold pureD; rw [e]
    rw [e0]
    obtain ⟨h1, ex, h2⟩ := h ds mu d hn hc hh e
    exact ⟨.vl d, mu ++ ex, h2, Nat.le_refl _, .vl (hh.frz ex) (h1 _ _)⟩
/-- .. that may answer with a new list, read as one that nobody changes -/
theorem gc_pure' {n : Nat} {den : List D → M Rv} {f : List D → Option D} (h : ∀ ds mu d, ds.length = n → Clos mu.length ds → CloH mu → f ds = some d → ∃ ex rv, den ds mu = .ok rv (mu ++ ex) ∧ FrzR (mu ++ ex) mu rv (.vl d)) : GC n den (pureD f) := fun ds mu hn hc hh => by
  cases e : f ds with
  | none =>
    have e0 : pureD f ds mu = .bad := by unfold pureD; rw [e]
    rw [e0]; trivial
  | some d =>
    have e0 : pureD f ds mu = .ok (.vl d) mu := by unfold pureD; rw [e]
    rw [e0]
    obtain ⟨ex, rv, h1, h2⟩ := h ds mu d hn hc hh e
    exact ⟨rv, mu ++ ex, h1, Nat.le_refl _, h2⟩
/-- .. a new list -/
def newD (f : List D → Option (List D)) : List D → M Rv := fun ds mu => match f ds with
  | some d => .ok (.fr d) mu
  | none => .bad
end MP
namespace MP
open PySem L2 PyProof.Rows
/-! ### the small semantics, step by step, for simp -/
section
variable {α β : Type} {mu mu' : List MO} {env : Env} {n i : Nat} {x y d o : D} {xs ys : List D}
@[simp] theorem bind_ap {c : M α} {f : α → M β} : (c >>= f) mu = match c mu with
  | .ok a mu' => f a mu'
  | .exc x mu' => .exc x mu'
  | .bad => .bad := rfl
@[simp] theorem pure_ap {a : α} : (Pure.pure a : M α) mu = .ok a mu := rfl
@[simp] theorem bad_ap : (bad : M α) mu = .bad := rfl
@[simp] theorem raise_ap {x : Xn} : (raise x : M α) mu = .exc x mu := rfl
theorem bind_ok {c : M α} {f : α → M β} {a : α} (h : c mu = .ok a mu') : (c >>= f) mu = f a mu' := by rw [bind_ap, h]
@[simp] theorem noX_ok {c : M α} {a : α} (h : c mu = .ok a mu') : noX c mu = .ok a mu' := by
  show (match c mu with | .exc _ _ => R.bad | r => r) = _
  rw [h]
theorem noX_ap {c : M α} : noX c mu = match c mu with
  | .exc _ _ => .bad
  | r => r := rfl
/-- the list, the dict at a place -/
def onL (o : Option MO) (f : List D → R α) : R α := match o with
  | some (.lst xs) => f xs
  | _ => .bad
def onD (o : Option MO) (f : List (Key × D) → R α) : R α := match o with
  | some (.dk xs) => f xs
  | _ => .bad
@[simp] theorem onL_lst {f : List D → R α} : onL (some (.lst xs)) f = f xs := rfl
@[simp] theorem onD_dk {kvs : List (Key × D)} {f : List (Key × D) → R α} : onD (some (.dk kvs)) f = f kvs := rfl
@[simp] theorem eC_ap : eC d env mu = .ok d mu := rfl
def slot (o : Option (Option D)) (mu : List MO) : R D := match o with
  | some (some d) => .ok d mu
  | _ => .bad
@[simp] theorem slot_ok : slot (some (some d)) mu = .ok d mu := rfl
@[simp] theorem eVar_ap : eVar i env mu = slot env[i]? mu := by
  unfold eVar slot
  cases env[i]? with
  | none => rfl
  | some o => cases o <;> rfl
theorem eVar_get (h : env[i]? = some (some d)) : eVar i env mu = .ok d mu := by rw [eVar_ap, h, slot_ok]
variable {ra rb rc : Env → M D} {rs : Env → M (List D)} {g : D → D → M D} {f : D → M D} {t t' : Env → M Bool} {s1 s2 : Env → M Fl} {rf : Env → M (List D)}
@[simp] theorem eBin_ap : eBin g ra rb env = (ra env >>= fun x => rb env >>= fun y => g x y) := rfl
@[simp] theorem eMap_ap : eMap f ra env = (ra env >>= f) := rfl
@[simp] theorem eIf_ap {r r' : Env → M α} : eIf t r r' env = (t env >>= fun b => if b = true then r env else r' env) := rfl
@[simp] theorem eB_ap : eB ra env = (ra env >>= asB) := rfl
@[simp] theorem asB_bl {b : Bool} : asB (.bl b) mu = .ok b mu := rfl
@[simp] theorem bNot_ap : bNot t env = (t env >>= fun b => pure (!b)) := rfl
@[simp] theorem bAnd_ap : bAnd t t' env = (t env >>= fun b => if b = true then t' env else pure false) := rfl
@[simp] theorem bOr_ap : bOr t t' env = (t env >>= fun b => if b = true then pure true else t' env) := rfl
@[simp] theorem eAnd_ap : eAnd ra rb env = (ra env >>= fun x => toB x >>= fun b => if b = true then rb env else pure (.bl false)) := rfl
@[simp] theorem eOr_ap : eOr ra rb env = (ra env >>= fun x => toB x >>= fun b => if b = true then pure (.bl true) else rb env) := rfl
@[simp] theorem aNil_ap : aNil env mu = .ok [] mu := rfl
@[simp] theorem aCons_ap : aCons ra rs env = (ra env >>= fun x => rs env >>= fun xs => pure (x :: xs)) := rfl
@[simp] theorem aThen_ap {f : List D → M D} : aThen f rs env = (rs env >>= f) := rfl
@[simp] theorem aList_ap : aList rs env = (rs env >>= fun xs => need (xs.length ≤ sizeLine) >>= fun _ => pure xs) := rfl
@[simp] theorem eFl_ap : eFl rf env = (rf env >>= fun xs => pure (.fl xs)) := rfl
@[simp] theorem eNew_ap : eNew rf env = (rf env >>= fun xs => alloc (.lst xs)) := rfl
@[simp] theorem eNewD_ap : eNewD env = alloc (.dk []) := rfl
@[simp] theorem alloc_ap {o : MO} : alloc o mu = .ok (.ref mu.length) (mu ++ [o]) := rfl
@[simp] theorem eCall_ap {den : List D → M Rv} : eCall den rs env = (rs env >>= fun xs => den xs >>= fun rv => pure (rvD rv)) := rfl
@[simp] theorem rvD_vl : rvD (.vl d) = d := rfl
@[simp] theorem rvD_fr : rvD (.fr xs) = .fl xs := rfl
@[simp] theorem fCall_ap {den : List D → M Rv} : fCall den rs env = (rs env >>= fun xs => den xs >>= fun rv => match rv with
  | .fr ds => pure ds
  | .vl _ => bad) := rfl
@[simp] theorem lenD_ap {den : List D → M Rv} : lenD n den xs mu = if xs.length = n then den xs mu else .bad := rfl
@[simp] theorem g1_ap : g1 f [x] = f x := rfl
@[simp] theorem g2_ap : g2 g [x, y] = g x y := rfl
@[simp] theorem fThen1_ap {f : D → M (List D)} : fThen1 f rs env = (rs env >>= fun xs => match xs with
  | [x] => f x
  | _ => bad) := rfl
@[simp] theorem oNone_ap : oNone env mu = .ok none mu := rfl
@[simp] theorem oSome_ap : oSome ra env = (ra env >>= fun x => toI x >>= fun i => pure (some i)) := rfl
@[simp] theorem eSl_ap {rl rh : Env → M (Option Int)} : eSl ra rl rh env = (ra env >>= fun x => rl env >>= fun lo => rh env >>= fun hi => gSl x lo hi) := rfl
@[simp] theorem fSl_ap {rl rh : Env → M (Option Int)} : fSl ra rl rh env = (ra env >>= fun x => rl env >>= fun lo => rh env >>= fun hi => rdL x >>= fun xs => pure (cutD xs lo hi)) := rfl
@[simp] theorem fCat_ap : fCat ra rb env = (ra env >>= fun x => rb env >>= fun y => rdM x >>= fun xs => rdM y >>= fun ys => need (xs.length + ys.length ≤ sizeLine) >>= fun _ => pure (xs ++ ys)) := rfl
@[simp] theorem eWalk_ap : eWalk ra env = (ra env >>= walkD) := rfl
@[simp] theorem wThen_ap {f : List D → M Wk} : wThen f rs env = (rs env >>= f) := rfl
@[simp] theorem fSrt_ap : fSrt ra env = (ra env >>= fun x => rdL x >>= srtD) := rfl
@[simp] theorem fSrtD_ap : fSrtD ra env = (ra env >>= fun x => rdD x >>= fun kvs => srtK (kvs.map (·.1))) := rfl
@[simp] theorem asgN_ap : asgN i d env mu = .ok (env.set i (some d)) mu := rfl
@[simp] theorem asgT_ap {g : List D → Env → M Env} : asgT n g d env = (toT d >>= fun xs => need (xs.length = n) >>= fun _ => g xs env) := rfl
@[simp] theorem asgNil_ap : asgNil [] env mu = .ok env mu := rfl
@[simp] theorem asgCons_ap {h : D → Env → M Env} {g : List D → Env → M Env} : asgCons h g (d :: xs) env = (h d env >>= fun e => g xs e) := rfl
@[simp] theorem sFor_ap {r : Env → M Wk} {asg : D → Env → M Env} {fg : List Nat} : sFor r asg s1 fg env = (r env >>= fun p => loopF asg s1 fg p.2 p.1 env) := rfl
@[simp] theorem sNext_ap : sNext env mu = .ok (.nx env) mu := rfl
@[simp] theorem sSeq_ap : sSeq s1 s2 env = (s1 env >>= fun fl => match fl with
  | .nx e => s2 e
  | fl => pure fl) := by
  unfold sSeq
  congr 1
@[simp] theorem sBreak_ap : sBreak env mu = .ok (.bk env) mu := rfl
@[simp] theorem sCont_ap : sCont env mu = .ok (.ct env) mu := rfl
@[simp] theorem sExpr_ap : sExpr ra env = (ra env >>= fun _ => pure (.nx env)) := rfl
@[simp] theorem sRet_ap : sRet ra env = (ra env >>= fun d => pure (.rt (.vl d))) := rfl
@[simp] theorem sRetF_ap : sRetF rf env = (rf env >>= fun d => pure (.rt (.fr d))) := rfl
@[simp] theorem sRetN_ap : sRetN env mu = .ok (.rt (.vl .non)) mu := rfl
@[simp] theorem sAsg_ap {asg : D → Env → M Env} : sAsg ra asg env = (ra env >>= fun d => asg d env >>= fun env' => pure (.nx env')) := rfl
@[simp] theorem sSet_ap : sSet i ra env = (ra env >>= fun d => pure (.nx (env.set i (some d)))) := rfl
@[simp] theorem sAug_ap : sAug i g ra env = (eVar i env >>= fun x => ra env >>= fun y => g x y >>= fun z => pure (.nx (env.set i (some z)))) := rfl
@[simp] theorem sSub_ap : sSub ra rb rc env = (rc env >>= fun v => ra env >>= fun o => rb env >>= fun i => setL o i v >>= fun _ => pure (.nx env)) := rfl
@[simp] theorem sDput_ap : sDput ra rb rc env = (rc env >>= fun v => ra env >>= fun o => rb env >>= fun i => putM o i v >>= fun _ => pure (.nx env)) := rfl
@[simp] theorem eGet1_ap : eGet1 ra rb env = (ra env >>= fun o => dctK o >>= fun _ => rb env >>= fun y => rdD o >>= fun kvs => toK y >>= fun k => pure ((valD kvs k).getD .non)) := rfl
@[simp] theorem eGet2_ap : eGet2 ra rb rc env = (ra env >>= fun o => dctK o >>= fun _ => rb env >>= fun y => rc env >>= fun x => rdD o >>= fun kvs => toK y >>= fun k => pure ((valD kvs k).getD x)) := rfl
@[simp] theorem dctK_ap : dctK o = (rdD o >>= fun _ => pure ()) := rfl
@[simp] theorem eMeth_ap {k : D → M Unit} {h : D → List D → M D} : eMeth k h ra rs env = (ra env >>= fun o => k o >>= fun _ => rs env >>= fun xs => h o xs) := rfl
@[simp] theorem fComp_ap {w : Env → M Wk} {asg : D → Env → M Env} {vs : List Nat} : fComp w asg t ra vs env = (w env >>= fun p => noX (loopC asg t ra p.2 p.1 (wipeE env vs))) := rfl
@[simp] theorem tYesM_ap : tYesM env mu = .ok true mu := rfl
@[simp] theorem wipeE_nil : wipeE env [] = env := rfl
@[simp] theorem wipeE_cons {vs : List Nat} : wipeE env (i :: vs) = (wipeE env vs).set i none := rfl
/-! values -/
@[simp] theorem need_ap {c : Prop} [Decidable c] : need c mu = if c then .ok () mu else .bad := by unfold need; split <;> rfl
@[simp] theorem toI_int {i : Int} : toI (.int i) mu = .ok i mu := rfl
@[simp] theorem toS_str {z : Str} : toS (.str z) mu = .ok z mu := rfl
@[simp] theorem toT_tup : toT (.tup xs) mu = .ok xs mu := rfl
@[simp] theorem toB_bl {b : Bool} : toB (.bl b) mu = .ok b mu := rfl
@[simp] theorem toR_ref : toR (.ref n) mu = .ok n mu := rfl
@[simp] theorem toK_int {i : Int} : toK (.int i) mu = .ok (.inl i) mu := rfl
@[simp] theorem toK_str {z : Str} : toK (.str z) mu = .ok (.inr z) mu := rfl
@[simp] theorem gAdd_int {i j : Int} : gAdd (.int i) (.int j) mu = .ok (.int (i + j)) mu := rfl
@[simp] theorem gAdd_str {i j : Str} : gAdd (.str i) (.str j) mu = if i.length + j.length ≤ sizeLine then .ok (.str (i ++ j)) mu else .bad := by
  show ((need (i.length + j.length ≤ sizeLine) : M Unit) >>= fun _ => (pure (.str (i ++ j)) : M D)) mu = _
  rw [bind_ap, need_ap]
  by_cases c : i.length + j.length ≤ sizeLine
  · rw [if_pos c, if_pos c]; rfl
  · rw [if_neg c, if_neg c]
theorem gII_ap {c : Int → Int → Prop} [∀ i j, Decidable (c i j)] {f : Int → Int → D} {i j : Int} : gII c f (.int i) (.int j) mu = if c i j then .ok (f i j) mu else .bad := by
  show ((need (c i j) : M Unit) >>= fun _ => (pure (f i j) : M D)) mu = _
  rw [bind_ap, need_ap]
  by_cases h : c i j
  · rw [if_pos h, if_pos h]; rfl
  · rw [if_neg h, if_neg h]
@[simp] theorem gSub_int {i j : Int} : gSub (.int i) (.int j) mu = .ok (.int (i - j)) mu := by unfold gSub; rw [gII_ap]; exact if_pos trivial
theorem gMul_int {i j : Int} : gMul (.int i) (.int j) mu = if cMul i j then .ok (.int (i * j)) mu else .bad := gII_ap
@[simp] theorem gMul_small {i j : Int} (h : -(2 ^ 64) < j ∧ j < 2 ^ 64) : gMul (.int i) (.int j) mu = .ok (.int (i * j)) mu := by rw [gMul_int, if_pos (.inl (.inr h))]
theorem gDiv_int {i j : Int} : gDiv (.int i) (.int j) mu = if CDivW i j then .ok (.int (i / j)) mu else .bad := gII_ap
@[simp] theorem gDiv_small {i j : Int} (h : 0 < j ∧ j.natAbs.log2 < 9000) : gDiv (.int i) (.int j) mu = .ok (.int (i / j)) mu := by rw [gDiv_int, if_pos (show CDivW i j from h)]
@[simp] theorem gMod_int {i j : Int} : gMod (.int i) (.int j) mu = if 0 < j then .ok (.int (i % j)) mu else .bad := gII_ap
@[simp] theorem gPow_int {i j : Int} (h : 0 ≤ j ∧ j ≤ 1000000 ∧ i.natAbs < 2 ^ 64) : gPow (.int i) (.int j) mu = .ok (.int (i ^ j.toNat)) mu := by
  have e : gPow (.int i) (.int j) mu = if CPow i j then .ok (.int (i ^ j.toNat)) mu else .bad := gII_ap
  rw [e, if_pos (show CPow i j from h)]
@[simp] theorem gCmp_int {f : Int → Int → Bool} {i j : Int} : gCmp f (.int i) (.int j) mu = .ok (.bl (f i j)) mu := by unfold gCmp; rw [gII_ap]; exact if_pos trivial
@[simp] theorem gLt_int {i j : Int} : gLt (.int i) (.int j) mu = .ok (.bl (decide (i < j))) mu := rfl
@[simp] theorem gLt_str {i j : Str} : gLt (.str i) (.str j) mu = .ok (.bl (ltS i j)) mu := rfl
@[simp] theorem gNeg_int {i : Int} : gNeg (.int i) mu = .ok (.int (-i)) mu := rfl
@[simp] theorem gNot_bl {b : Bool} : gNot (.bl b) mu = .ok (.bl (!b)) mu := rfl
@[simp] theorem rdL_fl : rdL (.fl xs) mu = .ok xs mu := rfl
@[simp] theorem rdL_ro : rdL (.ro xs) mu = .ok xs mu := rfl
@[simp] theorem rdL_ref : rdL (.ref n) mu = atL mu n := rfl
@[simp] theorem atL_ap : atL mu n = onL mu[n]? fun xs => .ok xs mu := rfl
@[simp] theorem rdQ_tup : rdQ (.tup xs) mu = .ok xs mu := rfl
@[simp] theorem rdQ_fl : rdQ (.fl xs) mu = .ok xs mu := rfl
@[simp] theorem rdQ_ro : rdQ (.ro xs) mu = .ok xs mu := rfl
@[simp] theorem rdQ_ref : rdQ (.ref n) mu = atL mu n := rfl
@[simp] theorem rdD_ref : rdD (.ref n) mu = atD mu n := rfl
@[simp] theorem rdD_fd {ks : List Key} : rdD (.fd ks xs) mu = .ok (ks.zip xs) mu := rfl
@[simp] theorem atD_ap : atD mu n = onD mu[n]? fun kvs => .ok kvs mu := rfl
@[simp] theorem walkD_tup : walkD (.tup xs) mu = .ok (xs, []) mu := rfl
@[simp] theorem walkD_fl : walkD (.fl xs) mu = .ok (xs, []) mu := rfl
@[simp] theorem walkD_ro : walkD (.ro xs) mu = .ok (xs, []) mu := rfl
@[simp] theorem walkD_ref : walkD (.ref n) mu = onL mu[n]? fun xs => .ok (xs, [(n, xs)]) mu := by
  have e : walkD (.ref n) mu = match atL mu n with
    | .ok xs mu => MP.R.ok (xs, [(n, xs)]) mu
    | _ => .bad := rfl
  rw [e]
  cases h : mu[n]? with
  | none => rw [show atL mu n = .bad from by unfold atL; rw [h]]; rfl
  | some o => cases o with
    | lst xs => rw [atL_lst h]; rfl
    | dk kvs => rw [atL_dk h]; rfl
theorem ixD_at {i : Int} (h : atI xs i = some d) : ixD xs i mu = .ok d mu := by unfold ixD; rw [h]; rfl
@[simp] theorem gIx_tup {i : Int} : gIx (.tup xs) (.int i) mu = ixD xs i mu := rfl
@[simp] theorem gIx_fl {i : Int} : gIx (.fl xs) (.int i) mu = ixD xs i mu := rfl
@[simp] theorem gIx_ro {i : Int} : gIx (.ro xs) (.int i) mu = ixD xs i mu := rfl
@[simp] theorem gIx_ref {i : Int} : gIx (.ref n) (.int i) mu = onL mu[n]? fun xs => ixD xs i mu := by
  show ((rdQ (.ref n) : M (List D)) >>= fun xs => (toI (.int i) : M Int) >>= fun i => ixD xs i) mu = _
  rw [bind_ap, rdQ_ref]
  cases h : mu[n]? with
  | none => rw [show atL mu n = .bad from by unfold atL; rw [h]]; rfl
  | some o => cases o with
    | lst xs => rw [atL_lst h]; rfl
    | dk kvs => rw [atL_dk h]; rfl
theorem gIx_str {z : Str} {i : Int} {c : Nat} (hz : z.length ≤ sizeLine) (h : atI z.cps.toList i = some c) : gIx (.str z) (.int i) mu = .ok (.str ⟨#[c]⟩) mu := by
  show ((toI (.int i) : M Int) >>= fun i => (need (z.length ≤ sizeLine) : M Unit) >>= fun _ => (match atI z.cps.toList i with
    | some c => pure (.str ⟨#[c]⟩)
    | none => bad : M D)) mu = _
  rw [bind_ap, toI_int]
  show ((need (z.length ≤ sizeLine) : M Unit) >>= fun _ => (match atI z.cps.toList i with
    | some c => pure (.str ⟨#[c]⟩)
    | none => bad : M D)) mu = _
  rw [bind_ap, need_ap, if_pos hz]
  show (match atI z.cps.toList i with
    | some c => pure (.str ⟨#[c]⟩)
    | none => bad : M D) mu = _
  rw [h]; rfl
@[simp] theorem gLen_tup : gLen (.tup xs) mu = .ok (.int xs.length) mu := rfl
@[simp] theorem gLen_fl : gLen (.fl xs) mu = .ok (.int xs.length) mu := rfl
@[simp] theorem gLen_ro : gLen (.ro xs) mu = .ok (.int xs.length) mu := rfl
theorem gLen_str {z : Str} (h : z.length ≤ sizeLine) : gLen (.str z) mu = .ok (.int z.length) mu := by
  show ((need (z.length ≤ sizeLine) : M Unit) >>= fun _ => (pure (.int z.length) : M D)) mu = _
  rw [bind_ap, need_ap, if_pos h]; rfl
theorem gLen_ref (h : mu[n]? = some (.lst xs)) : gLen (.ref n) mu = .ok (.int xs.length) mu := by
  show (match mu[n]? with
    | some (.lst xs) => MP.R.ok (D.int xs.length) mu
    | some (.dk kvs) => .ok (.int kvs.length) mu
    | none => .bad) = _
  rw [h]
@[simp] theorem gAbs_int {i : Int} : gAbs (.int i) mu = .ok (.int (if i < 0 then -i else i)) mu := rfl
@[simp] theorem gInt_int {i : Int} : gInt (.int i) mu = .ok (.int i) mu := rfl
@[simp] theorem gTuple_fl : gTuple (.fl xs) mu = .ok (.tup xs) mu := rfl
@[simp] theorem gTuple_tup : gTuple (.tup xs) mu = .ok (.tup xs) mu := rfl
@[simp] theorem gTuple_ro : gTuple (.ro xs) mu = .ok (.tup xs) mu := rfl
theorem gTup_ok (h : xs.length ≤ sizeLine) : gTup xs mu = .ok (.tup xs) mu := by
  show ((need (xs.length ≤ sizeLine) : M Unit) >>= fun _ => (pure (.tup xs) : M D)) mu = _
  rw [bind_ap, need_ap, if_pos h]; rfl
@[simp] theorem setL_ap {i : Int} : setL (.ref n) (.int i) d mu = modLr mu[n]? n (fun xs => match ixN xs.length i with
  | some j => some (xs.set j d, .non)
  | none => none) mu := rfl
@[simp] theorem modLr_lst {f : List D → Option (List D × D)} : modLr (some (.lst xs)) n f mu = match f xs with
  | some (ys, d) => .ok d (mu.set n (.lst ys))
  | none => .bad := rfl
theorem setL_ok {i : Int} {j : Nat} (h : mu[n]? = some (.lst xs)) (hj : ixN xs.length i = some j) : setL (.ref n) (.int i) d mu = .ok .non (mu.set n (.lst (xs.set j d))) := by
  rw [setL_ap, h, modLr_lst, hj]
theorem modDr_dk {f : List (Key × D) → Option (List (Key × D) × D)} {kvs : List (Key × D)} : modDr (some (.dk kvs)) n f mu = match f kvs with
  | some (ys, d) => .ok d (mu.set n (.dk ys))
  | none => .bad := rfl
theorem putM_at {kvs : List (Key × D)} {k : Key} (hk : toK y mu = .ok k mu) (h : mu[n]? = some (.dk kvs)) (hl : kvs.length < sizeLine) : putM (.ref n) y d mu = .ok .non (mu.set n (.dk (putD kvs k d))) := by
  show (toR (.ref n) >>= fun n => toK y >>= fun kk => modD n fun kvs => if kvs.length < sizeLine then some (putD kvs kk d, .non) else none) mu = _
  rw [bind_ap, toR_ref]
  show (toK y >>= fun kk => modD n fun kvs => if kvs.length < sizeLine then some (putD kvs kk d, .non) else none) mu = _
  rw [bind_ap, hk]
  show modDr mu[n]? n (fun kvs => if kvs.length < sizeLine then some (putD kvs k d, .non) else none) mu = _
  rw [h, modDr_dk, if_pos hl]
@[simp] theorem tyD_ap : (tyD .non mu = .ok "NoneType" mu) ∧ (∀ b, tyD (.bl b) mu = .ok "bool" mu) ∧ (∀ i, tyD (.int i) mu = .ok "int" mu) ∧ (∀ z, tyD (.str z) mu = .ok "str" mu) ∧ (∀ xs, tyD (.tup xs) mu = .ok "tuple" mu) ∧ (∀ xs, tyD (.fl xs) mu = .ok "list" mu) ∧ (∀ xs, tyD (.ro xs) mu = .ok "list" mu) ∧ ∀ ks xs, tyD (.fd ks xs) mu = .ok "dict" mu := ⟨rfl, fun _ => rfl, fun _ => rfl, fun _ => rfl, fun _ => rfl, fun _ => rfl, fun _ => rfl, fun _ _ => rfl⟩
@[simp] theorem gIsi_ap {T : String} : gIsi T x = (tyD x >>= fun t => pure (.bl (isiB t T))) := rfl
@[simp] theorem runB_ap {r : Env → M Fl} : runB n r xs mu = match r (startE n xs) mu with
  | .ok (.rt rv) mu' => .ok rv mu'
  | .ok (.nx _) mu' => .ok (.vl .non) mu'
  | .ok _ _ => .bad
  | .exc x mu' => .exc x mu'
  | .bad => .bad := rfl
theorem chk_nil : chk [] mu = .ok () mu := by unfold chk; rw [if_pos]; simp
theorem chk_one (h : mu[n]? = some (.lst xs)) : chk [(n, xs)] mu = .ok () mu := by unfold chk; rw [if_pos]; simpa using h
end
/-! ### loops over things that stand still -/
section
variable {asg : D → Env → M Env} {body : Env → M Fl} {fg : List Nat} {t : Env → M Bool} {r : Env → M D} {env env1 : Env} {mu mu' mu1 mu2 mu3 : List MO} {d x : D} {ds xs : List D}
theorem loopF_nil : loopF asg body fg [] [] env mu = .ok (.nx (wipeE env fg)) mu := by
  show ((chk [] : M Unit) >>= fun _ => (pure (.nx (wipeE env fg)) : M Fl)) mu = _
  rw [bind_ap, chk_nil]; rfl
theorem loopF_cons : loopF asg body fg [] (d :: ds) env mu = (asg d (wipeE env fg) >>= fun env1 => body env1 >>= fun fl => match fl with
    | .nx e => loopF asg body fg [] ds e
    | .ct e => loopF asg body fg [] ds e
    | .bk e => pure (.nx (wipeE e fg))
    | .rt rv => pure (.rt rv)) mu := by
  show ((chk [] : M Unit) >>= fun _ => asg d (wipeE env fg) >>= fun env1 => body env1 >>= fun fl => match fl with
    | .nx e => loopF asg body fg [] ds e
    | .ct e => loopF asg body fg [] ds e
    | .bk e => pure (.nx (wipeE e fg))
    | .rt rv => pure (.rt rv)) mu = _
  rw [bind_ap, chk_nil]
theorem loopC_nil : loopC asg t r [] [] env mu = .ok [] mu := by
  show ((chk [] : M Unit) >>= fun _ => (pure [] : M (List D))) mu = _
  rw [bind_ap, chk_nil]; rfl
theorem loopC_cons : loopC asg t r [] (d :: ds) env mu = (asg d env >>= fun env1 => t env1 >>= fun b => if b = true then (r env1 >>= fun x => loopC asg t r [] ds env >>= fun xs => pure (x :: xs)) else loopC asg t r [] ds env) mu := by
  show ((chk [] : M Unit) >>= fun _ => asg d env >>= fun env1 => t env1 >>= fun b => if b = true then (r env1 >>= fun x => loopC asg t r [] ds env >>= fun xs => pure (x :: xs)) else loopC asg t r [] ds env) mu = _
  rw [bind_ap, chk_nil]
theorem loopC_yes (h1 : asg d env mu = .ok env1 mu1) (h2 : t env1 mu1 = .ok true mu1) (h3 : r env1 mu1 = .ok x mu2) (h4 : loopC asg t r [] ds env mu2 = .ok xs mu3) : loopC asg t r [] (d :: ds) env mu = .ok (x :: xs) mu3 := by
  rw [loopC_cons]
  simp [h1, h2, h3, h4]
theorem loopC_no (h1 : asg d env mu = .ok env1 mu1) (h2 : t env1 mu1 = .ok false mu1) (h4 : loopC asg t r [] ds env mu1 = .ok xs mu3) : loopC asg t r [] (d :: ds) env mu = .ok xs mu3 := by
  rw [loopC_cons]
  simp [h1, h2, h4]
/-- a comprehension that changes nothing: each item by itself -/
theorem loopC_map {f : D → D} (h : ∀ d ∈ ds, ∃ env1, asg d env mu = .ok env1 mu ∧ t env1 mu = .ok true mu ∧ r env1 mu = .ok (f d) mu) : loopC asg t r [] ds env mu = .ok (ds.map f) mu := by
  induction ds with
  | nil => exact loopC_nil
  | cons d ds ih =>
    obtain ⟨env1, h1, h2, h3⟩ := h d (by simp)
    exact loopC_yes h1 h2 h3 (ih fun e he => h e (by simp [he]))
theorem loopC_filter {f : D → D} {p : D → Bool} (h : ∀ d ∈ ds, ∃ env1, asg d env mu = .ok env1 mu ∧ t env1 mu = .ok (p d) mu ∧ (p d = true → r env1 mu = .ok (f d) mu)) : loopC asg t r [] ds env mu = .ok ((ds.filter p).map f) mu := by
  induction ds with
  | nil => exact loopC_nil
  | cons d ds ih =>
    obtain ⟨env1, h1, h2, h3⟩ := h d (by simp)
    have ih := ih fun e he => h e (by simp [he])
    cases hp : p d with
    | true =>
      rw [List.filter_cons_of_pos hp, List.map_cons]
      exact loopC_yes h1 (by rw [h2, hp]) (h3 hp) ih
    | false =>
      rw [List.filter_cons_of_neg (by rw [hp]; decide)]
      exact loopC_no h1 (by rw [h2, hp]) ih
end
end MP
namespace MP
open PySem L2 PyProof.Rows
/-! ### the words that all laws share -/
/-- names: 0 script -/
noncomputable def r__law_start : MP.Env → M Fl :=
  (sRetF (aList (aCons (eFl (fThen1 rdQ (aCons (eVar 0) aNil))) (aCons (eC (.int 0)) (aCons (eC (.int 0)) (aCons (eC (.int 0)) aNil))))))
noncomputable def den__law_start : List D → M Rv := fun ds => noX (runB 1 (r__law_start) ds)
/-- names: 0 state, 1 most, 2 cell, 3 mixed, 4 found -/
noncomputable def r__law_draw : MP.Env → M Fl :=
  (sSeq (sSub (eVar 0) (eC (.int 3)) (eBin gAdd (eBin gIx (eVar 0) (eC (.int 3))) (eC (.int 1))))
  (sSeq (eIf (eB (eBin (gCmp fun i j => decide (j < i)) (eBin gIx (eVar 0) (eC (.int 2))) (eC (.int 0))))
  (sSeq (sSet 4 (eBin gMod (aThen (g1 gInt) (aCons (eBin gIx (eVar 0) (eC (.int 2))) aNil)) (eVar 1)))
  (sSeq (sSub (eVar 0) (eC (.int 2)) (eBin gDiv (eBin gIx (eVar 0) (eC (.int 2))) (eVar 1)))
  (sRet (eVar 4))))
  sNext)
  (sSeq (sSet 2 (eC (.int 0)))
  (sSeq (eIf (eB (eBin (gCmp fun i j => decide (j < i)) (aThen (g1 gLen) (aCons (eBin gIx (eVar 0) (eC (.int 0))) aNil)) (eC (.int 0))))
  (sSet 2 (aThen (g1 gAbs) (aCons (eBin gIx (eBin gIx (eVar 0) (eC (.int 0))) (eBin gMod (aThen (g1 gInt) (aCons (eBin gIx (eVar 0) (eC (.int 1))) aNil)) (aThen (g1 gLen) (aCons (eBin gIx (eVar 0) (eC (.int 0))) aNil)))) aNil)))
  sNext)
  (sSeq (sSub (eVar 0) (eC (.int 1)) (eBin gAdd (eBin gIx (eVar 0) (eC (.int 1))) (eC (.int 1))))
  (sSeq (eIf (eB (eBin (gCmp fun i j => decide (j ≤ i)) (eVar 2) (eBin gPow (eC (.int 10)) (eC (.int 18)))))
  (sSeq (sSub (eVar 0) (eC (.int 2)) (eBin gDiv (eVar 2) (eVar 1)))
  (sRet (eBin gMod (aThen (g1 gInt) (aCons (eVar 2) aNil)) (eVar 1))))
  sNext)
  (sSeq (sSet 3 (eBin gMod (aThen (g1 gInt) (aCons (eBin gAdd (eBin gMul (eBin gAdd (eVar 2) (eC (.int 1))) (eC (.int 48271))) (eBin gMul (eBin gIx (eVar 0) (eC (.int 3))) (eC (.int 69621)))) aNil)) (eC (.int 2147483647))))
  (sSeq (sSet 3 (eBin gMod (aThen (g1 gInt) (aCons (eBin gAdd (eBin gAdd (eBin gMul (eVar 3) (eC (.int 16807))) (eBin gDiv (eVar 2) (eC (.int 97)))) (eBin gIx (eVar 0) (eC (.int 3)))) aNil)) (eC (.int 2147483629))))
  (sRet (eBin gMod (eBin gDiv (eVar 3) (eC (.int 11))) (eVar 1)))))))))))
noncomputable def den__law_draw : List D → M Rv := fun ds => noX (runB 5 (r__law_draw) ds)
/-- names: 0 state, 1 items -/
noncomputable def r__law_one_of (d__law_draw : List D → M Rv) : MP.Env → M Fl :=
  (sRet (eBin gIx (eVar 1) (eCall (lenD 2 d__law_draw) (aCons (eVar 0) (aCons (aThen (g1 gLen) (aCons (eVar 1) aNil)) aNil)))))
noncomputable def den__law_one_of (d__law_draw : List D → M Rv) : List D → M Rv := fun ds => noX (runB 2 (r__law_one_of d__law_draw) ds)
/-- names: 0 x -/
noncomputable def r__law_is_int : MP.Env → M Fl :=
  (sRet (eAnd (eMap (gIsi "int") (eVar 0)) (eMap gNot (eMap (gIsi "bool") (eVar 0)))))
noncomputable def den__law_is_int : List D → M Rv := fun ds => noX (runB 1 (r__law_is_int) ds)
/-- names: 0 x, 1 y, 2 k -/
noncomputable def r__law_same (d__law_same : List D → M Rv) (d__law_is_int : List D → M Rv) : MP.Env → M Fl :=
  (sSeq (eIf (eB (eMap (gIsi "tuple") (eVar 1)))
  (sSeq (eIf (bOr (bNot (eB (eMap (gIsi "tuple") (eVar 0)))) (eB (eBin (gEq true) (aThen (g1 gLen) (aCons (eVar 0) aNil)) (aThen (g1 gLen) (aCons (eVar 1) aNil)))))
  (sRet (eC (.bl false)))
  sNext)
  (sRet (aThen (g1 gAll) (aCons (eFl (fComp (wThen wRng1 (aCons (aThen (g1 gLen) (aCons (eVar 1) aNil)) aNil)) (asgN 2) tYesM (eCall (lenD 2 d__law_same) (aCons (eBin gIx (eVar 0) (eVar 2)) (aCons (eBin gIx (eVar 1) (eVar 2)) aNil))) [2])) aNil))))
  sNext)
  (sSeq (eIf (eB (eMap (gIsi "str") (eVar 1)))
  (sRet (eAnd (eMap (gIsi "str") (eVar 0)) (eBin (gEq false) (eVar 0) (eVar 1))))
  sNext)
  (sRet (eAnd (eCall (lenD 1 d__law_is_int) (aCons (eVar 0) aNil)) (eBin (gEq false) (eVar 0) (eVar 1))))))
noncomputable def den__law_same (d__law_same : List D → M Rv) (d__law_is_int : List D → M Rv) : List D → M Rv := fun ds => noX (runB 3 (r__law_same d__law_same d__law_is_int) ds)
@[simp] theorem ixD0 {x : D} {xs : List D} {mu : List MO} : ixD (x :: xs) 0 mu = .ok x mu := ixD_at (by unfold atI ixN; simp)
@[simp] theorem ixD1 {a x : D} {xs : List D} {mu : List MO} : ixD (a :: x :: xs) 1 mu = .ok x mu := ixD_at (by unfold atI ixN; simp; rw [if_pos (by omega)]; rfl)
@[simp] theorem ixD2 {a b x : D} {xs : List D} {mu : List MO} : ixD (a :: b :: x :: xs) 2 mu = .ok x mu := ixD_at (by unfold atI ixN; simp; rw [if_pos (by omega)]; rfl)
@[simp] theorem ixD3 {a b c x : D} {xs : List D} {mu : List MO} : ixD (a :: b :: c :: x :: xs) 3 mu = .ok x mu := ixD_at (by unfold atI ixN; simp; rw [if_pos (by omega)]; rfl)
def st (cs : List Int) (a b c : Int) : MO := .lst [.fl (cs.map .int), .int a, .int b, .int c]
theorem atI_mod {cs : List Int} (h : 0 < cs.length) (a : Int) : ∃ v, atI (cs.map D.int) (a % (cs.length : Int)) = some (.int v) := by
  have h1 := Int.emod_nonneg a (b := (cs.length : Int)) (by omega)
  have h2 := Int.emod_lt_of_pos a (b := (cs.length : Int)) (by omega)
  unfold atI ixN
  rw [List.length_map, if_pos h1, if_pos h2]
  have hk : (a % (cs.length : Int)).toNat < cs.length := by omega
  exact ⟨cs[(a % (cs.length : Int)).toNat], by simp [hk]⟩
theorem draw_ok {s : Nat} {cs : List Int} {a b c most : Int} {mu : List MO} (h : mu[s]? = some (st cs a b c)) (hm : 0 < most) (hl : most.natAbs.log2 < 9000) :
    ∃ d a' b' c', den__law_draw [.ref s, .int most] mu = .ok (.vl (.int d)) (mu.set s (st cs a' b' c')) ∧ 0 ≤ d ∧ d < most := by
  have hs : s < mu.length := (List.getElem?_eq_some_iff.mp h).1
  unfold st at h
  have q : ∀ x : Int, 0 ≤ x % most ∧ x % most < most := fun x => ⟨Int.emod_nonneg x (by omega), Int.emod_lt_of_pos x hm⟩
  by_cases hb : 0 < b
  · refine ⟨b % most, a, b / most, c + 1, noX_ok ?_, (q b).1, (q b).2⟩
    have hset : ∀ x : MO, (mu.set s x)[s]? = some x := fun x => List.getElem?_set_self hs
    simp [r__law_draw, startE, h, hset, hb, hm, hl, st, ixN]
  · have hset : ∀ x : MO, (mu.set s x)[s]? = some x := fun x => List.getElem?_set_self hs
    have l97 : Nat.log2 97 < 9000 := by decide
    have l11 : Nat.log2 11 < 9000 := by decide
    have p18 : (10 : Int) ^ (18 : Int).toNat = 1000000000000000000 := by decide
    by_cases z : 0 < cs.length
    · obtain ⟨v, hv⟩ := atI_mod (cs := cs) z a
      generalize hcell : (if v < 0 then -v else v) = cell
      by_cases h18 : 1000000000000000000 ≤ cell
      · refine ⟨cell % most, a + 1, cell / most, c + 1, noX_ok ?_, (q cell).1, (q cell).2⟩
        simp [r__law_draw, startE, h, hset, hb, hm, hl, st, ixN, z, ixD_at hv, hcell, h18, l97, l11]
      · refine ⟨(((((cell + 1) * 48271 + (c + 1) * 69621) % 2147483647 * 16807 + cell / 97 + (c + 1)) % 2147483629) / 11) % most, a + 1, b, c + 1, noX_ok ?_, (q _).1, (q _).2⟩
        simp [r__law_draw, startE, h, hset, hb, hm, hl, st, ixN, z, ixD_at hv, hcell, h18, l97, l11]
    · refine ⟨(((((0 + 1) * 48271 + (c + 1) * 69621) % 2147483647 * 16807 + 0 / 97 + (c + 1)) % 2147483629) / 11) % most, a + 1, b, c + 1, noX_ok ?_, (q _).1, (q _).2⟩
      simp [r__law_draw, startE, h, hset, hb, hm, hl, st, ixN, z, l97, l11]
end MP
namespace MP
open PySem L2 PyProof.Rows
/-! ### what the shared words answer -/
theorem start_ok {cs : List Int} {mu : List MO} (h : cs.length ≤ 63) : den__law_start [.ro (cs.map .int)] mu = .ok (.fr [.fl (cs.map .int), .int 0, .int 0, .int 0]) mu := by
  refine noX_ok ?_
  have e : (4 : Nat) ≤ sizeLine := by decide
  simp [r__law_start, startE, e]
/-- the state's place -/
def At (s : Nat) (cs : List Int) (mu : List MO) : Prop := ∃ a b c, mu[s]? = some (st cs a b c)
/-- the state moved on, nothing else -/
def Nx (s : Nat) (cs : List Int) (mu mu' : List MO) : Prop := ∃ a b c, mu' = mu.set s (st cs a b c)
theorem At.lt {s : Nat} {cs : List Int} {mu : List MO} (h : At s cs mu) : s < mu.length := by
  obtain ⟨a, b, c, h⟩ := h
  exact (List.getElem?_eq_some_iff.mp h).1
theorem Nx.at_ {s : Nat} {cs : List Int} {mu mu' : List MO} (h : At s cs mu) (n : Nx s cs mu mu') : At s cs mu' := by
  obtain ⟨a, b, c, e⟩ := n
  exact ⟨a, b, c, by rw [e, List.getElem?_set_self h.lt]⟩
theorem Nx.trans {s : Nat} {cs : List Int} {mu mu1 mu2 : List MO} (n : Nx s cs mu mu1) (n' : Nx s cs mu1 mu2) : Nx s cs mu mu2 := by
  obtain ⟨a, b, c, e⟩ := n
  obtain ⟨a', b', c', e'⟩ := n'
  exact ⟨a', b', c', by rw [e', e, List.set_set]⟩
theorem Nx.refl {s : Nat} {cs : List Int} {mu : List MO} (h : At s cs mu) : Nx s cs mu mu := by
  obtain ⟨a, b, c, h⟩ := h
  refine ⟨a, b, c, ?_⟩
  apply List.ext_getElem?
  intro i
  by_cases e : s = i
  · subst e; rw [List.getElem?_set_self (List.getElem?_eq_some_iff.mp h).1]; exact h
  · rw [List.getElem?_set_ne e]
theorem draw_at {s : Nat} {cs : List Int} {most : Int} {mu : List MO} (h : At s cs mu) (hm : 0 < most) (hl : most.natAbs.log2 < 9000) : ∃ d mu', den__law_draw [.ref s, .int most] mu = .ok (.vl (.int d)) mu' ∧ Nx s cs mu mu' ∧ 0 ≤ d ∧ d < most := by
  obtain ⟨a, b, c, h⟩ := h
  obtain ⟨d, a', b', c', e, h1, h2⟩ := draw_ok h hm hl
  exact ⟨d, _, e, ⟨a', b', c', rfl⟩, h1, h2⟩
theorem atI_of {xs : List D} {i : Int} (h0 : 0 ≤ i) (h1 : i < xs.length) : ∃ x, x ∈ xs ∧ atI xs i = some x := by
  have hk : i.toNat < xs.length := by omega
  refine ⟨xs[i.toNat], List.getElem_mem hk, ?_⟩
  unfold atI ixN
  rw [if_pos h0, if_pos h1]
  exact List.getElem?_eq_getElem hk
theorem log2_small {n : Nat} (h : n < 2 ^ 64) : n.log2 < 9000 := by
  rcases Nat.eq_zero_or_pos n with e | e
  · subst e; decide
  · have := (Nat.log2_lt (by omega)).mpr h
    omega
theorem one_of_at {s : Nat} {cs : List Int} {xs : List D} {mu : List MO} (h : At s cs mu) (h0 : 0 < xs.length) (h1 : xs.length < 1000) : ∃ x mu', den__law_one_of den__law_draw [.ref s, .fl xs] mu = .ok (.vl x) mu' ∧ Nx s cs mu mu' ∧ x ∈ xs := by
  obtain ⟨d, mu', e, n, d0, d1⟩ := draw_at (most := (xs.length : Int)) h (by omega) (log2_small (by simp; omega))
  obtain ⟨x, hx, ex⟩ := atI_of d0 d1
  refine ⟨x, mu', noX_ok ?_, n, hx⟩
  simp [r__law_one_of, startE, e, ixD_at ex]
/-! same -/
theorem fn_bad {P : Program} {w : World} {K : PySem.W.Frag} {mg : Str → Option Value} {base : Heap} {CX : CXT} {k n : Nat} {f : Addr} {fd : FuncData} {ps : List Str} : FnOk P w K mg base CX k f fd ps (sp K mg n fun _ _ => .bad) := by
  have no : ∀ vs H Q E, ¬ sp K mg n (fun _ _ => .bad) vs H Q E := fun vs H Q E h => by
    obtain ⟨_, _, _, _, _, _, h⟩ := h
    exact h
  exact ⟨fun vs H Q E h => absurd h (no vs H Q E), fun A outer s H args us vs Q E _ _ _ _ h => absurd h (no vs H Q E)⟩
noncomputable def sameL : Nat → List D → M Rv
  | 0 => fun _ _ => .bad
  | n + 1 => den__law_same (sameL n) den__law_is_int
mutual
/-- data of tuples, texts and ints, less deep than n -/
def plainD : Nat → D → Bool
  | _ + 1, .int _ => true
  | _ + 1, .str _ => true
  | n + 1, .tup xs => decide (xs.length ≤ 1000) && plainDs n xs
  | _, _ => false
def plainDs : Nat → List D → Bool
  | _, [] => true
  | n, x :: xs => plainD n x && plainDs n xs
end
theorem plainDs_mem {n : Nat} : ∀ {xs : List D}, plainDs n xs = true → ∀ x ∈ xs, plainD n x = true
  | [], _, x, hx => by simp at hx
  | y :: ys, h, x, hx => by
    rw [plainDs, Bool.and_eq_true] at h
    rcases List.mem_cons.mp hx with e | e
    · rw [e]; exact h.1
    · exact plainDs_mem h.2 x e
theorem is_int_int {i : Int} {mu : List MO} : den__law_is_int [.int i] mu = .ok (.vl (.bl true)) mu := by
  refine noX_ok ?_
  simp [r__law_is_int, startE, isiB]
theorem gEq_int {i : Int} {mu : List MO} : gEq false (.int i) (.int i) mu = .ok (.bl true) mu := by
  unfold gEq
  simp [okE, dep, eqD]
theorem gEq_str {i : Str} {mu : List MO} : gEq false (.str i) (.str i) mu = .ok (.bl true) mu := by
  unfold gEq
  simp [okE, dep, eqD]
theorem gEq_ints {neg : Bool} {i j : Int} {mu : List MO} : gEq neg (.int i) (.int j) mu = .ok (.bl ((i == j) != neg)) mu := by
  unfold gEq
  simp [okE, dep, eqD]
theorem toBs_true {xs : List D} {mu : List MO} : toBs (xs.map fun _ => D.bl true) mu = .ok (xs.map fun _ => true) mu := by
  induction xs with
  | nil => rfl
  | cons x xs ih =>
    show ((toB (.bl true) : M Bool) >>= fun b => toBs (xs.map fun _ => D.bl true) >>= fun bs => pure (b :: bs)) mu = _
    simp [ih]
theorem sameL_eq {n : Nat} {ds : List D} : sameL (n + 1) ds = noX (runB 3 (r__law_same (sameL n) den__law_is_int) ds) := rfl
theorem same_ok : ∀ (n : Nat) (d : D) (mu : List MO), plainD n d = true → sameL (n + 1) [d, d] mu = .ok (.vl (.bl true)) mu
  | 0, d, mu, h => by cases d <;> simp [plainD] at h
  | n + 1, .int i, mu, _ => by
    rw [sameL_eq]
    refine noX_ok ?_
    simp [r__law_same, startE, isiB, is_int_int, gEq_int]
  | n + 1, .str i, mu, _ => by
    rw [sameL_eq]
    refine noX_ok ?_
    simp [r__law_same, startE, isiB, gEq_str]
  | n + 1, .tup xs, mu, h => by
    have h' : (decide (xs.length ≤ 1000) && plainDs n xs) = true := h
    rw [Bool.and_eq_true, decide_eq_true_eq] at h'
    have hp := plainDs_mem h'.2
    have hz : (xs.length : Int) ≤ 16777216 := by have := h'.1; omega
    rw [sameL_eq]
    refine noX_ok ?_
    have hc : loopC (asgN 2) tYesM (eCall (lenD 2 (sameL (n + 1))) (aCons (eBin gIx (eVar 0) (eVar 2)) (aCons (eBin gIx (eVar 1) (eVar 2)) aNil))) [] (rngD 0 xs.length) [some (D.tup xs), some (D.tup xs), none] mu = .ok ((rngD 0 xs.length).map fun _ => D.bl true) mu := by
      refine loopC_map fun d hd => ?_
      obtain ⟨i, hi, e⟩ := List.mem_map.mp (show d ∈ (List.range xs.length).map fun (i : Nat) => D.int (0 + (i : Int)) from hd)
      subst e
      have hi := List.mem_range.mp hi
      obtain ⟨x, hx, ex⟩ := atI_of (xs := xs) (i := (i : Int)) (by omega) (by omega)
      have ih := same_ok n x mu (hp x hx)
      refine ⟨_, rfl, rfl, ?_⟩
      simp [ixD_at ex, ih]
    simp [r__law_same, startE, isiB, gEq_ints, wRng1, hc, noX_ok hc, gAll, toBs_true, hz]
end MP
namespace MP
open PySem L2 PyProof.Rows
/-! ### forms.form -/
/-- names: 0 constant, 1 pairs, 2 sums, 3 name, 4 coefficient -/
noncomputable def r_form : MP.Env → M Fl :=
  (sSeq (sSet 2 eNewD)
  (sSeq (sFor (eWalk (eVar 1)) (asgT 2 (asgCons (asgN 3) (asgCons (asgN 4) asgNil)))
  (sDput (eVar 2) (eVar 3) (eBin gAdd (eGet2 (eVar 2) (eVar 3) (eC (.int 0))) (eVar 4))) [3, 4])
  (sRet (aThen gTup (aCons (eVar 0) (aCons (aThen (g1 gTuple) (aCons (eFl (fComp (eWalk (eFl (fSrtD (eVar 2)))) (asgN 3) (eB (eBin (gEq true) (eBin gDget (eVar 2) (eVar 3)) (eC (.int 0)))) (aThen gTup (aCons (eVar 3) (aCons (eBin gDget (eVar 2) (eVar 3)) aNil))) [3])) aNil)) aNil))))))
noncomputable def den_form : List D → M Rv := fun ds => noX (runB 5 (r_form) ds)
/-! dicts, plainly -/
def valG {β : Type} (kvs : List (Key × β)) (k : Key) : Option β := (kvs.find? fun kv => decide (kv.1 = k)).map (·.2)
section
variable {β : Type} {kvs r : List (Key × β)} {k j : Key} {y : β} {p : Key × β}
theorem valG_pos (e : p.1 = k) : valG (p :: r) k = some p.2 := by simp [valG, List.find?_cons, e]
theorem valG_neg (e : ¬ p.1 = k) : valG (p :: r) k = valG r k := by simp [valG, List.find?_cons, e]
theorem valG_any : ∀ kvs : List (Key × β), (kvs.any fun kv => decide (kv.1 = k)) = (valG kvs k).isSome
  | [] => rfl
  | p :: r => by
    rw [List.any_cons]
    by_cases e : p.1 = k
    · rw [valG_pos e, decide_eq_true e]; rfl
    · rw [valG_neg e, decide_eq_false e, Bool.false_or]; exact valG_any r
theorem valG_map : ∀ kvs : List (Key × β), valG (mapV kvs k y) j = (valG kvs j).map fun x => if j = k then y else x
  | [] => rfl
  | p :: r => by
    have ih := valG_map r
    unfold mapV at ih ⊢
    rw [List.map_cons]
    by_cases h : p.1 = j
    · rw [valG_pos (p := p) h]
      by_cases h2 : p.1 = k
      · rw [if_pos h2, valG_pos (p := (p.1, y)) h, Option.map_some, if_pos (h.symm.trans h2)]
      · rw [if_neg h2, valG_pos h, Option.map_some, if_neg (fun e => h2 (h.trans e))]
    · rw [valG_neg (p := p) h, ← ih]
      by_cases h2 : p.1 = k
      · rw [if_pos h2, valG_neg (p := (p.1, y)) h]
      · rw [if_neg h2, valG_neg h]
theorem valG_snoc : ∀ kvs : List (Key × β), valG kvs k = none → valG (kvs ++ [(k, y)]) j = if j = k then some y else valG kvs j
  | [], _ => by
    by_cases e : k = j
    · rw [if_pos e.symm]; exact valG_pos (p := (k, y)) e
    · rw [if_neg (fun z => e z.symm)]; exact valG_neg (p := (k, y)) e
  | p :: r, hn => by
    rw [List.cons_append]
    by_cases h : p.1 = k
    · rw [valG_pos h] at hn; cases hn
    · rw [valG_neg h] at hn
      have ih := valG_snoc r hn
      by_cases h2 : p.1 = j
      · rw [valG_pos h2, valG_pos h2, if_neg (fun e => h (h2.trans e))]
      · rw [valG_neg h2, valG_neg h2, ih]
theorem valG_put : valG (putD kvs k y) j = if j = k then some y else valG kvs j := by
  unfold putD
  by_cases a : (kvs.any fun kv => decide (kv.1 = k)) = true
  · rw [if_pos a, valG_map]
    rw [valG_any] at a
    by_cases e : j = k
    · obtain ⟨x, hx⟩ := Option.isSome_iff_exists.mp a
      subst e
      rw [hx, Option.map_some, if_pos rfl, if_pos rfl]
    · rw [if_neg e]
      cases valG kvs j with
      | none => rfl
      | some x => rw [Option.map_some, if_neg e]
  · rw [if_neg a]
    rw [valG_any] at a
    exact valG_snoc kvs (by cases h : valG kvs k with | none => rfl | some x => rw [h] at a; exact absurd rfl a)
theorem valG_mem : k ∈ kvs.map (·.1) ↔ (valG kvs k).isSome = true := by
  rw [← valG_any, List.any_eq_true, List.mem_map]
  constructor
  · rintro ⟨p, hp, e⟩; exact ⟨p, hp, decide_eq_true e⟩
  · rintro ⟨p, hp, e⟩; exact ⟨p, hp, of_decide_eq_true e⟩
theorem keys_put_in (h : k ∈ kvs.map (·.1)) : (putD kvs k y).map (·.1) = kvs.map (·.1) := by
  unfold putD
  rw [if_pos (by rw [valG_any]; exact valG_mem.mp h), mapV_keys]
theorem keys_put_new (h : ¬ k ∈ kvs.map (·.1)) : (putD kvs k y).map (·.1) = kvs.map (·.1) ++ [k] := by
  unfold putD
  rw [if_neg (fun a => h (valG_mem.mpr (by rw [← valG_any]; exact a))), List.map_append]; rfl
theorem length_put : (putD kvs k y).length ≤ kvs.length + 1 := by
  unfold putD
  split
  · unfold mapV; rw [List.length_map]; omega
  · simp
end
def toKD (l : List (Key × Int)) : List (Key × D) := l.map fun p => (p.1, .int p.2)
theorem toKD_keys {l : List (Key × Int)} : (toKD l).map (·.1) = l.map (·.1) := by unfold toKD; rw [List.map_map]; rfl
theorem toKD_val {l : List (Key × Int)} {k : Key} : valD (toKD l) k = (valG l k).map .int := by
  induction l with
  | nil => rfl
  | cons p r ih =>
    have e : valD (toKD (p :: r)) k = valG ((p.1, D.int p.2) :: toKD r) k := rfl
    rw [e]
    by_cases h : p.1 = k
    · rw [valG_pos (p := (p.1, D.int p.2)) h, valG_pos h]; rfl
    · rw [valG_neg (p := (p.1, D.int p.2)) h, valG_neg h]; exact ih
theorem toKD_put {l : List (Key × Int)} {k : Key} {i : Int} : putD (toKD l) k (.int i) = toKD (putD l k i) := by
  unfold putD
  have e : ((toKD l).any fun kv => decide (kv.1 = k)) = l.any fun kv => decide (kv.1 = k) := by unfold toKD; rw [List.any_map]; rfl
  rw [e]
  split
  · unfold mapV toKD
    rw [List.map_map, List.map_map]
    apply List.map_congr_left
    intro p _
    show (if p.1 = k then (p.1, D.int i) else (p.1, D.int p.2)) = ((if p.1 = k then (p.1, i) else p).1, D.int (if p.1 = k then (p.1, i) else p).2)
    split <;> rfl
  · unfold toKD; rw [List.map_append]; rfl
/-! the sums -/
def pairD (p : Str × Int) : D := .tup [.str p.1, .int p.2]
def sums : List (Key × Int) → List (Str × Int) → List (Key × Int)
  | l, [] => l
  | l, p :: r => sums (putD l (.inr p.1) ((valG l (.inr p.1)).getD 0 + p.2)) r
theorem sums_length : ∀ (ps : List (Str × Int)) (l : List (Key × Int)), (sums l ps).length ≤ l.length + ps.length
  | [], l => by unfold sums; simp
  | p :: r, l => by
    unfold sums
    have := sums_length r (putD l (.inr p.1) ((valG l (.inr p.1)).getD 0 + p.2))
    have h2 := length_put (kvs := l) (k := .inr p.1) (y := (valG l (.inr p.1)).getD 0 + p.2)
    rw [List.length_cons]
    omega
theorem form_loop {c d : D} {n : Nat} : ∀ (ps : List (Str × Int)) (l : List (Key × Int)) (mu : List MO) (o3 o4 : Option D), mu[n]? = some (.dk (toKD l)) → l.length + ps.length < sizeLine →
    loopF (asgT 2 (asgCons (asgN 3) (asgCons (asgN 4) asgNil))) (sDput (eVar 2) (eVar 3) (eBin gAdd (eGet2 (eVar 2) (eVar 3) (eC (.int 0))) (eVar 4))) [3, 4] [] (ps.map pairD) [some c, some d, some (.ref n), o3, o4] mu =
      .ok (.nx [some c, some d, some (.ref n), none, none]) (mu.set n (.dk (toKD (sums l ps))))
  | [], l, mu, _, _, h, _ => by
    rw [List.map_nil, loopF_nil]
    have e : mu.set n (.dk (toKD (sums l []))) = mu := by
      apply List.ext_getElem?
      intro i
      by_cases e : n = i
      · subst e; rw [List.getElem?_set_self (List.getElem?_eq_some_iff.mp h).1]; exact h.symm
      · rw [List.getElem?_set_ne e]
    rw [e]; rfl
  | p :: r, l, mu, _, _, h, hl => by
    have hn : n < mu.length := (List.getElem?_eq_some_iff.mp h).1
    have hset : ∀ x : MO, (mu.set n x)[n]? = some x := fun x => List.getElem?_set_self hn
    have hl' : (toKD l).length < sizeLine := by unfold toKD; rw [List.length_map]; rw [List.length_cons] at hl; omega
    have ih := form_loop (c := c) (d := d) (n := n) r (putD l (.inr p.1) ((valG l (.inr p.1)).getD 0 + p.2)) (mu.set n (.dk (toKD (putD l (.inr p.1) ((valG l (.inr p.1)).getD 0 + p.2))))) (some (.str p.1)) (some (.int p.2)) (hset _) (by
      have := length_put (kvs := l) (k := .inr p.1) (y := (valG l (.inr p.1)).getD 0 + p.2)
      rw [List.length_cons] at hl; omega)
    rw [List.set_set] at ih
    rw [List.map_cons, loopF_cons]
    have hv : ((Option.map D.int (valG l (.inr p.1))).getD (D.int 0)) = D.int ((valG l (.inr p.1)).getD 0) := by cases valG l (.inr p.1) <;> rfl
    have hput : putM (.ref n) (.str p.1) (.int ((valG l (.inr p.1)).getD 0 + p.2)) mu = .ok .non (mu.set n (.dk (toKD (putD l (.inr p.1) ((valG l (.inr p.1)).getD 0 + p.2))))) := by
      rw [putM_at (k := .inr p.1) rfl h hl', toKD_put]
    simp [pairD, h, toKD_val, hv, hput]
    exact ih
end MP
namespace MP
open PySem L2 PyProof.Rows
section
variable {γ : Type} {asg : D → Env → M Env} {t : Env → M Bool} {r : Env → M D} {env : Env} {mu : List MO}
theorem loopC_filter' {g f : γ → D} {p : γ → Bool} : ∀ {xs : List γ}, (∀ x ∈ xs, ∃ env1, asg (g x) env mu = .ok env1 mu ∧ t env1 mu = .ok (p x) mu ∧ (p x = true → r env1 mu = .ok (f x) mu)) → loopC asg t r [] (xs.map g) env mu = .ok ((xs.filter p).map f) mu
  | [], _ => loopC_nil
  | x :: xs, h => by
    obtain ⟨env1, h1, h2, h3⟩ := h x (by simp)
    have ih := loopC_filter' (xs := xs) fun e he => h e (by simp [he])
    rw [List.map_cons]
    cases hp : p x with
    | true =>
      rw [List.filter_cons_of_pos hp, List.map_cons]
      exact loopC_yes h1 (by rw [h2, hp]) (h3 hp) ih
    | false =>
      rw [List.filter_cons_of_neg (by rw [hp]; decide)]
      exact loopC_no h1 (by rw [h2, hp]) ih
theorem loopC_map' {g f : γ → D} : ∀ {xs : List γ}, (∀ x ∈ xs, ∃ env1, asg (g x) env mu = .ok env1 mu ∧ t env1 mu = .ok true mu ∧ r env1 mu = .ok (f x) mu) → loopC asg t r [] (xs.map g) env mu = .ok (xs.map f) mu
  | [], _ => loopC_nil
  | x :: xs, h => by
    obtain ⟨env1, h1, h2, h3⟩ := h x (by simp)
    rw [List.map_cons, List.map_cons]
    exact loopC_yes h1 h2 h3 (loopC_map' (xs := xs) fun e he => h e (by simp [he]))
end
theorem keyStrs_map : ∀ (ns : List Str), keyStrs (ns.map Sum.inr) = some ns
  | [] => rfl
  | n :: ns => by
    show (keyStrs (ns.map Sum.inr)).map (n :: ·) = _
    rw [keyStrs_map ns]; rfl
theorem sums_keys : ∀ (ps : List (Str × Int)) (l : List (Key × Int)) (ns : List Str), l.map (·.1) = ns.map Sum.inr → ns.Nodup → ∃ ns' : List Str, (sums l ps).map (·.1) = ns'.map Sum.inr ∧ ns'.Nodup ∧ ∀ n, n ∈ ns' ↔ n ∈ ns ∨ n ∈ ps.map (·.1)
  | [], l, ns, h, hn => ⟨ns, h, hn, fun n => by simp⟩
  | p :: r, l, ns, h, hn => by
    unfold sums
    by_cases hp : p.1 ∈ ns
    · obtain ⟨ns', h1, h2, h3⟩ := sums_keys r (putD l (.inr p.1) ((valG l (.inr p.1)).getD 0 + p.2)) ns (by rw [keys_put_in (by rw [h]; exact List.mem_map.mpr ⟨_, hp, rfl⟩), h]) hn
      refine ⟨ns', h1, h2, fun n => ?_⟩
      rw [h3, List.map_cons, List.mem_cons]
      constructor
      · rintro (z | z)
        · exact .inl z
        · exact .inr (.inr z)
      · rintro (z | z | z)
        · exact .inl z
        · rw [z]; exact .inl hp
        · exact .inr z
    · have hk : ¬ (Sum.inr p.1 : Key) ∈ l.map (·.1) := by
        rw [h]
        intro z
        obtain ⟨q, hq, e⟩ := List.mem_map.mp z
        cases e
        exact hp hq
      obtain ⟨ns', h1, h2, h3⟩ := sums_keys r (putD l (.inr p.1) ((valG l (.inr p.1)).getD 0 + p.2)) (ns ++ [p.1]) (by rw [keys_put_new hk, h, List.map_append]; rfl) (by
        rw [List.nodup_append]
        exact ⟨hn, by simp, fun x hx y hy e => by rw [List.mem_singleton.mp hy] at e; rw [e] at hx; exact hp hx⟩)
      refine ⟨ns', h1, h2, fun n => ?_⟩
      rw [h3, List.map_cons, List.mem_cons, List.mem_append, List.mem_singleton]
      constructor
      · rintro ((z | z) | z)
        · exact .inl z
        · exact .inr (.inl z)
        · exact .inr (.inr z)
      · rintro (z | z | z)
        · exact .inl (.inl z)
        · exact .inl (.inr z)
        · exact .inr z
def nms (ps : List (Str × Int)) : List Str := (keyStrs ((sums [] ps).map (·.1))).getD []
def valOf (ps : List (Str × Int)) (s : Str) : Int := (valG (sums [] ps) (.inr s)).getD 0
theorem nms_spec (ps : List (Str × Int)) : (sums [] ps).map (·.1) = (nms ps).map Sum.inr ∧ (nms ps).Nodup ∧ ∀ n, n ∈ nms ps ↔ n ∈ ps.map (·.1) := by
  obtain ⟨ns, h1, h2, h3⟩ := sums_keys ps [] [] rfl List.nodup_nil
  have e : nms ps = ns := by unfold nms; rw [h1, keyStrs_map]; rfl
  rw [e]
  exact ⟨h1, h2, fun n => by rw [h3]; simp⟩
/-- the form's pairs: sums by name, in order, no nothing -/
def canon (ps : List (Str × Int)) : List (Str × Int) := ((srtS (nms ps)).filter fun s => !(valOf ps s == 0)).map fun s => (s, valOf ps s)
def formD (c : D) (ps : List (Str × Int)) : D := .tup [c, .tup ((canon ps).map pairD)]
theorem srtS_mem {xs : List Str} {x : Str} : x ∈ srtS xs ↔ x ∈ xs := (List.mergeSort_perm xs leS).mem_iff
theorem srtS_len {xs : List Str} : (srtS xs).length = xs.length := (List.mergeSort_perm xs leS).length_eq
theorem nms_len (ps : List (Str × Int)) : (nms ps).length ≤ ps.length := by
  have h := congrArg List.length (nms_spec ps).1
  rw [List.length_map, List.length_map] at h
  have := sums_length ps []
  simp at this
  omega
theorem canon_len (ps : List (Str × Int)) : (canon ps).length ≤ ps.length := by
  unfold canon
  rw [List.length_map]
  have h1 := List.length_filter_le (fun s => !(valOf ps s == 0)) (srtS (nms ps))
  rw [srtS_len] at h1
  have := nms_len ps
  omega
theorem gEq_zero {neg : Bool} {i : Int} {mu : List MO} : gEq neg (.int i) (.int 0) mu = .ok (.bl ((i == 0) != neg)) mu := gEq_ints
theorem srtK_ok {ks : List Key} {ns : List Str} {mu : List MO} (h : ks = ns.map Sum.inr) (hl : ns.length < 64) : srtK ks mu = .ok ((srtS ns).map D.str) mu := by
  unfold srtK
  rw [h, bind_ap, need_ap, if_pos (by rw [List.length_map]; exact hl), keyStrs_map]
  rfl
theorem form_ok {c d : D} {ps : List (Str × Int)} {mu : List MO} (hd : ∀ mu, walkD d mu = .ok (ps.map pairD, []) mu) (hl : ps.length < 64) :
    den_form [c, d] mu = .ok (.vl (formD c ps)) (mu ++ [MO.dk (toKD (sums [] ps))]) := by
  obtain ⟨hk, hnd, hmem⟩ := nms_spec ps
  have hsz : (64 : Nat) ≤ sizeLine := by decide
  have hset : ∀ y : MO, (mu ++ [MO.dk (toKD [])]).set mu.length y = mu ++ [y] := fun y => by simp [List.set_append]
  have h1 := form_loop (c := c) (d := d) (n := mu.length) ps [] (mu ++ [MO.dk (toKD [])]) none none (by simp) (by simp; omega)
  rw [hset] at h1
  have h0 : (mu ++ [MO.dk (toKD (sums [] ps))])[mu.length]? = some (.dk (toKD (sums [] ps))) := by simp
  have h2 := srtK_ok (mu := mu ++ [MO.dk (toKD (sums [] ps))]) (show (toKD (sums [] ps)).map (·.1) = (nms ps).map Sum.inr by rw [toKD_keys]; exact hk) (by have := nms_len ps; omega)
  have hgd : ∀ s ∈ srtS (nms ps), gDget (.ref mu.length) (.str s) (mu ++ [MO.dk (toKD (sums [] ps))]) = .ok (.int (valOf ps s)) (mu ++ [MO.dk (toKD (sums [] ps))]) := fun s hs => by
    have hin : (valG (sums [] ps) (.inr s)).isSome = true := valG_mem.mp (by rw [hk]; exact List.mem_map.mpr ⟨s, srtS_mem.mp hs, rfl⟩)
    obtain ⟨v, hv⟩ := Option.isSome_iff_exists.mp hin
    unfold gDget valOf
    simp [h0, toKD_val, hv]
  have h3 : loopC (asgN 3) (eB (eBin (gEq true) (eBin gDget (eVar 2) (eVar 3)) (eC (.int 0)))) (aThen gTup (aCons (eVar 3) (aCons (eBin gDget (eVar 2) (eVar 3)) aNil))) [] ((srtS (nms ps)).map D.str) [some c, some d, some (.ref mu.length), none, none] (mu ++ [MO.dk (toKD (sums [] ps))]) =
      .ok (((srtS (nms ps)).filter fun s => !(valOf ps s == 0)).map fun s => pairD (s, valOf ps s)) (mu ++ [MO.dk (toKD (sums [] ps))]) := by
    refine loopC_filter' fun s hs => ⟨_, rfl, ?_, fun _ => ?_⟩
    · simp [hgd s hs, gEq_zero]
    · have e2 : (2 : Nat) ≤ sizeLine := by decide
      simp [hgd s hs, gTup_ok, e2, pairD]
  refine noX_ok ?_
  have e2 : (2 : Nat) ≤ sizeLine := by decide
  have ek : toKD [] = [] := rfl
  rw [ek] at h1
  simp [r_form, startE, hd, h1, h0, h2, noX_ok h3, gTup_ok, e2]
  simp [formD, canon, Function.comp_def]
end MP
namespace MP
open PySem L2 PyProof.Rows
theorem ltS_iff {x y : Str} : ltS x y = true ↔ x.cps.toList < y.cps.toList := by unfold ltS; exact decide_eq_true_iff
theorem ltS_le {x y : Str} (h : ltS x y = true) : leS x y = true := leS_iff.mpr (List.le_of_lt (ltS_iff.mp h))
theorem ltS_irr {x : Str} : ltS x x = false := by
  cases h : ltS x x with
  | false => rfl
  | true => exact absurd (ltS_iff.mp h) (List.lt_irrefl _)
theorem ltS_of {x y : Str} (h : leS x y = true) (hn : x ≠ y) : ltS x y = true := by
  cases hl : ltS x y with
  | true => rfl
  | false =>
    have h2 : leS y x = true := by
      unfold leS
      rw [ltCps_eq]
      have : ¬ x.cps.toList < y.cps.toList := fun z => by rw [ltS_iff.mpr z] at hl; cases hl
      rw [decide_eq_false this]; rfl
    exact absurd (leS_anti h h2) hn
theorem sums_val (s : Str) : ∀ (ps : List (Str × Int)) (l : List (Key × Int)), (valG (sums l ps) (.inr s)).getD 0 = (valG l (.inr s)).getD 0 + ((ps.filter fun p => p.1 == s).map (·.2)).sum
  | [], l => by unfold sums; simp
  | p :: r, l => by
    unfold sums
    rw [sums_val s r, valG_put]
    by_cases e : s = p.1
    · subst e
      rw [if_pos rfl, List.filter_cons_of_pos (by simp), List.map_cons, List.sum_cons]
      show (valG l (.inr p.1)).getD 0 + p.2 + _ = _
      omega
    · rw [if_neg (fun z => e (Sum.inr.inj z)), List.filter_cons_of_neg (by simp; exact fun z => e z.symm)]
theorem valOf_eq (ps : List (Str × Int)) (s : Str) : valOf ps s = ((ps.filter fun p => p.1 == s).map (·.2)).sum := by
  unfold valOf
  rw [sums_val]
  show (0 : Int) + _ = _
  omega
/-- names rising, nothing without a number -/
structure Canon (qs : List (Str × Int)) : Prop where
  up : qs.Pairwise fun p q => ltS p.1 q.1 = true
  nz : ∀ p ∈ qs, p.2 ≠ 0
theorem srtS_pw {xs : List Str} (h : xs.Nodup) : (srtS xs).Pairwise fun a b => ltS a b = true := by
  have h1 := List.pairwise_mergeSort leS_trans leS_total xs
  have h2 : (srtS xs).Nodup := (List.mergeSort_perm xs leS).nodup_iff.mpr h
  exact (h1.and h2).imp fun ⟨a, b⟩ => ltS_of a b
theorem canon_canon (ps : List (Str × Int)) : Canon (canon ps) := by
  refine ⟨?_, fun p hp => ?_⟩
  · unfold canon
    rw [List.pairwise_map]
    exact (srtS_pw (nms_spec ps).2.1).filter _
  · unfold canon at hp
    obtain ⟨s, hs, e⟩ := List.mem_map.mp hp
    subst e
    have := (List.mem_filter.mp hs).2
    simpa using this
theorem canon_names {ps : List (Str × Int)} {p : Str × Int} (h : p ∈ canon ps) : p.1 ∈ ps.map (·.1) := by
  unfold canon at h
  obtain ⟨s, hs, e⟩ := List.mem_map.mp h
  subst e
  exact ((nms_spec ps).2.2 _).mp (srtS_mem.mp (List.mem_filter.mp hs).1)
theorem Canon.nodup {qs : List (Str × Int)} (h : Canon qs) : (qs.map (·.1)).Nodup := by
  rw [List.nodup_iff_pairwise_ne, List.pairwise_map]
  exact h.up.imp fun {a b} z e => by rw [e, ltS_irr] at z; cases z
theorem Canon.val {qs : List (Str × Int)} (h : Canon qs) : ∀ p ∈ qs, valOf qs p.1 = p.2 := fun p hp => by
  rw [valOf_eq]
  have hn := h.nodup
  clear h
  induction qs with
  | nil => simp at hp
  | cons q r ih =>
    rw [List.map_cons, List.nodup_cons] at hn
    rcases List.mem_cons.mp hp with e | e
    · subst e
      rw [List.filter_cons_of_pos (by simp), List.map_cons, List.sum_cons]
      have z : (r.filter fun q => q.1 == p.1) = [] := by
        rw [List.filter_eq_nil_iff]
        intro q hq e
        exact hn.1 (List.mem_map.mpr ⟨q, hq, by simpa using e⟩)
      rw [z]; simp
    · have hne : ¬ q.1 = p.1 := fun z => hn.1 (List.mem_map.mpr ⟨p, e, z.symm⟩)
      rw [List.filter_cons_of_neg (by simpa using hne)]
      exact ih e hn.2
theorem canon_id {qs : List (Str × Int)} (h : Canon qs) : canon qs = qs := by
  obtain ⟨h1, h2, h3⟩ := nms_spec qs
  have hperm : (nms qs).Perm (qs.map (·.1)) := (List.perm_ext_iff_of_nodup h2 h.nodup).mpr h3
  have hs : srtS (nms qs) = qs.map (·.1) := by
    refine List.Perm.eq_of_pairwise (le := fun a b => leS a b = true) (fun a b _ _ x y => leS_anti x y) (List.pairwise_mergeSort leS_trans leS_total _) ?_ ((List.mergeSort_perm _ leS).trans hperm)
    rw [List.pairwise_map]
    exact h.up.imp fun z => ltS_le z
  unfold canon
  rw [hs, List.filter_map, List.map_map]
  have hf : qs.filter ((fun s => !(valOf qs s == 0)) ∘ fun p => p.1) = qs := by
    rw [List.filter_eq_self]
    intro p hp
    show (!(valOf qs p.1 == 0)) = true
    rw [h.val p hp]
    have := h.nz p hp
    simpa using this
  rw [hf]
  conv => rhs; rw [← List.map_id qs]
  apply List.map_congr_left
  intro p hp
  show (p.1, valOf qs p.1) = p
  rw [h.val p hp]
theorem cps_append (x y : Str) : (x ++ y).cps.toList = x.cps.toList ++ y.cps.toList := by
  show (x.cps ++ y.cps).toList = _
  simp
theorem lt_append (m : List Nat) : ∀ (a b : List Nat), m ++ a < m ++ b ↔ a < b := by
  induction m with
  | nil => intro a b; rfl
  | cons x m ih =>
    intro a b
    rw [List.cons_append, List.cons_append, List.cons_lt_cons_iff]
    constructor
    · rintro (h | ⟨_, h⟩)
      · exact absurd h (Nat.lt_irrefl _)
      · exact (ih a b).mp h
    · intro h; exact .inr ⟨rfl, (ih a b).mpr h⟩
theorem ltS_append {m x y : Str} : ltS (m ++ x) (m ++ y) = ltS x y := by
  unfold ltS
  rw [cps_append, cps_append]
  exact decide_eq_decide.mpr (lt_append _ _ _)
/-- each name with a mark ahead -/
def marked (m : Str) (qs : List (Str × Int)) : List (Str × Int) := qs.map fun p => (m ++ p.1, p.2)
theorem Canon.marked {qs : List (Str × Int)} (h : Canon qs) (m : Str) : Canon (marked m qs) := by
  refine ⟨?_, fun p hp => ?_⟩
  · unfold MP.marked
    rw [List.pairwise_map]
    exact h.up.imp fun z => by show ltS (m ++ _) (m ++ _) = true; rw [ltS_append]; exact z
  · obtain ⟨q, hq, e⟩ := List.mem_map.mp hp
    subst e
    exact h.nz q hq
/-! what form promises -/
def pairOf : D → Option (Str × Int)
  | .tup [.str s, .int i] => some (s, i)
  | _ => none
def pairsOf : List D → Option (List (Str × Int))
  | [] => some []
  | d :: ds => match pairOf d, pairsOf ds with
    | some p, some r => some (p :: r)
    | _, _ => none
theorem pairsOf_eq : ∀ {ds : List D} {ps : List (Str × Int)}, pairsOf ds = some ps → ds = ps.map pairD
  | [], ps, h => by cases h; rfl
  | d :: ds, ps, h => by
    unfold pairsOf at h
    cases hp : pairOf d with
    | none => rw [hp] at h; cases h
    | some p =>
      cases hr : pairsOf ds with
      | none => rw [hp, hr] at h; cases h
      | some r =>
        rw [hp, hr] at h
        cases h
        rw [List.map_cons, ← pairsOf_eq hr]
        congr 1
        unfold pairOf at hp
        split at hp
        · cases hp; rfl
        · cases hp
theorem pairsOf_map : ∀ (ps : List (Str × Int)), pairsOf (ps.map pairD) = some ps
  | [] => rfl
  | p :: r => by
    rw [List.map_cons]
    unfold pairsOf
    rw [pairsOf_map r]
    rfl
def seqOf : D → Option (List D)
  | .fl xs => some xs
  | .tup xs => some xs
  | .ro xs => some xs
  | _ => none
theorem seqOf_walk {d : D} {xs : List D} (h : seqOf d = some xs) (mu : List MO) : walkD d mu = .ok (xs, []) mu := by
  cases d <;> simp [seqOf] at h <;> (subst h; rfl)
def formF : List D → Option D
  | [c, d] => match seqOf d with
    | some xs => match pairsOf xs with
      | some ps => if ps.length < 64 then some (formD c ps) else none
      | none => none
    | none => none
  | _ => none
theorem formF_ok {c d : D} {ps : List (Str × Int)} (h : seqOf d = some (ps.map pairD)) (hl : ps.length < 64) : formF [c, d] = some (formD c ps) := by
  unfold formF
  simp only [h, pairsOf_map, if_pos hl]
theorem Clo.pairs {k : Nat} (ps : List (Str × Int)) : Clos k (ps.map pairD) := Clos.of fun d hd => by
  obtain ⟨p, _, e⟩ := List.mem_map.mp hd
  subst e
  exact Clo.tup.mpr (Clos.cons Clo.str (Clos.cons Clo.int Clos.nil))
theorem gc_form : GC 2 den_form (pureD formF) := gc_pure fun ds mu d hn hc hh hf => by
  match ds, hc, hf with
  | [c, e], hc, hf =>
    unfold formF at hf
    simp only at hf
    split at hf
    · rename_i xs hx
      split at hf
      · rename_i ps hp
        split at hf
        · rename_i hl
          cases hf
          have e1 := pairsOf_eq hp
          subst e1
          exact ⟨Clo.tup.mpr (Clos.cons hc.inv.1 (Clos.cons (Clo.tup.mpr (Clo.pairs _)) Clos.nil)), _, form_ok (fun mu => seqOf_walk hx mu) hl⟩
        · cases hf
      · cases hf
    · cases hf
  | [], _, hf => cases hf
  | [_], _, hf => cases hf
  | _ :: _ :: _ :: _, _, hf => cases hf
noncomputable abbrev r__law_form := r_form
noncomputable abbrev den__law_form := den_form
end MP
namespace MP
open PySem L2 PyProof.Rows
section
variable {asg : D → Env → M Env} {body : Env → M Fl} {fg : List Nat} {t : Env → M Bool} {r : Env → M D}
/-- a loop with an invariant; the number tells how many turns are left -/
theorem loopF_inv {I : Nat → Env → List MO → Prop} : ∀ {ds : List D} {env : Env} {mu : List MO}, (∀ d ∈ ds, ∀ k env mu, I (k + 1) env mu → ∃ env1 e' mu', asg d (wipeE env fg) mu = .ok env1 mu ∧ body env1 mu = .ok (.nx e') mu' ∧ I k e' mu') → I ds.length env mu →
    ∃ e' mu', loopF asg body fg [] ds env mu = .ok (.nx (wipeE e' fg)) mu' ∧ I 0 e' mu'
  | [], env, mu, _, h => ⟨env, mu, loopF_nil, h⟩
  | d :: ds, env, mu, hs, h => by
    obtain ⟨env1, e1, mu1, h1, h2, h3⟩ := hs d (by simp) ds.length env mu h
    obtain ⟨e', mu', h4, h5⟩ := loopF_inv (ds := ds) (fun x hx => hs x (by simp [hx])) h3
    refine ⟨e', mu', ?_, h5⟩
    rw [loopF_cons]
    simp [h1, h2, h4]
theorem loopC_inv {I : List MO → Prop} {P : D → Prop} : ∀ {ds : List D} {env : Env} {mu : List MO}, (∀ d ∈ ds, ∀ mu, I mu → ∃ env1 mu1 x, asg d env mu = .ok env1 mu ∧ t env1 mu = .ok true mu ∧ r env1 mu = .ok x mu1 ∧ I mu1 ∧ P x) → I mu →
    ∃ xs mu', loopC asg t r [] ds env mu = .ok xs mu' ∧ I mu' ∧ xs.length = ds.length ∧ ∀ x ∈ xs, P x
  | [], env, mu, _, h => ⟨[], mu, loopC_nil, h, rfl, by simp⟩
  | d :: ds, env, mu, hs, h => by
    obtain ⟨env1, mu1, x, h1, h2, h3, h4, h5⟩ := hs d (by simp) mu h
    obtain ⟨xs, mu', h6, h7, h8, h9⟩ := loopC_inv (ds := ds) (env := env) (fun y hy => hs y (by simp [hy])) h4
    exact ⟨x :: xs, mu', loopC_yes h1 h2 h3 h6, h7, by rw [List.length_cons, List.length_cons, h8], fun y hy => by
      rcases List.mem_cons.mp hy with e | e
      · rw [e]; exact h5
      · exact h9 y e⟩
end
theorem len_append (x y : Str) : (x ++ y).length = x.length + y.length := by
  show (x.cps ++ y.cps).size = x.cps.size + y.cps.size
  simp
theorem rng_mem {d : D} {n : Nat} (h : d ∈ rngD 0 n) : ∃ i : Nat, i < n ∧ d = .int i := by
  obtain ⟨i, hi, e⟩ := List.mem_map.mp (show d ∈ (List.range n).map fun (i : Nat) => D.int (0 + (i : Int)) from h)
  exact ⟨i, List.mem_range.mp hi, by rw [← e, Int.zero_add]⟩
theorem wRng1_ok {n : Int} {mu : List MO} (h : -16777216 ≤ n ∧ n ≤ 16777216) : wRng1 [.int n] mu = .ok (rngD 0 n.toNat, []) mu := by
  show ((toI (.int n) : M Int) >>= fun n => (need (-16777216 ≤ n ∧ n ≤ 16777216) : M Unit) >>= fun _ => (pure (rngD 0 n.toNat, []) : M Wk)) mu = _
  rw [bind_ap, toI_int]
  show ((need (-16777216 ≤ n ∧ n ≤ 16777216) : M Unit) >>= fun _ => (pure (rngD 0 n.toNat, []) : M Wk)) mu = _
  rw [bind_ap, need_ap, if_pos h]
  rfl

/-! ### the law's own end -/
def spLaw (K : PySem.W.Frag) (n : Nat) : Sp := fun vs H Q _ => ∃ (a : Addr) (ns : List Int), vs = [.ref a] ∧ Only H ∧ SqL K H a (ns.map V.int) ∧ ns.length ≤ n ∧ ∀ H', Q (.bl true) H'
theorem law_of {P : Program} {w : World} {K : PySem.W.Frag} {mg : Str → Option Value} {base : Heap} {k n : Nat} {f : Addr} {fd : FuncData} {ps : List Str} {den : List D → M Rv} (F : FnOk P w K mg base CX0 k f fd ps (sp K mg 1 den))
    (h : ∀ cs : List Int, cs.length ≤ n → ∃ mu', den [.ro (cs.map .int)] [] = .ok (.vl (.bl true)) mu') : FnOk P w K mg base CX0 k f fd ps (spLaw K n) := F.imp fun vs H Q E ⟨a, ns, e, hO, hS, hl, q⟩ => by
  subst e
  have hro : RoAt K H a (ns.map V.int) := by
    rcases hS with (hS | ⟨o, hS⟩) | hS
    · rcases hO a with z | ⟨o, xs, z⟩
      · rw [z] at hS; cases hS
      · rw [z] at hS; cases hS
    · exact .inl ⟨o, hS⟩
    · exact .inr hS
  obtain ⟨mu', e⟩ := h ns hl
  refine ⟨rfl, [.ro (ns.map .int)], ⟨[], []⟩, [], Reps.one (by simp only [Rep]; exact ⟨a, _, rfl, hro, Reps.of_ints.mpr rfl⟩), ⟨rfl, List.nodup_nil, fun _ z => by simp at z, fun _ z => by simp at z, fun _ _ _ z _ => by simp at z⟩, ?_⟩
  rw [e]
  intro m' H' _ _ v rv
  simp only [Rep] at rv
  subst rv
  exact q H'
theorem walkM {l : PySem.W.OpenLaw} {n k : Nat} {q : Program} {loose : List Str} {XP : (Str → Option Value) → Heap → Prop} {YP : World → Heap → Prop} {d : DefRec} {K : Params → PySem.W.Frag} (hn : l.most = some n) (hn2 : n ≤ sizeLine) (hdf : d.params.defaults = []) (hr : Room k callerA)
    (hY : ∀ (w : World) (h : Heap), YP w h → (K w.params).In h)
    (F : ∀ (w : World) (mg : Str → Option Value) (fa : Addr) (h : Heap), (K w.params).In h → h.Ns mainGlobals mg → mg d.name = some (.ref fa) →
      ∃ fd : FuncData, (∀ (s : Shared) (u : Value), BindsTo s fd ⟨[u], []⟩ [("script", u)]) ∧ ∀ base : Heap, (K w.params).In base → base.Ns mainGlobals mg → FnOk l.prog w (K w.params) mg base CX0 k fa fd ["script"] (spLaw (K w.params) n)) :
    PySem.W.WalkO q loose XP YP l.row.toRowW d [] (fun f vs => PySem.call f vs) :=
  L2.walk_of (n := n) (k := k) (x := "script") (CX := fun _ => CX0) (sp := fun w => spLaw (K w.params) n) hn hn2 hdf hr hY F (fun _ _ a ns hl hO hS => ⟨a, ns, rfl, hO, hS, hl, fun _ => rfl⟩) fun _ _ _ _ _ z => z
end MP
namespace MP
open PySem L2 PyProof.Rows
section
variable {X : Cx} {W : Wx} {e o a b c value i : Expr} {st : Stmt} {es : List Expr} {pos apos cpos tpos p pos' : Pos}
/-! ### a module's texts and numbers -/
theorem me_gstr {x z : Str} {t : Tok} (hg : Gl X x) (hm : X.mg x = some (.str z t)) (hd : (x == ("__debug__" : Str)) = false := by decide) : ME X W (.Name x pos) (eC (.str z)) := me_c (pe_glob hg hm (v := .str z) ⟨t, rfl⟩ hd) fun m H => by simp only [Rep]
theorem me_gint {x : Str} {z : Int} {t : Tok} (hg : Gl X x) (hm : X.mg x = some (.int z t)) (hd : (x == ("__debug__" : Str)) = false := by decide) : ME X W (.Name x pos) (eC (.int z)) := me_c (pe_glob hg hm (v := .int z) ⟨t, rfl⟩ hd) fun m H => by simp only [Rep]
/-! ### what is never reached -/
def sBad : Env → M Fl := fun _ => bad
theorem ms_never : MS X W st sBad := ⟨ps_never.imp fun D σ H ⟨env, m, mu, hE, hR, hp⟩ => (show False from hp).elim⟩
/-! ### is True, is not True -/
def gIsB (neg : Bool) (x y : D) : M D := toB x >>= fun i => toB y >>= fun j => pure (.bl (decide (i = j) != neg))
def rIsBM (neg : Bool) : R2 := fun x y H Q => ∃ a b : Bool, x = .bl a ∧ y = .bl b ∧ Q (.bl (decide (a = b) != neg)) H
theorem op_isBM : OpR X (compareOp .Is) (rIsBM false) := fun pins s σ H x y v u Q I rx ry h => op_isBl pins s σ H x y v u Q I rx ry (by
  obtain ⟨a, b, e1, e2, q⟩ := h
  rw [Bool.bne_false] at q
  exact ⟨a, b, e1, e2, q⟩)
theorem op_notBM : OpR X (compareOp .IsNot) (rIsBM true) := fun pins s σ H x y v u Q I rx ry h => op_notBl pins s σ H x y v u Q I rx ry (by
  obtain ⟨a, b, e1, e2, q⟩ := h
  rw [Bool.bne_true] at q
  exact ⟨a, b, e1, e2, q⟩)
theorem opm_isB {neg : Bool} : OpM X.K W (rIsBM neg) (gIsB neg) := ⟨fun x y v w m mu H Q rl hx hy hp => by
  obtain ⟨i, rfl, rfl, hp⟩ := toB_ok rl hx (Post.bind hp)
  obtain ⟨j, rfl, rfl, hp⟩ := toB_ok rl hy (Post.bind hp)
  exact ⟨i, j, rfl, rfl, Post.pure hp rl _ (by simp only [Rep])⟩⟩
/-! ### <=, >=, > of ints or texts -/
def gOrd (f : Int → Int → Bool) (g : Str → Str → Bool) : D → D → M D
  | .str x, y => do
    let z ← toS y
    pure (.bl (g x z))
  | x, y => gCmp f x y
def rOrd (f : Int → Int → Bool) (g : Str → Str → Bool) : R2 := fun x y H Q => rI0 (fun i j => .bl (f i j)) x y H Q ∨ ∃ i j, x = .str i ∧ y = .str j ∧ Q (.bl (g i j)) H
theorem opm_ord {f : Int → Int → Bool} {g : Str → Str → Bool} : OpM X.K W (rOrd f g) (gOrd f g) := ⟨fun x y v w m mu H Q rl hx hy hp => by
  cases x
  case str z =>
    obtain ⟨j, rfl, rfl, hp⟩ := toS_ok rl hy (Post.bind hp)
    simp only [Rep] at hx
    exact .inr ⟨z, j, hx, rfl, Post.pure hp rl _ (by simp only [Rep])⟩
  all_goals exact .inl (opm_cmp.go _ _ _ _ _ _ _ _ rl hx hy hp)⟩
def gLe : D → D → M D := gOrd (fun i j => decide (i ≤ j)) fun x y => !decide (y.cps.toList < x.cps.toList)
def gGe : D → D → M D := gOrd (fun i j => decide (j ≤ i)) fun x y => !decide (x.cps.toList < y.cps.toList)
def gGt : D → D → M D := gOrd (fun i j => decide (j < i)) fun x y => decide (y.cps.toList < x.cps.toList)
theorem op_leM : OpR X (compareOp .LtE) (rOrd (fun i j => decide (i ≤ j)) fun x y => !decide (y.cps.toList < x.cps.toList)) := op_le.or op_le_str
theorem op_geM : OpR X (compareOp .GtE) (rOrd (fun i j => decide (j ≤ i)) fun x y => !decide (x.cps.toList < y.cps.toList)) := op_ge.or op_ge_str
theorem op_gtM : OpR X (compareOp .Gt) (rOrd (fun i j => decide (j < i)) fun x y => decide (y.cps.toList < x.cps.toList)) := op_gt.or op_gt_str
/-! ### a test that is a value's truth -/
def truD : D → M Bool
  | .non => pure false
  | .bl b => pure b
  | .int i => pure (i != 0)
  | .str z => need (z.length ≤ sizeLine) >>= fun _ => pure ((z.length : Int) != 0)
  | .fd _ xs => pure (!xs.isEmpty)
  | .ref n => fun mu => match mu[n]? with
    | some (.lst xs) => .ok (!xs.isEmpty) mu
    | some (.dk kvs) => .ok (!kvs.isEmpty) mu
    | none => .bad
  | d => rdQ d >>= fun xs => pure (!xs.isEmpty)
def bTru (r : Env → M D) : Env → M Bool := fun env => r env >>= truD
theorem empty_len {α β : Type} {xs : List α} {ys : List β} (h : xs.length = ys.length) : xs.isEmpty = ys.isEmpty := by
  cases xs <;> cases ys <;> simp at h <;> rfl
theorem truD_ok {K : PySem.W.Frag} {W : Wx} {m : Mp} {H : Hp} {mu : List MO} {d : D} {v : V} {Q : Bool → Mp → List MO → Hp → Prop} (R : Rel K m mu H) (h : Rep K m H d v) (hp : Post K W m H (truD d mu) Q) : ∃ k, TruV K v H k ∧ Q k m mu H := by
  have seq : ∀ d, Rep K m H d v → Post K W m H ((rdQ d >>= fun xs => pure (!xs.isEmpty)) mu) Q → ∃ k, TruV K v H k ∧ Q k m mu H := fun d h hp => by
    obtain ⟨a, xs, vs, rfl, hs, hr, hp⟩ := rdQ_ok R h (Post.bind hp)
    rcases hs with hs | hs
    · exact ⟨_, .inl ⟨vs, hs, rfl⟩, by rw [← empty_len hr.length]; exact Post.pure hp R⟩
    · exact ⟨_, .inr (.inl ⟨vs, hs, rfl⟩), by rw [← empty_len hr.length]; exact Post.pure hp R⟩
  cases d
  case non => simp only [Rep] at h; subst h; exact ⟨_, rfl, Post.pure hp R⟩
  case bl b => simp only [Rep] at h; subst h; exact ⟨_, rfl, Post.pure hp R⟩
  case int b => simp only [Rep] at h; subst h; exact ⟨_, rfl, Post.pure hp R⟩
  case str b =>
    obtain ⟨c, hp⟩ := need_ok R (Post.bind hp)
    simp only [Rep] at h; subst h; exact ⟨_, ⟨c, rfl⟩, Post.pure hp R⟩
  case fd ks xs =>
    simp only [Rep] at h
    obtain ⟨a, vs, rfl, hs, _, hl, hr⟩ := h
    refine ⟨_, .inr (.inr ⟨_, hs, rfl⟩), ?_⟩
    rw [show (ks.zip vs).isEmpty = xs.isEmpty from empty_len (by rw [List.length_zip, ← hr.length, hl, Nat.min_self])]
    exact Post.pure hp R
  case ref n =>
    simp only [Rep] at h
    obtain ⟨a, rfl, hm⟩ := h
    obtain ⟨o, ho, hr⟩ := R.at' hm
    have e : truD (.ref n) mu = (match mu[n]? with
      | some (.lst xs) => MP.R.ok (!xs.isEmpty) mu
      | some (.dk kvs) => .ok (!kvs.isEmpty) mu
      | none => .bad) := rfl
    rw [e, ho] at hp
    cases o with
    | lst xs =>
      obtain ⟨vs, hH, hr⟩ := hr
      exact ⟨_, .inl ⟨vs, .of hH, rfl⟩, by rw [← empty_len hr.length]; exact hp m H .refl R⟩
    | dk kvs =>
      obtain ⟨vs, hH, hr⟩ := hr
      have hl := hr.length
      rw [List.length_map] at hl
      refine ⟨_, .inr (.inr ⟨_, hH, rfl⟩), ?_⟩
      rw [show ((kvs.map (·.1)).zip vs).isEmpty = kvs.isEmpty from empty_len (by rw [List.length_zip, List.length_map, ← hl, Nat.min_self])]
      exact hp m H .refl R
  all_goals exact seq _ h hp
theorem mt_truth {r : Env → M D} (h : ME X W a r) (he : ∀ whole, isTrue a X.env whole = (do let v ← whole; standAt a.pos; holding [v] (truthy v)) := by intro _; rfl) : MT X W a (bTru r) :=
  ⟨(pt_truth h.pe he).imp fun σ H Q ⟨env, m, mu, hE, hR, hp⟩ => ⟨env, m, mu, hE, hR, (Post.bind hp).mono fun d m1 mu1 H1 g1 R1 hp v rv => truD_ok R1 rv hp⟩⟩
end
end MP
namespace MP
open PySem L2 PyProof.Rows
/-! ### dict comprehensions -/
/-- a dict that was not there ahead of H -/
def NewDk (K : PySem.W.Frag) (H : Hp) (kvs : List (Key × D)) (m' : Mp) (mu' : List MO) (H' : Hp) (Q : VK) : Prop :=
  ∀ a vs, H a = none → H' a = some (.dK ((kvs.map (·.1)).zip vs)) → m'.Out a → Reps K m' H' (kvs.map (·.2)) vs → Rel K (m'.add a) (mu' ++ [.dk kvs]) H' → Q (.ref a) H'
def tK (K : PySem.W.Frag) (W : Wx) (r : Env → M (List (Key × D))) : TE := fun σ H Q => ∃ env m mu, RepE K m H env σ ∧ Rel K m mu H ∧ Post K W m H (r env mu) fun kvs m' mu' H' => NewDk K H kvs m' mu' H' Q
noncomputable def loopCD (asg : D → Env → M Env) (t : Env → M Bool) (rk r : Env → M D) (g : List (Nat × List D)) : List D → Env → List (Key × D) → M (List (Key × D))
  | [], _, acc => chk g >>= fun _ => pure acc
  | d :: ds, env, acc => chk g >>= fun _ => asg d env >>= fun env1 => t env1 >>= fun b => if b = true then (rk env1 >>= fun y => r env1 >>= fun x => toK y >>= fun k => loopCD asg t rk r g ds env (putD acc k x)) else loopCD asg t rk r g ds env acc
/-- {key: value for .. in .. if ..}; vs: the slots of the comprehension's own names -/
noncomputable def kComp (w : Env → M Wk) (asg : D → Env → M Env) (t : Env → M Bool) (rk r : Env → M D) (vs : List Nat) : Env → M (List (Key × D)) := fun env => w env >>= fun p => noX (loopCD asg t rk r p.2 p.1 (wipeE env vs) [])
theorem toK_at {K : PySem.W.Frag} {W : Wx} {m m0 : Mp} {H H0 : Hp} {mu : List MO} {d : D} {v : V} {α : Type} {f : Key → M α} {Q : α → Mp → List MO → Hp → Prop} (h : Rep K m H d v) (hp : Post K W m0 H0 ((toK d >>= f) mu) Q) : ∃ k, v = kV k ∧ Post K W m0 H0 (f k mu) Q := by
  cases d
  case int i => simp only [Rep] at h; exact ⟨.inl i, h, hp⟩
  case str i => simp only [Rep] at h; exact ⟨.inr i, h, hp⟩
  all_goals exact (show False from hp).elim
section
variable {X : Cx} {W : Wx} {e o a b tg iter elt kx vx : Expr} {es ifs : List Expr} {pos apos cpos p : Pos}
/-- the comprehension's dict, for its reading -/
theorem comp_goD {wi : TI} {vs l : List Nat} {w : Env → M Wk} {asg : D → Env → M Env} {t : Env → M Bool} {rk r : Env → M D} (hl : ∀ i ∈ l, i ∈ vs) (hwi : wi = tI X.K W w) : ∀ σ H Q, tK X.K W (kComp w asg t rk r vs) σ H Q → tDc wi (tG X.K W0 l asg) (tT X.K W0 t) (tE X.K W0 rk) (tE X.K W0 r) vs σ H Q := by
  subst hwi
  rintro σ H Q ⟨env, m, mu, hE, hR, hp⟩
  refine ⟨env, m, mu, hE, hR, (Post.bind hp).mono fun p m1 mu1 H1 g1 R1 hp0 hz J ok => ?_⟩
  have hp0 := noX_post hp0
  intro Dd hDn
  have hdead : ∀ b o, H1 b = some o → b ≠ Dd := fun b o e z => by rw [z, hDn] at e; cases e
  have hD0 : H Dd = none := g1.none_of hDn
  refine ⟨fun i k H2 => ∃ (rest : List D) (acc : List (Key × D)) (vs2 : List V) (m2 : Mp) (mu2 : List MO), k = rest.length ∧ p.1.drop i = rest ∧ acc.length ≤ i ∧ H2 Dd = some (.dK ((acc.map (·.1)).zip vs2)) ∧ Dd ∈ m2.no ∧ Dd ∉ m2.ad ∧ Reps X.K m2 H2 (acc.map (·.2)) vs2 ∧ Rel X.K m2 mu2 H2 ∧ RepE X.K m2 H2 (wipeE env vs) (L2.wipe σ vs) ∧ Grow m1 m2 H1 H2 ∧
      Post X.K W0 m1 H1 (loopCD asg t rk r p.2 rest (wipeE env vs) acc mu2) fun xs m' mu' H' => NewDk X.K H xs m' mu' H' Q, ⟨_, p.1, [], [], m1.shut Dd, mu1, rfl, rfl, Nat.le_refl _, upd_same, by simp [Mp.shut], ?_, Reps.nil_iff.mpr rfl, ?_, ?_, ?_, ?_⟩, ?_⟩
  · exact (R1.free hDn).1
  · have g : Grow m1 m1 H1 (upd H1 Dd (.dK [])) := .laid hDn
    have kp : Keep m1 (m1.shut Dd) H1 (upd H1 Dd (.dK [])) := ⟨fun _ _ h => h, fun a o h n => ⟨by rw [upd_ne (hdead a o h)]; exact h, n.1, fun z => by
      rcases List.mem_append.mp z with z | z
      · exact n.2 z
      · exact hdead a o h (List.mem_singleton.mp z)⟩, g.tups, g.frzs⟩
    refine ⟨R1.len, R1.nd, fun a ha => ?_, fun a ha z => ?_, fun n o a h1 h2 => (R1.obj n o a h1 h2).keep kp fun u q => by rw [upd_ne (hdead a u q)]; exact q⟩
    · rcases List.mem_append.mp ha with z | z
      · exact g.trk a _ (R1.nos a z).choose_spec
      · rw [List.mem_singleton.mp z]; exact ⟨_, upd_same⟩
    · rcases List.mem_append.mp z with z | z
      · exact R1.dj a ha z
      · exact (R1.free hDn).1 (by rw [← List.mem_singleton.mp z]; exact ha)
  · have g : Grow m1 m1 H1 (upd H1 Dd (.dK [])) := .laid hDn
    have kp : Keep m1 (m1.shut Dd) H1 (upd H1 Dd (.dK [])) := ⟨fun _ _ h => h, fun a o h n => ⟨by rw [upd_ne (hdead a o h)]; exact h, n.1, fun z => by
      rcases List.mem_append.mp z with z | z
      · exact n.2 z
      · exact hdead a o h (List.mem_singleton.mp z)⟩, g.tups, g.frzs⟩
    exact ((hE.grow g1).wipe vs).keep kp
  · have g : Grow m1 m1 H1 (upd H1 Dd (.dK [])) := .laid hDn
    exact ⟨⟨[], [Dd], by simp [Mp.shut], rfl, by simp, fun a ha => by rw [List.mem_singleton.mp ha]; exact hDn⟩, g.oth, g.tups, g.frzs, g.trk⟩
  · exact hp0
  rintro i k H2 ⟨rest, acc, vs2, m2, mu2, rfl, hd, ha, hH2, hno, had, hacc, R2, hE2, g2, hp2⟩
  cases rest with
  | nil =>
    have e0 : loopCD asg t rk r p.2 [] (wipeE env vs) acc mu2 = M.bind (chk p.2) (fun _ => pure acc) mu2 := rfl
    rw [e0] at hp2
    unfold M.bind at hp2
    have hch : ∀ q ∈ p.2, mu2[q.1]? = some (.lst q.2) := by
      unfold chk at hp2
      by_cases z : ∀ q ∈ p.2, mu2[q.1]? = some (.lst q.2)
      · exact z
      · rw [if_neg z] at hp2; exact (show False from hp2).elim
    have ec : chk p.2 mu2 = .ok () mu2 := by unfold chk; rw [if_pos hch]
    rw [ec] at hp2
    refine .inl ⟨((ok m2 mu2 H2 g2 R2 hch).1 i) (by rw [List.drop_eq_nil_iff] at hd; exact hd), ?_⟩
    obtain ⟨l', k', e1, e2, hl', hk'⟩ := g2.ext
    have n1 : Dd ∉ m1.no := (R1.free hDn).2
    have kp : ∀ m3 : Mp, (∀ n a, m2.ad[n]? = some a → m3.ad[n]? = some a) → (∀ a, m2.Out a → m3.Out a) → Keep m2 m3 H2 H2 := fun m3 h1 h2 => ⟨h1, fun a o h n => ⟨h, h2 a n⟩, fun _ _ h => h, fun _ _ _ h => h⟩
    have k3 : Keep m2 ⟨m2.ad, m1.no⟩ H2 H2 := kp _ (fun _ _ h => h) fun a n => ⟨n.1, fun z => n.2 (by rw [e2]; exact List.mem_append_left _ z)⟩
    have g3 : Grow m1 ⟨m2.ad, m1.no⟩ H1 H2 := ⟨⟨l', [], e1, by simp, hl', by simp⟩, g2.oth, g2.tups, g2.frzs, g2.trk⟩
    have R3 : Rel X.K ⟨m2.ad, m1.no⟩ mu2 H2 := ⟨R2.len, R2.nd, fun a z => R2.nos a (by rw [e2]; exact List.mem_append_left _ z), fun a ha z => R2.dj a ha (by rw [e2]; exact List.mem_append_left _ z), fun n o a h1 h2 => (R2.obj n o a h1 h2).keep k3 fun _ q => q⟩
    have k4 : Keep m2 ((⟨m2.ad, m1.no⟩ : Mp).add Dd) H2 H2 := kp _ (fun n a h => by
      show (m2.ad ++ [Dd])[n]? = some a
      rw [List.getElem?_append_left (List.getElem?_eq_some_iff.mp h).1]; exact h) fun a n => ⟨fun z => by
        rcases List.mem_append.mp z with z | z
        · exact n.1 z
        · exact n.2 (by rw [List.mem_singleton.mp z]; exact hno), fun z => n.2 (by rw [e2]; exact List.mem_append_left _ z)⟩
    have q := hp2 ⟨m2.ad, m1.no⟩ H2 g3 R3 Dd vs2 hD0 hH2 ⟨had, n1⟩ (Reps.keep k3 _ vs2 hacc)
    refine q ?_
    refine ⟨by show (m2.ad ++ [Dd]).length = _; rw [List.length_append, List.length_append, R2.len]; rfl, ?_, fun a z => R3.nos a z, fun a ha z => ?_, fun n ob b h1 h2 => ?_⟩
    · show (m2.ad ++ [Dd]).Nodup
      rw [List.nodup_append]
      refine ⟨R2.nd, by simp, fun x hx y hy => ?_⟩
      rw [List.mem_singleton.mp hy]
      rintro rfl
      exact had hx
    · rcases List.mem_append.mp (show a ∈ m2.ad ++ [Dd] from ha) with z' | z'
      · exact R3.dj a z' z
      · exact n1 (by rw [← List.mem_singleton.mp z']; exact z)
    · have h2 : (m2.ad ++ [Dd])[n]? = some b := h2
      by_cases h : n < mu2.length
      · rw [List.getElem?_append_left h] at h1
        rw [List.getElem?_append_left (by rw [R2.len]; exact h)] at h2
        exact (R2.obj n ob b h1 h2).keep k4 fun _ q => q
      · by_cases hl : n = mu2.length
        · subst hl
          rw [List.getElem?_append_right (Nat.le_refl _), Nat.sub_self] at h1
          rw [List.getElem?_append_right (by rw [R2.len]; exact Nat.le_refl _), ← R2.len, Nat.sub_self] at h2
          cases h1
          cases h2
          exact ⟨vs2, hH2, Reps.keep k4 _ vs2 hacc⟩
        · rw [List.getElem?_eq_none (by rw [List.length_append]; simp only [List.length_cons, List.length_nil]; omega)] at h1
          cases h1
  | cons d ds =>
    have e0 : loopCD asg t rk r p.2 (d :: ds) (wipeE env vs) acc mu2 = M.bind (chk p.2) (fun _ => M.bind (asg d (wipeE env vs)) fun env1 => M.bind (t env1) fun b => if b = true then (rk env1 >>= fun y => r env1 >>= fun x => toK y >>= fun k => loopCD asg t rk r p.2 ds (wipeE env vs) (putD acc k x)) else loopCD asg t rk r p.2 ds (wipeE env vs) acc) mu2 := rfl
    rw [e0] at hp2
    unfold M.bind at hp2
    have hch : ∀ q ∈ p.2, mu2[q.1]? = some (.lst q.2) := by
      unfold chk at hp2
      by_cases z : ∀ q ∈ p.2, mu2[q.1]? = some (.lst q.2)
      · exact z
      · rw [if_neg z] at hp2; exact (show False from hp2).elim
    have ec : chk p.2 mu2 = .ok () mu2 := by unfold chk; rw [if_pos hch]
    rw [ec] at hp2
    dsimp only at hp2
    have hdi : p.1[i]? = some d := by
      have e : (p.1.drop i)[0]? = some d := by rw [hd]; rfl
      rw [List.getElem?_drop] at e
      simpa using e
    have hds : p.1.drop (i + 1) = ds := by
      have e := congrArg List.tail hd
      rw [List.tail_drop] at e
      exact e
    have hil : i < p.1.length := (List.getElem?_eq_some_iff.mp hdi).1
    obtain ⟨go, yl⟩ := (ok m2 mu2 H2 g2 R2 hch).2 i d hdi
    -- the turn's end: nothing is added, or a datum
    have fin : ∀ (acc' : List (Key × D)) (vs' : List V) (m3 : Mp) (mu3 : List MO) (H3 : Hp), acc'.length ≤ i + 1 → H3 Dd = some (.dK ((acc'.map (·.1)).zip vs')) → Dd ∈ m3.no → Dd ∉ m3.ad → Reps X.K m3 H3 (acc'.map (·.2)) vs' → Rel X.K m3 mu3 H3 → RepE X.K m3 H3 (wipeE env vs) (L2.wipe σ vs) → Grow m1 m3 H1 H3 →
        (Post X.K W0 m1 H1 (loopCD asg t rk r p.2 ds (wipeE env vs) acc' mu3) fun xs m' mu' H' => NewDk X.K H xs m' mu' H' Q) → ∃ m', m' < (d :: ds).length ∧ ∃ (rest : List D) (acc : List (Key × D)) (vs2 : List V) (m2 : Mp) (mu2 : List MO), m' = rest.length ∧ p.1.drop (i + 1) = rest ∧ acc.length ≤ i + 1 ∧ H3 Dd = some (.dK ((acc.map (·.1)).zip vs2)) ∧ Dd ∈ m2.no ∧ Dd ∉ m2.ad ∧ Reps X.K m2 H3 (acc.map (·.2)) vs2 ∧ Rel X.K m2 mu2 H3 ∧ RepE X.K m2 H3 (wipeE env vs) (L2.wipe σ vs) ∧ Grow m1 m2 H1 H3 ∧
      Post X.K W0 m1 H1 (loopCD asg t rk r p.2 rest (wipeE env vs) acc mu2) fun xs m' mu' H' => NewDk X.K H xs m' mu' H' Q := fun acc' vs' m3 mu3 H3 a1 a2 a3 a4 a5 a6 a7 a8 a9 =>
      ⟨ds.length, Nat.lt_succ_self _, ds, acc', vs', m3, mu3, rfl, hds, a1, a2, a3, a4, a5, a6, a7, a8, a9⟩
    refine .inr ⟨go, fun H3 => ∃ m', m' < (d :: ds).length ∧ ∃ (rest : List D) (acc : List (Key × D)) (vs2 : List V) (m2 : Mp) (mu2 : List MO), m' = rest.length ∧ p.1.drop (i + 1) = rest ∧ acc.length ≤ i + 1 ∧ H3 Dd = some (.dK ((acc.map (·.1)).zip vs2)) ∧ Dd ∈ m2.no ∧ Dd ∉ m2.ad ∧ Reps X.K m2 H3 (acc.map (·.2)) vs2 ∧ Rel X.K m2 mu2 H3 ∧ RepE X.K m2 H3 (wipeE env vs) (L2.wipe σ vs) ∧ Grow m1 m2 H1 H3 ∧
      Post X.K W0 m1 H1 (loopCD asg t rk r p.2 rest (wipeE env vs) acc mu2) fun xs m' mu' H' => NewDk X.K H xs m' mu' H' Q, fun H3 h => h, fun x H3 y => ?_⟩
    obtain ⟨gy, Ry, rx⟩ := yl x H3 y
    refine ⟨d, wipeE env vs, m2, mu2, hE2.grow gy, Ry, rx, ?_⟩
    have stay : ∀ (m3 : Mp) (H4 : Hp), Grow m2 m3 H2 H4 → H4 Dd = some (.dK ((acc.map (·.1)).zip vs2)) ∧ Dd ∈ m3.no ∧ Dd ∉ m3.ad := fun m3 H4 g => by
      obtain ⟨l', k', e1, e2, _, _⟩ := g.ext
      exact ⟨g.oth Dd _ hH2 had, by rw [e2]; exact List.mem_append_left _ hno, g.notin hH2 had⟩
    cases ha1 : asg d (wipeE env vs) mu2 with
    | bad => rw [ha1] at hp2; exact (show False from hp2).elim
    | exc ex mu4 => rw [ha1] at hp2; exact fun m4 H4 g4 R4 => hp2 m4 H4 ((g2.trans gy).trans g4) R4
    | ok env1 mu4 =>
      rw [ha1] at hp2
      dsimp only at hp2
      intro m4 H4 g4 R4 σ2 hE4 off
      refine ⟨wipe_off off hl, env1, m4, mu4, hE4, R4, ?_⟩
      cases ht1 : t env1 mu4 with
      | bad => rw [ht1] at hp2; exact (show False from hp2).elim
      | exc ex mu5 => rw [ht1] at hp2; exact fun m5 H5 g5 R5 => hp2 m5 H5 (((g2.trans gy).trans g4).trans g5) R5
      | ok b mu5 =>
        rw [ht1] at hp2
        dsimp only at hp2
        intro m5 H5 g5 R5
        have g25 : Grow m2 m5 H2 H5 := (gy.trans g4).trans g5
        cases b with
        | false =>
          simp only [Bool.false_eq_true, if_false] at hp2 ⊢
          obtain ⟨s1, s2, s3⟩ := stay m5 H5 g25
          exact fin acc vs2 m5 mu5 H5 (Nat.le_succ_of_le ha) s1 s2 s3 (Reps.grow g25 _ vs2 hacc) R5 (hE2.grow g25) (g2.trans g25) hp2
        | true =>
          simp only [if_true] at hp2 ⊢
          refine ⟨env1, m5, mu5, hE4.grow g5, R5, ?_⟩
          have hp2 : Post X.K W0 m1 H1 (M.bind (rk env1) (fun y => M.bind (r env1) fun x => M.bind (toK y) fun k => loopCD asg t rk r p.2 ds (wipeE env vs) (putD acc k x)) mu5) fun xs m' mu' H' => NewDk X.K H xs m' mu' H' Q := hp2
          unfold M.bind at hp2
          cases hr0 : rk env1 mu5 with
          | bad => rw [hr0] at hp2; exact (show False from hp2).elim
          | exc ex mu6 => rw [hr0] at hp2; exact fun m6 H6 g6 R6 => hp2 m6 H6 ((g2.trans g25).trans g6) R6
          | ok kd mu5b =>
          rw [hr0] at hp2
          dsimp only at hp2
          intro m5b H5b g5b R5b kv rkv
          have g25b : Grow m2 m5b H2 H5b := g25.trans g5b
          refine ⟨env1, m5b, mu5b, (hE4.grow g5).grow g5b, R5b, ?_⟩
          cases hr1 : r env1 mu5b with
          | bad => rw [hr1] at hp2; exact (show False from hp2).elim
          | exc ex mu6 => rw [hr1] at hp2; exact fun m6 H6 g6 R6 => hp2 m6 H6 ((g2.trans g25b).trans g6) R6
          | ok yd mu6 =>
            rw [hr1] at hp2
            dsimp only at hp2
            intro m6 H6 g6 R6 v rv
            have g26 : Grow m2 m6 H2 H6 := g25b.trans g6
            obtain ⟨s1, s2, s3⟩ := stay m6 H6 g26
            have hlen := hacc.length
            have hp3 : Post X.K W0 m1 H1 ((toK kd >>= fun k => loopCD asg t rk r p.2 ds (wipeE env vs) (putD acc k yd)) mu6) fun xs m' mu' H' => NewDk X.K H xs m' mu' H' Q := hp2
            obtain ⟨kk, rfl, hp4⟩ := toK_at (Rep.grow g6 kd kv rkv) hp3
            obtain ⟨ws, ew, hws⟩ := put_rep (k := kk) (Reps.grow g26 _ vs2 hacc) rv
            refine ⟨_, kk, rfl, s1, by rw [List.length_zip, List.length_map]; rw [List.length_map] at hlen; omega, ?_⟩
            rw [ew]
            have nD : ∀ b o, H6 b = some o → m6.Out b → b ≠ Dd := fun b o _ n z => n.2 (by rw [z]; exact s2)
            have kp : Keep m6 m6 H6 (upd H6 Dd (.dK (((putD acc kk yd).map (·.1)).zip ws))) := ⟨fun _ _ h => h, fun a o h n => ⟨by rw [upd_ne (nD a o h n)]; exact h, n⟩, fun a xs h => by rw [upd_ne (fun z => by rw [z, s1] at h; cases h)]; exact h, fun a u xs h => by rw [upd_ne (fun z => by rw [z, s1] at h; cases h)]; exact h⟩
            have g6f : Grow m1 m6 H1 (upd H6 Dd (.dK (((putD acc kk yd).map (·.1)).zip ws))) := by
              have g16 := g2.trans g26
              refine ⟨g16.ext, fun a o h n => ?_, fun a xs h => ?_, fun a o u h => ?_, fun a o h => ?_⟩
              · rw [upd_ne (hdead a o h)]; exact g16.oth a o h n
              · rw [upd_ne (hdead a _ h)]; exact g16.tups a xs h
              · rw [upd_ne (hdead a _ h)]; exact g16.frzs a o u h
              · rw [upd_ne (hdead a o h)]; exact g16.trk a o h
            refine fin (putD acc kk yd) ws m6 mu6 _ (by have := length_put (kvs := acc) (k := kk) (y := yd); omega) upd_same s2 s3 (hws m6 _ (Reps.keep kp _ vs2 (Reps.grow g26 _ vs2 hacc)) (Rep.keep kp yd v rv)) ?_ ((hE2.grow g26).keep kp) g6f hp4
            refine ⟨R6.len, R6.nd, fun a z => ?_, R6.dj, fun n ob a h1 h2 => (R6.obj n ob a h1 h2).keep kp fun u q => ?_⟩
            · by_cases za : a = Dd
              · subst za; exact ⟨_, upd_same⟩
              · rw [upd_ne za]; exact R6.nos a z
            · rw [upd_ne (fun z => s3 (by rw [← z]; exact List.mem_of_getElem? h2))]; exact q

def eNewK (r : Env → M (List (Key × D))) : Env → M D := fun env => r env >>= fun kvs => alloc (.dk kvs)
def eFd (r : Env → M (List (Key × D))) : Env → M D := fun env => r env >>= fun kvs => pure (.fd (kvs.map (·.1)) (kvs.map (·.2)))
theorem newK_go {r : Env → M (List (Key × D))} : ∀ σ H Q, tE X.K W (eNewK r) σ H Q → tK X.K W r σ H Q := fun σ H Q ⟨env, m, mu, hE, hR, hp⟩ => by
  refine ⟨env, m, mu, hE, hR, ?_⟩
  have e0 : eNewK r env mu = M.bind (r env) (fun xs => alloc (.dk xs)) mu := rfl
  rw [e0] at hp
  unfold M.bind at hp
  cases hr : r env mu with
  | ok xs mu1 =>
    rw [hr] at hp
    intro m1 H1 g1 R1 a vs h0 h1 hn hrs ha
    have q := hp (m1.add a) H1 (g1.adopt h0) ha (.ref a)
    exact q (by simp only [Rep]; exact ⟨a, rfl, add_get R1⟩)
  | exc x mu1 => rw [hr] at hp; exact hp
  | bad => rw [hr] at hp; exact hp
theorem fd_go {r : Env → M (List (Key × D))} : ∀ σ H Q, tE X.K W (eFd r) σ H Q → tK X.K W r σ H Q := fun σ H Q ⟨env, m, mu, hE, hR, hp⟩ =>
  ⟨env, m, mu, hE, hR, (Post.bind hp).mono fun xs m1 mu1 H1 g1 R1 hp a vs h0 h1 hn hr _ => Post.pure hp R1 _ (by simp only [Rep]; exact ⟨a, vs, rfl, h1, hn, by rw [List.length_map, List.length_map], hr⟩)⟩
theorem me_compD {scope : Scope} {own : List (Str × Nat)} {w : Env → M Wk} {asg : D → Env → M Env} {t : Env → M Bool} {rk r rr : Env → M D} {l : List Nat} (hc : X.calm = true) (hN : X.N.Nodup) (hi : MI X W tg iter w) (ok : BlkOk X.N X.env.scope scope own) (hl : ∀ i ∈ l, i ∈ own.map (·.2))
    (hg : ∀ (s : Shared) (H : Hp) (C : Addr) (cl : List (Str × Addr)) (fp : List Addr), MG (X.blk s H scope (compEnvC scope cl C X.env) fp) W0 tg l asg) (ht : ∀ (s : Shared) (H : Hp) (C : Addr) (cl : List (Str × Addr)) (fp : List Addr), MTs (X.blk s H scope (compEnvC scope cl C X.env) fp) W0 ifs t)
    (hk : ∀ (s : Shared) (H : Hp) (C : Addr) (cl : List (Str × Addr)) (fp : List Addr), ME (X.blk s H scope (compEnvC scope cl C X.env) fp) W0 kx rk)
    (he : ∀ (s : Shared) (H : Hp) (C : Addr) (cl : List (Str × Addr)) (fp : List Addr), ME (X.blk s H scope (compEnvC scope cl C X.env) fp) W0 vx r)
    (hrr : ∀ σ H Q, tE X.K W rr σ H Q → tK X.K W (kComp w asg t rk r (own.map (·.2))) σ H Q) (hs : ∀ x, foldedSetIterable iter X.env x = pure x := by intro _; rfl) :
    ME X W (.DictComp kx vx [⟨tg, iter, ifs, 0⟩] scope pos) rr :=
  ⟨(pe_dc hc hN hi.pi ok (fun s H C cl fp => (hg s H C cl fp).pg) (fun s H C cl fp => (ht s H C cl fp).pt) (fun s H C cl fp => (hk s H C cl fp).pe) (fun s H C cl fp => (he s H C cl fp).pe) hs).imp fun σ H Q q => comp_goD hl rfl σ H Q (hrr σ H Q q)⟩
end
end MP
/-! ### name = {..} on one line; enumerate of a tuple -/
namespace L2
open PySem PySem.Spec PyProof.Rows
section
variable {X : Cx}
theorem ps_setDc {i : Nat} {y : Str} {py : Pos} {kx vx tg iter : Expr} {ifs : List Expr} {scope : Scope} {own : List (Str × Nat)} {pos spos : Pos} {wi : TI} {g : TG} {tt : TT} {tk tv : TE} (hc : X.calm = true) (hN : X.N.Nodup) (hy : X.N[i]? = some y) (hyl : X.env.scope.names.lookup y = some .local)
    (hsw : swapsWith (.DictComp kx vx [⟨tg, iter, ifs, 0⟩] scope pos) (some (.Name y py)) spos.line X.env = pure true) (hi : PI X tg iter wi) (ok : BlkOk X.N X.env.scope scope own)
    (hg : ∀ (s : Shared) (H : Hp) (C : Addr) (cl : List (Str × Addr)) (fp : List Addr), PG (X.blk s H scope (compEnvC scope cl C X.env) fp) tg g) (ht : ∀ (s : Shared) (H : Hp) (C : Addr) (cl : List (Str × Addr)) (fp : List Addr), PTs (X.blk s H scope (compEnvC scope cl C X.env) fp) ifs tt)
    (hk : ∀ (s : Shared) (H : Hp) (C : Addr) (cl : List (Str × Addr)) (fp : List Addr), PE (X.blk s H scope (compEnvC scope cl C X.env) fp) kx tk)
    (he : ∀ (s : Shared) (H : Hp) (C : Addr) (cl : List (Str × Addr)) (fp : List Addr), PE (X.blk s H scope (compEnvC scope cl C X.env) fp) vx tv) (hs : ∀ x, foldedSetIterable iter X.env x = pure x := by intro _; rfl) :
    PS X (.Assign [.Name y py] (.DictComp kx vx [⟨tg, iter, ifs, 0⟩] scope pos) spos) (tAsg (tDc wi g tt tk tv (own.map (·.2))) (gName i)) := by
  refine ⟨fun pins s σ H D I h => ?_⟩
  rw [exec_Assign_Name_used _ _ _ _ hsw]
  refine wpAny_bind (wpAny_standAt (wpAny_bind ?_))
  show wpAny _ X.A (do let _ ← comprehension (.DictComp kx vx [⟨tg, iter, ifs, 0⟩] scope pos) scope X.env (firstIterPos [⟨tg, iter, ifs, 0⟩] pos) newDict false (eval iter X.env) (some (assign (.Name y py) X.env))) _ _ s
  have h : tDc wi g tt tk tv (own.map (·.2)) σ H (fun x H1 => gName i x σ H1 D.nx) := h
  refine wpAny_bind (thn (dc_core (Qf := fun _ s' => SP X pins D .next s') hc hN I hi ok hg ht hk he hs h fun L C s' m H' I' q hn f => ?_) fun _ s' hq => wpAny_pure (wpAny_pure hq))
  show wpAny _ _ (assign (.Name y py) X.env (.ref L)) _ _ _
  refine wpAny_assign_Name (store_ok2 (v := V.ref L) I' hN hy (.inl hyl) rfl (fun s2 I2 ⟨a, sb, ha⟩ => ?_) (.inr hyl))
  obtain ⟨f0, f1, f2, f3, f4, f5⟩ := f
  have haC : C ≠ a := by
    rcases ha with z | z
    · rw [z]; exact f1
    · exact fun e => f4 y a z e.symm
  refine ⟨m, hn.sameBut sb haC, fun h3 sb3 => ?_⟩
  exact ⟨_, H', I2.turned (t' := s2.toks) (fun b o hb e => (sb3.2 b hb).trans e) f0 f1 f3 f4 f5, q⟩
theorem sw_trueD {kx vx : Expr} {gs : List Comprehension} {scope : Scope} {pos py : Pos} {y : Str} {l : Nat} {env : Env} (hk : env.scope.kind = .function) (hy : env.scope.names.lookup y = some .local) (hl : (py.line == pos.line) = true)
    (ha : (scope.names.any fun (n, k) => n == y && (k == .local || k == .cell)) = false) : swapsWith (.DictComp kx vx gs scope pos) (some (.Name y py)) l env = pure true := by
  have ky : env.kindOf y = some .local := hy
  have hb : env.blockKind = .function := by unfold Env.blockKind; rw [hk]; rfl
  unfold swapsWith
  simp only [hb, ky, ha, Expr.pos, hl]
  rfl
end
end L2
namespace PySem
open Sem (wp)
open AutoSeq1 (wpAny_loadPart')
theorem meets_enumerate_newT (l : Addr) (items : Array Value) (n : Nat) (dct : Option Addr) (sl : Array (Option Value)) :
    Meets (Builtin.«enumerate.__new__» ⟨[.type "enumerate", .ref l], []⟩) (fun _ R s => s.heap.get? l = some { cls := .type "tuple", dict := dct, data := .seq items n, slots := sl } ∧
      R (.ok (.ret (.ref (s.heap.push { cls := .type "tuple_iterator", data := .fields #[.ref l, .int 0 0] }).objs.size)))
        { s with heap := (s.heap.push { cls := .type "tuple_iterator", data := .fields #[.ref l, .int 0 0] }).push { cls := .type "enumerate", data := .fields #[.none, .bool false, .ref s.heap.objs.size, rawInt 0, .none, .none] } }) :=
  .of_wp fun prog w A R s h => by
    obtain ⟨hp, g, d, tk, os⟩ := s; obtain ⟨hl, h⟩ := h
    have hsub := sub_enumerate
    have hL : Heap.IsTuple (Shared.heap ⟨hp, g, d, tk, os⟩) l items := ⟨_, hl, rfl, n, rfl⟩
    wp_walk using wpAny_loadPart' hl
    refine wpAny_stack_any fun st => wpAny_pure ?_
    split
    · rename_i c _ _ _ _ _
      cases (c == Value.type "enumerate")
      · wp_walk using wpAny_loadPart' hl, wpAny_pyIter_tuple hL
        exact ⟨_, rfl, h⟩
      · wp_walk using wpAny_loadPart' hl, wpAny_pyIter_tuple hL
        exact ⟨_, rfl, h⟩
    · wp_walk using wpAny_loadPart' hl, wpAny_pyIter_tuple hL
      exact ⟨_, rfl, h⟩
theorem call_enumerate_tuple {prog : Program} {w : World} {A : Around} {E : Value → Shared → Prop} {s : Shared} {l : Addr} {items : Array Value} {Q : Value → Shared → Prop} (hL : s.heap.IsTuple l items)
    (h : ∀ h', IsEnum h' (s.heap.objs.size + 1) s.heap.objs.size 0 .none → h'.IsTupleIter s.heap.objs.size l 0 → h'.objs.size = s.heap.objs.size + 2 →
      (∀ b o, s.heap.get? b = some o → h'.get? b = some o) → Q (.ref (s.heap.objs.size + 1)) { s with heap := h' }) :
    wpAny (model prog w) A (call (.type "enumerate") [.ref l]) Q E s := by
  obtain ⟨⟨c, dct, dt, sl⟩, hl, hc, n, hd⟩ := hL
  replace hc : c = .type "tuple" := hc
  replace hd : dt = .seq items n := hd
  subst hc hd
  refine callType_new F.called_enumerate (by decide) (F.typeCall_enumerate_1 _) (F.newCall_enumerate_1 _) (fun obj => F.args_object_init_2 obj _) F.entry_enumerate_new
    (meets_enumerate_newT l items n dct sl) ⟨hl, ?_⟩
  have hz : (s.heap.push { cls := .type "tuple_iterator", data := .fields #[.ref l, .int 0 0] }).objs.size = s.heap.objs.size + 1 := Heap.size_push ..
  show _ ∧ _
  rw [hz]
  have he : IsEnum ((s.heap.push { cls := .type "tuple_iterator", data := .fields #[.ref l, .int 0 0] }).push
      { cls := .type "enumerate", data := .fields #[.none, .bool false, .ref s.heap.objs.size, rawInt 0, .none, .none] }) (s.heap.objs.size + 1) s.heap.objs.size 0 .none := by
    have := Heap.get?_push_size (s.heap.push { cls := .type "tuple_iterator", data := .fields #[.ref l, .int 0 0] })
      (o := { cls := .type "enumerate", data := .fields #[.none, .bool false, .ref s.heap.objs.size, rawInt 0, .none, .none] }) rfl
    rw [hz] at this; exact this
  refine ⟨⟨_, he, rfl⟩, h _ he ⟨_, Heap.get?_push_of_some _ (Heap.get?_push_size _ rfl), rfl, rfl⟩ (by rw [Heap.size_push, hz]) fun b o x => Heap.get?_push_of_some _ (Heap.get?_push_of_some _ x)⟩
end PySem
namespace L2
open PySem PySem.Spec PyProof.Rows
/-- the tuple at a, each item in a new pair -/
def IteT (K : PySem.W.Frag) (a : Addr) : It :=
  ⟨fun i H => ∃ (xs : List V) (x : V), SqT K H a xs ∧ xs[i]? = some x, fun i H v H' => ∃ T x, v = .ref T ∧ H T = none ∧ H' = upd H T (.tup [.int (i : Nat), x]) ∧ ∀ xs, SqT K H a xs → xs[i]? = some x, fun i H => ∃ xs : List V, SqT K H a xs ∧ xs.length ≤ i⟩
theorem turn_enumT {P : Program} {w : World} {K : PySem.W.Frag} {elts : List Expr} {kk : Nat} {tpos : Pos} (a e it : Addr) (hait : a ≠ it) (hae : a ≠ e) :
    Turn P w K (.Tuple elts kk tpos) (IteT K a) [e, it] e (fun i h => (∃ old, IsEnum h e it ((i : Nat) : Int) old) ∧ h.IsTupleIter it a i ∧ e ≠ it) where
  mem := by simp
  obj := fun i h st b hb => by
    obtain ⟨⟨old, he⟩, ⟨o, ho, hc, hd⟩, _⟩ := st
    have e' : b = e ∨ b = it := by simpa using hb
    rcases e' with z | z
    · rw [z]; exact ⟨_, he, fun v q => nomatch q⟩
    · rw [z]; exact ⟨o, ho, fun v q => by rw [hd] at q; cases q⟩
  keep := fun i h h' st k => let ⟨⟨old, he⟩, hi, hne⟩ := st; ⟨⟨old, k e (by simp) _ he⟩, hi.at fun o q => k it (by simp) o q, hne⟩
  item := by
    intro X hP hw hK hc i pins s σ H E I hf st hg
    subst hP hw hK
    obtain ⟨⟨old, he⟩, hit, hne⟩ := st
    obtain ⟨xs, x, hq, hx⟩ := hg
    obtain ⟨its, rv, p, hz⟩ := I.tuple hq
    obtain ⟨u, hu, ru⟩ := rv.get hx
    have hel : e < s.heap.objs.size := Heap.lt_size he
    have hil : it < s.heap.objs.size := by obtain ⟨_, q, _⟩ := hit; exact Heap.lt_size q
    have hD := Draws.tuple (prog := X.prog) (w := X.w) (A := X.A.in1) (by show X.A.handled = none; exact I.ok.hd hc) it a hait its.toArray
    have hlt : i < its.toArray.size := by
      have := (List.getElem?_eq_some_iff.mp hu).1
      simpa using this
    refine wpAny_pyNext_enum_itemD hD he ⟨hit, p⟩ hlt hne (by simp; exact ⟨hne, fun z => hae z.symm⟩) fun u2 h' tk hP ho hst hT hsz hk => ?_
    have eu : u2 = u := by
      have hP : its.toArray[i]? = some u2 := hP
      rw [List.getElem?_toArray, hu] at hP
      exact (Option.some.inj hP).symm
    subst eu
    refine ⟨_, rfl, wpAny_letOwnedTupleGo_enum (s := { s with heap := h', toks := tk + 1 }) ho fun h'' he' sb => ?_⟩
    have hT2 : h''.get? s.heap.objs.size = some { cls := .type "tuple", data := .seq #[.int i tk, u2] } := (sb.2 _ (Nat.ne_of_gt hel)).trans hT
    have new : ObjOk X.prog X.w (upd H s.heap.objs.size (.tup [.int (i : Nat), x])) h'' s.heap.objs.size (.tup [.int (i : Nat), x]) :=
      ⟨by show 2 ≤ sizeLine; decide, [.int i tk, u2], .cons ⟨_, rfl⟩ (.cons ru .nil), ⟨_, hT2, rfl, _, rfl⟩⟩
    have I1 : Inv X pins σ (upd H s.heap.objs.size (.tup [.int (i : Nat), x])) { s with heap := h'', toks := tk + 1 } :=
      I.turnedNew (ch := [e, it]) (fun b ob hb q => (sb.2 b (fun z => hb (by simp [z]))).trans (hk b ob (fun z => hb (by simp [z])) (fun z => hb (by simp [z])) q)) hf (Nat.le_refl _) new
    refine ⟨.ref s.heap.objs.size, _, I1, rfl, ⟨_, x, rfl, I.hok.fresh (Nat.le_refl _), rfl, fun ys hy => by rw [I.tuple_inj hy hq]; exact hx⟩, ⟨⟨u2, ?_⟩, hst.1.at fun o q => (sb.2 it (Ne.symm hne)).trans q, hne⟩, fun b hb => ?_⟩
    · have e1 : ((i + 1 : Nat) : Int) = (i : Int) + 1 := by omega
      rw [e1]; exact he'
    · have hb' : b < s.heap.objs.size := by
        have e' : b = e ∨ b = it := by simpa using hb
        rcases e' with z | z
        · rw [z]; exact hel
        · rw [z]; exact hil
      rw [upd_ne (Nat.ne_of_lt hb')]
      exact (hf b hb).1
  done := by
    intro X hP hw hK hc i pins s σ H E I hf st hg
    subst hP hw hK
    obtain ⟨⟨old, he⟩, hit, hne⟩ := st
    obtain ⟨xs, hq, hx⟩ := hg
    obtain ⟨its, rv, p, hz⟩ := I.tuple hq
    obtain ⟨f0, f1, f2, f3, f4, f5⟩ := hf it (by simp)
    have hl := rv.length
    have hT : s.TypeIs (.ref e) "enumerate" := ⟨_, he, rfl⟩
    unfold pyNext
    refine wpAny_bind (wpAny_attempt (wpAny_callSpecial?_slot (name := Str.ofString "__next__") hT F.slot_enumerate_next
      (wpAny_call_entry F.slot_enumerate_next hT F.entry_enumerate_next ?_ (F.args_enumerate_next_1 _))))
    show wpAny _ _ (field (.ref e) 2 >>= _) _ _ _
    refine wpAny_bind (wpAny_field he rfl (x := .ref it) rfl ?_)
    refine wpAny_bind (wpAny_nextOf_tuple_end (by show X.A.handled = none; exact I.ok.hd hc) hit p (by simp; omega) fun h' x he' hx' => ?_)
    obtain ⟨o, ho, hc'⟩ := hx'
    refine wpAny_bind (wpAny_isInstance (T := "StopIteration") (b := true) ⟨o, ho, hc'⟩ isSubtype_stop ?_)
    exact wpAny_pure ⟨rfl, I.turned (t' := s.toks) (fun b o hb q => he' b o hb q) f0 f1 f3 f4 f5⟩
  self := fun A i s Q E st h => let ⟨⟨_, he⟩, _⟩ := st; wpAny_pyIter_enum he h
def iEnumT (K : PySem.W.Frag) (ta : TA) : TI := fun σ H R => ta σ H fun vs H1 => ∃ a xs, vs = [.ref a] ∧ SqT K H1 a xs ∧ R (IteT K a) H1
theorem pi_enumT {X : Cx} {e : Expr} {ta : TA} {p pos tpos : Pos} {elts : List Expr} {kk : Nat} (hg : Gl X "enumerate") (hm : X.mg "enumerate" = none) (ha : PA X [e] ta) (hs : starEach [e] X.env = [(false, eval e X.env)] := by rfl) :
    PI X (.Tuple elts kk tpos) (.Call (.Name "enumerate" p) [e] [] pos) (iEnumT X.K ta) := by
  refine ⟨fun pins s σ H R I h => ?_⟩
  refine Call_ (ld_blt I hg hm boot_enumerate (PyProof.Rows.callWith_type1 (thn (ha.run pos pins s σ H _ I h) fun us s1 ⟨vs, H1, I1, r1, q1⟩ => ?_) hs rfl))
  obtain ⟨a, xs, ex, hq, q⟩ := q1
  subst ex
  cases r1 with
  | cons r rr =>
    cases rr
    cases r
    obtain ⟨its, rv, p', hz⟩ := I1.tuple hq
    have hlt : a < s1.heap.objs.size := by obtain ⟨_, q, _⟩ := p'; exact Heap.lt_size q
    refine call_enumerate_tuple p' fun h' he hit hsz hk => wpAny_pyIter_enum he ?_
    have I2 : Inv X pins σ H1 { s1 with heap := h' } := I1.kept (t' := s1.toks) hk
    refine ⟨s1.heap.objs.size + 1, [s1.heap.objs.size + 1, s1.heap.objs.size], _, _, H1, rfl, I2, turn_enumT a (s1.heap.objs.size + 1) s1.heap.objs.size (Nat.ne_of_lt hlt) (Nat.ne_of_lt (Nat.lt_succ_of_lt hlt)), ⟨⟨.none, he⟩, hit, Nat.succ_ne_self _⟩, fun b hb => ?_, q⟩
    have e' : b = s1.heap.objs.size + 1 ∨ b = s1.heap.objs.size := by simpa using hb
    have hle : s1.heap.objs.size ≤ b := by
      rcases e' with z | z
      · rw [z]; exact Nat.le_add_right _ _
      · rw [z]; exact Nat.le_refl _
    exact I1.fpOk hle (I1.hok.fresh hle)
end L2
namespace MP
open PySem L2 PyProof.Rows
section
variable {X : Cx} {W : Wx} {e o a b tg iter elt kx vx : Expr} {es ifs : List Expr} {pos apos cpos p : Pos}
theorem ms_setD {i : Nat} {y : Str} {py spos : Pos} {scope : Scope} {own : List (Str × Nat)} {w : Env → M Wk} {asg : D → Env → M Env} {t : Env → M Bool} {rk r rr : Env → M D} {l : List Nat} (hc : X.calm = true) (hN : X.N.Nodup) (hy : X.N[i]? = some y) (hyl : X.env.scope.names.lookup y = some .local)
    (hsw : swapsWith (.DictComp kx vx [⟨tg, iter, ifs, 0⟩] scope pos) (some (.Name y py)) spos.line X.env = pure true) (hi : MI X W tg iter w) (ok : BlkOk X.N X.env.scope scope own) (hl : ∀ i ∈ l, i ∈ own.map (·.2))
    (hg : ∀ (s : Shared) (H : Hp) (C : Addr) (cl : List (Str × Addr)) (fp : List Addr), MG (X.blk s H scope (compEnvC scope cl C X.env) fp) W0 tg l asg) (ht : ∀ (s : Shared) (H : Hp) (C : Addr) (cl : List (Str × Addr)) (fp : List Addr), MTs (X.blk s H scope (compEnvC scope cl C X.env) fp) W0 ifs t)
    (hk : ∀ (s : Shared) (H : Hp) (C : Addr) (cl : List (Str × Addr)) (fp : List Addr), ME (X.blk s H scope (compEnvC scope cl C X.env) fp) W0 kx rk)
    (he : ∀ (s : Shared) (H : Hp) (C : Addr) (cl : List (Str × Addr)) (fp : List Addr), ME (X.blk s H scope (compEnvC scope cl C X.env) fp) W0 vx r)
    (hrr : ∀ σ H Q, tE X.K W rr σ H Q → tK X.K W (kComp w asg t rk r (own.map (·.2))) σ H Q) (hs : ∀ x, foldedSetIterable iter X.env x = pure x := by intro _; rfl) :
    MS X W (.Assign [.Name y py] (.DictComp kx vx [⟨tg, iter, ifs, 0⟩] scope pos) spos) (sSet i rr) :=
  ⟨(ps_setDc hc hN hy hyl hsw hi.pi ok (fun s H C cl fp => (hg s H C cl fp).pg) (fun s H C cl fp => (ht s H C cl fp).pt) (fun s H C cl fp => (hk s H C cl fp).pe) (fun s H C cl fp => (he s H C cl fp).pe) hs).imp fun D σ H q => comp_goD hl rfl σ H _ (hrr σ H _ (set_go D σ H q))⟩
theorem itOk_enumT {K : PySem.W.Frag} {m0 : Mp} {H0 : Hp} {ds : List D} {vs : List V} {a : Addr} (hs : SqT K H0 a vs) (hr : Reps K m0 H0 ds vs) : ItOk K [] (enumD 0 ds) (IteT K a) m0 H0 := fun m mu H gr R hg => by
  have hs' := gr.sqT hs
  have hr' := Reps.grow gr ds vs hr
  refine ⟨fun i hi => ⟨vs, hs', by rw [← hr.length, ← enumD_len ds 0]; exact hi⟩, fun i d hd => ?_⟩
  rw [enumD_get] at hd
  obtain ⟨x, hx, ed⟩ := Option.map_eq_some_iff.mp hd
  obtain ⟨v, hv, rv⟩ := hr'.get hx
  refine ⟨⟨vs, v, hs', hv⟩, fun y H' yy => ?_⟩
  obtain ⟨T, z, rfl, hn, rfl, u⟩ := yy
  have e2 := u vs hs'
  rw [hv] at e2
  cases e2
  subst ed
  rw [Int.zero_add]
  exact pairT R (by simp only [Rep]) rv hn
/-- enumerate of a list or a tuple -/
def wEnumA : List D → M Wk
  | [.tup xs] => pure (enumD 0 xs, [])
  | xs => wEnum xs
theorem mi_enumA {elts : List Expr} {kk : Nat} {tpos : Pos} {rs : Env → M (List D)} (hg : Gl X "enumerate") (hm : X.mg "enumerate" = none) (h : MA X W [a] rs) (hs : starEach [a] X.env = [(false, eval a X.env)] := by rfl) : MI X W (.Tuple elts kk tpos) (.Call (.Name "enumerate" p) [a] [] pos) (wThen wEnumA rs) :=
  ⟨pi_imp (pi_sz (pi_or (pi_enum hg hm h.pa hs) (pi_enumT hg hm h.pa hs))) fun σ H Q ⟨env, m, mu, hE, hR, hp⟩ => by
    have e0 : wThen wEnumA rs env mu = M.bind (rs env) wEnumA mu := rfl
    rw [e0] at hp
    unfold M.bind at hp
    cases hr : rs env mu with
    | exc x mu1 => rw [hr] at hp; exact .inl ⟨env, m, mu, hE, hR, by rw [hr]; exact hp⟩
    | bad => rw [hr] at hp; exact hp.elim
    | ok xs mu1 =>
      rw [hr] at hp
      replace hp : Post X.K W m H (wEnumA xs mu1) (fun p m' _ H' => p.1.length ≤ sizeLine → ∀ J, ItOk X.K p.2 p.1 J m' H' → Q J H') := hp
      have lst : ∀ xs, rs env mu = .ok xs mu1 → Post X.K W m H (wEnum xs mu1) (fun p m' _ H' => p.1.length ≤ sizeLine → ∀ J, ItOk X.K p.2 p.1 J m' H' → Q J H') → tA X.K W rs σ H (fun vs H1 => ∃ a xs, vs = [.ref a] ∧ SqL X.K H1 a xs ∧ (Sz X.K H1 → Q (Ite X.K a) H1)) := fun xs hr hp => by
        refine ⟨env, m, mu, hE, hR, ?_⟩
        rw [hr]
        intro m1 H1 g1 R1 vs rv
        have hp := hp.grow g1
        match xs, rv, hp with
        | [x], rv, hp =>
          obtain ⟨v, rfl, h1⟩ := rep1 rv
          obtain ⟨a, ds, g, vs, rfl, hs, hr, hk, hp⟩ := rdW_ok R1 h1 (Post.bind hp)
          exact ⟨a, vs, rfl, hs, fun sz => Post.pure hp R1 (by show (enumD 0 ds).length ≤ _; rw [enumD_len, hr.length]; exact sz.1 a vs hs) _ (itOk_enum hk)⟩
        | [], _, hp => exact (show False from hp).elim
        | _ :: _ :: _, _, hp => exact (show False from hp).elim
      cases xs with
      | nil => exact .inl (lst _ hr hp)
      | cons x xs =>
        cases x
        case tup ys =>
          cases xs with
          | cons y ys => exact .inl (lst _ hr hp)
          | nil =>
            refine .inr ⟨env, m, mu, hE, hR, ?_⟩
            rw [hr]
            intro m1 H1 g1 R1 vs rv
            obtain ⟨v, rfl, h1⟩ := rep1 rv
            simp only [Rep] at h1
            obtain ⟨a, vs, rfl, hs, hq⟩ := h1
            have hp2 := hp m1 H1 g1 R1
            exact ⟨a, vs, rfl, hs, fun sz => hp2 (by show (enumD 0 ys).length ≤ _; rw [enumD_len, hq.length]; exact sz.2 a vs hs) _ (itOk_enumT hs hq)⟩
        all_goals exact .inl (lst _ hr hp)⟩
/-! for simp -/
variable {mu : List MO} {env : Env} {d : D} {xs : List D}
@[simp] theorem wEnumA_tup : wEnumA [.tup xs] mu = .ok (enumD 0 xs, []) mu := rfl
@[simp] theorem wEnumA_fl : wEnumA [.fl xs] mu = .ok (enumD 0 xs, []) mu := rfl
@[simp] theorem wEnumA_ro : wEnumA [.ro xs] mu = .ok (enumD 0 xs, []) mu := rfl
@[simp] theorem gIsB_ap {neg x y : Bool} : gIsB neg (.bl x) (.bl y) mu = .ok (.bl (decide (x = y) != neg)) mu := rfl
@[simp] theorem gLe_int {i j : Int} : gLe (.int i) (.int j) mu = .ok (.bl (decide (i ≤ j))) mu := rfl
@[simp] theorem gGe_int {i j : Int} : gGe (.int i) (.int j) mu = .ok (.bl (decide (j ≤ i))) mu := rfl
@[simp] theorem gGt_int {i j : Int} : gGt (.int i) (.int j) mu = .ok (.bl (decide (j < i))) mu := rfl
@[simp] theorem gLe_str {i j : Str} : gLe (.str i) (.str j) mu = .ok (.bl (!ltS j i)) mu := rfl
@[simp] theorem gGe_str {i j : Str} : gGe (.str i) (.str j) mu = .ok (.bl (!ltS i j)) mu := rfl
@[simp] theorem gGt_str {i j : Str} : gGt (.str i) (.str j) mu = .ok (.bl (ltS j i)) mu := rfl
@[simp] theorem bTru_ap {ra : Env → M D} : bTru ra env = (ra env >>= truD) := rfl
@[simp] theorem truD_tup : truD (.tup xs) mu = .ok (!xs.isEmpty) mu := rfl
@[simp] theorem truD_fl : truD (.fl xs) mu = .ok (!xs.isEmpty) mu := rfl
@[simp] theorem truD_bl {b : Bool} : truD (.bl b) mu = .ok b mu := rfl
@[simp] theorem truD_non : truD .non mu = .ok false mu := rfl
@[simp] theorem sBad_ap : sBad env mu = .bad := rfl
@[simp] theorem eNewK_ap {r : Env → M (List (Key × D))} : eNewK r env = (r env >>= fun kvs => alloc (.dk kvs)) := rfl
@[simp] theorem eFd_ap {r : Env → M (List (Key × D))} : eFd r env = (r env >>= fun kvs => pure (.fd (kvs.map (·.1)) (kvs.map (·.2)))) := rfl
@[simp] theorem kComp_ap {w : Env → M Wk} {asg : D → Env → M Env} {t : Env → M Bool} {rk r : Env → M D} {vs : List Nat} : kComp w asg t rk r vs env = (w env >>= fun p => noX (loopCD asg t rk r p.2 p.1 (wipeE env vs) [])) := rfl
end
end MP
namespace MP
open PySem L2 PyProof.Rows
/-! ### more words that the laws share -/
/-- names: 0 state, 1 items, 2 found, 3 item -/
noncomputable def r__law_shuffled (d__law_draw : List D → M Rv) : MP.Env → M Fl :=
  (sSeq (sSet 2 (eNew (aList aNil)))
  (sSeq (sFor (eWalk (eVar 1)) (asgN 3)
  (sExpr (eMeth lstK gInsert (eVar 2) (aCons (eCall (lenD 2 d__law_draw) (aCons (eVar 0) (aCons (eBin gAdd (aThen (g1 gLen) (aCons (eVar 2) aNil)) (eC (.int 1))) aNil))) (aCons (eVar 3) aNil)))) [3])
  (sRet (eVar 2))))
noncomputable def den__law_shuffled (d__law_draw : List D → M Rv) : List D → M Rv := fun ds => noX (runB 4 (r__law_shuffled d__law_draw) ds)
/-- names: 0 state, 1 many, 2 letters, 3 start, 4 step, 5 shared, 6 k -/
noncomputable def r__law_words (d__law_draw : List D → M Rv) : MP.Env → M Fl :=
  (sSeq (sSet 2 (eC (.str "abcdefghijklmnopqrstuvwxyz")))
  (sSeq (sSet 3 (eCall (lenD 2 d__law_draw) (aCons (eVar 0) (aCons (eC (.int 26)) aNil))))
  (sSeq (sSet 4 (eBin gAdd (eC (.int 1)) (eBin gMul (eC (.int 2)) (eCall (lenD 2 d__law_draw) (aCons (eVar 0) (aCons (eC (.int 6)) aNil))))))
  (sSeq (sSet 5 (eSl (eC (.str "qxz")) oNone (oSome (eCall (lenD 2 d__law_draw) (aCons (eVar 0) (aCons (eC (.int 4)) aNil))))))
  (sSeq (eIf (eB (eBin (gEq false) (eCall (lenD 2 d__law_draw) (aCons (eVar 0) (aCons (eC (.int 2)) aNil))) (eC (.int 0))))
  (sRetF (fComp (wThen wRng1 (aCons (eVar 1) aNil)) (asgN 6) tYesM (eBin gAdd (eVar 5) (eBin gIx (eVar 2) (eBin gMod (aThen (g1 gInt) (aCons (eBin gAdd (eVar 3) (eBin gMul (eVar 6) (eVar 4))) aNil)) (eC (.int 26))))) [6]))
  sNext)
  (sRetF (fComp (wThen wRng1 (aCons (eVar 1) aNil)) (asgN 6) tYesM (eBin gAdd (eBin gIx (eVar 2) (eBin gMod (aThen (g1 gInt) (aCons (eBin gAdd (eVar 3) (eBin gMul (eVar 6) (eVar 4))) aNil)) (eC (.int 26)))) (eVar 5)) [6])))))))
noncomputable def den__law_words (d__law_draw : List D → M Rv) : List D → M Rv := fun ds => noX (runB 7 (r__law_words d__law_draw) ds)
/-! what is left behind, forgotten: the general way -/
open Classical in
/-- den where the input is as it should be -/
noncomputable def guardD (WF : List D → List MO → Prop) (den : List D → M Rv) : List D → M Rv := fun ds mu => if WF ds mu then den ds mu else .bad
theorem guardD_ok {WF : List D → List MO → Prop} {den : List D → M Rv} {ds : List D} {mu : List MO} (h : WF ds mu) : guardD WF den ds mu = den ds mu := by unfold guardD; rw [if_pos h]
/-- the first k places; a new list is handed out -/
def cutR (k : Nat) : R Rv → R Rv
  | .ok (.vl (.ref n)) mu' => if n < k then .ok (.vl (.ref n)) (mu'.take k) else match mu'[n]? with
    | some (.lst ys) => .ok (.fr ys) (mu'.take k)
    | _ => .bad
  | .ok rv mu' => .ok rv (mu'.take k)
  | .exc x mu' => .exc x (mu'.take k)
  | .bad => .bad
def forgetN (den : List D → M Rv) : List D → M Rv := fun ds mu => cutR mu.length (den ds mu)
/-- what comes back is whole without what is left behind -/
inductive Whole (k : Nat) (mu1 ex : List MO) : Rv → Rv → Prop
  | vl {d : D} : Clo k d → Whole k mu1 ex (.vl d) (.vl d)
  | new {n : Nat} {ys : List D} : k ≤ n → (mu1 ++ ex)[n]? = some (.lst ys) → Clos k ys → Whole k mu1 ex (.vl (.ref n)) (.fr ys)
  | fr {ys : List D} : Clos k ys → Whole k mu1 ex (.fr ys) (.fr ys)
theorem Whole.cut {k : Nat} {mu1 ex : List MO} {rv rv' : Rv} (h : Whole k mu1 ex rv rv') (hk : mu1.length = k) : cutR k (.ok rv (mu1 ++ ex)) = .ok rv' mu1 := by
  have e : (mu1 ++ ex).take k = mu1 := by rw [← hk, List.take_left]
  cases h with
  | vl hd =>
    rename_i d
    cases d
    case ref n =>
      show (if n < k then MP.R.ok (Rv.vl (D.ref n)) ((mu1 ++ ex).take k) else _) = _
      rw [if_pos (Clo.ref.mp hd), e]
    all_goals (show MP.R.ok (Rv.vl _) ((mu1 ++ ex).take k) = _; rw [e])
  | new hn hx hy =>
    rename_i n ys
    show (if n < k then MP.R.ok (Rv.vl (D.ref n)) ((mu1 ++ ex).take k) else match (mu1 ++ ex)[n]? with
      | some (.lst ys) => MP.R.ok (Rv.fr ys) ((mu1 ++ ex).take k)
      | _ => .bad) = _
    rw [if_neg (by omega), hx, e]
  | fr hy => show MP.R.ok (Rv.fr _) ((mu1 ++ ex).take k) = _; rw [e]
theorem forgetN_ok {den : List D → M Rv} {ds : List D} {mu mu1 ex : List MO} {rv rv' : Rv} (h : den ds mu = .ok rv (mu1 ++ ex)) (hk : mu1.length = mu.length) (hw : Whole mu.length mu1 ex rv rv') : forgetN den ds mu = .ok rv' mu1 := by
  unfold forgetN
  rw [h]
  exact hw.cut hk
theorem gc_guard {n : Nat} {den : List D → M Rv} {WF : List D → List MO → Prop} (h : ∀ ds mu, WF ds mu → ds.length = n → Clos mu.length ds → CloH mu → ∃ rv rv' mu1 ex, den ds mu = .ok rv (mu1 ++ ex) ∧ mu1.length = mu.length ∧ CloH mu1 ∧ Whole mu.length mu1 ex rv rv') : GC n den (guardD WF (forgetN den)) := fun ds mu hn hc hh => by
  by_cases hw : WF ds mu
  · obtain ⟨rv, rv', mu1, ex, e, hl, h1, hW⟩ := h ds mu hw hn hc hh
    rw [guardD_ok hw, forgetN_ok e hl hW]
    refine ⟨rv, mu1 ++ ex, e, by omega, ?_⟩
    rw [← hl] at hW
    cases hW with
    | vl hd => exact .vl (h1.frz ex) (hd _ _)
    | new hk hx hy => exact .newL hk hx (h1.frz ex) (hy _ _)
    | fr hy => exact .fr (h1.frz ex) (hy _ _)
  · have e : guardD WF (forgetN den) ds mu = .bad := by unfold guardD; rw [if_neg hw]
    rw [e]; trivial
theorem st_clo {k : Nat} {cs : List Int} {a b c : Int} : CloO k (st cs a b c) := by
  refine Clos.cons (Clo.fl.mpr (Clos.of fun d hd => ?_)) (Clos.cons Clo.int (Clos.cons Clo.int (Clos.cons Clo.int Clos.nil)))
  obtain ⟨i, _, e⟩ := List.mem_map.mp hd
  subst e
  exact Clo.int
theorem Nx.len {s : Nat} {cs : List Int} {mu mu' : List MO} (n : Nx s cs mu mu') : mu'.length = mu.length := by
  obtain ⟨a, b, c, e⟩ := n
  rw [e, List.length_set]
theorem Nx.clo {s : Nat} {cs : List Int} {mu mu' : List MO} (n : Nx s cs mu mu') (h : CloH mu) : CloH mu' := by
  have hl := n.len
  obtain ⟨a, b, c, e⟩ := n
  intro o ho
  rw [hl]
  rw [e] at ho
  rcases List.mem_or_eq_of_mem_set ho with z | z
  · exact h o z
  · rw [z]; exact st_clo
/-- the state moved on, over further places -/
theorem Nx.app {s : Nat} {cs : List Int} {mu ex mu' : List MO} (h : At s cs mu) (n : Nx s cs (mu ++ ex) mu') : ∃ mu1, mu' = mu1 ++ ex ∧ Nx s cs mu mu1 := by
  obtain ⟨a, b, c, e⟩ := n
  exact ⟨mu.set s (st cs a b c), by rw [e, List.set_append_left _ _ h.lt], a, b, c, rfl⟩
theorem At.app {s : Nat} {cs : List Int} {mu : List MO} (h : At s cs mu) (ex : List MO) : At s cs (mu ++ ex) := by
  have hl := h.lt
  obtain ⟨a, b, c, h⟩ := h
  exact ⟨a, b, c, by rw [List.getElem?_append_left hl]; exact h⟩
@[simp] theorem lstK_ref {n : Nat} {mu : List MO} {xs : List D} (h : mu[n]? = some (.lst xs)) : lstK (.ref n) mu = .ok () mu := by
  have e1 : lstK (.ref n) mu = match mu[n]? with
    | some (.lst _) => MP.R.ok () mu
    | _ => .bad := rfl
  rw [e1, h]
/-! shuffled -/
theorem modL_at {n : Nat} {xs ys : List D} {d : D} {f : List D → Option (List D × D)} {mu : List MO} (h : mu[n]? = some (.lst xs)) (hf : f xs = some (ys, d)) : modL n f mu = .ok d (mu.set n (.lst ys)) := by
  unfold modL
  rw [h, modLr_lst, hf]
theorem insert_ok {n : Nat} {xs : List D} {d : D} {i : Int} {mu : List MO} (h : mu[n]? = some (.lst xs)) (hz : xs.length < sizeLine) (h0 : 0 ≤ i) (h1 : i < 2 ^ 63) : gInsert (.ref n) [.int i, d] mu = .ok .non (mu.set n (.lst (xs.take i.toNat ++ [d] ++ xs.drop i.toNat))) := by
  show ((toI (.int i) : M Int) >>= fun i => modL n fun xs => if xs.length < sizeLine ∧ 0 ≤ i ∧ i < 2 ^ 63 then some (xs.take i.toNat ++ [d] ++ xs.drop i.toNat, .non) else none) mu = _
  rw [bind_ap, toI_int]
  exact modL_at h (by rw [if_pos ⟨hz, h0, h1⟩])
theorem append_ok {n : Nat} {xs : List D} {d : D} {mu : List MO} (h : mu[n]? = some (.lst xs)) (hz : xs.length < sizeLine) : gAppend (.ref n) [d] mu = .ok .non (mu.set n (.lst (xs ++ [d]))) := modL_at h (by rw [if_pos hz])
theorem set_last {mu1 : List MO} {x y : MO} {k : Nat} (h : k = mu1.length) : (mu1 ++ [x]).set k y = mu1 ++ [y] := by subst h; simp [List.set_append]
theorem get_last {mu1 : List MO} {x : MO} {k : Nat} (h : k = mu1.length) : (mu1 ++ [x])[k]? = some x := by subst h; simp
theorem shuf_loop {s : Nat} {cs : List Int} {d : D} {n : Nat} : ∀ (rest ys : List D) (mu1 : List MO) (o3 : Option D), At s cs mu1 → n = mu1.length → ys.length + rest.length < 1000 → ∃ ys' mu2,
    loopF (asgN 3) (sExpr (eMeth lstK gInsert (eVar 2) (aCons (eCall (lenD 2 den__law_draw) (aCons (eVar 0) (aCons (eBin gAdd (aThen (g1 gLen) (aCons (eVar 2) aNil)) (eC (.int 1))) aNil))) (aCons (eVar 3) aNil)))) [3] [] rest [some (.ref s), some d, some (.ref n), o3] (mu1 ++ [.lst ys]) =
      .ok (.nx [some (.ref s), some d, some (.ref n), none]) (mu2 ++ [.lst ys']) ∧ Nx s cs mu1 mu2 ∧ ys'.Perm (ys ++ rest)
  | [], ys, mu1, o3, A, hn, hl => ⟨ys, mu1, by rw [loopF_nil]; rfl, .refl A, by rw [List.append_nil]⟩
  | x :: rest, ys, mu1, o3, A, hn, hl => by
    have hg := get_last (x := .lst ys) hn
    obtain ⟨i, mu', e, nx, h0, h1⟩ := draw_at (most := (ys.length : Int) + 1) (A.app [.lst ys]) (by omega) (log2_small (by rw [List.length_cons] at hl; omega))
    obtain ⟨mu2, rfl, n2⟩ := Nx.app A nx
    have hn2 : n = mu2.length := by rw [n2.len]; exact hn
    have hg2 := get_last (x := .lst ys) hn2
    have hins := insert_ok (d := x) (i := i) hg2 (by rw [List.length_cons] at hl; rw [sizeLine_eq]; omega) h0 (by rw [List.length_cons] at hl; omega)
    rw [set_last hn2] at hins
    have hlen : (ys.take i.toNat ++ [x] ++ ys.drop i.toNat).length = ys.length + 1 := by simp; omega
    obtain ⟨ys', mu3, h2, h3, h4⟩ := shuf_loop (s := s) (cs := cs) (d := d) (n := n) rest (ys.take i.toNat ++ [x] ++ ys.drop i.toNat) mu2 (some x) (n2.at_ A) hn2 (by rw [hlen]; rw [List.length_cons] at hl; omega)
    refine ⟨ys', mu3, ?_, n2.trans h3, h4.trans ?_⟩
    · rw [loopF_cons]
      have hlg : gLen (.ref n) (mu1 ++ [.lst ys]) = .ok (.int ys.length) (mu1 ++ [.lst ys]) := gLen_ref hg
      simp [lstK_ref hg, hlg, e, hins]
      simpa using h2
    · have p1 : (ys.take i.toNat ++ [x] ++ ys.drop i.toNat).Perm (x :: ys) := by
        have z : ys.take i.toNat ++ [x] ++ ys.drop i.toNat = ys.take i.toNat ++ x :: ys.drop i.toNat := by simp
        rw [z]
        exact List.perm_middle.trans (by rw [List.take_append_drop])
      exact (p1.append_right rest).trans (List.perm_middle (l₁ := ys) (l₂ := rest) (a := x)).symm
theorem shuffled_ok {s : Nat} {cs : List Int} {d : D} {xs : List D} {mu : List MO} (A : At s cs mu) (hd : seqOf d = some xs) (hl : xs.length < 1000) : ∃ ys mu1, den__law_shuffled den__law_draw [.ref s, d] mu = .ok (.vl (.ref mu.length)) (mu1 ++ [.lst ys]) ∧ Nx s cs mu mu1 ∧ ys.Perm xs := by
  obtain ⟨ys, mu1, h1, h2, h3⟩ := shuf_loop (s := s) (cs := cs) (d := d) xs [] mu none A rfl (by simpa using hl)
  refine ⟨ys, mu1, noX_ok ?_, h2, h3⟩
  simp [r__law_shuffled, startE, seqOf_walk hd, h1]
/-- shuffled, without what it leaves behind -/
def shufWF (ds : List D) (mu : List MO) : Prop := ∃ s cs d xs, ds = [.ref s, d] ∧ At s cs mu ∧ seqOf d = some xs ∧ xs.length < 1000
noncomputable def shufD : List D → M Rv := guardD shufWF (forgetN (den__law_shuffled den__law_draw))
theorem seqOf_clo {k : Nat} {d : D} {xs : List D} (h : seqOf d = some xs) (hc : Clo k d) : Clos k xs := by
  cases d <;> simp [seqOf] at h
  · subst h; exact Clo.tup.mp hc
  · subst h; exact Clo.fl.mp hc
  · subst h; exact Clo.ro.mp hc
theorem shuf_whole {s : Nat} {cs : List Int} {d : D} {xs : List D} {mu : List MO} (A : At s cs mu) (hd : seqOf d = some xs) (hl : xs.length < 1000) (hc : Clos mu.length xs) : ∃ ys mu1, den__law_shuffled den__law_draw [.ref s, d] mu = .ok (.vl (.ref mu.length)) (mu1 ++ [.lst ys]) ∧ Nx s cs mu mu1 ∧ ys.Perm xs ∧ Whole mu.length mu1 [.lst ys] (.vl (.ref mu.length)) (.fr ys) := by
  obtain ⟨ys, mu1, e, n, p⟩ := shuffled_ok A hd hl
  exact ⟨ys, mu1, e, n, p, .new (Nat.le_refl _) (get_last n.len.symm) (Clos.of fun x hx => hc.mem x (p.mem_iff.mp hx))⟩
theorem gc_shuf : GC 2 (den__law_shuffled den__law_draw) shufD := gc_guard fun ds mu hw hn hc hh => by
  obtain ⟨s, cs, d, xs, rfl, A, hd, hl⟩ := hw
  obtain ⟨ys, mu1, e, n, p, w⟩ := shuf_whole A hd hl (seqOf_clo hd hc.inv.2.inv.1)
  exact ⟨_, _, mu1, _, e, n.len, n.clo hh, w⟩
theorem shufD_ok {s : Nat} {cs : List Int} {d : D} {xs : List D} {mu : List MO} (A : At s cs mu) (hd : seqOf d = some xs) (hl : xs.length < 1000) (hc : Clos mu.length xs) : ∃ ys mu1, shufD [.ref s, d] mu = .ok (.fr ys) mu1 ∧ Nx s cs mu mu1 ∧ ys.Perm xs := by
  obtain ⟨ys, mu1, e, n, p, w⟩ := shuf_whole A hd hl hc
  refine ⟨ys, mu1, ?_, n, p⟩
  unfold shufD
  rw [guardD_ok ⟨s, cs, d, xs, rfl, A, hd, hl⟩]
  exact forgetN_ok e n.len w
end MP
namespace MP
open PySem L2 PyProof.Rows
/-! ### drawn words -/
structure GoodW (w : Str) : Prop where
  pos : 1 ≤ w.length
  le : w.length ≤ 4
  low : ∀ c ∈ w.cps.toList, 97 ≤ c ∧ c ≤ 122
def wd (front : Bool) (sh : Str) (c : Nat) : Str := if front = true then sh ++ ⟨#[c]⟩ else ⟨#[c]⟩ ++ sh
theorem wd_good {front : Bool} {sh : Str} {c : Nat} (h : sh.length ≤ 3) (hs : ∀ c ∈ sh.cps.toList, 97 ≤ c ∧ c ≤ 122) (hc : 97 ≤ c ∧ c ≤ 122) : GoodW (wd front sh c) := by
  have h1 : (⟨#[c]⟩ : Str).length = 1 := rfl
  unfold wd
  cases front
  · refine ⟨?_, ?_, fun x hx => ?_⟩
    · simp only [Bool.false_eq_true, if_false]; rw [len_append, h1]; omega
    · simp only [Bool.false_eq_true, if_false]; rw [len_append, h1]; omega
    · simp only [Bool.false_eq_true, if_false] at hx
      rw [cps_append] at hx
      rcases List.mem_append.mp hx with z | z
      · simp at z; rw [z]; exact hc
      · exact hs x z
  · refine ⟨?_, ?_, fun x hx => ?_⟩
    · simp only [if_true]; rw [len_append, h1]; omega
    · simp only [if_true]; rw [len_append, h1]; omega
    · simp only [if_true] at hx
      rw [cps_append] at hx
      rcases List.mem_append.mp hx with z | z
      · exact hs x z
      · simp at z; rw [z]; exact hc
theorem wd_inj {front : Bool} {sh : Str} {c d : Nat} (h : wd front sh c = wd front sh d) : c = d := by
  have e := congrArg (fun z : Str => z.cps.toList) h
  unfold wd at e
  cases front
  · simp only [Bool.false_eq_true, if_false] at e
    rw [cps_append, cps_append] at e
    simp at e
    exact e
  · simp only [if_true] at e
    rw [cps_append, cps_append] at e
    simp at e
    exact e
theorem step_inj {a d i j : Nat} (hd : d < 6) (hi : i < 26) (hj : j < 26) (h : (a + i * (1 + 2 * d)) % 26 = (a + j * (1 + 2 * d)) % 26) : i = j := by
  have : d = 0 ∨ d = 1 ∨ d = 2 ∨ d = 3 ∨ d = 4 ∨ d = 5 := by omega
  rcases this with rfl | rfl | rfl | rfl | rfl | rfl <;> omega
def wordAt (front : Bool) (sh : Str) (a d i : Nat) : Str := wd front sh (97 + (a + i * (1 + 2 * d)) % 26)
theorem letter_at {x : Nat} (h : x < 26) : atI (Str.ofString "abcdefghijklmnopqrstuvwxyz").cps.toList ((x : Nat) : Int) = some (97 + x) := by
  have e : ∀ x : Fin 26, (Str.ofString "abcdefghijklmnopqrstuvwxyz").cps.toList[x.val]? = some (97 + x.val) := by decide +kernel
  have hl : (Str.ofString "abcdefghijklmnopqrstuvwxyz").cps.toList.length = 26 := by decide +kernel
  unfold atI ixN
  rw [hl, if_pos (by omega), if_pos (by omega)]
  exact e ⟨x, h⟩
theorem shared_ok {d : Int} (h0 : 0 ≤ d) (h1 : d < 4) : ∃ sh : Str, (∀ mu, gSl (.str "qxz") none (some d) mu = .ok (.str sh) mu) ∧ sh.length ≤ 3 ∧ ∀ c ∈ sh.cps.toList, 97 ≤ c ∧ c ≤ 122 := by
  refine ⟨cutS "qxz" none (some d), fun mu => ?_, ?_⟩
  · show ((need ((Str.ofString "qxz").length ≤ sizeLine) : M Unit) >>= fun _ => (pure (.str (cutS "qxz" none (some d))) : M D)) mu = _
    rw [bind_ap, need_ap, if_pos (by decide +kernel)]; rfl
  · have : d = 0 ∨ d = 1 ∨ d = 2 ∨ d = 3 := by omega
    rcases this with rfl | rfl | rfl | rfl <;> decide +kernel
noncomputable def wordsR (lt qz : Str) (d__law_draw : List D → M Rv) : MP.Env → M Fl :=
  (sSeq (sSet 2 (eC (.str lt)))
  (sSeq (sSet 3 (eCall (lenD 2 d__law_draw) (aCons (eVar 0) (aCons (eC (.int 26)) aNil))))
  (sSeq (sSet 4 (eBin gAdd (eC (.int 1)) (eBin gMul (eC (.int 2)) (eCall (lenD 2 d__law_draw) (aCons (eVar 0) (aCons (eC (.int 6)) aNil))))))
  (sSeq (sSet 5 (eSl (eC (.str qz)) oNone (oSome (eCall (lenD 2 d__law_draw) (aCons (eVar 0) (aCons (eC (.int 4)) aNil))))))
  (sSeq (eIf (eB (eBin (gEq false) (eCall (lenD 2 d__law_draw) (aCons (eVar 0) (aCons (eC (.int 2)) aNil))) (eC (.int 0))))
  (sRetF (fComp (wThen wRng1 (aCons (eVar 1) aNil)) (asgN 6) tYesM (eBin gAdd (eVar 5) (eBin gIx (eVar 2) (eBin gMod (aThen (g1 gInt) (aCons (eBin gAdd (eVar 3) (eBin gMul (eVar 6) (eVar 4))) aNil)) (eC (.int 26))))) [6]))
  sNext)
  (sRetF (fComp (wThen wRng1 (aCons (eVar 1) aNil)) (asgN 6) tYesM (eBin gAdd (eBin gIx (eVar 2) (eBin gMod (aThen (g1 gInt) (aCons (eBin gAdd (eVar 3) (eBin gMul (eVar 6) (eVar 4))) aNil)) (eC (.int 26)))) (eVar 5)) [6])))))))
theorem word_front {a k i : Int} {lt sh : Str} {c : Nat} {x y : D} {mu : List MO} (h1 : gMul (.int i) (.int k) mu = .ok (.int (i * k)) mu) (h2 : gIx (.str lt) (.int ((a + i * k) % 26)) mu = .ok (.str ⟨#[c]⟩) mu) (h3 : gAdd (.str sh) (.str ⟨#[c]⟩) mu = .ok (.str (sh ++ ⟨#[c]⟩)) mu) :
    eBin gAdd (eVar 5) (eBin gIx (eVar 2) (eBin gMod (aThen (g1 gInt) (aCons (eBin gAdd (eVar 3) (eBin gMul (eVar 6) (eVar 4))) aNil)) (eC (.int 26)))) [some x, some y, some (.str lt), some (.int a), some (.int k), some (.str sh), some (.int i)] mu = .ok (.str (sh ++ ⟨#[c]⟩)) mu := by
  simp [h1, h2, h3, -gAdd_str]
theorem word_back {a k i : Int} {lt sh : Str} {c : Nat} {x y : D} {mu : List MO} (h1 : gMul (.int i) (.int k) mu = .ok (.int (i * k)) mu) (h2 : gIx (.str lt) (.int ((a + i * k) % 26)) mu = .ok (.str ⟨#[c]⟩) mu) (h3 : gAdd (.str ⟨#[c]⟩) (.str sh) mu = .ok (.str (⟨#[c]⟩ ++ sh)) mu) :
    eBin gAdd (eBin gIx (eVar 2) (eBin gMod (aThen (g1 gInt) (aCons (eBin gAdd (eVar 3) (eBin gMul (eVar 6) (eVar 4))) aNil)) (eC (.int 26)))) (eVar 5) [some x, some y, some (.str lt), some (.int a), some (.int k), some (.str sh), some (.int i)] mu = .ok (.str (⟨#[c]⟩ ++ sh)) mu := by
  simp [h1, h2, h3, -gAdd_str]
theorem wordsR_ok {lt qz : Str} (hz : lt.length ≤ sizeLine) (hlt : ∀ x : Nat, x < 26 → atI lt.cps.toList ((x : Nat) : Int) = some (97 + x)) (hqz : ∀ d : Int, 0 ≤ d → d < 4 → ∃ sh : Str, (∀ mu, gSl (.str qz) none (some d) mu = .ok (.str sh) mu) ∧ sh.length ≤ 3 ∧ ∀ c ∈ sh.cps.toList, 97 ≤ c ∧ c ≤ 122) {s : Nat} {cs : List Int} {n : Nat} {mu : List MO} (A : At s cs mu) (hn : n ≤ 26) : ∃ (ws : List Str) (mu' : List MO), noX (runB 7 (wordsR lt qz den__law_draw) [.ref s, .int n]) mu = .ok (.fr (ws.map D.str)) mu' ∧ Nx s cs mu mu' ∧ ws.length = n ∧ ws.Nodup ∧ ∀ w ∈ ws, GoodW w := by
  obtain ⟨a, m1, e1, n1, a0, a1⟩ := draw_at (most := 26) A (by decide) (by decide)
  obtain ⟨d, m2, e2, n2', d0, d1⟩ := draw_at (most := 6) (n1.at_ A) (by decide) (by decide)
  have n2 := n1.trans n2'
  obtain ⟨q, m3, e3, n3', q0, q1⟩ := draw_at (most := 4) (n2.at_ A) (by decide) (by decide)
  have n3 := n2.trans n3'
  obtain ⟨f, m4, e4, n4', f0, f1⟩ := draw_at (most := 2) (n3.at_ A) (by decide) (by decide)
  have n4 := n3.trans n4'
  obtain ⟨sh, esh, hsl, hsc⟩ := hqz q q0 q1
  obtain ⟨a, rfl⟩ := Int.eq_ofNat_of_zero_le a0
  obtain ⟨d, rfl⟩ := Int.eq_ofNat_of_zero_le d0
  have s64 : -(2 ^ 64) < (1 + 2 * (d : Int)) ∧ (1 + 2 * (d : Int)) < 2 ^ 64 := by omega
  have t64 : -(2 ^ 64) < (d : Int) ∧ (d : Int) < 2 ^ 64 := by omega
  have hcat : ∀ c : Nat, sh.length + (⟨#[c]⟩ : Str).length ≤ sizeLine := fun c => by
    have : (⟨#[c]⟩ : Str).length = 1 := rfl
    rw [this, sizeLine_eq]; omega
  have hcat' : ∀ c : Nat, (⟨#[c]⟩ : Str).length + sh.length ≤ sizeLine := fun c => by rw [Nat.add_comm]; exact hcat c
  obtain ⟨ch, hch⟩ : ∃ ch : Nat → Nat, ∀ i, ch i = 97 + (a + i * (1 + 2 * d)) % 26 := ⟨fun i => 97 + (a + i * (1 + 2 * d)) % 26, fun _ => rfl⟩
  have hix : ∀ (i : Nat) (mu : List MO), gIx (.str lt) (.int (((a : Int) + (i : Int) * (1 + 2 * (d : Int))) % 26)) mu = .ok (.str ⟨#[ch i]⟩) mu := fun i mu => by
    have e : ((a : Int) + (i : Int) * (1 + 2 * (d : Int))) % 26 = (((a + i * (1 + 2 * d)) % 26 : Nat) : Int) := by push_cast; rfl
    rw [e, hch]
    exact gIx_str hz (hlt _ (Nat.mod_lt _ (by decide)))
  have hwt : ∀ i, wordAt true sh a d i = sh ++ ⟨#[ch i]⟩ := fun i => by rw [hch]; rfl
  have hwf : ∀ i, wordAt false sh a d i = ⟨#[ch i]⟩ ++ sh := fun i => by rw [hch]; rfl
  have hgood : ∀ front i, GoodW (wordAt front sh a d i) := fun front i => wd_good hsl hsc (by have := Nat.mod_lt (a + i * (1 + 2 * d)) (show 0 < 26 by decide); omega)
  have hnd : ∀ front, ((List.range n).map (wordAt front sh a d)).Nodup := fun front => by
    rw [List.nodup_iff_pairwise_ne, List.pairwise_map]
    exact (List.nodup_range (n := n)).imp_of_mem fun hi hj hij e => hij (step_inj (a := a) (d := d) (by omega) (by have := List.mem_range.mp hi; omega) (by have := List.mem_range.mp hj; omega) (by have := wd_inj e; omega))
  have hm : ∀ (i : Int) (mu : List MO), gMul (.int i) (.int (1 + 2 * (d : Int))) mu = .ok (.int (i * (1 + 2 * (d : Int)))) mu := fun i mu => gMul_small s64
  have hm2 : ∀ (i : Int) (mu : List MO), gMul (.int i) (.int (d : Int)) mu = .ok (.int (i * (d : Int))) mu := fun i mu => gMul_small t64
  have hr : ∀ r : MP.Env → M D, ∀ front, (∀ i env1, env1 = [some (D.ref s), some (.int n), some (.str lt), some (.int a), some (.int (1 + 2 * (d : Int))), some (.str sh), some (.int ((i : Nat) : Int))] → r env1 m4 = .ok (.str (wordAt front sh a d i)) m4) →
      loopC (asgN 6) tYesM r [] (rngD 0 n) [some (D.ref s), some (.int n), some (.str lt), some (.int a), some (.int (1 + 2 * (d : Int))), some (.str sh), none] m4 = .ok (((List.range n).map (wordAt front sh a d)).map D.str) m4 := fun r front h => by
    unfold rngD
    rw [List.map_map]
    refine loopC_map' fun i hi => ⟨_, rfl, rfl, ?_⟩
    exact h i _ (by simp)
  have hw := wRng1_ok (n := (n : Int)) (mu := m4) (by omega)
  have hnn : ((n : Int)).toNat = n := by omega
  rw [hnn] at hw
  by_cases c : f = 0
  · refine ⟨(List.range n).map (wordAt true sh a d), m4, noX_ok ?_, n4, by simp, hnd true, fun w hw => by
      obtain ⟨i, _, e⟩ := List.mem_map.mp hw
      rw [← e]; exact hgood true i⟩
    have hl := hr (eBin gAdd (eVar 5) (eBin gIx (eVar 2) (eBin gMod (aThen (g1 gInt) (aCons (eBin gAdd (eVar 3) (eBin gMul (eVar 6) (eVar 4))) aNil)) (eC (.int 26))))) true (fun i env1 e => by
      subst e
      rw [hwt]
      exact word_front (hm _ _) (hix i m4) (by rw [gAdd_str, if_pos (hcat _)]))
    simp [wordsR, startE, e1, e2, hm2, e3, esh, e4, c, gEq_ints, hw, noX_ok hl]
  · refine ⟨(List.range n).map (wordAt false sh a d), m4, noX_ok ?_, n4, by simp, hnd false, fun w hw => by
      obtain ⟨i, _, e⟩ := List.mem_map.mp hw
      rw [← e]; exact hgood false i⟩
    have hl := hr (eBin gAdd (eBin gIx (eVar 2) (eBin gMod (aThen (g1 gInt) (aCons (eBin gAdd (eVar 3) (eBin gMul (eVar 6) (eVar 4))) aNil)) (eC (.int 26)))) (eVar 5)) false (fun i env1 e => by
      subst e
      rw [hwf]
      exact word_back (hm _ _) (hix i m4) (by rw [gAdd_str, if_pos (hcat' _)]))
    simp [wordsR, startE, e1, e2, hm2, e3, esh, e4, c, gEq_ints, hw, noX_ok hl]
theorem words_ok {s : Nat} {cs : List Int} {n : Nat} {mu : List MO} (A : At s cs mu) (hn : n ≤ 26) : ∃ (ws : List Str) (mu' : List MO), den__law_words den__law_draw [.ref s, .int n] mu = .ok (.fr (ws.map D.str)) mu' ∧ Nx s cs mu mu' ∧ ws.length = n ∧ ws.Nodup ∧ ∀ w ∈ ws, GoodW w :=
  wordsR_ok (lt := "abcdefghijklmnopqrstuvwxyz") (qz := "qxz") (by decide +kernel) (fun x h => letter_at h) (fun d h0 h1 => shared_ok h0 h1) A hn
end MP
namespace MP
open PySem L2 PyProof.Rows
/-! ### what is left behind, forgotten for every def: the freezing is a function -/
section
variable {mu : List MO} {k : Nat} {ok : Nat → Prop}
theorem Frz.fun_both : (∀ {d d1 : D}, Frz mu k ok d d1 → ∀ d2, Frz mu k ok d d2 → d1 = d2) ∧ (∀ {d d1 : List D}, Frzs mu k ok d d1 → ∀ d2, Frzs mu k ok d d2 → d1 = d2) := by
  refine ⟨fun {d d1} q => ?_, fun {d d1} q => ?_⟩
  · exact Frz.rec (motive_1 := fun d d1 _ => ∀ d2, Frz mu k ok d d2 → d1 = d2) (motive_2 := fun d d1 _ => ∀ d2, Frzs mu k ok d d2 → d1 = d2)
      (fun d2 h => by cases h; rfl) (fun b d2 h => by cases h; rfl) (fun i d2 h => by cases h; rfl) (fun x d2 h => by cases h; rfl)
      (fun _ ih d2 h => by cases h with | tup q => rw [ih _ q]) (fun _ ih d2 h => by cases h with | fl q => rw [ih _ q]) (fun _ ih d2 h => by cases h with | ro q => rw [ih _ q]) (fun _ ih d2 h => by cases h with | fd q => rw [ih _ q])
      (fun hn d2 h => by cases h with | ref _ => rfl | lst h1 _ _ _ => omega | dk h1 _ _ _ => omega)
      (fun hk _ hx _ ih d2 h => by cases h with
        | ref h1 => omega
        | lst _ _ hx' q => rw [hx] at hx'; cases hx'; rw [ih _ q]
        | dk _ _ hx' q => rw [hx] at hx'; cases hx')
      (fun hk _ hx _ ih d2 h => by cases h with
        | ref h1 => omega
        | lst _ _ hx' q => rw [hx] at hx'; cases hx'
        | dk _ _ hx' q => rw [hx] at hx'; cases hx'; rw [ih _ q])
      (fun d2 h => by cases h; rfl) (fun _ _ ih ihs d2 h => by cases h with | cons a b => rw [ih _ a, ihs _ b]) q
  · exact Frzs.rec (motive_1 := fun d d1 _ => ∀ d2, Frz mu k ok d d2 → d1 = d2) (motive_2 := fun d d1 _ => ∀ d2, Frzs mu k ok d d2 → d1 = d2)
      (fun d2 h => by cases h; rfl) (fun b d2 h => by cases h; rfl) (fun i d2 h => by cases h; rfl) (fun x d2 h => by cases h; rfl)
      (fun _ ih d2 h => by cases h with | tup q => rw [ih _ q]) (fun _ ih d2 h => by cases h with | fl q => rw [ih _ q]) (fun _ ih d2 h => by cases h with | ro q => rw [ih _ q]) (fun _ ih d2 h => by cases h with | fd q => rw [ih _ q])
      (fun hn d2 h => by cases h with | ref _ => rfl | lst h1 _ _ _ => omega | dk h1 _ _ _ => omega)
      (fun hk _ hx _ ih d2 h => by cases h with
        | ref h1 => omega
        | lst _ _ hx' q => rw [hx] at hx'; cases hx'; rw [ih _ q]
        | dk _ _ hx' q => rw [hx] at hx'; cases hx')
      (fun hk _ hx _ ih d2 h => by cases h with
        | ref h1 => omega
        | lst _ _ hx' q => rw [hx] at hx'; cases hx'
        | dk _ _ hx' q => rw [hx] at hx'; cases hx'; rw [ih _ q])
      (fun d2 h => by cases h; rfl) (fun _ _ ih ihs d2 h => by cases h with | cons a b => rw [ih _ a, ihs _ b]) q
theorem FrzO.fun_ {o o1 o2 : MO} (h : FrzO mu k ok o o1) (h' : FrzO mu k ok o o2) : o1 = o2 := by
  cases h with
  | lst q => cases h' with | lst q' => rw [Frz.fun_both.2 q _ q']
  | @dk kvs kws e q => cases h' with | @dk _ kws' e' q' =>
    have z := Frz.fun_both.2 q _ q'
    have ek : kws.map (·.1) = kws'.map (·.1) := e.symm.trans e'
    rw [← zip_keys kws, ← zip_keys kws', ek, z]
theorem FrzH.fun_ {nu nu' : List MO} (h : FrzH mu ok nu) (h' : FrzH mu ok nu') (hl : nu.length = nu'.length) : nu = nu' := by
  apply List.ext_getElem hl
  intro i h1 h2
  have hi : i < mu.length := Nat.lt_of_lt_of_le h1 h.le
  have a := h.at_ i mu[i] nu[i] (List.getElem?_eq_getElem hi) (List.getElem?_eq_getElem h1)
  have b := h'.at_ i mu[i] nu'[i] (List.getElem?_eq_getElem hi) (List.getElem?_eq_getElem h2)
  rw [← hl] at b
  exact a.fun_ b
end
/-- a new list handed out -/
def FrzN (mu : List MO) (k : Nat) (rv : Rv) (p : Rv × List MO) : Prop := p.2.length = k ∧ ∃ (n : Nat) (xs ys : List D), rv = .vl (.ref n) ∧ p.1 = .fr ys ∧ k ≤ n ∧ mu[n]? = some (.lst xs) ∧ FrzH mu (fun j => j ≠ n) p.2 ∧ Frzs mu p.2.length (fun j => j ≠ n) xs ys
/-- all else -/
def FrzE (mu : List MO) (k : Nat) (rv : Rv) (p : Rv × List MO) : Prop := p.2.length = k ∧ FrzH mu (fun _ => True) p.2 ∧ ((∃ d d', rv = .vl d ∧ p.1 = .vl d' ∧ Frz mu p.2.length (fun _ => True) d d') ∨ ∃ xs ys, rv = .fr xs ∧ p.1 = .fr ys ∧ Frzs mu p.2.length (fun _ => True) xs ys)
theorem FrzN.one {mu : List MO} {k : Nat} {rv : Rv} {p p' : Rv × List MO} (h : FrzN mu k rv p) (h' : FrzN mu k rv p') : p = p' := by
  obtain ⟨l, n, xs, ys, rfl, e, hk, hx, hh, hf⟩ := h
  obtain ⟨l', n', xs', ys', e0, e', hk', hx', hh', hf'⟩ := h'
  cases e0
  rw [hx] at hx'
  cases hx'
  have z := hh.fun_ hh' (l.trans l'.symm)
  obtain ⟨a, b⟩ := p
  obtain ⟨a', b'⟩ := p'
  simp only at e e' z hf hf' l l'
  subst z e e'
  rw [Frz.fun_both.2 hf _ hf']
theorem FrzE.one {mu : List MO} {k : Nat} {rv : Rv} {p p' : Rv × List MO} (h : FrzE mu k rv p) (h' : FrzE mu k rv p') : p = p' := by
  obtain ⟨l, hh, h⟩ := h
  obtain ⟨l', hh', h'⟩ := h'
  have z := hh.fun_ hh' (l.trans l'.symm)
  obtain ⟨a, b⟩ := p
  obtain ⟨a', b'⟩ := p'
  simp only at z h h' l l'
  subst z
  rcases h with ⟨d, d', rfl, rfl, hf⟩ | ⟨xs, ys, rfl, rfl, hf⟩
  · rcases h' with ⟨e, e', q, rfl, hf'⟩ | ⟨_, _, q, _⟩
    · cases q; rw [Frz.fun_both.1 hf _ hf']
    · cases q
  · rcases h' with ⟨e, e', q, _⟩ | ⟨_, _, q, rfl, hf'⟩
    · cases q
    · cases q; rw [Frz.fun_both.2 hf _ hf']
open Classical in
noncomputable def frzU (k : Nat) : R Rv → R Rv
  | .ok rv mu' => if h : ∃ p, FrzN mu' k rv p then .ok h.choose.1 h.choose.2 else if h : ∃ p, FrzE mu' k rv p then .ok h.choose.1 h.choose.2 else .bad
  | _ => .bad
theorem frzU_N {k : Nat} {rv : Rv} {mu' : List MO} (h : ∃ p, FrzN mu' k rv p) : ∃ p, FrzN mu' k rv p ∧ frzU k (.ok rv mu') = .ok p.1 p.2 := ⟨h.choose, h.choose_spec, dif_pos h⟩
theorem frzU_E {k : Nat} {rv : Rv} {mu' : List MO} (h : ¬ ∃ p, FrzN mu' k rv p) (h2 : ∃ p, FrzE mu' k rv p) : ∃ p, FrzE mu' k rv p ∧ frzU k (.ok rv mu') = .ok p.1 p.2 := ⟨h2.choose, h2.choose_spec, (dif_neg h).trans (dif_pos h2)⟩
theorem frzU_0 {k : Nat} {rv : Rv} {mu' : List MO} (h : ¬ ∃ p, FrzN mu' k rv p) (h2 : ¬ ∃ p, FrzE mu' k rv p) : frzU k (.ok rv mu') = .bad := (dif_neg h).trans (dif_neg h2)
/-- den, what it leaves behind forgotten (no exceptions) -/
noncomputable def fgt (den : List D → M Rv) : List D → M Rv := fun ds mu => frzU mu.length (den ds mu)
theorem gc_fgt {n : Nat} {den : List D → M Rv} : GC n den (fgt den) := fun ds mu hn hc hh => by
  show match frzU mu.length (den ds mu) with
    | .bad => True
    | .ok rv' nu => ∃ rv mu', den ds mu = .ok rv mu' ∧ mu.length ≤ nu.length ∧ FrzR mu' nu rv rv'
    | .exc x' nu => ∃ x mu', den ds mu = .exc x mu' ∧ mu.length ≤ nu.length ∧ FrzX mu' nu x x'
  cases e : den ds mu with
  | bad => trivial
  | exc x mu' => trivial
  | ok rv mu' =>
    by_cases h : ∃ p, FrzN mu' mu.length rv p
    · obtain ⟨p, ⟨l, n, xs, ys, e3, e4, hk, hx, hh, hf⟩, e2⟩ := frzU_N h
      rw [e2]
      refine ⟨rv, mu', rfl, by omega, ?_⟩
      rw [e3, e4]
      exact .newL (by omega) hx hh hf
    · by_cases h2 : ∃ p, FrzE mu' mu.length rv p
      · obtain ⟨p, ⟨l, hh, hf⟩, e2⟩ := frzU_E h h2
        rw [e2]
        refine ⟨rv, mu', rfl, by omega, ?_⟩
        rcases hf with ⟨d, d', e3, e4, hf⟩ | ⟨xs, ys, e3, e4, hf⟩
        · rw [e3, e4]; exact .vl hh hf
        · rw [e3, e4]; exact .fr hh hf
      · rw [frzU_0 h h2]; trivial
section
variable {den : List D → M Rv} {ds : List D} {mu mu' mu1 ex nu : List MO} {d d' : D} {xs ys : List D} {n : Nat}
theorem fgt_new (e : den ds mu = .ok (.vl (.ref n)) mu') (hl : nu.length = mu.length) (hn : mu.length ≤ n) (hx : mu'[n]? = some (.lst xs)) (hh : FrzH mu' (fun j => j ≠ n) nu) (hf : Frzs mu' nu.length (fun j => j ≠ n) xs ys) : fgt den ds mu = .ok (.fr ys) nu := by
  have hp : FrzN mu' mu.length (.vl (.ref n)) (.fr ys, nu) := ⟨hl, n, xs, ys, rfl, rfl, hn, hx, hh, hf⟩
  have h : ∃ p, FrzN mu' mu.length (.vl (.ref n)) p := ⟨_, hp⟩
  obtain ⟨p, hp', e2⟩ := frzU_N h
  unfold fgt
  rw [e, e2, hp'.one hp]
theorem fgt_vl (e : den ds mu = .ok (.vl d) mu') (hl : nu.length = mu.length) (hn : ∀ n xs, d = .ref n → mu'[n]? = some (.lst xs) → n < mu.length) (hh : FrzH mu' (fun _ => True) nu) (hf : Frz mu' nu.length (fun _ => True) d d') : fgt den ds mu = .ok (.vl d') nu := by
  have hp : FrzE mu' mu.length (.vl d) (.vl d', nu) := ⟨hl, hh, .inl ⟨d, d', rfl, rfl, hf⟩⟩
  have h2 : ∃ p, FrzE mu' mu.length (.vl d) p := ⟨_, hp⟩
  have h : ¬ ∃ p, FrzN mu' mu.length (.vl d) p := fun ⟨p, _, n, xs, ys, e1, _, hk, hx, _⟩ => by
    cases e1
    have := hn n xs rfl hx
    omega
  obtain ⟨p, hp', e2⟩ := frzU_E h h2
  unfold fgt
  rw [e, e2, hp'.one hp]
theorem fgt_fr (e : den ds mu = .ok (.fr xs) mu') (hl : nu.length = mu.length) (hh : FrzH mu' (fun _ => True) nu) (hf : Frzs mu' nu.length (fun _ => True) xs ys) : fgt den ds mu = .ok (.fr ys) nu := by
  have hp : FrzE mu' mu.length (.fr xs) (.fr ys, nu) := ⟨hl, hh, .inr ⟨xs, ys, rfl, rfl, hf⟩⟩
  have h2 : ∃ p, FrzE mu' mu.length (.fr xs) p := ⟨_, hp⟩
  have h : ¬ ∃ p, FrzN mu' mu.length (.fr xs) p := fun ⟨p, _, n, xs, ys, e1, _⟩ => by cases e1
  obtain ⟨p, hp', e2⟩ := frzU_E h h2
  unfold fgt
  rw [e, e2, hp'.one hp]
/-- the plain ways: what stood stays (moved on), garbage behind it -/
theorem fgt_val (e : den ds mu = .ok (.vl d) (mu1 ++ ex)) (hl : mu1.length = mu.length) (h1 : CloH mu1) (hd : Clo mu.length d) : fgt den ds mu = .ok (.vl d) mu1 :=
  fgt_vl e hl (fun n xs e _ => by rw [e] at hd; exact Clo.ref.mp hd) (h1.frz ex) (by rw [hl]; exact hd _ _)
theorem fgt_list (e : den ds mu = .ok (.vl (.ref n)) (mu1 ++ ex)) (hl : mu1.length = mu.length) (h1 : CloH mu1) (hn : mu.length ≤ n) (hx : (mu1 ++ ex)[n]? = some (.lst xs)) (hd : Clos mu.length xs) : fgt den ds mu = .ok (.fr xs) mu1 :=
  fgt_new e hl hn hx (h1.frz ex) (by rw [hl]; exact hd _ _)
theorem fgt_lst (e : den ds mu = .ok (.fr xs) (mu1 ++ ex)) (hl : mu1.length = mu.length) (h1 : CloH mu1) (hd : Clos mu.length xs) : fgt den ds mu = .ok (.fr xs) mu1 :=
  fgt_fr e hl (h1.frz ex) (by rw [hl]; exact hd _ _)
end
/-! data without places -/
mutual
def flat : D → Bool
  | .tup xs => flats xs
  | .fl xs => flats xs
  | .ro xs => flats xs
  | .fd _ xs => flats xs
  | .ref _ => false
  | _ => true
def flats : List D → Bool
  | [] => true
  | x :: xs => flat x && flats xs
end
mutual
theorem flat_clo {k : Nat} : ∀ (d : D), flat d = true → Clo k d
  | .non, _ => Clo.non
  | .bl _, _ => Clo.bl
  | .int _, _ => Clo.int
  | .str _, _ => Clo.str
  | .tup xs, h => Clo.tup.mpr (flats_clo xs h)
  | .fl xs, h => Clo.fl.mpr (flats_clo xs h)
  | .ro xs, h => Clo.ro.mpr (flats_clo xs h)
  | .fd ks xs, h => Clo.fd.mpr (flats_clo xs h)
  | .ref _, h => by simp [flat] at h
theorem flats_clo {k : Nat} : ∀ (ds : List D), flats ds = true → Clos k ds
  | [], _ => Clos.nil
  | d :: ds, h => by
    rw [flats, Bool.and_eq_true] at h
    exact Clos.cons (flat_clo d h.1) (flats_clo ds h.2)
end
theorem flats_of : ∀ {ds : List D}, (∀ d ∈ ds, flat d = true) → flats ds = true
  | [], _ => rfl
  | d :: ds, h => by rw [flats, h d (by simp), flats_of fun x hx => h x (by simp [hx])]; rfl
theorem flats_mem : ∀ {ds : List D}, flats ds = true → ∀ d ∈ ds, flat d = true
  | d :: ds, h, x, hx => by
    rw [flats, Bool.and_eq_true] at h
    rcases List.mem_cons.mp hx with e | e
    · rw [e]; exact h.1
    · exact flats_mem h.2 x e
end MP
namespace K06
open PySem L2 PyProof.Rows MP
def top (i : Nat) : Stmt := PySem.Challenge.pw_differwithin_k06_is_claim.main.body.getD i (.Pass ⟨0, 0, 0, 0⟩)
section
variable {P : Program} {w : World} {K : PySem.W.Frag} {mg : Str → Option Value} {base : Heap}
abbrev st_is_integer : Stmt := top 1
theorem sc_is_integer : FnScope ["datum"] ["datum"] (defScope st_is_integer) := ⟨rfl, rfl, rfl, by decide +kernel, rfl, by decide +kernel, by decide +kernel⟩
/-- names: 0 datum -/
noncomputable def r_is_integer : MP.Env → M Fl :=
  (sRet (eAnd (eMap (gIsi "int") (eVar 0)) (eMap gNot (eMap (gIsi "bool") (eVar 0)))))
noncomputable def den_is_integer : List D → M Rv := fun ds => noX (runB 1 (r_is_integer) ds)
theorem mp_is_integer {k : Nat} {f : Addr} {fd : FuncData} (F : Fun K "is_integer" "is_integer" st_is_integer f fd) (z_isinstance : mg "isinstance" = none) (z_int : mg "int" = none) (z_bool : mg "bool" = none) : FnOk P w K mg base CX0 (k + 1) f fd ["datum"] (sp K mg 1 (den_is_integer)) :=
  have sc := sc_is_integer
  fn_mp (N := ["datum"]) (r := r_is_integer) F sc_is_integer rfl fun cdv A outer s H E hr =>
  have hu := hr.units
  have hu1 := units1 hr
  (mss_one (ms_ret (me_and (me_isi (T := "int") (by decide) rfl z_isinstance (by decide +kernel) rfl z_int (by decide +kernel) (me_var (pv 0))) (me_one (me_not (me_isi (T := "bool") (by decide) rfl z_isinstance (by decide +kernel) rfl z_bool (by decide +kernel) (me_var (pv 0))))))))
abbrev st_is_tuple : Stmt := top 2
theorem sc_is_tuple : FnScope ["datum", "many"] ["datum", "many"] (defScope st_is_tuple) := ⟨rfl, rfl, rfl, by decide +kernel, rfl, by decide +kernel, by decide +kernel⟩
/-- names: 0 datum, 1 many -/
noncomputable def r_is_tuple : MP.Env → M Fl :=
  (sRet (eAnd (eMap (gIsi "tuple") (eVar 0)) (eBin (gEq false) (aThen (g1 gLen) (aCons (eVar 0) aNil)) (eVar 1))))
noncomputable def den_is_tuple : List D → M Rv := fun ds => noX (runB 2 (r_is_tuple) ds)
theorem mp_is_tuple {k : Nat} {f : Addr} {fd : FuncData} (F : Fun K "is_tuple" "is_tuple" st_is_tuple f fd) (z_isinstance : mg "isinstance" = none) (z_tuple : mg "tuple" = none) (z_len : mg "len" = none) : FnOk P w K mg base CX0 (k + 1) f fd ["datum", "many"] (sp K mg 2 (den_is_tuple)) :=
  have sc := sc_is_tuple
  fn_mp (N := ["datum", "many"]) (r := r_is_tuple) F sc_is_tuple rfl fun cdv A outer s H E hr =>
  have hu := hr.units
  have hu1 := units1 hr
  (mss_one (ms_ret (me_and (me_isi (T := "tuple") (by decide) rfl z_isinstance (by decide +kernel) rfl z_tuple (by decide +kernel) (me_var (pv 0))) (me_one (me_cmp (op_eqM hu) opm_eq (me_callB call_lenM callM_len rfl z_len PySem.boot_len (ma_cons (me_var (pv 0)) ma_nil)) (me_var (pv 1)) (by first | exact nomark _ | rfl))))))
abbrev st_is_form : Stmt := top 3
theorem sc_is_form : FnScope ["datum", "last", "term"] ["datum"] (defScope st_is_form) := ⟨rfl, rfl, rfl, by decide +kernel, rfl, by decide +kernel, by decide +kernel⟩
/-- names: 0 datum, 1 last, 2 term -/
noncomputable def r_is_form (d_is_tuple : List D → M Rv) (d_is_integer : List D → M Rv) : MP.Env → M Fl :=
  (sSeq (eIf (bOr (bNot (eB (eCall (lenD 2 d_is_tuple) (aCons (eVar 0) (aCons (eC (.int 2)) aNil))))) (bOr (bNot (eB (eCall (lenD 1 d_is_integer) (aCons (eBin gIx (eVar 0) (eC (.int 0))) aNil)))) (bNot (eB (eMap (gIsi "tuple") (eBin gIx (eVar 0) (eC (.int 1))))))))
  (sRet (eC (.bl false)))
  sNext)
  (sSeq (sSet 1 (eC (.str "")))
  (sSeq (sFor (eWalk (eBin gIx (eVar 0) (eC (.int 1)))) (asgN 2)
  (sSeq (eIf (bOr (bNot (eB (eCall (lenD 2 d_is_tuple) (aCons (eVar 2) (aCons (eC (.int 2)) aNil))))) (bOr (bNot (eB (eMap (gIsi "str") (eBin gIx (eVar 2) (eC (.int 0)))))) (bNot (eB (eCall (lenD 1 d_is_integer) (aCons (eBin gIx (eVar 2) (eC (.int 1))) aNil))))))
  (sRet (eC (.bl false)))
  sNext)
  (sSeq (eIf (bOr (eB (eBin gLe (eBin gIx (eVar 2) (eC (.int 0))) (eVar 1))) (bOr (eB (eBin (gIn false) (eC (.str " ")) (eBin gIx (eVar 2) (eC (.int 0))))) (eB (eBin (gEq false) (eBin gIx (eVar 2) (eC (.int 1))) (eC (.int 0))))))
  (sRet (eC (.bl false)))
  sNext)
  (sSet 1 (eBin gIx (eVar 2) (eC (.int 0)))))) [2])
  (sRet (eC (.bl true))))))
noncomputable def den_is_form (d_is_tuple : List D → M Rv) (d_is_integer : List D → M Rv) : List D → M Rv := fun ds => noX (runB 3 (r_is_form d_is_tuple d_is_integer) ds)
theorem mp_is_form {k : Nat} {f : Addr} {fd : FuncData} (F : Fun K "is_form" "is_form" st_is_form f fd) {f_is_tuple : Addr} {e_is_tuple : FuncData} {f_is_integer : Addr} {e_is_integer : FuncData} {d_is_tuple : List D → M Rv} {d_is_integer : List D → M Rv} (T_is_tuple : FnI K mg "is_tuple" st_is_tuple f_is_tuple e_is_tuple ["datum", "many"]) (F_is_tuple : FnOk P w K mg base CX0 k f_is_tuple e_is_tuple ["datum", "many"] (sp K mg 2 d_is_tuple)) (T_is_integer : FnI K mg "is_integer" st_is_integer f_is_integer e_is_integer ["datum"]) (F_is_integer : FnOk P w K mg base CX0 k f_is_integer e_is_integer ["datum"] (sp K mg 1 d_is_integer)) (z_isinstance : mg "isinstance" = none) (z_tuple : mg "tuple" = none) (z_str : mg "str" = none) : FnOk P w K mg base CX0 (k + 1) f fd ["datum"] (sp K mg 1 (den_is_form d_is_tuple d_is_integer)) :=
  have sc := sc_is_form
  fn_mp (N := ["datum", "last", "term"]) (r := r_is_form d_is_tuple d_is_integer) F sc_is_form rfl fun cdv A outer s H E hr =>
  have hu := hr.units
  have hu1 := units1 hr
  (mss_cons (ms_if (MW.mt (mw_or (mt_not (mt_val (me_callF T_is_tuple F_is_tuple hr rfl (ma_cons (me_var (pv 0)) (ma_cons me_int ma_nil)) rfl))) (mw_or (mt_not (mt_val (me_callF T_is_integer F_is_integer hr rfl (ma_cons (me_ix (me_var (pv 0)) me_int) ma_nil) rfl))) (mw_or1 (mt_not (mt_val (me_isi (T := "tuple") (by decide) rfl z_isinstance (by decide +kernel) rfl z_tuple (by decide +kernel) (me_ix (me_var (pv 0)) me_int))))))))
  (mss_one (ms_ret me_bl))
  mss_nil)
  (mss_cons (ms_set (i := 1) sc.nd rfl (by first | exact Or.inl rfl | exact Or.inr rfl) me_str)
  (mss_cons (ms_for (fg := [2]) PassesOwn.never rfl (mi_seq (me_ix (me_var (pv 0)) me_int)) (mg_of (pg_name (i := 2) sc.nd rfl (by first | exact Or.inl rfl | exact Or.inr rfl)))
  (mss_cons (ms_if (MW.mt (mw_or (mt_not (mt_val (me_callF T_is_tuple F_is_tuple hr rfl (ma_cons (me_var (pv 2)) (ma_cons me_int ma_nil)) rfl))) (mw_or (mt_not (mt_val (me_isi (T := "str") (by decide) rfl z_isinstance (by decide +kernel) rfl z_str (by decide +kernel) (me_ix (me_var (pv 2)) me_int)))) (mw_or1 (mt_not (mt_val (me_callF T_is_integer F_is_integer hr rfl (ma_cons (me_ix (me_var (pv 2)) me_int) ma_nil) rfl)))))))
  (mss_one (ms_ret me_bl))
  mss_nil)
  (mss_cons (ms_if (MW.mt (mw_or (mt_cmp op_leM opm_ord (me_ix (me_var (pv 2)) me_int) (me_var (pv 1)) (by first | exact nomark _ | rfl)) (mw_or (mt_cmp (op_inM hu) opm_in me_str (me_ix (me_var (pv 2)) me_int) (by first | exact nomark _ | rfl)) (mw_or1 (mt_cmp (op_eqM hu) opm_eq (me_ix (me_var (pv 2)) me_int) me_int (by first | exact nomark _ | rfl))))))
  (mss_one (ms_ret me_bl))
  mss_nil)
  (mss_one (ms_set (i := 1) sc.nd rfl (by first | exact Or.inl rfl | exact Or.inr rfl) (me_ix (me_var (pv 2)) me_int))))))
  (mss_one (ms_ret me_bl)))))
abbrev st_is_form_over : Stmt := top 4
theorem sc_is_form_over : FnScope ["datum", "names", "name", "coefficient"] ["datum", "names"] (defScope st_is_form_over) := ⟨rfl, rfl, rfl, by decide +kernel, rfl, by decide +kernel, by decide +kernel⟩
/-- names: 0 datum, 1 names, 2 name, 3 coefficient -/
noncomputable def r_is_form_over (d_is_form : List D → M Rv) : MP.Env → M Fl :=
  (sRet (eAnd (eCall (lenD 1 d_is_form) (aCons (eVar 0) aNil)) (aThen (g1 gAll) (aCons (eFl (fComp (eWalk (eBin gIx (eVar 0) (eC (.int 1)))) (asgT 2 (asgCons (asgN 2) (asgCons (asgN 3) asgNil))) tYesM (eBin (gIn false) (eVar 2) (eVar 1)) [2, 3])) aNil))))
noncomputable def den_is_form_over (d_is_form : List D → M Rv) : List D → M Rv := fun ds => noX (runB 4 (r_is_form_over d_is_form) ds)
theorem mp_is_form_over {k : Nat} {f : Addr} {fd : FuncData} (F : Fun K "is_form_over" "is_form_over" st_is_form_over f fd) {f_is_form : Addr} {e_is_form : FuncData} {d_is_form : List D → M Rv} (T_is_form : FnI K mg "is_form" st_is_form f_is_form e_is_form ["datum"]) (F_is_form : FnOk P w K mg base CX0 k f_is_form e_is_form ["datum"] (sp K mg 1 d_is_form)) (z_all : mg "all" = none) : FnOk P w K mg base CX0 (k + 1) f fd ["datum", "names"] (sp K mg 2 (den_is_form_over d_is_form)) :=
  have sc := sc_is_form_over
  fn_mp (N := ["datum", "names", "name", "coefficient"]) (r := r_is_form_over d_is_form) F sc_is_form_over rfl fun cdv A outer s H E hr =>
  have hu := hr.units
  have hu1 := units1 hr
  (mss_one (ms_ret (me_and (me_callF T_is_form F_is_form hr rfl (ma_cons (me_var (pv 0)) ma_nil) rfl) (me_one (me_callB (cr_all rfl) callM_all rfl z_all (by decide +kernel) (ma_cons (me_fl (mf_comp rfl sc.nd (mi_seq (me_ix (me_var (pv 0)) me_int)) (own := [("name", 2), ("coefficient", 3)]) (blkOk_by (N := ["datum", "names", "name", "coefficient"]) (sc := defScope st_is_form_over) (by decide +kernel)) (by decide) (fun s H C cl fp => (mg_tup rfl (mgs_cons (mg_of (pg_name (i := 2) sc.nd rfl (by first | exact Or.inl rfl | exact Or.inr rfl))) (mgs_cons (mg_of (pg_name (i := 3) sc.nd rfl (by first | exact Or.inl rfl | exact Or.inr rfl))) mgs_nil)))) (fun s H C cl fp => mts_nil) (fun s H C cl fp => (me_cmp (op_inM hu) opm_in (me_var (pv 2)) (me_var (pv 1)) (by first | exact nomark _ | rfl))))) ma_nil))))))
abbrev st_statements_in : Stmt := top 6
theorem sc_statements_in : FnScope ["body", "found", "statement", "block"] ["body"] (defScope st_statements_in) := ⟨rfl, rfl, rfl, by decide +kernel, rfl, by decide +kernel, by decide +kernel⟩
/-- names: 0 body, 1 found, 2 statement, 3 block -/
noncomputable def r_statements_in (d_statements_in : List D → M Rv) : MP.Env → M Fl :=
  (sSeq (sSet 1 (eNew (aList aNil)))
  (sSeq (sFor (eWalk (eVar 0)) (asgN 2)
  (sSeq (sExpr (eMeth lstK gAppend (eVar 1) (aCons (eVar 2) aNil)))
  (eIf (eB (eBin (gIn false) (eBin gIx (eVar 2) (eC (.int 0))) (aThen gTup (aCons (eC (.str "if")) (aCons (eC (.str "while")) aNil)))))
  (sFor (eWalk (eSl (eVar 2) (oSome (eC (.int 2))) oNone)) (asgN 3)
  (sExpr (eMeth lstK gExtend (eVar 1) (aCons (eCall (lenD 1 d_statements_in) (aCons (eVar 3) aNil)) aNil))) [3])
  sNext)) [2])
  (sRet (eVar 1))))
noncomputable def den_statements_in (d_statements_in : List D → M Rv) : List D → M Rv := fun ds => noX (runB 4 (r_statements_in d_statements_in) ds)
theorem mp_statements_in {k : Nat} {f : Addr} {fd : FuncData} {d_statements_in : List D → M Rv} (T_statements_in : FnI K mg "statements_in" st_statements_in f fd ["body"]) (F_statements_in : FnOk P w K mg base CX0 k f fd ["body"] (sp K mg 1 d_statements_in)) : FnOk P w K mg base CX0 (k + 1) f fd ["body"] (sp K mg 1 (den_statements_in d_statements_in)) :=
  have sc := sc_statements_in
  fn_mp (N := ["body", "found", "statement", "block"]) (r := r_statements_in d_statements_in) T_statements_in.fn sc_statements_in rfl fun cdv A outer s H E hr =>
  have hu := hr.units
  have hu1 := units1 hr
  (mss_cons (ms_set (i := 1) sc.nd rfl (by first | exact Or.inl rfl | exact Or.inr rfl) (me_new (mf_lst ma_nil)))
  (mss_cons (ms_for (fg := [2]) PassesOwn.never rfl (mi_seq (me_var (pv 0))) (mg_of (pg_name (i := 2) sc.nd rfl (by first | exact Or.inl rfl | exact Or.inr rfl)))
  (mss_cons (ms_expr (me_lmeth PySem.F.slot_list_append PySem.F.type_list_append mt_append methM_append (me_var (pv 1)) (ma_cons (me_var (pv 2)) ma_nil)))
  (mss_one (ms_if (mt_cmp (op_inM hu) opm_in (me_ix (me_var (pv 2)) me_int) (me_tup (ma_cons me_str (ma_cons me_str ma_nil))) (by first | exact nomark _ | rfl))
  (mss_one (ms_for (fg := [3]) PassesOwn.never rfl (mi_seq (me_slice (me_var (pv 2)) (mo_some me_int) mo_none)) (mg_of (pg_name (i := 3) sc.nd rfl (by first | exact Or.inl rfl | exact Or.inr rfl)))
  (mss_one (ms_expr (me_lmeth PySem.F.slot_list_extend PySem.F.type_list_extend mt_extend methM_extend (me_var (pv 1)) (ma_cons (me_callF T_statements_in F_statements_in hr rfl (ma_cons (me_var (pv 3)) ma_nil) rfl) ma_nil))))))
  mss_nil))))
  (mss_one (ms_ret (me_var (pv 1))))))
abbrev st_proc_named : Stmt := top 7
theorem sc_proc_named : FnScope ["core", "name", "proc"] ["core", "name"] (defScope st_proc_named) := ⟨rfl, rfl, rfl, by decide +kernel, rfl, by decide +kernel, by decide +kernel⟩
/-- names: 0 core, 1 name, 2 proc -/
noncomputable def r_proc_named : MP.Env → M Fl :=
  (sRet (eBin gIx (eFl (fComp (eWalk (eVar 0)) (asgN 2) (eB (eBin (gEq false) (eBin gIx (eVar 2) (eC (.int 0))) (eVar 1))) (eVar 2) [2])) (eC (.int 0))))
noncomputable def den_proc_named : List D → M Rv := fun ds => noX (runB 3 (r_proc_named) ds)
theorem mp_proc_named {k : Nat} {f : Addr} {fd : FuncData} (F : Fun K "proc_named" "proc_named" st_proc_named f fd) : FnOk P w K mg base CX0 (k + 1) f fd ["core", "name"] (sp K mg 2 (den_proc_named)) :=
  have sc := sc_proc_named
  fn_mp (N := ["core", "name", "proc"]) (r := r_proc_named) F sc_proc_named rfl fun cdv A outer s H E hr =>
  have hu := hr.units
  have hu1 := units1 hr
  (mss_one (ms_ret (me_ix (me_fl (mf_comp rfl sc.nd (mi_seq (me_var (pv 0))) (own := [("proc", 2)]) (blkOk_by (N := ["core", "name", "proc"]) (sc := defScope st_proc_named) (by decide +kernel)) (by decide) (fun s H C cl fp => (mg_of (pg_name (i := 2) sc.nd rfl (by first | exact Or.inl rfl | exact Or.inr rfl)))) (fun s H C cl fp => (mts_one (mt_cmp (op_eqM hu) opm_eq (me_ix (me_var (pv 2)) me_int) (me_var (pv 1)) (by first | exact nomark _ | rfl)))) (fun s H C cl fp => (me_var (pv 2))))) me_int)))
abbrev st_assigned_in : Stmt := top 8
theorem sc_assigned_in : FnScope ["proc", "found", "statement", "x", "expression"] ["proc"] (defScope st_assigned_in) := ⟨rfl, rfl, rfl, by decide +kernel, rfl, by decide +kernel, by decide +kernel⟩
/-- names: 0 proc, 1 found, 2 statement, 3 x, 4 expression -/
noncomputable def r_assigned_in (d_statements_in : List D → M Rv) : MP.Env → M Fl :=
  (sSeq (sSet 1 (eNew (aList aNil)))
  (sSeq (sFor (eWalk (eCall (lenD 1 d_statements_in) (aCons (eBin gIx (eVar 0) (eC (.int 8))) aNil))) (asgN 2)
  (eIf (eB (eBin (gEq false) (eBin gIx (eVar 2) (eC (.int 0))) (eC (.str "set"))))
  (sExpr (eMeth lstK gExtend (eVar 1) (aCons (eFl (fComp (eWalk (eBin gIx (eVar 2) (eC (.int 1)))) (asgT 2 (asgCons (asgN 3) (asgCons (asgN 4) asgNil))) tYesM (eVar 3) [3, 4])) aNil)))
  (eIf (eB (eBin (gEq false) (eBin gIx (eVar 2) (eC (.int 0))) (eC (.str "pop"))))
  (sExpr (eMeth lstK gExtend (eVar 1) (aCons (eFl (aList (aCons (eBin gIx (eVar 2) (eC (.int 1))) (aCons (eBin gAdd (eC (.str "#")) (eBin gIx (eVar 2) (eC (.int 2)))) aNil)))) aNil)))
  (eIf (eB (eBin (gEq false) (eBin gIx (eVar 2) (eC (.int 0))) (eC (.str "push"))))
  (sExpr (eMeth lstK gAppend (eVar 1) (aCons (eBin gAdd (eC (.str "#")) (eBin gIx (eVar 2) (eC (.int 2)))) aNil)))
  (eIf (eB (eBin (gEq false) (eBin gIx (eVar 2) (eC (.int 0))) (eC (.str "call"))))
  (sExpr (eMeth lstK gExtend (eVar 1) (aCons (eBin gIx (eVar 2) (eC (.int 3))) aNil)))
  sNext)))) [2])
  (sRet (eVar 1))))
noncomputable def den_assigned_in (d_statements_in : List D → M Rv) : List D → M Rv := fun ds => noX (runB 5 (r_assigned_in d_statements_in) ds)
theorem mp_assigned_in {k : Nat} {f : Addr} {fd : FuncData} (F : Fun K "assigned_in" "assigned_in" st_assigned_in f fd) {f_statements_in : Addr} {e_statements_in : FuncData} {d_statements_in : List D → M Rv} (T_statements_in : FnI K mg "statements_in" st_statements_in f_statements_in e_statements_in ["body"]) (F_statements_in : FnOk P w K mg base CX0 k f_statements_in e_statements_in ["body"] (sp K mg 1 d_statements_in)) : FnOk P w K mg base CX0 (k + 1) f fd ["proc"] (sp K mg 1 (den_assigned_in d_statements_in)) :=
  have sc := sc_assigned_in
  fn_mp (N := ["proc", "found", "statement", "x", "expression"]) (r := r_assigned_in d_statements_in) F sc_assigned_in rfl fun cdv A outer s H E hr =>
  have hu := hr.units
  have hu1 := units1 hr
  (mss_cons (ms_set (i := 1) sc.nd rfl (by first | exact Or.inl rfl | exact Or.inr rfl) (me_new (mf_lst ma_nil)))
  (mss_cons (ms_for (fg := [2]) PassesOwn.never rfl (mi_seq (me_callF T_statements_in F_statements_in hr rfl (ma_cons (me_ix (me_var (pv 0)) me_int) ma_nil) rfl)) (mg_of (pg_name (i := 2) sc.nd rfl (by first | exact Or.inl rfl | exact Or.inr rfl)))
  (mss_one (ms_if (mt_cmp (op_eqM hu) opm_eq (me_ix (me_var (pv 2)) me_int) me_str (by first | exact nomark _ | rfl))
  (mss_one (ms_expr (me_lmeth PySem.F.slot_list_extend PySem.F.type_list_extend mt_extend methM_extend (me_var (pv 1)) (ma_cons (me_fl (mf_comp rfl sc.nd (mi_seq (me_ix (me_var (pv 2)) me_int)) (own := [("x", 3), ("expression", 4)]) (blkOk_by (N := ["proc", "found", "statement", "x", "expression"]) (sc := defScope st_assigned_in) (by decide +kernel)) (by decide) (fun s H C cl fp => (mg_tup rfl (mgs_cons (mg_of (pg_name (i := 3) sc.nd rfl (by first | exact Or.inl rfl | exact Or.inr rfl))) (mgs_cons (mg_of (pg_name (i := 4) sc.nd rfl (by first | exact Or.inl rfl | exact Or.inr rfl))) mgs_nil)))) (fun s H C cl fp => mts_nil) (fun s H C cl fp => (me_var (pv 3))))) ma_nil))))
  (mss_one (ms_if (mt_cmp (op_eqM hu) opm_eq (me_ix (me_var (pv 2)) me_int) me_str (by first | exact nomark _ | rfl))
  (mss_one (ms_expr (me_lmeth PySem.F.slot_list_extend PySem.F.type_list_extend mt_extend methM_extend (me_var (pv 1)) (ma_cons (me_fl (mf_lst (ma_cons (me_ix (me_var (pv 2)) me_int) (ma_cons (me_bin op_addM opm_add me_str (me_ix (me_var (pv 2)) me_int)) ma_nil)))) ma_nil))))
  (mss_one (ms_if (mt_cmp (op_eqM hu) opm_eq (me_ix (me_var (pv 2)) me_int) me_str (by first | exact nomark _ | rfl))
  (mss_one (ms_expr (me_lmeth PySem.F.slot_list_append PySem.F.type_list_append mt_append methM_append (me_var (pv 1)) (ma_cons (me_bin op_addM opm_add me_str (me_ix (me_var (pv 2)) me_int)) ma_nil))))
  (mss_one (ms_if (mt_cmp (op_eqM hu) opm_eq (me_ix (me_var (pv 2)) me_int) me_str (by first | exact nomark _ | rfl))
  (mss_one (ms_expr (me_lmeth PySem.F.slot_list_extend PySem.F.type_list_extend mt_extend methM_extend (me_var (pv 1)) (ma_cons (me_ix (me_var (pv 2)) me_int) ma_nil))))
  mss_nil)))))))))
  (mss_one (ms_ret (me_var (pv 1))))))
abbrev st_passed_on : Stmt := top 9
theorem sc_passed_on : FnScope ["core", "moving", "proc", "found", "statement", "parameters", "parameter", "argument"] ["core", "moving", "proc"] (defScope st_passed_on) := ⟨rfl, rfl, rfl, by decide +kernel, rfl, by decide +kernel, by decide +kernel⟩
/-- names: 0 core, 1 moving, 2 proc, 3 found, 4 statement, 5 parameters, 6 parameter, 7 argument -/
noncomputable def r_passed_on (d_statements_in : List D → M Rv) (d_proc_named : List D → M Rv) : MP.Env → M Fl :=
  (sSeq (sSet 3 (eNew (aList aNil)))
  (sSeq (sFor (eWalk (eCall (lenD 1 d_statements_in) (aCons (eBin gIx (eVar 2) (eC (.int 8))) aNil))) (asgN 4)
  (eIf (eB (eBin (gEq false) (eBin gIx (eVar 4) (eC (.int 0))) (eC (.str "call"))))
  (sSeq (sSet 5 (eBin gIx (eCall (lenD 2 d_proc_named) (aCons (eVar 0) (aCons (eBin gIx (eVar 4) (eC (.int 1))) aNil))) (eC (.int 1))))
  (sFor (wThen wZip (aCons (eVar 5) (aCons (eBin gIx (eVar 4) (eC (.int 2))) aNil))) (asgT 2 (asgCons (asgN 6) (asgCons (asgN 7) asgNil)))
  (eIf (bAnd (eB (eBin (gEq false) (eBin gIx (eVar 6) (eC (.int 0))) (eC (.str "array")))) (eB (eBin (gIn false) (eBin gAdd (eC (.str "#")) (eBin gIx (eVar 6) (eC (.int 1)))) (eBin gDget (eVar 1) (eBin gIx (eVar 4) (eC (.int 1)))))))
  (sExpr (eMeth lstK gAppend (eVar 3) (aCons (eBin gAdd (eC (.str "#")) (eBin gIx (eVar 7) (eC (.int 1)))) aNil)))
  sNext) [6, 7]))
  sNext) [4])
  (sRet (eVar 3))))
noncomputable def den_passed_on (d_statements_in : List D → M Rv) (d_proc_named : List D → M Rv) : List D → M Rv := fun ds => noX (runB 8 (r_passed_on d_statements_in d_proc_named) ds)
theorem mp_passed_on {k : Nat} {f : Addr} {fd : FuncData} (F : Fun K "passed_on" "passed_on" st_passed_on f fd) {f_statements_in : Addr} {e_statements_in : FuncData} {f_proc_named : Addr} {e_proc_named : FuncData} {d_statements_in : List D → M Rv} {d_proc_named : List D → M Rv} (T_statements_in : FnI K mg "statements_in" st_statements_in f_statements_in e_statements_in ["body"]) (F_statements_in : FnOk P w K mg base CX0 k f_statements_in e_statements_in ["body"] (sp K mg 1 d_statements_in)) (T_proc_named : FnI K mg "proc_named" st_proc_named f_proc_named e_proc_named ["core", "name"]) (F_proc_named : FnOk P w K mg base CX0 k f_proc_named e_proc_named ["core", "name"] (sp K mg 2 d_proc_named)) (z_zip : mg "zip" = none) : FnOk P w K mg base CX0 (k + 1) f fd ["core", "moving", "proc"] (sp K mg 3 (den_passed_on d_statements_in d_proc_named)) :=
  have sc := sc_passed_on
  fn_mp (N := ["core", "moving", "proc", "found", "statement", "parameters", "parameter", "argument"]) (r := r_passed_on d_statements_in d_proc_named) F sc_passed_on rfl fun cdv A outer s H E hr =>
  have hu := hr.units
  have hu1 := units1 hr
  (mss_cons (ms_set (i := 3) sc.nd rfl (by first | exact Or.inl rfl | exact Or.inr rfl) (me_new (mf_lst ma_nil)))
  (mss_cons (ms_for (fg := [4]) PassesOwn.never rfl (mi_seq (me_callF T_statements_in F_statements_in hr rfl (ma_cons (me_ix (me_var (pv 2)) me_int) ma_nil) rfl)) (mg_of (pg_name (i := 4) sc.nd rfl (by first | exact Or.inl rfl | exact Or.inr rfl)))
  (mss_one (ms_if (mt_cmp (op_eqM hu) opm_eq (me_ix (me_var (pv 4)) me_int) me_str (by first | exact nomark _ | rfl))
  (mss_cons (ms_set (i := 5) sc.nd rfl (by first | exact Or.inl rfl | exact Or.inr rfl) (me_ix (me_callF T_proc_named F_proc_named hr rfl (ma_cons (me_var (pv 0)) (ma_cons (me_ix (me_var (pv 4)) me_int) ma_nil)) rfl) me_int))
  (mss_one (ms_for (fg := [6, 7]) PassesOwn.never rfl (mi_zip rfl z_zip (ma_cons (me_var (pv 5)) (ma_cons (me_ix (me_var (pv 4)) me_int) ma_nil))) (mg_tup rfl (mgs_cons (mg_of (pg_name (i := 6) sc.nd rfl (by first | exact Or.inl rfl | exact Or.inr rfl))) (mgs_cons (mg_of (pg_name (i := 7) sc.nd rfl (by first | exact Or.inl rfl | exact Or.inr rfl))) mgs_nil)))
  (mss_one (ms_if (MW.mt (mw_and (mt_cmp (op_eqM hu) opm_eq (me_ix (me_var (pv 6)) me_int) me_str (by first | exact nomark _ | rfl)) (mw_and1 (mt_cmp (op_inM hu) opm_in (me_bin op_addM opm_add me_str (me_ix (me_var (pv 6)) me_int)) (me_dget hu1 (me_var (pv 1)) (me_ix (me_var (pv 4)) me_int)) (by first | exact nomark _ | rfl)))))
  (mss_one (ms_expr (me_lmeth PySem.F.slot_list_append PySem.F.type_list_append mt_append methM_append (me_var (pv 3)) (ma_cons (me_bin op_addM opm_add me_str (me_ix (me_var (pv 7)) me_int)) ma_nil))))
  mss_nil)))))
  mss_nil)))
  (mss_one (ms_ret (me_var (pv 3))))))
abbrev st_moving_table : Stmt := top 10
theorem sc_moving_table : FnScope ["core", "moving", "growing", "proc", "name"] ["core"] (defScope st_moving_table) := ⟨rfl, rfl, rfl, by decide +kernel, rfl, by decide +kernel, by decide +kernel⟩
/-- names: 0 core, 1 moving, 2 growing, 3 proc, 4 name -/
noncomputable def r_moving_table (d_assigned_in : List D → M Rv) (d_passed_on : List D → M Rv) : MP.Env → M Fl :=
  (sSeq (sSet 1 (eNewK (kComp (eWalk (eVar 0)) (asgN 3) tYesM (eBin gIx (eVar 3) (eC (.int 0))) (eCall (lenD 1 d_assigned_in) (aCons (eVar 3) aNil)) [3])))
  (sSeq (sSet 2 (eC (.bl true)))
  (sSeq (sWhile (eB (eVar 2))
  (sSeq (sSet 2 (eC (.bl false)))
  (sFor (eWalk (eVar 0)) (asgN 3)
  (sFor (eWalk (eCall (lenD 3 d_passed_on) (aCons (eVar 0) (aCons (eVar 1) (aCons (eVar 3) aNil))))) (asgN 4)
  (eIf (eB (eBin (gIn true) (eVar 4) (eBin gDget (eVar 1) (eBin gIx (eVar 3) (eC (.int 0))))))
  (sSeq (sExpr (eMeth lstK gAppend (eBin gDget (eVar 1) (eBin gIx (eVar 3) (eC (.int 0)))) (aCons (eVar 4) aNil)))
  (sSet 2 (eC (.bl true))))
  sNext) [4]) [3, 4])) [3])
  (sRet (eVar 1)))))
noncomputable def den_moving_table (d_assigned_in : List D → M Rv) (d_passed_on : List D → M Rv) : List D → M Rv := fun ds => noX (runB 5 (r_moving_table d_assigned_in d_passed_on) ds)
theorem mp_moving_table {k : Nat} {f : Addr} {fd : FuncData} (F : Fun K "moving_table" "moving_table" st_moving_table f fd) {f_assigned_in : Addr} {e_assigned_in : FuncData} {f_passed_on : Addr} {e_passed_on : FuncData} {d_assigned_in : List D → M Rv} {d_passed_on : List D → M Rv} (T_assigned_in : FnI K mg "assigned_in" st_assigned_in f_assigned_in e_assigned_in ["proc"]) (F_assigned_in : FnOk P w K mg base CX0 k f_assigned_in e_assigned_in ["proc"] (sp K mg 1 d_assigned_in)) (T_passed_on : FnI K mg "passed_on" st_passed_on f_passed_on e_passed_on ["core", "moving", "proc"]) (F_passed_on : FnOk P w K mg base CX0 k f_passed_on e_passed_on ["core", "moving", "proc"] (sp K mg 3 d_passed_on)) : FnOk P w K mg base CX0 (k + 1) f fd ["core"] (sp K mg 1 (den_moving_table d_assigned_in d_passed_on)) :=
  have sc := sc_moving_table
  fn_mp (N := ["core", "moving", "growing", "proc", "name"]) (r := r_moving_table d_assigned_in d_passed_on) F sc_moving_table rfl fun cdv A outer s H E hr =>
  have hu := hr.units
  have hu1 := units1 hr
  (mss_cons (ms_setD (i := 1) rfl sc.nd rfl rfl (sw_trueD rfl rfl (by decide +kernel) (by decide +kernel)) (mi_seq (me_var (pv 0))) (own := [("proc", 3)]) (blkOk_by (N := ["core", "moving", "growing", "proc", "name"]) (sc := defScope st_moving_table) (by decide +kernel)) (by decide) (fun s H C cl fp => (mg_of (pg_name (i := 3) sc.nd rfl (by first | exact Or.inl rfl | exact Or.inr rfl)))) (fun s H C cl fp => mts_nil) (fun s H C cl fp => (me_ix (me_var (pv 3)) me_int)) (fun s H C cl fp => (me_callF T_assigned_in F_assigned_in hr rfl (ma_cons (me_var (pv 3)) ma_nil) rfl)) newK_go)
  (mss_cons (ms_set (i := 2) sc.nd rfl (by first | exact Or.inl rfl | exact Or.inr rfl) me_bl)
  (mss_cons (ms_while (fg := [3]) PassesOwn.never (mt_val (me_var (pv 2)))
  (mss_cons (ms_set (i := 2) sc.nd rfl (by first | exact Or.inl rfl | exact Or.inr rfl) me_bl)
  (mss_one (ms_for (fg := [3, 4]) PassesOwn.never rfl (mi_seq (me_var (pv 0))) (mg_of (pg_name (i := 3) sc.nd rfl (by first | exact Or.inl rfl | exact Or.inr rfl)))
  (mss_one (ms_for (fg := [4]) PassesOwn.never rfl (mi_seq (me_callF T_passed_on F_passed_on hr rfl (ma_cons (me_var (pv 0)) (ma_cons (me_var (pv 1)) (ma_cons (me_var (pv 3)) ma_nil))) rfl)) (mg_of (pg_name (i := 4) sc.nd rfl (by first | exact Or.inl rfl | exact Or.inr rfl)))
  (mss_one (ms_if (mt_cmp (op_notInM hu) opm_in (me_var (pv 4)) (me_dget hu1 (me_var (pv 1)) (me_ix (me_var (pv 3)) me_int)) (by first | exact nomark _ | rfl))
  (mss_cons (ms_expr (me_lmeth PySem.F.slot_list_append PySem.F.type_list_append mt_append methM_append (me_dget hu1 (me_var (pv 1)) (me_ix (me_var (pv 3)) me_int)) (ma_cons (me_var (pv 4)) ma_nil)))
  (mss_one (ms_set (i := 2) sc.nd rfl (by first | exact Or.inl rfl | exact Or.inr rfl) me_bl)))
  mss_nil))))))))
  (mss_one (ms_ret (me_var (pv 1)))))))
abbrev st_variable_of : Stmt := top 11
theorem sc_variable_of : FnScope ["item"] ["item"] (defScope st_variable_of) := ⟨rfl, rfl, rfl, by decide +kernel, rfl, by decide +kernel, by decide +kernel⟩
/-- names: 0 item -/
noncomputable def r_variable_of : MP.Env → M Fl :=
  (sSeq (eIf (eB (eBin (gEq false) (eBin gIx (eVar 0) (eC (.int 0))) (eC (.str "array"))))
  (sRet (eBin gAdd (eC (.str "#")) (eBin gIx (eVar 0) (eC (.int 1)))))
  sNext)
  (sRet (eBin gIx (eVar 0) (eC (.int 1)))))
noncomputable def den_variable_of : List D → M Rv := fun ds => noX (runB 1 (r_variable_of) ds)
theorem mp_variable_of {k : Nat} {f : Addr} {fd : FuncData} (F : Fun K "variable_of" "variable_of" st_variable_of f fd) : FnOk P w K mg base CX0 (k + 1) f fd ["item"] (sp K mg 1 (den_variable_of)) :=
  have sc := sc_variable_of
  fn_mp (N := ["item"]) (r := r_variable_of) F sc_variable_of rfl fun cdv A outer s H E hr =>
  have hu := hr.units
  have hu1 := units1 hr
  (mss_cons (ms_if (mt_cmp (op_eqM hu) opm_eq (me_ix (me_var (pv 0)) me_int) me_str (by first | exact nomark _ | rfl))
  (mss_one (ms_ret (me_bin op_addM opm_add me_str (me_ix (me_var (pv 0)) me_int))))
  mss_nil)
  (mss_one (ms_ret (me_ix (me_var (pv 0)) me_int))))
abbrev st_moving_items : Stmt := top 12
theorem sc_moving_items : FnScope ["proc", "moving", "item"] ["proc", "moving"] (defScope st_moving_items) := ⟨rfl, rfl, rfl, by decide +kernel, rfl, by decide +kernel, by decide +kernel⟩
/-- names: 0 proc, 1 moving, 2 item -/
noncomputable def r_moving_items (d_variable_of : List D → M Rv) : MP.Env → M Fl :=
  (sRetF (fComp (eWalk (eBin gIx (eVar 0) (eC (.int 1)))) (asgN 2) (eB (eBin (gIn false) (eCall (lenD 1 d_variable_of) (aCons (eVar 2) aNil)) (eBin gDget (eVar 1) (eBin gIx (eVar 0) (eC (.int 0)))))) (eVar 2) [2]))
noncomputable def den_moving_items (d_variable_of : List D → M Rv) : List D → M Rv := fun ds => noX (runB 3 (r_moving_items d_variable_of) ds)
theorem mp_moving_items {k : Nat} {f : Addr} {fd : FuncData} (F : Fun K "moving_items" "moving_items" st_moving_items f fd) {f_variable_of : Addr} {e_variable_of : FuncData} {d_variable_of : List D → M Rv} (T_variable_of : FnI K mg "variable_of" st_variable_of f_variable_of e_variable_of ["item"]) (F_variable_of : FnOk P w K mg base CX0 k f_variable_of e_variable_of ["item"] (sp K mg 1 d_variable_of)) : FnOk P w K mg base CX0 (k + 1) f fd ["proc", "moving"] (sp K mg 2 (den_moving_items d_variable_of)) :=
  have sc := sc_moving_items
  fn_mp (N := ["proc", "moving", "item"]) (r := r_moving_items d_variable_of) F sc_moving_items rfl fun cdv A outer s H E hr =>
  have hu := hr.units
  have hu1 := units1 hr
  (mss_one (ms_retF (mf_comp rfl sc.nd (mi_seq (me_ix (me_var (pv 0)) me_int)) (own := [("item", 2)]) (blkOk_by (N := ["proc", "moving", "item"]) (sc := defScope st_moving_items) (by decide +kernel)) (by decide) (fun s H C cl fp => (mg_of (pg_name (i := 2) sc.nd rfl (by first | exact Or.inl rfl | exact Or.inr rfl)))) (fun s H C cl fp => (mts_one (mt_cmp (op_inM hu) opm_in (me_callF T_variable_of F_variable_of hr rfl (ma_cons (me_var (pv 2)) ma_nil) rfl) (me_dget hu1 (me_var (pv 1)) (me_ix (me_var (pv 0)) me_int)) (by first | exact nomark _ | rfl)))) (fun s H C cl fp => (me_var (pv 2))))))
abbrev st_inputs_of_proc : Stmt := top 13
theorem sc_inputs_of_proc : FnScope ["proc", "item"] ["proc"] (defScope st_inputs_of_proc) := ⟨rfl, rfl, rfl, by decide +kernel, rfl, by decide +kernel, by decide +kernel⟩
/-- names: 0 proc, 1 item -/
noncomputable def r_inputs_of_proc (d_variable_of : List D → M Rv) : MP.Env → M Fl :=
  (sRet (aThen (g1 gTuple) (aCons (eFl (fComp (eWalk (eBin gIx (eVar 0) (eC (.int 1)))) (asgN 1) tYesM (eBin gAdd (eC (.str "@")) (eCall (lenD 1 d_variable_of) (aCons (eVar 1) aNil))) [1])) aNil)))
noncomputable def den_inputs_of_proc (d_variable_of : List D → M Rv) : List D → M Rv := fun ds => noX (runB 2 (r_inputs_of_proc d_variable_of) ds)
theorem mp_inputs_of_proc {k : Nat} {f : Addr} {fd : FuncData} (F : Fun K "inputs_of_proc" "inputs_of_proc" st_inputs_of_proc f fd) {f_variable_of : Addr} {e_variable_of : FuncData} {d_variable_of : List D → M Rv} (T_variable_of : FnI K mg "variable_of" st_variable_of f_variable_of e_variable_of ["item"]) (F_variable_of : FnOk P w K mg base CX0 k f_variable_of e_variable_of ["item"] (sp K mg 1 d_variable_of)) (z_tuple : mg "tuple" = none) : FnOk P w K mg base CX0 (k + 1) f fd ["proc"] (sp K mg 1 (den_inputs_of_proc d_variable_of)) :=
  have sc := sc_inputs_of_proc
  fn_mp (N := ["proc", "item"]) (r := r_inputs_of_proc d_variable_of) F sc_inputs_of_proc rfl fun cdv A outer s H E hr =>
  have hu := hr.units
  have hu1 := units1 hr
  (mss_one (ms_ret (me_callTy call_tuple_of callM_tuple rfl z_tuple (by decide +kernel) (ma_cons (me_fl (mf_comp rfl sc.nd (mi_seq (me_ix (me_var (pv 0)) me_int)) (own := [("item", 1)]) (blkOk_by (N := ["proc", "item"]) (sc := defScope st_inputs_of_proc) (by decide +kernel)) (by decide) (fun s H C cl fp => (mg_of (pg_name (i := 1) sc.nd rfl (by first | exact Or.inl rfl | exact Or.inr rfl)))) (fun s H C cl fp => mts_nil) (fun s H C cl fp => (me_bin op_addM opm_add me_str (me_callF T_variable_of F_variable_of hr rfl (ma_cons (me_var (pv 1)) ma_nil) rfl))))) ma_nil))))
abbrev st_outcomes_of_proc : Stmt := top 14
theorem sc_outcomes_of_proc : FnScope ["proc", "moving", "arrays", "item"] ["proc", "moving"] (defScope st_outcomes_of_proc) := ⟨rfl, rfl, rfl, by decide +kernel, rfl, by decide +kernel, by decide +kernel⟩
/-- names: 0 proc, 1 moving, 2 arrays, 3 item -/
noncomputable def r_outcomes_of_proc (d_moving_items : List D → M Rv) (d_variable_of : List D → M Rv) : MP.Env → M Fl :=
  (sSeq (sSet 2 (eFl (fComp (eWalk (eCall (lenD 2 d_moving_items) (aCons (eVar 0) (aCons (eVar 1) aNil)))) (asgN 3) (eB (eBin (gEq false) (eBin gIx (eVar 3) (eC (.int 0))) (eC (.str "array")))) (eCall (lenD 1 d_variable_of) (aCons (eVar 3) aNil)) [3])))
  (sRet (eBin gAdd (eBin gIx (eVar 0) (eC (.int 2))) (aThen (g1 gTuple) (aCons (eVar 2) aNil)))))
noncomputable def den_outcomes_of_proc (d_moving_items : List D → M Rv) (d_variable_of : List D → M Rv) : List D → M Rv := fun ds => noX (runB 4 (r_outcomes_of_proc d_moving_items d_variable_of) ds)
theorem mp_outcomes_of_proc {k : Nat} {f : Addr} {fd : FuncData} (F : Fun K "outcomes_of_proc" "outcomes_of_proc" st_outcomes_of_proc f fd) {f_moving_items : Addr} {e_moving_items : FuncData} {f_variable_of : Addr} {e_variable_of : FuncData} {d_moving_items : List D → M Rv} {d_variable_of : List D → M Rv} (T_moving_items : FnI K mg "moving_items" st_moving_items f_moving_items e_moving_items ["proc", "moving"]) (F_moving_items : FnOk P w K mg base CX0 k f_moving_items e_moving_items ["proc", "moving"] (sp K mg 2 d_moving_items)) (T_variable_of : FnI K mg "variable_of" st_variable_of f_variable_of e_variable_of ["item"]) (F_variable_of : FnOk P w K mg base CX0 k f_variable_of e_variable_of ["item"] (sp K mg 1 d_variable_of)) (z_tuple : mg "tuple" = none) : FnOk P w K mg base CX0 (k + 1) f fd ["proc", "moving"] (sp K mg 2 (den_outcomes_of_proc d_moving_items d_variable_of)) :=
  have sc := sc_outcomes_of_proc
  fn_mp (N := ["proc", "moving", "arrays", "item"]) (r := r_outcomes_of_proc d_moving_items d_variable_of) F sc_outcomes_of_proc rfl fun cdv A outer s H E hr =>
  have hu := hr.units
  have hu1 := units1 hr
  (mss_cons (ms_setC (i := 2) rfl sc.nd rfl rfl (sw_true rfl rfl (by decide +kernel) (by decide +kernel)) (mi_seq (me_callF T_moving_items F_moving_items hr rfl (ma_cons (me_var (pv 0)) (ma_cons (me_var (pv 1)) ma_nil)) rfl)) (own := [("item", 3)]) (blkOk_by (N := ["proc", "moving", "arrays", "item"]) (sc := defScope st_outcomes_of_proc) (by decide +kernel)) (by decide) (fun s H C cl fp => (mg_of (pg_name (i := 3) sc.nd rfl (by first | exact Or.inl rfl | exact Or.inr rfl)))) (fun s H C cl fp => (mts_one (mt_cmp (op_eqM hu) opm_eq (me_ix (me_var (pv 3)) me_int) me_str (by first | exact nomark _ | rfl)))) (fun s H C cl fp => (me_callF T_variable_of F_variable_of hr rfl (ma_cons (me_var (pv 3)) ma_nil) rfl)) fl_go)
  (mss_one (ms_ret (me_bin op_addM opm_add (me_ix (me_var (pv 0)) me_int) (me_callTy call_tuple_of callM_tuple rfl z_tuple (by decide +kernel) (ma_cons (me_var (pv 2)) ma_nil))))))
abbrev st_inputs_of : Stmt := top 15
theorem sc_inputs_of : FnScope ["core", "name"] ["core", "name"] (defScope st_inputs_of) := ⟨rfl, rfl, rfl, by decide +kernel, rfl, by decide +kernel, by decide +kernel⟩
/-- names: 0 core, 1 name -/
noncomputable def r_inputs_of (d_inputs_of_proc : List D → M Rv) (d_proc_named : List D → M Rv) : MP.Env → M Fl :=
  (sRet (eCall (lenD 1 d_inputs_of_proc) (aCons (eCall (lenD 2 d_proc_named) (aCons (eVar 0) (aCons (eVar 1) aNil))) aNil)))
noncomputable def den_inputs_of (d_inputs_of_proc : List D → M Rv) (d_proc_named : List D → M Rv) : List D → M Rv := fun ds => noX (runB 2 (r_inputs_of d_inputs_of_proc d_proc_named) ds)
theorem mp_inputs_of {k : Nat} {f : Addr} {fd : FuncData} (F : Fun K "inputs_of" "inputs_of" st_inputs_of f fd) {f_inputs_of_proc : Addr} {e_inputs_of_proc : FuncData} {f_proc_named : Addr} {e_proc_named : FuncData} {d_inputs_of_proc : List D → M Rv} {d_proc_named : List D → M Rv} (T_inputs_of_proc : FnI K mg "inputs_of_proc" st_inputs_of_proc f_inputs_of_proc e_inputs_of_proc ["proc"]) (F_inputs_of_proc : FnOk P w K mg base CX0 k f_inputs_of_proc e_inputs_of_proc ["proc"] (sp K mg 1 d_inputs_of_proc)) (T_proc_named : FnI K mg "proc_named" st_proc_named f_proc_named e_proc_named ["core", "name"]) (F_proc_named : FnOk P w K mg base CX0 k f_proc_named e_proc_named ["core", "name"] (sp K mg 2 d_proc_named)) : FnOk P w K mg base CX0 (k + 1) f fd ["core", "name"] (sp K mg 2 (den_inputs_of d_inputs_of_proc d_proc_named)) :=
  have sc := sc_inputs_of
  fn_mp (N := ["core", "name"]) (r := r_inputs_of d_inputs_of_proc d_proc_named) F sc_inputs_of rfl fun cdv A outer s H E hr =>
  have hu := hr.units
  have hu1 := units1 hr
  (mss_one (ms_ret (me_callF T_inputs_of_proc F_inputs_of_proc hr rfl (ma_cons (me_callF T_proc_named F_proc_named hr rfl (ma_cons (me_var (pv 0)) (ma_cons (me_var (pv 1)) ma_nil)) rfl) ma_nil) rfl)))
abbrev st_outcomes_of : Stmt := top 16
theorem sc_outcomes_of : FnScope ["core", "name"] ["core", "name"] (defScope st_outcomes_of) := ⟨rfl, rfl, rfl, by decide +kernel, rfl, by decide +kernel, by decide +kernel⟩
/-- names: 0 core, 1 name -/
noncomputable def r_outcomes_of (d_outcomes_of_proc : List D → M Rv) (d_moving_table : List D → M Rv) (d_proc_named : List D → M Rv) : MP.Env → M Fl :=
  (sRet (eCall (lenD 2 d_outcomes_of_proc) (aCons (eCall (lenD 2 d_proc_named) (aCons (eVar 0) (aCons (eVar 1) aNil))) (aCons (eCall (lenD 1 d_moving_table) (aCons (eVar 0) aNil)) aNil))))
noncomputable def den_outcomes_of (d_outcomes_of_proc : List D → M Rv) (d_moving_table : List D → M Rv) (d_proc_named : List D → M Rv) : List D → M Rv := fun ds => noX (runB 2 (r_outcomes_of d_outcomes_of_proc d_moving_table d_proc_named) ds)
theorem mp_outcomes_of {k : Nat} {f : Addr} {fd : FuncData} (F : Fun K "outcomes_of" "outcomes_of" st_outcomes_of f fd) {f_outcomes_of_proc : Addr} {e_outcomes_of_proc : FuncData} {f_moving_table : Addr} {e_moving_table : FuncData} {f_proc_named : Addr} {e_proc_named : FuncData} {d_outcomes_of_proc : List D → M Rv} {d_moving_table : List D → M Rv} {d_proc_named : List D → M Rv} (T_outcomes_of_proc : FnI K mg "outcomes_of_proc" st_outcomes_of_proc f_outcomes_of_proc e_outcomes_of_proc ["proc", "moving"]) (F_outcomes_of_proc : FnOk P w K mg base CX0 k f_outcomes_of_proc e_outcomes_of_proc ["proc", "moving"] (sp K mg 2 d_outcomes_of_proc)) (T_moving_table : FnI K mg "moving_table" st_moving_table f_moving_table e_moving_table ["core"]) (F_moving_table : FnOk P w K mg base CX0 k f_moving_table e_moving_table ["core"] (sp K mg 1 d_moving_table)) (T_proc_named : FnI K mg "proc_named" st_proc_named f_proc_named e_proc_named ["core", "name"]) (F_proc_named : FnOk P w K mg base CX0 k f_proc_named e_proc_named ["core", "name"] (sp K mg 2 d_proc_named)) : FnOk P w K mg base CX0 (k + 1) f fd ["core", "name"] (sp K mg 2 (den_outcomes_of d_outcomes_of_proc d_moving_table d_proc_named)) :=
  have sc := sc_outcomes_of
  fn_mp (N := ["core", "name"]) (r := r_outcomes_of d_outcomes_of_proc d_moving_table d_proc_named) F sc_outcomes_of rfl fun cdv A outer s H E hr =>
  have hu := hr.units
  have hu1 := units1 hr
  (mss_one (ms_ret (me_callF T_outcomes_of_proc F_outcomes_of_proc hr rfl (ma_cons (me_callF T_proc_named F_proc_named hr rfl (ma_cons (me_var (pv 0)) (ma_cons (me_var (pv 1)) ma_nil)) rfl) (ma_cons (me_callF T_moving_table F_moving_table hr rfl (ma_cons (me_var (pv 0)) ma_nil) rfl) ma_nil)) rfl)))
abbrev st_marked : Stmt := top 20
theorem sc_marked : FnScope ["mark", "names", "name"] ["mark", "names"] (defScope st_marked) := ⟨rfl, rfl, rfl, by decide +kernel, rfl, by decide +kernel, by decide +kernel⟩
/-- names: 0 mark, 1 names, 2 name -/
noncomputable def r_marked : MP.Env → M Fl :=
  (sRet (aThen (g1 gTuple) (aCons (eFl (fComp (eWalk (eVar 1)) (asgN 2) tYesM (eBin gAdd (eVar 0) (eVar 2)) [2])) aNil)))
noncomputable def den_marked : List D → M Rv := fun ds => noX (runB 3 (r_marked) ds)
theorem mp_marked {k : Nat} {f : Addr} {fd : FuncData} (F : Fun K "marked" "marked" st_marked f fd) (z_tuple : mg "tuple" = none) : FnOk P w K mg base CX0 (k + 1) f fd ["mark", "names"] (sp K mg 2 (den_marked)) :=
  have sc := sc_marked
  fn_mp (N := ["mark", "names", "name"]) (r := r_marked) F sc_marked rfl fun cdv A outer s H E hr =>
  have hu := hr.units
  have hu1 := units1 hr
  (mss_one (ms_ret (me_callTy call_tuple_of callM_tuple rfl z_tuple (by decide +kernel) (ma_cons (me_fl (mf_comp rfl sc.nd (mi_seq (me_var (pv 1))) (own := [("name", 2)]) (blkOk_by (N := ["mark", "names", "name"]) (sc := defScope st_marked) (by decide +kernel)) (by decide) (fun s H C cl fp => (mg_of (pg_name (i := 2) sc.nd rfl (by first | exact Or.inl rfl | exact Or.inr rfl)))) (fun s H C cl fp => mts_nil) (fun s H C cl fp => (me_bin op_addM opm_add (me_var (pv 0)) (me_var (pv 2)))))) ma_nil))))
abbrev st_count_name : Stmt := top 21
theorem sc_count_name : FnScope ["mark"] ["mark"] (defScope st_count_name) := ⟨rfl, rfl, rfl, by decide +kernel, rfl, by decide +kernel, by decide +kernel⟩
/-- names: 0 mark -/
noncomputable def r_count_name : MP.Env → M Fl :=
  (sRet (eBin gAdd (eVar 0) (eC (.str ".count"))))
noncomputable def den_count_name : List D → M Rv := fun ds => noX (runB 1 (r_count_name) ds)
theorem mp_count_name {k : Nat} {f : Addr} {fd : FuncData} (F : Fun K "count_name" "count_name" st_count_name f fd) : FnOk P w K mg base CX0 (k + 1) f fd ["mark"] (sp K mg 1 (den_count_name)) :=
  have sc := sc_count_name
  fn_mp (N := ["mark"]) (r := r_count_name) F sc_count_name rfl fun cdv A outer s H E hr =>
  have hu := hr.units
  have hu1 := units1 hr
  (mss_one (ms_ret (me_bin op_addM opm_add (me_var (pv 0)) me_str)))
abbrev st_array_parameters : Stmt := top 23
theorem sc_array_parameters : FnScope ["core", "name", "item"] ["core", "name"] (defScope st_array_parameters) := ⟨rfl, rfl, rfl, by decide +kernel, rfl, by decide +kernel, by decide +kernel⟩
/-- names: 0 core, 1 name, 2 item -/
noncomputable def r_array_parameters (d_proc_named : List D → M Rv) : MP.Env → M Fl :=
  (sRet (aThen (g1 gTuple) (aCons (eFl (fComp (eWalk (eBin gIx (eCall (lenD 2 d_proc_named) (aCons (eVar 0) (aCons (eVar 1) aNil))) (eC (.int 1)))) (asgN 2) (eB (eBin (gEq false) (eBin gIx (eVar 2) (eC (.int 0))) (eC (.str "array")))) (eBin gIx (eVar 2) (eC (.int 1))) [2])) aNil)))
noncomputable def den_array_parameters (d_proc_named : List D → M Rv) : List D → M Rv := fun ds => noX (runB 3 (r_array_parameters d_proc_named) ds)
theorem mp_array_parameters {k : Nat} {f : Addr} {fd : FuncData} (F : Fun K "array_parameters" "array_parameters" st_array_parameters f fd) {f_proc_named : Addr} {e_proc_named : FuncData} {d_proc_named : List D → M Rv} (T_proc_named : FnI K mg "proc_named" st_proc_named f_proc_named e_proc_named ["core", "name"]) (F_proc_named : FnOk P w K mg base CX0 k f_proc_named e_proc_named ["core", "name"] (sp K mg 2 d_proc_named)) (z_tuple : mg "tuple" = none) : FnOk P w K mg base CX0 (k + 1) f fd ["core", "name"] (sp K mg 2 (den_array_parameters d_proc_named)) :=
  have sc := sc_array_parameters
  fn_mp (N := ["core", "name", "item"]) (r := r_array_parameters d_proc_named) F sc_array_parameters rfl fun cdv A outer s H E hr =>
  have hu := hr.units
  have hu1 := units1 hr
  (mss_one (ms_ret (me_callTy call_tuple_of callM_tuple rfl z_tuple (by decide +kernel) (ma_cons (me_fl (mf_comp rfl sc.nd (mi_seq (me_ix (me_callF T_proc_named F_proc_named hr rfl (ma_cons (me_var (pv 0)) (ma_cons (me_var (pv 1)) ma_nil)) rfl) me_int)) (own := [("item", 2)]) (blkOk_by (N := ["core", "name", "item"]) (sc := defScope st_array_parameters) (by decide +kernel)) (by decide) (fun s H C cl fp => (mg_of (pg_name (i := 2) sc.nd rfl (by first | exact Or.inl rfl | exact Or.inr rfl)))) (fun s H C cl fp => (mts_one (mt_cmp (op_eqM hu) opm_eq (me_ix (me_var (pv 2)) me_int) me_str (by first | exact nomark _ | rfl)))) (fun s H C cl fp => (me_ix (me_var (pv 2)) me_int)))) ma_nil))))
abbrev st_given_names : Stmt := top 24
theorem sc_given_names : FnScope ["left", "right", "claim"] ["left", "right", "claim"] (defScope st_given_names) := ⟨rfl, rfl, rfl, by decide +kernel, rfl, by decide +kernel, by decide +kernel⟩
/-- names: 0 left, 1 right, 2 claim -/
noncomputable def r_given_names (d_marked : List D → M Rv) (d_inputs_of : List D → M Rv) : MP.Env → M Fl :=
  (sRet (eBin gAdd (eCall (lenD 2 d_marked) (aCons (eC (.str "l.")) (aCons (eCall (lenD 2 d_inputs_of) (aCons (eVar 0) (aCons (eBin gIx (eVar 2) (eC (.int 0))) aNil))) aNil))) (eCall (lenD 2 d_marked) (aCons (eC (.str "r.")) (aCons (eCall (lenD 2 d_inputs_of) (aCons (eVar 1) (aCons (eBin gIx (eVar 2) (eC (.int 1))) aNil))) aNil)))))
noncomputable def den_given_names (d_marked : List D → M Rv) (d_inputs_of : List D → M Rv) : List D → M Rv := fun ds => noX (runB 3 (r_given_names d_marked d_inputs_of) ds)
theorem mp_given_names {k : Nat} {f : Addr} {fd : FuncData} (F : Fun K "given_names" "given_names" st_given_names f fd) {f_marked : Addr} {e_marked : FuncData} {f_inputs_of : Addr} {e_inputs_of : FuncData} {d_marked : List D → M Rv} {d_inputs_of : List D → M Rv} (T_marked : FnI K mg "marked" st_marked f_marked e_marked ["mark", "names"]) (F_marked : FnOk P w K mg base CX0 k f_marked e_marked ["mark", "names"] (sp K mg 2 d_marked)) (T_inputs_of : FnI K mg "inputs_of" st_inputs_of f_inputs_of e_inputs_of ["core", "name"]) (F_inputs_of : FnOk P w K mg base CX0 k f_inputs_of e_inputs_of ["core", "name"] (sp K mg 2 d_inputs_of)) {t_LEFT : Tok} (q_LEFT : mg "LEFT" = some (.str "l." t_LEFT)) {t_RIGHT : Tok} (q_RIGHT : mg "RIGHT" = some (.str "r." t_RIGHT)) : FnOk P w K mg base CX0 (k + 1) f fd ["left", "right", "claim"] (sp K mg 3 (den_given_names d_marked d_inputs_of)) :=
  have sc := sc_given_names
  fn_mp (N := ["left", "right", "claim"]) (r := r_given_names d_marked d_inputs_of) F sc_given_names rfl fun cdv A outer s H E hr =>
  have hu := hr.units
  have hu1 := units1 hr
  (mss_one (ms_ret (me_bin op_addM opm_add (me_callF T_marked F_marked hr rfl (ma_cons (me_gstr rfl q_LEFT) (ma_cons (me_callF T_inputs_of F_inputs_of hr rfl (ma_cons (me_var (pv 0)) (ma_cons (me_ix (me_var (pv 2)) me_int) ma_nil)) rfl) ma_nil)) rfl) (me_callF T_marked F_marked hr rfl (ma_cons (me_gstr rfl q_RIGHT) (ma_cons (me_callF T_inputs_of F_inputs_of hr rfl (ma_cons (me_var (pv 1)) (ma_cons (me_ix (me_var (pv 2)) me_int) ma_nil)) rfl) ma_nil)) rfl))))
abbrev st_ask_names : Stmt := top 25
theorem sc_ask_names : FnScope ["left", "right", "claim", "found"] ["left", "right", "claim"] (defScope st_ask_names) := ⟨rfl, rfl, rfl, by decide +kernel, rfl, by decide +kernel, by decide +kernel⟩
/-- names: 0 left, 1 right, 2 claim, 3 found -/
noncomputable def r_ask_names (d_given_names : List D → M Rv) (d_count_name : List D → M Rv) (d_marked : List D → M Rv) (d_outcomes_of : List D → M Rv) : MP.Env → M Fl :=
  (sSeq (sSet 3 (eBin gAdd (eCall (lenD 3 d_given_names) (aCons (eVar 0) (aCons (eVar 1) (aCons (eVar 2) aNil)))) (aThen gTup (aCons (eCall (lenD 1 d_count_name) (aCons (eC (.str "l.")) aNil)) (aCons (eCall (lenD 1 d_count_name) (aCons (eC (.str "r.")) aNil)) aNil)))))
  (sSeq (sSet 3 (eBin gAdd (eVar 3) (eCall (lenD 2 d_marked) (aCons (eBin gAdd (eC (.str "l.")) (eC (.str "."))) (aCons (eCall (lenD 2 d_outcomes_of) (aCons (eVar 0) (aCons (eBin gIx (eVar 2) (eC (.int 0))) aNil))) aNil)))))
  (sRet (eBin gAdd (eVar 3) (eCall (lenD 2 d_marked) (aCons (eBin gAdd (eC (.str "r.")) (eC (.str "."))) (aCons (eCall (lenD 2 d_outcomes_of) (aCons (eVar 1) (aCons (eBin gIx (eVar 2) (eC (.int 1))) aNil))) aNil)))))))
noncomputable def den_ask_names (d_given_names : List D → M Rv) (d_count_name : List D → M Rv) (d_marked : List D → M Rv) (d_outcomes_of : List D → M Rv) : List D → M Rv := fun ds => noX (runB 4 (r_ask_names d_given_names d_count_name d_marked d_outcomes_of) ds)
theorem mp_ask_names {k : Nat} {f : Addr} {fd : FuncData} (F : Fun K "ask_names" "ask_names" st_ask_names f fd) {f_given_names : Addr} {e_given_names : FuncData} {f_count_name : Addr} {e_count_name : FuncData} {f_marked : Addr} {e_marked : FuncData} {f_outcomes_of : Addr} {e_outcomes_of : FuncData} {d_given_names : List D → M Rv} {d_count_name : List D → M Rv} {d_marked : List D → M Rv} {d_outcomes_of : List D → M Rv} (T_given_names : FnI K mg "given_names" st_given_names f_given_names e_given_names ["left", "right", "claim"]) (F_given_names : FnOk P w K mg base CX0 k f_given_names e_given_names ["left", "right", "claim"] (sp K mg 3 d_given_names)) (T_count_name : FnI K mg "count_name" st_count_name f_count_name e_count_name ["mark"]) (F_count_name : FnOk P w K mg base CX0 k f_count_name e_count_name ["mark"] (sp K mg 1 d_count_name)) (T_marked : FnI K mg "marked" st_marked f_marked e_marked ["mark", "names"]) (F_marked : FnOk P w K mg base CX0 k f_marked e_marked ["mark", "names"] (sp K mg 2 d_marked)) (T_outcomes_of : FnI K mg "outcomes_of" st_outcomes_of f_outcomes_of e_outcomes_of ["core", "name"]) (F_outcomes_of : FnOk P w K mg base CX0 k f_outcomes_of e_outcomes_of ["core", "name"] (sp K mg 2 d_outcomes_of)) {t_RIGHT : Tok} (q_RIGHT : mg "RIGHT" = some (.str "r." t_RIGHT)) {t_LEFT : Tok} (q_LEFT : mg "LEFT" = some (.str "l." t_LEFT)) : FnOk P w K mg base CX0 (k + 1) f fd ["left", "right", "claim"] (sp K mg 3 (den_ask_names d_given_names d_count_name d_marked d_outcomes_of)) :=
  have sc := sc_ask_names
  fn_mp (N := ["left", "right", "claim", "found"]) (r := r_ask_names d_given_names d_count_name d_marked d_outcomes_of) F sc_ask_names rfl fun cdv A outer s H E hr =>
  have hu := hr.units
  have hu1 := units1 hr
  (mss_cons (ms_set (i := 3) sc.nd rfl (by first | exact Or.inl rfl | exact Or.inr rfl) (me_bin op_addM opm_add (me_callF T_given_names F_given_names hr rfl (ma_cons (me_var (pv 0)) (ma_cons (me_var (pv 1)) (ma_cons (me_var (pv 2)) ma_nil))) rfl) (me_tup (ma_cons (me_callF T_count_name F_count_name hr rfl (ma_cons (me_gstr rfl q_LEFT) ma_nil) rfl) (ma_cons (me_callF T_count_name F_count_name hr rfl (ma_cons (me_gstr rfl q_RIGHT) ma_nil) rfl) ma_nil)))))
  (mss_cons (ms_set (i := 3) sc.nd rfl (by first | exact Or.inl rfl | exact Or.inr rfl) (me_bin op_addM opm_add (me_var (pv 3)) (me_callF T_marked F_marked hr rfl (ma_cons (me_bin op_addM opm_add (me_gstr rfl q_LEFT) me_str) (ma_cons (me_callF T_outcomes_of F_outcomes_of hr rfl (ma_cons (me_var (pv 0)) (ma_cons (me_ix (me_var (pv 2)) me_int) ma_nil)) rfl) ma_nil)) rfl)))
  (mss_one (ms_ret (me_bin op_addM opm_add (me_var (pv 3)) (me_callF T_marked F_marked hr rfl (ma_cons (me_bin op_addM opm_add (me_gstr rfl q_RIGHT) me_str) (ma_cons (me_callF T_outcomes_of F_outcomes_of hr rfl (ma_cons (me_var (pv 1)) (ma_cons (me_ix (me_var (pv 2)) me_int) ma_nil)) rfl) ma_nil)) rfl))))))
abbrev st_are_pairs : Stmt := top 26
theorem sc_are_pairs : FnScope ["datum", "left_arrays", "right_arrays", "place", "pair"] ["datum", "left_arrays", "right_arrays"] (defScope st_are_pairs) := ⟨rfl, rfl, rfl, by decide +kernel, rfl, by decide +kernel, by decide +kernel⟩
/-- names: 0 datum, 1 left_arrays, 2 right_arrays, 3 place, 4 pair -/
noncomputable def r_are_pairs (d_is_tuple : List D → M Rv) : MP.Env → M Fl :=
  (sSeq (eIf (bNot (eB (eMap (gIsi "tuple") (eVar 0))))
  (sRet (eC (.bl false)))
  sNext)
  (sSeq (sFor (wThen wEnumA (aCons (eVar 0) aNil)) (asgT 2 (asgCons (asgN 3) (asgCons (asgN 4) asgNil)))
  (sSeq (eIf (bOr (bNot (eB (eCall (lenD 2 d_is_tuple) (aCons (eVar 4) (aCons (eC (.int 2)) aNil))))) (bOr (eB (eBin (gIn true) (eBin gIx (eVar 4) (eC (.int 0))) (eVar 1))) (eB (eBin (gIn true) (eBin gIx (eVar 4) (eC (.int 1))) (eVar 2)))))
  (sRet (eC (.bl false)))
  sNext)
  (eIf (eB (eBin (gIn false) (eVar 4) (eSl (eVar 0) oNone (oSome (eVar 3)))))
  (sRet (eC (.bl false)))
  sNext)) [3, 4])
  (sRet (eC (.bl true)))))
noncomputable def den_are_pairs (d_is_tuple : List D → M Rv) : List D → M Rv := fun ds => noX (runB 5 (r_are_pairs d_is_tuple) ds)
theorem mp_are_pairs {k : Nat} {f : Addr} {fd : FuncData} (F : Fun K "are_pairs" "are_pairs" st_are_pairs f fd) {f_is_tuple : Addr} {e_is_tuple : FuncData} {d_is_tuple : List D → M Rv} (T_is_tuple : FnI K mg "is_tuple" st_is_tuple f_is_tuple e_is_tuple ["datum", "many"]) (F_is_tuple : FnOk P w K mg base CX0 k f_is_tuple e_is_tuple ["datum", "many"] (sp K mg 2 d_is_tuple)) (z_isinstance : mg "isinstance" = none) (z_tuple : mg "tuple" = none) (z_enumerate : mg "enumerate" = none) : FnOk P w K mg base CX0 (k + 1) f fd ["datum", "left_arrays", "right_arrays"] (sp K mg 3 (den_are_pairs d_is_tuple)) :=
  have sc := sc_are_pairs
  fn_mp (N := ["datum", "left_arrays", "right_arrays", "place", "pair"]) (r := r_are_pairs d_is_tuple) F sc_are_pairs rfl fun cdv A outer s H E hr =>
  have hu := hr.units
  have hu1 := units1 hr
  (mss_cons (ms_if (mt_not (mt_val (me_isi (T := "tuple") (by decide) rfl z_isinstance (by decide +kernel) rfl z_tuple (by decide +kernel) (me_var (pv 0)))))
  (mss_one (ms_ret me_bl))
  mss_nil)
  (mss_cons (ms_for (fg := [3, 4]) PassesOwn.never rfl (mi_enumA rfl z_enumerate (ma_cons (me_var (pv 0)) ma_nil)) (mg_tup rfl (mgs_cons (mg_of (pg_name (i := 3) sc.nd rfl (by first | exact Or.inl rfl | exact Or.inr rfl))) (mgs_cons (mg_of (pg_name (i := 4) sc.nd rfl (by first | exact Or.inl rfl | exact Or.inr rfl))) mgs_nil)))
  (mss_cons (ms_if (MW.mt (mw_or (mt_not (mt_val (me_callF T_is_tuple F_is_tuple hr rfl (ma_cons (me_var (pv 4)) (ma_cons me_int ma_nil)) rfl))) (mw_or (mt_cmp (op_notInM hu) opm_in (me_ix (me_var (pv 4)) me_int) (me_var (pv 1)) (by first | exact nomark _ | rfl)) (mw_or1 (mt_cmp (op_notInM hu) opm_in (me_ix (me_var (pv 4)) me_int) (me_var (pv 2)) (by first | exact nomark _ | rfl))))))
  (mss_one (ms_ret me_bl))
  mss_nil)
  (mss_one (ms_if (mt_cmp (op_inM hu) opm_in (me_var (pv 4)) (me_slice (me_var (pv 0)) mo_none (mo_some (me_var (pv 3)))) (by first | exact nomark _ | rfl))
  (mss_one (ms_ret me_bl))
  mss_nil))))
  (mss_one (ms_ret me_bl))))
abbrev st_are_forms : Stmt := top 27
theorem sc_are_forms : FnScope ["datum", "names", "f"] ["datum", "names"] (defScope st_are_forms) := ⟨rfl, rfl, rfl, by decide +kernel, rfl, by decide +kernel, by decide +kernel⟩
/-- names: 0 datum, 1 names, 2 f -/
noncomputable def r_are_forms (d_is_form_over : List D → M Rv) : MP.Env → M Fl :=
  (sRet (eAnd (eMap (gIsi "tuple") (eVar 0)) (aThen (g1 gAll) (aCons (eFl (fComp (eWalk (eVar 0)) (asgN 2) tYesM (eCall (lenD 2 d_is_form_over) (aCons (eVar 2) (aCons (eVar 1) aNil))) [2])) aNil))))
noncomputable def den_are_forms (d_is_form_over : List D → M Rv) : List D → M Rv := fun ds => noX (runB 3 (r_are_forms d_is_form_over) ds)
theorem mp_are_forms {k : Nat} {f : Addr} {fd : FuncData} (F : Fun K "are_forms" "are_forms" st_are_forms f fd) {f_is_form_over : Addr} {e_is_form_over : FuncData} {d_is_form_over : List D → M Rv} (T_is_form_over : FnI K mg "is_form_over" st_is_form_over f_is_form_over e_is_form_over ["datum", "names"]) (F_is_form_over : FnOk P w K mg base CX0 k f_is_form_over e_is_form_over ["datum", "names"] (sp K mg 2 d_is_form_over)) (z_isinstance : mg "isinstance" = none) (z_tuple : mg "tuple" = none) (z_all : mg "all" = none) : FnOk P w K mg base CX0 (k + 1) f fd ["datum", "names"] (sp K mg 2 (den_are_forms d_is_form_over)) :=
  have sc := sc_are_forms
  fn_mp (N := ["datum", "names", "f"]) (r := r_are_forms d_is_form_over) F sc_are_forms rfl fun cdv A outer s H E hr =>
  have hu := hr.units
  have hu1 := units1 hr
  (mss_one (ms_ret (me_and (me_isi (T := "tuple") (by decide) rfl z_isinstance (by decide +kernel) rfl z_tuple (by decide +kernel) (me_var (pv 0))) (me_one (me_callB (cr_all rfl) callM_all rfl z_all (by decide +kernel) (ma_cons (me_fl (mf_comp rfl sc.nd (mi_seq (me_var (pv 0))) (own := [("f", 2)]) (blkOk_by (N := ["datum", "names", "f"]) (sc := defScope st_are_forms) (by decide +kernel)) (by decide) (fun s H C cl fp => (mg_of (pg_name (i := 2) sc.nd rfl (by first | exact Or.inl rfl | exact Or.inr rfl)))) (fun s H C cl fp => mts_nil) (fun s H C cl fp => (me_callF T_is_form_over F_is_form_over hr rfl (ma_cons (me_var (pv 2)) (ma_cons (me_var (pv 1)) ma_nil)) rfl)))) ma_nil))))))
abbrev st_has_proc : Stmt := top 28
theorem sc_has_proc : FnScope ["core", "name", "proc"] ["core", "name"] (defScope st_has_proc) := ⟨rfl, rfl, rfl, by decide +kernel, rfl, by decide +kernel, by decide +kernel⟩
/-- names: 0 core, 1 name, 2 proc -/
noncomputable def r_has_proc : MP.Env → M Fl :=
  (sRet (aThen (g1 gAny) (aCons (eFl (fComp (eWalk (eVar 0)) (asgN 2) tYesM (eBin (gEq false) (eBin gIx (eVar 2) (eC (.int 0))) (eVar 1)) [2])) aNil)))
noncomputable def den_has_proc : List D → M Rv := fun ds => noX (runB 3 (r_has_proc) ds)
theorem mp_has_proc {k : Nat} {f : Addr} {fd : FuncData} (F : Fun K "has_proc" "has_proc" st_has_proc f fd) (z_any : mg "any" = none) : FnOk P w K mg base CX0 (k + 1) f fd ["core", "name"] (sp K mg 2 (den_has_proc)) :=
  have sc := sc_has_proc
  fn_mp (N := ["core", "name", "proc"]) (r := r_has_proc) F sc_has_proc rfl fun cdv A outer s H E hr =>
  have hu := hr.units
  have hu1 := units1 hr
  (mss_one (ms_ret (me_callB (cr_any rfl) callM_any rfl z_any (by decide +kernel) (ma_cons (me_fl (mf_comp rfl sc.nd (mi_seq (me_var (pv 0))) (own := [("proc", 2)]) (blkOk_by (N := ["core", "name", "proc"]) (sc := defScope st_has_proc) (by decide +kernel)) (by decide) (fun s H C cl fp => (mg_of (pg_name (i := 2) sc.nd rfl (by first | exact Or.inl rfl | exact Or.inr rfl)))) (fun s H C cl fp => mts_nil) (fun s H C cl fp => (me_cmp (op_eqM hu) opm_eq (me_ix (me_var (pv 2)) me_int) (me_var (pv 1)) (by first | exact nomark _ | rfl))))) ma_nil))))
abbrev st_is_claim : Stmt := top 29
theorem sc_is_claim : FnScope ["left", "right", "datum", "arrays"] ["left", "right", "datum"] (defScope st_is_claim) := ⟨rfl, rfl, rfl, by decide +kernel, rfl, by decide +kernel, by decide +kernel⟩
/-- names: 0 left, 1 right, 2 datum, 3 arrays -/
noncomputable def r_is_claim (d_is_tuple : List D → M Rv) (d_has_proc : List D → M Rv) (d_array_parameters : List D → M Rv) (d_are_forms : List D → M Rv) (d_given_names : List D → M Rv) (d_are_pairs : List D → M Rv) (d_ask_names : List D → M Rv) : MP.Env → M Fl :=
  (sSeq (eIf (bOr (bNot (eB (eCall (lenD 2 d_is_tuple) (aCons (eVar 2) (aCons (eC (.int 6)) aNil))))) (bOr (bNot (eB (eCall (lenD 2 d_has_proc) (aCons (eVar 0) (aCons (eBin gIx (eVar 2) (eC (.int 0))) aNil))))) (bNot (eB (eCall (lenD 2 d_has_proc) (aCons (eVar 1) (aCons (eBin gIx (eVar 2) (eC (.int 1))) aNil)))))))
  (sRet (eC (.bl false)))
  sNext)
  (sSeq (sSet 3 (aThen gTup (aCons (eCall (lenD 2 d_array_parameters) (aCons (eVar 0) (aCons (eBin gIx (eVar 2) (eC (.int 0))) aNil))) (aCons (eCall (lenD 2 d_array_parameters) (aCons (eVar 1) (aCons (eBin gIx (eVar 2) (eC (.int 1))) aNil))) aNil))))
  (sSeq (eIf (bNot (eB (eCall (lenD 2 d_are_forms) (aCons (eBin gIx (eVar 2) (eC (.int 2))) (aCons (eCall (lenD 3 d_given_names) (aCons (eVar 0) (aCons (eVar 1) (aCons (eVar 2) aNil)))) aNil)))))
  (sRet (eC (.bl false)))
  sNext)
  (sSeq (eIf (bOr (bNot (eB (eCall (lenD 3 d_are_pairs) (aCons (eBin gIx (eVar 2) (eC (.int 3))) (aCons (eBin gIx (eVar 3) (eC (.int 0))) (aCons (eBin gIx (eVar 3) (eC (.int 1))) aNil)))))) (bNot (eB (eCall (lenD 3 d_are_pairs) (aCons (eBin gIx (eVar 2) (eC (.int 5))) (aCons (eBin gIx (eVar 3) (eC (.int 0))) (aCons (eBin gIx (eVar 3) (eC (.int 1))) aNil)))))))
  (sRet (eC (.bl false)))
  sNext)
  (sRet (eCall (lenD 2 d_are_forms) (aCons (eBin gIx (eVar 2) (eC (.int 4))) (aCons (eCall (lenD 3 d_ask_names) (aCons (eVar 0) (aCons (eVar 1) (aCons (eVar 2) aNil)))) aNil))))))))
noncomputable def den_is_claim (d_is_tuple : List D → M Rv) (d_has_proc : List D → M Rv) (d_array_parameters : List D → M Rv) (d_are_forms : List D → M Rv) (d_given_names : List D → M Rv) (d_are_pairs : List D → M Rv) (d_ask_names : List D → M Rv) : List D → M Rv := fun ds => noX (runB 4 (r_is_claim d_is_tuple d_has_proc d_array_parameters d_are_forms d_given_names d_are_pairs d_ask_names) ds)
theorem mp_is_claim {k : Nat} {f : Addr} {fd : FuncData} (F : Fun K "is_claim" "is_claim" st_is_claim f fd) {f_is_tuple : Addr} {e_is_tuple : FuncData} {f_has_proc : Addr} {e_has_proc : FuncData} {f_array_parameters : Addr} {e_array_parameters : FuncData} {f_are_forms : Addr} {e_are_forms : FuncData} {f_given_names : Addr} {e_given_names : FuncData} {f_are_pairs : Addr} {e_are_pairs : FuncData} {f_ask_names : Addr} {e_ask_names : FuncData} {d_is_tuple : List D → M Rv} {d_has_proc : List D → M Rv} {d_array_parameters : List D → M Rv} {d_are_forms : List D → M Rv} {d_given_names : List D → M Rv} {d_are_pairs : List D → M Rv} {d_ask_names : List D → M Rv} (T_is_tuple : FnI K mg "is_tuple" st_is_tuple f_is_tuple e_is_tuple ["datum", "many"]) (F_is_tuple : FnOk P w K mg base CX0 k f_is_tuple e_is_tuple ["datum", "many"] (sp K mg 2 d_is_tuple)) (T_has_proc : FnI K mg "has_proc" st_has_proc f_has_proc e_has_proc ["core", "name"]) (F_has_proc : FnOk P w K mg base CX0 k f_has_proc e_has_proc ["core", "name"] (sp K mg 2 d_has_proc)) (T_array_parameters : FnI K mg "array_parameters" st_array_parameters f_array_parameters e_array_parameters ["core", "name"]) (F_array_parameters : FnOk P w K mg base CX0 k f_array_parameters e_array_parameters ["core", "name"] (sp K mg 2 d_array_parameters)) (T_are_forms : FnI K mg "are_forms" st_are_forms f_are_forms e_are_forms ["datum", "names"]) (F_are_forms : FnOk P w K mg base CX0 k f_are_forms e_are_forms ["datum", "names"] (sp K mg 2 d_are_forms)) (T_given_names : FnI K mg "given_names" st_given_names f_given_names e_given_names ["left", "right", "claim"]) (F_given_names : FnOk P w K mg base CX0 k f_given_names e_given_names ["left", "right", "claim"] (sp K mg 3 d_given_names)) (T_are_pairs : FnI K mg "are_pairs" st_are_pairs f_are_pairs e_are_pairs ["datum", "left_arrays", "right_arrays"]) (F_are_pairs : FnOk P w K mg base CX0 k f_are_pairs e_are_pairs ["datum", "left_arrays", "right_arrays"] (sp K mg 3 d_are_pairs)) (T_ask_names : FnI K mg "ask_names" st_ask_names f_ask_names e_ask_names ["left", "right", "claim"]) (F_ask_names : FnOk P w K mg base CX0 k f_ask_names e_ask_names ["left", "right", "claim"] (sp K mg 3 d_ask_names)) : FnOk P w K mg base CX0 (k + 1) f fd ["left", "right", "datum"] (sp K mg 3 (den_is_claim d_is_tuple d_has_proc d_array_parameters d_are_forms d_given_names d_are_pairs d_ask_names)) :=
  have sc := sc_is_claim
  fn_mp (N := ["left", "right", "datum", "arrays"]) (r := r_is_claim d_is_tuple d_has_proc d_array_parameters d_are_forms d_given_names d_are_pairs d_ask_names) F sc_is_claim rfl fun cdv A outer s H E hr =>
  have hu := hr.units
  have hu1 := units1 hr
  (mss_cons (ms_if (MW.mt (mw_or (mt_not (mt_val (me_callF T_is_tuple F_is_tuple hr rfl (ma_cons (me_var (pv 2)) (ma_cons me_int ma_nil)) rfl))) (mw_or (mt_not (mt_val (me_callF T_has_proc F_has_proc hr rfl (ma_cons (me_var (pv 0)) (ma_cons (me_ix (me_var (pv 2)) me_int) ma_nil)) rfl))) (mw_or1 (mt_not (mt_val (me_callF T_has_proc F_has_proc hr rfl (ma_cons (me_var (pv 1)) (ma_cons (me_ix (me_var (pv 2)) me_int) ma_nil)) rfl)))))))
  (mss_one (ms_ret me_bl))
  mss_nil)
  (mss_cons (ms_set (i := 3) sc.nd rfl (by first | exact Or.inl rfl | exact Or.inr rfl) (me_tup (ma_cons (me_callF T_array_parameters F_array_parameters hr rfl (ma_cons (me_var (pv 0)) (ma_cons (me_ix (me_var (pv 2)) me_int) ma_nil)) rfl) (ma_cons (me_callF T_array_parameters F_array_parameters hr rfl (ma_cons (me_var (pv 1)) (ma_cons (me_ix (me_var (pv 2)) me_int) ma_nil)) rfl) ma_nil))))
  (mss_cons (ms_if (mt_not (mt_val (me_callF T_are_forms F_are_forms hr rfl (ma_cons (me_ix (me_var (pv 2)) me_int) (ma_cons (me_callF T_given_names F_given_names hr rfl (ma_cons (me_var (pv 0)) (ma_cons (me_var (pv 1)) (ma_cons (me_var (pv 2)) ma_nil))) rfl) ma_nil)) rfl)))
  (mss_one (ms_ret me_bl))
  mss_nil)
  (mss_cons (ms_if (MW.mt (mw_or (mt_not (mt_val (me_callF T_are_pairs F_are_pairs hr rfl (ma_cons (me_ix (me_var (pv 2)) me_int) (ma_cons (me_ix (me_var (pv 3)) me_int) (ma_cons (me_ix (me_var (pv 3)) me_int) ma_nil))) rfl))) (mw_or1 (mt_not (mt_val (me_callF T_are_pairs F_are_pairs hr rfl (ma_cons (me_ix (me_var (pv 2)) me_int) (ma_cons (me_ix (me_var (pv 3)) me_int) (ma_cons (me_ix (me_var (pv 3)) me_int) ma_nil))) rfl))))))
  (mss_one (ms_ret me_bl))
  mss_nil)
  (mss_one (ms_ret (me_callF T_are_forms F_are_forms hr rfl (ma_cons (me_ix (me_var (pv 2)) me_int) (ma_cons (me_callF T_ask_names F_ask_names hr rfl (ma_cons (me_var (pv 0)) (ma_cons (me_var (pv 1)) (ma_cons (me_var (pv 2)) ma_nil))) rfl) ma_nil)) rfl)))))))
abbrev st__law_start : Stmt := top 31
theorem sc__law_start : FnScope ["script"] ["script"] (defScope st__law_start) := ⟨rfl, rfl, rfl, by decide +kernel, rfl, by decide +kernel, by decide +kernel⟩
theorem mp__law_start {k : Nat} {f : Addr} {fd : FuncData} (F : Fun K "_law_start" "_law_start" st__law_start f fd) (z_list : mg "list" = none) : FnOk P w K mg base CX0 (k + 1) f fd ["script"] (sp K mg 1 (den__law_start)) :=
  have sc := sc__law_start
  fn_mp (N := ["script"]) (r := r__law_start) F sc__law_start rfl fun cdv A outer s H E hr =>
  have hu := hr.units
  have hu1 := units1 hr
  (mss_one (ms_retF (mf_lst (ma_cons (me_fl (mf_list1 rfl z_list (by decide +kernel) (ma_cons (me_var (pv 0)) ma_nil))) (ma_cons me_int (ma_cons me_int (ma_cons me_int ma_nil)))))))
abbrev st__law_draw : Stmt := top 32
theorem sc__law_draw : FnScope ["state", "most", "cell", "mixed", "found"] ["state", "most"] (defScope st__law_draw) := ⟨rfl, rfl, rfl, by decide +kernel, rfl, by decide +kernel, by decide +kernel⟩
theorem mp__law_draw {k : Nat} {f : Addr} {fd : FuncData} (F : Fun K "_law_draw" "_law_draw" st__law_draw f fd) (z_int : mg "int" = none) (z_len : mg "len" = none) (z_abs : mg "abs" = none) : FnOk P w K mg base CX0 (k + 1) f fd ["state", "most"] (sp K mg 2 (den__law_draw)) :=
  have sc := sc__law_draw
  fn_mp (N := ["state", "most", "cell", "mixed", "found"]) (r := r__law_draw) F sc__law_draw rfl fun cdv A outer s H E hr =>
  have hu := hr.units
  have hu1 := units1 hr
  (mss_cons (ms_sub (me_var (pv 0)) me_int (me_bin op_addM opm_add (me_ix (me_var (pv 0)) me_int) me_int))
  (mss_cons (ms_if (mt_cmp op_gt opm_cmp (me_ix (me_var (pv 0)) me_int) me_int (by first | exact nomark _ | rfl))
  (mss_cons (ms_set (i := 4) sc.nd rfl (by first | exact Or.inl rfl | exact Or.inr rfl) (me_bin op_mod opm_mod (me_callTy call_int1 callM_int rfl z_int (by decide +kernel) (ma_cons (me_ix (me_var (pv 0)) me_int) ma_nil)) (me_var (pv 1))))
  (mss_cons (ms_sub (me_var (pv 0)) me_int (me_bin op_fdivW opm_div (me_ix (me_var (pv 0)) me_int) (me_var (pv 1))))
  (mss_one (ms_ret (me_var (pv 4))))))
  mss_nil)
  (mss_cons (ms_set (i := 2) sc.nd rfl (by first | exact Or.inl rfl | exact Or.inr rfl) me_int)
  (mss_cons (ms_if (mt_cmp op_gt opm_cmp (me_callB call_lenM callM_len rfl z_len PySem.boot_len (ma_cons (me_ix (me_var (pv 0)) me_int) ma_nil)) me_int (by first | exact nomark _ | rfl))
  (mss_one (ms_set (i := 2) sc.nd rfl (by first | exact Or.inl rfl | exact Or.inr rfl) (me_callB call_abs callM_abs rfl z_abs (by decide +kernel) (ma_cons (me_ix (me_ix (me_var (pv 0)) me_int) (me_bin op_mod opm_mod (me_callTy call_int1 callM_int rfl z_int (by decide +kernel) (ma_cons (me_ix (me_var (pv 0)) me_int) ma_nil)) (me_callB call_lenM callM_len rfl z_len PySem.boot_len (ma_cons (me_ix (me_var (pv 0)) me_int) ma_nil)))) ma_nil))))
  mss_nil)
  (mss_cons (ms_sub (me_var (pv 0)) me_int (me_bin op_addM opm_add (me_ix (me_var (pv 0)) me_int) me_int))
  (mss_cons (ms_if (mt_cmp op_ge opm_cmp (me_var (pv 2)) (me_bin op_pow opm_pow me_int me_int) (by first | exact nomark _ | rfl))
  (mss_cons (ms_sub (me_var (pv 0)) me_int (me_bin op_fdivW opm_div (me_var (pv 2)) (me_var (pv 1))))
  (mss_one (ms_ret (me_bin op_mod opm_mod (me_callTy call_int1 callM_int rfl z_int (by decide +kernel) (ma_cons (me_var (pv 2)) ma_nil)) (me_var (pv 1))))))
  mss_nil)
  (mss_cons (ms_set (i := 3) sc.nd rfl (by first | exact Or.inl rfl | exact Or.inr rfl) (me_bin op_mod opm_mod (me_callTy call_int1 callM_int rfl z_int (by decide +kernel) (ma_cons (me_bin op_addM opm_add (me_bin op_mulM opm_mul (me_bin op_addM opm_add (me_var (pv 2)) me_int) me_int) (me_bin op_mulM opm_mul (me_ix (me_var (pv 0)) me_int) me_int)) ma_nil)) me_int))
  (mss_cons (ms_set (i := 3) sc.nd rfl (by first | exact Or.inl rfl | exact Or.inr rfl) (me_bin op_mod opm_mod (me_callTy call_int1 callM_int rfl z_int (by decide +kernel) (ma_cons (me_bin op_addM opm_add (me_bin op_addM opm_add (me_bin op_mulM opm_mul (me_var (pv 3)) me_int) (me_bin op_fdivW opm_div (me_var (pv 2)) me_int)) (me_ix (me_var (pv 0)) me_int)) ma_nil)) me_int))
  (mss_one (ms_ret (me_bin op_mod opm_mod (me_bin op_fdivW opm_div (me_var (pv 3)) me_int) (me_var (pv 1)))))))))))))
abbrev st__law_one_of : Stmt := top 33
theorem sc__law_one_of : FnScope ["state", "items"] ["state", "items"] (defScope st__law_one_of) := ⟨rfl, rfl, rfl, by decide +kernel, rfl, by decide +kernel, by decide +kernel⟩
theorem mp__law_one_of {k : Nat} {f : Addr} {fd : FuncData} (F : Fun K "_law_one_of" "_law_one_of" st__law_one_of f fd) {f__law_draw : Addr} {e__law_draw : FuncData} {d__law_draw : List D → M Rv} (T__law_draw : FnI K mg "_law_draw" st__law_draw f__law_draw e__law_draw ["state", "most"]) (F__law_draw : FnOk P w K mg base CX0 k f__law_draw e__law_draw ["state", "most"] (sp K mg 2 d__law_draw)) (z_len : mg "len" = none) : FnOk P w K mg base CX0 (k + 1) f fd ["state", "items"] (sp K mg 2 (den__law_one_of d__law_draw)) :=
  have sc := sc__law_one_of
  fn_mp (N := ["state", "items"]) (r := r__law_one_of d__law_draw) F sc__law_one_of rfl fun cdv A outer s H E hr =>
  have hu := hr.units
  have hu1 := units1 hr
  (mss_one (ms_ret (me_ix (me_var (pv 1)) (me_callF T__law_draw F__law_draw hr rfl (ma_cons (me_var (pv 0)) (ma_cons (me_callB call_lenM callM_len rfl z_len PySem.boot_len (ma_cons (me_var (pv 1)) ma_nil)) ma_nil)) rfl))))
abbrev st__law_shuffled : Stmt := top 34
theorem sc__law_shuffled : FnScope ["state", "items", "found", "item"] ["state", "items"] (defScope st__law_shuffled) := ⟨rfl, rfl, rfl, by decide +kernel, rfl, by decide +kernel, by decide +kernel⟩
theorem mp__law_shuffled {k : Nat} {f : Addr} {fd : FuncData} (F : Fun K "_law_shuffled" "_law_shuffled" st__law_shuffled f fd) {f__law_draw : Addr} {e__law_draw : FuncData} {d__law_draw : List D → M Rv} (T__law_draw : FnI K mg "_law_draw" st__law_draw f__law_draw e__law_draw ["state", "most"]) (F__law_draw : FnOk P w K mg base CX0 k f__law_draw e__law_draw ["state", "most"] (sp K mg 2 d__law_draw)) (z_len : mg "len" = none) : FnOk P w K mg base CX0 (k + 1) f fd ["state", "items"] (sp K mg 2 (den__law_shuffled d__law_draw)) :=
  have sc := sc__law_shuffled
  fn_mp (N := ["state", "items", "found", "item"]) (r := r__law_shuffled d__law_draw) F sc__law_shuffled rfl fun cdv A outer s H E hr =>
  have hu := hr.units
  have hu1 := units1 hr
  (mss_cons (ms_set (i := 2) sc.nd rfl (by first | exact Or.inl rfl | exact Or.inr rfl) (me_new (mf_lst ma_nil)))
  (mss_cons (ms_for (fg := [3]) PassesOwn.never rfl (mi_seq (me_var (pv 1))) (mg_of (pg_name (i := 3) sc.nd rfl (by first | exact Or.inl rfl | exact Or.inr rfl)))
  (mss_one (ms_expr (me_lmeth PySem.F.slot_list_insert PySem.F.type_list_insert mt_insert methM_insert (me_var (pv 2)) (ma_cons (me_callF T__law_draw F__law_draw hr rfl (ma_cons (me_var (pv 0)) (ma_cons (me_bin op_addM opm_add (me_callB call_lenM callM_len rfl z_len PySem.boot_len (ma_cons (me_var (pv 2)) ma_nil)) me_int) ma_nil)) rfl) (ma_cons (me_var (pv 3)) ma_nil))))))
  (mss_one (ms_ret (me_var (pv 2))))))
abbrev st__law_words : Stmt := top 35
theorem sc__law_words : FnScope ["state", "many", "letters", "start", "step", "shared", "k"] ["state", "many"] (defScope st__law_words) := ⟨rfl, rfl, rfl, by decide +kernel, rfl, by decide +kernel, by decide +kernel⟩
theorem mp__law_words {k : Nat} {f : Addr} {fd : FuncData} (F : Fun K "_law_words" "_law_words" st__law_words f fd) {f__law_draw : Addr} {e__law_draw : FuncData} {d__law_draw : List D → M Rv} (T__law_draw : FnI K mg "_law_draw" st__law_draw f__law_draw e__law_draw ["state", "most"]) (F__law_draw : FnOk P w K mg base CX0 k f__law_draw e__law_draw ["state", "most"] (sp K mg 2 d__law_draw)) (z_range : mg "range" = none) (z_int : mg "int" = none) : FnOk P w K mg base CX0 (k + 1) f fd ["state", "many"] (sp K mg 2 (den__law_words d__law_draw)) :=
  have sc := sc__law_words
  fn_mp (N := ["state", "many", "letters", "start", "step", "shared", "k"]) (r := r__law_words d__law_draw) F sc__law_words rfl fun cdv A outer s H E hr =>
  have hu := hr.units
  have hu1 := units1 hr
  (mss_cons (ms_set (i := 2) sc.nd rfl (by first | exact Or.inl rfl | exact Or.inr rfl) me_str)
  (mss_cons (ms_set (i := 3) sc.nd rfl (by first | exact Or.inl rfl | exact Or.inr rfl) (me_callF T__law_draw F__law_draw hr rfl (ma_cons (me_var (pv 0)) (ma_cons me_int ma_nil)) rfl))
  (mss_cons (ms_set (i := 4) sc.nd rfl (by first | exact Or.inl rfl | exact Or.inr rfl) (me_bin op_addM opm_add me_int (me_bin op_mulM opm_mul me_int (me_callF T__law_draw F__law_draw hr rfl (ma_cons (me_var (pv 0)) (ma_cons me_int ma_nil)) rfl))))
  (mss_cons (ms_set (i := 5) sc.nd rfl (by first | exact Or.inl rfl | exact Or.inr rfl) (me_slice me_str mo_none (mo_some (me_callF T__law_draw F__law_draw hr rfl (ma_cons (me_var (pv 0)) (ma_cons me_int ma_nil)) rfl))))
  (mss_cons (ms_if (mt_cmp (op_eqM hu) opm_eq (me_callF T__law_draw F__law_draw hr rfl (ma_cons (me_var (pv 0)) (ma_cons me_int ma_nil)) rfl) me_int (by first | exact nomark _ | rfl))
  (mss_one (ms_retF (mf_comp rfl sc.nd (mi_range1 rfl z_range (ma_cons (me_var (pv 1)) ma_nil)) (own := [("k", 6)]) (blkOk_by (N := ["state", "many", "letters", "start", "step", "shared", "k"]) (sc := defScope st__law_words) (by decide +kernel)) (by decide) (fun s H C cl fp => (mg_of (pg_name (i := 6) sc.nd rfl (by first | exact Or.inl rfl | exact Or.inr rfl)))) (fun s H C cl fp => mts_nil) (fun s H C cl fp => (me_bin op_addM opm_add (me_var (pv 5)) (me_ix (me_var (pv 2)) (me_bin op_mod opm_mod (me_callTy call_int1 callM_int rfl z_int (by decide +kernel) (ma_cons (me_bin op_addM opm_add (me_var (pv 3)) (me_bin op_mulM opm_mul (me_var (pv 6)) (me_var (pv 4)))) ma_nil)) me_int)))))))
  mss_nil)
  (mss_one (ms_retF (mf_comp rfl sc.nd (mi_range1 rfl z_range (ma_cons (me_var (pv 1)) ma_nil)) (own := [("k", 6)]) (blkOk_by (N := ["state", "many", "letters", "start", "step", "shared", "k"]) (sc := defScope st__law_words) (by decide +kernel)) (by decide) (fun s H C cl fp => (mg_of (pg_name (i := 6) sc.nd rfl (by first | exact Or.inl rfl | exact Or.inr rfl)))) (fun s H C cl fp => mts_nil) (fun s H C cl fp => (me_bin op_addM opm_add (me_ix (me_var (pv 2)) (me_bin op_mod opm_mod (me_callTy call_int1 callM_int rfl z_int (by decide +kernel) (ma_cons (me_bin op_addM opm_add (me_var (pv 3)) (me_bin op_mulM opm_mul (me_var (pv 6)) (me_var (pv 4)))) ma_nil)) me_int)) (me_var (pv 5))))))))))))
abbrev st__law_is_int : Stmt := top 36
theorem sc__law_is_int : FnScope ["x"] ["x"] (defScope st__law_is_int) := ⟨rfl, rfl, rfl, by decide +kernel, rfl, by decide +kernel, by decide +kernel⟩
theorem mp__law_is_int {k : Nat} {f : Addr} {fd : FuncData} (F : Fun K "_law_is_int" "_law_is_int" st__law_is_int f fd) (z_isinstance : mg "isinstance" = none) (z_int : mg "int" = none) (z_bool : mg "bool" = none) : FnOk P w K mg base CX0 (k + 1) f fd ["x"] (sp K mg 1 (den__law_is_int)) :=
  have sc := sc__law_is_int
  fn_mp (N := ["x"]) (r := r__law_is_int) F sc__law_is_int rfl fun cdv A outer s H E hr =>
  have hu := hr.units
  have hu1 := units1 hr
  (mss_one (ms_ret (me_and (me_isi (T := "int") (by decide) rfl z_isinstance (by decide +kernel) rfl z_int (by decide +kernel) (me_var (pv 0))) (me_one (me_not (me_isi (T := "bool") (by decide) rfl z_isinstance (by decide +kernel) rfl z_bool (by decide +kernel) (me_var (pv 0))))))))
abbrev st__law_form : Stmt := top 37
theorem sc__law_form : FnScope ["constant", "pairs", "sums", "name", "number"] ["constant", "pairs"] (defScope st__law_form) := ⟨rfl, rfl, rfl, by decide +kernel, rfl, by decide +kernel, by decide +kernel⟩
theorem mp__law_form {k : Nat} {f : Addr} {fd : FuncData} (F : Fun K "_law_form" "_law_form" st__law_form f fd) (z_sorted : mg "sorted" = none) (z_tuple : mg "tuple" = none) : FnOk P w K mg base CX0 (k + 1) f fd ["constant", "pairs"] (sp K mg 2 (den__law_form)) :=
  have sc := sc__law_form
  fn_mp (N := ["constant", "pairs", "sums", "name", "number"]) (r := r__law_form) F sc__law_form rfl fun cdv A outer s H E hr =>
  have hu := hr.units
  have hu1 := units1 hr
  (mss_cons (ms_set (i := 2) sc.nd rfl (by first | exact Or.inl rfl | exact Or.inr rfl) me_dict0)
  (mss_cons (ms_for (fg := [3, 4]) PassesOwn.never rfl (mi_seq (me_var (pv 1))) (mg_tup rfl (mgs_cons (mg_of (pg_name (i := 3) sc.nd rfl (by first | exact Or.inl rfl | exact Or.inr rfl))) (mgs_cons (mg_of (pg_name (i := 4) sc.nd rfl (by first | exact Or.inl rfl | exact Or.inr rfl))) mgs_nil)))
  (mss_one (ms_dput hu1 (me_var (pv 2)) (me_var (pv 3)) (me_bin op_addM opm_add (me_get2 hu1 (me_var (pv 2)) (me_var (pv 3)) me_int) (me_var (pv 4))))))
  (mss_one (ms_ret (me_tup (ma_cons (me_var (pv 0)) (ma_cons (me_callTy call_tuple_of callM_tuple rfl z_tuple (by decide +kernel) (ma_cons (me_fl (mf_comp rfl sc.nd (mi_seq (me_fl (mf_sortedD rfl rfl z_sorted (by decide +kernel) (me_var (pv 2))))) (own := [("name", 3)]) (blkOk_by (N := ["constant", "pairs", "sums", "name", "number"]) (sc := defScope st__law_form) (by decide +kernel)) (by decide) (fun s H C cl fp => (mg_of (pg_name (i := 3) sc.nd rfl (by first | exact Or.inl rfl | exact Or.inr rfl)))) (fun s H C cl fp => (mts_one (mt_cmp (op_neM hu) opm_eq (me_dget hu1 (me_var (pv 2)) (me_var (pv 3))) me_int (by first | exact nomark _ | rfl)))) (fun s H C cl fp => (me_tup (ma_cons (me_var (pv 3)) (ma_cons (me_dget hu1 (me_var (pv 2)) (me_var (pv 3))) ma_nil)))))) ma_nil)) ma_nil)))))))
abbrev st__law_is_form : Stmt := top 38
theorem sc__law_is_form : FnScope ["f", "names", "last", "term"] ["f", "names"] (defScope st__law_is_form) := ⟨rfl, rfl, rfl, by decide +kernel, rfl, by decide +kernel, by decide +kernel⟩
/-- names: 0 f, 1 names, 2 last, 3 term -/
noncomputable def r__law_is_form (d__law_is_int : List D → M Rv) : MP.Env → M Fl :=
  (sSeq (eIf (bOr (bNot (eB (eMap (gIsi "tuple") (eVar 0)))) (bOr (eB (eBin (gEq true) (aThen (g1 gLen) (aCons (eVar 0) aNil)) (eC (.int 2)))) (bOr (bNot (eB (eCall (lenD 1 d__law_is_int) (aCons (eBin gIx (eVar 0) (eC (.int 0))) aNil)))) (bNot (eB (eMap (gIsi "tuple") (eBin gIx (eVar 0) (eC (.int 1)))))))))
  (sRet (eC (.bl false)))
  sNext)
  (sSeq (sSet 2 (eC (.str "")))
  (sSeq (sFor (eWalk (eBin gIx (eVar 0) (eC (.int 1)))) (asgN 3)
  (sSeq (eIf (bOr (bNot (eB (eMap (gIsi "tuple") (eVar 3)))) (bOr (eB (eBin (gEq true) (aThen (g1 gLen) (aCons (eVar 3) aNil)) (eC (.int 2)))) (bOr (bNot (eB (eMap (gIsi "str") (eBin gIx (eVar 3) (eC (.int 0)))))) (bNot (eB (eCall (lenD 1 d__law_is_int) (aCons (eBin gIx (eVar 3) (eC (.int 1))) aNil)))))))
  (sRet (eC (.bl false)))
  sNext)
  (sSeq (eIf (bOr (eB (eBin gLe (eBin gIx (eVar 3) (eC (.int 0))) (eVar 2))) (bOr (eB (eBin (gIn true) (eBin gIx (eVar 3) (eC (.int 0))) (eVar 1))) (eB (eBin (gEq false) (eBin gIx (eVar 3) (eC (.int 1))) (eC (.int 0))))))
  (sRet (eC (.bl false)))
  sNext)
  (sSet 2 (eBin gIx (eVar 3) (eC (.int 0)))))) [3])
  (sRet (eC (.bl true))))))
noncomputable def den__law_is_form (d__law_is_int : List D → M Rv) : List D → M Rv := fun ds => noX (runB 4 (r__law_is_form d__law_is_int) ds)
theorem mp__law_is_form {k : Nat} {f : Addr} {fd : FuncData} (F : Fun K "_law_is_form" "_law_is_form" st__law_is_form f fd) {f__law_is_int : Addr} {e__law_is_int : FuncData} {d__law_is_int : List D → M Rv} (T__law_is_int : FnI K mg "_law_is_int" st__law_is_int f__law_is_int e__law_is_int ["x"]) (F__law_is_int : FnOk P w K mg base CX0 k f__law_is_int e__law_is_int ["x"] (sp K mg 1 d__law_is_int)) (z_isinstance : mg "isinstance" = none) (z_tuple : mg "tuple" = none) (z_len : mg "len" = none) (z_str : mg "str" = none) : FnOk P w K mg base CX0 (k + 1) f fd ["f", "names"] (sp K mg 2 (den__law_is_form d__law_is_int)) :=
  have sc := sc__law_is_form
  fn_mp (N := ["f", "names", "last", "term"]) (r := r__law_is_form d__law_is_int) F sc__law_is_form rfl fun cdv A outer s H E hr =>
  have hu := hr.units
  have hu1 := units1 hr
  (mss_cons (ms_if (MW.mt (mw_or (mt_not (mt_val (me_isi (T := "tuple") (by decide) rfl z_isinstance (by decide +kernel) rfl z_tuple (by decide +kernel) (me_var (pv 0))))) (mw_or (mt_cmp (op_neM hu) opm_eq (me_callB call_lenM callM_len rfl z_len PySem.boot_len (ma_cons (me_var (pv 0)) ma_nil)) me_int (by first | exact nomark _ | rfl)) (mw_or (mt_not (mt_val (me_callF T__law_is_int F__law_is_int hr rfl (ma_cons (me_ix (me_var (pv 0)) me_int) ma_nil) rfl))) (mw_or1 (mt_not (mt_val (me_isi (T := "tuple") (by decide) rfl z_isinstance (by decide +kernel) rfl z_tuple (by decide +kernel) (me_ix (me_var (pv 0)) me_int)))))))))
  (mss_one (ms_ret me_bl))
  mss_nil)
  (mss_cons (ms_set (i := 2) sc.nd rfl (by first | exact Or.inl rfl | exact Or.inr rfl) me_str)
  (mss_cons (ms_for (fg := [3]) PassesOwn.never rfl (mi_seq (me_ix (me_var (pv 0)) me_int)) (mg_of (pg_name (i := 3) sc.nd rfl (by first | exact Or.inl rfl | exact Or.inr rfl)))
  (mss_cons (ms_if (MW.mt (mw_or (mt_not (mt_val (me_isi (T := "tuple") (by decide) rfl z_isinstance (by decide +kernel) rfl z_tuple (by decide +kernel) (me_var (pv 3))))) (mw_or (mt_cmp (op_neM hu) opm_eq (me_callB call_lenM callM_len rfl z_len PySem.boot_len (ma_cons (me_var (pv 3)) ma_nil)) me_int (by first | exact nomark _ | rfl)) (mw_or (mt_not (mt_val (me_isi (T := "str") (by decide) rfl z_isinstance (by decide +kernel) rfl z_str (by decide +kernel) (me_ix (me_var (pv 3)) me_int)))) (mw_or1 (mt_not (mt_val (me_callF T__law_is_int F__law_is_int hr rfl (ma_cons (me_ix (me_var (pv 3)) me_int) ma_nil) rfl))))))))
  (mss_one (ms_ret me_bl))
  mss_nil)
  (mss_cons (ms_if (MW.mt (mw_or (mt_cmp op_leM opm_ord (me_ix (me_var (pv 3)) me_int) (me_var (pv 2)) (by first | exact nomark _ | rfl)) (mw_or (mt_cmp (op_notInM hu) opm_in (me_ix (me_var (pv 3)) me_int) (me_var (pv 1)) (by first | exact nomark _ | rfl)) (mw_or1 (mt_cmp (op_eqM hu) opm_eq (me_ix (me_var (pv 3)) me_int) me_int (by first | exact nomark _ | rfl))))))
  (mss_one (ms_ret me_bl))
  mss_nil)
  (mss_one (ms_set (i := 2) sc.nd rfl (by first | exact Or.inl rfl | exact Or.inr rfl) (me_ix (me_var (pv 3)) me_int))))))
  (mss_one (ms_ret me_bl)))))
abbrev st__law_key : Stmt := top 39
theorem sc__law_key : FnScope ["item"] ["item"] (defScope st__law_key) := ⟨rfl, rfl, rfl, by decide +kernel, rfl, by decide +kernel, by decide +kernel⟩
/-- names: 0 item -/
noncomputable def r__law_key : MP.Env → M Fl :=
  (sSeq (eIf (eB (eBin (gEq false) (eBin gIx (eVar 0) (eC (.int 0))) (eC (.str "array"))))
  (sRet (eBin gAdd (eC (.str "#")) (eBin gIx (eVar 0) (eC (.int 1)))))
  sNext)
  (sRet (eBin gIx (eVar 0) (eC (.int 1)))))
noncomputable def den__law_key : List D → M Rv := fun ds => noX (runB 1 (r__law_key) ds)
theorem mp__law_key {k : Nat} {f : Addr} {fd : FuncData} (F : Fun K "_law_key" "_law_key" st__law_key f fd) : FnOk P w K mg base CX0 (k + 1) f fd ["item"] (sp K mg 1 (den__law_key)) :=
  have sc := sc__law_key
  fn_mp (N := ["item"]) (r := r__law_key) F sc__law_key rfl fun cdv A outer s H E hr =>
  have hu := hr.units
  have hu1 := units1 hr
  (mss_cons (ms_if (mt_cmp (op_eqM hu) opm_eq (me_ix (me_var (pv 0)) me_int) me_str (by first | exact nomark _ | rfl))
  (mss_one (ms_ret (me_bin op_addM opm_add me_str (me_ix (me_var (pv 0)) me_int))))
  mss_nil)
  (mss_one (ms_ret (me_ix (me_var (pv 0)) me_int))))
abbrev st__law_statements : Stmt := top 40
theorem sc__law_statements : FnScope ["body", "found", "s"] ["body"] (defScope st__law_statements) := ⟨rfl, rfl, rfl, by decide +kernel, rfl, by decide +kernel, by decide +kernel⟩
/-- names: 0 body, 1 found, 2 s -/
noncomputable def r__law_statements (d__law_statements : List D → M Rv) : MP.Env → M Fl :=
  (sSeq (sSet 1 (eNew (aList aNil)))
  (sSeq (sFor (eWalk (eVar 0)) (asgN 2)
  (sSeq (sExpr (eMeth lstK gAppend (eVar 1) (aCons (eVar 2) aNil)))
  (eIf (eB (eBin (gEq false) (eBin gIx (eVar 2) (eC (.int 0))) (eC (.str "while"))))
  (sSet 1 (eNew (fCat (eVar 1) (eCall (lenD 1 d__law_statements) (aCons (eBin gIx (eVar 2) (eC (.int 2))) aNil)))))
  (eIf (eB (eBin (gEq false) (eBin gIx (eVar 2) (eC (.int 0))) (eC (.str "if"))))
  (sSet 1 (eNew (fCat (eBin gAdd (eVar 1) (eCall (lenD 1 d__law_statements) (aCons (eBin gIx (eVar 2) (eC (.int 2))) aNil))) (eCall (lenD 1 d__law_statements) (aCons (eBin gIx (eVar 2) (eC (.int 3))) aNil)))))
  sNext))) [2])
  (sRet (eVar 1))))
noncomputable def den__law_statements (d__law_statements : List D → M Rv) : List D → M Rv := fun ds => noX (runB 3 (r__law_statements d__law_statements) ds)
theorem mp__law_statements {k : Nat} {f : Addr} {fd : FuncData} {d__law_statements : List D → M Rv} (T__law_statements : FnI K mg "_law_statements" st__law_statements f fd ["body"]) (F__law_statements : FnOk P w K mg base CX0 k f fd ["body"] (sp K mg 1 d__law_statements)) : FnOk P w K mg base CX0 (k + 1) f fd ["body"] (sp K mg 1 (den__law_statements d__law_statements)) :=
  have sc := sc__law_statements
  fn_mp (N := ["body", "found", "s"]) (r := r__law_statements d__law_statements) T__law_statements.fn sc__law_statements rfl fun cdv A outer s H E hr =>
  have hu := hr.units
  have hu1 := units1 hr
  (mss_cons (ms_set (i := 1) sc.nd rfl (by first | exact Or.inl rfl | exact Or.inr rfl) (me_new (mf_lst ma_nil)))
  (mss_cons (ms_for (fg := [2]) PassesOwn.never rfl (mi_seq (me_var (pv 0))) (mg_of (pg_name (i := 2) sc.nd rfl (by first | exact Or.inl rfl | exact Or.inr rfl)))
  (mss_cons (ms_expr (me_lmeth PySem.F.slot_list_append PySem.F.type_list_append mt_append methM_append (me_var (pv 1)) (ma_cons (me_var (pv 2)) ma_nil)))
  (mss_one (ms_if (mt_cmp (op_eqM hu) opm_eq (me_ix (me_var (pv 2)) me_int) me_str (by first | exact nomark _ | rfl))
  (mss_one (ms_set (i := 1) sc.nd rfl (by first | exact Or.inl rfl | exact Or.inr rfl) (me_new (mf_cat (me_var (pv 1)) (me_callF T__law_statements F__law_statements hr rfl (ma_cons (me_ix (me_var (pv 2)) me_int) ma_nil) rfl)))))
  (mss_one (ms_if (mt_cmp (op_eqM hu) opm_eq (me_ix (me_var (pv 2)) me_int) me_str (by first | exact nomark _ | rfl))
  (mss_one (ms_set (i := 1) sc.nd rfl (by first | exact Or.inl rfl | exact Or.inr rfl) (me_new (mf_cat (me_bin op_addM opm_add (me_var (pv 1)) (me_callF T__law_statements F__law_statements hr rfl (ma_cons (me_ix (me_var (pv 2)) me_int) ma_nil) rfl)) (me_callF T__law_statements F__law_statements hr rfl (ma_cons (me_ix (me_var (pv 2)) me_int) ma_nil) rfl)))))
  mss_nil))))))
  (mss_one (ms_ret (me_var (pv 1))))))
abbrev st__law_moves : Stmt := top 41
theorem sc__law_moves : FnScope ["core", "table", "p", "turn", "keys", "s", "parameters", "passed", "k", "x", "e", "q"] ["core"] (defScope st__law_moves) := ⟨rfl, rfl, rfl, by decide +kernel, rfl, by decide +kernel, by decide +kernel⟩
/-- names: 0 core, 1 table, 2 p, 3 turn, 4 keys, 5 s, 6 parameters, 7 passed, 8 k, 9 x, 10 e, 11 q -/
noncomputable def r__law_moves (d__law_statements : List D → M Rv) (d__law_key : List D → M Rv) : MP.Env → M Fl :=
  (sSeq (sSet 1 eNewD)
  (sSeq (sFor (eWalk (eVar 0)) (asgN 2)
  (sSeq (sSet 4 (eNew (aList aNil)))
  (sSeq (sFor (eWalk (eCall (lenD 1 d__law_statements) (aCons (eBin gIx (eVar 2) (eC (.int 8))) aNil))) (asgN 5)
  (eIf (eB (eBin (gEq false) (eBin gIx (eVar 5) (eC (.int 0))) (eC (.str "set"))))
  (sSet 4 (eNew (fCat (eVar 4) (eFl (fComp (eWalk (eBin gIx (eVar 5) (eC (.int 1)))) (asgT 2 (asgCons (asgN 9) (asgCons (asgN 10) asgNil))) tYesM (eVar 9) [9, 10])))))
  (eIf (eB (eBin (gEq false) (eBin gIx (eVar 5) (eC (.int 0))) (eC (.str "pop"))))
  (sSet 4 (eNew (fCat (eVar 4) (eFl (aList (aCons (eBin gIx (eVar 5) (eC (.int 1))) (aCons (eBin gAdd (eC (.str "#")) (eBin gIx (eVar 5) (eC (.int 2)))) aNil)))))))
  (eIf (eB (eBin (gEq false) (eBin gIx (eVar 5) (eC (.int 0))) (eC (.str "push"))))
  (sExpr (eMeth lstK gAppend (eVar 4) (aCons (eBin gAdd (eC (.str "#")) (eBin gIx (eVar 5) (eC (.int 2)))) aNil)))
  (eIf (eB (eBin (gEq false) (eBin gIx (eVar 5) (eC (.int 0))) (eC (.str "call"))))
  (sSet 4 (eNew (fCat (eVar 4) (eFl (fThen1 rdQ (aCons (eBin gIx (eVar 5) (eC (.int 3))) aNil))))))
  sNext)))) [5])
  (sDput (eVar 1) (eBin gIx (eVar 2) (eC (.int 0))) (eVar 4)))) [2, 4, 5])
  (sSeq (sFor (wThen wRng1 (aCons (eC (.int 20)) aNil)) (asgN 3)
  (sFor (eWalk (eVar 0)) (asgN 2)
  (sFor (eWalk (eCall (lenD 1 d__law_statements) (aCons (eBin gIx (eVar 2) (eC (.int 8))) aNil))) (asgN 5)
  (eIf (eB (eBin (gEq false) (eBin gIx (eVar 5) (eC (.int 0))) (eC (.str "call"))))
  (sSeq (sSet 6 (eBin gIx (eBin gIx (eFl (fComp (eWalk (eVar 0)) (asgN 11) (eB (eBin (gEq false) (eBin gIx (eVar 11) (eC (.int 0))) (eBin gIx (eVar 5) (eC (.int 1))))) (eVar 11) [11])) (eC (.int 0))) (eC (.int 1))))
  (sSeq (sSet 7 (eFl (fComp (wThen wRng1 (aCons (aThen (g1 gLen) (aCons (eVar 6) aNil)) aNil)) (asgN 8) (eB (eBin (gIn false) (eCall (lenD 1 d__law_key) (aCons (eBin gIx (eVar 6) (eVar 8)) aNil)) (eBin gDget (eVar 1) (eBin gIx (eVar 5) (eC (.int 1)))))) (eBin gIx (eBin gIx (eVar 5) (eC (.int 2))) (eVar 8)) [8])))
  (sDput (eVar 1) (eBin gIx (eVar 2) (eC (.int 0))) (eBin gAdd (eBin gDget (eVar 1) (eBin gIx (eVar 2) (eC (.int 0)))) (eFl (fComp (eWalk (eVar 7)) (asgN 10) (eB (eBin (gEq false) (eBin gIx (eVar 10) (eC (.int 0))) (eC (.str "array")))) (eBin gAdd (eC (.str "#")) (eBin gIx (eVar 10) (eC (.int 1)))) [10]))))))
  sNext) [5]) [2, 5]) [2, 3])
  (sRet (eVar 1)))))
noncomputable def den__law_moves (d__law_statements : List D → M Rv) (d__law_key : List D → M Rv) : List D → M Rv := fun ds => noX (runB 12 (r__law_moves d__law_statements d__law_key) ds)
theorem mp__law_moves {k : Nat} {f : Addr} {fd : FuncData} (F : Fun K "_law_moves" "_law_moves" st__law_moves f fd) {f__law_statements : Addr} {e__law_statements : FuncData} {f__law_key : Addr} {e__law_key : FuncData} {d__law_statements : List D → M Rv} {d__law_key : List D → M Rv} (T__law_statements : FnI K mg "_law_statements" st__law_statements f__law_statements e__law_statements ["body"]) (F__law_statements : FnOk P w K mg base CX0 k f__law_statements e__law_statements ["body"] (sp K mg 1 d__law_statements)) (T__law_key : FnI K mg "_law_key" st__law_key f__law_key e__law_key ["item"]) (F__law_key : FnOk P w K mg base CX0 k f__law_key e__law_key ["item"] (sp K mg 1 d__law_key)) (z_list : mg "list" = none) (z_range : mg "range" = none) (z_len : mg "len" = none) : FnOk P w K mg base CX0 (k + 1) f fd ["core"] (sp K mg 1 (den__law_moves d__law_statements d__law_key)) :=
  have sc := sc__law_moves
  fn_mp (N := ["core", "table", "p", "turn", "keys", "s", "parameters", "passed", "k", "x", "e", "q"]) (r := r__law_moves d__law_statements d__law_key) F sc__law_moves rfl fun cdv A outer s H E hr =>
  have hu := hr.units
  have hu1 := units1 hr
  (mss_cons (ms_set (i := 1) sc.nd rfl (by first | exact Or.inl rfl | exact Or.inr rfl) me_dict0)
  (mss_cons (ms_for (fg := [2, 4, 5]) PassesOwn.never rfl (mi_seq (me_var (pv 0))) (mg_of (pg_name (i := 2) sc.nd rfl (by first | exact Or.inl rfl | exact Or.inr rfl)))
  (mss_cons (ms_set (i := 4) sc.nd rfl (by first | exact Or.inl rfl | exact Or.inr rfl) (me_new (mf_lst ma_nil)))
  (mss_cons (ms_for (fg := [5]) PassesOwn.never rfl (mi_seq (me_callF T__law_statements F__law_statements hr rfl (ma_cons (me_ix (me_var (pv 2)) me_int) ma_nil) rfl)) (mg_of (pg_name (i := 5) sc.nd rfl (by first | exact Or.inl rfl | exact Or.inr rfl)))
  (mss_one (ms_if (mt_cmp (op_eqM hu) opm_eq (me_ix (me_var (pv 5)) me_int) me_str (by first | exact nomark _ | rfl))
  (mss_one (ms_set (i := 4) sc.nd rfl (by first | exact Or.inl rfl | exact Or.inr rfl) (me_new (mf_cat (me_var (pv 4)) (me_fl (mf_comp rfl sc.nd (mi_seq (me_ix (me_var (pv 5)) me_int)) (own := [("x", 9), ("e", 10)]) (blkOk_by (N := ["core", "table", "p", "turn", "keys", "s", "parameters", "passed", "k", "x", "e", "q"]) (sc := defScope st__law_moves) (by decide +kernel)) (by decide) (fun s H C cl fp => (mg_tup rfl (mgs_cons (mg_of (pg_name (i := 9) sc.nd rfl (by first | exact Or.inl rfl | exact Or.inr rfl))) (mgs_cons (mg_of (pg_name (i := 10) sc.nd rfl (by first | exact Or.inl rfl | exact Or.inr rfl))) mgs_nil)))) (fun s H C cl fp => mts_nil) (fun s H C cl fp => (me_var (pv 9)))))))))
  (mss_one (ms_if (mt_cmp (op_eqM hu) opm_eq (me_ix (me_var (pv 5)) me_int) me_str (by first | exact nomark _ | rfl))
  (mss_one (ms_set (i := 4) sc.nd rfl (by first | exact Or.inl rfl | exact Or.inr rfl) (me_new (mf_cat (me_var (pv 4)) (me_fl (mf_lst (ma_cons (me_ix (me_var (pv 5)) me_int) (ma_cons (me_bin op_addM opm_add me_str (me_ix (me_var (pv 5)) me_int)) ma_nil))))))))
  (mss_one (ms_if (mt_cmp (op_eqM hu) opm_eq (me_ix (me_var (pv 5)) me_int) me_str (by first | exact nomark _ | rfl))
  (mss_one (ms_expr (me_lmeth PySem.F.slot_list_append PySem.F.type_list_append mt_append methM_append (me_var (pv 4)) (ma_cons (me_bin op_addM opm_add me_str (me_ix (me_var (pv 5)) me_int)) ma_nil))))
  (mss_one (ms_if (mt_cmp (op_eqM hu) opm_eq (me_ix (me_var (pv 5)) me_int) me_str (by first | exact nomark _ | rfl))
  (mss_one (ms_set (i := 4) sc.nd rfl (by first | exact Or.inl rfl | exact Or.inr rfl) (me_new (mf_cat (me_var (pv 4)) (me_fl (mf_list1 rfl z_list (by decide +kernel) (ma_cons (me_ix (me_var (pv 5)) me_int) ma_nil)))))))
  mss_nil)))))))))
  (mss_one (ms_dput hu1 (me_var (pv 1)) (me_ix (me_var (pv 2)) me_int) (me_var (pv 4)))))))
  (mss_cons (ms_for (fg := [2, 3]) PassesOwn.never rfl (mi_range1 rfl z_range (ma_cons me_int ma_nil)) (mg_of (pg_name (i := 3) sc.nd rfl (by first | exact Or.inl rfl | exact Or.inr rfl)))
  (mss_one (ms_for (fg := [2, 5]) PassesOwn.never rfl (mi_seq (me_var (pv 0))) (mg_of (pg_name (i := 2) sc.nd rfl (by first | exact Or.inl rfl | exact Or.inr rfl)))
  (mss_one (ms_for (fg := [5]) PassesOwn.never rfl (mi_seq (me_callF T__law_statements F__law_statements hr rfl (ma_cons (me_ix (me_var (pv 2)) me_int) ma_nil) rfl)) (mg_of (pg_name (i := 5) sc.nd rfl (by first | exact Or.inl rfl | exact Or.inr rfl)))
  (mss_one (ms_if (mt_cmp (op_eqM hu) opm_eq (me_ix (me_var (pv 5)) me_int) me_str (by first | exact nomark _ | rfl))
  (mss_cons (ms_set (i := 6) sc.nd rfl (by first | exact Or.inl rfl | exact Or.inr rfl) (me_ix (me_ix (me_fl (mf_comp rfl sc.nd (mi_seq (me_var (pv 0))) (own := [("q", 11)]) (blkOk_by (N := ["core", "table", "p", "turn", "keys", "s", "parameters", "passed", "k", "x", "e", "q"]) (sc := defScope st__law_moves) (by decide +kernel)) (by decide) (fun s H C cl fp => (mg_of (pg_name (i := 11) sc.nd rfl (by first | exact Or.inl rfl | exact Or.inr rfl)))) (fun s H C cl fp => (mts_one (mt_cmp (op_eqM hu) opm_eq (me_ix (me_var (pv 11)) me_int) (me_ix (me_var (pv 5)) me_int) (by first | exact nomark _ | rfl)))) (fun s H C cl fp => (me_var (pv 11))))) me_int) me_int))
  (mss_cons (ms_setC (i := 7) rfl sc.nd rfl rfl (sw_true rfl rfl (by decide +kernel) (by decide +kernel)) (mi_range1 rfl z_range (ma_cons (me_callB call_lenM callM_len rfl z_len PySem.boot_len (ma_cons (me_var (pv 6)) ma_nil)) ma_nil)) (own := [("k", 8)]) (blkOk_by (N := ["core", "table", "p", "turn", "keys", "s", "parameters", "passed", "k", "x", "e", "q"]) (sc := defScope st__law_moves) (by decide +kernel)) (by decide) (fun s H C cl fp => (mg_of (pg_name (i := 8) sc.nd rfl (by first | exact Or.inl rfl | exact Or.inr rfl)))) (fun s H C cl fp => (mts_one (mt_cmp (op_inM hu) opm_in (me_callF T__law_key F__law_key hr rfl (ma_cons (me_ix (me_var (pv 6)) (me_var (pv 8))) ma_nil) rfl) (me_dget hu1 (me_var (pv 1)) (me_ix (me_var (pv 5)) me_int)) (by first | exact nomark _ | rfl)))) (fun s H C cl fp => (me_ix (me_ix (me_var (pv 5)) me_int) (me_var (pv 8)))) fl_go)
  (mss_one (ms_dput hu1 (me_var (pv 1)) (me_ix (me_var (pv 2)) me_int) (me_bin op_addM opm_add (me_dget hu1 (me_var (pv 1)) (me_ix (me_var (pv 2)) me_int)) (me_fl (mf_comp rfl sc.nd (mi_seq (me_var (pv 7))) (own := [("e", 10)]) (blkOk_by (N := ["core", "table", "p", "turn", "keys", "s", "parameters", "passed", "k", "x", "e", "q"]) (sc := defScope st__law_moves) (by decide +kernel)) (by decide) (fun s H C cl fp => (mg_of (pg_name (i := 10) sc.nd rfl (by first | exact Or.inl rfl | exact Or.inr rfl)))) (fun s H C cl fp => (mts_one (mt_cmp (op_eqM hu) opm_eq (me_ix (me_var (pv 10)) me_int) me_str (by first | exact nomark _ | rfl)))) (fun s H C cl fp => (me_bin op_addM opm_add me_str (me_ix (me_var (pv 10)) me_int))))))))))
  mss_nil)))))))
  (mss_one (ms_ret (me_var (pv 1)))))))
abbrev st__law_outcomes : Stmt := top 42
theorem sc__law_outcomes : FnScope ["p", "moved", "kind", "x"] ["p", "moved"] (defScope st__law_outcomes) := ⟨rfl, rfl, rfl, by decide +kernel, rfl, by decide +kernel, by decide +kernel⟩
/-- names: 0 p, 1 moved, 2 kind, 3 x -/
noncomputable def r__law_outcomes : MP.Env → M Fl :=
  (sRet (eBin gAdd (eFl (fThen1 rdQ (aCons (eBin gIx (eVar 0) (eC (.int 2))) aNil))) (eFl (fComp (eWalk (eBin gIx (eVar 0) (eC (.int 1)))) (asgT 2 (asgCons (asgN 2) (asgCons (asgN 3) asgNil))) (bAnd (eB (eBin (gEq false) (eVar 2) (eC (.str "array")))) (eB (eBin (gIn false) (eBin gAdd (eC (.str "#")) (eVar 3)) (eVar 1)))) (eBin gAdd (eC (.str "#")) (eVar 3)) [2, 3]))))
noncomputable def den__law_outcomes : List D → M Rv := fun ds => noX (runB 4 (r__law_outcomes) ds)
theorem mp__law_outcomes {k : Nat} {f : Addr} {fd : FuncData} (F : Fun K "_law_outcomes" "_law_outcomes" st__law_outcomes f fd) (z_list : mg "list" = none) : FnOk P w K mg base CX0 (k + 1) f fd ["p", "moved"] (sp K mg 2 (den__law_outcomes)) :=
  have sc := sc__law_outcomes
  fn_mp (N := ["p", "moved", "kind", "x"]) (r := r__law_outcomes) F sc__law_outcomes rfl fun cdv A outer s H E hr =>
  have hu := hr.units
  have hu1 := units1 hr
  (mss_one (ms_ret (me_bin op_addM opm_add (me_fl (mf_list1 rfl z_list (by decide +kernel) (ma_cons (me_ix (me_var (pv 0)) me_int) ma_nil))) (me_fl (mf_comp rfl sc.nd (mi_seq (me_ix (me_var (pv 0)) me_int)) (own := [("kind", 2), ("x", 3)]) (blkOk_by (N := ["p", "moved", "kind", "x"]) (sc := defScope st__law_outcomes) (by decide +kernel)) (by decide) (fun s H C cl fp => (mg_tup rfl (mgs_cons (mg_of (pg_name (i := 2) sc.nd rfl (by first | exact Or.inl rfl | exact Or.inr rfl))) (mgs_cons (mg_of (pg_name (i := 3) sc.nd rfl (by first | exact Or.inl rfl | exact Or.inr rfl))) mgs_nil)))) (fun s H C cl fp => (mts_one (MW.mt (mw_and (mt_cmp (op_eqM hu) opm_eq (me_var (pv 2)) me_str (by first | exact nomark _ | rfl)) (mw_and1 (mt_cmp (op_inM hu) opm_in (me_bin op_addM opm_add me_str (me_var (pv 3))) (me_var (pv 1)) (by first | exact nomark _ | rfl))))))) (fun s H C cl fp => (me_bin op_addM opm_add me_str (me_var (pv 3)))))))))
abbrev st__law_proc_of : Stmt := top 43
theorem sc__law_proc_of : FnScope ["state", "name", "words", "items", "results", "body", "places", "kind", "x", "pick"] ["state", "name", "words"] (defScope st__law_proc_of) := ⟨rfl, rfl, rfl, by decide +kernel, rfl, by decide +kernel, by decide +kernel⟩
/-- names: 0 state, 1 name, 2 words, 3 items, 4 results, 5 body, 6 places, 7 kind, 8 x, 9 pick -/
noncomputable def r__law_proc_of (d__law_shuffled : List D → M Rv) (d__law_draw : List D → M Rv) : MP.Env → M Fl :=
  (sSeq (sSet 3 (eFl (aList (aCons (aThen gTup (aCons (eC (.str "int")) (aCons (eBin gIx (eVar 2) (eC (.int 0))) aNil))) (aCons (aThen gTup (aCons (eC (.str "int")) (aCons (eBin gIx (eVar 2) (eC (.int 1))) aNil))) (aCons (aThen gTup (aCons (eC (.str "array")) (aCons (eBin gIx (eVar 2) (eC (.int 2))) aNil))) (aCons (aThen gTup (aCons (eC (.str "array")) (aCons (eBin gIx (eVar 2) (eC (.int 3))) aNil))) aNil)))))))
  (sSeq (sSet 3 (eSl (eCall (lenD 2 d__law_shuffled) (aCons (eVar 0) (aCons (eVar 3) aNil))) (oSome (eCall (lenD 2 d__law_draw) (aCons (eVar 0) (aCons (eC (.int 4)) aNil)))) oNone))
  (sSeq (sSet 4 (eBin gIx (eFl (aList (aCons (aThen gTup aNil) (aCons (aThen gTup (aCons (eC (.str "result")) aNil)) (aCons (aThen gTup (aCons (eC (.str "result.x")) (aCons (eC (.str "result.y")) aNil))) aNil))))) (eCall (lenD 2 d__law_draw) (aCons (eVar 0) (aCons (eC (.int 3)) aNil)))))
  (sSeq (sSet 5 (aThen gTup aNil))
  (sSeq (sFor (eWalk (eVar 3)) (asgT 2 (asgCons (asgN 7) (asgCons (asgN 8) asgNil)))
  (sSeq (sSet 9 (eCall (lenD 2 d__law_draw) (aCons (eVar 0) (aCons (eC (.int 3)) aNil))))
  (eIf (bAnd (eB (eBin (gEq false) (eVar 7) (eC (.str "int")))) (eB (eBin (gEq false) (eVar 9) (eC (.int 0)))))
  (sSet 5 (eBin gAdd (eVar 5) (aThen gTup (aCons (aThen gTup (aCons (eC (.str "set")) (aCons (aThen gTup (aCons (aThen gTup (aCons (eVar 8) (aCons (aThen gTup (aCons (eC (.str "number")) (aCons (eC (.int 2)) aNil))) aNil))) aNil)) aNil))) aNil))))
  (eIf (bAnd (eB (eBin (gEq false) (eVar 7) (eC (.str "array")))) (eB (eBin (gEq false) (eVar 9) (eC (.int 0)))))
  (sSet 5 (eBin gAdd (eVar 5) (aThen gTup (aCons (aThen gTup (aCons (eC (.str "push")) (aCons (aThen gTup (aCons (eC (.str "number")) (aCons (eC (.int 1)) aNil))) (aCons (eVar 8) aNil)))) aNil))))
  (eIf (bAnd (eB (eBin (gEq false) (eVar 7) (eC (.str "array")))) (eB (eBin (gEq false) (eVar 9) (eC (.int 1)))))
  (sSet 5 (eBin gAdd (eVar 5) (aThen gTup (aCons (aThen gTup (aCons (eC (.str "store")) (aCons (eVar 8) (aCons (aThen gTup (aCons (eC (.str "number")) (aCons (eC (.int 0)) aNil))) (aCons (aThen gTup (aCons (eC (.str "number")) (aCons (eC (.int 1)) aNil))) aNil))))) aNil))))
  sNext)))) [7, 8, 9])
  (sSeq (sSet 6 (aThen gTup (aCons (aThen gTup (aCons (eC (.str "int")) (aCons (eBin gIx (eVar 2) (eC (.int 4))) aNil))) (aCons (aThen gTup (aCons (eC (.str "array")) (aCons (eBin gIx (eVar 2) (eC (.int 5))) aNil))) aNil))))
  (sRet (aThen gTup (aCons (eVar 1) (aCons (aThen (g1 gTuple) (aCons (eVar 3) aNil)) (aCons (eVar 4) (aCons (eVar 6) (aCons (aThen gTup aNil) (aCons (aThen gTup aNil) (aCons (aThen gTup aNil) (aCons (aThen gTup aNil) (aCons (eVar 5) aNil)))))))))))))))))
noncomputable def den__law_proc_of (d__law_shuffled : List D → M Rv) (d__law_draw : List D → M Rv) : List D → M Rv := fun ds => noX (runB 10 (r__law_proc_of d__law_shuffled d__law_draw) ds)
theorem mp__law_proc_of {k : Nat} {f : Addr} {fd : FuncData} (F : Fun K "_law_proc_of" "_law_proc_of" st__law_proc_of f fd) {f__law_shuffled : Addr} {e__law_shuffled : FuncData} {f__law_draw : Addr} {e__law_draw : FuncData} {d__law_shuffled : List D → M Rv} {d__law_draw : List D → M Rv} (T__law_shuffled : FnI K mg "_law_shuffled" st__law_shuffled f__law_shuffled e__law_shuffled ["state", "items"]) (F__law_shuffled : FnOk P w K mg base CX0 k f__law_shuffled e__law_shuffled ["state", "items"] (sp K mg 2 d__law_shuffled)) (T__law_draw : FnI K mg "_law_draw" st__law_draw f__law_draw e__law_draw ["state", "most"]) (F__law_draw : FnOk P w K mg base CX0 k f__law_draw e__law_draw ["state", "most"] (sp K mg 2 d__law_draw)) (z_tuple : mg "tuple" = none) : FnOk P w K mg base CX0 (k + 1) f fd ["state", "name", "words"] (sp K mg 3 (den__law_proc_of d__law_shuffled d__law_draw)) :=
  have sc := sc__law_proc_of
  fn_mp (N := ["state", "name", "words", "items", "results", "body", "places", "kind", "x", "pick"]) (r := r__law_proc_of d__law_shuffled d__law_draw) F sc__law_proc_of rfl fun cdv A outer s H E hr =>
  have hu := hr.units
  have hu1 := units1 hr
  (mss_cons (ms_set (i := 3) sc.nd rfl (by first | exact Or.inl rfl | exact Or.inr rfl) (me_fl (mf_lst (ma_cons (me_tup (ma_cons me_str (ma_cons (me_ix (me_var (pv 2)) me_int) ma_nil))) (ma_cons (me_tup (ma_cons me_str (ma_cons (me_ix (me_var (pv 2)) me_int) ma_nil))) (ma_cons (me_tup (ma_cons me_str (ma_cons (me_ix (me_var (pv 2)) me_int) ma_nil))) (ma_cons (me_tup (ma_cons me_str (ma_cons (me_ix (me_var (pv 2)) me_int) ma_nil))) ma_nil)))))))
  (mss_cons (ms_set (i := 3) sc.nd rfl (by first | exact Or.inl rfl | exact Or.inr rfl) (me_slice (me_callF T__law_shuffled F__law_shuffled hr rfl (ma_cons (me_var (pv 0)) (ma_cons (me_var (pv 3)) ma_nil)) rfl) (mo_some (me_callF T__law_draw F__law_draw hr rfl (ma_cons (me_var (pv 0)) (ma_cons me_int ma_nil)) rfl)) mo_none))
  (mss_cons (ms_set (i := 4) sc.nd rfl (by first | exact Or.inl rfl | exact Or.inr rfl) (me_ix (me_fl (mf_lst (ma_cons (me_tup ma_nil) (ma_cons (me_tup (ma_cons me_str ma_nil)) (ma_cons (me_tup (ma_cons me_str (ma_cons me_str ma_nil))) ma_nil))))) (me_callF T__law_draw F__law_draw hr rfl (ma_cons (me_var (pv 0)) (ma_cons me_int ma_nil)) rfl)))
  (mss_cons (ms_set (i := 5) sc.nd rfl (by first | exact Or.inl rfl | exact Or.inr rfl) (me_tup ma_nil))
  (mss_cons (ms_for (fg := [7, 8, 9]) PassesOwn.never rfl (mi_seq (me_var (pv 3))) (mg_tup rfl (mgs_cons (mg_of (pg_name (i := 7) sc.nd rfl (by first | exact Or.inl rfl | exact Or.inr rfl))) (mgs_cons (mg_of (pg_name (i := 8) sc.nd rfl (by first | exact Or.inl rfl | exact Or.inr rfl))) mgs_nil)))
  (mss_cons (ms_set (i := 9) sc.nd rfl (by first | exact Or.inl rfl | exact Or.inr rfl) (me_callF T__law_draw F__law_draw hr rfl (ma_cons (me_var (pv 0)) (ma_cons me_int ma_nil)) rfl))
  (mss_one (ms_if (MW.mt (mw_and (mt_cmp (op_eqM hu) opm_eq (me_var (pv 7)) me_str (by first | exact nomark _ | rfl)) (mw_and1 (mt_cmp (op_eqM hu) opm_eq (me_var (pv 9)) me_int (by first | exact nomark _ | rfl)))))
  (mss_one (ms_set (i := 5) sc.nd rfl (by first | exact Or.inl rfl | exact Or.inr rfl) (me_bin op_addM opm_add (me_var (pv 5)) (me_tup (ma_cons (me_tup (ma_cons me_str (ma_cons (me_tup (ma_cons (me_tup (ma_cons (me_var (pv 8)) (ma_cons (me_tup (ma_cons me_str (ma_cons me_int ma_nil))) ma_nil))) ma_nil)) ma_nil))) ma_nil)))))
  (mss_one (ms_if (MW.mt (mw_and (mt_cmp (op_eqM hu) opm_eq (me_var (pv 7)) me_str (by first | exact nomark _ | rfl)) (mw_and1 (mt_cmp (op_eqM hu) opm_eq (me_var (pv 9)) me_int (by first | exact nomark _ | rfl)))))
  (mss_one (ms_set (i := 5) sc.nd rfl (by first | exact Or.inl rfl | exact Or.inr rfl) (me_bin op_addM opm_add (me_var (pv 5)) (me_tup (ma_cons (me_tup (ma_cons me_str (ma_cons (me_tup (ma_cons me_str (ma_cons me_int ma_nil))) (ma_cons (me_var (pv 8)) ma_nil)))) ma_nil)))))
  (mss_one (ms_if (MW.mt (mw_and (mt_cmp (op_eqM hu) opm_eq (me_var (pv 7)) me_str (by first | exact nomark _ | rfl)) (mw_and1 (mt_cmp (op_eqM hu) opm_eq (me_var (pv 9)) me_int (by first | exact nomark _ | rfl)))))
  (mss_one (ms_set (i := 5) sc.nd rfl (by first | exact Or.inl rfl | exact Or.inr rfl) (me_bin op_addM opm_add (me_var (pv 5)) (me_tup (ma_cons (me_tup (ma_cons me_str (ma_cons (me_var (pv 8)) (ma_cons (me_tup (ma_cons me_str (ma_cons me_int ma_nil))) (ma_cons (me_tup (ma_cons me_str (ma_cons me_int ma_nil))) ma_nil))))) ma_nil)))))
  mss_nil))))))))
  (mss_cons (ms_set (i := 6) sc.nd rfl (by first | exact Or.inl rfl | exact Or.inr rfl) (me_tup (ma_cons (me_tup (ma_cons me_str (ma_cons (me_ix (me_var (pv 2)) me_int) ma_nil))) (ma_cons (me_tup (ma_cons me_str (ma_cons (me_ix (me_var (pv 2)) me_int) ma_nil))) ma_nil))))
  (mss_one (ms_ret (me_tup (ma_cons (me_var (pv 1)) (ma_cons (me_callTy call_tuple_of callM_tuple rfl z_tuple (by decide +kernel) (ma_cons (me_var (pv 3)) ma_nil)) (ma_cons (me_var (pv 4)) (ma_cons (me_var (pv 6)) (ma_cons (me_tup ma_nil) (ma_cons (me_tup ma_nil) (ma_cons (me_tup ma_nil) (ma_cons (me_tup ma_nil) (ma_cons (me_var (pv 5)) ma_nil))))))))))))))))))
abbrev st__law_core_of : Stmt := top 44
theorem sc__law_core_of : FnScope ["state", "names", "name"] ["state"] (defScope st__law_core_of) := ⟨rfl, rfl, rfl, by decide +kernel, rfl, by decide +kernel, by decide +kernel⟩
/-- names: 0 state, 1 names, 2 name -/
noncomputable def r__law_core_of (d__law_words : List D → M Rv) (d__law_draw : List D → M Rv) (d__law_proc_of : List D → M Rv) : MP.Env → M Fl :=
  (sSeq (sSet 1 (eFl (fSrt (eCall (lenD 2 d__law_words) (aCons (eVar 0) (aCons (eBin gAdd (eC (.int 1)) (eCall (lenD 2 d__law_draw) (aCons (eVar 0) (aCons (eC (.int 3)) aNil)))) aNil))))))
  (sRet (aThen (g1 gTuple) (aCons (eFl (fComp (eWalk (eVar 1)) (asgN 2) tYesM (eCall (lenD 3 d__law_proc_of) (aCons (eVar 0) (aCons (eVar 2) (aCons (eCall (lenD 2 d__law_words) (aCons (eVar 0) (aCons (eC (.int 6)) aNil))) aNil)))) [2])) aNil))))
noncomputable def den__law_core_of (d__law_words : List D → M Rv) (d__law_draw : List D → M Rv) (d__law_proc_of : List D → M Rv) : List D → M Rv := fun ds => noX (runB 3 (r__law_core_of d__law_words d__law_draw d__law_proc_of) ds)
theorem mp__law_core_of {k : Nat} {f : Addr} {fd : FuncData} (F : Fun K "_law_core_of" "_law_core_of" st__law_core_of f fd) {f__law_words : Addr} {e__law_words : FuncData} {f__law_draw : Addr} {e__law_draw : FuncData} {f__law_proc_of : Addr} {e__law_proc_of : FuncData} {d__law_words : List D → M Rv} {d__law_draw : List D → M Rv} {d__law_proc_of : List D → M Rv} (T__law_words : FnI K mg "_law_words" st__law_words f__law_words e__law_words ["state", "many"]) (F__law_words : FnOk P w K mg base CX0 k f__law_words e__law_words ["state", "many"] (sp K mg 2 d__law_words)) (T__law_draw : FnI K mg "_law_draw" st__law_draw f__law_draw e__law_draw ["state", "most"]) (F__law_draw : FnOk P w K mg base CX0 k f__law_draw e__law_draw ["state", "most"] (sp K mg 2 d__law_draw)) (T__law_proc_of : FnI K mg "_law_proc_of" st__law_proc_of f__law_proc_of e__law_proc_of ["state", "name", "words"]) (F__law_proc_of : FnOk P w K mg base CX0 k f__law_proc_of e__law_proc_of ["state", "name", "words"] (sp K mg 3 d__law_proc_of)) (z_sorted : mg "sorted" = none) (z_tuple : mg "tuple" = none) : FnOk P w K mg base CX0 (k + 1) f fd ["state"] (sp K mg 1 (den__law_core_of d__law_words d__law_draw d__law_proc_of)) :=
  have sc := sc__law_core_of
  fn_mp (N := ["state", "names", "name"]) (r := r__law_core_of d__law_words d__law_draw d__law_proc_of) F sc__law_core_of rfl fun cdv A outer s H E hr =>
  have hu := hr.units
  have hu1 := units1 hr
  (mss_cons (ms_set (i := 1) sc.nd rfl (by first | exact Or.inl rfl | exact Or.inr rfl) (me_fl (mf_sorted rfl z_sorted (by decide +kernel) (me_callF T__law_words F__law_words hr rfl (ma_cons (me_var (pv 0)) (ma_cons (me_bin op_addM opm_add me_int (me_callF T__law_draw F__law_draw hr rfl (ma_cons (me_var (pv 0)) (ma_cons me_int ma_nil)) rfl)) ma_nil)) rfl))))
  (mss_one (ms_ret (me_callTy call_tuple_of callM_tuple rfl z_tuple (by decide +kernel) (ma_cons (me_fl (mf_comp rfl sc.nd (mi_seq (me_var (pv 1))) (own := [("name", 2)]) (blkOk_by (N := ["state", "names", "name"]) (sc := defScope st__law_core_of) (by decide +kernel)) (by decide) (fun s H C cl fp => (mg_of (pg_name (i := 2) sc.nd rfl (by first | exact Or.inl rfl | exact Or.inr rfl)))) (fun s H C cl fp => mts_nil) (fun s H C cl fp => (me_callF T__law_proc_of F__law_proc_of hr rfl (ma_cons (me_var (pv 0)) (ma_cons (me_var (pv 2)) (ma_cons (me_callF T__law_words F__law_words hr rfl (ma_cons (me_var (pv 0)) (ma_cons me_int ma_nil)) rfl) ma_nil))) rfl)))) ma_nil)))))
abbrev st__law_input_names : Stmt := top 45
theorem sc__law_input_names : FnScope ["mark", "p", "item"] ["mark", "p"] (defScope st__law_input_names) := ⟨rfl, rfl, rfl, by decide +kernel, rfl, by decide +kernel, by decide +kernel⟩
/-- names: 0 mark, 1 p, 2 item -/
noncomputable def r__law_input_names (d__law_key : List D → M Rv) : MP.Env → M Fl :=
  (sRetF (fComp (eWalk (eBin gIx (eVar 1) (eC (.int 1)))) (asgN 2) tYesM (eBin gAdd (eBin gAdd (eVar 0) (eC (.str "@"))) (eCall (lenD 1 d__law_key) (aCons (eVar 2) aNil))) [2]))
noncomputable def den__law_input_names (d__law_key : List D → M Rv) : List D → M Rv := fun ds => noX (runB 3 (r__law_input_names d__law_key) ds)
theorem mp__law_input_names {k : Nat} {f : Addr} {fd : FuncData} (F : Fun K "_law_input_names" "_law_input_names" st__law_input_names f fd) {f__law_key : Addr} {e__law_key : FuncData} {d__law_key : List D → M Rv} (T__law_key : FnI K mg "_law_key" st__law_key f__law_key e__law_key ["item"]) (F__law_key : FnOk P w K mg base CX0 k f__law_key e__law_key ["item"] (sp K mg 1 d__law_key)) : FnOk P w K mg base CX0 (k + 1) f fd ["mark", "p"] (sp K mg 2 (den__law_input_names d__law_key)) :=
  have sc := sc__law_input_names
  fn_mp (N := ["mark", "p", "item"]) (r := r__law_input_names d__law_key) F sc__law_input_names rfl fun cdv A outer s H E hr =>
  have hu := hr.units
  have hu1 := units1 hr
  (mss_one (ms_retF (mf_comp rfl sc.nd (mi_seq (me_ix (me_var (pv 1)) me_int)) (own := [("item", 2)]) (blkOk_by (N := ["mark", "p", "item"]) (sc := defScope st__law_input_names) (by decide +kernel)) (by decide) (fun s H C cl fp => (mg_of (pg_name (i := 2) sc.nd rfl (by first | exact Or.inl rfl | exact Or.inr rfl)))) (fun s H C cl fp => mts_nil) (fun s H C cl fp => (me_bin op_addM opm_add (me_bin op_addM opm_add (me_var (pv 0)) me_str) (me_callF T__law_key F__law_key hr rfl (ma_cons (me_var (pv 2)) ma_nil) rfl))))))
abbrev st__law_ask_names : Stmt := top 46
theorem sc__law_ask_names : FnScope ["mark", "p", "moves", "found", "o"] ["mark", "p", "moves"] (defScope st__law_ask_names) := ⟨rfl, rfl, rfl, by decide +kernel, rfl, by decide +kernel, by decide +kernel⟩
/-- names: 0 mark, 1 p, 2 moves, 3 found, 4 o -/
noncomputable def r__law_ask_names (d__law_input_names : List D → M Rv) (d__law_outcomes : List D → M Rv) : MP.Env → M Fl :=
  (sSeq (sSet 3 (eBin gAdd (eCall (lenD 2 d__law_input_names) (aCons (eVar 0) (aCons (eVar 1) aNil))) (eFl (aList (aCons (eBin gAdd (eVar 0) (eC (.str ".count"))) aNil)))))
  (sRet (eBin gAdd (eVar 3) (eFl (fComp (eWalk (eCall (lenD 2 d__law_outcomes) (aCons (eVar 1) (aCons (eBin gDget (eVar 2) (eBin gIx (eVar 1) (eC (.int 0)))) aNil)))) (asgN 4) tYesM (eBin gAdd (eBin gAdd (eVar 0) (eC (.str "."))) (eVar 4)) [4])))))
noncomputable def den__law_ask_names (d__law_input_names : List D → M Rv) (d__law_outcomes : List D → M Rv) : List D → M Rv := fun ds => noX (runB 5 (r__law_ask_names d__law_input_names d__law_outcomes) ds)
theorem mp__law_ask_names {k : Nat} {f : Addr} {fd : FuncData} (F : Fun K "_law_ask_names" "_law_ask_names" st__law_ask_names f fd) {f__law_input_names : Addr} {e__law_input_names : FuncData} {f__law_outcomes : Addr} {e__law_outcomes : FuncData} {d__law_input_names : List D → M Rv} {d__law_outcomes : List D → M Rv} (T__law_input_names : FnI K mg "_law_input_names" st__law_input_names f__law_input_names e__law_input_names ["mark", "p"]) (F__law_input_names : FnOk P w K mg base CX0 k f__law_input_names e__law_input_names ["mark", "p"] (sp K mg 2 d__law_input_names)) (T__law_outcomes : FnI K mg "_law_outcomes" st__law_outcomes f__law_outcomes e__law_outcomes ["p", "moved"]) (F__law_outcomes : FnOk P w K mg base CX0 k f__law_outcomes e__law_outcomes ["p", "moved"] (sp K mg 2 d__law_outcomes)) : FnOk P w K mg base CX0 (k + 1) f fd ["mark", "p", "moves"] (sp K mg 3 (den__law_ask_names d__law_input_names d__law_outcomes)) :=
  have sc := sc__law_ask_names
  fn_mp (N := ["mark", "p", "moves", "found", "o"]) (r := r__law_ask_names d__law_input_names d__law_outcomes) F sc__law_ask_names rfl fun cdv A outer s H E hr =>
  have hu := hr.units
  have hu1 := units1 hr
  (mss_cons (ms_set (i := 3) sc.nd rfl (by first | exact Or.inl rfl | exact Or.inr rfl) (me_bin op_addM opm_add (me_callF T__law_input_names F__law_input_names hr rfl (ma_cons (me_var (pv 0)) (ma_cons (me_var (pv 1)) ma_nil)) rfl) (me_fl (mf_lst (ma_cons (me_bin op_addM opm_add (me_var (pv 0)) me_str) ma_nil)))))
  (mss_one (ms_ret (me_bin op_addM opm_add (me_var (pv 3)) (me_fl (mf_comp rfl sc.nd (mi_seq (me_callF T__law_outcomes F__law_outcomes hr rfl (ma_cons (me_var (pv 1)) (ma_cons (me_dget hu1 (me_var (pv 2)) (me_ix (me_var (pv 1)) me_int)) ma_nil)) rfl)) (own := [("o", 4)]) (blkOk_by (N := ["mark", "p", "moves", "found", "o"]) (sc := defScope st__law_ask_names) (by decide +kernel)) (by decide) (fun s H C cl fp => (mg_of (pg_name (i := 4) sc.nd rfl (by first | exact Or.inl rfl | exact Or.inr rfl)))) (fun s H C cl fp => mts_nil) (fun s H C cl fp => (me_bin op_addM opm_add (me_bin op_addM opm_add (me_var (pv 0)) me_str) (me_var (pv 4))))))))))
abbrev st__law_arrays : Stmt := top 47
theorem sc__law_arrays : FnScope ["p", "kind", "x"] ["p"] (defScope st__law_arrays) := ⟨rfl, rfl, rfl, by decide +kernel, rfl, by decide +kernel, by decide +kernel⟩
/-- names: 0 p, 1 kind, 2 x -/
noncomputable def r__law_arrays : MP.Env → M Fl :=
  (sRetF (fComp (eWalk (eBin gIx (eVar 0) (eC (.int 1)))) (asgT 2 (asgCons (asgN 1) (asgCons (asgN 2) asgNil))) (eB (eBin (gEq false) (eVar 1) (eC (.str "array")))) (eVar 2) [1, 2]))
noncomputable def den__law_arrays : List D → M Rv := fun ds => noX (runB 3 (r__law_arrays) ds)
theorem mp__law_arrays {k : Nat} {f : Addr} {fd : FuncData} (F : Fun K "_law_arrays" "_law_arrays" st__law_arrays f fd) : FnOk P w K mg base CX0 (k + 1) f fd ["p"] (sp K mg 1 (den__law_arrays)) :=
  have sc := sc__law_arrays
  fn_mp (N := ["p", "kind", "x"]) (r := r__law_arrays) F sc__law_arrays rfl fun cdv A outer s H E hr =>
  have hu := hr.units
  have hu1 := units1 hr
  (mss_one (ms_retF (mf_comp rfl sc.nd (mi_seq (me_ix (me_var (pv 0)) me_int)) (own := [("kind", 1), ("x", 2)]) (blkOk_by (N := ["p", "kind", "x"]) (sc := defScope st__law_arrays) (by decide +kernel)) (by decide) (fun s H C cl fp => (mg_tup rfl (mgs_cons (mg_of (pg_name (i := 1) sc.nd rfl (by first | exact Or.inl rfl | exact Or.inr rfl))) (mgs_cons (mg_of (pg_name (i := 2) sc.nd rfl (by first | exact Or.inl rfl | exact Or.inr rfl))) mgs_nil)))) (fun s H C cl fp => (mts_one (mt_cmp (op_eqM hu) opm_eq (me_var (pv 1)) me_str (by first | exact nomark _ | rfl)))) (fun s H C cl fp => (me_var (pv 2))))))
abbrev st__law_named : Stmt := top 48
theorem sc__law_named : FnScope ["core", "name", "p"] ["core", "name"] (defScope st__law_named) := ⟨rfl, rfl, rfl, by decide +kernel, rfl, by decide +kernel, by decide +kernel⟩
/-- names: 0 core, 1 name, 2 p -/
noncomputable def r__law_named : MP.Env → M Fl :=
  (sRet (eBin gIx (eFl (fComp (eWalk (eVar 0)) (asgN 2) (eB (eBin (gEq false) (eBin gIx (eVar 2) (eC (.int 0))) (eVar 1))) (eVar 2) [2])) (eC (.int 0))))
noncomputable def den__law_named : List D → M Rv := fun ds => noX (runB 3 (r__law_named) ds)
theorem mp__law_named {k : Nat} {f : Addr} {fd : FuncData} (F : Fun K "_law_named" "_law_named" st__law_named f fd) : FnOk P w K mg base CX0 (k + 1) f fd ["core", "name"] (sp K mg 2 (den__law_named)) :=
  have sc := sc__law_named
  fn_mp (N := ["core", "name", "p"]) (r := r__law_named) F sc__law_named rfl fun cdv A outer s H E hr =>
  have hu := hr.units
  have hu1 := units1 hr
  (mss_one (ms_ret (me_ix (me_fl (mf_comp rfl sc.nd (mi_seq (me_var (pv 0))) (own := [("p", 2)]) (blkOk_by (N := ["core", "name", "p"]) (sc := defScope st__law_named) (by decide +kernel)) (by decide) (fun s H C cl fp => (mg_of (pg_name (i := 2) sc.nd rfl (by first | exact Or.inl rfl | exact Or.inr rfl)))) (fun s H C cl fp => (mts_one (mt_cmp (op_eqM hu) opm_eq (me_ix (me_var (pv 2)) me_int) (me_var (pv 1)) (by first | exact nomark _ | rfl)))) (fun s H C cl fp => (me_var (pv 2))))) me_int)))
abbrev st__law_forms : Stmt := top 49
theorem sc__law_forms : FnScope ["state", "names", "most", "found", "k", "pairs", "j"] ["state", "names", "most"] (defScope st__law_forms) := ⟨rfl, rfl, rfl, by decide +kernel, rfl, by decide +kernel, by decide +kernel⟩
/-- names: 0 state, 1 names, 2 most, 3 found, 4 k, 5 pairs, 6 j -/
noncomputable def r__law_forms (d__law_draw : List D → M Rv) (d__law_one_of : List D → M Rv) (d__law_form : List D → M Rv) : MP.Env → M Fl :=
  (sSeq (sSet 3 (eNew (aList aNil)))
  (sSeq (sFor (wThen wRng1 (aCons (eCall (lenD 2 d__law_draw) (aCons (eVar 0) (aCons (eVar 2) aNil))) aNil)) (asgN 4)
  (sSeq (sSet 5 (eFl (fComp (wThen wRng1 (aCons (eCall (lenD 2 d__law_draw) (aCons (eVar 0) (aCons (eC (.int 4)) aNil))) aNil)) (asgN 6) tYesM (aThen gTup (aCons (eCall (lenD 2 d__law_one_of) (aCons (eVar 0) (aCons (eVar 1) aNil))) (aCons (eBin gSub (eCall (lenD 2 d__law_draw) (aCons (eVar 0) (aCons (eC (.int 7)) aNil))) (eC (.int 3))) aNil))) [6])))
  (sExpr (eMeth lstK gAppend (eVar 3) (aCons (eCall (lenD 2 d__law_form) (aCons (eBin gSub (eCall (lenD 2 d__law_draw) (aCons (eVar 0) (aCons (eC (.int 9)) aNil))) (eC (.int 4))) (aCons (eVar 5) aNil))) aNil)))) [4, 5])
  (sRet (aThen (g1 gTuple) (aCons (eVar 3) aNil)))))
noncomputable def den__law_forms (d__law_draw : List D → M Rv) (d__law_one_of : List D → M Rv) (d__law_form : List D → M Rv) : List D → M Rv := fun ds => noX (runB 7 (r__law_forms d__law_draw d__law_one_of d__law_form) ds)
theorem mp__law_forms {k : Nat} {f : Addr} {fd : FuncData} (F : Fun K "_law_forms" "_law_forms" st__law_forms f fd) {f__law_draw : Addr} {e__law_draw : FuncData} {f__law_one_of : Addr} {e__law_one_of : FuncData} {f__law_form : Addr} {e__law_form : FuncData} {d__law_draw : List D → M Rv} {d__law_one_of : List D → M Rv} {d__law_form : List D → M Rv} (T__law_draw : FnI K mg "_law_draw" st__law_draw f__law_draw e__law_draw ["state", "most"]) (F__law_draw : FnOk P w K mg base CX0 k f__law_draw e__law_draw ["state", "most"] (sp K mg 2 d__law_draw)) (T__law_one_of : FnI K mg "_law_one_of" st__law_one_of f__law_one_of e__law_one_of ["state", "items"]) (F__law_one_of : FnOk P w K mg base CX0 k f__law_one_of e__law_one_of ["state", "items"] (sp K mg 2 d__law_one_of)) (T__law_form : FnI K mg "_law_form" st__law_form f__law_form e__law_form ["constant", "pairs"]) (F__law_form : FnOk P w K mg base CX0 k f__law_form e__law_form ["constant", "pairs"] (sp K mg 2 d__law_form)) (z_range : mg "range" = none) (z_tuple : mg "tuple" = none) : FnOk P w K mg base CX0 (k + 1) f fd ["state", "names", "most"] (sp K mg 3 (den__law_forms d__law_draw d__law_one_of d__law_form)) :=
  have sc := sc__law_forms
  fn_mp (N := ["state", "names", "most", "found", "k", "pairs", "j"]) (r := r__law_forms d__law_draw d__law_one_of d__law_form) F sc__law_forms rfl fun cdv A outer s H E hr =>
  have hu := hr.units
  have hu1 := units1 hr
  (mss_cons (ms_set (i := 3) sc.nd rfl (by first | exact Or.inl rfl | exact Or.inr rfl) (me_new (mf_lst ma_nil)))
  (mss_cons (ms_for (fg := [4, 5]) PassesOwn.never rfl (mi_range1 rfl z_range (ma_cons (me_callF T__law_draw F__law_draw hr rfl (ma_cons (me_var (pv 0)) (ma_cons (me_var (pv 2)) ma_nil)) rfl) ma_nil)) (mg_of (pg_name (i := 4) sc.nd rfl (by first | exact Or.inl rfl | exact Or.inr rfl)))
  (mss_cons (ms_setC (i := 5) rfl sc.nd rfl rfl (sw_true rfl rfl (by decide +kernel) (by decide +kernel)) (mi_range1 rfl z_range (ma_cons (me_callF T__law_draw F__law_draw hr rfl (ma_cons (me_var (pv 0)) (ma_cons me_int ma_nil)) rfl) ma_nil)) (own := [("j", 6)]) (blkOk_by (N := ["state", "names", "most", "found", "k", "pairs", "j"]) (sc := defScope st__law_forms) (by decide +kernel)) (by decide) (fun s H C cl fp => (mg_of (pg_name (i := 6) sc.nd rfl (by first | exact Or.inl rfl | exact Or.inr rfl)))) (fun s H C cl fp => mts_nil) (fun s H C cl fp => (me_tup (ma_cons (me_callF T__law_one_of F__law_one_of hr rfl (ma_cons (me_var (pv 0)) (ma_cons (me_var (pv 1)) ma_nil)) rfl) (ma_cons (me_bin op_sub opm_sub (me_callF T__law_draw F__law_draw hr rfl (ma_cons (me_var (pv 0)) (ma_cons me_int ma_nil)) rfl) me_int) ma_nil)))) fl_go)
  (mss_one (ms_expr (me_lmeth PySem.F.slot_list_append PySem.F.type_list_append mt_append methM_append (me_var (pv 3)) (ma_cons (me_callF T__law_form F__law_form hr rfl (ma_cons (me_bin op_sub opm_sub (me_callF T__law_draw F__law_draw hr rfl (ma_cons (me_var (pv 0)) (ma_cons me_int ma_nil)) rfl) me_int) (ma_cons (me_var (pv 5)) ma_nil)) rfl) ma_nil))))))
  (mss_one (ms_ret (me_callTy call_tuple_of callM_tuple rfl z_tuple (by decide +kernel) (ma_cons (me_var (pv 3)) ma_nil))))))
abbrev st__law_pairs : Stmt := top 50
theorem sc__law_pairs : FnScope ["state", "p", "q", "found", "a", "b"] ["state", "p", "q"] (defScope st__law_pairs) := ⟨rfl, rfl, rfl, by decide +kernel, rfl, by decide +kernel, by decide +kernel⟩
/-- names: 0 state, 1 p, 2 q, 3 found, 4 a, 5 b -/
noncomputable def r__law_pairs (d__law_arrays : List D → M Rv) (d__law_shuffled : List D → M Rv) (d__law_draw : List D → M Rv) : MP.Env → M Fl :=
  (sSeq (sSet 3 (eFl (aList aNil)))
  (sSeq (sFor (eWalk (eCall (lenD 1 d__law_arrays) (aCons (eVar 1) aNil))) (asgN 4)
  (sSet 3 (eBin gAdd (eVar 3) (eFl (fComp (eWalk (eCall (lenD 1 d__law_arrays) (aCons (eVar 2) aNil))) (asgN 5) tYesM (aThen gTup (aCons (eVar 4) (aCons (eVar 5) aNil))) [5])))) [4])
  (sRet (aThen (g1 gTuple) (aCons (eSl (eCall (lenD 2 d__law_shuffled) (aCons (eVar 0) (aCons (eVar 3) aNil))) (oSome (eCall (lenD 2 d__law_draw) (aCons (eVar 0) (aCons (eBin gAdd (aThen (g1 gLen) (aCons (eVar 3) aNil)) (eC (.int 1))) aNil)))) oNone) aNil)))))
noncomputable def den__law_pairs (d__law_arrays : List D → M Rv) (d__law_shuffled : List D → M Rv) (d__law_draw : List D → M Rv) : List D → M Rv := fun ds => noX (runB 6 (r__law_pairs d__law_arrays d__law_shuffled d__law_draw) ds)
theorem mp__law_pairs {k : Nat} {f : Addr} {fd : FuncData} (F : Fun K "_law_pairs" "_law_pairs" st__law_pairs f fd) {f__law_arrays : Addr} {e__law_arrays : FuncData} {f__law_shuffled : Addr} {e__law_shuffled : FuncData} {f__law_draw : Addr} {e__law_draw : FuncData} {d__law_arrays : List D → M Rv} {d__law_shuffled : List D → M Rv} {d__law_draw : List D → M Rv} (T__law_arrays : FnI K mg "_law_arrays" st__law_arrays f__law_arrays e__law_arrays ["p"]) (F__law_arrays : FnOk P w K mg base CX0 k f__law_arrays e__law_arrays ["p"] (sp K mg 1 d__law_arrays)) (T__law_shuffled : FnI K mg "_law_shuffled" st__law_shuffled f__law_shuffled e__law_shuffled ["state", "items"]) (F__law_shuffled : FnOk P w K mg base CX0 k f__law_shuffled e__law_shuffled ["state", "items"] (sp K mg 2 d__law_shuffled)) (T__law_draw : FnI K mg "_law_draw" st__law_draw f__law_draw e__law_draw ["state", "most"]) (F__law_draw : FnOk P w K mg base CX0 k f__law_draw e__law_draw ["state", "most"] (sp K mg 2 d__law_draw)) (z_len : mg "len" = none) (z_tuple : mg "tuple" = none) : FnOk P w K mg base CX0 (k + 1) f fd ["state", "p", "q"] (sp K mg 3 (den__law_pairs d__law_arrays d__law_shuffled d__law_draw)) :=
  have sc := sc__law_pairs
  fn_mp (N := ["state", "p", "q", "found", "a", "b"]) (r := r__law_pairs d__law_arrays d__law_shuffled d__law_draw) F sc__law_pairs rfl fun cdv A outer s H E hr =>
  have hu := hr.units
  have hu1 := units1 hr
  (mss_cons (ms_set (i := 3) sc.nd rfl (by first | exact Or.inl rfl | exact Or.inr rfl) (me_fl (mf_lst ma_nil)))
  (mss_cons (ms_for (fg := [4]) PassesOwn.never rfl (mi_seq (me_callF T__law_arrays F__law_arrays hr rfl (ma_cons (me_var (pv 1)) ma_nil) rfl)) (mg_of (pg_name (i := 4) sc.nd rfl (by first | exact Or.inl rfl | exact Or.inr rfl)))
  (mss_one (ms_set (i := 3) sc.nd rfl (by first | exact Or.inl rfl | exact Or.inr rfl) (me_bin op_addM opm_add (me_var (pv 3)) (me_fl (mf_comp rfl sc.nd (mi_seq (me_callF T__law_arrays F__law_arrays hr rfl (ma_cons (me_var (pv 2)) ma_nil) rfl)) (own := [("b", 5)]) (blkOk_by (N := ["state", "p", "q", "found", "a", "b"]) (sc := defScope st__law_pairs) (by decide +kernel)) (by decide) (fun s H C cl fp => (mg_of (pg_name (i := 5) sc.nd rfl (by first | exact Or.inl rfl | exact Or.inr rfl)))) (fun s H C cl fp => mts_nil) (fun s H C cl fp => (me_tup (ma_cons (me_var (pv 4)) (ma_cons (me_var (pv 5)) ma_nil))))))))))
  (mss_one (ms_ret (me_callTy call_tuple_of callM_tuple rfl z_tuple (by decide +kernel) (ma_cons (me_slice (me_callF T__law_shuffled F__law_shuffled hr rfl (ma_cons (me_var (pv 0)) (ma_cons (me_var (pv 3)) ma_nil)) rfl) (mo_some (me_callF T__law_draw F__law_draw hr rfl (ma_cons (me_var (pv 0)) (ma_cons (me_bin op_addM opm_add (me_callB call_lenM callM_len rfl z_len PySem.boot_len (ma_cons (me_var (pv 3)) ma_nil)) me_int) ma_nil)) rfl)) mo_none) ma_nil))))))
abbrev st__law_claim : Stmt := top 51
theorem sc__law_claim : FnScope ["state", "world", "p", "q", "givens", "asks", "left", "right", "moves", "others"] ["state", "world"] (defScope st__law_claim) := ⟨rfl, rfl, rfl, by decide +kernel, rfl, by decide +kernel, by decide +kernel⟩
/-- names: 0 state, 1 world, 2 p, 3 q, 4 givens, 5 asks, 6 left, 7 right, 8 moves, 9 others -/
noncomputable def r__law_claim (d__law_one_of : List D → M Rv) (d__law_forms : List D → M Rv) (d__law_input_names : List D → M Rv) (d__law_ask_names : List D → M Rv) (d__law_pairs : List D → M Rv) : MP.Env → M Fl :=
  (sSeq (sAsg (eVar 1) (asgT 4 (asgCons (asgN 6) (asgCons (asgN 7) (asgCons (asgN 8) (asgCons (asgN 9) asgNil))))))
  (sSeq (sSet 2 (eCall (lenD 2 d__law_one_of) (aCons (eVar 0) (aCons (eVar 6) aNil))))
  (sSeq (sSet 3 (eCall (lenD 2 d__law_one_of) (aCons (eVar 0) (aCons (eVar 7) aNil))))
  (sSeq (sSet 4 (eCall (lenD 3 d__law_forms) (aCons (eVar 0) (aCons (eBin gAdd (eCall (lenD 2 d__law_input_names) (aCons (eC (.str "l.")) (aCons (eVar 2) aNil))) (eCall (lenD 2 d__law_input_names) (aCons (eC (.str "r.")) (aCons (eVar 3) aNil)))) (aCons (eC (.int 4)) aNil)))))
  (sSeq (sSet 5 (eCall (lenD 3 d__law_forms) (aCons (eVar 0) (aCons (eBin gAdd (eCall (lenD 3 d__law_ask_names) (aCons (eC (.str "l.")) (aCons (eVar 2) (aCons (eVar 8) aNil)))) (eCall (lenD 3 d__law_ask_names) (aCons (eC (.str "r.")) (aCons (eVar 3) (aCons (eVar 9) aNil))))) (aCons (eC (.int 4)) aNil)))))
  (sRet (aThen gTup (aCons (eBin gIx (eVar 2) (eC (.int 0))) (aCons (eBin gIx (eVar 3) (eC (.int 0))) (aCons (eVar 4) (aCons (eCall (lenD 3 d__law_pairs) (aCons (eVar 0) (aCons (eVar 2) (aCons (eVar 3) aNil)))) (aCons (eVar 5) (aCons (eCall (lenD 3 d__law_pairs) (aCons (eVar 0) (aCons (eVar 2) (aCons (eVar 3) aNil)))) aNil)))))))))))))
noncomputable def den__law_claim (d__law_one_of : List D → M Rv) (d__law_forms : List D → M Rv) (d__law_input_names : List D → M Rv) (d__law_ask_names : List D → M Rv) (d__law_pairs : List D → M Rv) : List D → M Rv := fun ds => noX (runB 10 (r__law_claim d__law_one_of d__law_forms d__law_input_names d__law_ask_names d__law_pairs) ds)
theorem mp__law_claim {k : Nat} {f : Addr} {fd : FuncData} (F : Fun K "_law_claim" "_law_claim" st__law_claim f fd) {f__law_one_of : Addr} {e__law_one_of : FuncData} {f__law_forms : Addr} {e__law_forms : FuncData} {f__law_input_names : Addr} {e__law_input_names : FuncData} {f__law_ask_names : Addr} {e__law_ask_names : FuncData} {f__law_pairs : Addr} {e__law_pairs : FuncData} {d__law_one_of : List D → M Rv} {d__law_forms : List D → M Rv} {d__law_input_names : List D → M Rv} {d__law_ask_names : List D → M Rv} {d__law_pairs : List D → M Rv} (T__law_one_of : FnI K mg "_law_one_of" st__law_one_of f__law_one_of e__law_one_of ["state", "items"]) (F__law_one_of : FnOk P w K mg base CX0 k f__law_one_of e__law_one_of ["state", "items"] (sp K mg 2 d__law_one_of)) (T__law_forms : FnI K mg "_law_forms" st__law_forms f__law_forms e__law_forms ["state", "names", "most"]) (F__law_forms : FnOk P w K mg base CX0 k f__law_forms e__law_forms ["state", "names", "most"] (sp K mg 3 d__law_forms)) (T__law_input_names : FnI K mg "_law_input_names" st__law_input_names f__law_input_names e__law_input_names ["mark", "p"]) (F__law_input_names : FnOk P w K mg base CX0 k f__law_input_names e__law_input_names ["mark", "p"] (sp K mg 2 d__law_input_names)) (T__law_ask_names : FnI K mg "_law_ask_names" st__law_ask_names f__law_ask_names e__law_ask_names ["mark", "p", "moves"]) (F__law_ask_names : FnOk P w K mg base CX0 k f__law_ask_names e__law_ask_names ["mark", "p", "moves"] (sp K mg 3 d__law_ask_names)) (T__law_pairs : FnI K mg "_law_pairs" st__law_pairs f__law_pairs e__law_pairs ["state", "p", "q"]) (F__law_pairs : FnOk P w K mg base CX0 k f__law_pairs e__law_pairs ["state", "p", "q"] (sp K mg 3 d__law_pairs)) : FnOk P w K mg base CX0 (k + 1) f fd ["state", "world"] (sp K mg 2 (den__law_claim d__law_one_of d__law_forms d__law_input_names d__law_ask_names d__law_pairs)) :=
  have sc := sc__law_claim
  fn_mp (N := ["state", "world", "p", "q", "givens", "asks", "left", "right", "moves", "others"]) (r := r__law_claim d__law_one_of d__law_forms d__law_input_names d__law_ask_names d__law_pairs) F sc__law_claim rfl fun cdv A outer s H E hr =>
  have hu := hr.units
  have hu1 := units1 hr
  (mss_cons (ms_asg (me_var (pv 1)) (mg_tup rfl (mgs_cons (mg_of (pg_name (i := 6) sc.nd rfl (by first | exact Or.inl rfl | exact Or.inr rfl))) (mgs_cons (mg_of (pg_name (i := 7) sc.nd rfl (by first | exact Or.inl rfl | exact Or.inr rfl))) (mgs_cons (mg_of (pg_name (i := 8) sc.nd rfl (by first | exact Or.inl rfl | exact Or.inr rfl))) (mgs_cons (mg_of (pg_name (i := 9) sc.nd rfl (by first | exact Or.inl rfl | exact Or.inr rfl))) mgs_nil))))))
  (mss_cons (ms_set (i := 2) sc.nd rfl (by first | exact Or.inl rfl | exact Or.inr rfl) (me_callF T__law_one_of F__law_one_of hr rfl (ma_cons (me_var (pv 0)) (ma_cons (me_var (pv 6)) ma_nil)) rfl))
  (mss_cons (ms_set (i := 3) sc.nd rfl (by first | exact Or.inl rfl | exact Or.inr rfl) (me_callF T__law_one_of F__law_one_of hr rfl (ma_cons (me_var (pv 0)) (ma_cons (me_var (pv 7)) ma_nil)) rfl))
  (mss_cons (ms_set (i := 4) sc.nd rfl (by first | exact Or.inl rfl | exact Or.inr rfl) (me_callF T__law_forms F__law_forms hr rfl (ma_cons (me_var (pv 0)) (ma_cons (me_bin op_addM opm_add (me_callF T__law_input_names F__law_input_names hr rfl (ma_cons me_str (ma_cons (me_var (pv 2)) ma_nil)) rfl) (me_callF T__law_input_names F__law_input_names hr rfl (ma_cons me_str (ma_cons (me_var (pv 3)) ma_nil)) rfl)) (ma_cons me_int ma_nil))) rfl))
  (mss_cons (ms_set (i := 5) sc.nd rfl (by first | exact Or.inl rfl | exact Or.inr rfl) (me_callF T__law_forms F__law_forms hr rfl (ma_cons (me_var (pv 0)) (ma_cons (me_bin op_addM opm_add (me_callF T__law_ask_names F__law_ask_names hr rfl (ma_cons me_str (ma_cons (me_var (pv 2)) (ma_cons (me_var (pv 8)) ma_nil))) rfl) (me_callF T__law_ask_names F__law_ask_names hr rfl (ma_cons me_str (ma_cons (me_var (pv 3)) (ma_cons (me_var (pv 9)) ma_nil))) rfl)) (ma_cons me_int ma_nil))) rfl))
  (mss_one (ms_ret (me_tup (ma_cons (me_ix (me_var (pv 2)) me_int) (ma_cons (me_ix (me_var (pv 3)) me_int) (ma_cons (me_var (pv 4)) (ma_cons (me_callF T__law_pairs F__law_pairs hr rfl (ma_cons (me_var (pv 0)) (ma_cons (me_var (pv 2)) (ma_cons (me_var (pv 3)) ma_nil))) rfl) (ma_cons (me_var (pv 5)) (ma_cons (me_callF T__law_pairs F__law_pairs hr rfl (ma_cons (me_var (pv 0)) (ma_cons (me_var (pv 2)) (ma_cons (me_var (pv 3)) ma_nil))) rfl) ma_nil))))))))))))))
abbrev st__law_are_pairs : Stmt := top 52
theorem sc__law_are_pairs : FnScope ["datum", "first", "second", "k", "pair"] ["datum", "first", "second"] (defScope st__law_are_pairs) := ⟨rfl, rfl, rfl, by decide +kernel, rfl, by decide +kernel, by decide +kernel⟩
/-- names: 0 datum, 1 first, 2 second, 3 k, 4 pair -/
noncomputable def r__law_are_pairs : MP.Env → M Fl :=
  (sSeq (eIf (bNot (eB (eMap (gIsi "tuple") (eVar 0))))
  (sRet (eC (.bl false)))
  sNext)
  (sSeq (sFor (wThen wRng1 (aCons (aThen (g1 gLen) (aCons (eVar 0) aNil)) aNil)) (asgN 3)
  (sSeq (sSet 4 (eBin gIx (eVar 0) (eVar 3)))
  (sSeq (eIf (bOr (bNot (eB (eMap (gIsi "tuple") (eVar 4)))) (bOr (eB (eBin (gEq true) (aThen (g1 gLen) (aCons (eVar 4) aNil)) (eC (.int 2)))) (eB (eBin (gIn false) (eVar 4) (eSl (eVar 0) oNone (oSome (eVar 3)))))))
  (sRet (eC (.bl false)))
  sNext)
  (eIf (bOr (eB (eBin (gIn true) (eBin gIx (eVar 4) (eC (.int 0))) (eVar 1))) (eB (eBin (gIn true) (eBin gIx (eVar 4) (eC (.int 1))) (eVar 2))))
  (sRet (eC (.bl false)))
  sNext))) [3, 4])
  (sRet (eC (.bl true)))))
noncomputable def den__law_are_pairs : List D → M Rv := fun ds => noX (runB 5 (r__law_are_pairs) ds)
theorem mp__law_are_pairs {k : Nat} {f : Addr} {fd : FuncData} (F : Fun K "_law_are_pairs" "_law_are_pairs" st__law_are_pairs f fd) (z_isinstance : mg "isinstance" = none) (z_tuple : mg "tuple" = none) (z_range : mg "range" = none) (z_len : mg "len" = none) : FnOk P w K mg base CX0 (k + 1) f fd ["datum", "first", "second"] (sp K mg 3 (den__law_are_pairs)) :=
  have sc := sc__law_are_pairs
  fn_mp (N := ["datum", "first", "second", "k", "pair"]) (r := r__law_are_pairs) F sc__law_are_pairs rfl fun cdv A outer s H E hr =>
  have hu := hr.units
  have hu1 := units1 hr
  (mss_cons (ms_if (mt_not (mt_val (me_isi (T := "tuple") (by decide) rfl z_isinstance (by decide +kernel) rfl z_tuple (by decide +kernel) (me_var (pv 0)))))
  (mss_one (ms_ret me_bl))
  mss_nil)
  (mss_cons (ms_for (fg := [3, 4]) PassesOwn.never rfl (mi_range1 rfl z_range (ma_cons (me_callB call_lenM callM_len rfl z_len PySem.boot_len (ma_cons (me_var (pv 0)) ma_nil)) ma_nil)) (mg_of (pg_name (i := 3) sc.nd rfl (by first | exact Or.inl rfl | exact Or.inr rfl)))
  (mss_cons (ms_set (i := 4) sc.nd rfl (by first | exact Or.inl rfl | exact Or.inr rfl) (me_ix (me_var (pv 0)) (me_var (pv 3))))
  (mss_cons (ms_if (MW.mt (mw_or (mt_not (mt_val (me_isi (T := "tuple") (by decide) rfl z_isinstance (by decide +kernel) rfl z_tuple (by decide +kernel) (me_var (pv 4))))) (mw_or (mt_cmp (op_neM hu) opm_eq (me_callB call_lenM callM_len rfl z_len PySem.boot_len (ma_cons (me_var (pv 4)) ma_nil)) me_int (by first | exact nomark _ | rfl)) (mw_or1 (mt_cmp (op_inM hu) opm_in (me_var (pv 4)) (me_slice (me_var (pv 0)) mo_none (mo_some (me_var (pv 3)))) (by first | exact nomark _ | rfl))))))
  (mss_one (ms_ret me_bl))
  mss_nil)
  (mss_one (ms_if (MW.mt (mw_or (mt_cmp (op_notInM hu) opm_in (me_ix (me_var (pv 4)) me_int) (me_var (pv 1)) (by first | exact nomark _ | rfl)) (mw_or1 (mt_cmp (op_notInM hu) opm_in (me_ix (me_var (pv 4)) me_int) (me_var (pv 2)) (by first | exact nomark _ | rfl)))))
  (mss_one (ms_ret me_bl))
  mss_nil)))))
  (mss_one (ms_ret me_bl))))
abbrev st__law_are_forms : Stmt := top 53
theorem sc__law_are_forms : FnScope ["datum", "names", "f"] ["datum", "names"] (defScope st__law_are_forms) := ⟨rfl, rfl, rfl, by decide +kernel, rfl, by decide +kernel, by decide +kernel⟩
/-- names: 0 datum, 1 names, 2 f -/
noncomputable def r__law_are_forms (d__law_is_form : List D → M Rv) : MP.Env → M Fl :=
  (sRet (eAnd (eMap (gIsi "tuple") (eVar 0)) (aThen (g1 gAll) (aCons (eFl (fComp (eWalk (eVar 0)) (asgN 2) tYesM (eCall (lenD 2 d__law_is_form) (aCons (eVar 2) (aCons (eVar 1) aNil))) [2])) aNil))))
noncomputable def den__law_are_forms (d__law_is_form : List D → M Rv) : List D → M Rv := fun ds => noX (runB 3 (r__law_are_forms d__law_is_form) ds)
theorem mp__law_are_forms {k : Nat} {f : Addr} {fd : FuncData} (F : Fun K "_law_are_forms" "_law_are_forms" st__law_are_forms f fd) {f__law_is_form : Addr} {e__law_is_form : FuncData} {d__law_is_form : List D → M Rv} (T__law_is_form : FnI K mg "_law_is_form" st__law_is_form f__law_is_form e__law_is_form ["f", "names"]) (F__law_is_form : FnOk P w K mg base CX0 k f__law_is_form e__law_is_form ["f", "names"] (sp K mg 2 d__law_is_form)) (z_isinstance : mg "isinstance" = none) (z_tuple : mg "tuple" = none) (z_all : mg "all" = none) : FnOk P w K mg base CX0 (k + 1) f fd ["datum", "names"] (sp K mg 2 (den__law_are_forms d__law_is_form)) :=
  have sc := sc__law_are_forms
  fn_mp (N := ["datum", "names", "f"]) (r := r__law_are_forms d__law_is_form) F sc__law_are_forms rfl fun cdv A outer s H E hr =>
  have hu := hr.units
  have hu1 := units1 hr
  (mss_one (ms_ret (me_and (me_isi (T := "tuple") (by decide) rfl z_isinstance (by decide +kernel) rfl z_tuple (by decide +kernel) (me_var (pv 0))) (me_one (me_callB (cr_all rfl) callM_all rfl z_all (by decide +kernel) (ma_cons (me_fl (mf_comp rfl sc.nd (mi_seq (me_var (pv 0))) (own := [("f", 2)]) (blkOk_by (N := ["datum", "names", "f"]) (sc := defScope st__law_are_forms) (by decide +kernel)) (by decide) (fun s H C cl fp => (mg_of (pg_name (i := 2) sc.nd rfl (by first | exact Or.inl rfl | exact Or.inr rfl)))) (fun s H C cl fp => mts_nil) (fun s H C cl fp => (me_callF T__law_is_form F__law_is_form hr rfl (ma_cons (me_var (pv 2)) (ma_cons (me_var (pv 1)) ma_nil)) rfl)))) ma_nil))))))
abbrev st__law_judged : Stmt := top 54
theorem sc__law_judged : FnScope ["world", "datum", "p", "q", "inputs", "pairs", "left", "right", "moves", "others", "part"] ["world", "datum"] (defScope st__law_judged) := ⟨rfl, rfl, rfl, by decide +kernel, rfl, by decide +kernel, by decide +kernel⟩
/-- names: 0 world, 1 datum, 2 p, 3 q, 4 inputs, 5 pairs, 6 left, 7 right, 8 moves, 9 others, 10 part -/
noncomputable def r__law_judged (d__law_named : List D → M Rv) (d__law_input_names : List D → M Rv) (d__law_are_forms : List D → M Rv) (d__law_ask_names : List D → M Rv) (d__law_are_pairs : List D → M Rv) (d__law_arrays : List D → M Rv) : MP.Env → M Fl :=
  (sSeq (sAsg (eVar 0) (asgT 4 (asgCons (asgN 6) (asgCons (asgN 7) (asgCons (asgN 8) (asgCons (asgN 9) asgNil))))))
  (sSeq (eIf (bOr (bNot (eB (eMap (gIsi "tuple") (eVar 1)))) (eB (eBin (gEq true) (aThen (g1 gLen) (aCons (eVar 1) aNil)) (eC (.int 6)))))
  (sRet (eC (.bl false)))
  sNext)
  (sSeq (eIf (bOr (eB (eBin (gIn true) (eBin gIx (eVar 1) (eC (.int 0))) (eFl (fComp (eWalk (eVar 6)) (asgN 2) tYesM (eBin gIx (eVar 2) (eC (.int 0))) [2])))) (eB (eBin (gIn true) (eBin gIx (eVar 1) (eC (.int 1))) (eFl (fComp (eWalk (eVar 7)) (asgN 2) tYesM (eBin gIx (eVar 2) (eC (.int 0))) [2])))))
  (sRet (eC (.bl false)))
  sNext)
  (sSeq (sSet 2 (eCall (lenD 2 d__law_named) (aCons (eVar 6) (aCons (eBin gIx (eVar 1) (eC (.int 0))) aNil))))
  (sSeq (sSet 3 (eCall (lenD 2 d__law_named) (aCons (eVar 7) (aCons (eBin gIx (eVar 1) (eC (.int 1))) aNil))))
  (sSeq (sSet 4 (eBin gAdd (eCall (lenD 2 d__law_input_names) (aCons (eC (.str "l.")) (aCons (eVar 2) aNil))) (eCall (lenD 2 d__law_input_names) (aCons (eC (.str "r.")) (aCons (eVar 3) aNil)))))
  (sSeq (eIf (bNot (eB (eCall (lenD 2 d__law_are_forms) (aCons (eBin gIx (eVar 1) (eC (.int 2))) (aCons (eVar 4) aNil)))))
  (sRet (eC (.bl false)))
  sNext)
  (sSeq (eIf (bNot (eB (eCall (lenD 2 d__law_are_forms) (aCons (eBin gIx (eVar 1) (eC (.int 4))) (aCons (eBin gAdd (eCall (lenD 3 d__law_ask_names) (aCons (eC (.str "l.")) (aCons (eVar 2) (aCons (eVar 8) aNil)))) (eCall (lenD 3 d__law_ask_names) (aCons (eC (.str "r.")) (aCons (eVar 3) (aCons (eVar 9) aNil))))) aNil)))))
  (sRet (eC (.bl false)))
  sNext)
  (sSeq (sSet 5 (eFl (aList (aCons (eBin gIx (eVar 1) (eC (.int 3))) (aCons (eBin gIx (eVar 1) (eC (.int 5))) aNil)))))
  (sRet (aThen (g1 gAll) (aCons (eFl (fComp (eWalk (eVar 5)) (asgN 10) tYesM (eCall (lenD 3 d__law_are_pairs) (aCons (eVar 10) (aCons (eCall (lenD 1 d__law_arrays) (aCons (eVar 2) aNil)) (aCons (eCall (lenD 1 d__law_arrays) (aCons (eVar 3) aNil)) aNil)))) [10])) aNil))))))))))))
noncomputable def den__law_judged (d__law_named : List D → M Rv) (d__law_input_names : List D → M Rv) (d__law_are_forms : List D → M Rv) (d__law_ask_names : List D → M Rv) (d__law_are_pairs : List D → M Rv) (d__law_arrays : List D → M Rv) : List D → M Rv := fun ds => noX (runB 11 (r__law_judged d__law_named d__law_input_names d__law_are_forms d__law_ask_names d__law_are_pairs d__law_arrays) ds)
theorem mp__law_judged {k : Nat} {f : Addr} {fd : FuncData} (F : Fun K "_law_judged" "_law_judged" st__law_judged f fd) {f__law_named : Addr} {e__law_named : FuncData} {f__law_input_names : Addr} {e__law_input_names : FuncData} {f__law_are_forms : Addr} {e__law_are_forms : FuncData} {f__law_ask_names : Addr} {e__law_ask_names : FuncData} {f__law_are_pairs : Addr} {e__law_are_pairs : FuncData} {f__law_arrays : Addr} {e__law_arrays : FuncData} {d__law_named : List D → M Rv} {d__law_input_names : List D → M Rv} {d__law_are_forms : List D → M Rv} {d__law_ask_names : List D → M Rv} {d__law_are_pairs : List D → M Rv} {d__law_arrays : List D → M Rv} (T__law_named : FnI K mg "_law_named" st__law_named f__law_named e__law_named ["core", "name"]) (F__law_named : FnOk P w K mg base CX0 k f__law_named e__law_named ["core", "name"] (sp K mg 2 d__law_named)) (T__law_input_names : FnI K mg "_law_input_names" st__law_input_names f__law_input_names e__law_input_names ["mark", "p"]) (F__law_input_names : FnOk P w K mg base CX0 k f__law_input_names e__law_input_names ["mark", "p"] (sp K mg 2 d__law_input_names)) (T__law_are_forms : FnI K mg "_law_are_forms" st__law_are_forms f__law_are_forms e__law_are_forms ["datum", "names"]) (F__law_are_forms : FnOk P w K mg base CX0 k f__law_are_forms e__law_are_forms ["datum", "names"] (sp K mg 2 d__law_are_forms)) (T__law_ask_names : FnI K mg "_law_ask_names" st__law_ask_names f__law_ask_names e__law_ask_names ["mark", "p", "moves"]) (F__law_ask_names : FnOk P w K mg base CX0 k f__law_ask_names e__law_ask_names ["mark", "p", "moves"] (sp K mg 3 d__law_ask_names)) (T__law_are_pairs : FnI K mg "_law_are_pairs" st__law_are_pairs f__law_are_pairs e__law_are_pairs ["datum", "first", "second"]) (F__law_are_pairs : FnOk P w K mg base CX0 k f__law_are_pairs e__law_are_pairs ["datum", "first", "second"] (sp K mg 3 d__law_are_pairs)) (T__law_arrays : FnI K mg "_law_arrays" st__law_arrays f__law_arrays e__law_arrays ["p"]) (F__law_arrays : FnOk P w K mg base CX0 k f__law_arrays e__law_arrays ["p"] (sp K mg 1 d__law_arrays)) (z_isinstance : mg "isinstance" = none) (z_tuple : mg "tuple" = none) (z_len : mg "len" = none) (z_all : mg "all" = none) : FnOk P w K mg base CX0 (k + 1) f fd ["world", "datum"] (sp K mg 2 (den__law_judged d__law_named d__law_input_names d__law_are_forms d__law_ask_names d__law_are_pairs d__law_arrays)) :=
  have sc := sc__law_judged
  fn_mp (N := ["world", "datum", "p", "q", "inputs", "pairs", "left", "right", "moves", "others", "part"]) (r := r__law_judged d__law_named d__law_input_names d__law_are_forms d__law_ask_names d__law_are_pairs d__law_arrays) F sc__law_judged rfl fun cdv A outer s H E hr =>
  have hu := hr.units
  have hu1 := units1 hr
  (mss_cons (ms_asg (me_var (pv 0)) (mg_tup rfl (mgs_cons (mg_of (pg_name (i := 6) sc.nd rfl (by first | exact Or.inl rfl | exact Or.inr rfl))) (mgs_cons (mg_of (pg_name (i := 7) sc.nd rfl (by first | exact Or.inl rfl | exact Or.inr rfl))) (mgs_cons (mg_of (pg_name (i := 8) sc.nd rfl (by first | exact Or.inl rfl | exact Or.inr rfl))) (mgs_cons (mg_of (pg_name (i := 9) sc.nd rfl (by first | exact Or.inl rfl | exact Or.inr rfl))) mgs_nil))))))
  (mss_cons (ms_if (MW.mt (mw_or (mt_not (mt_val (me_isi (T := "tuple") (by decide) rfl z_isinstance (by decide +kernel) rfl z_tuple (by decide +kernel) (me_var (pv 1))))) (mw_or1 (mt_cmp (op_neM hu) opm_eq (me_callB call_lenM callM_len rfl z_len PySem.boot_len (ma_cons (me_var (pv 1)) ma_nil)) me_int (by first | exact nomark _ | rfl)))))
  (mss_one (ms_ret me_bl))
  mss_nil)
  (mss_cons (ms_if (MW.mt (mw_or (mt_cmp (op_notInM hu) opm_in (me_ix (me_var (pv 1)) me_int) (me_fl (mf_comp rfl sc.nd (mi_seq (me_var (pv 6))) (own := [("p", 2)]) (blkOk_by (N := ["world", "datum", "p", "q", "inputs", "pairs", "left", "right", "moves", "others", "part"]) (sc := defScope st__law_judged) (by decide +kernel)) (by decide) (fun s H C cl fp => (mg_of (pg_name (i := 2) sc.nd rfl (by first | exact Or.inl rfl | exact Or.inr rfl)))) (fun s H C cl fp => mts_nil) (fun s H C cl fp => (me_ix (me_var (pv 2)) me_int)))) (by first | exact nomark _ | rfl)) (mw_or1 (mt_cmp (op_notInM hu) opm_in (me_ix (me_var (pv 1)) me_int) (me_fl (mf_comp rfl sc.nd (mi_seq (me_var (pv 7))) (own := [("p", 2)]) (blkOk_by (N := ["world", "datum", "p", "q", "inputs", "pairs", "left", "right", "moves", "others", "part"]) (sc := defScope st__law_judged) (by decide +kernel)) (by decide) (fun s H C cl fp => (mg_of (pg_name (i := 2) sc.nd rfl (by first | exact Or.inl rfl | exact Or.inr rfl)))) (fun s H C cl fp => mts_nil) (fun s H C cl fp => (me_ix (me_var (pv 2)) me_int)))) (by first | exact nomark _ | rfl)))))
  (mss_one (ms_ret me_bl))
  mss_nil)
  (mss_cons (ms_set (i := 2) sc.nd rfl (by first | exact Or.inl rfl | exact Or.inr rfl) (me_callF T__law_named F__law_named hr rfl (ma_cons (me_var (pv 6)) (ma_cons (me_ix (me_var (pv 1)) me_int) ma_nil)) rfl))
  (mss_cons (ms_set (i := 3) sc.nd rfl (by first | exact Or.inl rfl | exact Or.inr rfl) (me_callF T__law_named F__law_named hr rfl (ma_cons (me_var (pv 7)) (ma_cons (me_ix (me_var (pv 1)) me_int) ma_nil)) rfl))
  (mss_cons (ms_set (i := 4) sc.nd rfl (by first | exact Or.inl rfl | exact Or.inr rfl) (me_bin op_addM opm_add (me_callF T__law_input_names F__law_input_names hr rfl (ma_cons me_str (ma_cons (me_var (pv 2)) ma_nil)) rfl) (me_callF T__law_input_names F__law_input_names hr rfl (ma_cons me_str (ma_cons (me_var (pv 3)) ma_nil)) rfl)))
  (mss_cons (ms_if (mt_not (mt_val (me_callF T__law_are_forms F__law_are_forms hr rfl (ma_cons (me_ix (me_var (pv 1)) me_int) (ma_cons (me_var (pv 4)) ma_nil)) rfl)))
  (mss_one (ms_ret me_bl))
  mss_nil)
  (mss_cons (ms_if (mt_not (mt_val (me_callF T__law_are_forms F__law_are_forms hr rfl (ma_cons (me_ix (me_var (pv 1)) me_int) (ma_cons (me_bin op_addM opm_add (me_callF T__law_ask_names F__law_ask_names hr rfl (ma_cons me_str (ma_cons (me_var (pv 2)) (ma_cons (me_var (pv 8)) ma_nil))) rfl) (me_callF T__law_ask_names F__law_ask_names hr rfl (ma_cons me_str (ma_cons (me_var (pv 3)) (ma_cons (me_var (pv 9)) ma_nil))) rfl)) ma_nil)) rfl)))
  (mss_one (ms_ret me_bl))
  mss_nil)
  (mss_cons (ms_set (i := 5) sc.nd rfl (by first | exact Or.inl rfl | exact Or.inr rfl) (me_fl (mf_lst (ma_cons (me_ix (me_var (pv 1)) me_int) (ma_cons (me_ix (me_var (pv 1)) me_int) ma_nil)))))
  (mss_one (ms_ret (me_callB (cr_all rfl) callM_all rfl z_all (by decide +kernel) (ma_cons (me_fl (mf_comp rfl sc.nd (mi_seq (me_var (pv 5))) (own := [("part", 10)]) (blkOk_by (N := ["world", "datum", "p", "q", "inputs", "pairs", "left", "right", "moves", "others", "part"]) (sc := defScope st__law_judged) (by decide +kernel)) (by decide) (fun s H C cl fp => (mg_of (pg_name (i := 10) sc.nd rfl (by first | exact Or.inl rfl | exact Or.inr rfl)))) (fun s H C cl fp => mts_nil) (fun s H C cl fp => (me_callF T__law_are_pairs F__law_are_pairs hr rfl (ma_cons (me_var (pv 10)) (ma_cons (me_callF T__law_arrays F__law_arrays hr rfl (ma_cons (me_var (pv 2)) ma_nil) rfl) (ma_cons (me_callF T__law_arrays F__law_arrays hr rfl (ma_cons (me_var (pv 3)) ma_nil) rfl) ma_nil))) rfl)))) ma_nil)))))))))))))
abbrev st__law_with : Stmt := top 55
theorem sc__law_with : FnScope ["claim", "k", "part"] ["claim", "k", "part"] (defScope st__law_with) := ⟨rfl, rfl, rfl, by decide +kernel, rfl, by decide +kernel, by decide +kernel⟩
/-- names: 0 claim, 1 k, 2 part -/
noncomputable def r__law_with : MP.Env → M Fl :=
  (sRet (eBin gAdd (eBin gAdd (eSl (eVar 0) oNone (oSome (eVar 1))) (aThen gTup (aCons (eVar 2) aNil))) (eSl (eVar 0) (oSome (eBin gAdd (eVar 1) (eC (.int 1)))) oNone)))
noncomputable def den__law_with : List D → M Rv := fun ds => noX (runB 3 (r__law_with) ds)
theorem mp__law_with {k : Nat} {f : Addr} {fd : FuncData} (F : Fun K "_law_with" "_law_with" st__law_with f fd) : FnOk P w K mg base CX0 (k + 1) f fd ["claim", "k", "part"] (sp K mg 3 (den__law_with)) :=
  have sc := sc__law_with
  fn_mp (N := ["claim", "k", "part"]) (r := r__law_with) F sc__law_with rfl fun cdv A outer s H E hr =>
  have hu := hr.units
  have hu1 := units1 hr
  (mss_one (ms_ret (me_bin op_addM opm_add (me_bin op_addM opm_add (me_slice (me_var (pv 0)) mo_none (mo_some (me_var (pv 1)))) (me_tup (ma_cons (me_var (pv 2)) ma_nil))) (me_slice (me_var (pv 0)) (mo_some (me_bin op_addM opm_add (me_var (pv 1)) me_int)) mo_none))))
abbrev st__law_more : Stmt := top 56
theorem sc__law_more : FnScope ["state", "parts", "part", "at"] ["state", "parts", "part"] (defScope st__law_more) := ⟨rfl, rfl, rfl, by decide +kernel, rfl, by decide +kernel, by decide +kernel⟩
/-- names: 0 state, 1 parts, 2 part, 3 at -/
noncomputable def r__law_more (d__law_draw : List D → M Rv) : MP.Env → M Fl :=
  (sSeq (sSet 3 (eCall (lenD 2 d__law_draw) (aCons (eVar 0) (aCons (eBin gAdd (aThen (g1 gLen) (aCons (eVar 1) aNil)) (eC (.int 1))) aNil))))
  (sRet (eBin gAdd (eBin gAdd (eSl (eVar 1) oNone (oSome (eVar 3))) (aThen gTup (aCons (eVar 2) aNil))) (eSl (eVar 1) (oSome (eVar 3)) oNone))))
noncomputable def den__law_more (d__law_draw : List D → M Rv) : List D → M Rv := fun ds => noX (runB 4 (r__law_more d__law_draw) ds)
theorem mp__law_more {k : Nat} {f : Addr} {fd : FuncData} (F : Fun K "_law_more" "_law_more" st__law_more f fd) {f__law_draw : Addr} {e__law_draw : FuncData} {d__law_draw : List D → M Rv} (T__law_draw : FnI K mg "_law_draw" st__law_draw f__law_draw e__law_draw ["state", "most"]) (F__law_draw : FnOk P w K mg base CX0 k f__law_draw e__law_draw ["state", "most"] (sp K mg 2 d__law_draw)) (z_len : mg "len" = none) : FnOk P w K mg base CX0 (k + 1) f fd ["state", "parts", "part"] (sp K mg 3 (den__law_more d__law_draw)) :=
  have sc := sc__law_more
  fn_mp (N := ["state", "parts", "part", "at"]) (r := r__law_more d__law_draw) F sc__law_more rfl fun cdv A outer s H E hr =>
  have hu := hr.units
  have hu1 := units1 hr
  (mss_cons (ms_set (i := 3) sc.nd rfl (by first | exact Or.inl rfl | exact Or.inr rfl) (me_callF T__law_draw F__law_draw hr rfl (ma_cons (me_var (pv 0)) (ma_cons (me_bin op_addM opm_add (me_callB call_lenM callM_len rfl z_len PySem.boot_len (ma_cons (me_var (pv 1)) ma_nil)) me_int) ma_nil)) rfl))
  (mss_one (ms_ret (me_bin op_addM opm_add (me_bin op_addM opm_add (me_slice (me_var (pv 1)) mo_none (mo_some (me_var (pv 3)))) (me_tup (ma_cons (me_var (pv 2)) ma_nil))) (me_slice (me_var (pv 1)) (mo_some (me_var (pv 3))) mo_none)))))
abbrev st__law_other_forms : Stmt := top 57
theorem sc__law_other_forms : FnScope ["state", "p", "q", "one", "names", "found", "mark", "r", "x", "name"] ["state", "p", "q"] (defScope st__law_other_forms) := ⟨rfl, rfl, rfl, by decide +kernel, rfl, by decide +kernel, by decide +kernel⟩
/-- names: 0 state, 1 p, 2 q, 3 one, 4 names, 5 found, 6 mark, 7 r, 8 x, 9 name -/
noncomputable def r__law_other_forms (d__law_one_of : List D → M Rv) (d__law_input_names : List D → M Rv) (d__law_key : List D → M Rv) (d__law_shuffled : List D → M Rv) : MP.Env → M Fl :=
  (sSeq (sSet 3 (eCall (lenD 2 d__law_one_of) (aCons (eVar 0) (aCons (eBin gAdd (eCall (lenD 2 d__law_input_names) (aCons (eC (.str "l.")) (aCons (eVar 1) aNil))) (eCall (lenD 2 d__law_input_names) (aCons (eC (.str "r.")) (aCons (eVar 2) aNil)))) aNil))))
  (sSeq (sSet 4 (eFl (aList (aCons (eC (.str "l..count")) (aCons (eC (.str "r..count")) (aCons (eC (.str "l..result")) (aCons (eC (.str "r..result")) (aCons (eC (.str "l..result.x")) (aCons (eC (.str "r..result.y")) (aCons (eC (.str "l.?1")) (aCons (eC (.str "r.!1")) (aCons (eC (.str "l.?c")) aNil))))))))))))
  (sSeq (sFor (eWalk (eFl (aList (aCons (aThen gTup (aCons (eC (.str "l.")) (aCons (eVar 1) aNil))) (aCons (aThen gTup (aCons (eC (.str "r.")) (aCons (eVar 2) aNil))) (aCons (aThen gTup (aCons (eC (.str "l.")) (aCons (eVar 2) aNil))) (aCons (aThen gTup (aCons (eC (.str "r.")) (aCons (eVar 1) aNil))) aNil))))))) (asgT 2 (asgCons (asgN 6) (asgCons (asgN 7) asgNil)))
  (sSeq (sSet 8 (eCall (lenD 2 d__law_one_of) (aCons (eVar 0) (aCons (eBin gAdd (eBin gIx (eVar 7) (eC (.int 1))) (eBin gIx (eVar 7) (eC (.int 3)))) aNil))))
  (sSeq (sSet 4 (eBin gAdd (eVar 4) (eFl (aList (aCons (eBin gAdd (eVar 6) (eCall (lenD 1 d__law_key) (aCons (eVar 8) aNil))) (aCons (eBin gAdd (eBin gAdd (eVar 6) (eC (.str "@"))) (eCall (lenD 1 d__law_key) (aCons (eVar 8) aNil))) (aCons (eBin gAdd (eBin gAdd (eVar 6) (eC (.str ".#"))) (eBin gIx (eVar 8) (eC (.int 1)))) (aCons (eBin gAdd (eBin gAdd (eVar 6) (eC (.str "@#"))) (eBin gIx (eVar 8) (eC (.int 1)))) aNil))))))))
  (sSet 4 (eBin gAdd (eVar 4) (eFl (aList (aCons (eBin gAdd (eC (.str "@")) (eCall (lenD 1 d__law_key) (aCons (eVar 8) aNil))) (aCons (eBin gAdd (eBin gAdd (eVar 6) (eC (.str "."))) (eBin gIx (eVar 8) (eC (.int 1)))) (aCons (eVar 6) aNil))))))))) [6, 7, 8])
  (sSeq (sSet 5 (eFl (fComp (eWalk (eSl (eCall (lenD 2 d__law_shuffled) (aCons (eVar 0) (aCons (eVar 4) aNil))) oNone (oSome (eC (.int 14))))) (asgN 9) tYesM (aThen gTup (aCons (eC (.int 0)) (aCons (aThen gTup (aCons (aThen gTup (aCons (eVar 9) (aCons (eC (.int 1)) aNil))) aNil)) aNil))) [9])))
  (sSeq (sSet 5 (eBin gAdd (eVar 5) (eFl (aList (aCons (aThen gTup (aCons (eC (.int 3)) (aCons (aThen gTup (aCons (aThen gTup (aCons (eVar 3) (aCons (eC (.int 0)) aNil))) aNil)) aNil))) (aCons (aThen gTup (aCons (eC (.int 0)) (aCons (aThen gTup (aCons (aThen gTup (aCons (eVar 3) (aCons (eC (.int 1)) aNil))) (aCons (aThen gTup (aCons (eVar 3) (aCons (eC (.int 2)) aNil))) aNil))) aNil))) (aCons (aThen gTup (aCons (eC (.str "0")) (aCons (aThen gTup (aCons (aThen gTup (aCons (eVar 3) (aCons (eC (.int 1)) aNil))) aNil)) aNil))) (aCons (aThen gTup (aCons (eC (.int 0)) (aCons (aThen gTup (aCons (aThen gTup (aCons (eVar 3) (aCons (eC (.int 1)) aNil))) aNil)) (aCons (eC (.int 0)) aNil)))) aNil))))))))
  (sRet (eBin gAdd (eVar 5) (eFl (aList (aCons (aThen gTup (aCons (eC (.int 0)) (aCons (aThen gTup (aCons (eVar 3) (aCons (eC (.int 1)) aNil))) aNil))) (aCons (aThen gTup (aCons (eC (.int 0)) (aCons (aThen gTup (aCons (aThen gTup (aCons (eVar 3) (aCons (eC (.str "1")) aNil))) aNil)) aNil))) (aCons (aThen gTup (aCons (eC (.int 0)) (aCons (aThen gTup (aCons (aThen gTup (aCons (eVar 3) aNil)) aNil)) aNil))) (aCons (aThen gTup (aCons (eC (.int 1)) aNil)) (aCons (eC (.int 0)) (aCons (eC (.str "")) (aCons (aThen gTup aNil) (aCons (aThen gTup (aCons (eC (.int 0)) (aCons (eC (.int 0)) aNil))) (aCons (eVar 3) (aCons (aThen gTup (aCons (eC (.int 2)) (aCons (aThen gTup aNil) aNil))) aNil)))))))))))))))))))
noncomputable def den__law_other_forms (d__law_one_of : List D → M Rv) (d__law_input_names : List D → M Rv) (d__law_key : List D → M Rv) (d__law_shuffled : List D → M Rv) : List D → M Rv := fun ds => noX (runB 10 (r__law_other_forms d__law_one_of d__law_input_names d__law_key d__law_shuffled) ds)
theorem mp__law_other_forms {k : Nat} {f : Addr} {fd : FuncData} (F : Fun K "_law_other_forms" "_law_other_forms" st__law_other_forms f fd) {f__law_one_of : Addr} {e__law_one_of : FuncData} {f__law_input_names : Addr} {e__law_input_names : FuncData} {f__law_key : Addr} {e__law_key : FuncData} {f__law_shuffled : Addr} {e__law_shuffled : FuncData} {d__law_one_of : List D → M Rv} {d__law_input_names : List D → M Rv} {d__law_key : List D → M Rv} {d__law_shuffled : List D → M Rv} (T__law_one_of : FnI K mg "_law_one_of" st__law_one_of f__law_one_of e__law_one_of ["state", "items"]) (F__law_one_of : FnOk P w K mg base CX0 k f__law_one_of e__law_one_of ["state", "items"] (sp K mg 2 d__law_one_of)) (T__law_input_names : FnI K mg "_law_input_names" st__law_input_names f__law_input_names e__law_input_names ["mark", "p"]) (F__law_input_names : FnOk P w K mg base CX0 k f__law_input_names e__law_input_names ["mark", "p"] (sp K mg 2 d__law_input_names)) (T__law_key : FnI K mg "_law_key" st__law_key f__law_key e__law_key ["item"]) (F__law_key : FnOk P w K mg base CX0 k f__law_key e__law_key ["item"] (sp K mg 1 d__law_key)) (T__law_shuffled : FnI K mg "_law_shuffled" st__law_shuffled f__law_shuffled e__law_shuffled ["state", "items"]) (F__law_shuffled : FnOk P w K mg base CX0 k f__law_shuffled e__law_shuffled ["state", "items"] (sp K mg 2 d__law_shuffled)) : FnOk P w K mg base CX0 (k + 1) f fd ["state", "p", "q"] (sp K mg 3 (den__law_other_forms d__law_one_of d__law_input_names d__law_key d__law_shuffled)) :=
  have sc := sc__law_other_forms
  fn_mp (N := ["state", "p", "q", "one", "names", "found", "mark", "r", "x", "name"]) (r := r__law_other_forms d__law_one_of d__law_input_names d__law_key d__law_shuffled) F sc__law_other_forms rfl fun cdv A outer s H E hr =>
  have hu := hr.units
  have hu1 := units1 hr
  (mss_cons (ms_set (i := 3) sc.nd rfl (by first | exact Or.inl rfl | exact Or.inr rfl) (me_callF T__law_one_of F__law_one_of hr rfl (ma_cons (me_var (pv 0)) (ma_cons (me_bin op_addM opm_add (me_callF T__law_input_names F__law_input_names hr rfl (ma_cons me_str (ma_cons (me_var (pv 1)) ma_nil)) rfl) (me_callF T__law_input_names F__law_input_names hr rfl (ma_cons me_str (ma_cons (me_var (pv 2)) ma_nil)) rfl)) ma_nil)) rfl))
  (mss_cons (ms_set (i := 4) sc.nd rfl (by first | exact Or.inl rfl | exact Or.inr rfl) (me_fl (mf_lst (ma_cons me_str (ma_cons me_str (ma_cons me_str (ma_cons me_str (ma_cons me_str (ma_cons me_str (ma_cons me_str (ma_cons me_str (ma_cons me_str ma_nil))))))))))))
  (mss_cons (ms_for (fg := [6, 7, 8]) PassesOwn.never rfl (mi_seq (me_fl (mf_lst (ma_cons (me_tup (ma_cons me_str (ma_cons (me_var (pv 1)) ma_nil))) (ma_cons (me_tup (ma_cons me_str (ma_cons (me_var (pv 2)) ma_nil))) (ma_cons (me_tup (ma_cons me_str (ma_cons (me_var (pv 2)) ma_nil))) (ma_cons (me_tup (ma_cons me_str (ma_cons (me_var (pv 1)) ma_nil))) ma_nil))))))) (mg_tup rfl (mgs_cons (mg_of (pg_name (i := 6) sc.nd rfl (by first | exact Or.inl rfl | exact Or.inr rfl))) (mgs_cons (mg_of (pg_name (i := 7) sc.nd rfl (by first | exact Or.inl rfl | exact Or.inr rfl))) mgs_nil)))
  (mss_cons (ms_set (i := 8) sc.nd rfl (by first | exact Or.inl rfl | exact Or.inr rfl) (me_callF T__law_one_of F__law_one_of hr rfl (ma_cons (me_var (pv 0)) (ma_cons (me_bin op_addM opm_add (me_ix (me_var (pv 7)) me_int) (me_ix (me_var (pv 7)) me_int)) ma_nil)) rfl))
  (mss_cons (ms_set (i := 4) sc.nd rfl (by first | exact Or.inl rfl | exact Or.inr rfl) (me_bin op_addM opm_add (me_var (pv 4)) (me_fl (mf_lst (ma_cons (me_bin op_addM opm_add (me_var (pv 6)) (me_callF T__law_key F__law_key hr rfl (ma_cons (me_var (pv 8)) ma_nil) rfl)) (ma_cons (me_bin op_addM opm_add (me_bin op_addM opm_add (me_var (pv 6)) me_str) (me_callF T__law_key F__law_key hr rfl (ma_cons (me_var (pv 8)) ma_nil) rfl)) (ma_cons (me_bin op_addM opm_add (me_bin op_addM opm_add (me_var (pv 6)) me_str) (me_ix (me_var (pv 8)) me_int)) (ma_cons (me_bin op_addM opm_add (me_bin op_addM opm_add (me_var (pv 6)) me_str) (me_ix (me_var (pv 8)) me_int)) ma_nil))))))))
  (mss_one (ms_set (i := 4) sc.nd rfl (by first | exact Or.inl rfl | exact Or.inr rfl) (me_bin op_addM opm_add (me_var (pv 4)) (me_fl (mf_lst (ma_cons (me_bin op_addM opm_add me_str (me_callF T__law_key F__law_key hr rfl (ma_cons (me_var (pv 8)) ma_nil) rfl)) (ma_cons (me_bin op_addM opm_add (me_bin op_addM opm_add (me_var (pv 6)) me_str) (me_ix (me_var (pv 8)) me_int)) (ma_cons (me_var (pv 6)) ma_nil)))))))))))
  (mss_cons (ms_setC (i := 5) rfl sc.nd rfl rfl (sw_true rfl rfl (by decide +kernel) (by decide +kernel)) (mi_seq (me_slice (me_callF T__law_shuffled F__law_shuffled hr rfl (ma_cons (me_var (pv 0)) (ma_cons (me_var (pv 4)) ma_nil)) rfl) mo_none (mo_some me_int))) (own := [("name", 9)]) (blkOk_by (N := ["state", "p", "q", "one", "names", "found", "mark", "r", "x", "name"]) (sc := defScope st__law_other_forms) (by decide +kernel)) (by decide) (fun s H C cl fp => (mg_of (pg_name (i := 9) sc.nd rfl (by first | exact Or.inl rfl | exact Or.inr rfl)))) (fun s H C cl fp => mts_nil) (fun s H C cl fp => (me_tup (ma_cons me_int (ma_cons (me_tup (ma_cons (me_tup (ma_cons (me_var (pv 9)) (ma_cons me_int ma_nil))) ma_nil)) ma_nil)))) fl_go)
  (mss_cons (ms_set (i := 5) sc.nd rfl (by first | exact Or.inl rfl | exact Or.inr rfl) (me_bin op_addM opm_add (me_var (pv 5)) (me_fl (mf_lst (ma_cons (me_tup (ma_cons me_int (ma_cons (me_tup (ma_cons (me_tup (ma_cons (me_var (pv 3)) (ma_cons me_int ma_nil))) ma_nil)) ma_nil))) (ma_cons (me_tup (ma_cons me_int (ma_cons (me_tup (ma_cons (me_tup (ma_cons (me_var (pv 3)) (ma_cons me_int ma_nil))) (ma_cons (me_tup (ma_cons (me_var (pv 3)) (ma_cons me_int ma_nil))) ma_nil))) ma_nil))) (ma_cons (me_tup (ma_cons me_str (ma_cons (me_tup (ma_cons (me_tup (ma_cons (me_var (pv 3)) (ma_cons me_int ma_nil))) ma_nil)) ma_nil))) (ma_cons (me_tup (ma_cons me_int (ma_cons (me_tup (ma_cons (me_tup (ma_cons (me_var (pv 3)) (ma_cons me_int ma_nil))) ma_nil)) (ma_cons me_int ma_nil)))) ma_nil))))))))
  (mss_one (ms_ret (me_bin op_addM opm_add (me_var (pv 5)) (me_fl (mf_lst (ma_cons (me_tup (ma_cons me_int (ma_cons (me_tup (ma_cons (me_var (pv 3)) (ma_cons me_int ma_nil))) ma_nil))) (ma_cons (me_tup (ma_cons me_int (ma_cons (me_tup (ma_cons (me_tup (ma_cons (me_var (pv 3)) (ma_cons me_str ma_nil))) ma_nil)) ma_nil))) (ma_cons (me_tup (ma_cons me_int (ma_cons (me_tup (ma_cons (me_tup (ma_cons (me_var (pv 3)) ma_nil)) ma_nil)) ma_nil))) (ma_cons (me_tup (ma_cons me_int ma_nil)) (ma_cons me_int (ma_cons me_str (ma_cons (me_tup ma_nil) (ma_cons (me_tup (ma_cons me_int (ma_cons me_int ma_nil))) (ma_cons (me_var (pv 3)) (ma_cons (me_tup (ma_cons me_int (ma_cons (me_tup ma_nil) ma_nil))) ma_nil))))))))))))))))))))
abbrev st__law_other_pairs : Stmt := top 58
theorem sc__law_other_pairs : FnScope ["state", "p", "q", "found", "x", "one", "y"] ["state", "p", "q"] (defScope st__law_other_pairs) := ⟨rfl, rfl, rfl, by decide +kernel, rfl, by decide +kernel, by decide +kernel⟩
/-- names: 0 state, 1 p, 2 q, 3 found, 4 x, 5 one, 6 y -/
noncomputable def r__law_other_pairs (d__law_one_of : List D → M Rv) (d__law_shuffled : List D → M Rv) : MP.Env → M Fl :=
  (sSeq (sSet 3 (eFl (aList aNil)))
  (sSeq (sFor (eWalk (eCall (lenD 2 d__law_one_of) (aCons (eVar 0) (aCons (eFl (aList (aCons (eBin gIx (eVar 1) (eC (.int 1))) (aCons (eBin gIx (eVar 1) (eC (.int 3))) aNil)))) aNil)))) (asgN 4)
  (sSet 3 (eBin gAdd (eVar 3) (eFl (fComp (eWalk (eBin gAdd (eBin gIx (eVar 2) (eC (.int 1))) (eBin gIx (eVar 2) (eC (.int 3))))) (asgN 6) tYesM (aThen gTup (aCons (eBin gIx (eVar 4) (eC (.int 1))) (aCons (eBin gIx (eVar 6) (eC (.int 1))) aNil))) [6])))) [4])
  (sSeq (sSet 3 (eSl (eCall (lenD 2 d__law_shuffled) (aCons (eVar 0) (aCons (eBin gAdd (eVar 3) (eFl (fComp (eWalk (eBin gIx (eVar 2) (eC (.int 1)))) (asgN 6) tYesM (aThen gTup (aCons (eBin gIx (eVar 6) (eC (.int 1))) (aCons (eBin gIx (eBin gIx (eBin gIx (eVar 1) (eC (.int 1))) (eC (.int 0))) (eC (.int 1))) aNil))) [6]))) aNil))) oNone (oSome (eC (.int 7)))))
  (sSeq (sSet 5 (eBin gIx (eVar 3) (eC (.int 0))))
  (sRet (eBin gAdd (eVar 3) (eFl (aList (aCons (eSl (eVar 5) oNone (oSome (eC (.int 1)))) (aCons (eBin gAdd (eVar 5) (eSl (eVar 5) oNone (oSome (eC (.int 1))))) (aCons (eBin gIx (eVar 5) (eC (.int 0))) (aCons (eC (.int 0)) (aCons (aThen gTup aNil) (aCons (aThen gTup (aCons (eBin gIx (eVar 5) (eC (.int 0))) (aCons (eC (.int 0)) aNil))) aNil))))))))))))))
noncomputable def den__law_other_pairs (d__law_one_of : List D → M Rv) (d__law_shuffled : List D → M Rv) : List D → M Rv := fun ds => noX (runB 7 (r__law_other_pairs d__law_one_of d__law_shuffled) ds)
theorem mp__law_other_pairs {k : Nat} {f : Addr} {fd : FuncData} (F : Fun K "_law_other_pairs" "_law_other_pairs" st__law_other_pairs f fd) {f__law_one_of : Addr} {e__law_one_of : FuncData} {f__law_shuffled : Addr} {e__law_shuffled : FuncData} {d__law_one_of : List D → M Rv} {d__law_shuffled : List D → M Rv} (T__law_one_of : FnI K mg "_law_one_of" st__law_one_of f__law_one_of e__law_one_of ["state", "items"]) (F__law_one_of : FnOk P w K mg base CX0 k f__law_one_of e__law_one_of ["state", "items"] (sp K mg 2 d__law_one_of)) (T__law_shuffled : FnI K mg "_law_shuffled" st__law_shuffled f__law_shuffled e__law_shuffled ["state", "items"]) (F__law_shuffled : FnOk P w K mg base CX0 k f__law_shuffled e__law_shuffled ["state", "items"] (sp K mg 2 d__law_shuffled)) : FnOk P w K mg base CX0 (k + 1) f fd ["state", "p", "q"] (sp K mg 3 (den__law_other_pairs d__law_one_of d__law_shuffled)) :=
  have sc := sc__law_other_pairs
  fn_mp (N := ["state", "p", "q", "found", "x", "one", "y"]) (r := r__law_other_pairs d__law_one_of d__law_shuffled) F sc__law_other_pairs rfl fun cdv A outer s H E hr =>
  have hu := hr.units
  have hu1 := units1 hr
  (mss_cons (ms_set (i := 3) sc.nd rfl (by first | exact Or.inl rfl | exact Or.inr rfl) (me_fl (mf_lst ma_nil)))
  (mss_cons (ms_for (fg := [4]) PassesOwn.never rfl (mi_seq (me_callF T__law_one_of F__law_one_of hr rfl (ma_cons (me_var (pv 0)) (ma_cons (me_fl (mf_lst (ma_cons (me_ix (me_var (pv 1)) me_int) (ma_cons (me_ix (me_var (pv 1)) me_int) ma_nil)))) ma_nil)) rfl)) (mg_of (pg_name (i := 4) sc.nd rfl (by first | exact Or.inl rfl | exact Or.inr rfl)))
  (mss_one (ms_set (i := 3) sc.nd rfl (by first | exact Or.inl rfl | exact Or.inr rfl) (me_bin op_addM opm_add (me_var (pv 3)) (me_fl (mf_comp rfl sc.nd (mi_seq (me_bin op_addM opm_add (me_ix (me_var (pv 2)) me_int) (me_ix (me_var (pv 2)) me_int))) (own := [("y", 6)]) (blkOk_by (N := ["state", "p", "q", "found", "x", "one", "y"]) (sc := defScope st__law_other_pairs) (by decide +kernel)) (by decide) (fun s H C cl fp => (mg_of (pg_name (i := 6) sc.nd rfl (by first | exact Or.inl rfl | exact Or.inr rfl)))) (fun s H C cl fp => mts_nil) (fun s H C cl fp => (me_tup (ma_cons (me_ix (me_var (pv 4)) me_int) (ma_cons (me_ix (me_var (pv 6)) me_int) ma_nil))))))))))
  (mss_cons (ms_set (i := 3) sc.nd rfl (by first | exact Or.inl rfl | exact Or.inr rfl) (me_slice (me_callF T__law_shuffled F__law_shuffled hr rfl (ma_cons (me_var (pv 0)) (ma_cons (me_bin op_addM opm_add (me_var (pv 3)) (me_fl (mf_comp rfl sc.nd (mi_seq (me_ix (me_var (pv 2)) me_int)) (own := [("y", 6)]) (blkOk_by (N := ["state", "p", "q", "found", "x", "one", "y"]) (sc := defScope st__law_other_pairs) (by decide +kernel)) (by decide) (fun s H C cl fp => (mg_of (pg_name (i := 6) sc.nd rfl (by first | exact Or.inl rfl | exact Or.inr rfl)))) (fun s H C cl fp => mts_nil) (fun s H C cl fp => (me_tup (ma_cons (me_ix (me_var (pv 6)) me_int) (ma_cons (me_ix (me_ix (me_ix (me_var (pv 1)) me_int) me_int) me_int) ma_nil))))))) ma_nil)) rfl) mo_none (mo_some me_int)))
  (mss_cons (ms_set (i := 5) sc.nd rfl (by first | exact Or.inl rfl | exact Or.inr rfl) (me_ix (me_var (pv 3)) me_int))
  (mss_one (ms_ret (me_bin op_addM opm_add (me_var (pv 3)) (me_fl (mf_lst (ma_cons (me_slice (me_var (pv 5)) mo_none (mo_some me_int)) (ma_cons (me_bin op_addM opm_add (me_var (pv 5)) (me_slice (me_var (pv 5)) mo_none (mo_some me_int))) (ma_cons (me_ix (me_var (pv 5)) me_int) (ma_cons me_int (ma_cons (me_tup ma_nil) (ma_cons (me_tup (ma_cons (me_ix (me_var (pv 5)) me_int) (ma_cons me_int ma_nil))) ma_nil)))))))))))))))
abbrev st__law_data : Stmt := top 59
theorem sc__law_data : FnScope ["state", "left", "right", "claim", "p", "q", "found", "names", "k", "f", "pair"] ["state", "left", "right", "claim"] (defScope st__law_data) := ⟨rfl, rfl, rfl, by decide +kernel, rfl, by decide +kernel, by decide +kernel⟩
/-- names: 0 state, 1 left, 2 right, 3 claim, 4 p, 5 q, 6 found, 7 names, 8 k, 9 f, 10 pair -/
noncomputable def r__law_data (d__law_named : List D → M Rv) (d__law_one_of : List D → M Rv) (d__law_with : List D → M Rv) (d__law_other_forms : List D → M Rv) (d__law_draw : List D → M Rv) (d__law_more : List D → M Rv) (d__law_other_pairs : List D → M Rv) : MP.Env → M Fl :=
  (sSeq (sSet 4 (eCall (lenD 2 d__law_named) (aCons (eVar 1) (aCons (eBin gIx (eVar 3) (eC (.int 0))) aNil))))
  (sSeq (sSet 5 (eCall (lenD 2 d__law_named) (aCons (eVar 2) (aCons (eBin gIx (eVar 3) (eC (.int 1))) aNil))))
  (sSeq (sSet 6 (eNew (aList (aCons (eSl (eVar 3) oNone (oSome (eC (.int 5)))) (aCons (eBin gAdd (eVar 3) (aThen gTup (aCons (aThen gTup aNil) aNil))) (aCons (eSl (eVar 3) (oSome (eC (.int 1))) oNone) (aCons (aThen gTup aNil) (aCons (eC (.int 0)) (aCons (eBin gIx (eVar 3) (eC (.int 0))) (aCons (eSl (eVar 3) oNone (oSome (eC (.int 2)))) aNil))))))))))
  (sSeq (sSet 7 (eFl (aList (aCons (eBin gAdd (eBin gIx (eVar 3) (eC (.int 0))) (eC (.str "a"))) (aCons (eC (.str "")) (aCons (eC (.int 3)) (aCons (aThen gTup (aCons (eBin gIx (eVar 3) (eC (.int 0))) aNil)) (aCons (eBin gIx (eVar 3) (eC (.int 1))) (aCons (eBin gIx (eVar 3) (eC (.int 0))) aNil)))))))))
  (sSeq (sSet 7 (eBin gAdd (eVar 7) (eFl (aList (aCons (eBin gIx (eCall (lenD 2 d__law_one_of) (aCons (eVar 0) (aCons (eVar 1) aNil))) (eC (.int 0))) (aCons (eBin gIx (eCall (lenD 2 d__law_one_of) (aCons (eVar 0) (aCons (eVar 2) aNil))) (eC (.int 0))) aNil))))))
  (sSeq (sFor (wThen wRng1 (aCons (eC (.int 2)) aNil)) (asgN 8)
  (sSeq (sExpr (eMeth lstK gAppend (eVar 6) (aCons (eCall (lenD 3 d__law_with) (aCons (eVar 3) (aCons (eVar 8) (aCons (eCall (lenD 2 d__law_one_of) (aCons (eVar 0) (aCons (eVar 7) aNil))) aNil)))) aNil)))
  (sExpr (eMeth lstK gAppend (eVar 6) (aCons (eCall (lenD 3 d__law_with) (aCons (eVar 3) (aCons (eVar 8) (aCons (eCall (lenD 2 d__law_one_of) (aCons (eVar 0) (aCons (eVar 7) aNil))) aNil)))) aNil)))) [])
  (sSeq (sFor (eWalk (eCall (lenD 3 d__law_other_forms) (aCons (eVar 0) (aCons (eVar 4) (aCons (eVar 5) aNil))))) (asgN 9)
  (sSeq (sSet 8 (eBin gIx (eFl (aList (aCons (eC (.int 2)) (aCons (eC (.int 4)) aNil)))) (eCall (lenD 2 d__law_draw) (aCons (eVar 0) (aCons (eC (.int 2)) aNil)))))
  (sExpr (eMeth lstK gAppend (eVar 6) (aCons (eCall (lenD 3 d__law_with) (aCons (eVar 3) (aCons (eVar 8) (aCons (eCall (lenD 3 d__law_more) (aCons (eVar 0) (aCons (eBin gIx (eVar 3) (eVar 8)) (aCons (eVar 9) aNil)))) aNil)))) aNil)))) [9])
  (sSeq (sFor (eWalk (eCall (lenD 3 d__law_other_pairs) (aCons (eVar 0) (aCons (eVar 4) (aCons (eVar 5) aNil))))) (asgN 10)
  (sSeq (sSet 8 (eBin gIx (eFl (aList (aCons (eC (.int 3)) (aCons (eC (.int 5)) aNil)))) (eCall (lenD 2 d__law_draw) (aCons (eVar 0) (aCons (eC (.int 2)) aNil)))))
  (sExpr (eMeth lstK gAppend (eVar 6) (aCons (eCall (lenD 3 d__law_with) (aCons (eVar 3) (aCons (eVar 8) (aCons (eCall (lenD 3 d__law_more) (aCons (eVar 0) (aCons (eBin gIx (eVar 3) (eVar 8)) (aCons (eVar 10) aNil)))) aNil)))) aNil)))) [10])
  (sSeq (sFor (wThen wRng1 (aCons (eC (.int 4)) aNil)) (asgN 8)
  (sSeq (sExpr (eMeth lstK gAppend (eVar 6) (aCons (eCall (lenD 3 d__law_with) (aCons (eVar 3) (aCons (eBin gAdd (eVar 8) (eC (.int 2))) (aCons (eCall (lenD 2 d__law_one_of) (aCons (eVar 0) (aCons (eFl (aList (aCons (eC (.int 0)) (aCons (eC (.str "")) (aCons (eBin gIx (eVar 3) (eC (.int 0))) (aCons (aThen gTup (aCons (eC (.int 0)) aNil)) (aCons (aThen gTup aNil) (aCons (aThen gTup (aCons (eC (.str "")) aNil)) (aCons (aThen gTup (aCons (aThen gTup aNil) aNil)) aNil))))))))) aNil))) aNil)))) aNil)))
  (sExpr (eMeth lstK gAppend (eVar 6) (aCons (eCall (lenD 3 d__law_with) (aCons (eVar 3) (aCons (eBin gAdd (eVar 8) (eC (.int 2))) (aCons (eBin gAdd (eBin gIx (eVar 3) (eBin gAdd (eVar 8) (eC (.int 2)))) (eSl (eBin gIx (eVar 3) (eBin gAdd (eVar 8) (eC (.int 2)))) oNone (oSome (eC (.int 1))))) aNil)))) aNil)))) [])
  (sSeq (sSet 6 (eNew (fCat (eVar 6) (eFl (aList (aCons (eCall (lenD 3 d__law_with) (aCons (eVar 3) (aCons (eC (.int 4)) (aCons (eBin gIx (eVar 3) (eC (.int 2))) aNil)))) (aCons (eCall (lenD 3 d__law_with) (aCons (eVar 3) (aCons (eC (.int 2)) (aCons (eBin gIx (eVar 3) (eC (.int 4))) aNil)))) (aCons (eCall (lenD 3 d__law_with) (aCons (eVar 3) (aCons (eC (.int 3)) (aCons (eBin gIx (eVar 3) (eC (.int 5))) aNil)))) aNil))))))))
  (sRet (eBin gAdd (eVar 6) (eFl (aList (aCons (eCall (lenD 3 d__law_with) (aCons (eVar 3) (aCons (eC (.int 5)) (aCons (eBin gIx (eVar 3) (eC (.int 3))) aNil)))) (aCons (eBin gAdd (aThen gTup (aCons (eBin gIx (eVar 3) (eC (.int 1))) (aCons (eBin gIx (eVar 3) (eC (.int 0))) aNil))) (eSl (eVar 3) (oSome (eC (.int 2))) oNone)) (aCons (eVar 3) aNil)))))))))))))))))
noncomputable def den__law_data (d__law_named : List D → M Rv) (d__law_one_of : List D → M Rv) (d__law_with : List D → M Rv) (d__law_other_forms : List D → M Rv) (d__law_draw : List D → M Rv) (d__law_more : List D → M Rv) (d__law_other_pairs : List D → M Rv) : List D → M Rv := fun ds => noX (runB 11 (r__law_data d__law_named d__law_one_of d__law_with d__law_other_forms d__law_draw d__law_more d__law_other_pairs) ds)
theorem mp__law_data {k : Nat} {f : Addr} {fd : FuncData} (F : Fun K "_law_data" "_law_data" st__law_data f fd) {f__law_named : Addr} {e__law_named : FuncData} {f__law_one_of : Addr} {e__law_one_of : FuncData} {f__law_with : Addr} {e__law_with : FuncData} {f__law_other_forms : Addr} {e__law_other_forms : FuncData} {f__law_draw : Addr} {e__law_draw : FuncData} {f__law_more : Addr} {e__law_more : FuncData} {f__law_other_pairs : Addr} {e__law_other_pairs : FuncData} {d__law_named : List D → M Rv} {d__law_one_of : List D → M Rv} {d__law_with : List D → M Rv} {d__law_other_forms : List D → M Rv} {d__law_draw : List D → M Rv} {d__law_more : List D → M Rv} {d__law_other_pairs : List D → M Rv} (T__law_named : FnI K mg "_law_named" st__law_named f__law_named e__law_named ["core", "name"]) (F__law_named : FnOk P w K mg base CX0 k f__law_named e__law_named ["core", "name"] (sp K mg 2 d__law_named)) (T__law_one_of : FnI K mg "_law_one_of" st__law_one_of f__law_one_of e__law_one_of ["state", "items"]) (F__law_one_of : FnOk P w K mg base CX0 k f__law_one_of e__law_one_of ["state", "items"] (sp K mg 2 d__law_one_of)) (T__law_with : FnI K mg "_law_with" st__law_with f__law_with e__law_with ["claim", "k", "part"]) (F__law_with : FnOk P w K mg base CX0 k f__law_with e__law_with ["claim", "k", "part"] (sp K mg 3 d__law_with)) (T__law_other_forms : FnI K mg "_law_other_forms" st__law_other_forms f__law_other_forms e__law_other_forms ["state", "p", "q"]) (F__law_other_forms : FnOk P w K mg base CX0 k f__law_other_forms e__law_other_forms ["state", "p", "q"] (sp K mg 3 d__law_other_forms)) (T__law_draw : FnI K mg "_law_draw" st__law_draw f__law_draw e__law_draw ["state", "most"]) (F__law_draw : FnOk P w K mg base CX0 k f__law_draw e__law_draw ["state", "most"] (sp K mg 2 d__law_draw)) (T__law_more : FnI K mg "_law_more" st__law_more f__law_more e__law_more ["state", "parts", "part"]) (F__law_more : FnOk P w K mg base CX0 k f__law_more e__law_more ["state", "parts", "part"] (sp K mg 3 d__law_more)) (T__law_other_pairs : FnI K mg "_law_other_pairs" st__law_other_pairs f__law_other_pairs e__law_other_pairs ["state", "p", "q"]) (F__law_other_pairs : FnOk P w K mg base CX0 k f__law_other_pairs e__law_other_pairs ["state", "p", "q"] (sp K mg 3 d__law_other_pairs)) (z_range : mg "range" = none) : FnOk P w K mg base CX0 (k + 1) f fd ["state", "left", "right", "claim"] (sp K mg 4 (den__law_data d__law_named d__law_one_of d__law_with d__law_other_forms d__law_draw d__law_more d__law_other_pairs)) :=
  have sc := sc__law_data
  fn_mp (N := ["state", "left", "right", "claim", "p", "q", "found", "names", "k", "f", "pair"]) (r := r__law_data d__law_named d__law_one_of d__law_with d__law_other_forms d__law_draw d__law_more d__law_other_pairs) F sc__law_data rfl fun cdv A outer s H E hr =>
  have hu := hr.units
  have hu1 := units1 hr
  (mss_cons (ms_set (i := 4) sc.nd rfl (by first | exact Or.inl rfl | exact Or.inr rfl) (me_callF T__law_named F__law_named hr rfl (ma_cons (me_var (pv 1)) (ma_cons (me_ix (me_var (pv 3)) me_int) ma_nil)) rfl))
  (mss_cons (ms_set (i := 5) sc.nd rfl (by first | exact Or.inl rfl | exact Or.inr rfl) (me_callF T__law_named F__law_named hr rfl (ma_cons (me_var (pv 2)) (ma_cons (me_ix (me_var (pv 3)) me_int) ma_nil)) rfl))
  (mss_cons (ms_set (i := 6) sc.nd rfl (by first | exact Or.inl rfl | exact Or.inr rfl) (me_new (mf_lst (ma_cons (me_slice (me_var (pv 3)) mo_none (mo_some me_int)) (ma_cons (me_bin op_addM opm_add (me_var (pv 3)) (me_tup (ma_cons (me_tup ma_nil) ma_nil))) (ma_cons (me_slice (me_var (pv 3)) (mo_some me_int) mo_none) (ma_cons (me_tup ma_nil) (ma_cons me_int (ma_cons (me_ix (me_var (pv 3)) me_int) (ma_cons (me_slice (me_var (pv 3)) mo_none (mo_some me_int)) ma_nil))))))))))
  (mss_cons (ms_set (i := 7) sc.nd rfl (by first | exact Or.inl rfl | exact Or.inr rfl) (me_fl (mf_lst (ma_cons (me_bin op_addM opm_add (me_ix (me_var (pv 3)) me_int) me_str) (ma_cons me_str (ma_cons me_int (ma_cons (me_tup (ma_cons (me_ix (me_var (pv 3)) me_int) ma_nil)) (ma_cons (me_ix (me_var (pv 3)) me_int) (ma_cons (me_ix (me_var (pv 3)) me_int) ma_nil)))))))))
  (mss_cons (ms_set (i := 7) sc.nd rfl (by first | exact Or.inl rfl | exact Or.inr rfl) (me_bin op_addM opm_add (me_var (pv 7)) (me_fl (mf_lst (ma_cons (me_ix (me_callF T__law_one_of F__law_one_of hr rfl (ma_cons (me_var (pv 0)) (ma_cons (me_var (pv 1)) ma_nil)) rfl) me_int) (ma_cons (me_ix (me_callF T__law_one_of F__law_one_of hr rfl (ma_cons (me_var (pv 0)) (ma_cons (me_var (pv 2)) ma_nil)) rfl) me_int) ma_nil))))))
  (mss_cons (ms_for (fg := []) PassesOwn.never rfl (mi_range1 rfl z_range (ma_cons me_int ma_nil)) (mg_of (pg_name (i := 8) sc.nd rfl (by first | exact Or.inl rfl | exact Or.inr rfl)))
  (mss_cons (ms_expr (me_lmeth PySem.F.slot_list_append PySem.F.type_list_append mt_append methM_append (me_var (pv 6)) (ma_cons (me_callF T__law_with F__law_with hr rfl (ma_cons (me_var (pv 3)) (ma_cons (me_var (pv 8)) (ma_cons (me_callF T__law_one_of F__law_one_of hr rfl (ma_cons (me_var (pv 0)) (ma_cons (me_var (pv 7)) ma_nil)) rfl) ma_nil))) rfl) ma_nil)))
  (mss_one (ms_expr (me_lmeth PySem.F.slot_list_append PySem.F.type_list_append mt_append methM_append (me_var (pv 6)) (ma_cons (me_callF T__law_with F__law_with hr rfl (ma_cons (me_var (pv 3)) (ma_cons (me_var (pv 8)) (ma_cons (me_callF T__law_one_of F__law_one_of hr rfl (ma_cons (me_var (pv 0)) (ma_cons (me_var (pv 7)) ma_nil)) rfl) ma_nil))) rfl) ma_nil))))))
  (mss_cons (ms_for (fg := [9]) PassesOwn.never rfl (mi_seq (me_callF T__law_other_forms F__law_other_forms hr rfl (ma_cons (me_var (pv 0)) (ma_cons (me_var (pv 4)) (ma_cons (me_var (pv 5)) ma_nil))) rfl)) (mg_of (pg_name (i := 9) sc.nd rfl (by first | exact Or.inl rfl | exact Or.inr rfl)))
  (mss_cons (ms_set (i := 8) sc.nd rfl (by first | exact Or.inl rfl | exact Or.inr rfl) (me_ix (me_fl (mf_lst (ma_cons me_int (ma_cons me_int ma_nil)))) (me_callF T__law_draw F__law_draw hr rfl (ma_cons (me_var (pv 0)) (ma_cons me_int ma_nil)) rfl)))
  (mss_one (ms_expr (me_lmeth PySem.F.slot_list_append PySem.F.type_list_append mt_append methM_append (me_var (pv 6)) (ma_cons (me_callF T__law_with F__law_with hr rfl (ma_cons (me_var (pv 3)) (ma_cons (me_var (pv 8)) (ma_cons (me_callF T__law_more F__law_more hr rfl (ma_cons (me_var (pv 0)) (ma_cons (me_ix (me_var (pv 3)) (me_var (pv 8))) (ma_cons (me_var (pv 9)) ma_nil))) rfl) ma_nil))) rfl) ma_nil))))))
  (mss_cons (ms_for (fg := [10]) PassesOwn.never rfl (mi_seq (me_callF T__law_other_pairs F__law_other_pairs hr rfl (ma_cons (me_var (pv 0)) (ma_cons (me_var (pv 4)) (ma_cons (me_var (pv 5)) ma_nil))) rfl)) (mg_of (pg_name (i := 10) sc.nd rfl (by first | exact Or.inl rfl | exact Or.inr rfl)))
  (mss_cons (ms_set (i := 8) sc.nd rfl (by first | exact Or.inl rfl | exact Or.inr rfl) (me_ix (me_fl (mf_lst (ma_cons me_int (ma_cons me_int ma_nil)))) (me_callF T__law_draw F__law_draw hr rfl (ma_cons (me_var (pv 0)) (ma_cons me_int ma_nil)) rfl)))
  (mss_one (ms_expr (me_lmeth PySem.F.slot_list_append PySem.F.type_list_append mt_append methM_append (me_var (pv 6)) (ma_cons (me_callF T__law_with F__law_with hr rfl (ma_cons (me_var (pv 3)) (ma_cons (me_var (pv 8)) (ma_cons (me_callF T__law_more F__law_more hr rfl (ma_cons (me_var (pv 0)) (ma_cons (me_ix (me_var (pv 3)) (me_var (pv 8))) (ma_cons (me_var (pv 10)) ma_nil))) rfl) ma_nil))) rfl) ma_nil))))))
  (mss_cons (ms_for (fg := []) PassesOwn.never rfl (mi_range1 rfl z_range (ma_cons me_int ma_nil)) (mg_of (pg_name (i := 8) sc.nd rfl (by first | exact Or.inl rfl | exact Or.inr rfl)))
  (mss_cons (ms_expr (me_lmeth PySem.F.slot_list_append PySem.F.type_list_append mt_append methM_append (me_var (pv 6)) (ma_cons (me_callF T__law_with F__law_with hr rfl (ma_cons (me_var (pv 3)) (ma_cons (me_bin op_addM opm_add (me_var (pv 8)) me_int) (ma_cons (me_callF T__law_one_of F__law_one_of hr rfl (ma_cons (me_var (pv 0)) (ma_cons (me_fl (mf_lst (ma_cons me_int (ma_cons me_str (ma_cons (me_ix (me_var (pv 3)) me_int) (ma_cons (me_tup (ma_cons me_int ma_nil)) (ma_cons (me_tup ma_nil) (ma_cons (me_tup (ma_cons me_str ma_nil)) (ma_cons (me_tup (ma_cons (me_tup ma_nil) ma_nil)) ma_nil))))))))) ma_nil)) rfl) ma_nil))) rfl) ma_nil)))
  (mss_one (ms_expr (me_lmeth PySem.F.slot_list_append PySem.F.type_list_append mt_append methM_append (me_var (pv 6)) (ma_cons (me_callF T__law_with F__law_with hr rfl (ma_cons (me_var (pv 3)) (ma_cons (me_bin op_addM opm_add (me_var (pv 8)) me_int) (ma_cons (me_bin op_addM opm_add (me_ix (me_var (pv 3)) (me_bin op_addM opm_add (me_var (pv 8)) me_int)) (me_slice (me_ix (me_var (pv 3)) (me_bin op_addM opm_add (me_var (pv 8)) me_int)) mo_none (mo_some me_int))) ma_nil))) rfl) ma_nil))))))
  (mss_cons (ms_set (i := 6) sc.nd rfl (by first | exact Or.inl rfl | exact Or.inr rfl) (me_new (mf_cat (me_var (pv 6)) (me_fl (mf_lst (ma_cons (me_callF T__law_with F__law_with hr rfl (ma_cons (me_var (pv 3)) (ma_cons me_int (ma_cons (me_ix (me_var (pv 3)) me_int) ma_nil))) rfl) (ma_cons (me_callF T__law_with F__law_with hr rfl (ma_cons (me_var (pv 3)) (ma_cons me_int (ma_cons (me_ix (me_var (pv 3)) me_int) ma_nil))) rfl) (ma_cons (me_callF T__law_with F__law_with hr rfl (ma_cons (me_var (pv 3)) (ma_cons me_int (ma_cons (me_ix (me_var (pv 3)) me_int) ma_nil))) rfl) ma_nil))))))))
  (mss_one (ms_ret (me_bin op_addM opm_add (me_var (pv 6)) (me_fl (mf_lst (ma_cons (me_callF T__law_with F__law_with hr rfl (ma_cons (me_var (pv 3)) (ma_cons me_int (ma_cons (me_ix (me_var (pv 3)) me_int) ma_nil))) rfl) (ma_cons (me_bin op_addM opm_add (me_tup (ma_cons (me_ix (me_var (pv 3)) me_int) (ma_cons (me_ix (me_var (pv 3)) me_int) ma_nil))) (me_slice (me_var (pv 3)) (mo_some me_int) mo_none)) (ma_cons (me_var (pv 3)) ma_nil))))))))))))))))))
abbrev st_law : Stmt := top 60
theorem sc_law : FnScope ["script", "state", "left", "right", "world", "claim", "datum", "found"] ["script"] (defScope st_law) := ⟨rfl, rfl, rfl, by decide +kernel, rfl, by decide +kernel, by decide +kernel⟩
/-- names: 0 script, 1 state, 2 left, 3 right, 4 world, 5 claim, 6 datum, 7 found -/
noncomputable def r_law (d__law_start : List D → M Rv) (d__law_core_of : List D → M Rv) (d__law_moves : List D → M Rv) (d__law_claim : List D → M Rv) (d_is_claim : List D → M Rv) (d__law_data : List D → M Rv) (d__law_judged : List D → M Rv) : MP.Env → M Fl :=
  (sSeq (sSet 1 (eNew (fCall (lenD 1 d__law_start) (aCons (eVar 0) aNil))))
  (sSeq (sSet 2 (eCall (lenD 1 d__law_core_of) (aCons (eVar 1) aNil)))
  (sSeq (sSet 3 (eCall (lenD 1 d__law_core_of) (aCons (eVar 1) aNil)))
  (sSeq (sSet 4 (aThen gTup (aCons (eVar 2) (aCons (eVar 3) (aCons (eCall (lenD 1 d__law_moves) (aCons (eVar 2) aNil)) (aCons (eCall (lenD 1 d__law_moves) (aCons (eVar 3) aNil)) aNil))))))
  (sSeq (sSet 5 (eCall (lenD 2 d__law_claim) (aCons (eVar 1) (aCons (eVar 4) aNil))))
  (sSeq (eIf (eB (eBin (gIsB true) (eCall (lenD 3 d_is_claim) (aCons (eVar 2) (aCons (eVar 3) (aCons (eVar 5) aNil)))) (eC (.bl true))))
  (sRet (eC (.bl false)))
  sNext)
  (sSeq (sFor (eWalk (eCall (lenD 4 d__law_data) (aCons (eVar 1) (aCons (eVar 2) (aCons (eVar 3) (aCons (eVar 5) aNil)))))) (asgN 6)
  (sSeq (sSet 7 (eCall (lenD 3 d_is_claim) (aCons (eVar 2) (aCons (eVar 3) (aCons (eVar 6) aNil)))))
  (eIf (eB (eCall (lenD 2 d__law_judged) (aCons (eVar 4) (aCons (eVar 6) aNil))))
  (eIf (eB (eBin (gIsB true) (eVar 7) (eC (.bl true))))
  (sRet (eC (.bl false)))
  sNext)
  (eIf (eB (eBin (gIsB true) (eVar 7) (eC (.bl false))))
  (sRet (eC (.bl false)))
  sNext))) [6, 7])
  (sRet (eC (.bl true))))))))))
noncomputable def den_law (d__law_start : List D → M Rv) (d__law_core_of : List D → M Rv) (d__law_moves : List D → M Rv) (d__law_claim : List D → M Rv) (d_is_claim : List D → M Rv) (d__law_data : List D → M Rv) (d__law_judged : List D → M Rv) : List D → M Rv := fun ds => noX (runB 8 (r_law d__law_start d__law_core_of d__law_moves d__law_claim d_is_claim d__law_data d__law_judged) ds)
theorem mp_law {k : Nat} {f : Addr} {fd : FuncData} (F : Fun K "law" "law" st_law f fd) {f__law_start : Addr} {e__law_start : FuncData} {f__law_core_of : Addr} {e__law_core_of : FuncData} {f__law_moves : Addr} {e__law_moves : FuncData} {f__law_claim : Addr} {e__law_claim : FuncData} {f_is_claim : Addr} {e_is_claim : FuncData} {f__law_data : Addr} {e__law_data : FuncData} {f__law_judged : Addr} {e__law_judged : FuncData} {d__law_start : List D → M Rv} {d__law_core_of : List D → M Rv} {d__law_moves : List D → M Rv} {d__law_claim : List D → M Rv} {d_is_claim : List D → M Rv} {d__law_data : List D → M Rv} {d__law_judged : List D → M Rv} (T__law_start : FnI K mg "_law_start" st__law_start f__law_start e__law_start ["script"]) (F__law_start : FnOk P w K mg base CX0 k f__law_start e__law_start ["script"] (sp K mg 1 d__law_start)) (T__law_core_of : FnI K mg "_law_core_of" st__law_core_of f__law_core_of e__law_core_of ["state"]) (F__law_core_of : FnOk P w K mg base CX0 k f__law_core_of e__law_core_of ["state"] (sp K mg 1 d__law_core_of)) (T__law_moves : FnI K mg "_law_moves" st__law_moves f__law_moves e__law_moves ["core"]) (F__law_moves : FnOk P w K mg base CX0 k f__law_moves e__law_moves ["core"] (sp K mg 1 d__law_moves)) (T__law_claim : FnI K mg "_law_claim" st__law_claim f__law_claim e__law_claim ["state", "world"]) (F__law_claim : FnOk P w K mg base CX0 k f__law_claim e__law_claim ["state", "world"] (sp K mg 2 d__law_claim)) (T_is_claim : FnI K mg "is_claim" st_is_claim f_is_claim e_is_claim ["left", "right", "datum"]) (F_is_claim : FnOk P w K mg base CX0 k f_is_claim e_is_claim ["left", "right", "datum"] (sp K mg 3 d_is_claim)) (T__law_data : FnI K mg "_law_data" st__law_data f__law_data e__law_data ["state", "left", "right", "claim"]) (F__law_data : FnOk P w K mg base CX0 k f__law_data e__law_data ["state", "left", "right", "claim"] (sp K mg 4 d__law_data)) (T__law_judged : FnI K mg "_law_judged" st__law_judged f__law_judged e__law_judged ["world", "datum"]) (F__law_judged : FnOk P w K mg base CX0 k f__law_judged e__law_judged ["world", "datum"] (sp K mg 2 d__law_judged)) : FnOk P w K mg base CX0 (k + 1) f fd ["script"] (sp K mg 1 (den_law d__law_start d__law_core_of d__law_moves d__law_claim d_is_claim d__law_data d__law_judged)) :=
  have sc := sc_law
  fn_mp (N := ["script", "state", "left", "right", "world", "claim", "datum", "found"]) (r := r_law d__law_start d__law_core_of d__law_moves d__law_claim d_is_claim d__law_data d__law_judged) F sc_law rfl fun cdv A outer s H E hr =>
  have hu := hr.units
  have hu1 := units1 hr
  (mss_cons (ms_set (i := 1) sc.nd rfl (by first | exact Or.inl rfl | exact Or.inr rfl) (me_new (mf_callF T__law_start F__law_start hr rfl (ma_cons (me_var (pv 0)) ma_nil) rfl)))
  (mss_cons (ms_set (i := 2) sc.nd rfl (by first | exact Or.inl rfl | exact Or.inr rfl) (me_callF T__law_core_of F__law_core_of hr rfl (ma_cons (me_var (pv 1)) ma_nil) rfl))
  (mss_cons (ms_set (i := 3) sc.nd rfl (by first | exact Or.inl rfl | exact Or.inr rfl) (me_callF T__law_core_of F__law_core_of hr rfl (ma_cons (me_var (pv 1)) ma_nil) rfl))
  (mss_cons (ms_set (i := 4) sc.nd rfl (by first | exact Or.inl rfl | exact Or.inr rfl) (me_tup (ma_cons (me_var (pv 2)) (ma_cons (me_var (pv 3)) (ma_cons (me_callF T__law_moves F__law_moves hr rfl (ma_cons (me_var (pv 2)) ma_nil) rfl) (ma_cons (me_callF T__law_moves F__law_moves hr rfl (ma_cons (me_var (pv 3)) ma_nil) rfl) ma_nil))))))
  (mss_cons (ms_set (i := 5) sc.nd rfl (by first | exact Or.inl rfl | exact Or.inr rfl) (me_callF T__law_claim F__law_claim hr rfl (ma_cons (me_var (pv 1)) (ma_cons (me_var (pv 4)) ma_nil)) rfl))
  (mss_cons (ms_if (mt_cmp op_notBM opm_isB (me_callF T_is_claim F_is_claim hr rfl (ma_cons (me_var (pv 2)) (ma_cons (me_var (pv 3)) (ma_cons (me_var (pv 5)) ma_nil))) rfl) me_bl (by first | exact nomark _ | rfl))
  (mss_one (ms_ret me_bl))
  mss_nil)
  (mss_cons (ms_for (fg := [6, 7]) PassesOwn.never rfl (mi_seq (me_callF T__law_data F__law_data hr rfl (ma_cons (me_var (pv 1)) (ma_cons (me_var (pv 2)) (ma_cons (me_var (pv 3)) (ma_cons (me_var (pv 5)) ma_nil)))) rfl)) (mg_of (pg_name (i := 6) sc.nd rfl (by first | exact Or.inl rfl | exact Or.inr rfl)))
  (mss_cons (ms_set (i := 7) sc.nd rfl (by first | exact Or.inl rfl | exact Or.inr rfl) (me_callF T_is_claim F_is_claim hr rfl (ma_cons (me_var (pv 2)) (ma_cons (me_var (pv 3)) (ma_cons (me_var (pv 6)) ma_nil))) rfl))
  (mss_one (ms_if (mt_val (me_callF T__law_judged F__law_judged hr rfl (ma_cons (me_var (pv 4)) (ma_cons (me_var (pv 6)) ma_nil)) rfl))
  (mss_one (ms_if (mt_cmp op_notBM opm_isB (me_var (pv 7)) me_bl (by first | exact nomark _ | rfl))
  (mss_one (ms_ret me_bl))
  mss_nil))
  (mss_one (ms_if (mt_cmp op_notBM opm_isB (me_var (pv 7)) me_bl (by first | exact nomark _ | rfl))
  (mss_one (ms_ret me_bl))
  mss_nil))))))
  (mss_one (ms_ret me_bl)))))))))
end
end K06
namespace K06
open PySem L2 PyProof.Rows MP
/-! ### the program's and the law's tests of a datum -/
def isInt : D → Bool
  | .int _ => true
  | _ => false
def isTupN (k : Int) : D → Bool
  | .tup xs => (xs.length : Int) == k
  | _ => false
/-- ints, texts, tuples, less deep than n -/
def Pd : Nat → D → Prop
  | _, .int _ => True
  | _, .str _ => True
  | n + 1, .tup xs => xs.length ≤ 1000 ∧ ∀ x ∈ xs, Pd n x
  | _, _ => False
theorem Pd.int {n : Nat} (i : Int) : Pd n (.int i) := by cases n <;> trivial
theorem Pd.str {n : Nat} (z : Str) : Pd n (.str z) := by cases n <;> trivial
theorem Pd.tup {n : Nat} {xs : List D} (h : xs.length ≤ 1000) (h' : ∀ x ∈ xs, Pd n x) : Pd (n + 1) (.tup xs) := ⟨h, h'⟩
theorem Pd.of {n : Nat} {d : D} (h : Pd n d) : (∃ i, d = .int i) ∨ (∃ z, d = .str z) ∨ ∃ m xs, n = m + 1 ∧ d = .tup xs ∧ xs.length ≤ 1000 ∧ ∀ x ∈ xs, Pd m x := by
  cases d with
  | int i => exact .inl ⟨i, rfl⟩
  | str z => exact .inr (.inl ⟨z, rfl⟩)
  | tup xs =>
    cases n with
    | zero => exact h.elim
    | succ n => exact .inr (.inr ⟨n, xs, rfl, rfl, h.1, h.2⟩)
  | non => cases n <;> exact h.elim
  | bl b => cases n <;> exact h.elim
  | fl xs => cases n <;> exact h.elim
  | ro xs => cases n <;> exact h.elim
  | fd ks xs => cases n <;> exact h.elim
  | ref j => cases n <;> exact h.elim
theorem is_integer_ok {n : Nat} {d : D} {mu : List MO} (h : Pd n d) : den_is_integer [d] mu = .ok (.vl (.bl (isInt d))) mu := by
  refine noX_ok ?_
  rcases h.of with ⟨i, rfl⟩ | ⟨z, rfl⟩ | ⟨m, xs, _, rfl, _, _⟩ <;> simp [r_is_integer, startE, isiB, isInt]
theorem law_int_ok {n : Nat} {d : D} {mu : List MO} (h : Pd n d) : den__law_is_int [d] mu = .ok (.vl (.bl (isInt d))) mu := by
  refine noX_ok ?_
  rcases h.of with ⟨i, rfl⟩ | ⟨z, rfl⟩ | ⟨m, xs, _, rfl, _, _⟩ <;> simp [r__law_is_int, startE, isiB, isInt]
theorem is_tuple_ok {n : Nat} {d : D} {k : Int} {mu : List MO} (h : Pd n d) : den_is_tuple [d, .int k] mu = .ok (.vl (.bl (isTupN k d))) mu := by
  refine noX_ok ?_
  rcases h.of with ⟨i, rfl⟩ | ⟨z, rfl⟩ | ⟨m, xs, _, rfl, _, _⟩ <;> simp [r_is_tuple, startE, isiB, isTupN, gEq_ints]
theorem gIn_str {neg : Bool} {x y : Str} {mu : List MO} : gIn neg (.str x) (.str y) mu = .ok (.bl (inS x y != neg)) mu := rfl
/-- the terms of a form -/
def formL (last : Str) : List D → Bool
  | [] => true
  | .tup [.str n, .int k] :: r => if (!ltS last n || (inS " " n || k == 0)) = true then false else formL n r
  | _ :: _ => false
def formB : D → Bool
  | .tup [.int _, .tup ts] => formL "" ts
  | _ => false
noncomputable def formBody : MP.Env → M Fl :=
  (sSeq (eIf (bOr (bNot (eB (eCall (lenD 2 den_is_tuple) (aCons (eVar 2) (aCons (eC (.int 2)) aNil))))) (bOr (bNot (eB (eMap (gIsi "str") (eBin gIx (eVar 2) (eC (.int 0)))))) (bNot (eB (eCall (lenD 1 den_is_integer) (aCons (eBin gIx (eVar 2) (eC (.int 1))) aNil))))))
  (sRet (eC (.bl false)))
  sNext)
  (sSeq (eIf (bOr (eB (eBin gLe (eBin gIx (eVar 2) (eC (.int 0))) (eVar 1))) (bOr (eB (eBin (gIn false) (eC (.str " ")) (eBin gIx (eVar 2) (eC (.int 0))))) (eB (eBin (gEq false) (eBin gIx (eVar 2) (eC (.int 1))) (eC (.int 0))))))
  (sRet (eC (.bl false)))
  sNext)
  (sSet 1 (eBin gIx (eVar 2) (eC (.int 0))))))
/-- a term: a pair of a text and an int, or not -/
theorem term_cases {n : Nat} {t : D} (h : Pd n t) : (∃ z k, t = .tup [.str z, .int k]) ∨ (isTupN 2 t = false) ∨ ∃ a b m, t = .tup [a, b] ∧ Pd m a ∧ Pd m b ∧ ((∀ z, a ≠ .str z) ∨ isInt b = false) := by
  rcases h.of with ⟨i, rfl⟩ | ⟨z, rfl⟩ | ⟨m, xs, _, rfl, hl, hx⟩
  · exact .inr (.inl rfl)
  · exact .inr (.inl rfl)
  · match xs, hl, hx with
    | [], _, _ => exact .inr (.inl rfl)
    | [_], _, _ => exact .inr (.inl rfl)
    | [a, b], _, hx =>
      have pa := hx a (by simp)
      have pb := hx b (by simp)
      rcases pa.of with ⟨i, rfl⟩ | ⟨z, rfl⟩ | ⟨_, _, _, rfl, _, _⟩
      · exact .inr (.inr ⟨_, _, m, rfl, pa, pb, .inl fun z e => by cases e⟩)
      · rcases pb.of with ⟨k, rfl⟩ | ⟨z', rfl⟩ | ⟨_, _, _, rfl, _, _⟩
        · exact .inl ⟨z, k, rfl⟩
        · exact .inr (.inr ⟨_, _, m, rfl, pa, pb, .inr rfl⟩)
        · exact .inr (.inr ⟨_, _, m, rfl, pa, pb, .inr rfl⟩)
      · exact .inr (.inr ⟨_, _, m, rfl, pa, pb, .inl fun z e => by cases e⟩)
    | _ :: _ :: _ :: r, _, _ => exact .inr (.inl (by simp [isTupN]; omega))
theorem formL_no {last : Str} {t : D} {r : List D} (h : ∀ z k, t ≠ .tup [.str z, .int k]) : formL last (t :: r) = false := by
  unfold formL
  split
  · rename_i e; cases e
  · rename_i e; cases e; exact absurd rfl (h _ _)
  · rfl
theorem formBody_no {n : Nat} {t d : D} {last : Str} {o : Option D} {mu : List MO} (h : Pd n t) (hn : ∀ z k, t ≠ .tup [.str z, .int k]) : formBody [some d, some (.str last), some t] mu = .ok (.rt (.vl (.bl false))) mu := by
  have h2 := is_tuple_ok (k := 2) (mu := mu) h
  rcases term_cases h with ⟨z, k, e⟩ | e | ⟨a, b, m, rfl, pa, pb, e⟩
  · exact absurd e (hn z k)
  · rw [e] at h2
    simp [formBody, h2]
  · have e2 : isTupN 2 (.tup [a, b]) = true := rfl
    rw [e2] at h2
    have hi := is_integer_ok (mu := mu) pb
    rcases pa.of with ⟨i, rfl⟩ | ⟨z, rfl⟩ | ⟨_, _, _, rfl, _, _⟩
    · simp [formBody, h2, isiB]
    · rcases e with e | e
      · exact absurd rfl (e z)
      · rw [e] at hi
        simp [formBody, h2, isiB, hi]
    · simp [formBody, h2, isiB]
theorem formBody_ok {z last : Str} {k : Int} {d : D} {mu : List MO} : formBody [some d, some (.str last), some (.tup [.str z, .int k])] mu = if (!ltS last z || (inS " " z || k == 0)) = true then .ok (.rt (.vl (.bl false))) mu else .ok (.nx [some d, some (.str z), some (.tup [.str z, .int k])]) mu := by
  have h2 : den_is_tuple [.tup [.str z, .int k], .int 2] mu = .ok (.vl (.bl true)) mu := is_tuple_ok (n := 1) (Pd.tup (by simp) fun x hx => by
    simp at hx
    rcases hx with rfl | rfl
    · exact .str z
    · exact .int k)
  have hi : den_is_integer [.int k] mu = .ok (.vl (.bl true)) mu := is_integer_ok (n := 0) (.int k)
  cases h1 : ltS last z <;> cases h3 : inS " " z <;> cases h4 : (k == 0) <;> simp [formBody, h2, isiB, hi, h1, gIn_str, h3, gEq_ints, h4]
theorem form_loop' {n : Nat} {d : D} {mu : List MO} : ∀ (ts : List D) (last : Str) (o : Option D), (∀ t ∈ ts, Pd n t) → ∃ last', loopF (asgN 2) formBody [2] [] ts [some d, some (.str last), o] mu = if formL last ts = true then .ok (.nx [some d, some (.str last'), none]) mu else .ok (.rt (.vl (.bl false))) mu
  | [], last, o, _ => ⟨last, by rw [loopF_nil]; rfl⟩
  | t :: ts, last, o, h => by
    have ht := h t (by simp)
    by_cases hz : ∃ z k, t = .tup [.str z, .int k]
    · obtain ⟨z, k, rfl⟩ := hz
      obtain ⟨last', ih⟩ := form_loop' (n := n) (d := d) (mu := mu) ts z (some (.tup [.str z, .int k])) (fun x hx => h x (by simp [hx]))
      refine ⟨last', ?_⟩
      rw [loopF_cons]
      have hb := formBody_ok (z := z) (last := last) (k := k) (d := d) (mu := mu)
      unfold formL
      by_cases c : (!ltS last z || (inS " " z || k == 0)) = true
      · rw [if_pos c] at hb ⊢
        simp [hb]
      · rw [if_neg c] at hb ⊢
        simp [hb, ih]
    · have hn : ∀ z k, t ≠ .tup [.str z, .int k] := fun z k e => hz ⟨z, k, e⟩
      refine ⟨last, ?_⟩
      rw [loopF_cons, formL_no hn]
      simp [formBody_no (d := d) (last := last) (o := none) (mu := mu) ht hn]

theorem pair_cases {n : Nat} {d : D} (h : Pd n d) : isTupN 2 d = false ∨ ∃ a b m, d = .tup [a, b] ∧ n = m + 1 ∧ Pd m a ∧ Pd m b := by
  rcases h.of with ⟨i, rfl⟩ | ⟨z, rfl⟩ | ⟨m, xs, e, rfl, hl, hx⟩
  · exact .inl rfl
  · exact .inl rfl
  · match xs, hl, hx with
    | [], _, _ => exact .inl rfl
    | [_], _, _ => exact .inl rfl
    | [a, b], _, hx => exact .inr ⟨a, b, m, rfl, e, hx a (by simp), hx b (by simp)⟩
    | _ :: _ :: _ :: r, _, _ => exact .inl (by simp [isTupN]; omega)
theorem formB_no {d : D} (h : isTupN 2 d = false) : formB d = false := by
  unfold formB
  split
  · rename_i e; cases h
  · rfl
noncomputable abbrev dIsForm : List D → M Rv := den_is_form den_is_tuple den_is_integer
theorem is_form_ok {n : Nat} {d : D} {mu : List MO} (h : Pd n d) : dIsForm [d] mu = .ok (.vl (.bl (formB d))) mu := by
  have h2 := is_tuple_ok (k := 2) (mu := mu) h
  refine noX_ok ?_
  rcases pair_cases h with e | ⟨a, b, m, rfl, _, pa, pb⟩
  · rw [e] at h2
    rw [formB_no e]
    simp [r_is_form, startE, h2]
  · have e2 : isTupN 2 (.tup [a, b]) = true := rfl
    rw [e2] at h2
    have hi := is_integer_ok (mu := mu) pa
    rcases pa.of with ⟨i, rfl⟩ | ⟨z, rfl⟩ | ⟨_, _, _, rfl, _, _⟩
    · have e3 : isInt (.int i) = true := rfl
      rw [e3] at hi
      rcases pb.of with ⟨j, rfl⟩ | ⟨z, rfl⟩ | ⟨k, ts, _, rfl, _, hts⟩
      · have e4 : formB (.tup [.int i, .int j]) = false := rfl
        rw [e4]; simp [r_is_form, startE, h2, hi, isiB]
      · have e4 : formB (.tup [.int i, .str z]) = false := rfl
        rw [e4]; simp [r_is_form, startE, h2, hi, isiB]
      · have e4 : formB (.tup [.int i, .tup ts]) = formL "" ts := rfl
        rw [e4]
        obtain ⟨last', hl⟩ := form_loop' (n := k) (d := .tup [.int i, .tup ts]) (mu := mu) ts "" none hts
        unfold formBody at hl
        cases c : formL "" ts
        · rw [c, if_neg (by decide)] at hl
          simp [r_is_form, startE, h2, hi, isiB, hl]
        · rw [c, if_pos rfl] at hl
          simp [r_is_form, startE, h2, hi, isiB, hl]
    · have e3 : isInt (.str z) = false := rfl
      rw [e3] at hi
      have e4 : formB (.tup [.str z, b]) = false := rfl
      rw [e4]; simp [r_is_form, startE, h2, hi]
    · have e4 : ∀ ys, formB (.tup [.tup ys, b]) = false := fun _ => rfl
      have e3 : ∀ ys, isInt (.tup ys) = false := fun _ => rfl
      rw [e3] at hi
      rw [e4]; simp [r_is_form, startE, h2, hi]
/-- a name is among texts -/
theorem gIn_names {neg : Bool} {z : Str} {ns : List Str} {d : D} {mu : List MO} (hd : rdQ d mu = .ok (ns.map D.str) mu) (hns : ∀ y, d ≠ .str y) : gIn neg (.str z) d mu = .ok (.bl (ns.contains z != neg)) mu := by
  have e : gIn neg (.str z) d = (rdQ d >>= fun ys => need (okE (.str z) = true ∧ okEs ys = true ∧ deps ys < 60) >>= fun _ => pure (.bl ((ys.any fun y => eqD y (.str z)) != neg)) : M D) := by
    cases d <;> first | rfl | exact absurd rfl (hns _)
  rw [e]
  have ok1 : ∀ ns : List Str, okEs (ns.map D.str) = true := fun ns => by
    induction ns with
    | nil => rfl
    | cons x xs ih => rw [List.map_cons, okEs, ih]; rfl
  have ok2 : ∀ ns : List Str, deps (ns.map D.str) = 0 := fun ns => by
    induction ns with
    | nil => rfl
    | cons x xs ih => rw [List.map_cons, deps, ih]; rfl
  have ok3 : ∀ ns : List Str, ((ns.map D.str).any fun y => eqD y (.str z)) = ns.contains z := fun ns => by
    induction ns with
    | nil => rfl
    | cons x xs ih =>
      rw [List.map_cons, List.any_cons, ih, List.contains_cons]
      congr 1
      show (x == z) = (z == x)
      exact BEq.comm
  simp [hd, okE, ok1, ok2, ok3]
/-- a form over names, as the program has it -/
def overB (ns : List Str) (ts : List D) : Bool := ts.all fun t => match t with
  | .tup [.str z, _] => ns.contains z
  | _ => false
def formOver (ns : List Str) : D → Bool
  | .tup [.int c, .tup ts] => formL "" ts && overB ns ts
  | _ => false
theorem formL_terms : ∀ {ts : List D} {last : Str}, formL last ts = true → ∀ t ∈ ts, ∃ z k, t = .tup [.str z, .int k]
  | t :: ts, last, h, x, hx => by
    by_cases hz : ∃ z k, t = .tup [.str z, .int k]
    · obtain ⟨z, k, rfl⟩ := hz
      rcases List.mem_cons.mp hx with e | e
      · exact ⟨z, k, e⟩
      · unfold formL at h
        split at h
        · cases h
        · exact formL_terms h x e
    · rw [formL_no fun z k e => hz ⟨z, k, e⟩] at h
      cases h
end K06
namespace K06
open PySem L2 PyProof.Rows MP
/-- names as a tuple or a list that nobody changes -/
def NamesD (nd : D) (ns : List Str) : Prop := nd = .tup (ns.map D.str) ∨ nd = .fl (ns.map D.str)
theorem NamesD.rd {nd : D} {ns : List Str} {mu : List MO} (h : NamesD nd ns) : rdQ nd mu = .ok (ns.map D.str) mu := by rcases h with rfl | rfl <;> rfl
theorem NamesD.ns {nd : D} {ns : List Str} (h : NamesD nd ns) : ∀ y, nd ≠ .str y := fun y e => by rcases h with rfl | rfl <;> cases e
theorem NamesD.gIn {nd : D} {ns : List Str} {neg : Bool} {z : Str} {mu : List MO} (h : NamesD nd ns) : gIn neg (.str z) nd mu = .ok (.bl (ns.contains z != neg)) mu := gIn_names h.rd h.ns
theorem toBs_map {α : Type} {p : α → Bool} {mu : List MO} : ∀ (ts : List α), toBs (ts.map fun t => D.bl (p t)) mu = .ok (ts.map p) mu
  | [] => rfl
  | t :: ts => by
    show ((toB (.bl (p t)) : M Bool) >>= fun b => toBs (ts.map fun t => D.bl (p t)) >>= fun bs => pure (b :: bs)) mu = _
    simp [toBs_map ts]
theorem gAll_map {α : Type} {p : α → Bool} {mu : List MO} (ts : List α) : gAll (.fl (ts.map fun t => D.bl (p t))) mu = .ok (.bl (ts.all p)) mu := by
  unfold gAll
  simp [toBs_map, List.all_map, Function.comp_def]
theorem gAny_map {α : Type} {p : α → Bool} {mu : List MO} (ts : List α) : gAny (.fl (ts.map fun t => D.bl (p t))) mu = .ok (.bl (ts.any p)) mu := by
  unfold gAny
  simp [toBs_map, List.any_map, Function.comp_def]
def overT (ns : List Str) : D → Bool
  | .tup [.str z, _] => ns.contains z
  | _ => false
theorem overB_eq {ns : List Str} {ts : List D} : overB ns ts = ts.all (overT ns) := rfl
theorem is_form_over_ok {n : Nat} {d nd : D} {ns : List Str} {mu : List MO} (h : Pd n d) (hn : NamesD nd ns) : den_is_form_over dIsForm [d, nd] mu = .ok (.vl (.bl (formOver ns d))) mu := by
  have h1 := is_form_ok (mu := mu) h
  refine noX_ok ?_
  cases c : formB d with
  | false =>
    rw [c] at h1
    have e : formOver ns d = false := by
      unfold formOver
      split
      · rename_i cc ts
        have e2 : formB (.tup [.int cc, .tup ts]) = formL "" ts := rfl
        rw [e2] at c
        rw [c]; rfl
      · rfl
    rw [e]
    simp [r_is_form_over, startE, h1]
  | true =>
    rw [c] at h1
    obtain ⟨cc, ts, rfl⟩ : ∃ cc ts, d = .tup [.int cc, .tup ts] := by
      unfold formB at c
      split at c
      · exact ⟨_, _, rfl⟩
      · cases c
    have e2 : formL "" ts = true := c
    have ht := formL_terms e2
    have hl : loopC (asgT 2 (asgCons (asgN 2) (asgCons (asgN 3) asgNil))) tYesM (eBin (MP.gIn false) (eVar 2) (eVar 1)) [] ts [some (.tup [.int cc, .tup ts]), some nd, none, none] mu = .ok (ts.map fun t => D.bl (overT ns t)) mu := by
      refine loopC_map fun t hx => ?_
      obtain ⟨z, k, rfl⟩ := ht t hx
      refine ⟨[some (.tup [.int cc, .tup ts]), some nd, some (.str z), some (.int k)], by simp, rfl, ?_⟩
      simp [hn.gIn, overT]
    have e3 : formOver ns (.tup [.int cc, .tup ts]) = ts.all (overT ns) := by
      show (formL "" ts && overB ns ts) = _
      rw [e2, overB_eq, Bool.true_and]
    rw [e3]
    simp [r_is_form_over, startE, h1, noX_ok hl, gAll_map]
/-! the law's -/
def lawL (ns : List Str) (last : Str) : List D → Bool
  | [] => true
  | .tup [.str n, .int k] :: r => if (!ltS last n || (!ns.contains n || k == 0)) = true then false else lawL ns n r
  | _ :: _ => false
def lawForm (ns : List Str) : D → Bool
  | .tup [.int _, .tup ts] => lawL ns "" ts
  | _ => false
theorem lawL_no {ns : List Str} {last : Str} {t : D} {r : List D} (h : ∀ z k, t ≠ .tup [.str z, .int k]) : lawL ns last (t :: r) = false := by
  unfold lawL
  split
  · rename_i e; cases e
  · rename_i e; cases e; exact absurd rfl (h _ _)
  · rfl
noncomputable def lawBody : MP.Env → M Fl :=
  (sSeq (eIf (bOr (bNot (eB (eMap (gIsi "tuple") (eVar 3)))) (bOr (eB (eBin (gEq true) (aThen (g1 gLen) (aCons (eVar 3) aNil)) (eC (.int 2)))) (bOr (bNot (eB (eMap (gIsi "str") (eBin gIx (eVar 3) (eC (.int 0)))))) (bNot (eB (eCall (lenD 1 den__law_is_int) (aCons (eBin gIx (eVar 3) (eC (.int 1))) aNil)))))))
  (sRet (eC (.bl false)))
  sNext)
  (sSeq (eIf (bOr (eB (eBin gLe (eBin gIx (eVar 3) (eC (.int 0))) (eVar 2))) (bOr (eB (eBin (MP.gIn true) (eBin gIx (eVar 3) (eC (.int 0))) (eVar 1))) (eB (eBin (gEq false) (eBin gIx (eVar 3) (eC (.int 1))) (eC (.int 0))))))
  (sRet (eC (.bl false)))
  sNext)
  (sSet 2 (eBin gIx (eVar 3) (eC (.int 0))))))
theorem len_not2 {xs : List D} (h : isTupN 2 (.tup xs) = false) : ((xs.length : Int) == 2) = false := h
theorem lawBody_no {n : Nat} {t d nd : D} {last : Str} {mu : List MO} (h : Pd n t) (hn : ∀ z k, t ≠ .tup [.str z, .int k]) : lawBody [some d, some nd, some (.str last), some t] mu = .ok (.rt (.vl (.bl false))) mu := by
  rcases h.of with ⟨i, rfl⟩ | ⟨z, rfl⟩ | ⟨m, xs, _, rfl, _, _⟩
  · simp [lawBody, isiB]
  · simp [lawBody, isiB]
  rcases term_cases h with ⟨z, k, e⟩ | e | ⟨a, b, m, e, pa, pb, e'⟩
  · exact absurd e (hn z k)
  · have e := len_not2 e
    simp [lawBody, isiB, gEq_ints, e]
  · cases e
    have hi := law_int_ok (mu := mu) pb
    rcases pa.of with ⟨i, rfl⟩ | ⟨z, rfl⟩ | ⟨_, _, _, rfl, _, _⟩
    · simp [lawBody, isiB, gEq_ints]
    · rcases e' with e | e
      · exact absurd rfl (e z)
      · rw [e] at hi
        simp [lawBody, isiB, gEq_ints, hi]
    · simp [lawBody, isiB, gEq_ints]
theorem lawBody_ok {z last : Str} {k : Int} {d nd : D} {ns : List Str} {mu : List MO} (hn : NamesD nd ns) : lawBody [some d, some nd, some (.str last), some (.tup [.str z, .int k])] mu = if (!ltS last z || (!ns.contains z || k == 0)) = true then .ok (.rt (.vl (.bl false))) mu else .ok (.nx [some d, some nd, some (.str z), some (.tup [.str z, .int k])]) mu := by
  have hi : den__law_is_int [.int k] mu = .ok (.vl (.bl true)) mu := law_int_ok (n := 0) (.int k)
  have hin := hn.gIn (neg := true) (z := z) (mu := mu)
  cases h1 : ltS last z <;> cases h3 : ns.contains z <;> cases h4 : (k == 0) <;> rw [h3] at hin <;> simp [lawBody, isiB, hi, h1, hin, gEq_ints, h4]
theorem law_loop {n : Nat} {d nd : D} {ns : List Str} {mu : List MO} (hn : NamesD nd ns) : ∀ (ts : List D) (last : Str) (o : Option D), (∀ t ∈ ts, Pd n t) → ∃ last', loopF (asgN 3) lawBody [3] [] ts [some d, some nd, some (.str last), o] mu = if lawL ns last ts = true then .ok (.nx [some d, some nd, some (.str last'), none]) mu else .ok (.rt (.vl (.bl false))) mu
  | [], last, o, _ => ⟨last, by rw [loopF_nil]; rfl⟩
  | t :: ts, last, o, h => by
    have ht := h t (by simp)
    by_cases hz : ∃ z k, t = .tup [.str z, .int k]
    · obtain ⟨z, k, rfl⟩ := hz
      obtain ⟨last', ih⟩ := law_loop (n := n) (d := d) (mu := mu) hn ts z (some (.tup [.str z, .int k])) (fun x hx => h x (by simp [hx]))
      refine ⟨last', ?_⟩
      rw [loopF_cons]
      have hb := lawBody_ok (z := z) (last := last) (k := k) (d := d) (mu := mu) hn
      unfold lawL
      by_cases c : (!ltS last z || (!ns.contains z || k == 0)) = true
      · rw [if_pos c] at hb ⊢
        simp [hb]
      · rw [if_neg c] at hb ⊢
        simp [hb, ih]
    · have hne : ∀ z k, t ≠ .tup [.str z, .int k] := fun z k e => hz ⟨z, k, e⟩
      refine ⟨last, ?_⟩
      rw [loopF_cons, lawL_no hne]
      simp [lawBody_no (d := d) (nd := nd) (last := last) (mu := mu) ht hne]
theorem law_is_form_ok {n : Nat} {d nd : D} {ns : List Str} {mu : List MO} (h : Pd n d) (hn : NamesD nd ns) : den__law_is_form den__law_is_int [d, nd] mu = .ok (.vl (.bl (lawForm ns d))) mu := by
  refine noX_ok ?_
  rcases h.of with ⟨i, rfl⟩ | ⟨z, rfl⟩ | ⟨m, xs, _, rfl, _, _⟩
  · have e : lawForm ns (.int i) = false := rfl
    rw [e]; simp [r__law_is_form, startE, isiB]
  · have e : lawForm ns (.str z) = false := rfl
    rw [e]; simp [r__law_is_form, startE, isiB]
  rcases pair_cases h with e | ⟨a, b, m, e, _, pa, pb⟩
  · have e1 := len_not2 e
    have e2 : lawForm ns (.tup xs) = false := by
      unfold lawForm
      split
      · rename_i q; cases q; cases e
      · rfl
    rw [e2]; simp [r__law_is_form, startE, isiB, gEq_ints, e1]
  · cases e
    have hi := law_int_ok (mu := mu) pa
    rcases pa.of with ⟨i, rfl⟩ | ⟨z, rfl⟩ | ⟨_, ys, _, rfl, _, _⟩
    · have e3 : isInt (.int i) = true := rfl
      rw [e3] at hi
      rcases pb.of with ⟨j, rfl⟩ | ⟨z, rfl⟩ | ⟨k, ts, _, rfl, _, hts⟩
      · have e4 : lawForm ns (.tup [.int i, .int j]) = false := rfl
        rw [e4]; simp [r__law_is_form, startE, hi, isiB, gEq_ints]
      · have e4 : lawForm ns (.tup [.int i, .str z]) = false := rfl
        rw [e4]; simp [r__law_is_form, startE, hi, isiB, gEq_ints]
      · have e4 : lawForm ns (.tup [.int i, .tup ts]) = lawL ns "" ts := rfl
        rw [e4]
        obtain ⟨last', hl⟩ := law_loop (n := k) (d := .tup [.int i, .tup ts]) (mu := mu) hn ts "" none hts
        unfold lawBody at hl
        cases c : lawL ns "" ts
        · rw [c, if_neg (by decide)] at hl
          simp [r__law_is_form, startE, hi, isiB, hl, gEq_ints]
        · rw [c, if_pos rfl] at hl
          simp [r__law_is_form, startE, hi, isiB, hl, gEq_ints]
    · have e3 : isInt (.str z) = false := rfl
      rw [e3] at hi
      have e4 : lawForm ns (.tup [.str z, b]) = false := rfl
      rw [e4]; simp [r__law_is_form, startE, hi, isiB, gEq_ints]
    · have e3 : isInt (.tup ys) = false := rfl
      rw [e3] at hi
      have e4 : lawForm ns (.tup [.tup ys, b]) = false := rfl
      rw [e4]; simp [r__law_is_form, startE, hi, isiB, gEq_ints]
/-- both say the same, where no name holds a blank -/
theorem forms_eq {ns : List Str} (hb : ∀ z ∈ ns, inS " " z = false) : ∀ (ts : List D) (last : Str), (formL last ts && overB ns ts) = lawL ns last ts
  | [], last => rfl
  | t :: ts, last => by
    by_cases hz : ∃ z k, t = .tup [.str z, .int k]
    · obtain ⟨z, k, rfl⟩ := hz
      have ih := forms_eq hb ts z
      have e1 : overB ns (.tup [.str z, .int k] :: ts) = (ns.contains z && overB ns ts) := rfl
      rw [e1]
      unfold formL lawL
      cases c : ns.contains z with
      | false => cases ltS last z <;> simp
      | true =>
        have := hb z (by simpa using c)
        rw [this]
        cases h1 : ltS last z <;> cases h2 : (k == 0) <;> simp
        exact ih
    · have hne : ∀ z k, t ≠ .tup [.str z, .int k] := fun z k e => hz ⟨z, k, e⟩
      rw [formL_no hne, lawL_no hne]; rfl
theorem formOver_eq {ns : List Str} (hb : ∀ z ∈ ns, inS " " z = false) (d : D) : formOver ns d = lawForm ns d := by
  unfold formOver lawForm
  split
  · exact forms_eq hb _ _
  · rename_i h
    first
      | rfl
      | (split
         · exact (h _ _ rfl).elim
         · rfl)
end K06
namespace K06
open PySem L2 PyProof.Rows MP
theorem Pd.eqs : ∀ {n : Nat} {d : D}, Pd n d → okE d = true ∧ dep d ≤ n := by
  intro n
  induction n with
  | zero =>
    intro d h
    rcases h.of with ⟨i, rfl⟩ | ⟨z, rfl⟩ | ⟨m, xs, e, _⟩
    · exact ⟨rfl, Nat.le_refl _⟩
    · exact ⟨rfl, Nat.le_refl _⟩
    · cases e
  | succ n ih =>
    intro d h
    rcases h.of with ⟨i, rfl⟩ | ⟨z, rfl⟩ | ⟨m, xs, e, rfl, _, hx⟩
    · exact ⟨rfl, Nat.zero_le _⟩
    · exact ⟨rfl, Nat.zero_le _⟩
    · cases e
      have key : ∀ ys : List D, (∀ y ∈ ys, Pd n y) → okEs ys = true ∧ deps ys ≤ n := by
        intro ys
        induction ys with
        | nil => intro _; exact ⟨rfl, Nat.zero_le _⟩
        | cons y ys ihy =>
          intro hy
          obtain ⟨a, b⟩ := ih (hy y (by simp))
          obtain ⟨a', b'⟩ := ihy fun z hz => hy z (by simp [hz])
          exact ⟨by rw [okEs, a, a']; rfl, by rw [deps]; omega⟩
      obtain ⟨a, b⟩ := key xs hx
      exact ⟨a, by rw [dep]; omega⟩
theorem Pd.lists {n : Nat} : ∀ {ys : List D}, (∀ y ∈ ys, Pd n y) → okEs ys = true ∧ deps ys ≤ n
  | [], _ => ⟨rfl, Nat.zero_le _⟩
  | y :: ys, h => by
    obtain ⟨a, b⟩ := (h y (by simp)).eqs
    obtain ⟨a', b'⟩ := Pd.lists (ys := ys) fun z hz => h z (by simp [hz])
    exact ⟨by rw [okEs, a, a']; rfl, by rw [deps]; omega⟩
def inD (ys : List D) (x : D) : Bool := ys.any fun y => eqD y x
theorem gIn_pd {n : Nat} {neg : Bool} {x d : D} {ys : List D} {mu : List MO} (hd : rdQ d mu = .ok ys mu) (hns : ∀ y, d ≠ .str y) (hx : okE x = true) (hy : okEs ys = true ∧ deps ys ≤ n) (hn : n < 60) : gIn neg x d mu = .ok (.bl (inD ys x != neg)) mu := by
  have e : gIn neg x d = (rdQ d >>= fun ys => need (okE x = true ∧ okEs ys = true ∧ deps ys < 60) >>= fun _ => pure (.bl ((ys.any fun y => eqD y x) != neg)) : M D) := by
    cases d <;> first | rfl | exact absurd rfl (hns _)
  rw [e]
  have h1 : deps ys < 60 := by omega
  simp [hd, hx, hy.1, h1, inD]
theorem strs_ok : ∀ ns : List Str, okEs (ns.map D.str) = true ∧ deps (ns.map D.str) ≤ 0
  | [] => ⟨rfl, Nat.le_refl _⟩
  | x :: xs => by
    obtain ⟨a, b⟩ := strs_ok xs
    exact ⟨by rw [List.map_cons, okEs, a]; rfl, by rw [List.map_cons, deps]; show max 0 _ ≤ 0; omega⟩
theorem NamesD.gInD {nd x : D} {ns : List Str} {neg : Bool} {mu : List MO} (h : NamesD nd ns) (hx : okE x = true) : MP.gIn neg x nd mu = .ok (.bl (inD (ns.map D.str) x != neg)) mu := gIn_pd h.rd h.ns hx (strs_ok ns) (by omega)
/-! are_forms -/
def areB (f : D → Bool) : D → Bool
  | .tup ts => ts.all f
  | _ => false
theorem are_forms_ok {n : Nat} {d nd : D} {ns : List Str} {mu : List MO} (h : Pd n d) (hn : NamesD nd ns) : den_are_forms (den_is_form_over dIsForm) [d, nd] mu = .ok (.vl (.bl (areB (formOver ns) d))) mu := by
  refine noX_ok ?_
  rcases h.of with ⟨i, rfl⟩ | ⟨z, rfl⟩ | ⟨m, xs, _, rfl, _, hx⟩
  · have e : areB (formOver ns) (.int i) = false := rfl
    rw [e]; simp [r_are_forms, startE, isiB]
  · have e : areB (formOver ns) (.str z) = false := rfl
    rw [e]; simp [r_are_forms, startE, isiB]
  · have e : areB (formOver ns) (.tup xs) = xs.all (formOver ns) := rfl
    rw [e]
    have hl : loopC (asgN 2) tYesM (eCall (lenD 2 (den_is_form_over dIsForm)) (aCons (eVar 2) (aCons (eVar 1) aNil))) [] xs [some (.tup xs), some nd, none] mu = .ok (xs.map fun t => D.bl (formOver ns t)) mu := by
      refine loopC_map fun t ht => ⟨_, rfl, rfl, ?_⟩
      simp [is_form_over_ok (mu := mu) (hx t ht) hn]
    simp [r_are_forms, startE, isiB, noX_ok hl, gAll_map]
theorem law_are_forms_ok {n : Nat} {d nd : D} {ns : List Str} {mu : List MO} (h : Pd n d) (hn : NamesD nd ns) : den__law_are_forms (den__law_is_form den__law_is_int) [d, nd] mu = .ok (.vl (.bl (areB (lawForm ns) d))) mu := by
  refine noX_ok ?_
  rcases h.of with ⟨i, rfl⟩ | ⟨z, rfl⟩ | ⟨m, xs, _, rfl, _, hx⟩
  · have e : areB (lawForm ns) (.int i) = false := rfl
    rw [e]; simp [r__law_are_forms, startE, isiB]
  · have e : areB (lawForm ns) (.str z) = false := rfl
    rw [e]; simp [r__law_are_forms, startE, isiB]
  · have e : areB (lawForm ns) (.tup xs) = xs.all (lawForm ns) := rfl
    rw [e]
    have hl : loopC (asgN 2) tYesM (eCall (lenD 2 (den__law_is_form den__law_is_int)) (aCons (eVar 2) (aCons (eVar 1) aNil))) [] xs [some (.tup xs), some nd, none] mu = .ok (xs.map fun t => D.bl (lawForm ns t)) mu := by
      refine loopC_map fun t ht => ⟨_, rfl, rfl, ?_⟩
      simp [law_is_form_ok (mu := mu) (hx t ht) hn]
    simp [r__law_are_forms, startE, isiB, noX_ok hl, gAll_map]
theorem are_eq {ns : List Str} (hb : ∀ z ∈ ns, inS " " z = false) (d : D) : areB (formOver ns) d = areB (lawForm ns) d := by
  have e : formOver ns = lawForm ns := funext (formOver_eq hb)
  rw [e]
/-! are_pairs -/
def ckP (A B : List Str) (pre : List D) : D → Bool
  | .tup [a, b] => (inD (A.map D.str) a && inD (B.map D.str) b) && !inD pre (.tup [a, b])
  | _ => false
def pairsL (A B : List Str) : List D → List D → Bool
  | _, [] => true
  | pre, t :: r => if ckP A B pre t = true then pairsL A B (pre ++ [t]) r else false
def pairsB (A B : List Str) : D → Bool
  | .tup ts => pairsL A B [] ts
  | _ => false
theorem ckP_no {A B : List Str} {pre : List D} {t : D} (h : isTupN 2 t = false) : ckP A B pre t = false := by
  unfold ckP
  split
  · rename_i a b; cases h
  · rfl
theorem cutD_take {xs : List D} {k : Nat} : MP.cutD xs none (some (k : Int)) = xs.take k := by
  unfold MP.cutD
  rw [HT.sIx_none, HT.sIx_nat, List.drop_zero, Nat.sub_zero]
  by_cases h : k ≤ xs.length
  · rw [Nat.min_eq_left h]
  · rw [Nat.min_eq_right (by omega), List.take_length, List.take_of_length_le (by omega)]
@[simp] theorem gSl_tup {xs : List D} {lo hi : Option Int} {mu : List MO} : gSl (.tup xs) lo hi mu = .ok (.tup (MP.cutD xs lo hi)) mu := rfl
noncomputable def pairBody : MP.Env → M Fl :=
  (sSeq (eIf (bOr (bNot (eB (eCall (lenD 2 den_is_tuple) (aCons (eVar 4) (aCons (eC (.int 2)) aNil))))) (bOr (eB (eBin (gIn true) (eBin gIx (eVar 4) (eC (.int 0))) (eVar 1))) (eB (eBin (gIn true) (eBin gIx (eVar 4) (eC (.int 1))) (eVar 2)))))
  (sRet (eC (.bl false)))
  sNext)
  (eIf (eB (eBin (gIn false) (eVar 4) (eSl (eVar 0) oNone (oSome (eVar 3)))))
  (sRet (eC (.bl false)))
  sNext))
theorem pairBody_ok {n k : Nat} {xs : List D} {t na nb : D} {A B : List Str} {mu : List MO} (hA : NamesD na A) (hB : NamesD nb B) (ht : Pd n t) (hx : ∀ x ∈ xs, Pd n x) (hn : n < 60) :
    pairBody [some (.tup xs), some na, some nb, some (.int (k : Int)), some t] mu = if ckP A B (xs.take k) t = true then .ok (.nx [some (.tup xs), some na, some nb, some (.int (k : Int)), some t]) mu else .ok (.rt (.vl (.bl false))) mu := by
  have h2 := is_tuple_ok (k := 2) (mu := mu) ht
  rcases pair_cases ht with e | ⟨a, b, m, rfl, _, pa, pb⟩
  · rw [e] at h2
    rw [ckP_no e]
    simp [pairBody, h2]
  · have e2 : isTupN 2 (.tup [a, b]) = true := rfl
    rw [e2] at h2
    have ha := hA.gInD (neg := true) (mu := mu) pa.eqs.1
    have hb := hB.gInD (neg := true) (mu := mu) pb.eqs.1
    have hd := gIn_pd (neg := false) (d := .tup (xs.take k)) (mu := mu) rfl (fun y e => by cases e) ht.eqs.1 (Pd.lists fun y hy => hx y (List.mem_of_mem_take hy)) hn
    have e3 : ckP A B (xs.take k) (.tup [a, b]) = ((inD (A.map D.str) a && inD (B.map D.str) b) && !inD (xs.take k) (.tup [a, b])) := rfl
    rw [e3]
    cases c1 : inD (A.map D.str) a <;> cases c2 : inD (B.map D.str) b <;> cases c3 : inD (xs.take k) (.tup [a, b]) <;> rw [c1] at ha <;> rw [c2] at hb <;> rw [c3] at hd <;> simp [pairBody, h2, ha, hb, cutD_take, hd]
theorem enumD_cons {k : Int} {d : D} {ds : List D} : enumD k (d :: ds) = .tup [.int k, d] :: enumD (k + 1) ds := rfl
theorem pair_loop {n : Nat} {xs : List D} {na nb : D} {A B : List Str} {mu : List MO} (hA : NamesD na A) (hB : NamesD nb B) (hx : ∀ x ∈ xs, Pd n x) (hn : n < 60) : ∀ (ts : List D) (k : Nat) (o3 o4 : Option D), xs.drop k = ts →
    loopF (asgT 2 (asgCons (asgN 3) (asgCons (asgN 4) asgNil))) pairBody [3, 4] [] (enumD (k : Int) ts) [some (.tup xs), some na, some nb, o3, o4] mu = if pairsL A B (xs.take k) ts = true then .ok (.nx [some (.tup xs), some na, some nb, none, none]) mu else .ok (.rt (.vl (.bl false))) mu
  | [], k, o3, o4, _ => by
    have e : enumD (k : Int) [] = [] := rfl
    rw [e, loopF_nil, pairsL, if_pos rfl]; rfl
  | t :: ts, k, o3, o4, hd => by
    have hk : k < xs.length := by
      rcases Nat.lt_or_ge k xs.length with h | h
      · exact h
      · rw [List.drop_eq_nil_of_le h] at hd; cases hd
    have hget : xs[k]? = some t := by
      have e : (xs.drop k)[0]? = some t := by rw [hd]; rfl
      rw [List.getElem?_drop] at e; simpa using e
    have hds : xs.drop (k + 1) = ts := by
      have e := congrArg List.tail hd
      rw [List.tail_drop] at e
      exact e
    have htk : xs.take (k + 1) = xs.take k ++ [t] := by rw [List.take_add_one, hget]; rfl
    have ht : Pd n t := hx t (List.mem_of_getElem? hget)
    have ih := pair_loop hA hB hx hn (mu := mu) ts (k + 1) (some (.int (k : Int))) (some t) hds
    have hb := pairBody_ok (k := k) (mu := mu) hA hB ht hx hn
    have ek : ((k : Int) + 1) = ((k + 1 : Nat) : Int) := by omega
    rw [enumD_cons, loopF_cons]
    rw [htk, ← ek] at ih
    unfold pairsL
    by_cases c : ckP A B (xs.take k) t = true
    · rw [if_pos c] at hb ⊢
      simp [hb, ih]
    · rw [if_neg c] at hb ⊢
      simp [hb]
theorem are_pairs_ok {n : Nat} {d na nb : D} {A B : List Str} {mu : List MO} (hA : NamesD na A) (hB : NamesD nb B) (h : Pd n d) (hn : n < 60) : den_are_pairs den_is_tuple [d, na, nb] mu = .ok (.vl (.bl (pairsB A B d))) mu := by
  refine noX_ok ?_
  rcases h.of with ⟨i, rfl⟩ | ⟨z, rfl⟩ | ⟨m, xs, rfl, rfl, _, hx⟩
  · have e : pairsB A B (.int i) = false := rfl
    rw [e]; simp [r_are_pairs, startE, isiB]
  · have e : pairsB A B (.str z) = false := rfl
    rw [e]; simp [r_are_pairs, startE, isiB]
  · have e : pairsB A B (.tup xs) = pairsL A B [] xs := rfl
    rw [e]
    have hl := pair_loop hA hB hx (show m < 60 by omega) (mu := mu) xs 0 none none rfl
    unfold pairBody at hl
    rw [List.take_zero] at hl
    cases c : pairsL A B [] xs
    · rw [c, if_neg (by decide)] at hl
      simp at hl
      simp [r_are_pairs, startE, isiB, hl]
    · rw [c, if_pos rfl] at hl
      simp at hl
      simp [r_are_pairs, startE, isiB, hl]
end K06
namespace K06
open PySem L2 PyProof.Rows MP
noncomputable def lpBody : MP.Env → M Fl :=
  (sSeq (sSet 4 (eBin gIx (eVar 0) (eVar 3)))
  (sSeq (eIf (bOr (bNot (eB (eMap (gIsi "tuple") (eVar 4)))) (bOr (eB (eBin (gEq true) (aThen (g1 gLen) (aCons (eVar 4) aNil)) (eC (.int 2)))) (eB (eBin (gIn false) (eVar 4) (eSl (eVar 0) oNone (oSome (eVar 3)))))))
  (sRet (eC (.bl false)))
  sNext)
  (eIf (bOr (eB (eBin (gIn true) (eBin gIx (eVar 4) (eC (.int 0))) (eVar 1))) (eB (eBin (gIn true) (eBin gIx (eVar 4) (eC (.int 1))) (eVar 2))))
  (sRet (eC (.bl false)))
  sNext)))
theorem ixD_nat {xs : List D} {k : Nat} {t : D} {mu : List MO} (h : xs[k]? = some t) : ixD xs (k : Int) mu = .ok t mu := ixD_at (by
  have hk := (List.getElem?_eq_some_iff.mp h).1
  unfold atI ixN
  rw [if_pos (by omega), if_pos (by omega)]
  exact h)
theorem lpBody_ok {n k : Nat} {xs : List D} {t na nb : D} {A B : List Str} {o : Option D} {mu : List MO} (hA : NamesD na A) (hB : NamesD nb B) (ht : Pd n t) (hg : xs[k]? = some t) (hx : ∀ x ∈ xs, Pd n x) (hn : n < 60) :
    lpBody [some (.tup xs), some na, some nb, some (.int (k : Int)), o] mu = if ckP A B (xs.take k) t = true then .ok (.nx [some (.tup xs), some na, some nb, some (.int (k : Int)), some t]) mu else .ok (.rt (.vl (.bl false))) mu := by
  have hi := ixD_nat (mu := mu) hg
  rcases ht.of with ⟨i, rfl⟩ | ⟨z, rfl⟩ | ⟨m, ys, _, rfl, _, _⟩
  · rw [ckP_no rfl]
    simp [lpBody, hi, isiB]
  · rw [ckP_no rfl]
    simp [lpBody, hi, isiB]
  rcases pair_cases ht with e | ⟨a, b, m, e, _, pa, pb⟩
  · rw [ckP_no e]
    have e := len_not2 e
    simp [lpBody, hi, isiB, gEq_ints, e]
  · cases e
    have ha := hA.gInD (neg := true) (mu := mu) pa.eqs.1
    have hb := hB.gInD (neg := true) (mu := mu) pb.eqs.1
    have hd := gIn_pd (neg := false) (d := .tup (xs.take k)) (mu := mu) rfl (fun y e => by cases e) ht.eqs.1 (Pd.lists fun y hy => hx y (List.mem_of_mem_take hy)) hn
    have e3 : ckP A B (xs.take k) (.tup [a, b]) = ((inD (A.map D.str) a && inD (B.map D.str) b) && !inD (xs.take k) (.tup [a, b])) := rfl
    rw [e3]
    cases c1 : inD (A.map D.str) a <;> cases c2 : inD (B.map D.str) b <;> cases c3 : inD (xs.take k) (.tup [a, b]) <;> rw [c1] at ha <;> rw [c2] at hb <;> rw [c3] at hd <;> simp [lpBody, hi, isiB, gEq_ints, ha, hb, cutD_take, hd]
theorem lp_loop {n : Nat} {xs : List D} {na nb : D} {A B : List Str} {mu : List MO} (hA : NamesD na A) (hB : NamesD nb B) (hx : ∀ x ∈ xs, Pd n x) (hn : n < 60) : ∀ (ts : List D) (k : Nat) (o3 o4 : Option D), xs.drop k = ts →
    loopF (asgN 3) lpBody [3, 4] [] ((List.range' k ts.length).map fun (i : Nat) => D.int (i : Int)) [some (.tup xs), some na, some nb, o3, o4] mu = if pairsL A B (xs.take k) ts = true then .ok (.nx [some (.tup xs), some na, some nb, none, none]) mu else .ok (.rt (.vl (.bl false))) mu
  | [], k, o3, o4, _ => by
    show loopF _ _ _ [] [] _ mu = _
    rw [loopF_nil, pairsL, if_pos rfl]; rfl
  | t :: ts, k, o3, o4, hd => by
    have hk : k < xs.length := by
      rcases Nat.lt_or_ge k xs.length with h | h
      · exact h
      · rw [List.drop_eq_nil_of_le h] at hd; cases hd
    have hget : xs[k]? = some t := by
      have e : (xs.drop k)[0]? = some t := by rw [hd]; rfl
      rw [List.getElem?_drop] at e; simpa using e
    have hds : xs.drop (k + 1) = ts := by
      have e := congrArg List.tail hd
      rw [List.tail_drop] at e
      exact e
    have htk : xs.take (k + 1) = xs.take k ++ [t] := by rw [List.take_add_one, hget]; rfl
    have ht : Pd n t := hx t (List.mem_of_getElem? hget)
    have ih := lp_loop hA hB hx hn (mu := mu) ts (k + 1) (some (.int (k : Int))) (some t) hds
    have hb := lpBody_ok (k := k) (o := none) (mu := mu) hA hB ht hget hx hn
    rw [List.length_cons, List.range'_succ, List.map_cons, loopF_cons]
    rw [htk] at ih
    unfold pairsL
    by_cases c : ckP A B (xs.take k) t = true
    · rw [if_pos c] at hb ⊢
      simp [hb]
      exact ih
    · rw [if_neg c] at hb ⊢
      simp [hb]
theorem law_are_pairs_ok {n : Nat} {d na nb : D} {A B : List Str} {mu : List MO} (hA : NamesD na A) (hB : NamesD nb B) (h : Pd n d) (hn : n < 60) : den__law_are_pairs [d, na, nb] mu = .ok (.vl (.bl (pairsB A B d))) mu := by
  refine noX_ok ?_
  rcases h.of with ⟨i, rfl⟩ | ⟨z, rfl⟩ | ⟨m, xs, rfl, rfl, hlen, hx⟩
  · have e : pairsB A B (.int i) = false := rfl
    rw [e]; simp [r__law_are_pairs, startE, isiB]
  · have e : pairsB A B (.str z) = false := rfl
    rw [e]; simp [r__law_are_pairs, startE, isiB]
  · have e : pairsB A B (.tup xs) = pairsL A B [] xs := rfl
    rw [e]
    have hl := lp_loop hA hB hx (show m < 60 by omega) (mu := mu) xs 0 none none rfl
    have er : rngD 0 xs.length = (List.range' 0 xs.length).map fun (i : Nat) => D.int (i : Int) := by
      unfold rngD
      rw [List.range_eq_range']
      exact List.map_congr_left fun i _ => by rw [Int.zero_add]
    rw [← er] at hl
    unfold lpBody at hl
    rw [List.take_zero] at hl
    have hw := wRng1_ok (n := (xs.length : Int)) (mu := mu) (by omega)
    have hnn : ((xs.length : Int)).toNat = xs.length := by omega
    rw [hnn] at hw
    cases c : pairsL A B [] xs
    · rw [c, if_neg (by decide)] at hl
      simp [r__law_are_pairs, startE, isiB, hw, hl]
    · rw [c, if_pos rfl] at hl
      simp [r__law_are_pairs, startE, isiB, hw, hl]
end K06
namespace K06
open PySem L2 PyProof.Rows MP
/-! ### the drawn procedures -/
inductive Bs where
  | set (x : Str) | push (x : Str) | store (x : Str)
structure Pr where
  name : Str
  items : List (Bool × Str)
  results : List Str
  places : List (Bool × Str)
  body : List Bs
def numD (i : Int) : D := .tup [.str "number", .int i]
def bsD : Bs → D
  | .set x => .tup [.str "set", .tup [.tup [.str x, numD 2]]]
  | .push x => .tup [.str "push", numD 1, .str x]
  | .store x => .tup [.str "store", .str x, numD 0, numD 1]
def kindS (b : Bool) : Str := if b = true then "array" else "int"
def itemD (p : Bool × Str) : D := .tup [.str (kindS p.1), .str p.2]
def procD (p : Pr) : D := .tup [.str p.name, .tup (p.items.map itemD), .tup (p.results.map D.str), .tup (p.places.map itemD), .tup [], .tup [], .tup [], .tup [], .tup (p.body.map bsD)]
def coreD (ps : List Pr) : D := .tup (ps.map procD)
def bsK : Bs → Str
  | .set _ => "set"
  | .push _ => "push"
  | .store _ => "store"
theorem gEq_strs {neg : Bool} {x y : Str} {mu : List MO} : gEq neg (.str x) (.str y) mu = .ok (.bl ((x == y) != neg)) mu := by
  unfold gEq
  simp [okE, dep, eqD]
@[simp] theorem ixD4 {a b c e x : D} {xs : List D} {mu : List MO} : ixD (a :: b :: c :: e :: x :: xs) 4 mu = .ok x mu := ixD_nat (k := 4) rfl
@[simp] theorem ixD5 {a b c e f x : D} {xs : List D} {mu : List MO} : ixD (a :: b :: c :: e :: f :: x :: xs) 5 mu = .ok x mu := ixD_nat (k := 5) rfl
@[simp] theorem ixD8 {a b c e f g h i x : D} {xs : List D} {mu : List MO} : ixD (a :: b :: c :: e :: f :: g :: h :: i :: x :: xs) 8 mu = .ok x mu := ixD_nat (k := 8) rfl
theorem proc_named_ok {ps : List Pr} {n : Str} {p : Pr} {mu : List MO} (h : ps.find? (fun q => q.name == n) = some p) : den_proc_named [coreD ps, .str n] mu = .ok (.vl (procD p)) mu := by
  refine noX_ok ?_
  have hl : loopC (asgN 2) (eB (eBin (gEq false) (eBin gIx (eVar 2) (eC (.int 0))) (eVar 1))) (eVar 2) [] (ps.map procD) [some (coreD ps), some (.str n), none] mu = .ok ((ps.filter fun q => q.name == n).map procD) mu := by
    refine loopC_filter' fun q hq => ⟨_, rfl, ?_, fun _ => ?_⟩
    · simp [procD, gEq_strs]
    · simp
  have e : ∃ r, ps.filter (fun q => q.name == n) = p :: r := by
    rw [← List.head?_filter] at h
    cases hf : ps.filter (fun q => q.name == n) with
    | nil => rw [hf] at h; cases h
    | cons q r => rw [hf] at h; cases h; exact ⟨r, rfl⟩
  obtain ⟨r, hr⟩ := e
  rw [hr] at hl
  have w : coreD ps = .tup (ps.map procD) := rfl
  rw [w] at hl
  simp [r_proc_named, startE, w, noX_ok hl]
/-- statements_in of a body without blocks -/
noncomputable def stmtL : Nat → List D → M Rv
  | 0 => fun _ _ => .bad
  | n + 1 => fgt (den_statements_in (stmtL n))
theorem mem_kinds {b : Bs} {mu : List MO} : gIn false (.str (bsK b)) (.tup [.str "if", .str "while"]) mu = .ok (.bl false) mu := by
  have e := gIn_names (neg := false) (z := bsK b) (ns := ["if", "while"]) (d := .tup [.str "if", .str "while"]) (mu := mu) rfl (fun y e => by cases e)
  rw [e]
  cases b <;> rfl
theorem bs_head {b : Bs} : ∃ r, bsD b = .tup (.str (bsK b) :: r) := by cases b <;> exact ⟨_, rfl⟩
theorem stmts_loop {n : Nat} {d : D} {ds : List D → M Rv} : ∀ (bs : List Bs) (acc : List D) (mu1 : List MO) (o2 o3 : Option D), n = mu1.length → acc.length + bs.length < 1000 →
    loopF (asgN 2) (sSeq (sExpr (eMeth lstK gAppend (eVar 1) (aCons (eVar 2) aNil)))
  (eIf (eB (eBin (gIn false) (eBin gIx (eVar 2) (eC (.int 0))) (aThen gTup (aCons (eC (.str "if")) (aCons (eC (.str "while")) aNil)))))
  (sFor (eWalk (eSl (eVar 2) (oSome (eC (.int 2))) oNone)) (asgN 3)
  (sExpr (eMeth lstK gExtend (eVar 1) (aCons (eCall (lenD 1 ds) (aCons (eVar 3) aNil)) aNil))) [3])
  sNext)) [2] [] (bs.map bsD) [some d, some (.ref n), o2, o3] (mu1 ++ [.lst acc]) = .ok (.nx [some d, some (.ref n), none, o3]) (mu1 ++ [.lst (acc ++ bs.map bsD)])
  | [], acc, mu1, o2, o3, hn, _ => by
    show loopF _ _ _ [] [] _ _ = _
    rw [loopF_nil, List.map_nil, List.append_nil]; rfl
  | b :: bs, acc, mu1, o2, o3, hn, hl => by
    have ih := stmts_loop (n := n) (d := d) (ds := ds) bs (acc ++ [bsD b]) mu1 (some (bsD b)) o3 hn (by simp at hl ⊢; omega)
    have hg := get_last (x := .lst acc) hn
    have ha := append_ok (d := bsD b) hg (by rw [List.length_cons] at hl; rw [sizeLine_eq]; omega)
    rw [set_last hn] at ha
    obtain ⟨r, hr⟩ := bs_head (b := b)
    have e2 : (2 : Nat) ≤ sizeLine := by decide
    rw [List.map_cons, loopF_cons]
    rw [hr] at ha ih ⊢
    simp [lstK_ref hg, ha, gTup_ok, e2, mem_kinds]
    simpa using ih
theorem stmts_ok {bs : List Bs} {n : Nat} {mu : List MO} (hl : bs.length < 1000) (hc : CloH mu) : stmtL (n + 1) [.tup (bs.map bsD)] mu = .ok (.fr (bs.map bsD)) mu := by
  have h1 := stmts_loop (n := mu.length) (d := .tup (bs.map bsD)) (ds := stmtL n) bs [] mu none none rfl (by simpa using hl)
  rw [List.nil_append] at h1
  have e : den_statements_in (stmtL n) [.tup (bs.map bsD)] mu = .ok (.vl (.ref mu.length)) (mu ++ [.lst (bs.map bsD)]) := by
    refine noX_ok ?_
    simp [r_statements_in, startE, h1]
  refine fgt_list e rfl hc (Nat.le_refl _) (get_last rfl) (flats_clo _ (flats_of fun d hd => ?_))
  obtain ⟨b, _, e⟩ := List.mem_map.mp hd
  subst e
  cases b <;> rfl
end K06
namespace K06
open PySem L2 PyProof.Rows MP
/-- _law_statements of a body without blocks -/
noncomputable def lstmtL : Nat → List D → M Rv
  | 0 => fun _ _ => .bad
  | n + 1 => fgt (den__law_statements (lstmtL n))
theorem lstmts_loop {n : Nat} {d : D} {ds : List D → M Rv} : ∀ (bs : List Bs) (acc : List D) (mu1 : List MO) (o2 : Option D), n = mu1.length → acc.length + bs.length < 1000 →
    loopF (asgN 2) (sSeq (sExpr (eMeth lstK gAppend (eVar 1) (aCons (eVar 2) aNil)))
  (eIf (eB (eBin (gEq false) (eBin gIx (eVar 2) (eC (.int 0))) (eC (.str "while"))))
  (sSet 1 (eNew (fCat (eVar 1) (eCall (lenD 1 ds) (aCons (eBin gIx (eVar 2) (eC (.int 2))) aNil)))))
  (eIf (eB (eBin (gEq false) (eBin gIx (eVar 2) (eC (.int 0))) (eC (.str "if"))))
  (sSet 1 (eNew (fCat (eBin gAdd (eVar 1) (eCall (lenD 1 ds) (aCons (eBin gIx (eVar 2) (eC (.int 2))) aNil))) (eCall (lenD 1 ds) (aCons (eBin gIx (eVar 2) (eC (.int 3))) aNil)))))
  sNext))) [2] [] (bs.map bsD) [some d, some (.ref n), o2] (mu1 ++ [.lst acc]) = .ok (.nx [some d, some (.ref n), none]) (mu1 ++ [.lst (acc ++ bs.map bsD)])
  | [], acc, mu1, o2, hn, _ => by
    show loopF _ _ _ [] [] _ _ = _
    rw [loopF_nil, List.map_nil, List.append_nil]; rfl
  | b :: bs, acc, mu1, o2, hn, hl => by
    have ih := lstmts_loop (n := n) (d := d) (ds := ds) bs (acc ++ [bsD b]) mu1 (some (bsD b)) hn (by simp at hl ⊢; omega)
    have hg := get_last (x := .lst acc) hn
    have ha := append_ok (d := bsD b) hg (by rw [List.length_cons] at hl; rw [sizeLine_eq]; omega)
    rw [set_last hn] at ha
    obtain ⟨r, hr⟩ := bs_head (b := b)
    have e1 : (bsK b == Str.ofString "while") = false := by cases b <;> rfl
    have e2 : (bsK b == Str.ofString "if") = false := by cases b <;> rfl
    rw [List.map_cons, loopF_cons]
    rw [hr] at ha ih ⊢
    simp [lstK_ref hg, ha, gEq_strs, e1, e2]
    simpa using ih
theorem lstmts_ok {bs : List Bs} {n : Nat} {mu : List MO} (hl : bs.length < 1000) (hc : CloH mu) : lstmtL (n + 1) [.tup (bs.map bsD)] mu = .ok (.fr (bs.map bsD)) mu := by
  have h1 := lstmts_loop (n := mu.length) (d := .tup (bs.map bsD)) (ds := lstmtL n) bs [] mu none rfl (by simpa using hl)
  rw [List.nil_append] at h1
  have e : den__law_statements (lstmtL n) [.tup (bs.map bsD)] mu = .ok (.vl (.ref mu.length)) (mu ++ [.lst (bs.map bsD)]) := by
    refine noX_ok ?_
    simp [r__law_statements, startE, h1]
  refine fgt_list e rfl hc (Nat.le_refl _) (get_last rfl) (flats_clo _ (flats_of fun d hd => ?_))
  obtain ⟨b, _, e⟩ := List.mem_map.mp hd
  subst e
  cases b <;> rfl
/-! ### what a body moves -/
def hash (x : Str) : Str := "#" ++ x
def mvB : Bs → List Str
  | .set x => [x]
  | .push x => [hash x]
  | .store _ => []
def bsW : Bs → Str
  | .set x => x
  | .push x => x
  | .store x => x
def mv (bs : List Bs) : List Str := bs.flatMap mvB
theorem hash_ok {x : Str} {mu : List MO} (h : x.length ≤ 1000) : gAdd (.str "#") (.str x) mu = .ok (.str (hash x)) mu := by
  have e : (Str.ofString "#").length = 1 := by decide +kernel
  rw [gAdd_str, if_pos (by rw [e, sizeLine_eq]; omega)]; rfl
theorem extend_ok {n : Nat} {xs ys : List D} {d : D} {mu : List MO} (h : mu[n]? = some (.lst xs)) (hd : rdM d mu = .ok ys mu) (hz : xs.length + ys.length ≤ sizeLine) : gExtend (.ref n) [d] mu = .ok .non (mu.set n (.lst (xs ++ ys))) := by
  show (rdM d >>= fun zs => modL n fun xs => if xs.length + zs.length ≤ sizeLine then some (xs ++ zs, .non) else none) mu = _
  rw [bind_ap, hd]
  exact modL_at h (by rw [if_pos hz])
theorem assigned_loop {n : Nat} {d : D} : ∀ (bs : List Bs) (acc : List Str) (mu1 : List MO) (o2 : Option D), n = mu1.length → acc.length + bs.length < 1000 → (∀ b ∈ bs, (bsW b).length ≤ 1000) →
    loopF (asgN 2) (eIf (eB (eBin (gEq false) (eBin gIx (eVar 2) (eC (.int 0))) (eC (.str "set"))))
  (sExpr (eMeth lstK gExtend (eVar 1) (aCons (eFl (fComp (eWalk (eBin gIx (eVar 2) (eC (.int 1)))) (asgT 2 (asgCons (asgN 3) (asgCons (asgN 4) asgNil))) tYesM (eVar 3) [3, 4])) aNil)))
  (eIf (eB (eBin (gEq false) (eBin gIx (eVar 2) (eC (.int 0))) (eC (.str "pop"))))
  (sExpr (eMeth lstK gExtend (eVar 1) (aCons (eFl (aList (aCons (eBin gIx (eVar 2) (eC (.int 1))) (aCons (eBin gAdd (eC (.str "#")) (eBin gIx (eVar 2) (eC (.int 2)))) aNil)))) aNil)))
  (eIf (eB (eBin (gEq false) (eBin gIx (eVar 2) (eC (.int 0))) (eC (.str "push"))))
  (sExpr (eMeth lstK gAppend (eVar 1) (aCons (eBin gAdd (eC (.str "#")) (eBin gIx (eVar 2) (eC (.int 2)))) aNil)))
  (eIf (eB (eBin (gEq false) (eBin gIx (eVar 2) (eC (.int 0))) (eC (.str "call"))))
  (sExpr (eMeth lstK gExtend (eVar 1) (aCons (eBin gIx (eVar 2) (eC (.int 3))) aNil)))
  sNext)))) [2] [] (bs.map bsD) [some d, some (.ref n), o2, none, none] (mu1 ++ [.lst (acc.map D.str)]) = .ok (.nx [some d, some (.ref n), none, none, none]) (mu1 ++ [.lst ((acc ++ mv bs).map D.str)])
  | [], acc, mu1, o2, hn, _, _ => by
    show loopF _ _ _ [] [] _ _ = _
    rw [loopF_nil]
    simp [mv]
  | b :: bs, acc, mu1, o2, hn, hl, hw => by
    have hlb : (mvB b).length ≤ 1 := by cases b <;> simp [mvB]
    have ih := assigned_loop (n := n) (d := d) bs (acc ++ mvB b) mu1 (some (bsD b)) hn (by simp at hl ⊢; omega) (fun x hx => hw x (by simp [hx]))
    have hg := get_last (x := .lst (acc.map D.str)) hn
    have hwb := hw b (by simp)
    have hs : (acc.map D.str).length + 1 ≤ sizeLine := by rw [List.length_map, sizeLine_eq]; rw [List.length_cons] at hl; omega
    rw [List.map_cons, loopF_cons]
    cases b with
    | set x =>
      have hc : loopC (asgT 2 (asgCons (asgN 3) (asgCons (asgN 4) asgNil))) tYesM (eVar 3) [] [.tup [.str x, numD 2]] [some d, some (.ref n), some (bsD (.set x)), none, none] (mu1 ++ [.lst (acc.map D.str)]) = .ok [.str x] (mu1 ++ [.lst (acc.map D.str)]) := by
        refine loopC_yes (mu1 := mu1 ++ [.lst (acc.map D.str)]) (env1 := [some d, some (.ref n), some (bsD (.set x)), some (.str x), some (numD 2)]) ?_ rfl ?_ loopC_nil
        · simp
        · simp
      have he := extend_ok (d := .fl [.str x]) (ys := [.str x]) hg rfl hs
      rw [set_last hn] at he
      have w : bsD (.set x) = .tup [.str "set", .tup [.tup [.str x, numD 2]]] := rfl
      rw [w] at hc ih
      simp [w, gEq_strs, lstK_ref hg, noX_ok hc, he]
      simpa [mvB, mv] using ih
    | push x =>
      have ha := append_ok (d := .str (hash x)) hg (by omega)
      rw [set_last hn] at ha
      have w : bsD (.push x) = .tup [.str "push", numD 1, .str x] := rfl
      have e1 : (Str.ofString "push" == Str.ofString "set") = false := by decide +kernel
      have e2 : (Str.ofString "push" == Str.ofString "pop") = false := by decide +kernel
      have hx : x.length ≤ 1000 := hwb
      rw [w] at ih
      simp [w, gEq_strs, e1, e2, lstK_ref hg, hash_ok hx, ha, -gAdd_str]
      simpa [mvB, mv] using ih
    | store x =>
      have w : bsD (.store x) = .tup [.str "store", .str x, numD 0, numD 1] := rfl
      have e1 : (Str.ofString "store" == Str.ofString "set") = false := by decide +kernel
      have e2 : (Str.ofString "store" == Str.ofString "pop") = false := by decide +kernel
      have e3 : (Str.ofString "store" == Str.ofString "push") = false := by decide +kernel
      have e4 : (Str.ofString "store" == Str.ofString "call") = false := by decide +kernel
      rw [w] at ih
      simp [w, gEq_strs, e1, e2, e3, e4]
      simpa [mvB, mv] using ih
end K06
namespace MP
open PySem L2 PyProof.Rows
mutual
theorem Clo.mono {k k' : Nat} (h : k ≤ k') : ∀ (d : D), Clo k d → Clo k' d
  | .non, _ => Clo.non
  | .bl _, _ => Clo.bl
  | .int _, _ => Clo.int
  | .str _, _ => Clo.str
  | .tup xs, c => Clo.tup.mpr (Clos.mono h xs (Clo.tup.mp c))
  | .fl xs, c => Clo.fl.mpr (Clos.mono h xs (Clo.fl.mp c))
  | .ro xs, c => Clo.ro.mpr (Clos.mono h xs (Clo.ro.mp c))
  | .fd ks xs, c => Clo.fd.mpr (Clos.mono h xs (Clo.fd.mp c))
  | .ref n, c => Clo.ref.mpr (Nat.lt_of_lt_of_le (Clo.ref.mp c) h)
theorem Clos.mono {k k' : Nat} (h : k ≤ k') : ∀ (ds : List D), Clos k ds → Clos k' ds
  | [], _ => Clos.nil
  | d :: ds, c => Clos.cons (Clo.mono h d c.inv.1) (Clos.mono h ds c.inv.2)
end
theorem CloO.mono {k k' : Nat} (h : k ≤ k') {o : MO} (c : CloO k o) : CloO k' o := by
  cases o with
  | lst xs => exact Clos.mono h xs c
  | dk kvs => exact Clos.mono h _ c
theorem CloH.snoc {mu : List MO} {o : MO} (h : CloH mu) (ho : CloO (mu.length + 1) o) : CloH (mu ++ [o]) := fun x hx => by
  have e : (mu ++ [o]).length = mu.length + 1 := by simp
  rw [e]
  rcases List.mem_append.mp hx with z | z
  · exact (h x z).mono (by omega)
  · rw [List.mem_singleton.mp z]; exact ho
theorem CloH.snoc_flat {mu : List MO} {xs : List D} (h : CloH mu) (hf : flats xs = true) : CloH (mu ++ [.lst xs]) := h.snoc (show CloO _ (.lst xs) from flats_clo xs hf)
theorem strs_flat (ns : List Str) : flats (ns.map D.str) = true := flats_of fun d hd => by
  obtain ⟨z, _, e⟩ := List.mem_map.mp hd
  rw [← e]; rfl
theorem loopW_go {c : Env → M Bool} {body : Env → M Fl} {fg : List Nat} {n : Nat} {env e : Env} {mu mu1 mu2 : List MO} (h1 : c (wipeE env fg) mu = .ok true mu1) (h2 : body (wipeE env fg) mu1 = .ok (.nx e) mu2) : loopW c body fg (n + 1) env mu = loopW c body fg n e mu2 := by
  simp [loopW, h1, h2]
theorem loopW_stop {c : Env → M Bool} {body : Env → M Fl} {fg : List Nat} {n : Nat} {env : Env} {mu mu1 : List MO} (h1 : c (wipeE env fg) mu = .ok false mu1) : loopW c body fg (n + 1) env mu = .ok (.nx (wipeE env fg)) mu1 := by
  simp [loopW, h1]
end MP
namespace K06
open PySem L2 PyProof.Rows MP
noncomputable def asgD : List D → M Rv := fgt (den_assigned_in (stmtL 1))
structure PrOk (p : Pr) : Prop where
  len : p.body.length < 1000
  wd : ∀ b ∈ p.body, (bsW b).length ≤ 1000
theorem assigned_ok {p : Pr} {mu : List MO} (hp : PrOk p) (hc : CloH mu) : asgD [procD p] mu = .ok (.fr ((mv p.body).map D.str)) mu := by
  have h0 := stmts_ok (n := 0) hp.len (hc.snoc_flat (xs := []) rfl)
  have h1 := assigned_loop (n := mu.length) (d := procD p) p.body [] mu none rfl (by simpa using hp.len) hp.wd
  rw [List.map_nil, List.nil_append] at h1
  have w : procD p = .tup [.str p.name, .tup (p.items.map itemD), .tup (p.results.map D.str), .tup (p.places.map itemD), .tup [], .tup [], .tup [], .tup [], .tup (p.body.map bsD)] := rfl
  have e : den_assigned_in (stmtL 1) [procD p] mu = .ok (.vl (.ref mu.length)) (mu ++ [.lst ((mv p.body).map D.str)]) := by
    refine noX_ok ?_
    rw [w] at h1 ⊢
    simp [r_assigned_in, startE, h0, h1]
  exact fgt_list e rfl hc (Nat.le_refl _) (get_last rfl) (flats_clo _ (strs_flat _))
noncomputable def passD : List D → M Rv := fgt (den_passed_on (stmtL 1) den_proc_named)
theorem no_call {b : Bs} : (bsK b == Str.ofString "call") = false := by cases b <;> rfl
theorem pass_loop {body : MP.Env → M Fl} {c m p r : D} {mu : List MO} : ∀ (bs : List Bs) (o4 : Option D),
    loopF (asgN 4) (eIf (eB (eBin (gEq false) (eBin gIx (eVar 4) (eC (.int 0))) (eC (.str "call")))) body sNext) [4] [] (bs.map bsD) [some c, some m, some p, some r, o4, none, none, none] mu = .ok (.nx [some c, some m, some p, some r, none, none, none, none]) mu
  | [], o4 => by
    show loopF _ _ _ [] [] _ _ = _
    rw [loopF_nil]; rfl
  | b :: bs, o4 => by
    have ih := pass_loop (body := body) (c := c) (m := m) (p := p) (r := r) (mu := mu) bs (some (bsD b))
    obtain ⟨q, hq⟩ := bs_head (b := b)
    rw [List.map_cons, loopF_cons]
    rw [hq] at ih ⊢
    simp [gEq_strs, no_call]
    exact ih
theorem passed_ok {p : Pr} {c m : D} {mu : List MO} (hp : PrOk p) (hc : CloH mu) : passD [c, m, procD p] mu = .ok (.fr []) mu := by
  have h0 := stmts_ok (n := 0) hp.len (hc.snoc_flat (xs := []) rfl)
  have w : procD p = .tup [.str p.name, .tup (p.items.map itemD), .tup (p.results.map D.str), .tup (p.places.map itemD), .tup [], .tup [], .tup [], .tup [], .tup (p.body.map bsD)] := rfl
  have e : den_passed_on (stmtL 1) den_proc_named [c, m, procD p] mu = .ok (.vl (.ref mu.length)) (mu ++ [.lst []]) := by
    refine noX_ok ?_
    rw [w]
    simp [r_passed_on, startE, h0, pass_loop]
  exact fgt_list e rfl hc (Nat.le_refl _) (get_last rfl) Clos.nil
/-- the table of what moves -/
def tabL : List (Key × D) → List Pr → List (Key × D)
  | acc, [] => acc
  | acc, p :: r => tabL (putD acc (.inr p.name) (.fl ((mv p.body).map D.str))) r
end K06
namespace MP
open PySem L2 PyProof.Rows
section
variable {asg : D → Env → M Env} {t : Env → M Bool} {rk r : Env → M D} {env : Env} {mu : List MO}
theorem loopCD_nil {acc : List (Key × D)} : loopCD asg t rk r [] [] env acc mu = .ok acc mu := by
  show ((chk [] : M Unit) >>= fun _ => (pure acc : M (List (Key × D)))) mu = _
  rw [bind_ap, chk_nil]; rfl
theorem loopCD_yes {d x y : D} {ds : List D} {acc : List (Key × D)} {env1 : Env} {k : Key} {mu1 mu2 mu3 : List MO} (h1 : asg d env mu = .ok env1 mu1) (h2 : t env1 mu1 = .ok true mu1) (h3 : rk env1 mu1 = .ok y mu2) (h4 : r env1 mu2 = .ok x mu3) (h5 : toK y mu3 = .ok k mu3) :
    loopCD asg t rk r [] (d :: ds) env acc mu = loopCD asg t rk r [] ds env (putD acc k x) mu3 := by
  show ((chk [] : M Unit) >>= fun _ => asg d env >>= fun env1 => t env1 >>= fun b => if b = true then (rk env1 >>= fun y => r env1 >>= fun x => toK y >>= fun k => loopCD asg t rk r [] ds env (putD acc k x)) else loopCD asg t rk r [] ds env acc) mu = _
  rw [bind_ap, chk_nil]
  simp [h1, h2, h3, h4, h5]
end
end MP
namespace K06
open PySem L2 PyProof.Rows MP
theorem procD_name {p : Pr} {mu : List MO} : gIx (procD p) (.int 0) mu = .ok (.str p.name) mu := by simp [procD]
theorem tab_comp {env : MP.Env} {mu : List MO} (hc : CloH mu) (hi : env.length = 5) : ∀ (ps : List Pr) (acc : List (Key × D)), (∀ p ∈ ps, PrOk p) →
    loopCD (asgN 3) tYesM (eBin gIx (eVar 3) (eC (.int 0))) (eCall (lenD 1 asgD) (aCons (eVar 3) aNil)) [] (ps.map procD) env acc mu = .ok (tabL acc ps) mu
  | [], acc, _ => loopCD_nil
  | p :: ps, acc, h => by
    have hp := h p (by simp)
    have hg : (env.set 3 (some (procD p)))[3]? = some (some (procD p)) := List.getElem?_set_self (by omega)
    have ha := assigned_ok hp hc
    rw [List.map_cons, loopCD_yes (env1 := env.set 3 (some (procD p))) (mu1 := mu) (mu2 := mu) (mu3 := mu) (y := .str p.name) (x := .fl ((mv p.body).map D.str)) (k := .inr p.name) rfl rfl (by simp [hg, procD_name]) (by simp [hg, ha]) rfl]
    exact tab_comp hc hi ps _ fun q hq => h q (by simp [hq])
theorem tabL_flat : ∀ (ps : List Pr) (acc : List (Key × D)), (∀ q ∈ acc, flat q.2 = true) → ∀ q ∈ tabL acc ps, flat q.2 = true
  | [], acc, h, q, hq => h q hq
  | p :: ps, acc, h, q, hq => by
    refine tabL_flat ps _ (fun x hx => ?_) q hq
    unfold putD at hx
    split at hx
    · unfold mapV at hx
      obtain ⟨y, hy, e⟩ := List.mem_map.mp hx
      split at e
      · rw [← e]; exact strs_flat _
      · rw [← e]; exact h y hy
    · rcases List.mem_append.mp hx with z | z
      · exact h x z
      · rw [List.mem_singleton.mp z]; exact strs_flat _
/-- the table as a datum -/
def tabD (ps : List Pr) : D := .fd ((tabL [] ps).map (·.1)) ((tabL [] ps).map (·.2))
noncomputable def movD : List D → M Rv := fgt (den_moving_table asgD passD)
theorem mov_loop {c r : D} {mu : List MO} (hc : CloH mu) : ∀ (ps : List Pr) (o3 : Option D), (∀ p ∈ ps, PrOk p) →
    loopF (asgN 3) (sFor (eWalk (eCall (lenD 3 passD) (aCons (eVar 0) (aCons (eVar 1) (aCons (eVar 3) aNil))))) (asgN 4)
  (eIf (eB (eBin (gIn true) (eVar 4) (eBin gDget (eVar 1) (eBin gIx (eVar 3) (eC (.int 0))))))
  (sSeq (sExpr (eMeth lstK gAppend (eBin gDget (eVar 1) (eBin gIx (eVar 3) (eC (.int 0)))) (aCons (eVar 4) aNil)))
  (sSet 2 (eC (.bl true))))
  sNext) [4]) [3, 4] [] (ps.map procD) [some c, some r, some (.bl false), o3, none] mu = .ok (.nx [some c, some r, some (.bl false), none, none]) mu
  | [], o3, _ => by
    show loopF _ _ _ [] [] _ _ = _
    rw [loopF_nil]; rfl
  | p :: ps, o3, h => by
    have ih := mov_loop (c := c) (r := r) hc ps (some (procD p)) fun q hq => h q (by simp [hq])
    have hp := passed_ok (c := c) (m := r) (h p (by simp)) hc
    rw [List.map_cons, loopF_cons]
    simp [hp, loopF_nil]
    exact ih
theorem mov_ok {ps : List Pr} {mu : List MO} (hps : ∀ p ∈ ps, PrOk p) (hc : CloH mu) : movD [coreD ps] mu = .ok (.vl (tabD ps)) mu := by
  have hf := tabL_flat ps [] (by simp)
  have hfl : flats ((tabL [] ps).map (·.2)) = true := flats_of fun d hd => by
    obtain ⟨q, hq, e⟩ := List.mem_map.mp hd
    rw [← e]; exact hf q hq
  have hc1 : CloH (mu ++ [.dk (tabL [] ps)]) := hc.snoc (show CloO _ (.dk _) from flats_clo _ hfl)
  have h1 := tab_comp (env := [some (coreD ps), none, none, none, none]) hc rfl ps [] hps
  have h2 := mov_loop (c := coreD ps) (r := .ref mu.length) hc1 ps none hps
  have w : coreD ps = .tup (ps.map procD) := rfl
  have hl : lid = 999999999998 + 1 + 1 := by decide
  have e : den_moving_table asgD passD [coreD ps] mu = .ok (.vl (.ref mu.length)) (mu ++ [.dk (tabL [] ps)]) := by
    refine noX_ok ?_
    rw [w] at h1 h2 ⊢
    have hw : sWhile (eB (eVar 2)) (sSeq (sSet 2 (eC (.bl false)))
  (sFor (eWalk (eVar 0)) (asgN 3)
  (sFor (eWalk (eCall (lenD 3 passD) (aCons (eVar 0) (aCons (eVar 1) (aCons (eVar 3) aNil))))) (asgN 4)
  (eIf (eB (eBin (gIn true) (eVar 4) (eBin gDget (eVar 1) (eBin gIx (eVar 3) (eC (.int 0))))))
  (sSeq (sExpr (eMeth lstK gAppend (eBin gDget (eVar 1) (eBin gIx (eVar 3) (eC (.int 0)))) (aCons (eVar 4) aNil)))
  (sSet 2 (eC (.bl true))))
  sNext) [4]) [3, 4])) [3] [some (.tup (ps.map procD)), some (.ref mu.length), some (.bl true), none, none] (mu ++ [.dk (tabL [] ps)]) = .ok (.nx [some (.tup (ps.map procD)), some (.ref mu.length), some (.bl false), none, none]) (mu ++ [.dk (tabL [] ps)]) := by
      unfold sWhile
      rw [hl, loopW_go (mu1 := mu ++ [.dk (tabL [] ps)]) (mu2 := mu ++ [.dk (tabL [] ps)]) (e := [some (.tup (ps.map procD)), some (.ref mu.length), some (.bl false), none, none]) (by simp) (by simp; exact h2)]
      rw [loopW_stop (mu1 := mu ++ [.dk (tabL [] ps)]) (by simp)]
      rfl
    simp [r_moving_table, startE, noX_ok h1, hw]
  refine fgt_vl e rfl (fun n xs e1 e2 => ?_) (hc.frz _) (.dk (Nat.le_refl _) trivial (get_last rfl) (flats_clo _ hfl _ _))
  cases e1
  rw [get_last rfl] at e2
  cases e2
end K06
namespace MP
open PySem L2 PyProof.Rows
/-- a dict's values, one by one -/
def mapK {α β : Type} (f : α → β) (l : List (Key × α)) : List (Key × β) := l.map fun p => (p.1, f p.2)
theorem mapK_put {α β : Type} {f : α → β} {l : List (Key × α)} {k : Key} {x : α} : putD (mapK f l) k (f x) = mapK f (putD l k x) := by
  unfold putD
  have e : ((mapK f l).any fun kv => decide (kv.1 = k)) = l.any fun kv => decide (kv.1 = k) := by unfold mapK; rw [List.any_map]; rfl
  rw [e]
  split
  · unfold mapV mapK
    rw [List.map_map, List.map_map]
    apply List.map_congr_left
    intro p _
    show (if p.1 = k then (p.1, f x) else (p.1, f p.2)) = ((if p.1 = k then (p.1, x) else p).1, f (if p.1 = k then (p.1, x) else p).2)
    split <;> rfl
  · unfold mapK; rw [List.map_append]; rfl
theorem mapK_val {α β : Type} {f : α → β} {k : Key} : ∀ (l : List (Key × α)), valG (mapK f l) k = (valG l k).map f
  | [] => rfl
  | p :: r => by
    have e : valG (mapK f (p :: r)) k = valG ((p.1, f p.2) :: mapK f r) k := rfl
    rw [e]
    by_cases h : p.1 = k
    · rw [valG_pos (p := (p.1, f p.2)) h, valG_pos h]; rfl
    · rw [valG_neg (p := (p.1, f p.2)) h, valG_neg h]; exact mapK_val r
theorem str_assoc (a b c : Str) : (a ++ b) ++ c = a ++ (b ++ c) := by
  show (⟨(a.cps ++ b.cps) ++ c.cps⟩ : Str) = ⟨a.cps ++ (b.cps ++ c.cps)⟩
  rw [Array.append_assoc]
end MP
namespace K06
open PySem L2 PyProof.Rows MP
def fls (ns : List Str) : D := .fl (ns.map D.str)
def tabS : List (Key × List Str) → List Pr → List (Key × List Str)
  | acc, [] => acc
  | acc, p :: r => tabS (putD acc (.inr p.name) (mv p.body)) r
theorem tabL_eq : ∀ (ps : List Pr) (acc : List (Key × List Str)), tabL (mapK fls acc) ps = mapK fls (tabS acc ps)
  | [], acc => rfl
  | p :: ps, acc => by
    unfold tabL tabS
    have e : putD (mapK fls acc) (.inr p.name) (.fl ((mv p.body).map D.str)) = mapK fls (putD acc (.inr p.name) (mv p.body)) := mapK_put (f := fls)
    rw [e]
    exact tabL_eq ps _
theorem tabS_has : ∀ (ps : List Pr) (acc : List (Key × List Str)) (n : Str), ((valG acc (.inr n)).isSome = true ∨ n ∈ ps.map (·.name)) → (valG (tabS acc ps) (.inr n)).isSome = true
  | [], acc, n, h => by
    rcases h with h | h
    · exact h
    · simp at h
  | p :: ps, acc, n, h => by
    unfold tabS
    refine tabS_has ps _ n ?_
    rw [valG_put]
    by_cases e : (Sum.inr n : Key) = .inr p.name
    · rw [if_pos e]; exact .inl rfl
    · rw [if_neg e]
      rcases h with h | h
      · exact .inl h
      · rw [List.map_cons, List.mem_cons] at h
        rcases h with h | h
        · exact absurd (by rw [h]) e
        · exact .inr h
def tabN (ps : List Pr) (n : Str) : List Str := (valG (tabS [] ps) (.inr n)).getD []
theorem tab_get {ps : List Pr} {n : Str} {mu : List MO} (h : n ∈ ps.map (·.name)) : gDget (tabD ps) (.str n) mu = .ok (fls (tabN ps n)) mu := by
  obtain ⟨ns, hns⟩ := Option.isSome_iff_exists.mp (tabS_has ps [] n (.inr h))
  have e : valD (((tabL [] ps).map (·.1)).zip ((tabL [] ps).map (·.2))) (.inr n) = some (fls ns) := by
    rw [zip_keys]
    show valG (tabL [] ps) (.inr n) = _
    have e2 : tabL [] ps = mapK fls (tabS [] ps) := tabL_eq ps []
    rw [e2, mapK_val, hns]; rfl
  unfold gDget tabD
  simp [e, tabN, hns]
/-! ### names of items -/
def keyS (it : Bool × Str) : Str := if it.1 = true then hash it.2 else it.2
structure ItOk (it : Bool × Str) : Prop where
  le : it.2.length ≤ 100
theorem hash_len {x : Str} : (hash x).length = x.length + 1 := by
  unfold hash
  rw [len_append]
  have e : (Str.ofString "#").length = 1 := by decide +kernel
  rw [e]; omega
theorem keyS_len {it : Bool × Str} (h : K06.ItOk it) : (keyS it).length ≤ 101 := by
  have := h.le
  unfold keyS
  split
  · rw [hash_len]; omega
  · omega
theorem kind_arr {b : Bool} : (kindS b == Str.ofString "array") = b := by cases b <;> decide +kernel
theorem variable_of_ok {it : Bool × Str} {mu : List MO} (h : K06.ItOk it) : den_variable_of [itemD it] mu = .ok (.vl (.str (keyS it))) mu := by
  have hh : gAdd (.str "#") (.str it.2) mu = .ok (.str (hash it.2)) mu := hash_ok (by have := h.le; omega)
  refine noX_ok ?_
  unfold keyS
  cases c : it.1 <;> simp [r_variable_of, startE, itemD, gEq_strs, kind_arr, c, hh, -gAdd_str]
theorem law_key_ok {it : Bool × Str} {mu : List MO} (h : K06.ItOk it) : den__law_key [itemD it] mu = .ok (.vl (.str (keyS it))) mu := by
  have hh : gAdd (.str "#") (.str it.2) mu = .ok (.str (hash it.2)) mu := hash_ok (by have := h.le; omega)
  refine noX_ok ?_
  unfold keyS
  cases c : it.1 <;> simp [r__law_key, startE, itemD, gEq_strs, kind_arr, c, hh, -gAdd_str]
theorem cat_ok {x y : Str} {mu : List MO} (h : x.length + y.length ≤ 1000) : gAdd (.str x) (.str y) mu = .ok (.str (x ++ y)) mu := by
  rw [gAdd_str, if_pos (by rw [sizeLine_eq]; omega)]
def inputs (p : Pr) : List Str := p.items.map fun it => "@" ++ keyS it
theorem at_len : (Str.ofString "@").length = 1 := by decide +kernel
theorem procD_items {p : Pr} {mu : List MO} : gIx (procD p) (.int 1) mu = .ok (.tup (p.items.map itemD)) mu := by simp [procD]
theorem inputs_of_proc_ok {p : Pr} {mu : List MO} (h : ∀ it ∈ p.items, K06.ItOk it) : den_inputs_of_proc den_variable_of [procD p] mu = .ok (.vl (.tup ((inputs p).map D.str))) mu := by
  have hl : loopC (asgN 1) tYesM (eBin gAdd (eC (.str "@")) (eCall (lenD 1 den_variable_of) (aCons (eVar 1) aNil))) [] (p.items.map itemD) [some (procD p), none] mu = .ok (p.items.map fun it => D.str ("@" ++ keyS it)) mu := by
    refine loopC_map' fun it hit => ⟨_, rfl, rfl, ?_⟩
    have hc := cat_ok (x := "@") (y := keyS it) (mu := mu) (by have := keyS_len (h it hit); rw [at_len]; omega)
    simp [variable_of_ok (h it hit), hc, -gAdd_str]
  refine noX_ok ?_
  simp [r_inputs_of_proc, startE, procD_items, noX_ok hl, inputs]
theorem marked_ok {m : Str} {nd : D} {ns : List Str} {mu : List MO} (hd : walkD nd mu = .ok (ns.map D.str, []) mu) (h : ∀ z ∈ ns, m.length + z.length ≤ 1000) : den_marked [.str m, nd] mu = .ok (.vl (.tup ((ns.map fun z => m ++ z).map D.str))) mu := by
  have hl : loopC (asgN 2) tYesM (eBin gAdd (eVar 0) (eVar 2)) [] (ns.map D.str) [some (.str m), some nd, none] mu = .ok (ns.map fun z => D.str (m ++ z)) mu := by
    refine loopC_map' fun z hz => ⟨_, rfl, rfl, ?_⟩
    simp [cat_ok (h z hz), -gAdd_str]
  refine noX_ok ?_
  simp [r_marked, startE, hd, noX_ok hl, Function.comp_def]
end K06
namespace K06
open PySem L2 PyProof.Rows MP
structure PrW (p : Pr) : Prop where
  ok : PrOk p
  its : ∀ it ∈ p.items, K06.ItOk it
  res : ∀ r ∈ p.results, r.length ≤ 100
  il : p.items.length ≤ 100
  rl : p.results.length ≤ 100
structure CoreW (ps : List Pr) : Prop where
  pr : ∀ p ∈ ps, PrW p
def outc (p : Pr) (ns : List Str) : List Str := p.results ++ (p.items.filter fun it => it.1 && ns.contains (hash it.2)).map fun it => hash it.2
theorem procD_res {p : Pr} {mu : List MO} : gIx (procD p) (.int 2) mu = .ok (.tup (p.results.map D.str)) mu := by simp [procD]
theorem gIn_fls {neg : Bool} {z : Str} {ns : List Str} {mu : List MO} : gIn neg (.str z) (fls ns) mu = .ok (.bl (ns.contains z != neg)) mu := gIn_names rfl (fun y e => by cases e)
theorem moving_items_ok {ps : List Pr} {p : Pr} {mu : List MO} (hp : PrW p) (hn : p.name ∈ ps.map (·.name)) : den_moving_items den_variable_of [procD p, tabD ps] mu = .ok (.fr ((p.items.filter fun it => (tabN ps p.name).contains (keyS it)).map itemD)) mu := by
  have hl : loopC (asgN 2) (eB (eBin (gIn false) (eCall (lenD 1 den_variable_of) (aCons (eVar 2) aNil)) (eBin gDget (eVar 1) (eBin gIx (eVar 0) (eC (.int 0)))))) (eVar 2) [] (p.items.map itemD) [some (procD p), some (tabD ps), none] mu = .ok ((p.items.filter fun it => (tabN ps p.name).contains (keyS it)).map itemD) mu := by
    refine loopC_filter' fun it hit => ⟨_, rfl, ?_, fun _ => ?_⟩
    · simp [variable_of_ok (hp.its it hit), procD_name, tab_get hn, gIn_fls]
    · simp
  refine noX_ok ?_
  simp [r_moving_items, startE, procD_items, noX_ok hl]
theorem gAdd_tup {xs ys : List D} {mu : List MO} (h : xs.length + ys.length ≤ sizeLine) : gAdd (.tup xs) (.tup ys) mu = .ok (.tup (xs ++ ys)) mu := by
  show ((toT (.tup ys) : M (List D)) >>= fun ys => (need (xs.length + ys.length ≤ sizeLine) : M Unit) >>= fun _ => (pure (.tup (xs ++ ys)) : M D)) mu = _
  rw [bind_ap, toT_tup]
  show ((need (xs.length + ys.length ≤ sizeLine) : M Unit) >>= fun _ => (pure (.tup (xs ++ ys)) : M D)) mu = _
  rw [bind_ap, need_ap, if_pos h]; rfl
theorem gAdd_fl {xs ys : List D} {mu : List MO} (h : xs.length + ys.length ≤ sizeLine) : gAdd (.fl xs) (.fl ys) mu = .ok (.fl (xs ++ ys)) mu := by
  show ((rdM (.fl xs) : M (List D)) >>= fun xs => (rdM (.fl ys) : M (List D)) >>= fun ys => (need (xs.length + ys.length ≤ sizeLine) : M Unit) >>= fun _ => (pure (.fl (xs ++ ys)) : M D)) mu = _
  have e1 : ∀ zs : List D, (rdM (.fl zs) : M (List D)) mu = .ok zs mu := fun _ => rfl
  rw [bind_ap, e1]
  show ((rdM (.fl ys) : M (List D)) >>= fun ys => (need (xs.length + ys.length ≤ sizeLine) : M Unit) >>= fun _ => (pure (.fl (xs ++ ys)) : M D)) mu = _
  rw [bind_ap, e1]
  show ((need (xs.length + ys.length ≤ sizeLine) : M Unit) >>= fun _ => (pure (.fl (xs ++ ys)) : M D)) mu = _
  rw [bind_ap, need_ap, if_pos h]; rfl
theorem small_size {n : Nat} (h : n ≤ 10000) : n ≤ sizeLine := by rw [sizeLine_eq]; omega
theorem outcomes_of_proc_ok {ps : List Pr} {p : Pr} {mu : List MO} (hp : PrW p) (hn : p.name ∈ ps.map (·.name)) : den_outcomes_of_proc (den_moving_items den_variable_of) den_variable_of [procD p, tabD ps] mu = .ok (.vl (.tup ((outc p (tabN ps p.name)).map D.str))) mu := by
  have hm := moving_items_ok (mu := mu) hp hn
  have hl : loopC (asgN 3) (eB (eBin (gEq false) (eBin gIx (eVar 3) (eC (.int 0))) (eC (.str "array")))) (eCall (lenD 1 den_variable_of) (aCons (eVar 3) aNil)) [] ((p.items.filter fun it => (tabN ps p.name).contains (keyS it)).map itemD) [some (procD p), some (tabD ps), none, none] mu =
      .ok (((p.items.filter fun it => (tabN ps p.name).contains (keyS it)).filter fun it => it.1).map fun it => D.str (keyS it)) mu := by
    refine loopC_filter' fun it hit => ⟨_, rfl, ?_, fun _ => ?_⟩
    · simp [itemD, gEq_strs, kind_arr]
    · simp [variable_of_ok (hp.its it (List.mem_filter.mp hit).1)]
  have e : (((p.items.filter fun it => (tabN ps p.name).contains (keyS it)).filter fun it => it.1).map fun it => D.str (keyS it)) = ((p.items.filter fun it => it.1 && (tabN ps p.name).contains (hash it.2)).map fun it => hash it.2).map D.str := by
    rw [List.filter_filter, List.map_map]
    have e1 : (p.items.filter fun it => it.1 && (tabN ps p.name).contains (keyS it)) = p.items.filter fun it => it.1 && (tabN ps p.name).contains (hash it.2) := by
      apply List.filter_congr
      intro it _
      cases c : it.1 with
      | false => rfl
      | true => rw [show keyS it = hash it.2 from by unfold keyS; rw [if_pos c]]
    rw [e1]
    apply List.map_congr_left
    intro it hit
    have c : it.1 = true := by
      have := (List.mem_filter.mp hit).2
      rw [Bool.and_eq_true] at this
      exact this.1
    show D.str (keyS it) = D.str (hash it.2)
    rw [show keyS it = hash it.2 from by unfold keyS; rw [if_pos c]]
  rw [e] at hl
  have hfl : ((p.items.filter fun it => it.1 && (tabN ps p.name).contains (hash it.2)).map fun it => hash it.2).length ≤ 100 := by
    rw [List.length_map]
    exact Nat.le_trans (List.length_filter_le _ _) hp.il
  obtain ⟨xs, hxs⟩ : ∃ xs, xs = (p.items.filter fun it => it.1 && (tabN ps p.name).contains (hash it.2)).map fun it => hash it.2 := ⟨_, rfl⟩
  have ho : outc p (tabN ps p.name) = p.results ++ xs := by rw [hxs]; rfl
  rw [← hxs] at hl hfl
  obtain ⟨ms, hms⟩ : ∃ ms, ms = p.items.filter fun it => (tabN ps p.name).contains (keyS it) := ⟨_, rfl⟩
  rw [← hms] at hl hm
  rw [ho]
  have hadd := gAdd_tup (xs := p.results.map D.str) (ys := xs.map D.str) (mu := mu) (small_size (by have := hp.rl; rw [List.length_map, List.length_map]; omega))
  refine noX_ok ?_
  simp [r_outcomes_of_proc, startE, hm, noX_ok hl, procD_res, hadd]
theorem names_of_find {ps : List Pr} {n : Str} {p : Pr} (h : ps.find? (fun q => q.name == n) = some p) : p ∈ ps ∧ p.name = n := by
  refine ⟨List.mem_of_find?_eq_some h, ?_⟩
  have := List.find?_some h
  simpa using this
noncomputable abbrev dInputs : List D → M Rv := den_inputs_of (den_inputs_of_proc den_variable_of) den_proc_named
noncomputable abbrev dOutcomes : List D → M Rv := den_outcomes_of (den_outcomes_of_proc (den_moving_items den_variable_of) den_variable_of) movD den_proc_named
theorem inputs_of_ok {ps : List Pr} {p : Pr} {n : Str} {mu : List MO} (hc : CoreW ps) (h : ps.find? (fun q => q.name == n) = some p) : dInputs [coreD ps, .str n] mu = .ok (.vl (.tup ((inputs p).map D.str))) mu := by
  have h1 := proc_named_ok (mu := mu) h
  have h2 := inputs_of_proc_ok (mu := mu) (hc.pr p (names_of_find h).1).its
  refine noX_ok ?_
  simp [r_inputs_of, startE, h1, h2]
theorem outcomes_of_ok {ps : List Pr} {p : Pr} {n : Str} {mu : List MO} (hc : CoreW ps) (h : ps.find? (fun q => q.name == n) = some p) (hm : CloH mu) : dOutcomes [coreD ps, .str n] mu = .ok (.vl (.tup ((outc p (tabN ps n)).map D.str))) mu := by
  have h1 := proc_named_ok (mu := mu) h
  obtain ⟨hp, he⟩ := names_of_find h
  have h2 := outcomes_of_proc_ok (ps := ps) (mu := mu) (hc.pr p hp) (List.mem_map.mpr ⟨p, hp, rfl⟩)
  have h3 := mov_ok (mu := mu) (fun q hq => (hc.pr q hq).ok) hm
  rw [he] at h2
  refine noX_ok ?_
  simp [r_outcomes_of, startE, h1, h2, h3]
end K06
namespace K06
open PySem L2 PyProof.Rows MP
def arrs (p : Pr) : List Str := (p.items.filter fun it => it.1).map fun it => it.2
theorem array_parameters_ok {ps : List Pr} {p : Pr} {n : Str} {mu : List MO} (h : ps.find? (fun q => q.name == n) = some p) : den_array_parameters den_proc_named [coreD ps, .str n] mu = .ok (.vl (.tup ((arrs p).map D.str))) mu := by
  have h1 := proc_named_ok (mu := mu) h
  have hl : loopC (asgN 2) (eB (eBin (gEq false) (eBin gIx (eVar 2) (eC (.int 0))) (eC (.str "array")))) (eBin gIx (eVar 2) (eC (.int 1))) [] (p.items.map itemD) [some (coreD ps), some (.str n), none] mu = .ok ((p.items.filter fun it => it.1).map fun it => D.str it.2) mu := by
    refine loopC_filter' fun it hit => ⟨_, rfl, ?_, fun _ => ?_⟩
    · simp [itemD, gEq_strs, kind_arr]
    · simp [itemD]
  have e : (arrs p).map D.str = (p.items.filter fun it => it.1).map fun it => D.str it.2 := by unfold arrs; rw [List.map_map]; rfl
  rw [e]
  refine noX_ok ?_
  simp [r_array_parameters, startE, h1, procD_items, noX_ok hl]
def hasB (ps : List Pr) (d : D) : Bool := ps.any fun p => eqD (.str p.name) d
theorem gEq_pd {n : Nat} {z : Str} {d : D} {mu : List MO} (h : Pd n d) : gEq false (.str z) d mu = .ok (.bl (eqD (.str z) d)) mu := by
  unfold gEq
  simp [okE, dep, h.eqs.1]
theorem has_proc_ok {n : Nat} {ps : List Pr} {d : D} {mu : List MO} (h : Pd n d) : den_has_proc [coreD ps, d] mu = .ok (.vl (.bl (hasB ps d))) mu := by
  have hl : loopC (asgN 2) tYesM (eBin (gEq false) (eBin gIx (eVar 2) (eC (.int 0))) (eVar 1)) [] (ps.map procD) [some (coreD ps), some d, none] mu = .ok (ps.map fun p => D.bl (eqD (.str p.name) d)) mu := by
    refine loopC_map' fun p hp => ⟨_, rfl, rfl, ?_⟩
    simp [procD_name, gEq_pd h]
  have w : coreD ps = .tup (ps.map procD) := rfl
  rw [w] at hl
  refine noX_ok ?_
  simp [r_has_proc, startE, w, noX_ok hl, gAny_map, hasB]
theorem hasB_find {ps : List Pr} {d : D} (h : hasB ps d = true) : ∃ n p, d = .str n ∧ ps.find? (fun q => q.name == n) = some p := by
  unfold hasB at h
  obtain ⟨p, hp, e⟩ := List.any_eq_true.mp h
  cases d with
  | str z =>
    have e : (p.name == z) = true := e
    cases hf : ps.find? (fun q => q.name == z) with
    | some q => exact ⟨z, q, rfl, hf⟩
    | none => exact absurd e (by simpa using List.find?_eq_none.mp hf p hp)
  | _ => cases e
/-! ### the names that a claim may use -/
def markN (m : Str) (ns : List Str) : List Str := ns.map fun z => m ++ z
def givenN (p q : Pr) : List Str := markN "l." (inputs p) ++ markN "r." (inputs q)
def askN (p q : Pr) (ms ns : List Str) : List Str := ((givenN p q ++ [("l." : Str) ++ ".count", ("r." : Str) ++ ".count"]) ++ markN (("l." : Str) ++ ".") (outc p ms)) ++ markN (("r." : Str) ++ ".") (outc q ns)
theorem inputs_len {p : Pr} (h : PrW p) : (inputs p).length ≤ 100 ∧ ∀ z ∈ inputs p, z.length ≤ 102 := by
  refine ⟨by unfold inputs; rw [List.length_map]; exact h.il, fun z hz => ?_⟩
  obtain ⟨it, hit, e⟩ := List.mem_map.mp hz
  subst e
  rw [len_append, at_len]
  have := keyS_len (h.its it hit)
  omega
theorem outc_len {p : Pr} {ns : List Str} (h : PrW p) : (outc p ns).length ≤ 200 ∧ ∀ z ∈ outc p ns, z.length ≤ 101 := by
  have h1 := List.length_filter_le (fun it : Bool × Str => it.1 && ns.contains (hash it.2)) p.items
  refine ⟨by unfold outc; rw [List.length_append, List.length_map]; have := h.rl; have := h.il; omega, fun z hz => ?_⟩
  rcases List.mem_append.mp hz with z | z
  · have := h.res _ z; omega
  · obtain ⟨it, hit, e⟩ := List.mem_map.mp z
    subst e
    rw [hash_len]
    have := (h.its it (List.mem_filter.mp hit).1).le
    omega
theorem ldot : (Str.ofString "l.").length = 2 ∧ (Str.ofString "r.").length = 2 ∧ (Str.ofString ".").length = 1 ∧ (Str.ofString ".count").length = 6 := by decide +kernel
noncomputable abbrev dGiven : List D → M Rv := den_given_names den_marked dInputs
theorem claim_ix {xs : List D} {k : Nat} {d : D} {mu : List MO} (h : xs[k]? = some d) : gIx (.tup xs) (.int (k : Int)) mu = .ok d mu := by rw [gIx_tup]; exact ixD_nat h
theorem given_names_ok {ls rs : List Pr} {p q : Pr} {n m : Str} {ts : List D} {mu : List MO} (cl : CoreW ls) (cr : CoreW rs) (hp : ls.find? (fun x => x.name == n) = some p) (hq : rs.find? (fun x => x.name == m) = some q) :
    dGiven [coreD ls, coreD rs, .tup (.str n :: .str m :: ts)] mu = .ok (.vl (.tup ((givenN p q).map D.str))) mu := by
  have h1 := inputs_of_ok (mu := mu) cl hp
  have h2 := inputs_of_ok (mu := mu) cr hq
  obtain ⟨l1, w1⟩ := inputs_len (cl.pr p (names_of_find hp).1)
  obtain ⟨l2, w2⟩ := inputs_len (cr.pr q (names_of_find hq).1)
  have m1 := marked_ok (m := "l.") (nd := .tup ((inputs p).map D.str)) (mu := mu) rfl (fun z hz => by rw [ldot.1]; have := w1 z hz; omega)
  have m2 := marked_ok (m := "r.") (nd := .tup ((inputs q).map D.str)) (mu := mu) rfl (fun z hz => by rw [ldot.2.1]; have := w2 z hz; omega)
  have hadd := gAdd_tup (xs := (markN "l." (inputs p)).map D.str) (ys := (markN "r." (inputs q)).map D.str) (mu := mu) (small_size (by unfold markN; simp; omega))
  have e : (givenN p q).map D.str = (markN "l." (inputs p)).map D.str ++ (markN "r." (inputs q)).map D.str := by unfold givenN; rw [List.map_append]
  rw [e]
  change den_marked _ mu = .ok (.vl (.tup ((markN "l." (inputs p)).map D.str))) mu at m1
  change den_marked _ mu = .ok (.vl (.tup ((markN "r." (inputs q)).map D.str))) mu at m2
  refine noX_ok ?_
  simp only [dInputs] at h1 h2
  simp [r_given_names, startE, h1, h2, m1, m2, hadd]
end K06
namespace K06
open PySem L2 PyProof.Rows MP
theorem count_ok {m : Str} {mu : List MO} (h : m.length ≤ 10) : den_count_name [.str m] mu = .ok (.vl (.str (m ++ ".count"))) mu := by
  have hc := cat_ok (x := m) (y := ".count") (mu := mu) (by rw [ldot.2.2.2]; omega)
  refine noX_ok ?_
  simp [r_count_name, startE, hc, -gAdd_str]
noncomputable abbrev dAsk : List D → M Rv := den_ask_names dGiven den_count_name den_marked dOutcomes
theorem ask_names_ok {ls rs : List Pr} {p q : Pr} {n m : Str} {ts : List D} {mu : List MO} (cl : CoreW ls) (cr : CoreW rs) (hp : ls.find? (fun x => x.name == n) = some p) (hq : rs.find? (fun x => x.name == m) = some q) (hm : CloH mu) :
    dAsk [coreD ls, coreD rs, .tup (.str n :: .str m :: ts)] mu = .ok (.vl (.tup ((askN p q (tabN ls n) (tabN rs m)).map D.str))) mu := by
  have h0 := given_names_ok (ts := ts) (mu := mu) cl cr hp hq
  have h1 := outcomes_of_ok (mu := mu) cl hp hm
  have h2 := outcomes_of_ok (mu := mu) cr hq hm
  have c1 := count_ok (m := "l.") (mu := mu) (by rw [ldot.1]; omega)
  have c2 := count_ok (m := "r.") (mu := mu) (by rw [ldot.2.1]; omega)
  have ld : (Str.ofString "l." ++ Str.ofString ".").length = 3 := by rw [len_append, ldot.1, ldot.2.2.1]
  have rd : (Str.ofString "r." ++ Str.ofString ".").length = 3 := by rw [len_append, ldot.2.1, ldot.2.2.1]
  have d1 := cat_ok (x := "l.") (y := ".") (mu := mu) (by rw [ldot.1, ldot.2.2.1]; omega)
  have d2 := cat_ok (x := "r.") (y := ".") (mu := mu) (by rw [ldot.2.1, ldot.2.2.1]; omega)
  obtain ⟨i1, _⟩ := inputs_len (cl.pr p (names_of_find hp).1)
  obtain ⟨i2, _⟩ := inputs_len (cr.pr q (names_of_find hq).1)
  obtain ⟨l1, w1⟩ := outc_len (ns := tabN ls n) (cl.pr p (names_of_find hp).1)
  obtain ⟨l2, w2⟩ := outc_len (ns := tabN rs m) (cr.pr q (names_of_find hq).1)
  have m1 := marked_ok (m := ("l." : Str) ++ ".") (nd := .tup ((outc p (tabN ls n)).map D.str)) (mu := mu) rfl (fun z hz => by rw [ld]; have := w1 z hz; omega)
  have m2 := marked_ok (m := ("r." : Str) ++ ".") (nd := .tup ((outc q (tabN rs m)).map D.str)) (mu := mu) rfl (fun z hz => by rw [rd]; have := w2 z hz; omega)
  obtain ⟨G, hG⟩ : ∃ G, G = givenN p q := ⟨_, rfl⟩
  obtain ⟨O1, hO1⟩ : ∃ O, O = markN (("l." : Str) ++ ".") (outc p (tabN ls n)) := ⟨_, rfl⟩
  obtain ⟨O2, hO2⟩ : ∃ O, O = markN (("r." : Str) ++ ".") (outc q (tabN rs m)) := ⟨_, rfl⟩
  change den_marked _ mu = .ok (.vl (.tup ((markN (("l." : Str) ++ ".") (outc p (tabN ls n))).map D.str))) mu at m1
  change den_marked _ mu = .ok (.vl (.tup ((markN (("r." : Str) ++ ".") (outc q (tabN rs m))).map D.str))) mu at m2
  have gl : G.length ≤ 200 := by rw [hG]; unfold givenN markN; simp; omega
  have ol1 : O1.length ≤ 200 := by rw [hO1]; unfold markN; simp; omega
  have ol2 : O2.length ≤ 200 := by rw [hO2]; unfold markN; simp; omega
  rw [← hO1] at m1
  rw [← hO2] at m2
  rw [← hG] at h0
  have e : (askN p q (tabN ls n) (tabN rs m)).map D.str = ((G.map D.str ++ [D.str ("l." ++ ".count"), D.str ("r." ++ ".count")]) ++ O1.map D.str) ++ O2.map D.str := by
    unfold askN
    rw [← hG, ← hO1, ← hO2, List.map_append, List.map_append, List.map_append]; rfl
  rw [e]
  obtain ⟨cs, hcs⟩ : ∃ cs, cs = [D.str ("l." ++ ".count"), D.str ("r." ++ ".count")] := ⟨_, rfl⟩
  have csl : cs.length = 2 := by rw [hcs]; rfl
  obtain ⟨A1, hA1⟩ : ∃ A, A = G.map D.str ++ cs := ⟨_, rfl⟩
  obtain ⟨A2, hA2⟩ : ∃ A, A = A1 ++ O1.map D.str := ⟨_, rfl⟩
  obtain ⟨A3, hA3⟩ : ∃ A, A = A2 ++ O2.map D.str := ⟨_, rfl⟩
  have al1 : A1.length ≤ 202 := by rw [hA1, List.length_append, List.length_map]; omega
  have al2 : A2.length ≤ 402 := by rw [hA2, List.length_append, List.length_map]; omega
  have a1 := gAdd_tup (xs := G.map D.str) (ys := cs) (mu := mu) (small_size (by rw [List.length_map]; omega))
  have a2 := gAdd_tup (xs := A1) (ys := O1.map D.str) (mu := mu) (small_size (by rw [List.length_map]; omega))
  have a3 := gAdd_tup (xs := A2) (ys := O2.map D.str) (mu := mu) (small_size (by rw [List.length_map]; omega))
  rw [← hcs, ← hA1, ← hA2, ← hA3]
  rw [← hA1] at a1
  rw [← hA2] at a2
  rw [← hA3] at a3
  rw [hcs] at a1
  have s2 : (2 : Nat) ≤ sizeLine := by decide
  refine noX_ok ?_
  simp [r_ask_names, startE, h0, h1, h2, c1, c2, d1, d2, m1, m2, gTup_ok, s2, a1, a2, a3, -gAdd_str]
end K06
namespace K06
open PySem L2 PyProof.Rows MP
theorem six_cases {n : Nat} {d : D} (h : Pd n d) : isTupN 6 d = false ∨ ∃ a b c e f g m, d = .tup [a, b, c, e, f, g] ∧ n = m + 1 ∧ Pd m a ∧ Pd m b ∧ Pd m c ∧ Pd m e ∧ Pd m f ∧ Pd m g := by
  rcases h.of with ⟨i, rfl⟩ | ⟨z, rfl⟩ | ⟨m, xs, e, rfl, hl, hx⟩
  · exact .inl rfl
  · exact .inl rfl
  · match xs, hx with
    | [a, b, c, e', f, g], hx => exact .inr ⟨a, b, c, e', f, g, m, rfl, e, hx a (by simp), hx b (by simp), hx c (by simp), hx e' (by simp), hx f (by simp), hx g (by simp)⟩
    | [], _ => exact .inl rfl
    | [_], _ => exact .inl rfl
    | [_, _], _ => exact .inl rfl
    | [_, _, _], _ => exact .inl rfl
    | [_, _, _, _], _ => exact .inl rfl
    | [_, _, _, _, _], _ => exact .inl rfl
    | _ :: _ :: _ :: _ :: _ :: _ :: _ :: r, _ => exact .inl (by simp [isTupN]; omega)
/-- the parts of a claim whose procedures are there -/
def partsB (p q : Pr) (ms ns : List Str) (c e f g : D) : Bool := areB (formOver (givenN p q)) c && ((pairsB (arrs p) (arrs q) e && pairsB (arrs p) (arrs q) g) && areB (formOver (askN p q ms ns)) f)
def claimB (ls rs : List Pr) : D → Bool
  | .tup [.str n, .str m, c, e, f, g] => match ls.find? (fun x => x.name == n), rs.find? (fun x => x.name == m) with
    | some p, some q => partsB p q (tabN ls n) (tabN rs m) c e f g
    | _, _ => false
  | _ => false
noncomputable abbrev dClaim : List D → M Rv := den_is_claim den_is_tuple den_has_proc (den_array_parameters den_proc_named) (den_are_forms (den_is_form_over dIsForm)) dGiven (den_are_pairs den_is_tuple) dAsk
theorem has_none {ps : List Pr} {z : Str} (h : hasB ps (.str z) = false) : ps.find? (fun x => x.name == z) = none := by
  rw [List.find?_eq_none]
  intro p hp e
  have : hasB ps (.str z) = true := List.any_eq_true.mpr ⟨p, hp, e⟩
  rw [h] at this; cases this
theorem is_claim_ok {n : Nat} {ls rs : List Pr} {d : D} {mu : List MO} (cl : CoreW ls) (cr : CoreW rs) (h : Pd n d) (hn : n < 60) (hm : CloH mu) : dClaim [coreD ls, coreD rs, d] mu = .ok (.vl (.bl (claimB ls rs d))) mu := by
  have h6 := is_tuple_ok (k := 6) (mu := mu) h
  rcases six_cases h with e | ⟨a, b, c, e, f, g, m, rfl, rfl, pa, pb, pc, pe, pf, pg⟩
  · rw [e] at h6
    have e2 : claimB ls rs d = false := by
      unfold claimB
      split
      · cases e
      · rfl
    rw [e2]
    refine noX_ok ?_
    simp [r_is_claim, startE, h6]
  · have e6 : isTupN 6 (.tup [a, b, c, e, f, g]) = true := rfl
    rw [e6] at h6
    have ha := has_proc_ok (ps := ls) (mu := mu) pa
    have hb := has_proc_ok (ps := rs) (mu := mu) pb
    cases ca : hasB ls a with
    | false =>
      rw [ca] at ha
      have e2 : claimB ls rs (.tup [a, b, c, e, f, g]) = false := by
        unfold claimB
        split
        · rename_i z z' _ _ _ _ q
          cases q
          rw [has_none ca]
        · rfl
      rw [e2]
      refine noX_ok ?_
      simp [r_is_claim, startE, h6, ha]
    | true =>
    rw [ca] at ha
    obtain ⟨z, p, rfl, hp⟩ := hasB_find ca
    cases cb : hasB rs b with
    | false =>
      rw [cb] at hb
      have e2 : claimB ls rs (.tup [.str z, b, c, e, f, g]) = false := by
        unfold claimB
        split
        · rename_i z z' _ _ _ _ q
          cases q
          rw [has_none cb, hp]
        · rfl
      rw [e2]
      refine noX_ok ?_
      simp [r_is_claim, startE, h6, ha, hb]
    | true =>
    rw [cb] at hb
    obtain ⟨z', q, rfl, hq⟩ := hasB_find cb
    have e2 : claimB ls rs (.tup [.str z, .str z', c, e, f, g]) = partsB p q (tabN ls z) (tabN rs z') c e f g := by
      show (match ls.find? (fun x => x.name == z), rs.find? (fun x => x.name == z') with
        | some p, some q => partsB p q (tabN ls z) (tabN rs z') c e f g
        | _, _ => false) = _
      rw [hp, hq]
    rw [e2]
    have p1 := array_parameters_ok (mu := mu) hp
    have p2 := array_parameters_ok (mu := mu) hq
    have g1 := given_names_ok (ts := [c, e, f, g]) (mu := mu) cl cr hp hq
    have a1 := ask_names_ok (ts := [c, e, f, g]) (mu := mu) cl cr hp hq hm
    have f1 := are_forms_ok (nd := .tup ((givenN p q).map D.str)) (mu := mu) pc (.inl rfl)
    have f2 := are_forms_ok (nd := .tup ((askN p q (tabN ls z) (tabN rs z')).map D.str)) (mu := mu) pf (.inl rfl)
    have q1 := are_pairs_ok (na := .tup ((arrs p).map D.str)) (nb := .tup ((arrs q).map D.str)) (mu := mu) (.inl rfl) (.inl rfl) pe (show m < 60 by omega)
    have q2 := are_pairs_ok (na := .tup ((arrs p).map D.str)) (nb := .tup ((arrs q).map D.str)) (mu := mu) (.inl rfl) (.inl rfl) pg (show m < 60 by omega)
    have s2 : (2 : Nat) ≤ sizeLine := by decide
    unfold partsB
    refine noX_ok ?_
    cases b1 : areB (formOver (givenN p q)) c <;> cases b2 : pairsB (arrs p) (arrs q) e <;> cases b3 : pairsB (arrs p) (arrs q) g <;> rw [b1] at f1 <;> rw [b2] at q1 <;> rw [b3] at q2 <;> simp [r_is_claim, startE, h6, ha, hb, p1, p2, gTup_ok, s2, g1, f1, q1, q2, a1, f2]
end K06
namespace K06
open PySem L2 PyProof.Rows MP
/-! ### the law's judgement -/
theorem law_named_ok {ps : List Pr} {n : Str} {p : Pr} {mu : List MO} (h : ps.find? (fun q => q.name == n) = some p) : den__law_named [coreD ps, .str n] mu = .ok (.vl (procD p)) mu := proc_named_ok h
theorem law_input_names_ok {p : Pr} {m : Str} {mu : List MO} (hp : PrW p) (hm : m.length ≤ 10) : den__law_input_names den__law_key [.str m, procD p] mu = .ok (.fr ((markN m (inputs p)).map D.str)) mu := by
  have c1 := cat_ok (x := m) (y := "@") (mu := mu) (by rw [at_len]; omega)
  have hl : loopC (asgN 2) tYesM (eBin gAdd (eBin gAdd (eVar 0) (eC (.str "@"))) (eCall (lenD 1 den__law_key) (aCons (eVar 2) aNil))) [] (p.items.map itemD) [some (.str m), some (procD p), none] mu = .ok (p.items.map fun it => D.str ((m ++ "@") ++ keyS it)) mu := by
    refine loopC_map' fun it hit => ⟨_, rfl, rfl, ?_⟩
    have c2 := cat_ok (x := m ++ "@") (y := keyS it) (mu := mu) (by rw [len_append, at_len]; have := keyS_len (hp.its it hit); omega)
    simp [c1, law_key_ok (hp.its it hit), c2, -gAdd_str]
  have e : (p.items.map fun it => D.str ((m ++ "@") ++ keyS it)) = (markN m (inputs p)).map D.str := by
    unfold markN inputs
    rw [List.map_map, List.map_map]
    apply List.map_congr_left
    intro it _
    show D.str ((m ++ "@") ++ keyS it) = D.str (m ++ ("@" ++ keyS it))
    rw [str_assoc]
  rw [e] at hl
  refine noX_ok ?_
  simp [r__law_input_names, startE, procD_items, noX_ok hl]
theorem law_arrays_ok {p : Pr} {mu : List MO} : den__law_arrays [procD p] mu = .ok (.fr ((arrs p).map D.str)) mu := by
  have hl : loopC (asgT 2 (asgCons (asgN 1) (asgCons (asgN 2) asgNil))) (eB (eBin (gEq false) (eVar 1) (eC (.str "array")))) (eVar 2) [] (p.items.map itemD) [some (procD p), none, none] mu = .ok ((p.items.filter fun it => it.1).map fun it => D.str it.2) mu := by
    refine loopC_filter' fun it hit => ⟨[some (procD p), some (.str (kindS it.1)), some (.str it.2)], by simp [itemD], ?_, fun _ => ?_⟩
    · simp [gEq_strs, kind_arr]
    · simp
  have e : (arrs p).map D.str = (p.items.filter fun it => it.1).map fun it => D.str it.2 := by unfold arrs; rw [List.map_map]; rfl
  rw [e]
  refine noX_ok ?_
  simp [r__law_arrays, startE, procD_items, noX_ok hl]
theorem law_outcomes_ok {p : Pr} {ns : List Str} {mu : List MO} (hp : PrW p) : den__law_outcomes [procD p, fls ns] mu = .ok (.vl (fls (outc p ns))) mu := by
  have hl : loopC (asgT 2 (asgCons (asgN 2) (asgCons (asgN 3) asgNil))) (bAnd (eB (eBin (gEq false) (eVar 2) (eC (.str "array")))) (eB (eBin (gIn false) (eBin gAdd (eC (.str "#")) (eVar 3)) (eVar 1)))) (eBin gAdd (eC (.str "#")) (eVar 3)) [] (p.items.map itemD) [some (procD p), some (fls ns), none, none] mu =
      .ok ((p.items.filter fun it => it.1 && ns.contains (hash it.2)).map fun it => D.str (hash it.2)) mu := by
    refine loopC_filter' fun it hit => ⟨[some (procD p), some (fls ns), some (.str (kindS it.1)), some (.str it.2)], by simp [itemD], ?_, fun _ => ?_⟩
    · have hh : gAdd (.str "#") (.str it.2) mu = .ok (.str (hash it.2)) mu := hash_ok (by have := (hp.its it hit).le; omega)
      cases c : it.1 <;> simp [gEq_strs, kind_arr, hh, gIn_fls, -gAdd_str]
    · have hh : gAdd (.str "#") (.str it.2) mu = .ok (.str (hash it.2)) mu := hash_ok (by have := (hp.its it hit).le; omega)
      simp [hh, -gAdd_str]
  obtain ⟨xs, hxs⟩ : ∃ xs, xs = (p.items.filter fun it => it.1 && ns.contains (hash it.2)).map fun it => D.str (hash it.2) := ⟨_, rfl⟩
  have hfl : xs.length ≤ 100 := by
    rw [hxs, List.length_map]
    exact Nat.le_trans (List.length_filter_le _ _) hp.il
  have e : fls (outc p ns) = .fl (p.results.map D.str ++ xs) := by
    unfold fls outc
    rw [List.map_append, List.map_map, hxs]; rfl
  rw [← hxs] at hl
  rw [e]
  have hadd := gAdd_fl (xs := p.results.map D.str) (ys := xs) (mu := mu) (small_size (by have := hp.rl; rw [List.length_map]; omega))
  refine noX_ok ?_
  simp [r__law_outcomes, startE, procD_items, procD_res, noX_ok hl, hadd]
def lawAsk (m : Str) (p : Pr) (ns : List Str) : List Str := (markN m (inputs p) ++ [m ++ ".count"]) ++ markN (m ++ ".") (outc p ns)
noncomputable abbrev dLawAsk : List D → M Rv := den__law_ask_names (den__law_input_names den__law_key) den__law_outcomes
theorem law_ask_names_ok {ps : List Pr} {p : Pr} {m : Str} {mu : List MO} (hp : PrW p) (hm : m.length ≤ 10) (hn : p.name ∈ ps.map (·.name)) : dLawAsk [.str m, procD p, tabD ps] mu = .ok (.vl (fls (lawAsk m p (tabN ps p.name)))) mu := by
  have h1 := law_input_names_ok (mu := mu) hp hm
  have h2 := law_outcomes_ok (ns := tabN ps p.name) (mu := mu) hp
  have h3 := tab_get (mu := mu) hn
  have c1 := cat_ok (x := m) (y := ".count") (mu := mu) (by rw [ldot.2.2.2]; omega)
  have c2 := cat_ok (x := m) (y := ".") (mu := mu) (by rw [ldot.2.2.1]; omega)
  obtain ⟨l1, w1⟩ := outc_len (ns := tabN ps p.name) hp
  obtain ⟨i1, _⟩ := inputs_len hp
  obtain ⟨O, hO⟩ : ∃ O, O = outc p (tabN ps p.name) := ⟨_, rfl⟩
  rw [← hO] at h2 l1 w1
  have a1 := gAdd_fl (xs := (markN m (inputs p)).map D.str) (ys := [D.str (m ++ ".count")]) (mu := mu) (small_size (by unfold markN; simp; omega))
  obtain ⟨A, hA⟩ : ∃ A, A = (markN m (inputs p)).map D.str ++ [D.str (m ++ ".count")] := ⟨_, rfl⟩
  have al : A.length ≤ 101 := by rw [hA]; unfold markN; simp; omega
  rw [← hA] at a1
  have hl : loopC (asgN 4) tYesM (eBin gAdd (eBin gAdd (eVar 0) (eC (.str "."))) (eVar 4)) [] (O.map D.str) [some (.str m), some (procD p), some (tabD ps), some (.fl A), none] mu = .ok ((markN (m ++ ".") O).map D.str) mu := by
    have e : (markN (m ++ ".") O).map D.str = O.map fun z => D.str ((m ++ ".") ++ z) := by unfold markN; rw [List.map_map]; rfl
    rw [e]
    refine loopC_map' fun z hz => ⟨_, rfl, rfl, ?_⟩
    have c3 := cat_ok (x := m ++ ".") (y := z) (mu := mu) (by rw [len_append, ldot.2.2.1]; have := w1 z hz; omega)
    simp [c2, c3, -gAdd_str]
  have a2 := gAdd_fl (xs := A) (ys := (markN (m ++ ".") O).map D.str) (mu := mu) (small_size (by unfold markN; simp; omega))
  have e : fls (lawAsk m p (tabN ps p.name)) = .fl (A ++ (markN (m ++ ".") O).map D.str) := by
    unfold fls lawAsk
    rw [← hO, hA, List.map_append, List.map_append]; rfl
  rw [e]
  have h2' : den__law_outcomes [procD p, fls (tabN ps p.name)] mu = .ok (.vl (.fl (O.map D.str))) mu := h2
  have s1 : (1 : Nat) ≤ sizeLine := by decide
  refine noX_ok ?_
  simp [r__law_ask_names, startE, h1, c1, s1, a1, procD_name, h3, h2', noX_ok hl, a2, -gAdd_str]
end K06
namespace K06
open PySem L2 PyProof.Rows MP
def judgeP (p q : Pr) (ms ns : List Str) (c e f g : D) : Bool := areB (lawForm (givenN p q)) c && (areB (lawForm (lawAsk "l." p ms ++ lawAsk "r." q ns)) f && (pairsB (arrs p) (arrs q) e && pairsB (arrs p) (arrs q) g))
def judgeB (ls rs : List Pr) : D → Bool
  | .tup [.str n, .str m, c, e, f, g] => match ls.find? (fun x => x.name == n), rs.find? (fun x => x.name == m) with
    | some p, some q => judgeP p q (tabN ls n) (tabN rs m) c e f g
    | _, _ => false
  | _ => false
noncomputable abbrev dJudged : List D → M Rv := den__law_judged den__law_named (den__law_input_names den__law_key) (den__law_are_forms (den__law_is_form den__law_is_int)) dLawAsk den__law_are_pairs den__law_arrays
def worldD (ls rs : List Pr) : D := .tup [coreD ls, coreD rs, tabD ls, tabD rs]
theorem names_comp {i : Nat} {ps : List Pr} {env : MP.Env} {mu : List MO} (h : env.length = 11) : loopC (asgN 2) tYesM (eBin gIx (eVar 2) (eC (.int 0))) [] (ps.map procD) env mu = .ok ((ps.map fun p => p.name).map D.str) mu := by
  rw [List.map_map]
  refine loopC_map' fun p hp => ⟨_, rfl, rfl, ?_⟩
  have hg : (env.set 2 (some (procD p)))[2]? = some (some (procD p)) := List.getElem?_set_self (by omega)
  simp [hg, procD_name]
theorem inD_has {ps : List Pr} {d : D} : inD ((ps.map fun p => p.name).map D.str) d = hasB ps d := by
  unfold inD hasB
  rw [List.map_map, List.any_map]; rfl
theorem isTup6 {xs : List D} (h : isTupN 6 (.tup xs) = false) : ((xs.length : Int) == 6) = false := h
theorem pairs_comp {m : Nat} {A B : List Str} {xs : List D} {env : MP.Env} {mu : List MO} {p q : D} (hm : m < 60) (h2 : env[2]? = some (some p)) (h3 : env[3]? = some (some q)) (hl : env.length = 11) (ha : den__law_arrays [p] mu = .ok (.fr (A.map D.str)) mu) (hb : den__law_arrays [q] mu = .ok (.fr (B.map D.str)) mu) (hx : ∀ x ∈ xs, Pd m x) :
    loopC (asgN 10) tYesM (eCall (lenD 3 den__law_are_pairs) (aCons (eVar 10) (aCons (eCall (lenD 1 den__law_arrays) (aCons (eVar 2) aNil)) (aCons (eCall (lenD 1 den__law_arrays) (aCons (eVar 3) aNil)) aNil)))) [] xs env mu = .ok (xs.map fun x => D.bl (pairsB A B x)) mu := by
  refine loopC_map fun x hxx => ⟨_, rfl, rfl, ?_⟩
  have g2 : (env.set 10 (some x))[2]? = some (some p) := by rw [List.getElem?_set_ne (by decide)]; exact h2
  have g3 : (env.set 10 (some x))[3]? = some (some q) := by rw [List.getElem?_set_ne (by decide)]; exact h3
  have g10 : (env.set 10 (some x))[10]? = some (some x) := List.getElem?_set_self (by omega)
  have hp := law_are_pairs_ok (na := .fl (A.map D.str)) (nb := .fl (B.map D.str)) (mu := mu) (.inr rfl) (.inr rfl) (hx x hxx) hm
  simp [g2, g3, g10, ha, hb, hp]
theorem judged_ok {n : Nat} {ls rs : List Pr} {d : D} {mu : List MO} (cl : CoreW ls) (cr : CoreW rs) (h : Pd n d) (hn : n < 60) : dJudged [worldD ls rs, d] mu = .ok (.vl (.bl (judgeB ls rs d))) mu := by
  rcases h.of with ⟨i, rfl⟩ | ⟨z, rfl⟩ | ⟨m0, xs, rfl, rfl, _, _⟩
  · have e : judgeB ls rs (.int i) = false := rfl
    rw [e]; refine noX_ok ?_; simp [r__law_judged, startE, worldD, isiB]
  · have e : judgeB ls rs (.str z) = false := rfl
    rw [e]; refine noX_ok ?_; simp [r__law_judged, startE, worldD, isiB]
  rcases six_cases h with e | ⟨a, b, c, e, f, g, m, q, hm, pa, pb, pc, pe, pf, pg⟩
  · have e1 := isTup6 e
    have e2 : judgeB ls rs (.tup xs) = false := by
      unfold judgeB
      split
      · rename_i q; cases q; cases e
      · rfl
    rw [e2]
    refine noX_ok ?_
    simp [r__law_judged, startE, worldD, isiB, gEq_ints, e1]
  · cases q
    cases hm
    have n1 : loopC (asgN 2) tYesM (eBin gIx (eVar 2) (eC (.int 0))) [] (ls.map procD) [some (worldD ls rs), some (.tup [a, b, c, e, f, g]), none, none, none, none, some (coreD ls), some (coreD rs), some (tabD ls), some (tabD rs), none] mu = _ := names_comp (i := 0) rfl
    have n2 : loopC (asgN 2) tYesM (eBin gIx (eVar 2) (eC (.int 0))) [] (rs.map procD) [some (worldD ls rs), some (.tup [a, b, c, e, f, g]), none, none, none, none, some (coreD ls), some (coreD rs), some (tabD ls), some (tabD rs), none] mu = _ := names_comp (i := 0) rfl
    have i1 := (NamesD.gInD (nd := .fl ((ls.map fun p => p.name).map D.str)) (neg := true) (mu := mu) (.inr rfl) pa.eqs.1)
    have i2 := (NamesD.gInD (nd := .fl ((rs.map fun p => p.name).map D.str)) (neg := true) (mu := mu) (.inr rfl) pb.eqs.1)
    rw [inD_has] at i1 i2
    have wl : coreD ls = .tup (ls.map procD) := rfl
    have wr : coreD rs = .tup (rs.map procD) := rfl
    have wk : ∀ (ps : List Pr) (mu : List MO), walkD (coreD ps) mu = .ok (ps.map procD, []) mu := fun _ _ => rfl
    have ww : worldD ls rs = .tup [coreD ls, coreD rs, tabD ls, tabD rs] := rfl
    obtain ⟨NL, hNL⟩ : ∃ N, N = (ls.map fun p => p.name).map D.str := ⟨_, rfl⟩
    obtain ⟨NR, hNR⟩ : ∃ N, N = (rs.map fun p => p.name).map D.str := ⟨_, rfl⟩
    rw [← hNL] at n1 i1
    rw [← hNR] at n2 i2
    rw [ww] at n1 n2
    cases ca : hasB ls a with
    | false =>
      rw [ca] at i1
      have e2 : judgeB ls rs (.tup [a, b, c, e, f, g]) = false := by
        unfold judgeB
        split
        · rename_i q
          cases q
          rw [has_none ca]
        · rfl
      rw [e2]
      refine noX_ok ?_
      simp [r__law_judged, startE, worldD, isiB, gEq_ints, wk, noX_ok n1, i1]
    | true =>
    rw [ca] at i1
    obtain ⟨z, p, rfl, hp⟩ := hasB_find ca
    cases cb : hasB rs b with
    | false =>
      rw [cb] at i2
      have e2 : judgeB ls rs (.tup [.str z, b, c, e, f, g]) = false := by
        unfold judgeB
        split
        · rename_i q
          cases q
          rw [has_none cb, hp]
        · rfl
      rw [e2]
      refine noX_ok ?_
      simp [r__law_judged, startE, worldD, isiB, gEq_ints, wk, noX_ok n1, i1, noX_ok n2, i2]
    | true =>
    rw [cb] at i2
    obtain ⟨z', q, rfl, hq⟩ := hasB_find cb
    have e2 : judgeB ls rs (.tup [.str z, .str z', c, e, f, g]) = judgeP p q (tabN ls z) (tabN rs z') c e f g := by
      show (match ls.find? (fun x => x.name == z), rs.find? (fun x => x.name == z') with
        | some p, some q => judgeP p q (tabN ls z) (tabN rs z') c e f g
        | _, _ => false) = _
      rw [hp, hq]
    rw [e2]
    obtain ⟨hpm, hpn⟩ := names_of_find hp
    obtain ⟨hqm, hqn⟩ := names_of_find hq
    have hpw := cl.pr p hpm
    have hqw := cr.pr q hqm
    have d1 := law_named_ok (mu := mu) hp
    have d2 := law_named_ok (mu := mu) hq
    have k1 := law_input_names_ok (m := "l.") (mu := mu) hpw (by rw [ldot.1]; omega)
    have k2 := law_input_names_ok (m := "r.") (mu := mu) hqw (by rw [ldot.2.1]; omega)
    have t1 := law_ask_names_ok (ps := ls) (m := "l.") (mu := mu) hpw (by rw [ldot.1]; omega) (List.mem_map.mpr ⟨p, hpm, rfl⟩)
    have t2 := law_ask_names_ok (ps := rs) (m := "r.") (mu := mu) hqw (by rw [ldot.2.1]; omega) (List.mem_map.mpr ⟨q, hqm, rfl⟩)
    rw [hpn] at t1
    rw [hqn] at t2
    have x1 := law_arrays_ok (p := p) (mu := mu)
    have x2 := law_arrays_ok (p := q) (mu := mu)
    obtain ⟨i1l, _⟩ := inputs_len hpw
    obtain ⟨i2l, _⟩ := inputs_len hqw
    obtain ⟨o1l, _⟩ := outc_len (ns := tabN ls z) hpw
    obtain ⟨o2l, _⟩ := outc_len (ns := tabN rs z') hqw
    have g1 := gAdd_fl (xs := (markN "l." (inputs p)).map D.str) (ys := (markN "r." (inputs q)).map D.str) (mu := mu) (small_size (by unfold markN; simp; omega))
    rw [← List.map_append] at g1
    change gAdd _ _ mu = .ok (.fl ((givenN p q).map D.str)) mu at g1
    obtain ⟨L1, hL1⟩ : ∃ L, L = lawAsk "l." p (tabN ls z) := ⟨_, rfl⟩
    obtain ⟨L2, hL2⟩ : ∃ L, L = lawAsk "r." q (tabN rs z') := ⟨_, rfl⟩
    have ll1 : L1.length ≤ 301 := by rw [hL1]; unfold lawAsk markN; simp; omega
    have ll2 : L2.length ≤ 301 := by rw [hL2]; unfold lawAsk markN; simp; omega
    rw [← hL1] at t1
    rw [← hL2] at t2
    change dLawAsk _ mu = .ok (.vl (.fl (L1.map D.str))) mu at t1
    change dLawAsk _ mu = .ok (.vl (.fl (L2.map D.str))) mu at t2
    have g2 := gAdd_fl (xs := L1.map D.str) (ys := L2.map D.str) (mu := mu) (small_size (by simp; omega))
    rw [← List.map_append] at g2
    have f1 := law_are_forms_ok (nd := .fl ((givenN p q).map D.str)) (mu := mu) pc (.inr rfl)
    have f2 := law_are_forms_ok (nd := .fl ((L1 ++ L2).map D.str)) (mu := mu) pf (.inr rfl)
    have s2 : (2 : Nat) ≤ sizeLine := by decide
    have pl := pairs_comp (m := m0) (A := arrs p) (B := arrs q) (xs := [e, g]) (env := [some (.tup [coreD ls, coreD rs, tabD ls, tabD rs]), some (.tup [.str z, .str z', c, e, f, g]), some (procD p), some (procD q), some (.fl ((givenN p q).map D.str)), some (.fl [e, g]), some (coreD ls), some (coreD rs), some (tabD ls), some (tabD rs), none]) (mu := mu) (p := procD p) (q := procD q) (by omega) rfl rfl rfl x1 x2 (by
      intro x hx
      simp at hx
      rcases hx with rfl | rfl
      · exact pe
      · exact pg)
    have ga := gAll_map (p := fun x => pairsB (arrs p) (arrs q) x) (mu := mu) [e, g]
    have e3 : judgeP p q (tabN ls z) (tabN rs z') c e f g = (areB (lawForm (givenN p q)) c && (areB (lawForm (L1 ++ L2)) f && [e, g].all fun x => pairsB (arrs p) (arrs q) x)) := by
      rw [hL1, hL2]
      unfold judgeP
      simp
    rw [e3]
    obtain ⟨GN, hGN⟩ : ∃ N, N = (givenN p q).map D.str := ⟨_, rfl⟩
    obtain ⟨AN, hAN⟩ : ∃ N, N = (L1 ++ L2).map D.str := ⟨_, rfl⟩
    rw [← hGN] at g1 f1 pl
    rw [← hAN] at g2 f2
    obtain ⟨PL, hPL⟩ : ∃ N, N = [e, g].map fun x => D.bl (pairsB (arrs p) (arrs q) x) := ⟨_, rfl⟩
    rw [← hPL] at pl ga
    obtain ⟨al, hal⟩ : ∃ b, b = [e, g].all fun x => pairsB (arrs p) (arrs q) x := ⟨_, rfl⟩
    rw [← hal] at ga ⊢
    obtain ⟨K1, hK1⟩ : ∃ N, N = (markN "l." (inputs p)).map D.str := ⟨_, rfl⟩
    obtain ⟨K2, hK2⟩ : ∃ N, N = (markN "r." (inputs q)).map D.str := ⟨_, rfl⟩
    rw [← hK1] at g1 k1
    rw [← hK2] at g1 k2
    obtain ⟨S1, hS1⟩ : ∃ N, N = L1.map D.str := ⟨_, rfl⟩
    obtain ⟨S2, hS2⟩ : ∃ N, N = L2.map D.str := ⟨_, rfl⟩
    rw [← hS1] at g2 t1
    rw [← hS2] at g2 t2
    refine noX_ok ?_
    cases b1 : areB (lawForm (givenN p q)) c <;> cases b2 : areB (lawForm (L1 ++ L2)) f <;> rw [b1] at f1 <;> rw [b2] at f2 <;> simp [r__law_judged, startE, worldD, isiB, gEq_ints, wk, noX_ok n1, i1, noX_ok n2, i2, d1, d2, k1, k2, g1, f1, t1, t2, g2, f2, s2, noX_ok pl, ga]
end K06
namespace K06
open PySem L2 PyProof.Rows MP
/-- no blank within -/
def NoB (z : Str) : Prop := 32 ∉ z.cps.toList
theorem blank_eq : (Str.ofString " ") = ⟨#[32]⟩ := by decide +kernel
theorem NoB.inS {z : Str} (h : NoB z) : inS " " z = false := by
  show (!(Builtin.Str.occurrences z (Str.ofString " ") 0 z.length 1).isEmpty) = false
  rw [blank_eq, PySem.StrLaws.found_one]
  exact decide_eq_false h
theorem NoB.app {x y : Str} (h : NoB x) (h' : NoB y) : NoB (x ++ y) := by
  unfold NoB
  rw [cps_append]
  intro z
  rcases List.mem_append.mp z with z | z
  · exact h z
  · exact h' z
theorem marks_nob : NoB "l." ∧ NoB "r." ∧ NoB "." ∧ NoB ".count" ∧ NoB "@" ∧ NoB "#" := by unfold NoB; decide +kernel
structure PrB (p : Pr) : Prop where
  its : ∀ it ∈ p.items, NoB it.2
  res : ∀ r ∈ p.results, NoB r
theorem keyS_nob {it : Bool × Str} (h : NoB it.2) : NoB (keyS it) := by
  unfold keyS hash
  split
  · exact marks_nob.2.2.2.2.2.app h
  · exact h
theorem inputs_nob {p : Pr} (h : PrB p) : ∀ z ∈ inputs p, NoB z := fun z hz => by
  obtain ⟨it, hit, e⟩ := List.mem_map.mp hz
  rw [← e]
  exact marks_nob.2.2.2.2.1.app (keyS_nob (h.its it hit))
theorem outc_nob {p : Pr} {ns : List Str} (h : PrB p) : ∀ z ∈ outc p ns, NoB z := fun z hz => by
  rcases List.mem_append.mp hz with q | q
  · exact h.res z q
  · obtain ⟨it, hit, e⟩ := List.mem_map.mp q
    rw [← e]
    exact marks_nob.2.2.2.2.2.app (h.its it (List.mem_filter.mp hit).1)
theorem mark_nob {m : Str} {ns : List Str} (hm : NoB m) (h : ∀ z ∈ ns, NoB z) : ∀ z ∈ markN m ns, NoB z := fun z hz => by
  obtain ⟨y, hy, e⟩ := List.mem_map.mp hz
  rw [← e]
  exact hm.app (h y hy)
theorem given_nob {p q : Pr} (hp : PrB p) (hq : PrB q) : ∀ z ∈ givenN p q, NoB z := fun z hz => by
  rcases List.mem_append.mp hz with h | h
  · exact mark_nob marks_nob.1 (inputs_nob hp) z h
  · exact mark_nob marks_nob.2.1 (inputs_nob hq) z h
theorem ask_nob {p q : Pr} {ms ns : List Str} (hp : PrB p) (hq : PrB q) : ∀ z ∈ askN p q ms ns, NoB z := fun z hz => by
  rcases List.mem_append.mp hz with h | h
  · rcases List.mem_append.mp h with h | h
    · rcases List.mem_append.mp h with h | h
      · exact given_nob hp hq z h
      · simp at h
        rcases h with rfl | rfl
        · exact marks_nob.1.app marks_nob.2.2.2.1
        · exact marks_nob.2.1.app marks_nob.2.2.2.1
    · exact mark_nob (marks_nob.1.app marks_nob.2.2.1) (outc_nob hp) z h
  · exact mark_nob (marks_nob.2.1.app marks_nob.2.2.1) (outc_nob hq) z h
theorem ask_same {p q : Pr} {ms ns : List Str} (z : Str) : (askN p q ms ns).contains z = (lawAsk "l." p ms ++ lawAsk "r." q ns).contains z := by
  rw [Bool.eq_iff_iff, List.contains_iff_mem, List.contains_iff_mem]
  unfold askN lawAsk givenN
  simp only [List.mem_append, List.mem_cons, List.not_mem_nil, or_false]
  constructor
  · rintro ((((h | h) | (h | h)) | h) | h)
    · exact .inl (.inl (.inl h))
    · exact .inr (.inl (.inl h))
    · exact .inl (.inl (.inr h))
    · exact .inr (.inl (.inr h))
    · exact .inl (.inr h)
    · exact .inr (.inr h)
  · rintro (((h | h) | h) | ((h | h) | h))
    · exact .inl (.inl (.inl (.inl h)))
    · exact .inl (.inl (.inr (.inl h)))
    · exact .inl (.inr h)
    · exact .inl (.inl (.inl (.inr h)))
    · exact .inl (.inl (.inr (.inr h)))
    · exact .inr h
theorem lawL_congr {ns ms : List Str} (h : ∀ z, ns.contains z = ms.contains z) : ∀ (ts : List D) (last : Str), lawL ns last ts = lawL ms last ts
  | [], _ => rfl
  | t :: ts, last => by
    by_cases hz : ∃ z k, t = .tup [.str z, .int k]
    · obtain ⟨z, k, rfl⟩ := hz
      unfold lawL
      rw [h z, lawL_congr h ts z]
    · rw [lawL_no fun z k e => hz ⟨z, k, e⟩, lawL_no fun z k e => hz ⟨z, k, e⟩]
theorem lawForm_congr {ns ms : List Str} (h : ∀ z, ns.contains z = ms.contains z) : lawForm ns = lawForm ms := by
  funext d
  unfold lawForm
  split
  · exact lawL_congr h _ _
  · rfl
/-- is_claim and the law's judgement agree at every datum -/
theorem claim_judge {ls rs : List Pr} (hl : ∀ p ∈ ls, PrB p) (hr : ∀ p ∈ rs, PrB p) (d : D) : claimB ls rs d = judgeB ls rs d := by
  unfold claimB judgeB
  split
  · rename_i n m c e f g
    show (match ls.find? (fun x => x.name == n), rs.find? (fun x => x.name == m) with
      | some p, some q => partsB p q (tabN ls n) (tabN rs m) c e f g
      | _, _ => false) = (match ls.find? (fun x => x.name == n), rs.find? (fun x => x.name == m) with
      | some p, some q => judgeP p q (tabN ls n) (tabN rs m) c e f g
      | _, _ => false)
    cases hp : ls.find? (fun x => x.name == n) with
    | none => rfl
    | some p =>
      cases hq : rs.find? (fun x => x.name == m) with
      | none => rfl
      | some q =>
        have bp := hl p (names_of_find hp).1
        have bq := hr q (names_of_find hq).1
        show partsB p q (tabN ls n) (tabN rs m) c e f g = judgeP p q (tabN ls n) (tabN rs m) c e f g
        unfold partsB judgeP
        rw [are_eq (fun z hz => (given_nob bp bq z hz).inS), are_eq (fun z hz => (ask_nob bp bq z hz).inS), lawForm_congr (ask_same (p := p) (q := q))]
        cases areB (lawForm (givenN p q)) c <;> cases areB (lawForm (lawAsk "l." p (tabN ls n) ++ lawAsk "r." q (tabN rs m))) f <;> cases pairsB (arrs p) (arrs q) e <;> cases pairsB (arrs p) (arrs q) g <;> rfl
  · rename_i hn
    first
      | rfl
      | (split
         · exact (hn _ _ _ _ _ _ rfl).elim
         · rfl)
end K06
namespace K06
open PySem L2 PyProof.Rows MP
/-! ### the generator, small words -/
theorem cutD_drop {xs : List D} {k : Nat} : MP.cutD xs (some (k : Int)) none = xs.drop k := by
  unfold MP.cutD
  rw [HT.sIx_nat, HT.sIx_none]
  by_cases h : k ≤ xs.length
  · rw [Nat.min_eq_left h]
    exact List.take_of_length_le (by rw [List.length_drop]; omega)
  · rw [Nat.min_eq_right (by omega), List.drop_eq_nil_of_le (Nat.le_refl _), List.drop_eq_nil_of_le (by omega)]
    simp
theorem with_ok {xs : List D} {k : Nat} {d : D} {mu : List MO} (h : xs.length ≤ 1000) : den__law_with [.tup xs, .int (k : Int), d] mu = .ok (.vl (.tup ((xs.take k ++ [d]) ++ xs.drop (k + 1)))) mu := by
  have c1 := cutD_take (xs := xs) (k := k)
  have c2 := cutD_drop (xs := xs) (k := k + 1)
  have ek : ((k + 1 : Nat) : Int) = (k : Int) + 1 := by omega
  rw [ek] at c2
  have lt : (xs.take k).length ≤ 1000 := by rw [List.length_take]; omega
  have ld : (xs.drop (k + 1)).length ≤ 1000 := by rw [List.length_drop]; omega
  obtain ⟨A, hA⟩ : ∃ A, A = xs.take k := ⟨_, rfl⟩
  obtain ⟨B, hB⟩ : ∃ B, B = xs.drop (k + 1) := ⟨_, rfl⟩
  rw [← hA] at c1 lt ⊢
  rw [← hB] at c2 ld ⊢
  have a1 := gAdd_tup (xs := A) (ys := [d]) (mu := mu) (small_size (by simp; omega))
  have a2 := gAdd_tup (xs := A ++ [d]) (ys := B) (mu := mu) (small_size (by simp; omega))
  obtain ⟨C, hC⟩ : ∃ C, C = A ++ [d] := ⟨_, rfl⟩
  rw [← hC] at a1 a2 ⊢
  have s1 : (1 : Nat) ≤ sizeLine := by decide
  refine noX_ok ?_
  simp [r__law_with, startE, c1, c2, gTup_ok, s1, a1, a2]
theorem more_ok {s : Nat} {cs : List Int} {xs : List D} {d : D} {mu : List MO} (A : At s cs mu) (h : xs.length ≤ 1000) : ∃ i mu', den__law_more den__law_draw [.ref s, .tup xs, d] mu = .ok (.vl (.tup ((xs.take i ++ [d]) ++ xs.drop i))) mu' ∧ Nx s cs mu mu' := by
  obtain ⟨i, mu', e, n, h0, h1⟩ := draw_at (most := (xs.length : Int) + 1) A (by omega) (log2_small (by omega))
  obtain ⟨k, rfl⟩ := Int.eq_ofNat_of_zero_le h0
  refine ⟨k, mu', ?_, n⟩
  have c1 := cutD_take (xs := xs) (k := k)
  have c2 := cutD_drop (xs := xs) (k := k)
  have lt : (xs.take k).length ≤ 1000 := by rw [List.length_take]; omega
  have ld : (xs.drop k).length ≤ 1000 := by rw [List.length_drop]; omega
  obtain ⟨A', hA⟩ : ∃ A, A = xs.take k := ⟨_, rfl⟩
  obtain ⟨B, hB⟩ : ∃ B, B = xs.drop k := ⟨_, rfl⟩
  rw [← hA] at c1 lt ⊢
  rw [← hB] at c2 ld ⊢
  have a1 := gAdd_tup (xs := A') (ys := [d]) (mu := mu') (small_size (by simp; omega))
  have a2 := gAdd_tup (xs := A' ++ [d]) (ys := B) (mu := mu') (small_size (by simp; omega))
  obtain ⟨C, hC⟩ : ∃ C, C = A' ++ [d] := ⟨_, rfl⟩
  rw [← hC] at a1 a2 ⊢
  have s1 : (1 : Nat) ≤ sizeLine := by decide
  refine noX_ok ?_
  simp [r__law_more, startE, e, c1, c2, gTup_ok, s1, a1, a2]
end K06
namespace K06
open PySem L2 PyProof.Rows MP
noncomputable def procBody : MP.Env → M Fl :=
  (sSeq (sSet 9 (eCall (lenD 2 den__law_draw) (aCons (eVar 0) (aCons (eC (.int 3)) aNil))))
  (eIf (bAnd (eB (eBin (gEq false) (eVar 7) (eC (.str "int")))) (eB (eBin (gEq false) (eVar 9) (eC (.int 0)))))
  (sSet 5 (eBin gAdd (eVar 5) (aThen gTup (aCons (aThen gTup (aCons (eC (.str "set")) (aCons (aThen gTup (aCons (aThen gTup (aCons (eVar 8) (aCons (aThen gTup (aCons (eC (.str "number")) (aCons (eC (.int 2)) aNil))) aNil))) aNil)) aNil))) aNil))))
  (eIf (bAnd (eB (eBin (gEq false) (eVar 7) (eC (.str "array")))) (eB (eBin (gEq false) (eVar 9) (eC (.int 0)))))
  (sSet 5 (eBin gAdd (eVar 5) (aThen gTup (aCons (aThen gTup (aCons (eC (.str "push")) (aCons (aThen gTup (aCons (eC (.str "number")) (aCons (eC (.int 1)) aNil))) (aCons (eVar 8) aNil)))) aNil))))
  (eIf (bAnd (eB (eBin (gEq false) (eVar 7) (eC (.str "array")))) (eB (eBin (gEq false) (eVar 9) (eC (.int 1)))))
  (sSet 5 (eBin gAdd (eVar 5) (aThen gTup (aCons (aThen gTup (aCons (eC (.str "store")) (aCons (eVar 8) (aCons (aThen gTup (aCons (eC (.str "number")) (aCons (eC (.int 0)) aNil))) (aCons (aThen gTup (aCons (eC (.str "number")) (aCons (eC (.int 1)) aNil))) aNil))))) aNil))))
  sNext))))
theorem kind_int {b : Bool} : (kindS b == Str.ofString "int") = !b := by cases b <;> decide +kernel
def envP (s : Nat) (a b c d e : D) (bs : List Bs) (o6 o7 o8 o9 : Option D) : MP.Env := [some (.ref s), some a, some b, some c, some d, some (.tup (bs.map bsD)), o6, o7, o8, o9]
theorem proc_step {s : Nat} {cs : List Int} {a b c d : D} {bs : List Bs} {it : Bool × Str} {mu : List MO} (A : At s cs mu) (hl : bs.length < 1000) : ∃ (nb : List Bs) (mu' : List MO) (i : Int), procBody [some (.ref s), some a, some b, some c, some d, some (.tup (bs.map bsD)), none, some (.str (kindS it.1)), some (.str it.2), none] mu = .ok (.nx [some (.ref s), some a, some b, some c, some d, some (.tup ((bs ++ nb).map bsD)), none, some (.str (kindS it.1)), some (.str it.2), some (.int i)]) mu' ∧ Nx s cs mu mu' ∧ nb.length ≤ 1 ∧ ∀ x ∈ nb, bsW x = it.2 := by
  obtain ⟨i, mu', e, n, h0, h1⟩ := draw_at (most := 3) A (by decide) (by decide)
  have s1 : (1 : Nat) ≤ sizeLine := by decide
  have s2 : (2 : Nat) ≤ sizeLine := by decide
  have s3 : (3 : Nat) ≤ sizeLine := by decide
  have s4 : (4 : Nat) ≤ sizeLine := by decide
  have hadd : ∀ x : D, gAdd (.tup (bs.map bsD)) (.tup [x]) mu' = .ok (.tup (bs.map bsD ++ [x])) mu' := fun x => gAdd_tup (small_size (by simp; omega))
  obtain ⟨B, hB⟩ : ∃ B, B = bs.map bsD := ⟨_, rfl⟩
  rw [← hB] at hadd
  have hi : i = 0 ∨ i = 1 ∨ i = 2 := by omega
  obtain ⟨k, w⟩ := it
  cases k <;> rcases hi with rfl | rfl | rfl
  · exact ⟨[.set w], mu', 0, by rw [List.map_append, ← hB]; simp [procBody, e, gEq_strs, kind_int, gEq_ints, gTup_ok, s1, s2, hadd, bsD, numD], n, by simp, by simp [bsW]⟩
  · exact ⟨[], mu', 1, by rw [List.append_nil, ← hB]; simp [procBody, e, gEq_strs, kind_int, kind_arr, gEq_ints], n, by simp, by simp⟩
  · exact ⟨[], mu', 2, by rw [List.append_nil, ← hB]; simp [procBody, e, gEq_strs, kind_int, kind_arr, gEq_ints], n, by simp, by simp⟩
  · exact ⟨[.push w], mu', 0, by rw [List.map_append, ← hB]; simp [procBody, e, gEq_strs, kind_int, kind_arr, gEq_ints, gTup_ok, s1, s2, s3, hadd, bsD, numD], n, by simp, by simp [bsW]⟩
  · exact ⟨[.store w], mu', 1, by rw [List.map_append, ← hB]; simp [procBody, e, gEq_strs, kind_int, kind_arr, gEq_ints, gTup_ok, s1, s2, s4, hadd, bsD, numD], n, by simp, by simp [bsW]⟩
  · exact ⟨[], mu', 2, by rw [List.append_nil, ← hB]; simp [procBody, e, gEq_strs, kind_int, kind_arr, gEq_ints], n, by simp, by simp⟩
theorem proc_loop {s : Nat} {cs : List Int} {a b c d : D} : ∀ (its : List (Bool × Str)) (bs : List Bs) (mu : List MO) (o7 o8 o9 : Option D), At s cs mu → bs.length + its.length < 1000 → ∃ (nb : List Bs) (mu' : List MO),
    loopF (asgT 2 (asgCons (asgN 7) (asgCons (asgN 8) asgNil))) procBody [7, 8, 9] [] (its.map itemD) [some (.ref s), some a, some b, some c, some d, some (.tup (bs.map bsD)), none, o7, o8, o9] mu = .ok (.nx [some (.ref s), some a, some b, some c, some d, some (.tup ((bs ++ nb).map bsD)), none, none, none, none]) mu' ∧ Nx s cs mu mu' ∧ nb.length ≤ its.length ∧ ∀ x ∈ nb, ∃ it ∈ its, bsW x = it.2
  | [], bs, mu, o7, o8, o9, A, _ => ⟨[], mu, by
    show loopF _ _ _ [] [] _ _ = _
    rw [loopF_nil, List.append_nil]; rfl, .refl A, by simp, by simp⟩
  | it :: its, bs, mu, o7, o8, o9, A, hl => by
    obtain ⟨nb, mu1, i, h1, n1, l1, w1⟩ := proc_step (a := a) (b := b) (c := c) (d := d) (bs := bs) (it := it) A (by omega)
    obtain ⟨nb', mu2, h2, n2, l2, w2⟩ := proc_loop (a := a) (b := b) (c := c) (d := d) its (bs ++ nb) mu1 (some (.str (kindS it.1))) (some (.str it.2)) (some (.int i)) (n1.at_ A) (by rw [List.length_append]; rw [List.length_cons] at hl; omega)
    refine ⟨nb ++ nb', mu2, ?_, n1.trans n2, by rw [List.length_append, List.length_cons]; omega, fun x hx => ?_⟩
    · rw [List.map_cons, loopF_cons]
      rw [List.append_assoc] at h2
      obtain ⟨B, hB⟩ : ∃ B, B = bs.map bsD := ⟨_, rfl⟩
      obtain ⟨B', hB'⟩ : ∃ B, B = (bs ++ nb).map bsD := ⟨_, rfl⟩
      rw [← hB] at h1 ⊢
      rw [← hB'] at h1 h2
      simp [itemD, h1, h2]
    · rcases List.mem_append.mp hx with z | z
      · exact ⟨it, by simp, w1 x z⟩
      · obtain ⟨j, hj, e⟩ := w2 x z
        exact ⟨j, by simp [hj], e⟩
end K06
namespace K06
open PySem L2 PyProof.Rows MP
def unItem : D → Bool × Str
  | .tup [.str k, .str w] => (k == "array", w)
  | _ => (false, Str.empty)
theorem unItem_item (it : Bool × Str) : unItem (itemD it) = it := by
  obtain ⟨k, w⟩ := it
  show (kindS k == Str.ofString "array", w) = (k, w)
  rw [kind_arr]
theorem perm_items {ys : List D} {its : List (Bool × Str)} (h : ys.Perm (its.map itemD)) : ∃ js : List (Bool × Str), ys = js.map itemD ∧ js.Perm its := by
  refine ⟨ys.map unItem, ?_, ?_⟩
  · rw [List.map_map]
    conv => lhs; rw [← List.map_id ys]
    apply List.map_congr_left
    intro y hy
    obtain ⟨it, _, e⟩ := List.mem_map.mp (h.mem_iff.mp hy)
    subst e
    show itemD it = itemD (unItem (itemD it))
    rw [unItem_item]
  · have p := h.map unItem
    rw [List.map_map] at p
    have e : its.map (unItem ∘ itemD) = its := by
      conv => rhs; rw [← List.map_id its]
      apply List.map_congr_left
      intro it _
      exact unItem_item it
    rw [e] at p
    exact p
def its0 (ws : List Str) : List (Bool × Str) := [(false, ws.getD 0 Str.empty), (false, ws.getD 1 Str.empty), (true, ws.getD 2 Str.empty), (true, ws.getD 3 Str.empty)]
def ress : List (List Str) := [[], ["result"], ["result.x", "result.y"]]
structure Drawn (nm : Str) (ws : List Str) (p : Pr) : Prop where
  name : p.name = nm
  items : ∃ (js : List (Bool × Str)) (i : Nat), js.Perm (its0 ws) ∧ i < 4 ∧ p.items = js.drop i
  results : p.results ∈ ress
  places : p.places = [(false, ws.getD 4 Str.empty), (true, ws.getD 5 Str.empty)]
  body : p.body.length ≤ 4 ∧ ∀ b ∈ p.body, ∃ it ∈ p.items, bsW b = it.2
theorem gSl_fl {xs : List D} {k : Nat} {mu : List MO} : gSl (.fl xs) (some (k : Int)) none mu = .ok (.fl (xs.drop k)) mu := by
  have e : gSl (.fl xs) (some (k : Int)) none mu = .ok (.fl (MP.cutD xs (some (k : Int)) none)) mu := rfl
  rw [e, cutD_drop]
theorem proc_of_ok {s : Nat} {cs : List Int} {nm : Str} {ws : List Str} {mu : List MO} (A : At s cs mu) (hw : ws.length = 6) : ∃ (p : Pr) (mu' : List MO), den__law_proc_of shufD den__law_draw [.ref s, .str nm, .fl (ws.map D.str)] mu = .ok (.vl (procD p)) mu' ∧ Nx s cs mu mu' ∧ Drawn nm ws p := by
  match ws, hw with
  | [w0, w1, w2, w3, w4, w5], _ =>
  obtain ⟨ys, m1, e1, n1, p1⟩ := shufD_ok (d := .fl ((its0 [w0, w1, w2, w3, w4, w5]).map itemD)) A rfl (by simp [its0]) (flats_clo _ rfl)
  obtain ⟨js, rfl, pj⟩ := perm_items p1
  obtain ⟨i, m2, e2, n2', i0, i4⟩ := draw_at (most := 4) (n1.at_ A) (by decide) (by decide)
  have n2 := n1.trans n2'
  obtain ⟨i, rfl⟩ := Int.eq_ofNat_of_zero_le i0
  obtain ⟨r, m3, e3, n3', r0, r3⟩ := draw_at (most := 3) (n2.at_ A) (by decide) (by decide)
  have n3 := n2.trans n3'
  have s0 : (0 : Nat) ≤ sizeLine := by decide
  have s1 : (1 : Nat) ≤ sizeLine := by decide
  have s2 : (2 : Nat) ≤ sizeLine := by decide
  have s3 : (3 : Nat) ≤ sizeLine := by decide
  have s4 : (4 : Nat) ≤ sizeLine := by decide
  have s9 : (9 : Nat) ≤ sizeLine := by decide
  have hlen : js.length = 4 := by rw [pj.length_eq]; rfl
  have hi : gSl (.fl (js.map itemD)) (some (i : Int)) none m2 = .ok (.fl ((js.drop i).map itemD)) m2 := by rw [gSl_fl, List.map_drop]
  obtain ⟨rs, hrs, hrm⟩ : ∃ rs : List Str, (∀ mu, ixD [.tup [], .tup [.str "result"], .tup [.str "result.x", .str "result.y"]] r mu = .ok (.tup (rs.map D.str)) mu) ∧ rs ∈ ress := by
    have hr : r = 0 ∨ r = 1 ∨ r = 2 := by omega
    rcases hr with rfl | rfl | rfl
    · exact ⟨[], fun _ => by simp, by simp [ress]⟩
    · exact ⟨["result"], fun _ => by simp, by simp [ress]⟩
    · exact ⟨["result.x", "result.y"], fun _ => by simp, by simp [ress]⟩
  obtain ⟨nb, m4, e4, n4', l4, w4'⟩ := proc_loop (s := s) (cs := cs) (a := .str nm) (b := .fl ([w0, w1, w2, w3, w4, w5].map D.str)) (c := .fl ((js.drop i).map itemD)) (d := .tup (rs.map D.str)) (js.drop i) [] m3 none none none (n3.at_ A) (by rw [List.length_drop]; simp; omega)
  refine ⟨⟨nm, js.drop i, rs, [(false, w4), (true, w5)], nb⟩, m4, ?_, n3.trans n4', rfl, ⟨js, i, pj, by omega, rfl⟩, hrm, rfl, ?_, w4'⟩
  · refine noX_ok ?_
    have hit : D.fl ((its0 [w0, w1, w2, w3, w4, w5]).map itemD) = .fl [.tup [.str "int", .str w0], .tup [.str "int", .str w1], .tup [.str "array", .str w2], .tup [.str "array", .str w3]] := rfl
    rw [hit] at e1
    unfold procBody at e4
    rw [List.nil_append, List.map_nil] at e4
    obtain ⟨JD, hJD⟩ : ∃ J, J = (js.drop i).map itemD := ⟨_, rfl⟩
    obtain ⟨RD, hRD⟩ : ∃ J, J = rs.map D.str := ⟨_, rfl⟩
    obtain ⟨ND, hND⟩ : ∃ J, J = nb.map bsD := ⟨_, rfl⟩
    have hp : procD ⟨nm, js.drop i, rs, [(false, w4), (true, w5)], nb⟩ = .tup [.str nm, .tup JD, .tup RD, .tup [.tup [.str "int", .str w4], .tup [.str "array", .str w5]], .tup [], .tup [], .tup [], .tup [], .tup ND] := by
      rw [hJD, hRD, hND]; rfl
    rw [hp]
    rw [← hJD] at hi e4
    rw [← hRD] at hrs e4
    rw [← hND] at e4
    simp only [List.map_cons, List.map_nil] at e4
    simp [r__law_proc_of, startE, gTup_ok, s0, s1, s2, s3, s4, s9, e1, e2, hi, e3, hrs, e4]
  · rw [List.length_drop] at l4; show nb.length ≤ 4; omega
end K06
namespace K06
open PySem L2 PyProof.Rows MP
theorem strsOf_map : ∀ (ws : List Str), strsOf (ws.map D.str) = some ws
  | [] => rfl
  | w :: ws => by
    show (strsOf (ws.map D.str)).map (w :: ·) = _
    rw [strsOf_map ws]; rfl
theorem srtD_strs {ws : List Str} {mu : List MO} (h0 : 0 < ws.length) (h : ws.length < 64) : srtD (ws.map D.str) mu = .ok ((srtS ws).map D.str) mu := by
  unfold srtD
  rw [bind_ap, need_ap, if_pos (by rw [List.length_map]; exact h), strsOf_map]
  match ws, h0 with
  | w :: ws, _ => rfl
structure GoodP (p : Pr) : Prop where
  drawn : ∃ ws : List Str, Drawn p.name ws p ∧ ws.length = 6 ∧ ws.Nodup ∧ ∀ w ∈ ws, GoodW w
noncomputable abbrev dWords : List D → M Rv := den__law_words den__law_draw
noncomputable abbrev dProcOf : List D → M Rv := den__law_proc_of shufD den__law_draw
theorem core_loop {s : Nat} {cs : List Int} {nd : D} : ∀ (ns : List Str) (mu : List MO), At s cs mu → ∃ (ps : List Pr) (mu' : List MO),
    loopC (asgN 2) tYesM (eCall (lenD 3 dProcOf) (aCons (eVar 0) (aCons (eVar 2) (aCons (eCall (lenD 2 dWords) (aCons (eVar 0) (aCons (eC (.int 6)) aNil))) aNil)))) [] (ns.map D.str) [some (.ref s), some nd, none] mu = .ok (ps.map procD) mu' ∧ Nx s cs mu mu' ∧ ps.map (·.name) = ns ∧ ∀ p ∈ ps, GoodP p
  | [], mu, A => ⟨[], mu, loopC_nil, .refl A, rfl, by simp⟩
  | nm :: ns, mu, A => by
    obtain ⟨ws, m1, e1, n1, hl, hnd, hg⟩ := words_ok (n := 6) A (by decide)
    obtain ⟨p, m2, e2, n2, hd⟩ := proc_of_ok (nm := nm) (n1.at_ A) hl
    obtain ⟨ps, m3, e3, n3, hn, hp⟩ := core_loop (s := s) (cs := cs) (nd := nd) ns m2 (n2.at_ (n1.at_ A))
    have e1 : dWords [.ref s, .int 6] mu = .ok (.fr (ws.map D.str)) m1 := e1
    refine ⟨p :: ps, m3, loopC_yes (mu1 := mu) (mu2 := m2) (env1 := [some (.ref s), some nd, some (.str nm)]) rfl rfl ?_ e3, (n1.trans n2).trans n3, by rw [List.map_cons, hd.name, hn], fun q hq => ?_⟩
    · simp [e1, e2]
    · rcases List.mem_cons.mp hq with e | e
      · rw [e]
        exact ⟨ws, by rw [hd.name]; exact hd, hl, hnd, hg⟩
      · exact hp q e
theorem core_of_ok {s : Nat} {cs : List Int} {mu : List MO} (A : At s cs mu) : ∃ (ps : List Pr) (mu' : List MO), den__law_core_of dWords den__law_draw dProcOf [.ref s] mu = .ok (.vl (coreD ps)) mu' ∧ Nx s cs mu mu' ∧ (ps.map (·.name)).Nodup ∧ (∀ n ∈ ps.map (·.name), GoodW n) ∧ 1 ≤ ps.length ∧ ps.length ≤ 3 ∧ ∀ p ∈ ps, GoodP p := by
  obtain ⟨d, m1, e1, n1, d0, d3⟩ := draw_at (most := 3) A (by decide) (by decide)
  obtain ⟨d, rfl⟩ := Int.eq_ofNat_of_zero_le d0
  obtain ⟨ws, m2, e2, n2, hl, hnd, hg⟩ := words_ok (n := 1 + d) (n1.at_ A) (by omega)
  have e2 : dWords [.ref s, .int (1 + (d : Int))] m1 = .ok (.fr (ws.map D.str)) m2 := by
    have e : ((1 + d : Nat) : Int) = 1 + (d : Int) := by omega
    rw [e] at e2; exact e2
  have hs := srtD_strs (ws := ws) (mu := m2) (by omega) (by omega)
  obtain ⟨ps, m3, e3, n3, hn, hp⟩ := core_loop (s := s) (cs := cs) (nd := .fl ((srtS ws).map D.str)) (srtS ws) m2 (n2.at_ (n1.at_ A))
  have hpl : ps.length = 1 + d := by
    have := congrArg List.length hn
    rw [List.length_map, srtS_len, hl] at this
    exact this
  refine ⟨ps, m3, ?_, (n1.trans n2).trans n3, ?_, ?_, by omega, by omega, hp⟩
  · obtain ⟨SN, hSN⟩ : ∃ S, S = (srtS ws).map D.str := ⟨_, rfl⟩
    rw [← hSN] at hs e3
    have w : coreD ps = .tup (ps.map procD) := rfl
    rw [w]
    refine noX_ok ?_
    simp [r__law_core_of, startE, e1, e2, hs, noX_ok e3]
  · rw [hn]
    exact (List.mergeSort_perm ws leS).nodup_iff.mpr hnd
  · rw [hn]
    exact fun n hn' => hg n (srtS_mem.mp hn')
end K06
namespace K06
open PySem L2 PyProof.Rows MP
theorem its0_mem {ws : List Str} (hl : ws.length = 6) : ∀ it ∈ its0 ws, it.2 ∈ ws := by
  match ws, hl with
  | [w0, w1, w2, w3, w4, w5], _ =>
    intro it h
    simp [its0] at h
    rcases h with rfl | rfl | rfl | rfl <;> simp
theorem GoodP.word {p : Pr} (h : GoodP p) : ∀ it ∈ p.items, GoodW it.2 := fun it hit => by
  obtain ⟨ws, hd, hl, _, hg⟩ := h.drawn
  obtain ⟨js, i, hp, _, e⟩ := hd.items
  rw [e] at hit
  exact hg _ (its0_mem hl it (hp.mem_iff.mp (List.mem_of_mem_drop hit)))
theorem GoodP.four {p : Pr} (h : GoodP p) : 1 ≤ p.items.length ∧ p.items.length ≤ 4 := by
  obtain ⟨ws, hd, hl, _, hg⟩ := h.drawn
  obtain ⟨js, i, hp, hi, e⟩ := hd.items
  have : js.length = 4 := by rw [hp.length_eq]; rfl
  rw [e, List.length_drop]; omega
theorem ress_ok : ∀ rs ∈ ress, rs.length ≤ 2 ∧ ∀ r ∈ rs, r.length ≤ 8 ∧ 32 ∉ r.cps.toList := by decide +kernel
theorem goodW_nob {w : Str} (h : GoodW w) : NoB w := fun z => by have := h.low 32 z; omega
theorem GoodP.w {p : Pr} (h : GoodP p) : PrW p := by
  have h4 := h.four
  have hw := h.word
  obtain ⟨ws, hd, hl, _, hg⟩ := h.drawn
  obtain ⟨r1, r2⟩ := ress_ok _ hd.results
  refine ⟨⟨by have := hd.body.1; omega, fun b hb => ?_⟩, fun it hit => ⟨by have := (hw it hit).le; omega⟩, fun r hr => by have := (r2 r hr).1; omega, by omega, by omega⟩
  obtain ⟨it, hit, e⟩ := hd.body.2 b hb
  rw [e]
  have := (hw it hit).le
  omega
theorem GoodP.b {p : Pr} (h : GoodP p) : PrB p := by
  obtain ⟨ws, hd, hl, _, hg⟩ := h.drawn
  obtain ⟨r1, r2⟩ := ress_ok _ hd.results
  exact ⟨fun it hit => goodW_nob (h.word it hit), fun r hr => (r2 r hr).2⟩
/-- at every datum is_claim answers as the law judges -/
theorem agree {n : Nat} {ls rs : List Pr} {d : D} {mu : List MO} (hl : ∀ p ∈ ls, GoodP p) (hr : ∀ p ∈ rs, GoodP p) (h : Pd n d) (hn : n < 60) (hm : CloH mu) :
    dClaim [coreD ls, coreD rs, d] mu = .ok (.vl (.bl (judgeB ls rs d))) mu ∧ dJudged [worldD ls rs, d] mu = .ok (.vl (.bl (judgeB ls rs d))) mu := by
  have cl : CoreW ls := ⟨fun p hp => (hl p hp).w⟩
  have cr : CoreW rs := ⟨fun p hp => (hr p hp).w⟩
  refine ⟨?_, judged_ok cl cr h hn⟩
  rw [is_claim_ok cl cr h hn hm, claim_judge (fun p hp => (hl p hp).b) (fun p hp => (hr p hp).b)]
end K06
namespace MP
open PySem L2 PyProof.Rows
@[simp] theorem rdM_fl {xs : List D} {mu : List MO} : rdM (.fl xs) mu = .ok xs mu := rfl
@[simp] theorem rdM_ref {n : Nat} {mu : List MO} : rdM (.ref n) mu = atL mu n := rfl
theorem putD_memK {α : Type} {l : List (Key × α)} {k : Key} {x : α} {q : Key × α} (h : q ∈ putD l k x) : q ∈ l ∨ q.2 = x := by
  unfold putD at h
  split at h
  · unfold mapV at h
    obtain ⟨y, hy, e⟩ := List.mem_map.mp h
    split at e
    · rw [← e]; exact .inr rfl
    · rw [← e]; exact .inl hy
  · rcases List.mem_append.mp h with z | z
    · exact .inl z
    · rw [List.mem_singleton.mp z]; exact .inr rfl
theorem loopF_step {asg : D → Env → M Env} {body : Env → M Fl} {fg : List Nat} {d : D} {ds : List D} {env env1 e : Env} {mu mu1 : List MO} (h1 : asg d (wipeE env fg) mu = .ok env1 mu) (h2 : body env1 mu = .ok (.nx e) mu1) : loopF asg body fg [] (d :: ds) env mu = loopF asg body fg [] ds e mu1 := by
  rw [loopF_cons]
  simp [h1, h2]
end MP
namespace K06
open PySem L2 PyProof.Rows MP
noncomputable def mvIn (ds : MP.Env → M Fl) : MP.Env → M Fl := (eIf (eB (eBin (gEq false) (eBin gIx (eVar 5) (eC (.int 0))) (eC (.str "set"))))
  (sSet 4 (eNew (fCat (eVar 4) (eFl (fComp (eWalk (eBin gIx (eVar 5) (eC (.int 1)))) (asgT 2 (asgCons (asgN 9) (asgCons (asgN 10) asgNil))) tYesM (eVar 9) [9, 10])))))
  (eIf (eB (eBin (gEq false) (eBin gIx (eVar 5) (eC (.int 0))) (eC (.str "pop"))))
  (sSet 4 (eNew (fCat (eVar 4) (eFl (aList (aCons (eBin gIx (eVar 5) (eC (.int 1))) (aCons (eBin gAdd (eC (.str "#")) (eBin gIx (eVar 5) (eC (.int 2)))) aNil)))))))
  (eIf (eB (eBin (gEq false) (eBin gIx (eVar 5) (eC (.int 0))) (eC (.str "push"))))
  (sExpr (eMeth lstK gAppend (eVar 4) (aCons (eBin gAdd (eC (.str "#")) (eBin gIx (eVar 5) (eC (.int 2)))) aNil)))
  (eIf (eB (eBin (gEq false) (eBin gIx (eVar 5) (eC (.int 0))) (eC (.str "call")))) ds
  sNext))))
theorem kinds_ne : ¬ (Str.ofString "push" = Str.ofString "set") ∧ ¬ (Str.ofString "push" = Str.ofString "pop") ∧ ¬ (Str.ofString "store" = Str.ofString "set") ∧ ¬ (Str.ofString "store" = Str.ofString "pop") ∧ ¬ (Str.ofString "store" = Str.ofString "push") ∧ ¬ (Str.ofString "store" = Str.ofString "call") := by decide +kernel
/-- the loop of _law_moves over a body -/
theorem lmoves_body {n : Nat} {c p : D} {ds : MP.Env → M Fl} : ∀ (bs : List Bs) (acc : List Str) (h : List MO) (o3 o5 o6 o7 o8 o9 o10 o11 : Option D), acc.length + bs.length < 1000 → (∀ b ∈ bs, (bsW b).length ≤ 1000) →
    ∃ ex : List MO, (∀ o ∈ ex, ∃ ns : List Str, o = .lst (ns.map D.str)) ∧
    loopF (asgN 5) (mvIn ds) [5] [] (bs.map bsD) [some c, some (.ref n), some p, o3, some (.ref h.length), o5, o6, o7, o8, o9, o10, o11] (h ++ [.lst (acc.map D.str)])
      = .ok (.nx [some c, some (.ref n), some p, o3, some (.ref (h ++ ex).length), none, o6, o7, o8, o9, o10, o11]) ((h ++ ex) ++ [.lst ((acc ++ mv bs).map D.str)])
  | [], acc, h, o3, o5, o6, o7, o8, o9, o10, o11, _, _ => ⟨[], by simp, by
    show loopF _ _ _ [] [] _ _ = _
    rw [loopF_nil, List.append_nil]
    simp [mv]⟩
  | b :: bs, acc, h, o3, o5, o6, o7, o8, o9, o10, o11, hl, hw => by
    have hs : sizeLine = 16777216 := sizeLine_eq
    rw [List.length_cons] at hl
    rw [List.map_cons]
    cases b with
    | set x =>
      obtain ⟨ex, h1, h2⟩ := lmoves_body (n := n) (c := c) (p := p) (ds := ds) bs (acc ++ [x]) (h ++ [.lst (acc.map D.str)]) o3 (some (bsD (.set x))) o6 o7 o8 o9 o10 o11 (by simp; omega) fun b hb => hw b (by simp [hb])
      refine ⟨.lst (acc.map D.str) :: ex, fun o ho => ?_, ?_⟩
      · rcases List.mem_cons.mp ho with z | z
        · exact ⟨acc, z⟩
        · exact h1 o z
      · have e : (acc ++ [x]) ++ mv bs = acc ++ mv (.set x :: bs) := by simp [mv, mvB]
        rw [e] at h2
        have e2 : (h ++ [.lst (acc.map D.str)]) ++ ex = h ++ (.lst (acc.map D.str) :: ex) := by simp
        rw [e2] at h2
        have hz : acc.length + 1 ≤ sizeLine := by omega
        rw [loopF_step (env1 := [some c, some (.ref n), some p, o3, some (.ref h.length), some (bsD (.set x)), o6, o7, o8, o9, o10, o11]) (e := [some c, some (.ref n), some p, o3, some (.ref (h ++ [MO.lst (acc.map D.str)]).length), some (bsD (.set x)), o6, o7, o8, o9, o10, o11]) (mu1 := (h ++ [.lst (acc.map D.str)]) ++ [.lst ((acc ++ [x]).map D.str)]) rfl]
        · exact h2
        · have hcomp : ∀ mu, loopC (asgT 2 (asgCons (asgN 9) (asgCons (asgN 10) asgNil))) tYesM (eVar 9) [] [.tup [.str x, numD 2]] [some c, some (.ref n), some p, o3, some (.ref h.length), some (bsD (.set x)), o6, o7, o8, none, none, o11] mu = .ok [.str x] mu := fun mu => by
            rw [loopC_cons]
            simp [loopC_nil]
          have hcomp := fun mu => noX_ok (hcomp mu)
          simp only [bsD, numD] at hcomp
          simp [mvIn, bsD, numD, gEq_strs, hcomp, hz]
    | push x =>
      obtain ⟨ex, h1, h2⟩ := lmoves_body (n := n) (c := c) (p := p) (ds := ds) bs (acc ++ [hash x]) h o3 (some (bsD (.push x))) o6 o7 o8 o9 o10 o11 (by simp; omega) fun b hb => hw b (by simp [hb])
      refine ⟨ex, h1, ?_⟩
      have e : (acc ++ [hash x]) ++ mv bs = acc ++ mv (.push x :: bs) := by simp [mv, mvB]
      rw [e] at h2
      have hg := get_last (x := .lst (acc.map D.str)) (mu1 := h) rfl
      have ha := append_ok (d := .str (hash x)) hg (by simp; omega)
      rw [set_last rfl] at ha
      have hh := fun mu => hash_ok (x := x) (mu := mu) (hw (.push x) (by simp))
      rw [loopF_step (env1 := [some c, some (.ref n), some p, o3, some (.ref h.length), some (bsD (.push x)), o6, o7, o8, o9, o10, o11]) (e := [some c, some (.ref n), some p, o3, some (.ref h.length), some (bsD (.push x)), o6, o7, o8, o9, o10, o11]) (mu1 := h ++ [.lst ((acc ++ [hash x]).map D.str)]) rfl]
      · exact h2
      · simp [mvIn, bsD, numD, gEq_strs, kinds_ne, lstK_ref hg, hh, ha]
    | store x =>
      obtain ⟨ex, h1, h2⟩ := lmoves_body (n := n) (c := c) (p := p) (ds := ds) bs acc h o3 (some (bsD (.store x))) o6 o7 o8 o9 o10 o11 (by omega) fun b hb => hw b (by simp [hb])
      refine ⟨ex, h1, ?_⟩
      have e : acc ++ mv bs = acc ++ mv (.store x :: bs) := by simp [mv, mvB]
      rw [e] at h2
      rw [loopF_step (env1 := [some c, some (.ref n), some p, o3, some (.ref h.length), some (bsD (.store x)), o6, o7, o8, o9, o10, o11]) (e := [some c, some (.ref n), some p, o3, some (.ref h.length), some (bsD (.store x)), o6, o7, o8, o9, o10, o11]) (mu1 := h ++ [.lst (acc.map D.str)]) rfl]
      · exact h2
      · simp [mvIn, bsD, numD, gEq_strs, kinds_ne]
end K06
namespace K06
open PySem L2 PyProof.Rows MP
abbrev RT := List (Key × (Nat × List Str))
def refT (rt : RT) : List (Key × D) := mapK (fun p => D.ref p.1) rt
def namT (rt : RT) : List (Key × List Str) := mapK (fun p => p.2) rt
def strObs (ex : List MO) : Prop := ∀ o ∈ ex, ∃ ns : List Str, o = .lst (ns.map D.str)
def Stands (n : Nat) (ex : List MO) (rt : RT) : Prop := ∀ q ∈ rt, ∃ i, q.2.1 = n + 1 + i ∧ ex[i]? = some (.lst (q.2.2.map D.str))
theorem mv_clo {mu0 ex : List MO} {rt : RT} (hc : CloH mu0) (h1 : strObs ex) (h2 : Stands mu0.length ex rt) : CloH (mu0 ++ (.dk (refT rt) :: ex)) := fun x hx => by
  rcases List.mem_append.mp hx with z | z
  · exact (hc x z).mono (by simp)
  · rcases List.mem_cons.mp z with z | z
    · rw [z]
      refine (show CloO _ (.dk (refT rt)) from Clos.of fun d hd => ?_)
      obtain ⟨q, hq, e⟩ := List.mem_map.mp hd
      obtain ⟨q', hq', e'⟩ := List.mem_map.mp hq
      obtain ⟨i, hi, hg⟩ := h2 q' hq'
      rw [← e, ← e']
      have := (List.getElem?_eq_some_iff.mp hg).1
      refine Clo.ref.mpr ?_
      simp [hi]; omega
    · obtain ⟨ns, e⟩ := h1 x z
      rw [e]
      exact flats_clo _ (strs_flat _)
noncomputable def mvOut (ds : MP.Env → M Fl) : MP.Env → M Fl := (sSeq (sSet 4 (eNew (aList aNil)))
  (sSeq (sFor (eWalk (eCall (lenD 1 (lstmtL 1)) (aCons (eBin gIx (eVar 2) (eC (.int 8))) aNil))) (asgN 5) (mvIn ds) [5])
  (sDput (eVar 1) (eBin gIx (eVar 2) (eC (.int 0))) (eVar 4))))
theorem lmoves_procs {c : D} {ds : MP.Env → M Fl} {mu0 : List MO} (hc : CloH mu0) : ∀ (ps : List Pr) (rt : RT) (ex : List MO) (o2 o4 o5 : Option D), (∀ p ∈ ps, PrOk p) → strObs ex → Stands mu0.length ex rt → rt.length + ps.length < 1000 →
    ∃ (rt' : RT) (ex' : List MO), strObs ex' ∧ Stands mu0.length ex' rt' ∧ namT rt' = tabS (namT rt) ps ∧
    loopF (asgN 2) (mvOut ds) [2, 4, 5] [] (ps.map procD) [some c, some (.ref mu0.length), o2, none, o4, o5, none, none, none, none, none, none] (mu0 ++ (.dk (refT rt) :: ex))
      = .ok (.nx [some c, some (.ref mu0.length), none, none, none, none, none, none, none, none, none, none]) (mu0 ++ (.dk (refT rt') :: ex'))
  | [], rt, ex, o2, o4, o5, _, h1, h2, _ => ⟨rt, ex, h1, h2, rfl, by
    show loopF _ _ _ [] [] _ _ = _
    rw [loopF_nil]; rfl⟩
  | p :: ps, rt, ex, o2, o4, o5, hp, h1, h2, hl => by
    have hs : sizeLine = 16777216 := sizeLine_eq
    have hp0 := hp p (by simp)
    have hc1 := mv_clo hc h1 h2
    generalize hm1 : mu0 ++ (.dk (refT rt) :: ex) = mu1 at hc1
    have hst := lstmts_ok (n := 0) hp0.len (hc1.snoc_flat (xs := []) rfl)
    obtain ⟨ex1, hx1, hb⟩ := lmoves_body (n := mu0.length) (c := c) (p := procD p) (ds := ds) p.body [] mu1 none none none none none none none none (by have := hp0.len; simpa using this) hp0.wd
    have hb' : loopF (asgN 5) (mvIn ds) [5] [] (p.body.map bsD) _ _ = _ := hb
    rw [List.map_nil, List.nil_append] at hb'
    let k : Nat := (mu1 ++ ex1).length
    let rt1 : RT := putD rt (.inr p.name) (k, mv p.body)
    let exx : List MO := ex ++ (ex1 ++ [.lst ((mv p.body).map D.str)])
    have hk : k = mu0.length + 1 + (ex.length + ex1.length) := by
      show (mu1 ++ ex1).length = _
      rw [← hm1]; simp; omega
    have hh : (mu1 ++ ex1) ++ [.lst ((mv p.body).map D.str)] = mu0 ++ (.dk (refT rt) :: exx) := by rw [← hm1]; simp [exx]
    have s1 : strObs exx := fun o ho => by
      rcases List.mem_append.mp ho with z | z
      · exact h1 o z
      · rcases List.mem_append.mp z with z | z
        · exact hx1 o z
        · exact ⟨_, List.mem_singleton.mp z⟩
    have s2 : Stands mu0.length exx rt1 := fun q hq => by
      rcases putD_memK hq with z | z
      · obtain ⟨i, hi, hg⟩ := h2 q z
        exact ⟨i, hi, by
          show (ex ++ _)[i]? = _
          rw [List.getElem?_append_left (List.getElem?_eq_some_iff.mp hg).1, hg]⟩
      · rw [z]
        refine ⟨ex.length + ex1.length, hk, ?_⟩
        show (ex ++ (ex1 ++ [.lst ((mv p.body).map D.str)]))[ex.length + ex1.length]? = _
        rw [List.getElem?_append_right (by omega), List.getElem?_append_right (by omega)]
        simp
    have e1 : putD (refT rt) (.inr p.name) (.ref k) = refT rt1 := mapK_put (f := fun p : Nat × List Str => D.ref p.1) (x := (k, mv p.body))
    have e2 : namT rt1 = putD (namT rt) (.inr p.name) (mv p.body) := (mapK_put (f := fun p : Nat × List Str => p.2) (x := (k, mv p.body))).symm
    have hlen : rt1.length ≤ rt.length + 1 := length_put
    obtain ⟨rt', ex', t1, t2, t3, t4⟩ := lmoves_procs (c := c) (ds := ds) hc ps rt1 exx (some (procD p)) (some (.ref k)) none (fun q hq => hp q (by simp [hq])) s1 s2 (by simp at hl; omega)
    refine ⟨rt', ex', t1, t2, ?_, ?_⟩
    · rw [t3, e2]; rfl
    · have hput : putM (.ref mu0.length) (.str p.name) (.ref k) (mu0 ++ (.dk (refT rt) :: exx)) = .ok .non (mu0 ++ (.dk (refT rt1) :: exx)) := by
        rw [putM_at (kvs := refT rt) (k := .inr p.name) rfl (by simp) (by unfold refT mapK; rw [List.length_map]; omega), e1]
        simp [List.set_append]
      have e8 : ∀ mu, gIx (procD p) (.int 8) mu = .ok (.tup (p.body.map bsD)) mu := fun mu => by unfold procD; simp
      have e0 : ∀ mu, gIx (procD p) (.int 0) mu = .ok (.str p.name) mu := fun mu => by unfold procD; simp
      have st : mvOut ds [some c, some (.ref mu0.length), some (procD p), none, none, none, none, none, none, none, none, none] mu1 = .ok (.nx [some c, some (.ref mu0.length), some (procD p), none, some (.ref k), none, none, none, none, none, none, none]) (mu0 ++ (.dk (refT rt1) :: exx)) := by
        unfold mvOut
        simp [e8, hst, hb', e0]
        simp at hh
        rw [hh]
        have ek : mu1.length + ex1.length = k := by simp [k]
        rw [ek, hput]
      rw [List.map_cons]
      rw [loopF_step rfl st]
      exact t4
end K06
namespace K06
open PySem L2 PyProof.Rows MP
noncomputable def tuIn (X : MP.Env → M Fl) : MP.Env → M Fl := eIf (eB (eBin (gEq false) (eBin gIx (eVar 5) (eC (.int 0))) (eC (.str "call")))) X sNext
noncomputable def tuMid (X : MP.Env → M Fl) : MP.Env → M Fl := sFor (eWalk (eCall (lenD 1 (lstmtL 1)) (aCons (eBin gIx (eVar 2) (eC (.int 8))) aNil))) (asgN 5) (tuIn X) [5]
noncomputable def tuOut (X : MP.Env → M Fl) : MP.Env → M Fl := sFor (eWalk (eVar 0)) (asgN 2) (tuMid X) [2, 5]
theorem turn_body {X : MP.Env → M Fl} {c d p t : D} {mu : List MO} : ∀ (bs : List Bs) (o5 : Option D), loopF (asgN 5) (tuIn X) [5] [] (bs.map bsD) [some c, some d, some p, some t, none, o5, none, none, none, none, none, none] mu = .ok (.nx [some c, some d, some p, some t, none, none, none, none, none, none, none, none]) mu
  | [], o5 => by
    show loopF _ _ _ [] [] _ _ = _
    rw [loopF_nil]; rfl
  | b :: bs, o5 => by
    have ih := turn_body (X := X) (c := c) (d := d) (p := p) (t := t) (mu := mu) bs (some (bsD b))
    have e : gIx (bsD b) (.int 0) mu = .ok (.str (bsK b)) mu := by
      obtain ⟨r, hr⟩ := bs_head (b := b)
      rw [hr]; simp
    rw [List.map_cons, loopF_cons]
    have st : tuIn X [some c, some d, some p, some t, none, some (bsD b), none, none, none, none, none, none] mu = .ok (.nx [some c, some d, some p, some t, none, some (bsD b), none, none, none, none, none, none]) mu := by
      unfold tuIn
      simp [e, gEq_strs, no_call]
    simp [st]
    exact ih
theorem turn_procs {X : MP.Env → M Fl} {c d t : D} {mu : List MO} (hc : CloH mu) : ∀ (ps : List Pr) (o2 o5 : Option D), (∀ p ∈ ps, PrOk p) → loopF (asgN 2) (tuMid X) [2, 5] [] (ps.map procD) [some c, some d, o2, some t, none, o5, none, none, none, none, none, none] mu = .ok (.nx [some c, some d, none, some t, none, none, none, none, none, none, none, none]) mu
  | [], o2, o5, _ => by
    show loopF _ _ _ [] [] _ _ = _
    rw [loopF_nil]; rfl
  | p :: ps, o2, o5, h => by
    have ih := turn_procs (X := X) (c := c) (d := d) (t := t) hc ps (some (procD p)) none fun q hq => h q (by simp [hq])
    have hst := lstmts_ok (n := 0) (h p (by simp)).len hc
    have e8 : gIx (procD p) (.int 8) mu = .ok (.tup (p.body.map bsD)) mu := by unfold procD; simp
    rw [List.map_cons, loopF_cons]
    have st : tuMid X [some c, some d, some (procD p), some t, none, none, none, none, none, none, none, none] mu = .ok (.nx [some c, some d, some (procD p), some t, none, none, none, none, none, none, none, none]) mu := by
      unfold tuMid
      simp [e8, hst, turn_body]
    simp [st]
    exact ih
theorem turns {X : MP.Env → M Fl} {ps : List Pr} {d : D} {mu : List MO} (hc : CloH mu) (hp : ∀ p ∈ ps, PrOk p) : ∀ (ts : List D) (o3 : Option D), loopF (asgN 3) (tuOut X) [2, 3] [] ts [some (coreD ps), some d, none, o3, none, none, none, none, none, none, none, none] mu = .ok (.nx [some (coreD ps), some d, none, none, none, none, none, none, none, none, none, none]) mu
  | [], o3 => by
    show loopF _ _ _ [] [] _ _ = _
    rw [loopF_nil]; rfl
  | t :: ts, o3 => by
    have ih := turns (X := X) (d := d) hc hp ts (some t)
    have hl := turn_procs (X := X) (c := coreD ps) (d := d) (t := t) hc ps none none hp
    have e : walkD (coreD ps) mu = .ok (ps.map procD, []) mu := rfl
    rw [loopF_cons]
    have st : tuOut X [some (coreD ps), some d, none, some t, none, none, none, none, none, none, none, none] mu = .ok (.nx [some (coreD ps), some d, none, some t, none, none, none, none, none, none, none, none]) mu := by
      unfold tuOut
      simp [e, hl]
    simp [st]
    exact ih
noncomputable def dMoves : List D → M Rv := fgt (den__law_moves (lstmtL 1) den__law_key)
theorem moves_ok {ps : List Pr} {mu : List MO} (hps : ∀ p ∈ ps, PrOk p) (hl : ps.length < 1000) (hc : CloH mu) : dMoves [coreD ps] mu = .ok (.vl (tabD ps)) mu := by
  let dcall : MP.Env → M Fl := (sSet 4 (eNew (fCat (eVar 4) (eFl (fThen1 rdQ (aCons (eBin gIx (eVar 5) (eC (.int 3))) aNil))))))
  let X : MP.Env → M Fl := (sSeq (sSet 6 (eBin gIx (eBin gIx (eFl (fComp (eWalk (eVar 0)) (asgN 11) (eB (eBin (gEq false) (eBin gIx (eVar 11) (eC (.int 0))) (eBin gIx (eVar 5) (eC (.int 1))))) (eVar 11) [11])) (eC (.int 0))) (eC (.int 1))))
  (sSeq (sSet 7 (eFl (fComp (wThen wRng1 (aCons (aThen (g1 gLen) (aCons (eVar 6) aNil)) aNil)) (asgN 8) (eB (eBin (gIn false) (eCall (lenD 1 den__law_key) (aCons (eBin gIx (eVar 6) (eVar 8)) aNil)) (eBin gDget (eVar 1) (eBin gIx (eVar 5) (eC (.int 1)))))) (eBin gIx (eBin gIx (eVar 5) (eC (.int 2))) (eVar 8)) [8])))
  (sDput (eVar 1) (eBin gIx (eVar 2) (eC (.int 0))) (eBin gAdd (eBin gDget (eVar 1) (eBin gIx (eVar 2) (eC (.int 0)))) (eFl (fComp (eWalk (eVar 7)) (asgN 10) (eB (eBin (gEq false) (eBin gIx (eVar 10) (eC (.int 0))) (eC (.str "array")))) (eBin gAdd (eC (.str "#")) (eBin gIx (eVar 10) (eC (.int 1)))) [10]))))))
  have er : r__law_moves (lstmtL 1) den__law_key = sSeq (sSet 1 eNewD) (sSeq (sFor (eWalk (eVar 0)) (asgN 2) (mvOut dcall) [2, 4, 5]) (sSeq (sFor (wThen wRng1 (aCons (eC (.int 20)) aNil)) (asgN 3) (tuOut X) [2, 3]) (sRet (eVar 1)))) := rfl
  obtain ⟨rt, ex, h1, h2, h3, h4⟩ := lmoves_procs (c := coreD ps) (ds := dcall) hc ps [] [] none none none hps (fun o ho => by simp at ho) (fun q hq => by simp at hq) (by simpa using hl)
  have hc1 := mv_clo hc h1 h2
  have h5 := fun ts => turns (X := X) (ps := ps) (d := .ref mu.length) hc1 hps ts none
  have w : ∀ mu, walkD (coreD ps) mu = .ok (ps.map procD, []) mu := fun _ => rfl
  have w2 : ∀ mu, wRng1 [.int 20] mu = .ok (rngD 0 20, []) mu := fun mu => wRng1_ok (n := 20) (by omega)
  have e : den__law_moves (lstmtL 1) den__law_key [coreD ps] mu = .ok (.vl (.ref mu.length)) (mu ++ (.dk (refT rt) :: ex)) := by
    refine noX_ok ?_
    rw [er]
    have h4' : loopF (asgN 2) (mvOut dcall) [2, 4, 5] [] (ps.map procD) [some (coreD ps), some (.ref mu.length), none, none, none, none, none, none, none, none, none, none] (mu ++ [.dk []]) = _ := h4
    generalize mvOut dcall = B at h4'
    generalize tuOut X = B2 at h5
    simp [startE, w, h4', w2, h5]
  have ht : tabL [] ps = mapK fls (namT rt) := by
    rw [h3]; exact tabL_eq ps []
  have ek : (refT rt).map (·.1) = (tabL [] ps).map (·.1) := by rw [ht]; simp [refT, namT, mapK]
  have ev : (tabL [] ps).map (·.2) = rt.map fun q => fls q.2.2 := by rw [ht]; simp [namT, mapK]
  have er2 : (refT rt).map (·.2) = rt.map fun q => D.ref q.2.1 := by simp [refT, mapK]
  refine fgt_vl e rfl (fun n xs e hx => ?_) (hc.frz _) ?_
  · cases e
    simp at hx
  · unfold tabD
    rw [← ek]
    refine Frz.dk (Nat.le_refl _) trivial (by simp) ?_
    rw [er2, ev]
    have go : ∀ l : RT, Stands mu.length ex l → Frzs (mu ++ (.dk (refT rt) :: ex)) mu.length (fun _ => True) (l.map fun q => D.ref q.2.1) (l.map fun q => fls q.2.2) := by
      intro l
      induction l with
      | nil => intro _; exact .nil
      | cons q l ih =>
        intro hq
        refine .cons ?_ (ih fun x hx => hq x (by simp [hx]))
        obtain ⟨i, hi, hg⟩ := hq q (by simp)
        have hg2 : (mu ++ (.dk (refT rt) :: ex))[q.2.1]? = some (.lst (q.2.2.map D.str)) := by
          rw [hi, List.getElem?_append_right (by omega), show mu.length + 1 + i - mu.length = i + 1 from by omega]
          simpa using hg
        exact .lst (by omega) trivial hg2 (flats_clo _ (strs_flat _) _ _)
    exact go rt h2
end K06
namespace MP
open PySem L2 PyProof.Rows
/-- data of a predicate, as the images of something -/
theorem unmap {α : Type} {f : α → D} {P : α → Prop} : ∀ {xs : List D}, (∀ x ∈ xs, ∃ a, x = f a ∧ P a) → ∃ as : List α, xs = as.map f ∧ ∀ a ∈ as, P a
  | [], _ => ⟨[], rfl, by simp⟩
  | x :: xs, h => by
    obtain ⟨a, e, ha⟩ := h x (by simp)
    obtain ⟨as, e2, h2⟩ := unmap (f := f) (P := P) (xs := xs) fun y hy => h y (by simp [hy])
    exact ⟨a :: as, by rw [e, e2, List.map_cons], fun b hb => by
      rcases List.mem_cons.mp hb with e3 | e3
      · rw [e3]; exact ha
      · exact h2 b e3⟩
end MP
namespace K06
open PySem L2 PyProof.Rows MP
/-- a drawn form over the names -/
structure FormP (ns : List Str) (a : D) : Prop where
  ex : ∃ (i : Int) (qs : List (Str × Int)), a = .tup [.int i, .tup (qs.map MP.pairD)] ∧ Canon qs ∧ (∀ p ∈ qs, p.1 ∈ ns) ∧ qs.length ≤ 3
noncomputable abbrev dOneOf : List D → M Rv := den__law_one_of den__law_draw
noncomputable def formsBody : MP.Env → M Fl := (sSeq (sSet 5 (eFl (fComp (wThen wRng1 (aCons (eCall (lenD 2 den__law_draw) (aCons (eVar 0) (aCons (eC (.int 4)) aNil))) aNil)) (asgN 6) tYesM (aThen gTup (aCons (eCall (lenD 2 dOneOf) (aCons (eVar 0) (aCons (eVar 1) aNil))) (aCons (eBin gSub (eCall (lenD 2 den__law_draw) (aCons (eVar 0) (aCons (eC (.int 7)) aNil))) (eC (.int 3))) aNil))) [6])))
  (sExpr (eMeth lstK gAppend (eVar 3) (aCons (eCall (lenD 2 (pureD formF)) (aCons (eBin gSub (eCall (lenD 2 den__law_draw) (aCons (eVar 0) (aCons (eC (.int 9)) aNil))) (eC (.int 4))) (aCons (eVar 5) aNil))) aNil))))
theorem forms_loop {s : Nat} {cs : List Int} {ns : List Str} {most : D} {n : Nat} (h0 : 0 < ns.length) (h1 : ns.length < 1000) : ∀ (ts : List D) (acc : List D) (mu1 : List MO) (o4 o5 : Option D), At s cs mu1 → n = mu1.length → acc.length + ts.length < 1000 → (∀ a ∈ acc, FormP ns a) →
    ∃ (acc' : List D) (mu2 : List MO), Nx s cs mu1 mu2 ∧ (∀ a ∈ acc', FormP ns a) ∧ acc'.length = acc.length + ts.length ∧
    loopF (asgN 4) formsBody [4, 5] [] ts [some (.ref s), some (.fl (ns.map D.str)), some most, some (.ref n), o4, o5, none] (mu1 ++ [.lst acc]) = .ok (.nx [some (.ref s), some (.fl (ns.map D.str)), some most, some (.ref n), none, none, none]) (mu2 ++ [.lst acc'])
  | [], acc, mu1, o4, o5, A, hn, hl, ha => ⟨acc, mu1, .refl A, ha, rfl, by
    show loopF _ _ _ [] [] _ _ = _
    rw [loopF_nil]; rfl⟩
  | t :: ts, acc, mu1, o4, o5, A, hn, hl, ha => by
    have s2 : (2 : Nat) ≤ sizeLine := by decide
    have hs : sizeLine = 16777216 := sizeLine_eq
    rw [List.length_cons] at hl
    have A1 := A.app [.lst acc]
    obtain ⟨d, m1, e1, n1, d0, d4⟩ := draw_at (most := 4) A1 (by decide) (by decide)
    have A2 := n1.at_ A1
    obtain ⟨xs, m2, e2, n2, hxl, hx⟩ := loopC_inv (asg := asgN 6) (t := tYesM) (r := aThen gTup (aCons (eCall (lenD 2 dOneOf) (aCons (eVar 0) (aCons (eVar 1) aNil))) (aCons (eBin gSub (eCall (lenD 2 den__law_draw) (aCons (eVar 0) (aCons (eC (.int 7)) aNil))) (eC (.int 3))) aNil)))
      (I := fun m => Nx s cs (mu1 ++ [.lst acc]) m) (P := fun x => ∃ p : Str × Int, x = MP.pairD p ∧ p.1 ∈ ns) (ds := rngD 0 d.toNat) (env := [some (.ref s), some (.fl (ns.map D.str)), some most, some (.ref n), some t, none, none]) (mu := m1)
      (fun k hk m nm => by
        have A3 := nm.at_ A1
        obtain ⟨x, m', ex, nx, hx⟩ := one_of_at (xs := ns.map D.str) A3 (by simpa using h0) (by simpa using h1)
        obtain ⟨z, hz, rfl⟩ := List.mem_map.mp hx
        obtain ⟨i, m'', ei, ni, _, _⟩ := draw_at (most := 7) (nx.at_ A3) (by decide) (by decide)
        refine ⟨_, m'', MP.pairD (z, i - 3), rfl, rfl, ?_, (nm.trans nx).trans ni, (z, i - 3), rfl, hz⟩
        have ex : dOneOf [.ref s, .fl (ns.map D.str)] m = .ok (.vl (.str z)) m' := ex
        simp [ex, ei, gTup_ok, s2, MP.pairD]) n1
    obtain ⟨ps, rfl, hps⟩ := unmap hx
    have hpl : ps.length ≤ 3 := by rw [List.length_map, rngD_len] at hxl; omega
    obtain ⟨mua, ea, na⟩ := Nx.app A n2
    have hga := get_last (x := .lst acc) (mu1 := mua) (k := n) (by rw [na.len]; exact hn)
    rw [← ea] at hga
    obtain ⟨i, m3, e3, n3, _, _⟩ := draw_at (most := 9) (n2.at_ A1) (by decide) (by decide)
    obtain ⟨mu2, rfl, nn⟩ := Nx.app A (n2.trans n3)
    have hg := get_last (x := .lst acc) (mu1 := mu2) (k := n) (by rw [nn.len]; exact hn)
    let a : D := formD (.int (i - 4)) ps
    have hf : ∀ mu, pureD formF [.int (i - 4), .fl (ps.map MP.pairD)] mu = .ok (.vl a) mu := fun mu => by
      unfold pureD
      rw [formF_ok (ps := ps) rfl (by omega)]
    have hap := append_ok (d := a) hg (by omega)
    rw [set_last (by rw [nn.len]; exact hn)] at hap
    have fa : FormP ns a := ⟨i - 4, canon ps, rfl, canon_canon ps, fun p hp => by
      obtain ⟨p', hp', e'⟩ := List.mem_map.mp (canon_names hp)
      rw [← e']; exact hps p' hp', by have := canon_len ps; omega⟩
    obtain ⟨acc', mu3, n4, ha', hl', e4⟩ := forms_loop (s := s) (cs := cs) (n := n) (most := most) h0 h1 ts (acc ++ [a]) mu2 (some t) (some (.fl (ps.map MP.pairD))) (nn.at_ A) (by rw [nn.len]; exact hn) (by simp; omega) (fun b hb => by
      rcases List.mem_append.mp hb with z | z
      · exact ha b z
      · rw [List.mem_singleton.mp z]; exact fa)
    refine ⟨acc', mu3, nn.trans n4, ha', by rw [hl']; simp; omega, ?_⟩
    have w := wRng1_ok (n := d) (mu := m1) (by omega)
    have st : formsBody [some (.ref s), some (.fl (ns.map D.str)), some most, some (.ref n), some t, none, none] (mu1 ++ [.lst acc]) = .ok (.nx [some (.ref s), some (.fl (ns.map D.str)), some most, some (.ref n), some t, some (.fl (ps.map MP.pairD)), none]) (mu2 ++ [.lst (acc ++ [a])]) := by
      unfold formsBody
      generalize ns.map D.str = NS at e2 ⊢
      generalize ps.map MP.pairD = PS at e2 hf ⊢
      simp [e1, w, noX_ok e2, lstK_ref hga, e3, hf, hap]
    rw [loopF_step rfl st]
    exact e4
noncomputable def dForms : List D → M Rv := fgt (den__law_forms den__law_draw dOneOf (pureD formF))
theorem form_flat {ns : List Str} {a : D} (h : FormP ns a) : flat a = true := by
  obtain ⟨i, qs, rfl, _⟩ := h.ex
  have e : flats (qs.map MP.pairD) = true := flats_of fun d hd => by
    obtain ⟨p, _, rfl⟩ := List.mem_map.mp hd
    rfl
  simp [flat, flats, e]
theorem forms_ok {s : Nat} {cs : List Int} {ns : List Str} {mu : List MO} (A : At s cs mu) (hc : CloH mu) (h0 : 0 < ns.length) (h1 : ns.length < 1000) :
    ∃ (fs : List D) (mu' : List MO), dForms [.ref s, .fl (ns.map D.str), .int 4] mu = .ok (.vl (.tup fs)) mu' ∧ Nx s cs mu mu' ∧ fs.length ≤ 3 ∧ ∀ a ∈ fs, FormP ns a := by
  have hs : sizeLine = 16777216 := sizeLine_eq
  obtain ⟨d, m1, e1, n1, d0, d4⟩ := draw_at (most := 4) (A.app [.lst []]) (by decide) (by decide)
  obtain ⟨mu1, rfl, nn⟩ := Nx.app A n1
  obtain ⟨acc, mu2, n2, ha, hl, e2⟩ := forms_loop (s := s) (cs := cs) (n := mu.length) (most := .int 4) h0 h1 (rngD 0 d.toNat) [] mu1 none none (nn.at_ A) nn.len.symm (by rw [rngD_len]; simp; omega) (by simp)
  have w := wRng1_ok (n := d) (mu := mu1 ++ [.lst []]) (by omega)
  have hl2 : acc.length ≤ 3 := by rw [hl, rngD_len]; simp; omega
  refine ⟨acc, mu2, ?_, nn.trans n2, hl2, ha⟩
  have hg := get_last (x := .lst acc) (mu1 := mu2) (k := mu.length) (by rw [n2.len, nn.len])
  have er : r__law_forms den__law_draw dOneOf (pureD formF) = sSeq (sSet 3 (eNew (aList aNil))) (sSeq (sFor (wThen wRng1 (aCons (eCall (lenD 2 den__law_draw) (aCons (eVar 0) (aCons (eVar 2) aNil))) aNil)) (asgN 4) formsBody [4, 5]) (sRet (aThen (MP.g1 gTuple) (aCons (eVar 3) aNil)))) := rfl
  have ht : gTuple (.ref mu.length) (mu2 ++ [.lst acc]) = .ok (.tup acc) (mu2 ++ [.lst acc]) := by
    show (rdQ (.ref mu.length) >>= fun xs => (pure (.tup xs) : M D)) _ = _
    simp [hg]
  refine fgt_val (ex := [.lst acc]) (noX_ok ?_) (by rw [n2.len, nn.len]) ((nn.trans n2).clo hc) (Clo.tup.mpr (flats_clo _ (flats_of fun d hd => form_flat (ha d hd))))
  rw [er]
  generalize ns.map D.str = NS at e2 ⊢
  simp [startE, e1, w, e2, ht]
end K06
namespace K06
open PySem L2 PyProof.Rows MP
def pr2 (a b : Str) : D := .tup [.str a, .str b]
def cross (A B : List Str) : List D := A.flatMap fun a => B.map fun b => pr2 a b
theorem cross_len (A B : List Str) : (cross A B).length = A.length * B.length := by
  unfold cross
  induction A with
  | nil => simp
  | cons a A ih => rw [List.flatMap_cons, List.length_append, ih, List.length_map, List.length_cons, Nat.add_mul]; omega
theorem cross_mem {A B : List Str} {x : D} (h : x ∈ cross A B) : ∃ a ∈ A, ∃ b ∈ B, x = pr2 a b := by
  obtain ⟨a, ha, h⟩ := List.mem_flatMap.mp h
  obtain ⟨b, hb, e⟩ := List.mem_map.mp h
  exact ⟨a, ha, b, hb, e.symm⟩
theorem cross_nodup {A B : List Str} (hA : A.Nodup) (hB : B.Nodup) : (cross A B).Nodup := by
  induction A with
  | nil => exact List.nodup_nil
  | cons a A ih =>
    unfold cross
    rw [List.flatMap_cons]
    have hA' := List.nodup_cons.mp hA
    refine List.nodup_append.mpr ⟨?_, ih hA'.2, fun x hx y hy e => ?_⟩
    · exact List.pairwise_map.mpr (hB.imp fun {b c} h e => h (by unfold pr2 at e; simpa using e))
    · obtain ⟨b, _, e1⟩ := List.mem_map.mp hx
      obtain ⟨a', ha', b', _, e2⟩ := cross_mem hy
      rw [← e1, e2] at e
      unfold pr2 at e
      simp at e
      exact hA'.1 (e.1 ▸ ha')
theorem cross_comp {s : Nat} {p q : Pr} {acc : List D} {a : Str} {mu : List MO} : loopC (asgN 5) tYesM (aThen gTup (aCons (eVar 4) (aCons (eVar 5) aNil))) [] ((arrs q).map D.str) [some (.ref s), some (procD p), some (procD q), some (.fl acc), some (.str a), none] mu = .ok ((arrs q).map (pr2 a)) mu :=
  loopC_map' fun b hb => ⟨[some (.ref s), some (procD p), some (procD q), some (.fl acc), some (.str a), some (.str b)], rfl, rfl, by
    have s2 : (2 : Nat) ≤ sizeLine := by decide
    simp [gTup_ok, s2, pr2]⟩
noncomputable def pairsBody : MP.Env → M Fl := sSet 3 (eBin gAdd (eVar 3) (eFl (fComp (eWalk (eCall (lenD 1 den__law_arrays) (aCons (eVar 2) aNil))) (asgN 5) tYesM (aThen gTup (aCons (eVar 4) (aCons (eVar 5) aNil))) [5])))
theorem pairs_loop {s : Nat} {p q : Pr} {mu : List MO} : ∀ (as : List Str) (acc : List D) (o4 : Option D), acc.length + as.length * (arrs q).length ≤ 1000 →
    loopF (asgN 4) pairsBody [4] [] (as.map D.str) [some (.ref s), some (procD p), some (procD q), some (.fl acc), o4, none] mu = .ok (.nx [some (.ref s), some (procD p), some (procD q), some (.fl (acc ++ cross as (arrs q))), none, none]) mu
  | [], acc, o4, _ => by
    show loopF _ _ _ [] [] _ _ = _
    rw [loopF_nil]
    simp [cross]
  | a :: as, acc, o4, hl => by
    rw [List.length_cons, Nat.add_mul] at hl
    have ih := pairs_loop (s := s) (p := p) (q := q) (mu := mu) as (acc ++ (arrs q).map (pr2 a)) (some (.str a)) (by simp; omega)
    have e : (acc ++ (arrs q).map (pr2 a)) ++ cross as (arrs q) = acc ++ cross (a :: as) (arrs q) := by unfold cross; rw [List.flatMap_cons, List.append_assoc]
    rw [e] at ih
    rw [List.map_cons, loopF_step (e := [some (.ref s), some (procD p), some (procD q), some (.fl (acc ++ (arrs q).map (pr2 a))), some (.str a), none]) rfl ?_]
    · exact ih
    · have hc := cross_comp (s := s) (p := p) (q := q) (acc := acc) (a := a) (mu := mu)
      have ha := law_arrays_ok (p := q) (mu := mu)
      have hz : acc.length + (arrs q).length ≤ sizeLine := by rw [sizeLine_eq]; omega
      have hg := gAdd_fl (xs := acc) (ys := (arrs q).map (pr2 a)) (mu := mu) (by rw [List.length_map]; exact hz)
      generalize (arrs q).map D.str = B at hc ha
      generalize (arrs q).map (pr2 a) = C at hc hg ⊢
      simp [pairsBody, ha, noX_ok hc, hg]
noncomputable abbrev dPairs : List D → M Rv := den__law_pairs den__law_arrays shufD den__law_draw
theorem cross_flat (A B : List Str) : flats (cross A B) = true := flats_of fun d hd => by
  obtain ⟨a, _, b, _, e⟩ := cross_mem hd
  rw [e]; rfl
theorem pairs_ok {s : Nat} {cs : List Int} {p q : Pr} {mu : List MO} (A : At s cs mu) (hp : (arrs p).length ≤ 4) (hq : (arrs q).length ≤ 4) (np : (arrs p).Nodup) (nq : (arrs q).Nodup) :
    ∃ (xs : List D) (mu' : List MO), dPairs [.ref s, procD p, procD q] mu = .ok (.vl (.tup xs)) mu' ∧ Nx s cs mu mu' ∧ xs.length ≤ 16 ∧ xs.Nodup ∧ ∀ x ∈ xs, ∃ a ∈ arrs p, ∃ b ∈ arrs q, x = pr2 a b := by
  have hl : (cross (arrs p) (arrs q)).length ≤ 16 := by rw [cross_len]; exact Nat.mul_le_mul hp hq
  have hm : (arrs p).length * (arrs q).length ≤ 16 := Nat.mul_le_mul hp hq
  have h1 := pairs_loop (s := s) (p := p) (q := q) (mu := mu) (arrs p) [] none (by simp; omega)
  rw [List.nil_append] at h1
  obtain ⟨ys, m1, e1, n1, p1⟩ := shufD_ok (d := .fl (cross (arrs p) (arrs q))) A rfl (by omega) (flats_clo _ (cross_flat _ _))
  obtain ⟨i, m2, e2, n2, i0, i1⟩ := draw_at (most := ((cross (arrs p) (arrs q)).length : Int) + 1) (n1.at_ A) (by omega) (log2_small (by omega))
  obtain ⟨i, rfl⟩ := Int.eq_ofNat_of_zero_le i0
  refine ⟨ys.drop i, m2, ?_, n1.trans n2, ?_, ?_, fun x hx => cross_mem (p1.mem_iff.mp (List.mem_of_mem_drop hx))⟩
  · have ha := law_arrays_ok (p := p) (mu := mu)
    have er : r__law_pairs den__law_arrays shufD den__law_draw = sSeq (sSet 3 (eFl (aList aNil))) (sSeq (sFor (eWalk (eCall (lenD 1 den__law_arrays) (aCons (eVar 1) aNil))) (asgN 4) pairsBody [4]) (sRet (aThen (MP.g1 gTuple) (aCons (eSl (eCall (lenD 2 shufD) (aCons (eVar 0) (aCons (eVar 3) aNil))) (oSome (eCall (lenD 2 den__law_draw) (aCons (eVar 0) (aCons (eBin gAdd (aThen (MP.g1 gLen) (aCons (eVar 3) aNil)) (eC (.int 1))) aNil)))) oNone) aNil)))) := rfl
    refine noX_ok ?_
    rw [er]
    generalize (arrs p).map D.str = AA at h1 ha
    simp [startE, ha, h1, e1, e2, gSl_fl]
  · rw [List.length_drop, p1.length_eq]; omega
  · exact (p1.nodup_iff.mpr (cross_nodup np nq)).sublist (List.drop_sublist _ _)
/-! ### what is drawn is a claim -/
theorem inD_strs {A : List Str} {a : Str} (h : a ∈ A) : inD (A.map D.str) (.str a) = true := by
  unfold inD
  refine List.any_eq_true.mpr ⟨.str a, List.mem_map_of_mem h, ?_⟩
  simp [eqD]
theorem eqD_pr2 {a b c e : Str} : eqD (pr2 a b) (pr2 c e) = ((a == c) && (b == e)) := by
  simp [pr2, eqD, eqDs]
theorem pairsL_ok {A B : List Str} : ∀ (xs pre : List D), (pre ++ xs).Nodup → (∀ x ∈ pre ++ xs, ∃ a ∈ A, ∃ b ∈ B, x = pr2 a b) → pairsL A B pre xs = true
  | [], _, _, _ => rfl
  | x :: xs, pre, hn, h => by
    obtain ⟨a, ha, b, hb, e⟩ := h x (by simp)
    have hni : inD pre (.tup [.str a, .str b]) = false := by
      unfold inD
      rw [List.any_eq_false]
      intro y hy he
      obtain ⟨c, _, f, _, ey⟩ := h y (by simp [hy])
      have he : eqD y (pr2 a b) = true := he
      rw [ey, eqD_pr2] at he
      simp at he
      have := (List.nodup_append.mp hn).2.2 y hy x (by simp)
      rw [ey, e, he.1, he.2] at this
      exact this rfl
    have hc : ckP A B pre x = true := by
      rw [e]
      show ((inD (A.map D.str) (.str a) && inD (B.map D.str) (.str b)) && !inD pre (.tup [.str a, .str b])) = true
      rw [inD_strs ha, inD_strs hb, hni]; rfl
    unfold pairsL
    rw [if_pos hc]
    exact pairsL_ok xs (pre ++ [x]) (by simpa using hn) (by simpa using h)
theorem lawL_ok {ns : List Str} : ∀ (qs : List (Str × Int)) (last : Str), Canon qs → (∀ p ∈ qs, p.1 ∈ ns) → (∀ p ∈ qs, ltS last p.1 = true) → lawL ns last (qs.map MP.pairD) = true
  | [], _, _, _, _ => rfl
  | p :: qs, last, hc, hn, hl => by
    have h1 := hl p (by simp)
    have h2 : ns.contains p.1 = true := List.contains_iff_mem.mpr (hn p (by simp))
    have h3 : (p.2 == 0) = false := by simpa using hc.nz p (by simp)
    show (if (!ltS last p.1 || (!ns.contains p.1 || p.2 == 0)) = true then false else lawL ns p.1 (qs.map MP.pairD)) = true
    rw [h1, h2, h3]
    exact lawL_ok qs p.1 ⟨(List.pairwise_cons.mp hc.up).2, fun q hq => hc.nz q (by simp [hq])⟩ (fun q hq => hn q (by simp [hq])) fun q hq => (List.pairwise_cons.mp hc.up).1 q hq
theorem lt_empty {z : Str} (h : 1 ≤ z.length) : ltS "" z = true := by
  rw [ltS_iff]
  have e : (Str.ofString "").cps.toList = [] := by decide +kernel
  show (Str.ofString "").cps.toList < _
  rw [e]
  have : z.cps.toList.length = z.length := by simp [Str.length]
  match hz : z.cps.toList with
  | [] => rw [hz] at this; simp at this; omega
  | c :: r => exact List.nil_lt_cons _ _
theorem formP_law {ns : List Str} {a : D} (h : FormP ns a) (hn : ∀ z ∈ ns, 1 ≤ z.length) : lawForm ns a = true := by
  obtain ⟨i, qs, rfl, hc, hq, _⟩ := h.ex
  exact lawL_ok qs "" hc hq fun p hp => lt_empty (hn _ (hq p hp))
theorem areB_ok {ns : List Str} {fs : List D} (h : ∀ a ∈ fs, FormP ns a) (hn : ∀ z ∈ ns, 1 ≤ z.length) : areB (lawForm ns) (.tup fs) = true := List.all_eq_true.mpr fun a ha => formP_law (h a ha) hn
theorem find_of {ps : List Pr} {p : Pr} (hn : (ps.map (·.name)).Nodup) (h : p ∈ ps) : ps.find? (fun x => x.name == p.name) = some p := by
  induction ps with
  | nil => cases h
  | cons q ps ih =>
    rw [List.find?_cons]
    have hn' := List.nodup_cons.mp hn
    rcases List.mem_cons.mp h with e | e
    · rw [e]; simp
    · have : (q.name == p.name) = false := by
        rw [beq_eq_false_iff_ne]
        intro e2
        exact hn'.1 (List.mem_map.mpr ⟨p, e, e2.symm⟩)
      rw [this]
      exact ih hn'.2 e
/-- a drawn claim -/
structure ClaimP (ls rs : List Pr) (d : D) : Prop where
  ex : ∃ (p q : Pr) (gs as xs ys : List D), p ∈ ls ∧ q ∈ rs ∧ d = .tup [.str p.name, .str q.name, .tup gs, .tup xs, .tup as, .tup ys] ∧ gs.length ≤ 3 ∧ as.length ≤ 3 ∧ xs.length ≤ 16 ∧ ys.length ≤ 16 ∧
    (∀ a ∈ gs, FormP (givenN p q) a) ∧ (∀ a ∈ as, FormP (lawAsk "l." p (tabN ls p.name) ++ lawAsk "r." q (tabN rs q.name)) a) ∧
    xs.Nodup ∧ (∀ x ∈ xs, ∃ a ∈ arrs p, ∃ b ∈ arrs q, x = pr2 a b) ∧ ys.Nodup ∧ ∀ x ∈ ys, ∃ a ∈ arrs p, ∃ b ∈ arrs q, x = pr2 a b
theorem mark_pos {m : Str} {ns : List Str} (h : 1 ≤ m.length) : ∀ z ∈ markN m ns, 1 ≤ z.length := fun z hz => by
  obtain ⟨y, _, e⟩ := List.mem_map.mp hz
  rw [← e, len_append]; omega
theorem given_pos {p q : Pr} : ∀ z ∈ givenN p q, 1 ≤ z.length := fun z hz => by
  rcases List.mem_append.mp hz with h | h
  · exact mark_pos (by decide +kernel) z h
  · exact mark_pos (by decide +kernel) z h
theorem ask_pos {m : Str} {p : Pr} {ns : List Str} (h : 1 ≤ m.length) : ∀ z ∈ lawAsk m p ns, 1 ≤ z.length := fun z hz => by
  rcases List.mem_append.mp hz with hz | hz
  · rcases List.mem_append.mp hz with hz | hz
    · exact mark_pos h z hz
    · rw [List.mem_singleton.mp hz, len_append]; omega
  · exact mark_pos (by rw [len_append]; omega) z hz
theorem claim_true {ls rs : List Pr} {d : D} (hl : (ls.map (·.name)).Nodup) (hr : (rs.map (·.name)).Nodup) (h : ClaimP ls rs d) : judgeB ls rs d = true := by
  obtain ⟨p, q, gs, as, xs, ys, hp, hq, rfl, _, _, _, _, hg, ha, nx, hx, ny, hy⟩ := h.ex
  unfold judgeB
  simp only [find_of hl hp, find_of hr hq]
  unfold judgeP
  rw [areB_ok hg given_pos, areB_ok ha fun z hz => (List.mem_append.mp hz).elim (ask_pos (by decide +kernel) z) (ask_pos (by decide +kernel) z)]
  have e1 : pairsB (arrs p) (arrs q) (.tup xs) = true := pairsL_ok xs [] nx hx
  have e2 : pairsB (arrs p) (arrs q) (.tup ys) = true := pairsL_ok ys [] ny hy
  rw [e1, e2]; rfl
end K06
namespace MP
open PySem L2 PyProof.Rows
theorem one_of_tup {s : Nat} {cs : List Int} {xs : List D} {mu : List MO} (h : At s cs mu) (h0 : 0 < xs.length) (h1 : xs.length < 1000) : ∃ x mu', den__law_one_of den__law_draw [.ref s, .tup xs] mu = .ok (.vl x) mu' ∧ Nx s cs mu mu' ∧ x ∈ xs := by
  obtain ⟨d, mu', e, n, d0, d1⟩ := draw_at (most := (xs.length : Int)) h (by omega) (log2_small (by simp; omega))
  obtain ⟨x, hx, hi⟩ := atI_of d0 d1
  refine ⟨x, mu', ?_, n, hx⟩
  refine noX_ok ?_
  simp [r__law_one_of, startE, e, ixD_at hi]
end MP
namespace K06
open PySem L2 PyProof.Rows MP
theorem its0_nodup {ws : List Str} (hl : ws.length = 6) (hn : ws.Nodup) : ((its0 ws).map (·.2)).Nodup := by
  match ws, hl with
  | [w0, w1, w2, w3, w4, w5], _ =>
    simp [its0] at hn ⊢
    obtain ⟨⟨a1, a2, a3, a4, a5⟩, ⟨b1, b2, b3, b4⟩, ⟨c1, c2, c3⟩, _⟩ := hn
    exact ⟨⟨a1, a2, a3⟩, ⟨b1, b2⟩, c1⟩
theorem GoodP.nodup {p : Pr} (h : GoodP p) : (arrs p).Nodup := by
  obtain ⟨ws, hd, hl, hn, _⟩ := h.drawn
  obtain ⟨js, i, hp, _, e⟩ := hd.items
  have h1 : (js.map (·.2)).Nodup := (hp.map _).nodup_iff.mpr (its0_nodup hl hn)
  have h2 : (p.items.map (·.2)).Nodup := by
    rw [e, List.map_drop]
    exact h1.sublist (List.drop_sublist _ _)
  unfold arrs
  exact h2.sublist (List.Sublist.map _ List.filter_sublist)
theorem GoodP.arrs {p : Pr} (h : GoodP p) : (arrs p).length ≤ 4 := by
  have := h.four
  unfold K06.arrs
  rw [List.length_map]
  exact Nat.le_trans (List.length_filter_le _ _) this.2
theorem GoodP.ins {p : Pr} (h : GoodP p) : 1 ≤ (inputs p).length ∧ (inputs p).length ≤ 4 := by
  have := h.four
  unfold inputs
  rw [List.length_map]
  exact this
noncomputable abbrev dInNames : List D → M Rv := den__law_input_names den__law_key
theorem in_names_cat {p q : Pr} {mu : List MO} (hp : GoodP p) (hq : GoodP q) : gAdd (.fl ((markN "l." (inputs p)).map D.str)) (.fl ((markN "r." (inputs q)).map D.str)) mu = .ok (.fl ((givenN p q).map D.str)) mu := by
  rw [gAdd_fl]
  · unfold givenN; rw [List.map_append]
  · have h1 := hp.ins
    have h2 := hq.ins
    unfold markN
    simp only [List.length_map]
    rw [sizeLine_eq]; omega
theorem lawAsk_len {m : Str} {p : Pr} {ns : List Str} (h : GoodP p) : 1 ≤ (lawAsk m p ns).length ∧ (lawAsk m p ns).length ≤ 301 := by
  have h1 := (inputs_len h.w).1
  have h2 := (outc_len (ns := ns) h.w).1
  unfold lawAsk markN
  simp
  omega
theorem ask_cat {p q : Pr} {ms ns : List Str} {mu : List MO} (hp : GoodP p) (hq : GoodP q) : gAdd (fls (lawAsk "l." p ms)) (fls (lawAsk "r." q ns)) mu = .ok (.fl ((lawAsk "l." p ms ++ lawAsk "r." q ns).map D.str)) mu := by
  unfold fls
  rw [gAdd_fl, List.map_append]
  have h1 := (lawAsk_len (m := "l.") (ns := ms) hp).2
  have h2 := (lawAsk_len (m := "r.") (ns := ns) hq).2
  simp only [List.length_map]
  rw [sizeLine_eq]; omega
noncomputable abbrev dClaimOf : List D → M Rv := den__law_claim dOneOf dForms dInNames dLawAsk dPairs
theorem claim_ok {s : Nat} {cs : List Int} {ls rs : List Pr} {mu : List MO} (A : At s cs mu) (hc : CloH mu) (hl : ∀ p ∈ ls, GoodP p) (hr : ∀ p ∈ rs, GoodP p) (l1 : 1 ≤ ls.length ∧ ls.length ≤ 3) (r1 : 1 ≤ rs.length ∧ rs.length ≤ 3) :
    ∃ (d : D) (mu' : List MO), dClaimOf [.ref s, worldD ls rs] mu = .ok (.vl d) mu' ∧ Nx s cs mu mu' ∧ ClaimP ls rs d := by
  obtain ⟨x, m1, e1, n1, hx⟩ := one_of_tup (xs := ls.map procD) A (by simp; omega) (by simp; omega)
  obtain ⟨p, hp, rfl⟩ := List.mem_map.mp hx
  obtain ⟨y, m2, e2, n2', hy⟩ := one_of_tup (xs := rs.map procD) (n1.at_ A) (by simp; omega) (by simp; omega)
  obtain ⟨q, hq, rfl⟩ := List.mem_map.mp hy
  have n2 := n1.trans n2'
  have gp := hl p hp
  have gq := hr q hq
  have hg1 : (givenN p q).length = (inputs p).length + (inputs q).length := by unfold givenN markN; simp
  have i1 := gp.ins
  have i2 := gq.ins
  obtain ⟨gs, m3, e3, n3', hgl, hgs⟩ := forms_ok (ns := givenN p q) (n2.at_ A) (n2.clo hc) (by omega) (by omega)
  have n3 := n2.trans n3'
  have a1 := lawAsk_len (m := "l.") (ns := tabN ls p.name) gp
  have a2 := lawAsk_len (m := "r.") (ns := tabN rs q.name) gq
  obtain ⟨as, m4, e4, n4', hal, has⟩ := forms_ok (ns := lawAsk "l." p (tabN ls p.name) ++ lawAsk "r." q (tabN rs q.name)) (n3.at_ A) (n3.clo hc) (by rw [List.length_append]; omega) (by rw [List.length_append]; omega)
  have n4 := n3.trans n4'
  obtain ⟨xs, m5, e5, n5', hxl, hxn, hxs⟩ := pairs_ok (p := p) (q := q) (n4.at_ A) gp.arrs gq.arrs gp.nodup gq.nodup
  have n5 := n4.trans n5'
  obtain ⟨ys, m6, e6, n6', hyl, hyn, hys⟩ := pairs_ok (p := p) (q := q) (n5.at_ A) gp.arrs gq.arrs gp.nodup gq.nodup
  have n6 := n5.trans n6'
  refine ⟨.tup [.str p.name, .str q.name, .tup gs, .tup xs, .tup as, .tup ys], m6, ?_, n6, ⟨p, q, gs, as, xs, ys, hp, hq, rfl, hgl, hal, hxl, hyl, hgs, has, hxn, hxs, hyn, hys⟩⟩
  have s6 : (6 : Nat) ≤ sizeLine := by decide
  have k1 := fun mu => law_input_names_ok (p := p) (m := "l.") (mu := mu) gp.w (by decide +kernel)
  have k2 := fun mu => law_input_names_ok (p := q) (m := "r.") (mu := mu) gq.w (by decide +kernel)
  have k3 := fun mu => in_names_cat (p := p) (q := q) (mu := mu) gp gq
  have k4 := fun mu => law_ask_names_ok (ps := ls) (p := p) (m := "l.") (mu := mu) gp.w (by decide +kernel) (List.mem_map_of_mem hp)
  have k5 := fun mu => law_ask_names_ok (ps := rs) (p := q) (m := "r.") (mu := mu) gq.w (by decide +kernel) (List.mem_map_of_mem hq)
  have k6 := fun mu => ask_cat (p := p) (q := q) (ms := tabN ls p.name) (ns := tabN rs q.name) (mu := mu) gp gq
  have e1 : dOneOf [.ref s, coreD ls] mu = .ok (.vl (procD p)) m1 := e1
  have e2 : dOneOf [.ref s, coreD rs] m1 = .ok (.vl (procD q)) m2 := e2
  have w : worldD ls rs = .tup [coreD ls, coreD rs, tabD ls, tabD rs] := rfl
  refine noX_ok ?_
  rw [w]
  generalize (lawAsk "l." p (tabN ls p.name) ++ lawAsk "r." q (tabN rs q.name)).map D.str = AS at e4 k6
  generalize coreD ls = L at *
  generalize coreD rs = R at *
  generalize tabD ls = TL at *
  generalize tabD rs = TR at *
  have q1 := fun mu => procD_name (p := p) (mu := mu)
  have q2 := fun mu => procD_name (p := q) (mu := mu)
  simp [r__law_claim, startE, e1, e2, k1, k2, k3, e3, k4, k5, k6, e4, e5, e6, q1, q2, gTup_ok, s6]
end K06
namespace K06
open PySem L2 PyProof.Rows MP
theorem GoodP.place {p : Pr} (h : GoodP p) : p.places.length = 2 ∧ ∀ it ∈ p.places, GoodW it.2 := by
  obtain ⟨ws, hd, hl, _, hg⟩ := h.drawn
  rw [hd.places]
  refine ⟨rfl, ?_⟩
  match ws, hl with
  | [w0, w1, w2, w3, w4, w5], _ =>
    intro it hit
    simp at hit
    rcases hit with rfl | rfl <;> exact hg _ (by simp)
theorem GoodP.item {p : Pr} (h : GoodP p) : ∀ it ∈ p.items ++ p.places, GoodW it.2 := fun it hit => (List.mem_append.mp hit).elim (h.word it) (h.place.2 it)
theorem GoodP.all {p : Pr} (h : GoodP p) : 1 ≤ (p.items ++ p.places).length ∧ (p.items ++ p.places).length ≤ 6 := by
  have h1 := h.four
  have h2 := h.place.1
  rw [List.length_append]; omega
theorem procD_places {p : Pr} {mu : List MO} : gIx (procD p) (.int 3) mu = .ok (.tup (p.places.map itemD)) mu := by simp [procD]
theorem itemD_one {it : Bool × Str} {mu : List MO} : gIx (itemD it) (.int 1) mu = .ok (.str it.2) mu := by simp [itemD]
theorem all_items {p : Pr} {mu : List MO} (h : GoodP p) : gAdd (.tup (p.items.map itemD)) (.tup (p.places.map itemD)) mu = .ok (.tup ((p.items ++ p.places).map itemD)) mu := by
  rw [gAdd_tup, List.map_append]
  have := h.all
  rw [List.length_append] at this
  simp only [List.length_map]
  rw [sizeLine_eq]; omega
theorem gSl_fl_take {xs : List D} {k : Nat} {mu : List MO} : gSl (.fl xs) none (some (k : Int)) mu = .ok (.fl (xs.take k)) mu := by
  have e : gSl (.fl xs) none (some (k : Int)) mu = .ok (.fl (MP.cutD xs none (some (k : Int)))) mu := rfl
  rw [e, cutD_take]
noncomputable def ofBody : MP.Env → M Fl := (sSeq (sSet 8 (eCall (lenD 2 dOneOf) (aCons (eVar 0) (aCons (eBin gAdd (eBin gIx (eVar 7) (eC (.int 1))) (eBin gIx (eVar 7) (eC (.int 3)))) aNil))))
  (sSeq (sSet 4 (eBin gAdd (eVar 4) (eFl (aList (aCons (eBin gAdd (eVar 6) (eCall (lenD 1 den__law_key) (aCons (eVar 8) aNil))) (aCons (eBin gAdd (eBin gAdd (eVar 6) (eC (.str "@"))) (eCall (lenD 1 den__law_key) (aCons (eVar 8) aNil))) (aCons (eBin gAdd (eBin gAdd (eVar 6) (eC (.str ".#"))) (eBin gIx (eVar 8) (eC (.int 1)))) (aCons (eBin gAdd (eBin gAdd (eVar 6) (eC (.str "@#"))) (eBin gIx (eVar 8) (eC (.int 1)))) aNil))))))))
  (sSet 4 (eBin gAdd (eVar 4) (eFl (aList (aCons (eBin gAdd (eC (.str "@")) (eCall (lenD 1 den__law_key) (aCons (eVar 8) aNil))) (aCons (eBin gAdd (eBin gAdd (eVar 6) (eC (.str "."))) (eBin gIx (eVar 8) (eC (.int 1)))) (aCons (eVar 6) aNil)))))))))
theorem of_step {s : Nat} {cs : List Int} {p q one : D} {r : Pr} {m : Str} {ns : List Str} {o8 : Option D} {mu : List MO} (A : At s cs mu) (hr : GoodP r) (hm : m.length ≤ 10) (hn : ns.length ≤ 1000) : ∃ (ns' : List Str) (mu' : List MO) (x : D),
    ofBody [some (.ref s), some p, some q, some one, some (.fl (ns.map D.str)), none, some (.str m), some (procD r), o8, none] mu = .ok (.nx [some (.ref s), some p, some q, some one, some (.fl (ns'.map D.str)), none, some (.str m), some (procD r), some x, none]) mu' ∧ Nx s cs mu mu' ∧ ns'.length = ns.length + 7 := by
  have ha := hr.all
  obtain ⟨x, m1, e1, n1, hx⟩ := one_of_tup (xs := (r.items ++ r.places).map itemD) A (by rw [List.length_map]; omega) (by rw [List.length_map]; omega)
  obtain ⟨it, hit, rfl⟩ := List.mem_map.mp hx
  have gw := hr.item it hit
  have ik : K06.ItOk it := ⟨by have := gw.le; omega⟩
  have kl := keyS_len ik
  have e1 : dOneOf [.ref s, .tup ((r.items ++ r.places).map itemD)] mu = .ok (.vl (itemD it)) m1 := e1
  refine ⟨(ns ++ [m ++ keyS it, (m ++ "@") ++ keyS it, (m ++ ".#") ++ it.2, (m ++ "@#") ++ it.2]) ++ [("@" : Str) ++ keyS it, (m ++ ".") ++ it.2, m], m1, itemD it, ?_, n1, by simp⟩
  have q1 := procD_items (p := r) (mu := mu)
  have q2 := procD_places (p := r) (mu := mu)
  have q3 := all_items (mu := mu) hr
  have lk := law_key_ok (mu := m1) ik
  have ix := itemD_one (it := it) (mu := m1)
  have l1 : (Str.ofString "@").length = 1 ∧ (Str.ofString ".#").length = 2 ∧ (Str.ofString "@#").length = 2 ∧ (Str.ofString ".").length = 1 := by decide +kernel
  have wl := gw.le
  have c1 := cat_ok (x := m) (y := keyS it) (mu := m1) (by omega)
  have c2 := cat_ok (x := m) (y := "@") (mu := m1) (by rw [l1.1]; omega)
  have c3 := cat_ok (x := m ++ "@") (y := keyS it) (mu := m1) (by rw [len_append, l1.1]; omega)
  have c4 := cat_ok (x := m) (y := ".#") (mu := m1) (by rw [l1.2.1]; omega)
  have c5 := cat_ok (x := m ++ ".#") (y := it.2) (mu := m1) (by rw [len_append, l1.2.1]; omega)
  have c6 := cat_ok (x := m) (y := "@#") (mu := m1) (by rw [l1.2.2.1]; omega)
  have c7 := cat_ok (x := m ++ "@#") (y := it.2) (mu := m1) (by rw [len_append, l1.2.2.1]; omega)
  have c8 := cat_ok (x := "@") (y := keyS it) (mu := m1) (by rw [l1.1]; omega)
  have c9 := cat_ok (x := m) (y := ".") (mu := m1) (by rw [l1.2.2.2]; omega)
  have c10 := cat_ok (x := m ++ ".") (y := it.2) (mu := m1) (by rw [len_append, l1.2.2.2]; omega)
  have s3 : (3 : Nat) ≤ sizeLine := by decide
  have s4 : (4 : Nat) ≤ sizeLine := by decide
  have sz : ns.length + 7 ≤ sizeLine := by rw [sizeLine_eq]; omega
  have g1 : ∀ a b c e : Str, gAdd (.fl (ns.map D.str)) (.fl [.str a, .str b, .str c, .str e]) m1 = .ok (.fl ((ns ++ [a, b, c, e]).map D.str)) m1 := fun a b c e => by
    rw [gAdd_fl (by simp; omega)]; simp
  have g2 : ∀ a b c e f g h : Str, gAdd (.fl ((ns ++ [a, b, c, e]).map D.str)) (.fl [.str f, .str g, .str h]) m1 = .ok (.fl (((ns ++ [a, b, c, e]) ++ [f, g, h]).map D.str)) m1 := fun a b c e f g h => by
    rw [gAdd_fl (by simp; omega)]; simp
  generalize hD : (r.items ++ r.places).map itemD = X at e1 q3
  have go : ∀ (NS NS1 NS2 : List D), (∀ a b c e : Str, a = m ++ keyS it → b = (m ++ "@") ++ keyS it → c = (m ++ ".#") ++ it.2 → e = (m ++ "@#") ++ it.2 → gAdd (.fl NS) (.fl [.str a, .str b, .str c, .str e]) m1 = .ok (.fl NS1) m1) → (∀ a b c : Str, a = ("@" : Str) ++ keyS it → b = (m ++ ".") ++ it.2 → c = m → gAdd (.fl NS1) (.fl [.str a, .str b, .str c]) m1 = .ok (.fl NS2) m1) →
      ofBody [some (.ref s), some p, some q, some one, some (.fl NS), none, some (.str m), some (procD r), o8, none] mu = .ok (.nx [some (.ref s), some p, some q, some one, some (.fl NS2), none, some (.str m), some (procD r), some (itemD it), none]) m1 := by
    intro NS NS1 NS2 h1 h2
    have h1 := h1 _ _ _ _ rfl rfl rfl rfl
    have h2 := h2 _ _ _ rfl rfl rfl
    simp [ofBody, q1, q2, q3, e1, lk, ix, c1, c2, c3, c4, c5, c6, c7, c8, c9, c10, s3, s4, h1, h2, -gAdd_str]
  exact go _ _ _ (fun a b c e ha hb hc he => by rw [g1, ha, hb, hc, he]) fun a b c ha hb hc => by rw [g2, ha, hb, hc]
end K06
namespace K06
open PySem L2 PyProof.Rows MP
theorem pd_tup {n : Nat} {xs : List D} : Pd (n + 1) (.tup xs) ↔ xs.length ≤ 1000 ∧ ∀ x ∈ xs, Pd n x := Iff.rfl
def pdB : Nat → D → Bool
  | 0, .int _ => true
  | 0, .str _ => true
  | 0, _ => false
  | n + 1, .int _ => true
  | n + 1, .str _ => true
  | n + 1, .tup xs => decide (xs.length ≤ 1000) && xs.all (pdB n)
  | _ + 1, _ => false
theorem pdB_ok : ∀ (n : Nat) (d : D), pdB n d = true → Pd n d
  | 0, .int _, _ => trivial
  | 0, .str _, _ => trivial
  | n + 1, .int _, _ => Pd.int _
  | n + 1, .str _, _ => Pd.str _
  | n + 1, .tup xs, h => by
    have h' : (decide (xs.length ≤ 1000) && xs.all (pdB n)) = true := h
    rw [Bool.and_eq_true, decide_eq_true_eq, List.all_eq_true] at h'
    exact Pd.tup h'.1 fun x hx => pdB_ok n x (h'.2 x hx)
  | 0, .non, h => by cases h
  | 0, .bl _, h => by cases h
  | 0, .tup _, h => by cases h
  | 0, .fl _, h => by cases h
  | 0, .ro _, h => by cases h
  | 0, .fd _ _, h => by cases h
  | 0, .ref _, h => by cases h
  | n + 1, .non, h => by cases h
  | n + 1, .bl _, h => by cases h
  | n + 1, .fl _, h => by cases h
  | n + 1, .ro _, h => by cases h
  | n + 1, .fd _ _, h => by cases h
  | n + 1, .ref _, h => by cases h
theorem pds_of {n : Nat} {xs : List D} (h : xs.all (pdB n) = true) : ∀ x ∈ xs, Pd n x := fun x hx => pdB_ok n x (List.all_eq_true.mp h x hx)
noncomputable abbrev dOtherForms : List D → M Rv := den__law_other_forms dOneOf dInNames den__law_key shufD
def ofMore (one : Str) : List D := [.tup [.int 3, .tup [.tup [.str one, .int 0]]], .tup [.int 0, .tup [.tup [.str one, .int 1], .tup [.str one, .int 2]]], .tup [.str "0", .tup [.tup [.str one, .int 1]]], .tup [.int 0, .tup [.tup [.str one, .int 1]], .int 0]]
def ofMost (one : Str) : List D := [.tup [.int 0, .tup [.str one, .int 1]], .tup [.int 0, .tup [.tup [.str one, .str "1"]]], .tup [.int 0, .tup [.tup [.str one]]], .tup [.int 1], .int 0, .str "", .tup [], .tup [.int 0, .int 0], .str one, .tup [.int 2, .tup []]]
def of1 (z : Str) : D := .tup [.int 0, .tup [.tup [.str z, .int 1]]]
theorem other_forms_ok {s : Nat} {cs : List Int} {p q : Pr} {mu : List MO} (A : At s cs mu) (gp : GoodP p) (gq : GoodP q) :
    ∃ (fs : List D) (mu' : List MO), dOtherForms [.ref s, procD p, procD q] mu = .ok (.vl (.fl fs)) mu' ∧ Nx s cs mu mu' ∧ fs.length ≤ 28 ∧ ∀ f ∈ fs, Pd 3 f := by
  have hg1 : (givenN p q).length = (inputs p).length + (inputs q).length := by unfold givenN markN; simp
  have i1 := gp.ins
  have i2 := gq.ins
  obtain ⟨x, m1, e1, n1, hx⟩ := one_of_at (xs := (givenN p q).map D.str) A (by rw [List.length_map]; omega) (by rw [List.length_map]; omega)
  obtain ⟨one, _, rfl⟩ := List.mem_map.mp hx
  have e1 : dOneOf [.ref s, .fl ((givenN p q).map D.str)] mu = .ok (.vl (.str one)) m1 := e1
  obtain ⟨e', m2, e2, ⟨ns, o6, o7, o8, rfl, n2, hns⟩⟩ := loopF_inv (asg := asgT 2 (asgCons (asgN 6) (asgCons (asgN 7) asgNil))) (body := ofBody) (fg := [6, 7, 8]) (ds := [.tup [.str "l.", procD p], .tup [.str "r.", procD q], .tup [.str "l.", procD q], .tup [.str "r.", procD p]])
    (I := fun k env m => ∃ (ns : List Str) (o6 o7 o8 : Option D), env = [some (.ref s), some (procD p), some (procD q), some (.str one), some (.fl (ns.map D.str)), none, o6, o7, o8, none] ∧ Nx s cs mu m ∧ ns.length + 7 * k ≤ 37)
    (env := [some (.ref s), some (procD p), some (procD q), some (.str one), some (.fl ((["l..count", "r..count", "l..result", "r..result", "l..result.x", "r..result.y", "l.?1", "r.!1", "l.?c"] : List Str).map D.str)), none, none, none, none, none]) (mu := m1)
    (fun d hd k env m ⟨ns, o6, o7, o8, e, n, hns⟩ => by
      subst e
      obtain ⟨mk, r, rfl, hm, gr⟩ : ∃ (mk : Str) (r : Pr), d = .tup [.str mk, procD r] ∧ mk.length ≤ 10 ∧ GoodP r := by
        simp only [List.mem_cons, List.not_mem_nil, or_false] at hd
        rcases hd with rfl | rfl | rfl | rfl
        · exact ⟨_, p, rfl, by decide +kernel, gp⟩
        · exact ⟨_, q, rfl, by decide +kernel, gq⟩
        · exact ⟨_, q, rfl, by decide +kernel, gq⟩
        · exact ⟨_, p, rfl, by decide +kernel, gp⟩
      obtain ⟨ns', m', x, e', n', hl⟩ := of_step (p := procD p) (q := procD q) (one := .str one) (o8 := none) (n.at_ A) gr hm (by omega : ns.length ≤ 1000)
      refine ⟨_, _, m', ?_, e', ⟨ns', _, _, _, rfl, n.trans n', by omega⟩⟩
      simp) ⟨_, _, _, _, rfl, n1, by simp⟩
  obtain ⟨ys, m3, e3, n3', p3⟩ := shufD_ok (d := .fl (ns.map D.str)) (n2.at_ A) rfl (by rw [List.length_map]; omega) (flats_clo _ (strs_flat _))
  have n3 := n2.trans n3'
  obtain ⟨zs, rfl, _⟩ := unmap (f := D.str) (P := fun _ => True) (xs := ys) fun x hx => by
    obtain ⟨z, _, e⟩ := List.mem_map.mp (p3.mem_iff.mp hx)
    exact ⟨z, e.symm, trivial⟩
  have hc : loopC (asgN 9) tYesM (aThen gTup (aCons (eC (.int 0)) (aCons (aThen gTup (aCons (aThen gTup (aCons (eVar 9) (aCons (eC (.int 1)) aNil))) aNil)) aNil))) [] ((zs.take 14).map D.str) [some (.ref s), some (procD p), some (procD q), some (.str one), some (.fl (ns.map D.str)), none, none, none, none, none] m3 = .ok ((zs.take 14).map of1) m3 :=
    loopC_map' fun z hz => ⟨_, rfl, rfl, by
      have s1 : (1 : Nat) ≤ sizeLine := by decide
      have s2 : (2 : Nat) ≤ sizeLine := by decide
      simp [gTup_ok, s1, s2, of1]⟩
  have l14 : ((zs.take 14).map of1).length ≤ 14 := by rw [List.length_map, List.length_take]; omega
  have g1 : ∀ m, gAdd (.fl ((zs.take 14).map of1)) (.fl (ofMore one)) m = .ok (.fl ((zs.take 14).map of1 ++ ofMore one)) m := fun m => gAdd_fl (by
    have : (ofMore one).length = 4 := rfl
    rw [sizeLine_eq]; omega)
  have g2 : ∀ m, gAdd (.fl ((zs.take 14).map of1 ++ ofMore one)) (.fl (ofMost one)) m = .ok (.fl (((zs.take 14).map of1 ++ ofMore one) ++ ofMost one)) m := fun m => gAdd_fl (by
    have : (ofMore one).length = 4 := rfl
    have : (ofMost one).length = 10 := rfl
    rw [List.length_append, sizeLine_eq]; omega)
  refine ⟨((zs.take 14).map of1 ++ ofMore one) ++ ofMost one, m3, ?_, n3, ?_, fun f hf => ?_⟩
  · have s0 : (0 : Nat) ≤ sizeLine := by decide
    have s1 : (1 : Nat) ≤ sizeLine := by decide
    have s2 : (2 : Nat) ≤ sizeLine := by decide
    have s3 : (3 : Nat) ≤ sizeLine := by decide
    have s4 : (4 : Nat) ≤ sizeLine := by decide
    have s9 : (9 : Nat) ≤ sizeLine := by decide
    have s10 : (10 : Nat) ≤ sizeLine := by decide
    have k1 := law_input_names_ok (p := p) (m := "l.") (mu := mu) gp.w (by decide +kernel)
    have k2 := law_input_names_ok (p := q) (m := "r.") (mu := mu) gq.w (by decide +kernel)
    have k3 := in_names_cat (p := p) (q := q) (mu := mu) gp gq
    refine noX_ok ?_
    have hc := noX_ok hc
    have sl : gSl (.fl (zs.map D.str)) none (some 14) m3 = .ok (.fl ((zs.take 14).map D.str)) m3 := by rw [show (14 : Int) = ((14 : Nat) : Int) from rfl, gSl_fl_take, List.map_take]
    have er : r__law_other_forms dOneOf dInNames den__law_key shufD = (sSeq (sSet 3 (eCall (lenD 2 dOneOf) (aCons (eVar 0) (aCons (eBin gAdd (eCall (lenD 2 dInNames) (aCons (eC (.str "l.")) (aCons (eVar 1) aNil))) (eCall (lenD 2 dInNames) (aCons (eC (.str "r.")) (aCons (eVar 2) aNil)))) aNil))))
  (sSeq (sSet 4 (eFl (aList (aCons (eC (.str "l..count")) (aCons (eC (.str "r..count")) (aCons (eC (.str "l..result")) (aCons (eC (.str "r..result")) (aCons (eC (.str "l..result.x")) (aCons (eC (.str "r..result.y")) (aCons (eC (.str "l.?1")) (aCons (eC (.str "r.!1")) (aCons (eC (.str "l.?c")) aNil))))))))))))
  (sSeq (sFor (eWalk (eFl (aList (aCons (aThen gTup (aCons (eC (.str "l.")) (aCons (eVar 1) aNil))) (aCons (aThen gTup (aCons (eC (.str "r.")) (aCons (eVar 2) aNil))) (aCons (aThen gTup (aCons (eC (.str "l.")) (aCons (eVar 2) aNil))) (aCons (aThen gTup (aCons (eC (.str "r.")) (aCons (eVar 1) aNil))) aNil))))))) (asgT 2 (asgCons (asgN 6) (asgCons (asgN 7) asgNil))) ofBody [6, 7, 8])
  (sSeq (sSet 5 (eFl (fComp (eWalk (eSl (eCall (lenD 2 shufD) (aCons (eVar 0) (aCons (eVar 4) aNil))) oNone (oSome (eC (.int 14))))) (asgN 9) tYesM (aThen gTup (aCons (eC (.int 0)) (aCons (aThen gTup (aCons (aThen gTup (aCons (eVar 9) (aCons (eC (.int 1)) aNil))) aNil)) aNil))) [9])))
  (sSeq (sSet 5 (eBin gAdd (eVar 5) (eFl (aList (aCons (aThen gTup (aCons (eC (.int 3)) (aCons (aThen gTup (aCons (aThen gTup (aCons (eVar 3) (aCons (eC (.int 0)) aNil))) aNil)) aNil))) (aCons (aThen gTup (aCons (eC (.int 0)) (aCons (aThen gTup (aCons (aThen gTup (aCons (eVar 3) (aCons (eC (.int 1)) aNil))) (aCons (aThen gTup (aCons (eVar 3) (aCons (eC (.int 2)) aNil))) aNil))) aNil))) (aCons (aThen gTup (aCons (eC (.str "0")) (aCons (aThen gTup (aCons (aThen gTup (aCons (eVar 3) (aCons (eC (.int 1)) aNil))) aNil)) aNil))) (aCons (aThen gTup (aCons (eC (.int 0)) (aCons (aThen gTup (aCons (aThen gTup (aCons (eVar 3) (aCons (eC (.int 1)) aNil))) aNil)) (aCons (eC (.int 0)) aNil)))) aNil))))))))
  (sRet (eBin gAdd (eVar 5) (eFl (aList (aCons (aThen gTup (aCons (eC (.int 0)) (aCons (aThen gTup (aCons (eVar 3) (aCons (eC (.int 1)) aNil))) aNil))) (aCons (aThen gTup (aCons (eC (.int 0)) (aCons (aThen gTup (aCons (aThen gTup (aCons (eVar 3) (aCons (eC (.str "1")) aNil))) aNil)) aNil))) (aCons (aThen gTup (aCons (eC (.int 0)) (aCons (aThen gTup (aCons (aThen gTup (aCons (eVar 3) aNil)) aNil)) aNil))) (aCons (aThen gTup (aCons (eC (.int 1)) aNil)) (aCons (eC (.int 0)) (aCons (eC (.str "")) (aCons (aThen gTup aNil) (aCons (aThen gTup (aCons (eC (.int 0)) (aCons (eC (.int 0)) aNil))) (aCons (eVar 3) (aCons (aThen gTup (aCons (eC (.int 2)) (aCons (aThen gTup aNil) aNil))) aNil))))))))))))))))))) := rfl
    rw [er]
    generalize (givenN p q).map D.str = GN at k3 e1
    generalize zs.map D.str = ZS at e3 sl
    generalize (zs.take 14).map D.str = Z14 at hc sl
    generalize ((zs.take 14).map of1) = F14 at g1 g2 hc ⊢
    unfold ofMore at g1 g2
    unfold ofMost at g2
    simp at e2
    unfold ofMore ofMost
    generalize ns.map D.str = NS at e2 e3 hc
    generalize hF1 : F14 ++ _ = F18 at g1 g2 ⊢
    generalize hF2 : F18 ++ _ = F28 at g2 ⊢
    simp [startE, k1, k2, k3, e1, s9, s4, gTup_ok, s0, s1, s2, s3, s10, e2, e3, sl, hc, g1, g2]
  · have : (ofMore one).length = 4 := rfl
    have : (ofMost one).length = 10 := rfl
    simp only [List.length_append]; omega
  · rcases List.mem_append.mp hf with h | h
    · rcases List.mem_append.mp h with h | h
      · obtain ⟨z, _, e⟩ := List.mem_map.mp h
        rw [← e]
        exact pdB_ok 3 _ rfl
      · exact pds_of (by rfl) f h
    · exact pds_of (by rfl) f h
end K06
namespace K06
open PySem L2 PyProof.Rows MP
def opX (qs : List (Bool × Str)) (x : Bool × Str) : List D := qs.map fun y => pr2 x.2 y.2
noncomputable def opBody : MP.Env → M Fl := sSet 3 (eBin gAdd (eVar 3) (eFl (fComp (eWalk (eBin gAdd (eBin gIx (eVar 2) (eC (.int 1))) (eBin gIx (eVar 2) (eC (.int 3))))) (asgN 6) tYesM (aThen gTup (aCons (eBin gIx (eVar 4) (eC (.int 1))) (aCons (eBin gIx (eVar 6) (eC (.int 1))) aNil))) [6])))
theorem op_loop {s : Nat} {p q : Pr} {mu : List MO} (gq : GoodP q) : ∀ (its : List (Bool × Str)) (acc : List D) (o4 : Option D), acc.length + 6 * its.length ≤ 1000 →
    loopF (asgN 4) opBody [4] [] (its.map itemD) [some (.ref s), some (procD p), some (procD q), some (.fl acc), o4, none, none] mu = .ok (.nx [some (.ref s), some (procD p), some (procD q), some (.fl (acc ++ its.flatMap (opX (q.items ++ q.places)))), none, none, none]) mu
  | [], acc, o4, _ => by
    show loopF _ _ _ [] [] _ _ = _
    rw [loopF_nil]
    simp
  | x :: its, acc, o4, hl => by
    rw [List.length_cons] at hl
    have hq := gq.all
    have hol : (opX (q.items ++ q.places) x).length ≤ 6 := by unfold opX; rw [List.length_map]; omega
    have ih := op_loop (s := s) (p := p) (q := q) (mu := mu) gq its (acc ++ opX (q.items ++ q.places) x) (some (itemD x)) (by rw [List.length_append]; omega)
    have e : (acc ++ opX (q.items ++ q.places) x) ++ its.flatMap (opX (q.items ++ q.places)) = acc ++ (x :: its).flatMap (opX (q.items ++ q.places)) := by rw [List.flatMap_cons, List.append_assoc]
    rw [e] at ih
    rw [List.map_cons, loopF_step (e := [some (.ref s), some (procD p), some (procD q), some (.fl (acc ++ opX (q.items ++ q.places) x)), some (itemD x), none, none]) rfl ?_]
    · exact ih
    · have hc : loopC (asgN 6) tYesM (aThen gTup (aCons (eBin gIx (eVar 4) (eC (.int 1))) (aCons (eBin gIx (eVar 6) (eC (.int 1))) aNil))) [] ((q.items ++ q.places).map itemD) [some (.ref s), some (procD p), some (procD q), some (.fl acc), some (itemD x), none, none] mu = .ok (opX (q.items ++ q.places) x) mu :=
        loopC_map' fun y hy => ⟨[some (.ref s), some (procD p), some (procD q), some (.fl acc), some (itemD x), none, some (itemD y)], rfl, rfl, by
          have s2 : (2 : Nat) ≤ sizeLine := by decide
          simp [gTup_ok, s2, pr2, itemD_one]⟩
      have hz : acc.length + (opX (q.items ++ q.places) x).length ≤ sizeLine := by rw [sizeLine_eq]; omega
      have hg := gAdd_fl (xs := acc) (ys := opX (q.items ++ q.places) x) (mu := mu) hz
      have q1 := procD_items (p := q) (mu := mu)
      have q2 := procD_places (p := q) (mu := mu)
      have q3 := all_items (mu := mu) gq
      generalize (q.items ++ q.places).map itemD = B at hc q3
      generalize opX (q.items ++ q.places) x = C at hc hg ⊢
      simp [opBody, q1, q2, q3, noX_ok hc, hg]
noncomputable abbrev dOtherPairs : List D → M Rv := den__law_other_pairs dOneOf shufD
def opMore (a b : Str) : List D := [.tup [.str a], .tup [.str a, .str b, .str a], .str a, .int 0, .tup [], .tup [.str a, .int 0]]
theorem pr2s {xs : List D} (h : ∀ x ∈ xs, ∃ a b, x = pr2 a b) : ∃ ps : List (Str × Str), xs = ps.map fun p => pr2 p.1 p.2 := by
  obtain ⟨ps, e, _⟩ := unmap (f := fun p : Str × Str => pr2 p.1 p.2) (P := fun _ => True) (xs := xs) fun x hx => by
    obtain ⟨a, b, e⟩ := h x hx
    exact ⟨(a, b), e, trivial⟩
  exact ⟨ps, e⟩
theorem flat_len {α β : Type} {f : α → List β} {k : Nat} : ∀ (xs : List α), (∀ x ∈ xs, (f x).length ≤ k) → (xs.flatMap f).length ≤ k * xs.length
  | [], _ => by simp
  | x :: xs, h => by
    have h1 := h x (by simp)
    have h2 := flat_len (f := f) xs fun y hy => h y (by simp [hy])
    rw [List.flatMap_cons, List.length_append, List.length_cons, Nat.mul_add]
    omega
theorem other_pairs_ok {s : Nat} {cs : List Int} {p q : Pr} {mu : List MO} (A : At s cs mu) (gp : GoodP p) (gq : GoodP q) :
    ∃ (fs : List D) (mu' : List MO), dOtherPairs [.ref s, procD p, procD q] mu = .ok (.vl (.fl fs)) mu' ∧ Nx s cs mu mu' ∧ fs.length ≤ 13 ∧ ∀ f ∈ fs, Pd 3 f := by
  obtain ⟨x, m1, e1, n1, hx⟩ := one_of_at (xs := [.tup (p.items.map itemD), .tup (p.places.map itemD)]) A (by simp) (by simp)
  have p4 := gp.four
  have q4 := gq.four
  obtain ⟨its, rfl, hil⟩ : ∃ its : List (Bool × Str), x = .tup (its.map itemD) ∧ its.length ≤ 4 := by
    simp only [List.mem_cons, List.not_mem_nil, or_false] at hx
    rcases hx with rfl | rfl
    · exact ⟨_, rfl, p4.2⟩
    · exact ⟨_, rfl, by rw [gp.place.1]; omega⟩
  have h1 := op_loop (s := s) (p := p) (q := q) (mu := m1) gq its [] none (by simp; omega)
  rw [List.nil_append] at h1
  obtain ⟨it0, hit0⟩ : ∃ it0 rest, p.items = it0 :: rest := by
    match h : p.items, p4.1 with
    | a :: r, _ => exact ⟨a, r, rfl⟩
  obtain ⟨rest, hit0⟩ := hit0
  let more : List D := q.items.map fun y => pr2 y.2 it0.2
  let fnd : List D := its.flatMap (opX (q.items ++ q.places))
  have hml : more.length = q.items.length := List.length_map ..
  have hfl : fnd.length ≤ 24 := by
    have h6 := gq.all
    have := flat_len (f := opX (q.items ++ q.places)) (k := 6) its fun x hx => by unfold opX; rw [List.length_map]; omega
    show (its.flatMap _).length ≤ 24
    omega
  have hall : ∀ x ∈ fnd ++ more, ∃ a b, x = pr2 a b := fun x hx => by
    rcases List.mem_append.mp hx with h | h
    · obtain ⟨y, _, h⟩ := List.mem_flatMap.mp h
      obtain ⟨z, _, e⟩ := List.mem_map.mp h
      exact ⟨_, _, e.symm⟩
    · obtain ⟨z, _, e⟩ := List.mem_map.mp h
      exact ⟨_, _, e.symm⟩
  have hc : loopC (asgN 6) tYesM (aThen gTup (aCons (eBin gIx (eVar 6) (eC (.int 1))) (aCons (eBin gIx (eBin gIx (eBin gIx (eVar 1) (eC (.int 1))) (eC (.int 0))) (eC (.int 1))) aNil))) [] (q.items.map itemD) [some (.ref s), some (procD p), some (procD q), some (.fl fnd), none, none, none] m1 = .ok more m1 :=
    loopC_map' fun y hy => ⟨[some (.ref s), some (procD p), some (procD q), some (.fl fnd), none, none, some (itemD y)], rfl, rfl, by
      have s2 : (2 : Nat) ≤ sizeLine := by decide
      have q1 := procD_items (p := p) (mu := m1)
      rw [hit0] at q1
      simp [gTup_ok, s2, pr2, itemD_one, q1]⟩
  have hga := gAdd_fl (xs := fnd) (ys := more) (mu := m1) (by rw [sizeLine_eq]; omega)
  obtain ⟨ys, m2, e2, n2', p2⟩ := shufD_ok (d := .fl (fnd ++ more)) (n1.at_ A) rfl (by rw [List.length_append]; omega) (flats_clo _ (flats_of fun d hd => by
    obtain ⟨a, b, e⟩ := hall d hd
    rw [e]; rfl))
  have n2 := n1.trans n2'
  obtain ⟨ps, rfl⟩ := pr2s fun x hx => hall x (p2.mem_iff.mp hx)
  have hpl : 1 ≤ ps.length := by
    have := p2.length_eq
    rw [List.length_map, List.length_append] at this
    omega
  obtain ⟨ab, pr, rfl⟩ : ∃ ab r, ps = ab :: r := by
    match ps, hpl with
    | a :: r, _ => exact ⟨a, r, rfl⟩
  obtain ⟨a, b⟩ := ab
  let fs : List D := pr2 a b :: (pr.take 6).map fun p => pr2 p.1 p.2
  have hfs : fs.length ≤ 7 := by
    show (_ :: List.map _ _).length ≤ 7
    rw [List.length_cons, List.length_map, List.length_take]; omega
  have sl : gSl (.fl (pr2 a b :: pr.map fun p => pr2 p.1 p.2)) none (some 7) m2 = .ok (.fl fs) m2 := by
    rw [show (7 : Int) = ((7 : Nat) : Int) from rfl, gSl_fl_take]
    show R.ok (D.fl (pr2 a b :: (pr.map fun p => pr2 p.1 p.2).take 6)) m2 = R.ok (D.fl (pr2 a b :: (pr.take 6).map fun p => pr2 p.1 p.2)) m2
    rw [List.map_take]
  have hgb := gAdd_fl (xs := fs) (ys := opMore a b) (mu := m2) (by
    have : (opMore a b).length = 6 := rfl
    rw [sizeLine_eq]; omega)
  refine ⟨fs ++ opMore a b, m2, ?_, n2, ?_, fun f hf => ?_⟩
  · have s0 : (0 : Nat) ≤ sizeLine := by decide
    have s1 : (1 : Nat) ≤ sizeLine := by decide
    have s2 : (2 : Nat) ≤ sizeLine := by decide
    have s6 : (6 : Nat) ≤ sizeLine := by decide
    have q1 := procD_items (p := p) (mu := mu)
    have q2 := procD_places (p := p) (mu := mu)
    have q3 := procD_items (p := q) (mu := m1)
    have e1 : dOneOf [.ref s, .fl [.tup (p.items.map itemD), .tup (p.places.map itemD)]] mu = .ok (.vl (.tup (its.map itemD))) m1 := e1
    have ix0 : gIx (.fl fs) (.int 0) m2 = .ok (pr2 a b) m2 := by show gIx (.fl (pr2 a b :: _)) _ _ = _; simp
    have c1 : gSl (pr2 a b) none (some 1) m2 = .ok (.tup [.str a]) m2 := by
      show gSl (.tup [.str a, .str b]) none (some ((1 : Nat) : Int)) m2 = _
      rw [gSl_tup, cutD_take]; rfl
    have c2 : gAdd (pr2 a b) (.tup [.str a]) m2 = .ok (.tup [.str a, .str b, .str a]) m2 := gAdd_tup (by show 2 + 1 ≤ sizeLine; decide)
    have c3 : gIx (pr2 a b) (.int 0) m2 = .ok (.str a) m2 := by simp [pr2]
    have er : r__law_other_pairs dOneOf shufD = (sSeq (sSet 3 (eFl (aList aNil)))
  (sSeq (sFor (eWalk (eCall (lenD 2 dOneOf) (aCons (eVar 0) (aCons (eFl (aList (aCons (eBin gIx (eVar 1) (eC (.int 1))) (aCons (eBin gIx (eVar 1) (eC (.int 3))) aNil)))) aNil)))) (asgN 4) opBody [4])
  (sSeq (sSet 3 (eSl (eCall (lenD 2 shufD) (aCons (eVar 0) (aCons (eBin gAdd (eVar 3) (eFl (fComp (eWalk (eBin gIx (eVar 2) (eC (.int 1)))) (asgN 6) tYesM (aThen gTup (aCons (eBin gIx (eVar 6) (eC (.int 1))) (aCons (eBin gIx (eBin gIx (eBin gIx (eVar 1) (eC (.int 1))) (eC (.int 0))) (eC (.int 1))) aNil))) [6]))) aNil))) oNone (oSome (eC (.int 7)))))
  (sSeq (sSet 5 (eBin gIx (eVar 3) (eC (.int 0))))
  (sRet (eBin gAdd (eVar 3) (eFl (aList (aCons (eSl (eVar 5) oNone (oSome (eC (.int 1)))) (aCons (eBin gAdd (eVar 5) (eSl (eVar 5) oNone (oSome (eC (.int 1))))) (aCons (eBin gIx (eVar 5) (eC (.int 0))) (aCons (eC (.int 0)) (aCons (aThen gTup aNil) (aCons (aThen gTup (aCons (eBin gIx (eVar 5) (eC (.int 0))) (aCons (eC (.int 0)) aNil))) aNil)))))))))))))) := rfl
    refine noX_ok ?_
    rw [er]
    have h1 : loopF (asgN 4) opBody [4] [] (its.map itemD) [some (.ref s), some (procD p), some (procD q), some (.fl []), none, none, none] m1 = .ok (.nx [some (.ref s), some (procD p), some (procD q), some (.fl fnd), none, none, none]) m1 := h1
    have e2 : shufD [.ref s, .fl (fnd ++ more)] m1 = .ok (.fr (pr2 a b :: pr.map fun p => pr2 p.1 p.2)) m2 := e2
    generalize fs = FS at sl hgb ix0 ⊢
    generalize fnd = FN at h1 hc hga e2
    generalize more = MR at hc hga e2
    unfold opMore at hgb ⊢
    generalize p.items.map itemD = PI at q1 e1
    generalize p.places.map itemD = PP at q2 e1
    generalize q.items.map itemD = QI at q3 hc
    generalize its.map itemD = TI at h1 e1
    generalize hAB : pr2 a b = AB at *
    simp [startE, q1, q2, e1, s2, h1, q3, noX_ok hc, hga, e2, sl, ix0, c1, c2, c3, gTup_ok, s0, s6, hgb]
  · have : (opMore a b).length = 6 := rfl
    rw [List.length_append]; omega
  · rcases List.mem_append.mp hf with h | h
    · rcases List.mem_cons.mp h with h | h
      · rw [h]; exact pdB_ok 3 _ rfl
      · obtain ⟨z, _, e⟩ := List.mem_map.mp h
        rw [← e]; exact pdB_ok 3 _ rfl
    · exact pds_of (by rfl) f h
end K06
namespace K06
open PySem L2 PyProof.Rows MP
theorem Pd.mono : ∀ {n m : Nat} {d : D}, Pd n d → n ≤ m → Pd m d := fun {n} => by
  induction n with
  | zero =>
    intro m d h hm
    match d, h with
    | .int i, _ => exact Pd.int i
    | .str z, _ => exact Pd.str z
  | succ n ih =>
    intro m d h hm
    match d, h with
    | .int i, _ => exact Pd.int i
    | .str z, _ => exact Pd.str z
    | .tup xs, h =>
      match m, hm with
      | m + 1, hm => exact Pd.tup h.1 fun x hx => ih (h.2 x hx) (by omega)
theorem pd_flat : ∀ {n : Nat} {d : D}, Pd n d → flat d = true := fun {n} => by
  induction n with
  | zero =>
    intro d h
    match d, h with
    | .int i, _ => rfl
    | .str z, _ => rfl
  | succ n ih =>
    intro d h
    match d, h with
    | .int i, _ => rfl
    | .str z, _ => rfl
    | .tup xs, h => exact flats_of fun x hx => ih (h.2 x hx)
/-- what _law_data asks of the claim -/
structure DataIn (c : D) (C : List D) (pn qn : Str) : Prop where
  tup : c = .tup C
  len : C.length = 6
  pd : ∀ x ∈ C, Pd 6 x
  c0 : C[0]? = some (.str pn)
  c1 : C[1]? = some (.str qn)
  part : ∀ k : Nat, 2 ≤ k → k < 6 → ∃ xs : List D, C[k]? = some (.tup xs) ∧ xs.length ≤ 16 ∧ ∀ x ∈ xs, Pd 5 x
section
variable {c : D} {C : List D} {pn qn : Str}
theorem DataIn.wth (h : DataIn c C pn qn) {k : Nat} {d : D} {mu : List MO} (hd : Pd 6 d) : ∃ x, den__law_with [c, .int (k : Int), d] mu = .ok (.vl x) mu ∧ Pd 7 x := by
  refine ⟨_, by rw [h.tup]; exact with_ok (by rw [h.len]; decide), Pd.tup ?_ fun x hx => ?_⟩
  · simp only [List.length_append, List.length_take, List.length_drop, h.len, List.length_singleton]; omega
  · rcases List.mem_append.mp hx with z | z
    · rcases List.mem_append.mp z with z | z
      · exact h.pd x (List.mem_of_mem_take z)
      · rw [List.mem_singleton.mp z]; exact hd
    · exact h.pd x (List.mem_of_mem_drop z)
theorem DataIn.ix (h : DataIn c C pn qn) {k : Nat} {d : D} {mu : List MO} (e : C[k]? = some d) : gIx c (.int (k : Int)) mu = .ok d mu := by rw [h.tup, gIx_tup]; exact ixD_nat e
theorem DataIn.take (h : DataIn c C pn qn) {k : Nat} {mu : List MO} : gSl c none (some (k : Int)) mu = .ok (.tup (C.take k)) mu := by rw [h.tup, gSl_tup, cutD_take]
theorem DataIn.drop (h : DataIn c C pn qn) {k : Nat} {mu : List MO} : gSl c (some (k : Int)) none mu = .ok (.tup (C.drop k)) mu := by rw [h.tup, gSl_tup, cutD_drop]
/-- one found more -/
theorem wstep {s n : Nat} {cs : List Int} {env : MP.Env} {ek ed : MP.Env → M D} {mu2 m' : List MO} {found : List D} {k : Nat} {d : D} (W : DataIn c C pn qn) (A : At s cs mu2) (hn : n = mu2.length) (h6 : env[6]? = some (some (.ref n))) (h3 : env[3]? = some (some c))
    (hk : ek env (mu2 ++ [.lst found]) = .ok (.int (k : Int)) (mu2 ++ [.lst found])) (hd : ed env (mu2 ++ [.lst found]) = .ok d m') (N : Nx s cs (mu2 ++ [.lst found]) m') (pd : Pd 6 d) (hl : found.length < 1000) :
    ∃ mu3 x, sExpr (eMeth lstK gAppend (eVar 6) (aCons (eCall (lenD 3 den__law_with) (aCons (eVar 3) (aCons ek (aCons ed aNil)))) aNil)) env (mu2 ++ [.lst found]) = .ok (.nx env) (mu3 ++ [.lst (found ++ [x])]) ∧ Nx s cs mu2 mu3 ∧ Pd 7 x := by
  obtain ⟨mu3, rfl, nn⟩ := Nx.app A N
  obtain ⟨x, hx, px⟩ := W.wth (k := k) (mu := mu3 ++ [.lst found]) pd
  refine ⟨mu3, x, ?_, nn, px⟩
  have hg := get_last (x := .lst found) hn
  have hg' := get_last (x := .lst found) (mu1 := mu3) (k := n) (by rw [nn.len]; exact hn)
  have ha := append_ok (d := x) hg' (by rw [sizeLine_eq]; omega)
  rw [set_last (by rw [nn.len]; exact hn)] at ha
  simp [h6, h3, lstK_ref hg, hk, hd, hx, ha]
/-- a walk that finds one more at each turn -/
def Fnd (s n : Nat) (cs : List Int) (mu0 : List MO) (pre : List (Option D)) (b : Nat) (k : Nat) (env : MP.Env) (m : List MO) : Prop := ∃ (o8 o9 o10 : Option D) (mu2 : List MO) (found : List D), env = pre ++ [o8, o9, o10] ∧ m = mu2 ++ [.lst found] ∧ Nx s cs mu0 mu2 ∧ found.length + b * k ≤ 100 ∧ ∀ x ∈ found, Pd 7 x
theorem all_snoc {P : D → Prop} {found : List D} {x : D} (h : ∀ y ∈ found, P y) (hx : P x) : ∀ y ∈ found ++ [x], P y := fun y hy => by
  rcases List.mem_append.mp hy with z | z
  · exact h y z
  · rw [List.mem_singleton.mp z]; exact hx
noncomputable abbrev dMore : List D → M Rv := den__law_more den__law_draw
noncomputable def ap (ek ed : MP.Env → M D) : MP.Env → M Fl := sExpr (eMeth lstK gAppend (eVar 6) (aCons (eCall (lenD 3 den__law_with) (aCons (eVar 3) (aCons ek (aCons ed aNil)))) aNil))
/-- the two loops with other forms and other pairs -/
theorem other_turn {i j : Nat} {iv : Nat} {s n : Nat} {cs : List Int} {mu0 : List MO} {L R P Q NS f : D} {o8 : Option D} {o9 o10 : Option D} {mu2 : List MO} {found : List D} (W : DataIn c C pn qn) (A : At s cs mu0) (N : Nx s cs mu0 mu2) (hn : n = mu0.length) (hi : 2 ≤ i ∧ i < 6) (hj : 2 ≤ j ∧ j < 6) (pf : Pd 5 f)
    (hv : [some (D.ref s), some L, some R, some c, some P, some Q, some (.ref n), some NS, none, o9, o10][iv]? = some (some f)) (hiv : iv = 9 ∨ iv = 10) (hl : found.length < 1000) :
    ∃ (v : D) (mu3 : List MO) (x : D), sSeq (sSet 8 (eBin gIx (eFl (aList (aCons (eC (.int (i : Int))) (aCons (eC (.int (j : Int))) aNil)))) (eCall (lenD 2 den__law_draw) (aCons (eVar 0) (aCons (eC (.int 2)) aNil)))))
      (ap (eVar 8) (eCall (lenD 3 dMore) (aCons (eVar 0) (aCons (eBin gIx (eVar 3) (eVar 8)) (aCons (eVar iv) aNil))))) [some (.ref s), some L, some R, some c, some P, some Q, some (.ref n), some NS, o8, o9, o10] (mu2 ++ [.lst found]) = .ok (.nx [some (.ref s), some L, some R, some c, some P, some Q, some (.ref n), some NS, some v, o9, o10]) (mu3 ++ [.lst (found ++ [x])]) ∧ Nx s cs mu2 mu3 ∧ Pd 7 x := by
  have A2 := N.at_ A
  obtain ⟨d, m1, e1, n1, d0, d2⟩ := draw_at (most := 2) (A2.app [.lst found]) (by decide) (by decide)
  obtain ⟨mu2a, rfl, n1a⟩ := Nx.app A2 n1
  obtain ⟨k, hk2, hk6, hix⟩ : ∃ k : Nat, 2 ≤ k ∧ k < 6 ∧ ∀ m, gIx (.fl [.int (i : Int), .int (j : Int)]) (.int d) m = .ok (.int (k : Int)) m := by
    rcases (by omega : d = 0 ∨ d = 1) with rfl | rfl
    · exact ⟨i, hi.1, hi.2, fun m => by simp⟩
    · exact ⟨j, hj.1, hj.2, fun m => by simp⟩
  obtain ⟨xs, hx, hxl, hxs⟩ := W.part k hk2 hk6
  have A3 := n1a.at_ A2
  obtain ⟨t, m2, e2, n2⟩ := more_ok (xs := xs) (d := f) (A3.app [.lst found]) (by omega)
  have e2 : dMore [.ref s, .tup xs, f] (mu2a ++ [.lst found]) = .ok (.vl (.tup ((xs.take t ++ [f]) ++ xs.drop t))) m2 := e2
  have pd : Pd 6 (.tup ((xs.take t ++ [f]) ++ xs.drop t)) := Pd.tup (by simp only [List.length_append, List.length_take, List.length_drop, List.length_singleton]; omega) fun x hx => by
    rcases List.mem_append.mp hx with z | z
    · rcases List.mem_append.mp z with z | z
      · exact hxs x (List.mem_of_mem_take z)
      · rw [List.mem_singleton.mp z]; exact pf
    · exact hxs x (List.mem_of_mem_drop z)
  have hcx := fun m => W.ix (mu := m) hx
  have hed : (eCall (lenD 3 dMore) (aCons (eVar 0) (aCons (eBin gIx (eVar 3) (eVar 8)) (aCons (eVar iv) aNil)))) [some (.ref s), some L, some R, some c, some P, some Q, some (.ref n), some NS, some (.int (k : Int)), o9, o10] (mu2a ++ [.lst found]) = .ok (.tup ((xs.take t ++ [f]) ++ xs.drop t)) m2 := by
    have hv' : [some (D.ref s), some L, some R, some c, some P, some Q, some (.ref n), some NS, some (.int (k : Int)), o9, o10][iv]? = some (some f) := by
      rcases hiv with rfl | rfl <;> exact hv
    generalize (xs.take t ++ [f]) ++ xs.drop t = T at e2 ⊢
    have hvv := fun m => eVar_get (mu := m) hv'
    simp [hcx, hvv, e2, -eVar_ap, eVar_get]
  obtain ⟨mu3, x, e3, n3, px⟩ := wstep (n := n) (k := k) (ek := eVar 8) (env := [some (.ref s), some L, some R, some c, some P, some Q, some (.ref n), some NS, some (.int (k : Int)), o9, o10]) W A3 (by rw [n1a.len, N.len]; exact hn) rfl rfl (by simp) hed n2 pd hl
  refine ⟨.int (k : Int), mu3, x, ?_, n1a.trans n3, px⟩
  have s2 : (2 : Nat) ≤ sizeLine := by decide
  have e3 : ap (eVar 8) _ _ _ = _ := e3
  generalize ap (eVar 8) (eCall (lenD 3 dMore) (aCons (eVar 0) (aCons (eBin gIx (eVar 3) (eVar 8)) (aCons (eVar iv) aNil)))) = B at e3 ⊢
  simp [s2, e1, hix, e3]
end
end K06
namespace K06
open PySem L2 PyProof.Rows MP
theorem gAdd_ref {n : Nat} {xs ys : List D} {mu : List MO} (h : mu[n]? = some (.lst xs)) (hl : xs.length + ys.length ≤ sizeLine) : gAdd (.ref n) (.fl ys) mu = .ok (.fl (xs ++ ys)) mu := by
  show ((rdM (.ref n) : M (List D)) >>= fun xs => (rdM (.fl ys) : M (List D)) >>= fun ys => (need (xs.length + ys.length ≤ sizeLine) : M Unit) >>= fun _ => (pure (.fl (xs ++ ys)) : M D)) mu = _
  have e1 : (rdM (.ref n) : M (List D)) mu = .ok xs mu := by rw [rdM_ref, atL_ap, h]; rfl
  rw [bind_ap, e1]
  show ((rdM (.fl ys) : M (List D)) >>= fun ys => (need (xs.length + ys.length ≤ sizeLine) : M Unit) >>= fun _ => (pure (.fl (xs ++ ys)) : M D)) mu = _
  rw [bind_ap, rdM_fl]
  show ((need (xs.length + ys.length ≤ sizeLine) : M Unit) >>= fun _ => (pure (.fl (xs ++ ys)) : M D)) mu = _
  rw [bind_ap, need_ap, if_pos hl]; rfl
theorem loop_found {asg : D → MP.Env → M MP.Env} {body : MP.Env → M Fl} {fg : List Nat} {s b bound : Nat} {cs : List Int} {pre : List (Option D)} {mu0 : List MO} (A : At s cs mu0) (hb : bound ≤ 100) : ∀ (ds : List D) (o8 o9 o10 : Option D) (mu2 : List MO) (found : List D),
    (∀ d ∈ ds, ∀ (o8 o9 o10 : Option D) (mu2 : List MO) (found : List D), Nx s cs mu0 mu2 → found.length + b ≤ bound → (∀ x ∈ found, Pd 7 x) → ∃ env1 o8' o9' o10' mu3 found', asg d (wipeE (pre ++ [o8, o9, o10]) fg) (mu2 ++ [.lst found]) = .ok env1 (mu2 ++ [.lst found]) ∧ body env1 (mu2 ++ [.lst found]) = .ok (.nx (pre ++ [o8', o9', o10'])) (mu3 ++ [.lst found']) ∧ Nx s cs mu2 mu3 ∧ found'.length ≤ found.length + b ∧ ∀ x ∈ found', Pd 7 x) →
    Nx s cs mu0 mu2 → found.length + b * ds.length ≤ bound → (∀ x ∈ found, Pd 7 x) →
    ∃ o8' o9' o10' mu3 found', loopF asg body fg [] ds (pre ++ [o8, o9, o10]) (mu2 ++ [.lst found]) = .ok (.nx (wipeE (pre ++ [o8', o9', o10']) fg)) (mu3 ++ [.lst found']) ∧ Nx s cs mu2 mu3 ∧ found'.length ≤ bound ∧ ∀ x ∈ found', Pd 7 x
  | [], o8, o9, o10, mu2, found, _, N, hl, hp => ⟨o8, o9, o10, mu2, found, loopF_nil, .refl (N.at_ A), by simpa using hl, hp⟩
  | d :: ds, o8, o9, o10, mu2, found, hst, N, hl, hp => by
    rw [List.length_cons, Nat.mul_add, Nat.mul_one] at hl
    obtain ⟨env1, p8, p9, p10, mu3, fd, h1, h2, h3, h4, h5⟩ := hst d (by simp) o8 o9 o10 mu2 found N (by omega) hp
    obtain ⟨q8, q9, q10, mu4, fe, g1, g2, g3, g4⟩ := loop_found A hb ds p8 p9 p10 mu3 fd (fun x hx => hst x (by simp [hx])) (N.trans h3) (by omega) h5
    refine ⟨q8, q9, q10, mu4, fe, ?_, h3.trans g2, g3, g4⟩
    rw [loopF_step h1 h2]
    exact g1
section
variable {c : D} {C : List D} {pn qn : Str} {s n : Nat} {cs : List Int} {mu0 : List MO} {L R P Q : D}
theorem loopA (W : DataIn c C pn qn) (A : At s cs mu0) (hn : n = mu0.length) {ns found : List D} (h0 : 0 < ns.length) (h1 : ns.length < 1000) (hns : ∀ x ∈ ns, Pd 6 x) {mu2 : List MO} (N : Nx s cs mu0 mu2) (hl : found.length ≤ 10) (hp : ∀ x ∈ found, Pd 7 x) :
    ∃ o8' mu3 found', loopF (asgN 8) (sSeq (ap (eVar 8) (eCall (lenD 2 dOneOf) (aCons (eVar 0) (aCons (eVar 7) aNil)))) (ap (eVar 8) (eCall (lenD 2 dOneOf) (aCons (eVar 0) (aCons (eVar 7) aNil))))) [] [] (rngD 0 2) [some (.ref s), some L, some R, some c, some P, some Q, some (.ref n), some (.fl ns), none, none, none] (mu2 ++ [.lst found]) = .ok (.nx [some (.ref s), some L, some R, some c, some P, some Q, some (.ref n), some (.fl ns), o8', none, none]) (mu3 ++ [.lst found']) ∧ Nx s cs mu2 mu3 ∧ found'.length ≤ 20 ∧ ∀ x ∈ found', Pd 7 x := by
  obtain ⟨o8', mu3, fd, e, n3, h3, h4⟩ : ∃ o8' mu3 found', (∃ e' m', loopF (asgN 8) (sSeq (ap (eVar 8) (eCall (lenD 2 dOneOf) (aCons (eVar 0) (aCons (eVar 7) aNil)))) (ap (eVar 8) (eCall (lenD 2 dOneOf) (aCons (eVar 0) (aCons (eVar 7) aNil))))) [] [] (rngD 0 2) [some (.ref s), some L, some R, some c, some P, some Q, some (.ref n), some (.fl ns), none, none, none] (mu2 ++ [.lst found]) = .ok (.nx (wipeE e' [])) m' ∧ e' = [some (.ref s), some L, some R, some c, some P, some Q, some (.ref n), some (.fl ns), o8', none, none] ∧ m' = mu3 ++ [.lst found']) ∧ Nx s cs mu2 mu3 ∧ found'.length ≤ 20 ∧ ∀ x ∈ found', Pd 7 x := by
    obtain ⟨e', m', h, ⟨o8, mu3, fd, he, hm, n3, h3, h4⟩⟩ := loopF_inv (asg := asgN 8) (fg := []) (body := (sSeq (ap (eVar 8) (eCall (lenD 2 dOneOf) (aCons (eVar 0) (aCons (eVar 7) aNil)))) (ap (eVar 8) (eCall (lenD 2 dOneOf) (aCons (eVar 0) (aCons (eVar 7) aNil)))))) (ds := rngD 0 2)
      (I := fun k env m => ∃ (o8 : Option D) (mu3 : List MO) (fd : List D), env = [some (.ref s), some L, some R, some c, some P, some Q, some (.ref n), some (.fl ns), o8, none, none] ∧ m = mu3 ++ [.lst fd] ∧ Nx s cs mu2 mu3 ∧ fd.length + 2 * k ≤ 20 ∧ ∀ x ∈ fd, Pd 7 x)
      (env := [some (.ref s), some L, some R, some c, some P, some Q, some (.ref n), some (.fl ns), none, none, none]) (mu := mu2 ++ [.lst found])
      (fun d hd k env m ⟨o8, mu3, fd, he, hm, n3, h3, h4⟩ => by
        subst he hm
        obtain ⟨i, hi, rfl⟩ := rng_mem hd
        have A2 := N.at_ A
        have A3 := n3.at_ A2
        have l3 : mu3.length = mu0.length := by rw [n3.len, N.len]
        obtain ⟨x, m1, e1, n1, hx⟩ := one_of_at (xs := ns) (A3.app [.lst fd]) h0 h1
        have e1 : dOneOf [.ref s, .fl ns] (mu3 ++ [.lst fd]) = .ok (.vl x) m1 := e1
        obtain ⟨mu4, y, e2, n4, py⟩ := wstep (n := n) (k := i) (ek := eVar 8) (ed := eCall (lenD 2 dOneOf) (aCons (eVar 0) (aCons (eVar 7) aNil))) (env := [some (.ref s), some L, some R, some c, some P, some Q, some (.ref n), some (.fl ns), some (.int (i : Int)), none, none]) W A3 (by rw [l3]; exact hn) rfl rfl (by simp) (by simp [e1]) n1 (hns x hx) (by omega)
        have A4 := n4.at_ A3
        obtain ⟨x', m2, e1', n1', hx'⟩ := one_of_at (xs := ns) (A4.app [.lst (fd ++ [y])]) h0 h1
        have e1' : dOneOf [.ref s, .fl ns] (mu4 ++ [.lst (fd ++ [y])]) = .ok (.vl x') m2 := e1'
        obtain ⟨mu5, z, e3, n5, pz⟩ := wstep (n := n) (k := i) (ek := eVar 8) (ed := eCall (lenD 2 dOneOf) (aCons (eVar 0) (aCons (eVar 7) aNil))) (env := [some (.ref s), some L, some R, some c, some P, some Q, some (.ref n), some (.fl ns), some (.int (i : Int)), none, none]) W A4 (by rw [n4.len, l3]; exact hn) rfl rfl (by simp) (by rw [eCall_ap]; simp [-List.append_assoc, e1']) n1' (hns x' hx') (by rw [List.length_append, List.length_singleton]; omega)
        refine ⟨[some (.ref s), some L, some R, some c, some P, some Q, some (.ref n), some (.fl ns), some (.int (i : Int)), none, none], [some (.ref s), some L, some R, some c, some P, some Q, some (.ref n), some (.fl ns), some (.int (i : Int)), none, none], mu5 ++ [.lst ((fd ++ [y]) ++ [z])], rfl, ?_, ⟨_, mu5, _, rfl, rfl, (n3.trans n4).trans n5, by simp only [List.length_append, List.length_singleton]; omega, all_snoc (all_snoc h4 py) pz⟩⟩
        have e2 : ap (eVar 8) (eCall (lenD 2 dOneOf) (aCons (eVar 0) (aCons (eVar 7) aNil))) _ _ = _ := e2
        have e3 : ap (eVar 8) (eCall (lenD 2 dOneOf) (aCons (eVar 0) (aCons (eVar 7) aNil))) _ _ = _ := e3
        rw [sSeq_ap, bind_ok e2]
        exact e3) ⟨none, mu2, found, rfl, rfl, .refl (N.at_ A), by rw [rngD_len]; omega, hp⟩
    exact ⟨o8, mu3, fd, ⟨e', m', h, he, hm⟩, n3, by omega, h4⟩
  obtain ⟨e', m', h, rfl, rfl⟩ := e
  exact ⟨o8', mu3, fd, h, n3, h3, h4⟩
theorem loopB (W : DataIn c C pn qn) (A : At s cs mu0) (hn : n = mu0.length) {NS : D} {fs found : List D} (hfs : ∀ x ∈ fs, Pd 5 x) {mu2 : List MO} {o8 o9 : Option D} (N : Nx s cs mu0 mu2) (hl : found.length + fs.length ≤ 60) (hp : ∀ x ∈ found, Pd 7 x) :
    ∃ o8' mu3 found', loopF (asgN 9) (sSeq (sSet 8 (eBin gIx (eFl (aList (aCons (eC (.int 2)) (aCons (eC (.int 4)) aNil)))) (eCall (lenD 2 den__law_draw) (aCons (eVar 0) (aCons (eC (.int 2)) aNil))))) (ap (eVar 8) (eCall (lenD 3 dMore) (aCons (eVar 0) (aCons (eBin gIx (eVar 3) (eVar 8)) (aCons (eVar 9) aNil)))))) [9] [] fs [some (.ref s), some L, some R, some c, some P, some Q, some (.ref n), some NS, o8, o9, none] (mu2 ++ [.lst found]) = .ok (.nx [some (.ref s), some L, some R, some c, some P, some Q, some (.ref n), some NS, o8', none, none]) (mu3 ++ [.lst found']) ∧ Nx s cs mu2 mu3 ∧ found'.length ≤ found.length + fs.length ∧ ∀ x ∈ found', Pd 7 x := by
  induction fs generalizing o8 o9 mu2 found with
  | nil => exact ⟨o8, mu2, found, loopF_nil, .refl (N.at_ A), by simp, hp⟩
  | cons f fs ih =>
    rw [List.length_cons] at hl
    obtain ⟨v, mu3, x, e1, n3, px⟩ := other_turn (i := 2) (j := 4) (iv := 9) (n := n) (L := L) (R := R) (P := P) (Q := Q) (NS := NS) (f := f) (o8 := o8) (o9 := some f) (o10 := none) (found := found) W A N hn (by omega) (by omega) (hfs f (by simp)) rfl (.inl rfl) (by omega)
    obtain ⟨o8', mu4, fd, e2, n4, h4, h5⟩ := ih (fun y hy => hfs y (by simp [hy])) (o8 := some v) (o9 := some f) (N.trans n3) (found := found ++ [x]) (by rw [List.length_append, List.length_singleton]; omega) (all_snoc hp px)
    refine ⟨o8', mu4, fd, ?_, n3.trans n4, by rw [List.length_append, List.length_singleton] at h4; rw [List.length_cons]; omega, h5⟩
    exact (loopF_step (env1 := [some (.ref s), some L, some R, some c, some P, some Q, some (.ref n), some NS, o8, some f, none]) rfl e1).trans e2
theorem loopC' (W : DataIn c C pn qn) (A : At s cs mu0) (hn : n = mu0.length) {NS : D} {fs found : List D} (hfs : ∀ x ∈ fs, Pd 5 x) {mu2 : List MO} {o8 o10 : Option D} (N : Nx s cs mu0 mu2) (hl : found.length + fs.length ≤ 80) (hp : ∀ x ∈ found, Pd 7 x) :
    ∃ o8' mu3 found', loopF (asgN 10) (sSeq (sSet 8 (eBin gIx (eFl (aList (aCons (eC (.int 3)) (aCons (eC (.int 5)) aNil)))) (eCall (lenD 2 den__law_draw) (aCons (eVar 0) (aCons (eC (.int 2)) aNil))))) (ap (eVar 8) (eCall (lenD 3 dMore) (aCons (eVar 0) (aCons (eBin gIx (eVar 3) (eVar 8)) (aCons (eVar 10) aNil)))))) [10] [] fs [some (.ref s), some L, some R, some c, some P, some Q, some (.ref n), some NS, o8, none, o10] (mu2 ++ [.lst found]) = .ok (.nx [some (.ref s), some L, some R, some c, some P, some Q, some (.ref n), some NS, o8', none, none]) (mu3 ++ [.lst found']) ∧ Nx s cs mu2 mu3 ∧ found'.length ≤ found.length + fs.length ∧ ∀ x ∈ found', Pd 7 x := by
  induction fs generalizing o8 o10 mu2 found with
  | nil => exact ⟨o8, mu2, found, loopF_nil, .refl (N.at_ A), by simp, hp⟩
  | cons f fs ih =>
    rw [List.length_cons] at hl
    obtain ⟨v, mu3, x, e1, n3, px⟩ := other_turn (i := 3) (j := 5) (iv := 10) (n := n) (L := L) (R := R) (P := P) (Q := Q) (NS := NS) (f := f) (o8 := o8) (o9 := none) (o10 := some f) (found := found) W A N hn (by omega) (by omega) (hfs f (by simp)) rfl (.inr rfl) (by omega)
    obtain ⟨o8', mu4, fd, e2, n4, h4, h5⟩ := ih (fun y hy => hfs y (by simp [hy])) (o8 := some v) (o10 := some f) (N.trans n3) (found := found ++ [x]) (by rw [List.length_append, List.length_singleton]; omega) (all_snoc hp px)
    refine ⟨o8', mu4, fd, ?_, n3.trans n4, by rw [List.length_append, List.length_singleton] at h4; rw [List.length_cons]; omega, h5⟩
    exact (loopF_step (env1 := [some (.ref s), some L, some R, some c, some P, some Q, some (.ref n), some NS, o8, none, some f]) rfl e1).trans e2
noncomputable def v82 : MP.Env → M D := eBin gAdd (eVar 8) (eC (.int 2))
noncomputable def dataOf : MP.Env → M D := eCall (lenD 2 dOneOf) (aCons (eVar 0) (aCons (eFl (aList (aCons (eC (.int 0)) (aCons (eC (.str "")) (aCons (eBin gIx (eVar 3) (eC (.int 0))) (aCons (aThen gTup (aCons (eC (.int 0)) aNil)) (aCons (aThen gTup aNil) (aCons (aThen gTup (aCons (eC (.str "")) aNil)) (aCons (aThen gTup (aCons (aThen gTup aNil) aNil)) aNil))))))))) aNil))
noncomputable def twice : MP.Env → M D := eBin gAdd (eBin gIx (eVar 3) v82) (eSl (eBin gIx (eVar 3) v82) oNone (oSome (eC (.int 1))))
theorem loopD (W : DataIn c C pn qn) (A : At s cs mu0) (hn : n = mu0.length) {NS : D} {found : List D} {mu2 : List MO} {o8 : Option D} (N : Nx s cs mu0 mu2) (hl : found.length ≤ 80) (hp : ∀ x ∈ found, Pd 7 x) :
    ∃ e' m' o8' mu3 found', loopF (asgN 8) (sSeq (ap v82 dataOf) (ap v82 twice)) [] [] (rngD 0 4) [some (.ref s), some L, some R, some c, some P, some Q, some (.ref n), some NS, o8, none, none] (mu2 ++ [.lst found]) = .ok (.nx e') m' ∧ e' = [some (.ref s), some L, some R, some c, some P, some Q, some (.ref n), some NS, o8', none, none] ∧ m' = mu3 ++ [.lst found'] ∧ Nx s cs mu2 mu3 ∧ found'.length ≤ 88 ∧ ∀ x ∈ found', Pd 7 x := by
  obtain ⟨e', m', h, ⟨o8, mu3, fd, he, hm, n3, h3, h4⟩⟩ := loopF_inv (asg := asgN 8) (fg := []) (body := sSeq (ap v82 dataOf) (ap v82 twice)) (ds := rngD 0 4)
    (I := fun k env m => ∃ (o8 : Option D) (mu3 : List MO) (fd : List D), env = [some (.ref s), some L, some R, some c, some P, some Q, some (.ref n), some NS, o8, none, none] ∧ m = mu3 ++ [.lst fd] ∧ Nx s cs mu2 mu3 ∧ fd.length + 2 * k ≤ 88 ∧ ∀ x ∈ fd, Pd 7 x)
    (env := [some (.ref s), some L, some R, some c, some P, some Q, some (.ref n), some NS, o8, none, none]) (mu := mu2 ++ [.lst found])
    (fun d hd k env m ⟨o8, mu3, fd, he, hm, n3, h3, h4⟩ => by
      subst he hm
      obtain ⟨i, hi, rfl⟩ := rng_mem hd
      have s0 : (0 : Nat) ≤ sizeLine := by decide
      have s1 : (1 : Nat) ≤ sizeLine := by decide
      have s7 : (7 : Nat) ≤ sizeLine := by decide
      have A2 := N.at_ A
      have A3 := n3.at_ A2
      have l3 : mu3.length = mu0.length := by rw [n3.len, N.len]
      let env1 : MP.Env := [some (.ref s), some L, some R, some c, some P, some Q, some (.ref n), some NS, some (.int (i : Int)), none, none]
      have hv : ∀ m, v82 env1 m = .ok (.int ((i + 2 : Nat) : Int)) m := fun m => by
        simp [v82, env1]
      let ds : List D := [.int 0, .str "", .str pn, .tup [.int 0], .tup [], .tup [.str ""], .tup [.tup []]]
      obtain ⟨x, m1, e1, n1, hx⟩ := one_of_at (xs := ds) (A3.app [.lst fd]) (by simp [ds]) (by simp [ds])
      have px : Pd 6 x := pds_of (n := 6) (xs := ds) (by rfl) x hx
      have c0 : ∀ m, gIx c (.int 0) m = .ok (.str pn) m := fun m => W.ix (k := 0) W.c0
      have hd1 : dataOf env1 (mu3 ++ [.lst fd]) = .ok x m1 := by
        have e1 : dOneOf [.ref s, .fl [.int 0, .str "", .str pn, .tup [.int 0], .tup [], .tup [.str ""], .tup [.tup []]]] (mu3 ++ [.lst fd]) = .ok (.vl x) m1 := e1
        simp [dataOf, env1, c0, gTup_ok, s0, s1, s7, e1]
      obtain ⟨mu4, y, e2, n4, py⟩ := wstep (n := n) (k := i + 2) (ek := v82) (ed := dataOf) (env := env1) W A3 (by rw [l3]; exact hn) rfl rfl (hv _) hd1 n1 px (by omega)
      have A4 := n4.at_ A3
      obtain ⟨xs, hxx, hxl, hxp⟩ := W.part (i + 2) (by omega) (by omega)
      have hcx := fun m => W.ix (mu := m) hxx
      have hd2 : twice env1 (mu4 ++ [.lst (fd ++ [y])]) = .ok (.tup (xs ++ xs.take 1)) (mu4 ++ [.lst (fd ++ [y])]) := by
        have sl : ∀ m, gSl (.tup xs) none (some 1) m = .ok (.tup (xs.take 1)) m := fun m => by rw [show (1 : Int) = ((1 : Nat) : Int) from rfl, gSl_tup, cutD_take]
        have ga : ∀ m, gAdd (.tup xs) (.tup (xs.take 1)) m = .ok (.tup (xs ++ xs.take 1)) m := fun m => gAdd_tup (by rw [List.length_take, sizeLine_eq]; omega)
        have h3 : ∀ m, eVar 3 env1 m = .ok c m := fun m => rfl
        unfold twice
        generalize xs.take 1 = X1 at sl ga ⊢
        generalize ((i + 2 : Nat) : Int) = KK at hv hcx
        simp [h3, hv, hcx, sl, ga, -eVar_ap, -gSl_tup]
      have pt : Pd 6 (.tup (xs ++ xs.take 1)) := Pd.tup (by rw [List.length_append, List.length_take]; omega) fun z hz => (List.mem_append.mp hz).elim (hxp z) fun h => hxp z (List.mem_of_mem_take h)
      obtain ⟨mu5, z, e3, n5, pz⟩ := wstep (n := n) (k := i + 2) (ek := v82) (ed := twice) (env := env1) W A4 (by rw [n4.len, l3]; exact hn) rfl rfl (hv _) hd2 (.refl (A4.app _)) pt (by rw [List.length_append, List.length_singleton]; omega)
      refine ⟨env1, env1, mu5 ++ [.lst ((fd ++ [y]) ++ [z])], rfl, ?_, ⟨_, mu5, _, rfl, rfl, (n3.trans n4).trans n5, by simp only [List.length_append, List.length_singleton]; omega, all_snoc (all_snoc h4 py) pz⟩⟩
      have e2 : ap v82 dataOf _ _ = _ := e2
      have e3 : ap v82 twice _ _ = _ := e3
      rw [sSeq_ap, bind_ok e2]
      exact e3) ⟨o8, mu2, found, rfl, rfl, .refl (N.at_ A), by rw [rngD_len]; omega, hp⟩
  exact ⟨_, m', o8, mu3, fd, h, he, hm, n3, by omega, h4⟩
end
end K06
namespace K06
open PySem L2 PyProof.Rows MP
theorem formP_pd {ns : List Str} {a : D} (h : FormP ns a) : Pd 3 a := by
  obtain ⟨i, qs, rfl, _, _, hl⟩ := h.ex
  refine Pd.tup (by simp) fun x hx => ?_
  simp only [List.mem_cons, List.not_mem_nil, or_false] at hx
  rcases hx with rfl | rfl
  · exact Pd.int i
  · refine Pd.tup (by rw [List.length_map]; omega) fun x hx => ?_
    obtain ⟨p, _, rfl⟩ := List.mem_map.mp hx
    exact pdB_ok 1 _ rfl
theorem claim_in {ls rs : List Pr} {d : D} (h : ClaimP ls rs d) : ∃ (C : List D) (p q : Pr), p ∈ ls ∧ q ∈ rs ∧ DataIn d C p.name q.name := by
  obtain ⟨p, q, gs, as, xs, ys, hp, hq, rfl, lg, la, lx, ly, hg, ha, nx, hx, ny, hy⟩ := h.ex
  have pg : ∀ x ∈ gs, Pd 5 x := fun x h => (formP_pd (hg x h)).mono (by omega)
  have pa : ∀ x ∈ as, Pd 5 x := fun x h => (formP_pd (ha x h)).mono (by omega)
  have px : ∀ x ∈ xs, Pd 5 x := fun x h => by
    obtain ⟨a, _, b, _, e⟩ := hx x h
    rw [e]; exact pdB_ok 5 _ rfl
  have py : ∀ x ∈ ys, Pd 5 x := fun x h => by
    obtain ⟨a, _, b, _, e⟩ := hy x h
    rw [e]; exact pdB_ok 5 _ rfl
  refine ⟨_, p, q, hp, hq, rfl, rfl, fun x h => ?_, rfl, rfl, fun k h1 h2 => ?_⟩
  · simp only [List.mem_cons, List.not_mem_nil, or_false] at h
    rcases h with rfl | rfl | rfl | rfl | rfl | rfl
    · exact Pd.str _
    · exact Pd.str _
    · exact Pd.tup (by omega) pg
    · exact Pd.tup (by omega) px
    · exact Pd.tup (by omega) pa
    · exact Pd.tup (by omega) py
  · rcases (by omega : k = 2 ∨ k = 3 ∨ k = 4 ∨ k = 5) with rfl | rfl | rfl | rfl
    · exact ⟨gs, rfl, by omega, pg⟩
    · exact ⟨xs, rfl, by omega, px⟩
    · exact ⟨as, rfl, by omega, pa⟩
    · exact ⟨ys, rfl, by omega, py⟩
noncomputable abbrev dDataOf : List D → M Rv := den__law_data den__law_named dOneOf den__law_with dOtherForms den__law_draw dMore dOtherPairs
noncomputable def dData : List D → M Rv := fgt dDataOf
theorem data_ok {s : Nat} {cs : List Int} {ls rs : List Pr} {c : D} {mu : List MO} (A : At s cs mu) (hc : CloH mu) (hl : ∀ p ∈ ls, GoodP p) (hr : ∀ p ∈ rs, GoodP p) (nl : (ls.map (·.name)).Nodup) (nr : (rs.map (·.name)).Nodup) (bl : ls.length ≤ 3) (br : rs.length ≤ 3) (hw : ∀ n ∈ ls.map (·.name), GoodW n) (h : ClaimP ls rs c) :
    ∃ (fs : List D) (mu' : List MO), dData [.ref s, coreD ls, coreD rs, c] mu = .ok (.vl (.fl fs)) mu' ∧ Nx s cs mu mu' ∧ ∀ f ∈ fs, Pd 8 f := by
  obtain ⟨C, p, q, hp, hq, W⟩ := claim_in h
  have gp := hl p hp
  have gq := hr q hq
  have s0 : (0 : Nat) ≤ sizeLine := by decide
  have s1 : (1 : Nat) ≤ sizeLine := by decide
  have s2 : (2 : Nat) ≤ sizeLine := by decide
  have s3 : (3 : Nat) ≤ sizeLine := by decide
  have s6 : (6 : Nat) ≤ sizeLine := by decide
  have s7 : (7 : Nat) ≤ sizeLine := by decide
  have hz : sizeLine = 16777216 := sizeLine_eq
  have c0 : ∀ m, gIx c (.int 0) m = .ok (.str p.name) m := fun m => W.ix (k := 0) W.c0
  have c1 : ∀ m, gIx c (.int 1) m = .ok (.str q.name) m := fun m => W.ix (k := 1) W.c1
  have k1 : ∀ m, den__law_named [coreD ls, .str p.name] m = .ok (.vl (procD p)) m := fun m => law_named_ok (find_of nl hp)
  have k2 : ∀ m, den__law_named [coreD rs, .str q.name] m = .ok (.vl (procD q)) m := fun m => law_named_ok (find_of nr hq)
  have t5 : ∀ m, gSl c none (some 5) m = .ok (.tup (C.take 5)) m := fun m => W.take (k := 5)
  have t2 : ∀ m, gSl c none (some 2) m = .ok (.tup (C.take 2)) m := fun m => W.take (k := 2)
  have d1 : ∀ m, gSl c (some 1) none m = .ok (.tup (C.drop 1)) m := fun m => W.drop (k := 1)
  have d2 : ∀ m, gSl c (some 2) none m = .ok (.tup (C.drop 2)) m := fun m => W.drop (k := 2)
  have hC := W.len
  have a1 : ∀ m, gAdd c (.tup [.tup []]) m = .ok (.tup (C ++ [.tup []])) m := fun m => by rw [W.tup]; exact gAdd_tup (by rw [hC]; decide)
  have pt5 : Pd 7 (.tup (C.take 5)) := Pd.tup (by rw [List.length_take]; omega) fun x hx => W.pd x (List.mem_of_mem_take hx)
  have pt2 : Pd 7 (.tup (C.take 2)) := Pd.tup (by rw [List.length_take]; omega) fun x hx => W.pd x (List.mem_of_mem_take hx)
  have pd1 : Pd 7 (.tup (C.drop 1)) := Pd.tup (by rw [List.length_drop]; omega) fun x hx => W.pd x (List.mem_of_mem_drop hx)
  have pa1 : Pd 7 (.tup (C ++ [.tup []])) := Pd.tup (by simp; omega) (all_snoc W.pd (pdB_ok 6 _ rfl))
  have pc : Pd 7 c := by rw [W.tup]; exact Pd.tup (by omega) W.pd
  -- the first found
  let f0 : List D := [.tup (C.take 5), .tup (C ++ [.tup []]), .tup (C.drop 1), .tup [], .int 0, .str p.name, .tup (C.take 2)]
  have pf0 : ∀ x ∈ f0, Pd 7 x := fun x hx => by
    simp only [f0, List.mem_cons, List.not_mem_nil, or_false] at hx
    rcases hx with rfl | rfl | rfl | rfl | rfl | rfl | rfl
    · exact pt5
    · exact pa1
    · exact pd1
    · exact pdB_ok 7 _ rfl
    · exact pdB_ok 7 _ rfl
    · exact Pd.str _
    · exact pt2
  have A0 : At s cs (mu ++ [.lst f0]) := A.app _
  -- the names
  have l1 : 0 < ls.length := List.length_pos_of_mem hp
  have r1 : 0 < rs.length := List.length_pos_of_mem hq
  obtain ⟨x, m1, e1, n1, hx⟩ := one_of_tup (xs := ls.map procD) A0 (by simpa using l1) (by simp; omega)
  obtain ⟨x, _, rfl⟩ := List.mem_map.mp hx
  obtain ⟨y, m2, e2, n2, hy⟩ := one_of_tup (xs := rs.map procD) (n1.at_ A0) (by simpa using r1) (by simp; omega)
  obtain ⟨y, _, rfl⟩ := List.mem_map.mp hy
  have e1 : dOneOf [.ref s, coreD ls] (mu ++ [.lst f0]) = .ok (.vl (procD x)) m1 := e1
  have e2 : dOneOf [.ref s, coreD rs] m1 = .ok (.vl (procD y)) m2 := e2
  obtain ⟨mu2, rfl, nn2⟩ := Nx.app A (n1.trans n2)
  have hap : ∀ m, gAdd (.str p.name) (.str "a") m = .ok (.str (p.name ++ "a")) m := fun m => cat_ok (by
    have := (hw p.name (List.mem_map_of_mem hp)).le
    have e : (Str.ofString "a").length = 1 := by decide +kernel
    rw [e]; omega)
  let n0 : List D := [.str (p.name ++ "a"), .str "", .int 3, .tup [.str p.name], .str q.name, .str p.name]
  let ns : List D := n0 ++ [.str x.name, .str y.name]
  have pns : ∀ x ∈ ns, Pd 6 x := pds_of (by rfl)
  have ga : ∀ m, gAdd (.fl n0) (.fl [.str x.name, .str y.name]) m = .ok (.fl ns) m := fun m => gAdd_fl (by show 6 + 2 ≤ sizeLine; decide)
  -- the loops
  obtain ⟨o8, mu3, fA, eA, nA, lA, pA⟩ := loopA (n := mu.length) (L := coreD ls) (R := coreD rs) (P := procD p) (Q := procD q) (found := f0) W A rfl (ns := ns) (by simp [ns, n0]) (by simp [ns, n0]) pns nn2 (by simp [f0]) pf0
  have n3 := nn2.trans nA
  obtain ⟨fs, m4, e4, n4', lf, pf⟩ := other_forms_ok (p := p) (q := q) ((n3.at_ A).app [.lst fA]) gp gq
  obtain ⟨mu4, rfl, nB0⟩ := Nx.app (n3.at_ A) n4'
  have n4 := n3.trans nB0
  obtain ⟨o8b, mu5, fB, eB, nB, lB, pB⟩ := loopB (n := mu.length) (L := coreD ls) (R := coreD rs) (P := procD p) (Q := procD q) (NS := .fl ns) (o8 := o8) (o9 := none) (found := fA) W A rfl (fs := fs) (fun x hx => (pf x hx).mono (by omega)) n4 (by omega) pA
  have n5 := n4.trans nB
  obtain ⟨gs, m6, e6, n6', lg, pg⟩ := other_pairs_ok (p := p) (q := q) ((n5.at_ A).app [.lst fB]) gp gq
  obtain ⟨mu6, rfl, nC0⟩ := Nx.app (n5.at_ A) n6'
  have n6 := n5.trans nC0
  obtain ⟨o8c, mu7, fC, eC', nC, lC, pC⟩ := loopC' (n := mu.length) (L := coreD ls) (R := coreD rs) (P := procD p) (Q := procD q) (NS := .fl ns) (o8 := o8b) (o10 := none) (found := fB) W A rfl (fs := gs) (fun x hx => (pg x hx).mono (by omega)) n6 (by omega) pB
  have n7 := n6.trans nC
  obtain ⟨e', m8, o8d, mu8, fD, eD, rfl, rfl, nD, lD, pD⟩ := loopD (n := mu.length) (L := coreD ls) (R := coreD rs) (P := procD p) (Q := procD q) (NS := .fl ns) (o8 := o8c) (found := fC) W A rfl n7 (by omega) pC
  have n8 := n7.trans nD
  -- the end
  obtain ⟨x2, hx2, _, px2⟩ := W.part 2 (by omega) (by omega)
  obtain ⟨x3, hx3, _, px3⟩ := W.part 3 (by omega) (by omega)
  obtain ⟨x4, hx4, _, px4⟩ := W.part 4 (by omega) (by omega)
  obtain ⟨x5, hx5, _, px5⟩ := W.part 5 (by omega) (by omega)
  have i2 : ∀ m, gIx c (.int 2) m = .ok (.tup x2) m := fun m => W.ix (k := 2) hx2
  have i3 : ∀ m, gIx c (.int 3) m = .ok (.tup x3) m := fun m => W.ix (k := 3) hx3
  have i4 : ∀ m, gIx c (.int 4) m = .ok (.tup x4) m := fun m => W.ix (k := 4) hx4
  have i5 : ∀ m, gIx c (.int 5) m = .ok (.tup x5) m := fun m => W.ix (k := 5) hx5
  have q2 : Pd 6 (.tup x2) := W.pd _ (List.mem_of_getElem? hx2)
  have q3 : Pd 6 (.tup x3) := W.pd _ (List.mem_of_getElem? hx3)
  have q4 : Pd 6 (.tup x4) := W.pd _ (List.mem_of_getElem? hx4)
  have q5 : Pd 6 (.tup x5) := W.pd _ (List.mem_of_getElem? hx5)
  obtain ⟨w1, hw1, pw1⟩ : ∃ x, (∀ m, den__law_with [c, .int 4, .tup x2] m = .ok (.vl x) m) ∧ Pd 7 x := by
    refine ⟨_, fun m => by rw [W.tup]; exact with_ok (k := 4) (by omega), ?_⟩
    obtain ⟨x, hx, px⟩ := W.wth (k := 4) (mu := []) q2
    rw [W.tup] at hx
    have := hx.symm.trans (with_ok (k := 4) (by omega))
    cases this; exact px
  obtain ⟨w2, hw2, pw2⟩ : ∃ x, (∀ m, den__law_with [c, .int 2, .tup x4] m = .ok (.vl x) m) ∧ Pd 7 x := by
    refine ⟨_, fun m => by rw [W.tup]; exact with_ok (k := 2) (by omega), ?_⟩
    obtain ⟨x, hx, px⟩ := W.wth (k := 2) (mu := []) q4
    rw [W.tup] at hx
    have := hx.symm.trans (with_ok (k := 2) (by omega))
    cases this; exact px
  obtain ⟨w3, hw3, pw3⟩ : ∃ x, (∀ m, den__law_with [c, .int 3, .tup x5] m = .ok (.vl x) m) ∧ Pd 7 x := by
    refine ⟨_, fun m => by rw [W.tup]; exact with_ok (k := 3) (by omega), ?_⟩
    obtain ⟨x, hx, px⟩ := W.wth (k := 3) (mu := []) q5
    rw [W.tup] at hx
    have := hx.symm.trans (with_ok (k := 3) (by omega))
    cases this; exact px
  obtain ⟨w4, hw4, pw4⟩ : ∃ x, (∀ m, den__law_with [c, .int 5, .tup x3] m = .ok (.vl x) m) ∧ Pd 7 x := by
    refine ⟨_, fun m => by rw [W.tup]; exact with_ok (k := 5) (by omega), ?_⟩
    obtain ⟨x, hx, px⟩ := W.wth (k := 5) (mu := []) q3
    rw [W.tup] at hx
    have := hx.symm.trans (with_ok (k := 5) (by omega))
    cases this; exact px
  have at2 : ∀ m, gAdd (.tup [.str q.name, .str p.name]) (.tup (C.drop 2)) m = .ok (.tup ([.str q.name, .str p.name] ++ C.drop 2)) m := fun m => gAdd_tup (by rw [List.length_drop, hC]; show 2 + 4 ≤ sizeLine; decide)
  have pat2 : Pd 7 (.tup ([.str q.name, .str p.name] ++ C.drop 2)) := Pd.tup (by simp; omega) fun x hx => by
    rcases List.mem_append.mp hx with z | z
    · exact pds_of (n := 6) (xs := [.str q.name, .str p.name]) (by rfl) x z
    · exact W.pd x (List.mem_of_mem_drop z)
  let fE : List D := fD ++ [w1, w2, w3]
  let fF : List D := fE ++ [w4, .tup ([.str q.name, .str p.name] ++ C.drop 2), c]
  have lE : fE.length ≤ 91 := by show (fD ++ [w1, w2, w3]).length ≤ 91; simp; omega
  have pE : ∀ x ∈ fE, Pd 7 x := fun x hx => by
    rcases List.mem_append.mp hx with z | z
    · exact pD x z
    · simp only [List.mem_cons, List.not_mem_nil, or_false] at z
      rcases z with rfl | rfl | rfl
      · exact pw1
      · exact pw2
      · exact pw3
  have pF : ∀ x ∈ fF, Pd 7 x := fun x hx => by
    rcases List.mem_append.mp hx with z | z
    · exact pE x z
    · simp only [List.mem_cons, List.not_mem_nil, or_false] at z
      rcases z with rfl | rfl | rfl
      · exact pw4
      · exact pat2
      · exact pc
  have hlen : mu8.length = mu.length := n8.len
  have rd8 : (mu8 ++ [.lst fD])[mu.length]? = some (.lst fD) := get_last hlen.symm
  have gaE : gAdd (.ref (mu8.length + 1)) (.fl [w4, .tup ([.str q.name, .str p.name] ++ C.drop 2), c]) ((mu8 ++ [.lst fD]) ++ [.lst fE]) = .ok (.fl fF) ((mu8 ++ [.lst fD]) ++ [.lst fE]) := gAdd_ref (get_last (by simp)) (by simp only [List.length_cons, List.length_nil]; omega)
  have e : dDataOf [.ref s, coreD ls, coreD rs, c] mu = .ok (.vl (.fl fF)) ((mu8 ++ [.lst fD]) ++ [.lst fE]) := by
    have er : r__law_data den__law_named dOneOf den__law_with dOtherForms den__law_draw dMore dOtherPairs =
      (sSeq (sSet 4 (eCall (lenD 2 den__law_named) (aCons (eVar 1) (aCons (eBin gIx (eVar 3) (eC (.int 0))) aNil))))
  (sSeq (sSet 5 (eCall (lenD 2 den__law_named) (aCons (eVar 2) (aCons (eBin gIx (eVar 3) (eC (.int 1))) aNil))))
  (sSeq (sSet 6 (eNew (aList (aCons (eSl (eVar 3) oNone (oSome (eC (.int 5)))) (aCons (eBin gAdd (eVar 3) (aThen gTup (aCons (aThen gTup aNil) aNil))) (aCons (eSl (eVar 3) (oSome (eC (.int 1))) oNone) (aCons (aThen gTup aNil) (aCons (eC (.int 0)) (aCons (eBin gIx (eVar 3) (eC (.int 0))) (aCons (eSl (eVar 3) oNone (oSome (eC (.int 2)))) aNil))))))))))
  (sSeq (sSet 7 (eFl (aList (aCons (eBin gAdd (eBin gIx (eVar 3) (eC (.int 0))) (eC (.str "a"))) (aCons (eC (.str "")) (aCons (eC (.int 3)) (aCons (aThen gTup (aCons (eBin gIx (eVar 3) (eC (.int 0))) aNil)) (aCons (eBin gIx (eVar 3) (eC (.int 1))) (aCons (eBin gIx (eVar 3) (eC (.int 0))) aNil)))))))))
  (sSeq (sSet 7 (eBin gAdd (eVar 7) (eFl (aList (aCons (eBin gIx (eCall (lenD 2 dOneOf) (aCons (eVar 0) (aCons (eVar 1) aNil))) (eC (.int 0))) (aCons (eBin gIx (eCall (lenD 2 dOneOf) (aCons (eVar 0) (aCons (eVar 2) aNil))) (eC (.int 0))) aNil))))))
  (sSeq (sFor (wThen wRng1 (aCons (eC (.int 2)) aNil)) (asgN 8) (sSeq (ap (eVar 8) (eCall (lenD 2 dOneOf) (aCons (eVar 0) (aCons (eVar 7) aNil)))) (ap (eVar 8) (eCall (lenD 2 dOneOf) (aCons (eVar 0) (aCons (eVar 7) aNil))))) [])
  (sSeq (sFor (eWalk (eCall (lenD 3 dOtherForms) (aCons (eVar 0) (aCons (eVar 4) (aCons (eVar 5) aNil))))) (asgN 9) (sSeq (sSet 8 (eBin gIx (eFl (aList (aCons (eC (.int 2)) (aCons (eC (.int 4)) aNil)))) (eCall (lenD 2 den__law_draw) (aCons (eVar 0) (aCons (eC (.int 2)) aNil))))) (ap (eVar 8) (eCall (lenD 3 dMore) (aCons (eVar 0) (aCons (eBin gIx (eVar 3) (eVar 8)) (aCons (eVar 9) aNil)))))) [9])
  (sSeq (sFor (eWalk (eCall (lenD 3 dOtherPairs) (aCons (eVar 0) (aCons (eVar 4) (aCons (eVar 5) aNil))))) (asgN 10) (sSeq (sSet 8 (eBin gIx (eFl (aList (aCons (eC (.int 3)) (aCons (eC (.int 5)) aNil)))) (eCall (lenD 2 den__law_draw) (aCons (eVar 0) (aCons (eC (.int 2)) aNil))))) (ap (eVar 8) (eCall (lenD 3 dMore) (aCons (eVar 0) (aCons (eBin gIx (eVar 3) (eVar 8)) (aCons (eVar 10) aNil)))))) [10])
  (sSeq (sFor (wThen wRng1 (aCons (eC (.int 4)) aNil)) (asgN 8) (sSeq (ap v82 dataOf) (ap v82 twice)) [])
  (sSeq (sSet 6 (eNew (fCat (eVar 6) (eFl (aList (aCons (eCall (lenD 3 den__law_with) (aCons (eVar 3) (aCons (eC (.int 4)) (aCons (eBin gIx (eVar 3) (eC (.int 2))) aNil)))) (aCons (eCall (lenD 3 den__law_with) (aCons (eVar 3) (aCons (eC (.int 2)) (aCons (eBin gIx (eVar 3) (eC (.int 4))) aNil)))) (aCons (eCall (lenD 3 den__law_with) (aCons (eVar 3) (aCons (eC (.int 3)) (aCons (eBin gIx (eVar 3) (eC (.int 5))) aNil)))) aNil))))))))
  (sRet (eBin gAdd (eVar 6) (eFl (aList (aCons (eCall (lenD 3 den__law_with) (aCons (eVar 3) (aCons (eC (.int 5)) (aCons (eBin gIx (eVar 3) (eC (.int 3))) aNil)))) (aCons (eBin gAdd (aThen gTup (aCons (eBin gIx (eVar 3) (eC (.int 1))) (aCons (eBin gIx (eVar 3) (eC (.int 0))) aNil))) (eSl (eVar 3) (oSome (eC (.int 2))) oNone)) (aCons (eVar 3) aNil))))))))))))))))) := rfl
    have w2 : ∀ m, wRng1 [.int 2] m = .ok (rngD 0 2, []) m := fun m => wRng1_ok (n := 2) (by omega)
    have w4 : ∀ m, wRng1 [.int 4] m = .ok (rngD 0 4, []) m := fun m => wRng1_ok (n := 4) (by omega)
    refine noX_ok ?_
    rw [er]
    have x0 := fun m => procD_name (p := x) (mu := m)
    have y0 := fun m => procD_name (p := y) (mu := m)
    have lE3 : fD.length + 3 ≤ sizeLine := by omega
    generalize (sSeq (ap (eVar 8) (eCall (lenD 2 dOneOf) (aCons (eVar 0) (aCons (eVar 7) aNil)))) (ap (eVar 8) (eCall (lenD 2 dOneOf) (aCons (eVar 0) (aCons (eVar 7) aNil))))) = B1 at eA ⊢
    generalize (sSeq (sSet 8 (eBin gIx (eFl (aList (aCons (eC (.int 2)) (aCons (eC (.int 4)) aNil)))) (eCall (lenD 2 den__law_draw) (aCons (eVar 0) (aCons (eC (.int 2)) aNil))))) (ap (eVar 8) (eCall (lenD 3 dMore) (aCons (eVar 0) (aCons (eBin gIx (eVar 3) (eVar 8)) (aCons (eVar 9) aNil)))))) = B2 at eB ⊢
    generalize (sSeq (sSet 8 (eBin gIx (eFl (aList (aCons (eC (.int 3)) (aCons (eC (.int 5)) aNil)))) (eCall (lenD 2 den__law_draw) (aCons (eVar 0) (aCons (eC (.int 2)) aNil))))) (ap (eVar 8) (eCall (lenD 3 dMore) (aCons (eVar 0) (aCons (eBin gIx (eVar 3) (eVar 8)) (aCons (eVar 10) aNil)))))) = B3 at eC' ⊢
    generalize (sSeq (ap v82 dataOf) (ap v82 twice)) = B4 at eD ⊢
    simp only [f0] at e1 e2 eA
    simp only [n0] at ga
    clear_value ns fF
    simp only [fE] at gaE ⊢
    generalize C.take 5 = T5 at t5 e1 e2 eA
    generalize C ++ [.tup []] = CA at a1 e1 e2 eA
    generalize C.drop 1 = C1 at d1 e1 e2 eA
    generalize C.take 2 = T2 at t2 e1 e2 eA
    generalize [.str q.name, .str p.name] ++ C.drop 2 = C3 at at2 gaE
    generalize C.drop 2 = C2 at d2 at2
    simp [startE, c0, c1, k1, k2, t5, a1, d1, t2, gTup_ok, s0, s1, s2, s3, s6, s7, hap, ga, e1, e2, x0, y0, w2, eA, e4, eB, e6, eC', w4, eD, rd8, lE3, i2, i3, i4, i5, hw1, hw2, hw3, hw4, at2, d2]
    simp at gaE
    simp [gaE]
  refine ⟨fF, mu8, fgt_val (ex := [.lst fD, .lst fE]) (by rw [e]; simp) hlen (n8.clo hc) (Clo.fl.mpr (flats_clo _ (flats_of fun d hd => pd_flat (pF d hd)))), n8, fun f hf => (pF f hf).mono (by omega)⟩
end K06
namespace K06
open PySem L2 PyProof.Rows MP
noncomputable abbrev dCoreOf : List D → M Rv := den__law_core_of dWords den__law_draw dProcOf
noncomputable abbrev dLaw : List D → M Rv := den_law den__law_start dCoreOf dMoves dClaimOf dClaim dData dJudged
noncomputable def checkBody : MP.Env → M Fl := (sSeq (sSet 7 (eCall (lenD 3 dClaim) (aCons (eVar 2) (aCons (eVar 3) (aCons (eVar 6) aNil)))))
  (eIf (eB (eCall (lenD 2 dJudged) (aCons (eVar 4) (aCons (eVar 6) aNil))))
  (eIf (eB (eBin (gIsB true) (eVar 7) (eC (.bl true))))
  (sRet (eC (.bl false)))
  sNext)
  (eIf (eB (eBin (gIsB true) (eVar 7) (eC (.bl false))))
  (sRet (eC (.bl false)))
  sNext)))
theorem law_loop' {S sc c : D} {ls rs : List Pr} {mu : List MO} (hl : ∀ p ∈ ls, GoodP p) (hr : ∀ p ∈ rs, GoodP p) (hm : CloH mu) : ∀ (fs : List D) (o6 o7 : Option D), (∀ f ∈ fs, Pd 8 f) →
    loopF (asgN 6) checkBody [6, 7] [] fs [some sc, some S, some (coreD ls), some (coreD rs), some (worldD ls rs), some c, o6, o7] mu = .ok (.nx [some sc, some S, some (coreD ls), some (coreD rs), some (worldD ls rs), some c, none, none]) mu
  | [], o6, o7, _ => by
    show loopF _ _ _ [] [] _ _ = _
    rw [loopF_nil]; rfl
  | f :: fs, o6, o7, h => by
    have ih := law_loop' (S := S) (sc := sc) (c := c) hl hr hm fs (some f) (some (.bl (judgeB ls rs f))) fun x hx => h x (by simp [hx])
    obtain ⟨h1, h2⟩ := agree hl hr (h f (by simp)) (by decide) hm
    refine (loopF_step (env1 := [some sc, some S, some (coreD ls), some (coreD rs), some (worldD ls rs), some c, some f, none]) rfl ?_).trans ih
    generalize coreD ls = L at h1 ⊢
    generalize coreD rs = R at h1 ⊢
    generalize worldD ls rs = Wd at h2 ⊢
    cases hj : judgeB ls rs f with
    | true => rw [hj] at h1 h2; simp [checkBody, h1, h2]
    | false => rw [hj] at h1 h2; simp [checkBody, h1, h2]
theorem law_ok {cs : List Int} (h : cs.length ≤ 63) : ∃ mu', dLaw [.ro (cs.map .int)] [] = .ok (.vl (.bl true)) mu' := by
  have e0 := start_ok (mu := []) h
  have s4 : (4 : Nat) ≤ sizeLine := by decide
  generalize hm1 : ([st cs 0 0 0] : List MO) = m1
  have A1 : At 0 cs m1 := ⟨0, 0, 0, by rw [← hm1]; rfl⟩
  have c1 : CloH m1 := fun o ho => by
    rw [← hm1] at ho
    rw [List.mem_singleton.mp ho]
    exact st_clo
  obtain ⟨ls, m2, e2, n2, nl, gl, l1, l3, pl⟩ := core_of_ok A1
  obtain ⟨rs, m3, e3, n3', nr, gr, r1, r3, pr⟩ := core_of_ok (n2.at_ A1)
  have n3 := n2.trans n3'
  have c3 := n3.clo c1
  have e4 := moves_ok (fun p hp => (pl p hp).w.ok) (by omega : ls.length < 1000) c3
  have e5 := moves_ok (fun p hp => (pr p hp).w.ok) (by omega : rs.length < 1000) c3
  obtain ⟨c, m6, e6, n6', hc⟩ := claim_ok (n3.at_ A1) c3 pl pr ⟨l1, l3⟩ ⟨r1, r3⟩
  have n6 := n3.trans n6'
  have c6 := n6.clo c1
  obtain ⟨C, p, q, hp, hq, W⟩ := claim_in hc
  have pc : Pd 8 c := by
    rw [W.tup]; exact Pd.tup (by rw [W.len]; omega) fun x hx => (W.pd x hx).mono (by omega)
  have h7 := (agree pl pr pc (by decide) c6).1
  rw [claim_true nl nr hc] at h7
  obtain ⟨fs, m8, e8, n8', pf⟩ := data_ok (n6.at_ A1) c6 pl pr nl nr l3 r3 gl hc
  have n8 := n6.trans n8'
  have hloop := law_loop' (S := .ref 0) (sc := .ro (cs.map .int)) (c := c) pl pr (n8.clo c1) fs none none pf
  refine ⟨m8, noX_ok ?_⟩
  have er : r_law den__law_start dCoreOf dMoves dClaimOf dClaim dData dJudged = (sSeq (sSet 1 (eNew (fCall (lenD 1 den__law_start) (aCons (eVar 0) aNil))))
  (sSeq (sSet 2 (eCall (lenD 1 dCoreOf) (aCons (eVar 1) aNil)))
  (sSeq (sSet 3 (eCall (lenD 1 dCoreOf) (aCons (eVar 1) aNil)))
  (sSeq (sSet 4 (aThen gTup (aCons (eVar 2) (aCons (eVar 3) (aCons (eCall (lenD 1 dMoves) (aCons (eVar 2) aNil)) (aCons (eCall (lenD 1 dMoves) (aCons (eVar 3) aNil)) aNil))))))
  (sSeq (sSet 5 (eCall (lenD 2 dClaimOf) (aCons (eVar 1) (aCons (eVar 4) aNil))))
  (sSeq (eIf (eB (eBin (gIsB true) (eCall (lenD 3 dClaim) (aCons (eVar 2) (aCons (eVar 3) (aCons (eVar 5) aNil)))) (eC (.bl true))))
  (sRet (eC (.bl false)))
  sNext)
  (sSeq (sFor (eWalk (eCall (lenD 4 dData) (aCons (eVar 1) (aCons (eVar 2) (aCons (eVar 3) (aCons (eVar 5) aNil)))))) (asgN 6) checkBody [6, 7])
  (sRet (eC (.bl true)))))))))) := rfl
  rw [er]
  have w : worldD ls rs = .tup [coreD ls, coreD rs, tabD ls, tabD rs] := rfl
  rw [w] at e6 hloop
  have e2 : dCoreOf [.ref 0] m1 = .ok (.vl (coreD ls)) m2 := e2
  have e3 : dCoreOf [.ref 0] m2 = .ok (.vl (coreD rs)) m3 := e3
  unfold MP.st at hm1
  generalize coreD ls = L at *
  generalize coreD rs = R at *
  generalize tabD ls = TL at *
  generalize tabD rs = TR at *
  generalize cs.map D.int = CS at *
  simp [startE, e0, hm1, e2, e3, e4, e5, gTup_ok, s4, e6, h7, e8, hloop]
end K06
namespace K06
open PySem L2 PyProof.Rows MP
theorem all_mk {l : PySem.W.OpenLaw} {w : World} {K : PySem.W.Frag} {h : Heap} {mg : Str → Option Value} {fa f0 f1 f2 f3 f4 f5 f6 f7 f8 f9 f10 f11 f12 f13 f14 f15 f16 f17 f18 f19 f20 f21 f22 f23 f24 f25 f26 f27 f28 f29 f30 f31 f32 f33 f34 f35 f36 f37 f38 f39 f40 f41 f42 f43 f44 f45 f46 f47 f48 f49 f50 f51 f52 f53 : Addr} (X : K.In h) (G : h.Ns mainGlobals mg) (hfa : mg "law" = some (.ref fa))
    {od0 an0 : Option Addr} {sl0 : Array (Option Value)} {oc0 kV0 dc0 pm0 cd0 ct0 : Value}
    {od1 an1 : Option Addr} {sl1 : Array (Option Value)} {oc1 kV1 dc1 pm1 cd1 ct1 : Value}
    {od2 an2 : Option Addr} {sl2 : Array (Option Value)} {oc2 kV2 dc2 pm2 cd2 ct2 : Value}
    {od3 an3 : Option Addr} {sl3 : Array (Option Value)} {oc3 kV3 dc3 pm3 cd3 ct3 : Value}
    {od4 an4 : Option Addr} {sl4 : Array (Option Value)} {oc4 kV4 dc4 pm4 cd4 ct4 : Value}
    {od5 an5 : Option Addr} {sl5 : Array (Option Value)} {oc5 kV5 dc5 pm5 cd5 ct5 : Value}
    {od6 an6 : Option Addr} {sl6 : Array (Option Value)} {oc6 kV6 dc6 pm6 cd6 ct6 : Value}
    {od7 an7 : Option Addr} {sl7 : Array (Option Value)} {oc7 kV7 dc7 pm7 cd7 ct7 : Value}
    {od8 an8 : Option Addr} {sl8 : Array (Option Value)} {oc8 kV8 dc8 pm8 cd8 ct8 : Value}
    {od9 an9 : Option Addr} {sl9 : Array (Option Value)} {oc9 kV9 dc9 pm9 cd9 ct9 : Value}
    {od10 an10 : Option Addr} {sl10 : Array (Option Value)} {oc10 kV10 dc10 pm10 cd10 ct10 : Value}
    {od11 an11 : Option Addr} {sl11 : Array (Option Value)} {oc11 kV11 dc11 pm11 cd11 ct11 : Value}
    {od12 an12 : Option Addr} {sl12 : Array (Option Value)} {oc12 kV12 dc12 pm12 cd12 ct12 : Value}
    {od13 an13 : Option Addr} {sl13 : Array (Option Value)} {oc13 kV13 dc13 pm13 cd13 ct13 : Value}
    {od14 an14 : Option Addr} {sl14 : Array (Option Value)} {oc14 kV14 dc14 pm14 cd14 ct14 : Value}
    {od15 an15 : Option Addr} {sl15 : Array (Option Value)} {oc15 kV15 dc15 pm15 cd15 ct15 : Value}
    {od16 an16 : Option Addr} {sl16 : Array (Option Value)} {oc16 kV16 dc16 pm16 cd16 ct16 : Value}
    {od17 an17 : Option Addr} {sl17 : Array (Option Value)} {oc17 kV17 dc17 pm17 cd17 ct17 : Value}
    {od18 an18 : Option Addr} {sl18 : Array (Option Value)} {oc18 kV18 dc18 pm18 cd18 ct18 : Value}
    {od19 an19 : Option Addr} {sl19 : Array (Option Value)} {oc19 kV19 dc19 pm19 cd19 ct19 : Value}
    {od20 an20 : Option Addr} {sl20 : Array (Option Value)} {oc20 kV20 dc20 pm20 cd20 ct20 : Value}
    {od21 an21 : Option Addr} {sl21 : Array (Option Value)} {oc21 kV21 dc21 pm21 cd21 ct21 : Value}
    {od22 an22 : Option Addr} {sl22 : Array (Option Value)} {oc22 kV22 dc22 pm22 cd22 ct22 : Value}
    {od23 an23 : Option Addr} {sl23 : Array (Option Value)} {oc23 kV23 dc23 pm23 cd23 ct23 : Value}
    {od24 an24 : Option Addr} {sl24 : Array (Option Value)} {oc24 kV24 dc24 pm24 cd24 ct24 : Value}
    {od25 an25 : Option Addr} {sl25 : Array (Option Value)} {oc25 kV25 dc25 pm25 cd25 ct25 : Value}
    {od26 an26 : Option Addr} {sl26 : Array (Option Value)} {oc26 kV26 dc26 pm26 cd26 ct26 : Value}
    {od27 an27 : Option Addr} {sl27 : Array (Option Value)} {oc27 kV27 dc27 pm27 cd27 ct27 : Value}
    {od28 an28 : Option Addr} {sl28 : Array (Option Value)} {oc28 kV28 dc28 pm28 cd28 ct28 : Value}
    {od29 an29 : Option Addr} {sl29 : Array (Option Value)} {oc29 kV29 dc29 pm29 cd29 ct29 : Value}
    {od30 an30 : Option Addr} {sl30 : Array (Option Value)} {oc30 kV30 dc30 pm30 cd30 ct30 : Value}
    {od31 an31 : Option Addr} {sl31 : Array (Option Value)} {oc31 kV31 dc31 pm31 cd31 ct31 : Value}
    {od32 an32 : Option Addr} {sl32 : Array (Option Value)} {oc32 kV32 dc32 pm32 cd32 ct32 : Value}
    {od33 an33 : Option Addr} {sl33 : Array (Option Value)} {oc33 kV33 dc33 pm33 cd33 ct33 : Value}
    {od34 an34 : Option Addr} {sl34 : Array (Option Value)} {oc34 kV34 dc34 pm34 cd34 ct34 : Value}
    {od35 an35 : Option Addr} {sl35 : Array (Option Value)} {oc35 kV35 dc35 pm35 cd35 ct35 : Value}
    {od36 an36 : Option Addr} {sl36 : Array (Option Value)} {oc36 kV36 dc36 pm36 cd36 ct36 : Value}
    {od37 an37 : Option Addr} {sl37 : Array (Option Value)} {oc37 kV37 dc37 pm37 cd37 ct37 : Value}
    {od38 an38 : Option Addr} {sl38 : Array (Option Value)} {oc38 kV38 dc38 pm38 cd38 ct38 : Value}
    {od39 an39 : Option Addr} {sl39 : Array (Option Value)} {oc39 kV39 dc39 pm39 cd39 ct39 : Value}
    {od40 an40 : Option Addr} {sl40 : Array (Option Value)} {oc40 kV40 dc40 pm40 cd40 ct40 : Value}
    {od41 an41 : Option Addr} {sl41 : Array (Option Value)} {oc41 kV41 dc41 pm41 cd41 ct41 : Value}
    {od42 an42 : Option Addr} {sl42 : Array (Option Value)} {oc42 kV42 dc42 pm42 cd42 ct42 : Value}
    {od43 an43 : Option Addr} {sl43 : Array (Option Value)} {oc43 kV43 dc43 pm43 cd43 ct43 : Value}
    {od44 an44 : Option Addr} {sl44 : Array (Option Value)} {oc44 kV44 dc44 pm44 cd44 ct44 : Value}
    {od45 an45 : Option Addr} {sl45 : Array (Option Value)} {oc45 kV45 dc45 pm45 cd45 ct45 : Value}
    {od46 an46 : Option Addr} {sl46 : Array (Option Value)} {oc46 kV46 dc46 pm46 cd46 ct46 : Value}
    {od47 an47 : Option Addr} {sl47 : Array (Option Value)} {oc47 kV47 dc47 pm47 cd47 ct47 : Value}
    {od48 an48 : Option Addr} {sl48 : Array (Option Value)} {oc48 kV48 dc48 pm48 cd48 ct48 : Value}
    {od49 an49 : Option Addr} {sl49 : Array (Option Value)} {oc49 kV49 dc49 pm49 cd49 ct49 : Value}
    {od50 an50 : Option Addr} {sl50 : Array (Option Value)} {oc50 kV50 dc50 pm50 cd50 ct50 : Value}
    {od51 an51 : Option Addr} {sl51 : Array (Option Value)} {oc51 kV51 dc51 pm51 cd51 ct51 : Value}
    {od52 an52 : Option Addr} {sl52 : Array (Option Value)} {oc52 kV52 dc52 pm52 cd52 ct52 : Value}
    {od53 an53 : Option Addr} {sl53 : Array (Option Value)} {oc53 kV53 dc53 pm53 cd53 ct53 : Value}
    (a0 : PySem.W.nsIn K mainGlobals "_law_start" = some (some (.ref f0))) (l0 : K.lookup f0 = some ⟨oc0, od0, .func (PySem.W.fnOf "_law_start" "_law_start" (defArgs st__law_start) (defBody st__law_start) (defScope st__law_start) .none kV0 dc0 pm0 an0 cd0 ct0), sl0⟩) (c0 : PySem.W.codeIn K cd0 "_law_start" = true) (k0 : PySem.W.keepIn K (.ref f0) = true)
    (a1 : PySem.W.nsIn K mainGlobals "_law_draw" = some (some (.ref f1))) (l1 : K.lookup f1 = some ⟨oc1, od1, .func (PySem.W.fnOf "_law_draw" "_law_draw" (defArgs st__law_draw) (defBody st__law_draw) (defScope st__law_draw) .none kV1 dc1 pm1 an1 cd1 ct1), sl1⟩) (c1 : PySem.W.codeIn K cd1 "_law_draw" = true) (k1 : PySem.W.keepIn K (.ref f1) = true)
    (a2 : PySem.W.nsIn K mainGlobals "_law_words" = some (some (.ref f2))) (l2 : K.lookup f2 = some ⟨oc2, od2, .func (PySem.W.fnOf "_law_words" "_law_words" (defArgs st__law_words) (defBody st__law_words) (defScope st__law_words) .none kV2 dc2 pm2 an2 cd2 ct2), sl2⟩) (c2 : PySem.W.codeIn K cd2 "_law_words" = true) (k2 : PySem.W.keepIn K (.ref f2) = true)
    (a3 : PySem.W.nsIn K mainGlobals "_law_shuffled" = some (some (.ref f3))) (l3 : K.lookup f3 = some ⟨oc3, od3, .func (PySem.W.fnOf "_law_shuffled" "_law_shuffled" (defArgs st__law_shuffled) (defBody st__law_shuffled) (defScope st__law_shuffled) .none kV3 dc3 pm3 an3 cd3 ct3), sl3⟩) (c3 : PySem.W.codeIn K cd3 "_law_shuffled" = true) (k3 : PySem.W.keepIn K (.ref f3) = true)
    (a4 : PySem.W.nsIn K mainGlobals "_law_proc_of" = some (some (.ref f4))) (l4 : K.lookup f4 = some ⟨oc4, od4, .func (PySem.W.fnOf "_law_proc_of" "_law_proc_of" (defArgs st__law_proc_of) (defBody st__law_proc_of) (defScope st__law_proc_of) .none kV4 dc4 pm4 an4 cd4 ct4), sl4⟩) (c4 : PySem.W.codeIn K cd4 "_law_proc_of" = true) (k4 : PySem.W.keepIn K (.ref f4) = true)
    (a5 : PySem.W.nsIn K mainGlobals "_law_core_of" = some (some (.ref f5))) (l5 : K.lookup f5 = some ⟨oc5, od5, .func (PySem.W.fnOf "_law_core_of" "_law_core_of" (defArgs st__law_core_of) (defBody st__law_core_of) (defScope st__law_core_of) .none kV5 dc5 pm5 an5 cd5 ct5), sl5⟩) (c5 : PySem.W.codeIn K cd5 "_law_core_of" = true) (k5 : PySem.W.keepIn K (.ref f5) = true)
    (a6 : PySem.W.nsIn K mainGlobals "_law_statements" = some (some (.ref f6))) (l6 : K.lookup f6 = some ⟨oc6, od6, .func (PySem.W.fnOf "_law_statements" "_law_statements" (defArgs st__law_statements) (defBody st__law_statements) (defScope st__law_statements) .none kV6 dc6 pm6 an6 cd6 ct6), sl6⟩) (c6 : PySem.W.codeIn K cd6 "_law_statements" = true) (k6 : PySem.W.keepIn K (.ref f6) = true)
    (a7 : PySem.W.nsIn K mainGlobals "_law_key" = some (some (.ref f7))) (l7 : K.lookup f7 = some ⟨oc7, od7, .func (PySem.W.fnOf "_law_key" "_law_key" (defArgs st__law_key) (defBody st__law_key) (defScope st__law_key) .none kV7 dc7 pm7 an7 cd7 ct7), sl7⟩) (c7 : PySem.W.codeIn K cd7 "_law_key" = true) (k7 : PySem.W.keepIn K (.ref f7) = true)
    (a8 : PySem.W.nsIn K mainGlobals "_law_moves" = some (some (.ref f8))) (l8 : K.lookup f8 = some ⟨oc8, od8, .func (PySem.W.fnOf "_law_moves" "_law_moves" (defArgs st__law_moves) (defBody st__law_moves) (defScope st__law_moves) .none kV8 dc8 pm8 an8 cd8 ct8), sl8⟩) (c8 : PySem.W.codeIn K cd8 "_law_moves" = true) (k8 : PySem.W.keepIn K (.ref f8) = true)
    (a9 : PySem.W.nsIn K mainGlobals "_law_one_of" = some (some (.ref f9))) (l9 : K.lookup f9 = some ⟨oc9, od9, .func (PySem.W.fnOf "_law_one_of" "_law_one_of" (defArgs st__law_one_of) (defBody st__law_one_of) (defScope st__law_one_of) .none kV9 dc9 pm9 an9 cd9 ct9), sl9⟩) (c9 : PySem.W.codeIn K cd9 "_law_one_of" = true) (k9 : PySem.W.keepIn K (.ref f9) = true)
    (a10 : PySem.W.nsIn K mainGlobals "_law_form" = some (some (.ref f10))) (l10 : K.lookup f10 = some ⟨oc10, od10, .func (PySem.W.fnOf "_law_form" "_law_form" (defArgs st__law_form) (defBody st__law_form) (defScope st__law_form) .none kV10 dc10 pm10 an10 cd10 ct10), sl10⟩) (c10 : PySem.W.codeIn K cd10 "_law_form" = true) (k10 : PySem.W.keepIn K (.ref f10) = true)
    (a11 : PySem.W.nsIn K mainGlobals "_law_forms" = some (some (.ref f11))) (l11 : K.lookup f11 = some ⟨oc11, od11, .func (PySem.W.fnOf "_law_forms" "_law_forms" (defArgs st__law_forms) (defBody st__law_forms) (defScope st__law_forms) .none kV11 dc11 pm11 an11 cd11 ct11), sl11⟩) (c11 : PySem.W.codeIn K cd11 "_law_forms" = true) (k11 : PySem.W.keepIn K (.ref f11) = true)
    (a12 : PySem.W.nsIn K mainGlobals "_law_input_names" = some (some (.ref f12))) (l12 : K.lookup f12 = some ⟨oc12, od12, .func (PySem.W.fnOf "_law_input_names" "_law_input_names" (defArgs st__law_input_names) (defBody st__law_input_names) (defScope st__law_input_names) .none kV12 dc12 pm12 an12 cd12 ct12), sl12⟩) (c12 : PySem.W.codeIn K cd12 "_law_input_names" = true) (k12 : PySem.W.keepIn K (.ref f12) = true)
    (a13 : PySem.W.nsIn K mainGlobals "_law_outcomes" = some (some (.ref f13))) (l13 : K.lookup f13 = some ⟨oc13, od13, .func (PySem.W.fnOf "_law_outcomes" "_law_outcomes" (defArgs st__law_outcomes) (defBody st__law_outcomes) (defScope st__law_outcomes) .none kV13 dc13 pm13 an13 cd13 ct13), sl13⟩) (c13 : PySem.W.codeIn K cd13 "_law_outcomes" = true) (k13 : PySem.W.keepIn K (.ref f13) = true)
    (a14 : PySem.W.nsIn K mainGlobals "_law_ask_names" = some (some (.ref f14))) (l14 : K.lookup f14 = some ⟨oc14, od14, .func (PySem.W.fnOf "_law_ask_names" "_law_ask_names" (defArgs st__law_ask_names) (defBody st__law_ask_names) (defScope st__law_ask_names) .none kV14 dc14 pm14 an14 cd14 ct14), sl14⟩) (c14 : PySem.W.codeIn K cd14 "_law_ask_names" = true) (k14 : PySem.W.keepIn K (.ref f14) = true)
    (a15 : PySem.W.nsIn K mainGlobals "_law_arrays" = some (some (.ref f15))) (l15 : K.lookup f15 = some ⟨oc15, od15, .func (PySem.W.fnOf "_law_arrays" "_law_arrays" (defArgs st__law_arrays) (defBody st__law_arrays) (defScope st__law_arrays) .none kV15 dc15 pm15 an15 cd15 ct15), sl15⟩) (c15 : PySem.W.codeIn K cd15 "_law_arrays" = true) (k15 : PySem.W.keepIn K (.ref f15) = true)
    (a16 : PySem.W.nsIn K mainGlobals "_law_pairs" = some (some (.ref f16))) (l16 : K.lookup f16 = some ⟨oc16, od16, .func (PySem.W.fnOf "_law_pairs" "_law_pairs" (defArgs st__law_pairs) (defBody st__law_pairs) (defScope st__law_pairs) .none kV16 dc16 pm16 an16 cd16 ct16), sl16⟩) (c16 : PySem.W.codeIn K cd16 "_law_pairs" = true) (k16 : PySem.W.keepIn K (.ref f16) = true)
    (a17 : PySem.W.nsIn K mainGlobals "_law_claim" = some (some (.ref f17))) (l17 : K.lookup f17 = some ⟨oc17, od17, .func (PySem.W.fnOf "_law_claim" "_law_claim" (defArgs st__law_claim) (defBody st__law_claim) (defScope st__law_claim) .none kV17 dc17 pm17 an17 cd17 ct17), sl17⟩) (c17 : PySem.W.codeIn K cd17 "_law_claim" = true) (k17 : PySem.W.keepIn K (.ref f17) = true)
    (a18 : PySem.W.nsIn K mainGlobals "is_tuple" = some (some (.ref f18))) (l18 : K.lookup f18 = some ⟨oc18, od18, .func (PySem.W.fnOf "is_tuple" "is_tuple" (defArgs st_is_tuple) (defBody st_is_tuple) (defScope st_is_tuple) .none kV18 dc18 pm18 an18 cd18 ct18), sl18⟩) (c18 : PySem.W.codeIn K cd18 "is_tuple" = true) (k18 : PySem.W.keepIn K (.ref f18) = true)
    (a19 : PySem.W.nsIn K mainGlobals "has_proc" = some (some (.ref f19))) (l19 : K.lookup f19 = some ⟨oc19, od19, .func (PySem.W.fnOf "has_proc" "has_proc" (defArgs st_has_proc) (defBody st_has_proc) (defScope st_has_proc) .none kV19 dc19 pm19 an19 cd19 ct19), sl19⟩) (c19 : PySem.W.codeIn K cd19 "has_proc" = true) (k19 : PySem.W.keepIn K (.ref f19) = true)
    (a20 : PySem.W.nsIn K mainGlobals "proc_named" = some (some (.ref f20))) (l20 : K.lookup f20 = some ⟨oc20, od20, .func (PySem.W.fnOf "proc_named" "proc_named" (defArgs st_proc_named) (defBody st_proc_named) (defScope st_proc_named) .none kV20 dc20 pm20 an20 cd20 ct20), sl20⟩) (c20 : PySem.W.codeIn K cd20 "proc_named" = true) (k20 : PySem.W.keepIn K (.ref f20) = true)
    (a21 : PySem.W.nsIn K mainGlobals "array_parameters" = some (some (.ref f21))) (l21 : K.lookup f21 = some ⟨oc21, od21, .func (PySem.W.fnOf "array_parameters" "array_parameters" (defArgs st_array_parameters) (defBody st_array_parameters) (defScope st_array_parameters) .none kV21 dc21 pm21 an21 cd21 ct21), sl21⟩) (c21 : PySem.W.codeIn K cd21 "array_parameters" = true) (k21 : PySem.W.keepIn K (.ref f21) = true)
    (a22 : PySem.W.nsIn K mainGlobals "is_integer" = some (some (.ref f22))) (l22 : K.lookup f22 = some ⟨oc22, od22, .func (PySem.W.fnOf "is_integer" "is_integer" (defArgs st_is_integer) (defBody st_is_integer) (defScope st_is_integer) .none kV22 dc22 pm22 an22 cd22 ct22), sl22⟩) (c22 : PySem.W.codeIn K cd22 "is_integer" = true) (k22 : PySem.W.keepIn K (.ref f22) = true)
    (a23 : PySem.W.nsIn K mainGlobals "is_form" = some (some (.ref f23))) (l23 : K.lookup f23 = some ⟨oc23, od23, .func (PySem.W.fnOf "is_form" "is_form" (defArgs st_is_form) (defBody st_is_form) (defScope st_is_form) .none kV23 dc23 pm23 an23 cd23 ct23), sl23⟩) (c23 : PySem.W.codeIn K cd23 "is_form" = true) (k23 : PySem.W.keepIn K (.ref f23) = true)
    (a24 : PySem.W.nsIn K mainGlobals "is_form_over" = some (some (.ref f24))) (l24 : K.lookup f24 = some ⟨oc24, od24, .func (PySem.W.fnOf "is_form_over" "is_form_over" (defArgs st_is_form_over) (defBody st_is_form_over) (defScope st_is_form_over) .none kV24 dc24 pm24 an24 cd24 ct24), sl24⟩) (c24 : PySem.W.codeIn K cd24 "is_form_over" = true) (k24 : PySem.W.keepIn K (.ref f24) = true)
    (a25 : PySem.W.nsIn K mainGlobals "are_forms" = some (some (.ref f25))) (l25 : K.lookup f25 = some ⟨oc25, od25, .func (PySem.W.fnOf "are_forms" "are_forms" (defArgs st_are_forms) (defBody st_are_forms) (defScope st_are_forms) .none kV25 dc25 pm25 an25 cd25 ct25), sl25⟩) (c25 : PySem.W.codeIn K cd25 "are_forms" = true) (k25 : PySem.W.keepIn K (.ref f25) = true)
    (a26 : PySem.W.nsIn K mainGlobals "marked" = some (some (.ref f26))) (l26 : K.lookup f26 = some ⟨oc26, od26, .func (PySem.W.fnOf "marked" "marked" (defArgs st_marked) (defBody st_marked) (defScope st_marked) .none kV26 dc26 pm26 an26 cd26 ct26), sl26⟩) (c26 : PySem.W.codeIn K cd26 "marked" = true) (k26 : PySem.W.keepIn K (.ref f26) = true)
    (a27 : PySem.W.nsIn K mainGlobals "variable_of" = some (some (.ref f27))) (l27 : K.lookup f27 = some ⟨oc27, od27, .func (PySem.W.fnOf "variable_of" "variable_of" (defArgs st_variable_of) (defBody st_variable_of) (defScope st_variable_of) .none kV27 dc27 pm27 an27 cd27 ct27), sl27⟩) (c27 : PySem.W.codeIn K cd27 "variable_of" = true) (k27 : PySem.W.keepIn K (.ref f27) = true)
    (a28 : PySem.W.nsIn K mainGlobals "inputs_of_proc" = some (some (.ref f28))) (l28 : K.lookup f28 = some ⟨oc28, od28, .func (PySem.W.fnOf "inputs_of_proc" "inputs_of_proc" (defArgs st_inputs_of_proc) (defBody st_inputs_of_proc) (defScope st_inputs_of_proc) .none kV28 dc28 pm28 an28 cd28 ct28), sl28⟩) (c28 : PySem.W.codeIn K cd28 "inputs_of_proc" = true) (k28 : PySem.W.keepIn K (.ref f28) = true)
    (a29 : PySem.W.nsIn K mainGlobals "inputs_of" = some (some (.ref f29))) (l29 : K.lookup f29 = some ⟨oc29, od29, .func (PySem.W.fnOf "inputs_of" "inputs_of" (defArgs st_inputs_of) (defBody st_inputs_of) (defScope st_inputs_of) .none kV29 dc29 pm29 an29 cd29 ct29), sl29⟩) (c29 : PySem.W.codeIn K cd29 "inputs_of" = true) (k29 : PySem.W.keepIn K (.ref f29) = true)
    (a30 : PySem.W.nsIn K mainGlobals "given_names" = some (some (.ref f30))) (l30 : K.lookup f30 = some ⟨oc30, od30, .func (PySem.W.fnOf "given_names" "given_names" (defArgs st_given_names) (defBody st_given_names) (defScope st_given_names) .none kV30 dc30 pm30 an30 cd30 ct30), sl30⟩) (c30 : PySem.W.codeIn K cd30 "given_names" = true) (k30 : PySem.W.keepIn K (.ref f30) = true)
    (a31 : PySem.W.nsIn K mainGlobals "are_pairs" = some (some (.ref f31))) (l31 : K.lookup f31 = some ⟨oc31, od31, .func (PySem.W.fnOf "are_pairs" "are_pairs" (defArgs st_are_pairs) (defBody st_are_pairs) (defScope st_are_pairs) .none kV31 dc31 pm31 an31 cd31 ct31), sl31⟩) (c31 : PySem.W.codeIn K cd31 "are_pairs" = true) (k31 : PySem.W.keepIn K (.ref f31) = true)
    (a32 : PySem.W.nsIn K mainGlobals "count_name" = some (some (.ref f32))) (l32 : K.lookup f32 = some ⟨oc32, od32, .func (PySem.W.fnOf "count_name" "count_name" (defArgs st_count_name) (defBody st_count_name) (defScope st_count_name) .none kV32 dc32 pm32 an32 cd32 ct32), sl32⟩) (c32 : PySem.W.codeIn K cd32 "count_name" = true) (k32 : PySem.W.keepIn K (.ref f32) = true)
    (a33 : PySem.W.nsIn K mainGlobals "moving_items" = some (some (.ref f33))) (l33 : K.lookup f33 = some ⟨oc33, od33, .func (PySem.W.fnOf "moving_items" "moving_items" (defArgs st_moving_items) (defBody st_moving_items) (defScope st_moving_items) .none kV33 dc33 pm33 an33 cd33 ct33), sl33⟩) (c33 : PySem.W.codeIn K cd33 "moving_items" = true) (k33 : PySem.W.keepIn K (.ref f33) = true)
    (a34 : PySem.W.nsIn K mainGlobals "outcomes_of_proc" = some (some (.ref f34))) (l34 : K.lookup f34 = some ⟨oc34, od34, .func (PySem.W.fnOf "outcomes_of_proc" "outcomes_of_proc" (defArgs st_outcomes_of_proc) (defBody st_outcomes_of_proc) (defScope st_outcomes_of_proc) .none kV34 dc34 pm34 an34 cd34 ct34), sl34⟩) (c34 : PySem.W.codeIn K cd34 "outcomes_of_proc" = true) (k34 : PySem.W.keepIn K (.ref f34) = true)
    (a35 : PySem.W.nsIn K mainGlobals "statements_in" = some (some (.ref f35))) (l35 : K.lookup f35 = some ⟨oc35, od35, .func (PySem.W.fnOf "statements_in" "statements_in" (defArgs st_statements_in) (defBody st_statements_in) (defScope st_statements_in) .none kV35 dc35 pm35 an35 cd35 ct35), sl35⟩) (c35 : PySem.W.codeIn K cd35 "statements_in" = true) (k35 : PySem.W.keepIn K (.ref f35) = true)
    (a36 : PySem.W.nsIn K mainGlobals "assigned_in" = some (some (.ref f36))) (l36 : K.lookup f36 = some ⟨oc36, od36, .func (PySem.W.fnOf "assigned_in" "assigned_in" (defArgs st_assigned_in) (defBody st_assigned_in) (defScope st_assigned_in) .none kV36 dc36 pm36 an36 cd36 ct36), sl36⟩) (c36 : PySem.W.codeIn K cd36 "assigned_in" = true) (k36 : PySem.W.keepIn K (.ref f36) = true)
    (a37 : PySem.W.nsIn K mainGlobals "passed_on" = some (some (.ref f37))) (l37 : K.lookup f37 = some ⟨oc37, od37, .func (PySem.W.fnOf "passed_on" "passed_on" (defArgs st_passed_on) (defBody st_passed_on) (defScope st_passed_on) .none kV37 dc37 pm37 an37 cd37 ct37), sl37⟩) (c37 : PySem.W.codeIn K cd37 "passed_on" = true) (k37 : PySem.W.keepIn K (.ref f37) = true)
    (a38 : PySem.W.nsIn K mainGlobals "moving_table" = some (some (.ref f38))) (l38 : K.lookup f38 = some ⟨oc38, od38, .func (PySem.W.fnOf "moving_table" "moving_table" (defArgs st_moving_table) (defBody st_moving_table) (defScope st_moving_table) .none kV38 dc38 pm38 an38 cd38 ct38), sl38⟩) (c38 : PySem.W.codeIn K cd38 "moving_table" = true) (k38 : PySem.W.keepIn K (.ref f38) = true)
    (a39 : PySem.W.nsIn K mainGlobals "outcomes_of" = some (some (.ref f39))) (l39 : K.lookup f39 = some ⟨oc39, od39, .func (PySem.W.fnOf "outcomes_of" "outcomes_of" (defArgs st_outcomes_of) (defBody st_outcomes_of) (defScope st_outcomes_of) .none kV39 dc39 pm39 an39 cd39 ct39), sl39⟩) (c39 : PySem.W.codeIn K cd39 "outcomes_of" = true) (k39 : PySem.W.keepIn K (.ref f39) = true)
    (a40 : PySem.W.nsIn K mainGlobals "ask_names" = some (some (.ref f40))) (l40 : K.lookup f40 = some ⟨oc40, od40, .func (PySem.W.fnOf "ask_names" "ask_names" (defArgs st_ask_names) (defBody st_ask_names) (defScope st_ask_names) .none kV40 dc40 pm40 an40 cd40 ct40), sl40⟩) (c40 : PySem.W.codeIn K cd40 "ask_names" = true) (k40 : PySem.W.keepIn K (.ref f40) = true)
    (a41 : PySem.W.nsIn K mainGlobals "is_claim" = some (some (.ref f41))) (l41 : K.lookup f41 = some ⟨oc41, od41, .func (PySem.W.fnOf "is_claim" "is_claim" (defArgs st_is_claim) (defBody st_is_claim) (defScope st_is_claim) .none kV41 dc41 pm41 an41 cd41 ct41), sl41⟩) (c41 : PySem.W.codeIn K cd41 "is_claim" = true) (k41 : PySem.W.keepIn K (.ref f41) = true)
    (a42 : PySem.W.nsIn K mainGlobals "_law_named" = some (some (.ref f42))) (l42 : K.lookup f42 = some ⟨oc42, od42, .func (PySem.W.fnOf "_law_named" "_law_named" (defArgs st__law_named) (defBody st__law_named) (defScope st__law_named) .none kV42 dc42 pm42 an42 cd42 ct42), sl42⟩) (c42 : PySem.W.codeIn K cd42 "_law_named" = true) (k42 : PySem.W.keepIn K (.ref f42) = true)
    (a43 : PySem.W.nsIn K mainGlobals "_law_with" = some (some (.ref f43))) (l43 : K.lookup f43 = some ⟨oc43, od43, .func (PySem.W.fnOf "_law_with" "_law_with" (defArgs st__law_with) (defBody st__law_with) (defScope st__law_with) .none kV43 dc43 pm43 an43 cd43 ct43), sl43⟩) (c43 : PySem.W.codeIn K cd43 "_law_with" = true) (k43 : PySem.W.keepIn K (.ref f43) = true)
    (a44 : PySem.W.nsIn K mainGlobals "_law_other_forms" = some (some (.ref f44))) (l44 : K.lookup f44 = some ⟨oc44, od44, .func (PySem.W.fnOf "_law_other_forms" "_law_other_forms" (defArgs st__law_other_forms) (defBody st__law_other_forms) (defScope st__law_other_forms) .none kV44 dc44 pm44 an44 cd44 ct44), sl44⟩) (c44 : PySem.W.codeIn K cd44 "_law_other_forms" = true) (k44 : PySem.W.keepIn K (.ref f44) = true)
    (a45 : PySem.W.nsIn K mainGlobals "_law_more" = some (some (.ref f45))) (l45 : K.lookup f45 = some ⟨oc45, od45, .func (PySem.W.fnOf "_law_more" "_law_more" (defArgs st__law_more) (defBody st__law_more) (defScope st__law_more) .none kV45 dc45 pm45 an45 cd45 ct45), sl45⟩) (c45 : PySem.W.codeIn K cd45 "_law_more" = true) (k45 : PySem.W.keepIn K (.ref f45) = true)
    (a46 : PySem.W.nsIn K mainGlobals "_law_other_pairs" = some (some (.ref f46))) (l46 : K.lookup f46 = some ⟨oc46, od46, .func (PySem.W.fnOf "_law_other_pairs" "_law_other_pairs" (defArgs st__law_other_pairs) (defBody st__law_other_pairs) (defScope st__law_other_pairs) .none kV46 dc46 pm46 an46 cd46 ct46), sl46⟩) (c46 : PySem.W.codeIn K cd46 "_law_other_pairs" = true) (k46 : PySem.W.keepIn K (.ref f46) = true)
    (a47 : PySem.W.nsIn K mainGlobals "_law_data" = some (some (.ref f47))) (l47 : K.lookup f47 = some ⟨oc47, od47, .func (PySem.W.fnOf "_law_data" "_law_data" (defArgs st__law_data) (defBody st__law_data) (defScope st__law_data) .none kV47 dc47 pm47 an47 cd47 ct47), sl47⟩) (c47 : PySem.W.codeIn K cd47 "_law_data" = true) (k47 : PySem.W.keepIn K (.ref f47) = true)
    (a48 : PySem.W.nsIn K mainGlobals "_law_is_int" = some (some (.ref f48))) (l48 : K.lookup f48 = some ⟨oc48, od48, .func (PySem.W.fnOf "_law_is_int" "_law_is_int" (defArgs st__law_is_int) (defBody st__law_is_int) (defScope st__law_is_int) .none kV48 dc48 pm48 an48 cd48 ct48), sl48⟩) (c48 : PySem.W.codeIn K cd48 "_law_is_int" = true) (k48 : PySem.W.keepIn K (.ref f48) = true)
    (a49 : PySem.W.nsIn K mainGlobals "_law_is_form" = some (some (.ref f49))) (l49 : K.lookup f49 = some ⟨oc49, od49, .func (PySem.W.fnOf "_law_is_form" "_law_is_form" (defArgs st__law_is_form) (defBody st__law_is_form) (defScope st__law_is_form) .none kV49 dc49 pm49 an49 cd49 ct49), sl49⟩) (c49 : PySem.W.codeIn K cd49 "_law_is_form" = true) (k49 : PySem.W.keepIn K (.ref f49) = true)
    (a50 : PySem.W.nsIn K mainGlobals "_law_are_forms" = some (some (.ref f50))) (l50 : K.lookup f50 = some ⟨oc50, od50, .func (PySem.W.fnOf "_law_are_forms" "_law_are_forms" (defArgs st__law_are_forms) (defBody st__law_are_forms) (defScope st__law_are_forms) .none kV50 dc50 pm50 an50 cd50 ct50), sl50⟩) (c50 : PySem.W.codeIn K cd50 "_law_are_forms" = true) (k50 : PySem.W.keepIn K (.ref f50) = true)
    (a51 : PySem.W.nsIn K mainGlobals "_law_are_pairs" = some (some (.ref f51))) (l51 : K.lookup f51 = some ⟨oc51, od51, .func (PySem.W.fnOf "_law_are_pairs" "_law_are_pairs" (defArgs st__law_are_pairs) (defBody st__law_are_pairs) (defScope st__law_are_pairs) .none kV51 dc51 pm51 an51 cd51 ct51), sl51⟩) (c51 : PySem.W.codeIn K cd51 "_law_are_pairs" = true) (k51 : PySem.W.keepIn K (.ref f51) = true)
    (a52 : PySem.W.nsIn K mainGlobals "_law_judged" = some (some (.ref f52))) (l52 : K.lookup f52 = some ⟨oc52, od52, .func (PySem.W.fnOf "_law_judged" "_law_judged" (defArgs st__law_judged) (defBody st__law_judged) (defScope st__law_judged) .none kV52 dc52 pm52 an52 cd52 ct52), sl52⟩) (c52 : PySem.W.codeIn K cd52 "_law_judged" = true) (k52 : PySem.W.keepIn K (.ref f52) = true)
    (a53 : PySem.W.nsIn K mainGlobals "law" = some (some (.ref f53))) (l53 : K.lookup f53 = some ⟨oc53, od53, .func (PySem.W.fnOf "law" "law" (defArgs st_law) (defBody st_law) (defScope st_law) .none kV53 dc53 pm53 an53 cd53 ct53), sl53⟩) (c53 : PySem.W.codeIn K cd53 "law" = true) (k53 : PySem.W.keepIn K (.ref f53) = true)
    {t_LEFT t_RIGHT : Tok} (x_LEFT : PySem.W.nsIn K mainGlobals "LEFT" = some (some (.str "l." t_LEFT))) (x_RIGHT : PySem.W.nsIn K mainGlobals "RIGHT" = some (some (.str "r." t_RIGHT)))
    (y_list : PySem.W.nsIn K mainGlobals "list" = some none) (y_int : PySem.W.nsIn K mainGlobals "int" = some none) (y_len : PySem.W.nsIn K mainGlobals "len" = some none) (y_abs : PySem.W.nsIn K mainGlobals "abs" = some none) (y_range : PySem.W.nsIn K mainGlobals "range" = some none) (y_tuple : PySem.W.nsIn K mainGlobals "tuple" = some none) (y_sorted : PySem.W.nsIn K mainGlobals "sorted" = some none) (y_isinstance : PySem.W.nsIn K mainGlobals "isinstance" = some none) (y_any : PySem.W.nsIn K mainGlobals "any" = some none) (y_bool : PySem.W.nsIn K mainGlobals "bool" = some none) (y_str : PySem.W.nsIn K mainGlobals "str" = some none) (y_all : PySem.W.nsIn K mainGlobals "all" = some none) (y_enumerate : PySem.W.nsIn K mainGlobals "enumerate" = some none) (y_zip : PySem.W.nsIn K mainGlobals "zip" = some none) :
    ∃ fd : FuncData, (∀ (s : Shared) (v : Value), BindsTo s fd ⟨[v], []⟩ [("script", v)]) ∧ ∀ base : Heap, K.In base → base.Ns mainGlobals mg → FnOk l.prog w K mg base CX0 8 fa fd ["script"] (spLaw K 63) := by
  have e := hfa.symm.trans (PySem.W.mg_of X G a53)
  cases e
  have U0 := fun_mk (st := st__law_start) l0 c0 k0
  have T__law_start : FnI K mg "_law_start" st__law_start _ _ ["script"] := ⟨U0, PySem.W.mg_of X G a0, U0.binds (ps := ["script"]) fun _ _ _ _ _ _ us hl => match us, hl with | [_], _ => rfl⟩
  have U1 := fun_mk (st := st__law_draw) l1 c1 k1
  have T__law_draw : FnI K mg "_law_draw" st__law_draw _ _ ["state", "most"] := ⟨U1, PySem.W.mg_of X G a1, U1.binds (ps := ["state", "most"]) fun _ _ _ _ _ _ us hl => match us, hl with | [_, _], _ => rfl⟩
  have U2 := fun_mk (st := st__law_words) l2 c2 k2
  have T__law_words : FnI K mg "_law_words" st__law_words _ _ ["state", "many"] := ⟨U2, PySem.W.mg_of X G a2, U2.binds (ps := ["state", "many"]) fun _ _ _ _ _ _ us hl => match us, hl with | [_, _], _ => rfl⟩
  have U3 := fun_mk (st := st__law_shuffled) l3 c3 k3
  have T__law_shuffled : FnI K mg "_law_shuffled" st__law_shuffled _ _ ["state", "items"] := ⟨U3, PySem.W.mg_of X G a3, U3.binds (ps := ["state", "items"]) fun _ _ _ _ _ _ us hl => match us, hl with | [_, _], _ => rfl⟩
  have U4 := fun_mk (st := st__law_proc_of) l4 c4 k4
  have T__law_proc_of : FnI K mg "_law_proc_of" st__law_proc_of _ _ ["state", "name", "words"] := ⟨U4, PySem.W.mg_of X G a4, U4.binds (ps := ["state", "name", "words"]) fun _ _ _ _ _ _ us hl => match us, hl with | [_, _, _], _ => rfl⟩
  have U5 := fun_mk (st := st__law_core_of) l5 c5 k5
  have T__law_core_of : FnI K mg "_law_core_of" st__law_core_of _ _ ["state"] := ⟨U5, PySem.W.mg_of X G a5, U5.binds (ps := ["state"]) fun _ _ _ _ _ _ us hl => match us, hl with | [_], _ => rfl⟩
  have U6 := fun_mk (st := st__law_statements) l6 c6 k6
  have T__law_statements : FnI K mg "_law_statements" st__law_statements _ _ ["body"] := ⟨U6, PySem.W.mg_of X G a6, U6.binds (ps := ["body"]) fun _ _ _ _ _ _ us hl => match us, hl with | [_], _ => rfl⟩
  have U7 := fun_mk (st := st__law_key) l7 c7 k7
  have T__law_key : FnI K mg "_law_key" st__law_key _ _ ["item"] := ⟨U7, PySem.W.mg_of X G a7, U7.binds (ps := ["item"]) fun _ _ _ _ _ _ us hl => match us, hl with | [_], _ => rfl⟩
  have U8 := fun_mk (st := st__law_moves) l8 c8 k8
  have T__law_moves : FnI K mg "_law_moves" st__law_moves _ _ ["core"] := ⟨U8, PySem.W.mg_of X G a8, U8.binds (ps := ["core"]) fun _ _ _ _ _ _ us hl => match us, hl with | [_], _ => rfl⟩
  have U9 := fun_mk (st := st__law_one_of) l9 c9 k9
  have T__law_one_of : FnI K mg "_law_one_of" st__law_one_of _ _ ["state", "items"] := ⟨U9, PySem.W.mg_of X G a9, U9.binds (ps := ["state", "items"]) fun _ _ _ _ _ _ us hl => match us, hl with | [_, _], _ => rfl⟩
  have U10 := fun_mk (st := st__law_form) l10 c10 k10
  have T__law_form : FnI K mg "_law_form" st__law_form _ _ ["constant", "pairs"] := ⟨U10, PySem.W.mg_of X G a10, U10.binds (ps := ["constant", "pairs"]) fun _ _ _ _ _ _ us hl => match us, hl with | [_, _], _ => rfl⟩
  have U11 := fun_mk (st := st__law_forms) l11 c11 k11
  have T__law_forms : FnI K mg "_law_forms" st__law_forms _ _ ["state", "names", "most"] := ⟨U11, PySem.W.mg_of X G a11, U11.binds (ps := ["state", "names", "most"]) fun _ _ _ _ _ _ us hl => match us, hl with | [_, _, _], _ => rfl⟩
  have U12 := fun_mk (st := st__law_input_names) l12 c12 k12
  have T__law_input_names : FnI K mg "_law_input_names" st__law_input_names _ _ ["mark", "p"] := ⟨U12, PySem.W.mg_of X G a12, U12.binds (ps := ["mark", "p"]) fun _ _ _ _ _ _ us hl => match us, hl with | [_, _], _ => rfl⟩
  have U13 := fun_mk (st := st__law_outcomes) l13 c13 k13
  have T__law_outcomes : FnI K mg "_law_outcomes" st__law_outcomes _ _ ["p", "moved"] := ⟨U13, PySem.W.mg_of X G a13, U13.binds (ps := ["p", "moved"]) fun _ _ _ _ _ _ us hl => match us, hl with | [_, _], _ => rfl⟩
  have U14 := fun_mk (st := st__law_ask_names) l14 c14 k14
  have T__law_ask_names : FnI K mg "_law_ask_names" st__law_ask_names _ _ ["mark", "p", "moves"] := ⟨U14, PySem.W.mg_of X G a14, U14.binds (ps := ["mark", "p", "moves"]) fun _ _ _ _ _ _ us hl => match us, hl with | [_, _, _], _ => rfl⟩
  have U15 := fun_mk (st := st__law_arrays) l15 c15 k15
  have T__law_arrays : FnI K mg "_law_arrays" st__law_arrays _ _ ["p"] := ⟨U15, PySem.W.mg_of X G a15, U15.binds (ps := ["p"]) fun _ _ _ _ _ _ us hl => match us, hl with | [_], _ => rfl⟩
  have U16 := fun_mk (st := st__law_pairs) l16 c16 k16
  have T__law_pairs : FnI K mg "_law_pairs" st__law_pairs _ _ ["state", "p", "q"] := ⟨U16, PySem.W.mg_of X G a16, U16.binds (ps := ["state", "p", "q"]) fun _ _ _ _ _ _ us hl => match us, hl with | [_, _, _], _ => rfl⟩
  have U17 := fun_mk (st := st__law_claim) l17 c17 k17
  have T__law_claim : FnI K mg "_law_claim" st__law_claim _ _ ["state", "world"] := ⟨U17, PySem.W.mg_of X G a17, U17.binds (ps := ["state", "world"]) fun _ _ _ _ _ _ us hl => match us, hl with | [_, _], _ => rfl⟩
  have U18 := fun_mk (st := st_is_tuple) l18 c18 k18
  have T_is_tuple : FnI K mg "is_tuple" st_is_tuple _ _ ["datum", "many"] := ⟨U18, PySem.W.mg_of X G a18, U18.binds (ps := ["datum", "many"]) fun _ _ _ _ _ _ us hl => match us, hl with | [_, _], _ => rfl⟩
  have U19 := fun_mk (st := st_has_proc) l19 c19 k19
  have T_has_proc : FnI K mg "has_proc" st_has_proc _ _ ["core", "name"] := ⟨U19, PySem.W.mg_of X G a19, U19.binds (ps := ["core", "name"]) fun _ _ _ _ _ _ us hl => match us, hl with | [_, _], _ => rfl⟩
  have U20 := fun_mk (st := st_proc_named) l20 c20 k20
  have T_proc_named : FnI K mg "proc_named" st_proc_named _ _ ["core", "name"] := ⟨U20, PySem.W.mg_of X G a20, U20.binds (ps := ["core", "name"]) fun _ _ _ _ _ _ us hl => match us, hl with | [_, _], _ => rfl⟩
  have U21 := fun_mk (st := st_array_parameters) l21 c21 k21
  have T_array_parameters : FnI K mg "array_parameters" st_array_parameters _ _ ["core", "name"] := ⟨U21, PySem.W.mg_of X G a21, U21.binds (ps := ["core", "name"]) fun _ _ _ _ _ _ us hl => match us, hl with | [_, _], _ => rfl⟩
  have U22 := fun_mk (st := st_is_integer) l22 c22 k22
  have T_is_integer : FnI K mg "is_integer" st_is_integer _ _ ["datum"] := ⟨U22, PySem.W.mg_of X G a22, U22.binds (ps := ["datum"]) fun _ _ _ _ _ _ us hl => match us, hl with | [_], _ => rfl⟩
  have U23 := fun_mk (st := st_is_form) l23 c23 k23
  have T_is_form : FnI K mg "is_form" st_is_form _ _ ["datum"] := ⟨U23, PySem.W.mg_of X G a23, U23.binds (ps := ["datum"]) fun _ _ _ _ _ _ us hl => match us, hl with | [_], _ => rfl⟩
  have U24 := fun_mk (st := st_is_form_over) l24 c24 k24
  have T_is_form_over : FnI K mg "is_form_over" st_is_form_over _ _ ["datum", "names"] := ⟨U24, PySem.W.mg_of X G a24, U24.binds (ps := ["datum", "names"]) fun _ _ _ _ _ _ us hl => match us, hl with | [_, _], _ => rfl⟩
  have U25 := fun_mk (st := st_are_forms) l25 c25 k25
  have T_are_forms : FnI K mg "are_forms" st_are_forms _ _ ["datum", "names"] := ⟨U25, PySem.W.mg_of X G a25, U25.binds (ps := ["datum", "names"]) fun _ _ _ _ _ _ us hl => match us, hl with | [_, _], _ => rfl⟩
  have U26 := fun_mk (st := st_marked) l26 c26 k26
  have T_marked : FnI K mg "marked" st_marked _ _ ["mark", "names"] := ⟨U26, PySem.W.mg_of X G a26, U26.binds (ps := ["mark", "names"]) fun _ _ _ _ _ _ us hl => match us, hl with | [_, _], _ => rfl⟩
  have U27 := fun_mk (st := st_variable_of) l27 c27 k27
  have T_variable_of : FnI K mg "variable_of" st_variable_of _ _ ["item"] := ⟨U27, PySem.W.mg_of X G a27, U27.binds (ps := ["item"]) fun _ _ _ _ _ _ us hl => match us, hl with | [_], _ => rfl⟩
  have U28 := fun_mk (st := st_inputs_of_proc) l28 c28 k28
  have T_inputs_of_proc : FnI K mg "inputs_of_proc" st_inputs_of_proc _ _ ["proc"] := ⟨U28, PySem.W.mg_of X G a28, U28.binds (ps := ["proc"]) fun _ _ _ _ _ _ us hl => match us, hl with | [_], _ => rfl⟩
  have U29 := fun_mk (st := st_inputs_of) l29 c29 k29
  have T_inputs_of : FnI K mg "inputs_of" st_inputs_of _ _ ["core", "name"] := ⟨U29, PySem.W.mg_of X G a29, U29.binds (ps := ["core", "name"]) fun _ _ _ _ _ _ us hl => match us, hl with | [_, _], _ => rfl⟩
  have U30 := fun_mk (st := st_given_names) l30 c30 k30
  have T_given_names : FnI K mg "given_names" st_given_names _ _ ["left", "right", "claim"] := ⟨U30, PySem.W.mg_of X G a30, U30.binds (ps := ["left", "right", "claim"]) fun _ _ _ _ _ _ us hl => match us, hl with | [_, _, _], _ => rfl⟩
  have U31 := fun_mk (st := st_are_pairs) l31 c31 k31
  have T_are_pairs : FnI K mg "are_pairs" st_are_pairs _ _ ["datum", "left_arrays", "right_arrays"] := ⟨U31, PySem.W.mg_of X G a31, U31.binds (ps := ["datum", "left_arrays", "right_arrays"]) fun _ _ _ _ _ _ us hl => match us, hl with | [_, _, _], _ => rfl⟩
  have U32 := fun_mk (st := st_count_name) l32 c32 k32
  have T_count_name : FnI K mg "count_name" st_count_name _ _ ["mark"] := ⟨U32, PySem.W.mg_of X G a32, U32.binds (ps := ["mark"]) fun _ _ _ _ _ _ us hl => match us, hl with | [_], _ => rfl⟩
  have U33 := fun_mk (st := st_moving_items) l33 c33 k33
  have T_moving_items : FnI K mg "moving_items" st_moving_items _ _ ["proc", "moving"] := ⟨U33, PySem.W.mg_of X G a33, U33.binds (ps := ["proc", "moving"]) fun _ _ _ _ _ _ us hl => match us, hl with | [_, _], _ => rfl⟩
  have U34 := fun_mk (st := st_outcomes_of_proc) l34 c34 k34
  have T_outcomes_of_proc : FnI K mg "outcomes_of_proc" st_outcomes_of_proc _ _ ["proc", "moving"] := ⟨U34, PySem.W.mg_of X G a34, U34.binds (ps := ["proc", "moving"]) fun _ _ _ _ _ _ us hl => match us, hl with | [_, _], _ => rfl⟩
  have U35 := fun_mk (st := st_statements_in) l35 c35 k35
  have T_statements_in : FnI K mg "statements_in" st_statements_in _ _ ["body"] := ⟨U35, PySem.W.mg_of X G a35, U35.binds (ps := ["body"]) fun _ _ _ _ _ _ us hl => match us, hl with | [_], _ => rfl⟩
  have U36 := fun_mk (st := st_assigned_in) l36 c36 k36
  have T_assigned_in : FnI K mg "assigned_in" st_assigned_in _ _ ["proc"] := ⟨U36, PySem.W.mg_of X G a36, U36.binds (ps := ["proc"]) fun _ _ _ _ _ _ us hl => match us, hl with | [_], _ => rfl⟩
  have U37 := fun_mk (st := st_passed_on) l37 c37 k37
  have T_passed_on : FnI K mg "passed_on" st_passed_on _ _ ["core", "moving", "proc"] := ⟨U37, PySem.W.mg_of X G a37, U37.binds (ps := ["core", "moving", "proc"]) fun _ _ _ _ _ _ us hl => match us, hl with | [_, _, _], _ => rfl⟩
  have U38 := fun_mk (st := st_moving_table) l38 c38 k38
  have T_moving_table : FnI K mg "moving_table" st_moving_table _ _ ["core"] := ⟨U38, PySem.W.mg_of X G a38, U38.binds (ps := ["core"]) fun _ _ _ _ _ _ us hl => match us, hl with | [_], _ => rfl⟩
  have U39 := fun_mk (st := st_outcomes_of) l39 c39 k39
  have T_outcomes_of : FnI K mg "outcomes_of" st_outcomes_of _ _ ["core", "name"] := ⟨U39, PySem.W.mg_of X G a39, U39.binds (ps := ["core", "name"]) fun _ _ _ _ _ _ us hl => match us, hl with | [_, _], _ => rfl⟩
  have U40 := fun_mk (st := st_ask_names) l40 c40 k40
  have T_ask_names : FnI K mg "ask_names" st_ask_names _ _ ["left", "right", "claim"] := ⟨U40, PySem.W.mg_of X G a40, U40.binds (ps := ["left", "right", "claim"]) fun _ _ _ _ _ _ us hl => match us, hl with | [_, _, _], _ => rfl⟩
  have U41 := fun_mk (st := st_is_claim) l41 c41 k41
  have T_is_claim : FnI K mg "is_claim" st_is_claim _ _ ["left", "right", "datum"] := ⟨U41, PySem.W.mg_of X G a41, U41.binds (ps := ["left", "right", "datum"]) fun _ _ _ _ _ _ us hl => match us, hl with | [_, _, _], _ => rfl⟩
  have U42 := fun_mk (st := st__law_named) l42 c42 k42
  have T__law_named : FnI K mg "_law_named" st__law_named _ _ ["core", "name"] := ⟨U42, PySem.W.mg_of X G a42, U42.binds (ps := ["core", "name"]) fun _ _ _ _ _ _ us hl => match us, hl with | [_, _], _ => rfl⟩
  have U43 := fun_mk (st := st__law_with) l43 c43 k43
  have T__law_with : FnI K mg "_law_with" st__law_with _ _ ["claim", "k", "part"] := ⟨U43, PySem.W.mg_of X G a43, U43.binds (ps := ["claim", "k", "part"]) fun _ _ _ _ _ _ us hl => match us, hl with | [_, _, _], _ => rfl⟩
  have U44 := fun_mk (st := st__law_other_forms) l44 c44 k44
  have T__law_other_forms : FnI K mg "_law_other_forms" st__law_other_forms _ _ ["state", "p", "q"] := ⟨U44, PySem.W.mg_of X G a44, U44.binds (ps := ["state", "p", "q"]) fun _ _ _ _ _ _ us hl => match us, hl with | [_, _, _], _ => rfl⟩
  have U45 := fun_mk (st := st__law_more) l45 c45 k45
  have T__law_more : FnI K mg "_law_more" st__law_more _ _ ["state", "parts", "part"] := ⟨U45, PySem.W.mg_of X G a45, U45.binds (ps := ["state", "parts", "part"]) fun _ _ _ _ _ _ us hl => match us, hl with | [_, _, _], _ => rfl⟩
  have U46 := fun_mk (st := st__law_other_pairs) l46 c46 k46
  have T__law_other_pairs : FnI K mg "_law_other_pairs" st__law_other_pairs _ _ ["state", "p", "q"] := ⟨U46, PySem.W.mg_of X G a46, U46.binds (ps := ["state", "p", "q"]) fun _ _ _ _ _ _ us hl => match us, hl with | [_, _, _], _ => rfl⟩
  have U47 := fun_mk (st := st__law_data) l47 c47 k47
  have T__law_data : FnI K mg "_law_data" st__law_data _ _ ["state", "left", "right", "claim"] := ⟨U47, PySem.W.mg_of X G a47, U47.binds (ps := ["state", "left", "right", "claim"]) fun _ _ _ _ _ _ us hl => match us, hl with | [_, _, _, _], _ => rfl⟩
  have U48 := fun_mk (st := st__law_is_int) l48 c48 k48
  have T__law_is_int : FnI K mg "_law_is_int" st__law_is_int _ _ ["x"] := ⟨U48, PySem.W.mg_of X G a48, U48.binds (ps := ["x"]) fun _ _ _ _ _ _ us hl => match us, hl with | [_], _ => rfl⟩
  have U49 := fun_mk (st := st__law_is_form) l49 c49 k49
  have T__law_is_form : FnI K mg "_law_is_form" st__law_is_form _ _ ["f", "names"] := ⟨U49, PySem.W.mg_of X G a49, U49.binds (ps := ["f", "names"]) fun _ _ _ _ _ _ us hl => match us, hl with | [_, _], _ => rfl⟩
  have U50 := fun_mk (st := st__law_are_forms) l50 c50 k50
  have T__law_are_forms : FnI K mg "_law_are_forms" st__law_are_forms _ _ ["datum", "names"] := ⟨U50, PySem.W.mg_of X G a50, U50.binds (ps := ["datum", "names"]) fun _ _ _ _ _ _ us hl => match us, hl with | [_, _], _ => rfl⟩
  have U51 := fun_mk (st := st__law_are_pairs) l51 c51 k51
  have T__law_are_pairs : FnI K mg "_law_are_pairs" st__law_are_pairs _ _ ["datum", "first", "second"] := ⟨U51, PySem.W.mg_of X G a51, U51.binds (ps := ["datum", "first", "second"]) fun _ _ _ _ _ _ us hl => match us, hl with | [_, _, _], _ => rfl⟩
  have U52 := fun_mk (st := st__law_judged) l52 c52 k52
  have T__law_judged : FnI K mg "_law_judged" st__law_judged _ _ ["world", "datum"] := ⟨U52, PySem.W.mg_of X G a52, U52.binds (ps := ["world", "datum"]) fun _ _ _ _ _ _ us hl => match us, hl with | [_, _], _ => rfl⟩
  have U53 := fun_mk (st := st_law) l53 c53 k53
  have T_law : FnI K mg "law" st_law _ _ ["script"] := ⟨U53, PySem.W.mg_of X G a53, U53.binds (ps := ["script"]) fun _ _ _ _ _ _ us hl => match us, hl with | [_], _ => rfl⟩
  have z_list := PySem.W.mg_none_of X G y_list
  have z_int := PySem.W.mg_none_of X G y_int
  have z_len := PySem.W.mg_none_of X G y_len
  have z_abs := PySem.W.mg_none_of X G y_abs
  have z_range := PySem.W.mg_none_of X G y_range
  have z_tuple := PySem.W.mg_none_of X G y_tuple
  have z_sorted := PySem.W.mg_none_of X G y_sorted
  have z_isinstance := PySem.W.mg_none_of X G y_isinstance
  have z_any := PySem.W.mg_none_of X G y_any
  have z_bool := PySem.W.mg_none_of X G y_bool
  have z_str := PySem.W.mg_none_of X G y_str
  have z_all := PySem.W.mg_none_of X G y_all
  have z_enumerate := PySem.W.mg_none_of X G y_enumerate
  have z_zip := PySem.W.mg_none_of X G y_zip
  have q_LEFT := PySem.W.mg_of X G x_LEFT
  have q_RIGHT := PySem.W.mg_of X G x_RIGHT
  refine ⟨PySem.W.fnOf "law" "law" (defArgs st_law) (defBody st_law) (defScope st_law) .none kV53 dc53 pm53 an53 cd53 ct53, fun s v => .of_eq rfl, fun base _ _ => ?_⟩
  have F__law_start := mp__law_start (P := l.prog) (mg := mg) (w := w) (base := base) (k := 0) T__law_start.fn z_list
  have F__law_draw := mp__law_draw (P := l.prog) (mg := mg) (w := w) (base := base) (k := 0) T__law_draw.fn z_int z_len z_abs
  have F__law_words := mp__law_words (P := l.prog) (mg := mg) (w := w) (base := base) (k := 1) T__law_words.fn T__law_draw (F__law_draw.mono (by decide)) z_range z_int
  have F0__law_shuffled := mp__law_shuffled (P := l.prog) (mg := mg) (w := w) (base := base) (k := 1) T__law_shuffled.fn T__law_draw (F__law_draw.mono (by decide)) z_len
  have F__law_shuffled := sp_gc F0__law_shuffled gc_shuf
  have F__law_proc_of := mp__law_proc_of (P := l.prog) (mg := mg) (w := w) (base := base) (k := 2) T__law_proc_of.fn T__law_shuffled (F__law_shuffled.mono (by decide)) T__law_draw (F__law_draw.mono (by decide)) z_tuple
  have F__law_core_of := mp__law_core_of (P := l.prog) (mg := mg) (w := w) (base := base) (k := 3) T__law_core_of.fn T__law_words (F__law_words.mono (by decide)) T__law_draw (F__law_draw.mono (by decide)) T__law_proc_of (F__law_proc_of.mono (by decide)) z_sorted z_tuple
  have FR__law_statements : ∀ n : Nat, FnOk l.prog w K mg base CX0 (n + 1) f6 _ ["body"] (sp K mg 1 (lstmtL n)) := fun n => by
    induction n with
    | zero => exact fn_bad
    | succ n ih => exact sp_gc (mp__law_statements T__law_statements ih) gc_fgt
  have F__law_statements := FR__law_statements 1
  have F__law_key := mp__law_key (P := l.prog) (mg := mg) (w := w) (base := base) (k := 0) T__law_key.fn
  have F0__law_moves := mp__law_moves (P := l.prog) (mg := mg) (w := w) (base := base) (k := 2) T__law_moves.fn T__law_statements (F__law_statements.mono (by decide)) T__law_key (F__law_key.mono (by decide)) z_list z_range z_len
  have F__law_moves := sp_gc F0__law_moves gc_fgt
  have F__law_one_of := mp__law_one_of (P := l.prog) (mg := mg) (w := w) (base := base) (k := 1) T__law_one_of.fn T__law_draw (F__law_draw.mono (by decide)) z_len
  have F0__law_form := mp__law_form (P := l.prog) (mg := mg) (w := w) (base := base) (k := 0) T__law_form.fn z_sorted z_tuple
  have F__law_form := sp_gc F0__law_form gc_form
  have F0__law_forms := mp__law_forms (P := l.prog) (mg := mg) (w := w) (base := base) (k := 2) T__law_forms.fn T__law_draw (F__law_draw.mono (by decide)) T__law_one_of (F__law_one_of.mono (by decide)) T__law_form (F__law_form.mono (by decide)) z_range z_tuple
  have F__law_forms := sp_gc F0__law_forms gc_fgt
  have F__law_input_names := mp__law_input_names (P := l.prog) (mg := mg) (w := w) (base := base) (k := 1) T__law_input_names.fn T__law_key (F__law_key.mono (by decide))
  have F__law_outcomes := mp__law_outcomes (P := l.prog) (mg := mg) (w := w) (base := base) (k := 0) T__law_outcomes.fn z_list
  have F__law_ask_names := mp__law_ask_names (P := l.prog) (mg := mg) (w := w) (base := base) (k := 2) T__law_ask_names.fn T__law_input_names (F__law_input_names.mono (by decide)) T__law_outcomes (F__law_outcomes.mono (by decide))
  have F__law_arrays := mp__law_arrays (P := l.prog) (mg := mg) (w := w) (base := base) (k := 0) T__law_arrays.fn
  have F__law_pairs := mp__law_pairs (P := l.prog) (mg := mg) (w := w) (base := base) (k := 2) T__law_pairs.fn T__law_arrays (F__law_arrays.mono (by decide)) T__law_shuffled (F__law_shuffled.mono (by decide)) T__law_draw (F__law_draw.mono (by decide)) z_len z_tuple
  have F__law_claim := mp__law_claim (P := l.prog) (mg := mg) (w := w) (base := base) (k := 3) T__law_claim.fn T__law_one_of (F__law_one_of.mono (by decide)) T__law_forms (F__law_forms.mono (by decide)) T__law_input_names (F__law_input_names.mono (by decide)) T__law_ask_names (F__law_ask_names.mono (by decide)) T__law_pairs (F__law_pairs.mono (by decide))
  have F_is_tuple := mp_is_tuple (P := l.prog) (mg := mg) (w := w) (base := base) (k := 0) T_is_tuple.fn z_isinstance z_tuple z_len
  have F_has_proc := mp_has_proc (P := l.prog) (mg := mg) (w := w) (base := base) (k := 0) T_has_proc.fn z_any
  have F_proc_named := mp_proc_named (P := l.prog) (mg := mg) (w := w) (base := base) (k := 0) T_proc_named.fn
  have F_array_parameters := mp_array_parameters (P := l.prog) (mg := mg) (w := w) (base := base) (k := 1) T_array_parameters.fn T_proc_named (F_proc_named.mono (by decide)) z_tuple
  have F_is_integer := mp_is_integer (P := l.prog) (mg := mg) (w := w) (base := base) (k := 0) T_is_integer.fn z_isinstance z_int z_bool
  have F_is_form := mp_is_form (P := l.prog) (mg := mg) (w := w) (base := base) (k := 1) T_is_form.fn T_is_tuple (F_is_tuple.mono (by decide)) T_is_integer (F_is_integer.mono (by decide)) z_isinstance z_tuple z_str
  have F_is_form_over := mp_is_form_over (P := l.prog) (mg := mg) (w := w) (base := base) (k := 2) T_is_form_over.fn T_is_form (F_is_form.mono (by decide)) z_all
  have F_are_forms := mp_are_forms (P := l.prog) (mg := mg) (w := w) (base := base) (k := 3) T_are_forms.fn T_is_form_over (F_is_form_over.mono (by decide)) z_isinstance z_tuple z_all
  have F_marked := mp_marked (P := l.prog) (mg := mg) (w := w) (base := base) (k := 0) T_marked.fn z_tuple
  have F_variable_of := mp_variable_of (P := l.prog) (mg := mg) (w := w) (base := base) (k := 0) T_variable_of.fn
  have F_inputs_of_proc := mp_inputs_of_proc (P := l.prog) (mg := mg) (w := w) (base := base) (k := 1) T_inputs_of_proc.fn T_variable_of (F_variable_of.mono (by decide)) z_tuple
  have F_inputs_of := mp_inputs_of (P := l.prog) (mg := mg) (w := w) (base := base) (k := 2) T_inputs_of.fn T_inputs_of_proc (F_inputs_of_proc.mono (by decide)) T_proc_named (F_proc_named.mono (by decide))
  have F_given_names := mp_given_names (P := l.prog) (mg := mg) (w := w) (base := base) (k := 3) T_given_names.fn T_marked (F_marked.mono (by decide)) T_inputs_of (F_inputs_of.mono (by decide)) q_LEFT q_RIGHT
  have F_are_pairs := mp_are_pairs (P := l.prog) (mg := mg) (w := w) (base := base) (k := 1) T_are_pairs.fn T_is_tuple (F_is_tuple.mono (by decide)) z_isinstance z_tuple z_enumerate
  have F_count_name := mp_count_name (P := l.prog) (mg := mg) (w := w) (base := base) (k := 0) T_count_name.fn
  have F_moving_items := mp_moving_items (P := l.prog) (mg := mg) (w := w) (base := base) (k := 1) T_moving_items.fn T_variable_of (F_variable_of.mono (by decide))
  have F_outcomes_of_proc := mp_outcomes_of_proc (P := l.prog) (mg := mg) (w := w) (base := base) (k := 2) T_outcomes_of_proc.fn T_moving_items (F_moving_items.mono (by decide)) T_variable_of (F_variable_of.mono (by decide)) z_tuple
  have FR_statements_in : ∀ n : Nat, FnOk l.prog w K mg base CX0 (n + 1) f35 _ ["body"] (sp K mg 1 (stmtL n)) := fun n => by
    induction n with
    | zero => exact fn_bad
    | succ n ih => exact sp_gc (mp_statements_in T_statements_in ih) gc_fgt
  have F_statements_in := FR_statements_in 1
  have F0_assigned_in := mp_assigned_in (P := l.prog) (mg := mg) (w := w) (base := base) (k := 2) T_assigned_in.fn T_statements_in (F_statements_in.mono (by decide))
  have F_assigned_in := sp_gc F0_assigned_in gc_fgt
  have F0_passed_on := mp_passed_on (P := l.prog) (mg := mg) (w := w) (base := base) (k := 2) T_passed_on.fn T_statements_in (F_statements_in.mono (by decide)) T_proc_named (F_proc_named.mono (by decide)) z_zip
  have F_passed_on := sp_gc F0_passed_on gc_fgt
  have F0_moving_table := mp_moving_table (P := l.prog) (mg := mg) (w := w) (base := base) (k := 3) T_moving_table.fn T_assigned_in (F_assigned_in.mono (by decide)) T_passed_on (F_passed_on.mono (by decide))
  have F_moving_table := sp_gc F0_moving_table gc_fgt
  have F_outcomes_of := mp_outcomes_of (P := l.prog) (mg := mg) (w := w) (base := base) (k := 4) T_outcomes_of.fn T_outcomes_of_proc (F_outcomes_of_proc.mono (by decide)) T_moving_table (F_moving_table.mono (by decide)) T_proc_named (F_proc_named.mono (by decide))
  have F_ask_names := mp_ask_names (P := l.prog) (mg := mg) (w := w) (base := base) (k := 5) T_ask_names.fn T_given_names (F_given_names.mono (by decide)) T_count_name (F_count_name.mono (by decide)) T_marked (F_marked.mono (by decide)) T_outcomes_of (F_outcomes_of.mono (by decide)) q_RIGHT q_LEFT
  have F_is_claim := mp_is_claim (P := l.prog) (mg := mg) (w := w) (base := base) (k := 6) T_is_claim.fn T_is_tuple (F_is_tuple.mono (by decide)) T_has_proc (F_has_proc.mono (by decide)) T_array_parameters (F_array_parameters.mono (by decide)) T_are_forms (F_are_forms.mono (by decide)) T_given_names (F_given_names.mono (by decide)) T_are_pairs (F_are_pairs.mono (by decide)) T_ask_names (F_ask_names.mono (by decide))
  have F__law_named := mp__law_named (P := l.prog) (mg := mg) (w := w) (base := base) (k := 0) T__law_named.fn
  have F__law_with := mp__law_with (P := l.prog) (mg := mg) (w := w) (base := base) (k := 0) T__law_with.fn
  have F__law_other_forms := mp__law_other_forms (P := l.prog) (mg := mg) (w := w) (base := base) (k := 2) T__law_other_forms.fn T__law_one_of (F__law_one_of.mono (by decide)) T__law_input_names (F__law_input_names.mono (by decide)) T__law_key (F__law_key.mono (by decide)) T__law_shuffled (F__law_shuffled.mono (by decide))
  have F__law_more := mp__law_more (P := l.prog) (mg := mg) (w := w) (base := base) (k := 1) T__law_more.fn T__law_draw (F__law_draw.mono (by decide)) z_len
  have F__law_other_pairs := mp__law_other_pairs (P := l.prog) (mg := mg) (w := w) (base := base) (k := 2) T__law_other_pairs.fn T__law_one_of (F__law_one_of.mono (by decide)) T__law_shuffled (F__law_shuffled.mono (by decide))
  have F0__law_data := mp__law_data (P := l.prog) (mg := mg) (w := w) (base := base) (k := 3) T__law_data.fn T__law_named (F__law_named.mono (by decide)) T__law_one_of (F__law_one_of.mono (by decide)) T__law_with (F__law_with.mono (by decide)) T__law_other_forms (F__law_other_forms.mono (by decide)) T__law_draw (F__law_draw.mono (by decide)) T__law_more (F__law_more.mono (by decide)) T__law_other_pairs (F__law_other_pairs.mono (by decide)) z_range
  have F__law_data := sp_gc F0__law_data gc_fgt
  have F__law_is_int := mp__law_is_int (P := l.prog) (mg := mg) (w := w) (base := base) (k := 0) T__law_is_int.fn z_isinstance z_int z_bool
  have F__law_is_form := mp__law_is_form (P := l.prog) (mg := mg) (w := w) (base := base) (k := 1) T__law_is_form.fn T__law_is_int (F__law_is_int.mono (by decide)) z_isinstance z_tuple z_len z_str
  have F__law_are_forms := mp__law_are_forms (P := l.prog) (mg := mg) (w := w) (base := base) (k := 2) T__law_are_forms.fn T__law_is_form (F__law_is_form.mono (by decide)) z_isinstance z_tuple z_all
  have F__law_are_pairs := mp__law_are_pairs (P := l.prog) (mg := mg) (w := w) (base := base) (k := 0) T__law_are_pairs.fn z_isinstance z_tuple z_range z_len
  have F__law_judged := mp__law_judged (P := l.prog) (mg := mg) (w := w) (base := base) (k := 3) T__law_judged.fn T__law_named (F__law_named.mono (by decide)) T__law_input_names (F__law_input_names.mono (by decide)) T__law_are_forms (F__law_are_forms.mono (by decide)) T__law_ask_names (F__law_ask_names.mono (by decide)) T__law_are_pairs (F__law_are_pairs.mono (by decide)) T__law_arrays (F__law_arrays.mono (by decide)) z_isinstance z_tuple z_len z_all
  have F_law := mp_law (P := l.prog) (mg := mg) (w := w) (base := base) (k := 7) T_law.fn T__law_start (F__law_start.mono (by decide)) T__law_core_of (F__law_core_of.mono (by decide)) T__law_moves (F__law_moves.mono (by decide)) T__law_claim (F__law_claim.mono (by decide)) T_is_claim (F_is_claim.mono (by decide)) T__law_data (F__law_data.mono (by decide)) T__law_judged (F__law_judged.mono (by decide))
  exact law_of F_law fun cs hc => law_ok hc
end K06
open PySem PySem.W PyProof.Rows
set_option maxRecDepth 100000 in
set_option maxHeartbeats 0 in
theorem PySem.Challenge.cw_differwithin_k06_is_claim_holds : PySem.Challenge.rw_differwithin_k06_is_claim.Holds := by
  w_on; o_law; k_head; (case hw => w_witness2)
  k_fill
  refine MP.walkM (l := PySem.Challenge.rw_differwithin_k06_is_claim) (n := 63) (k := 8) rfl (by decide) rfl ⟨rfl, by decide, by decide⟩ (fun w h Y => PySem.W.kIn_of Y) ?F
  case F =>
    intro w mg fa h KX G hmg
    refine' K06.all_mk KX G hmg ?a0 ?l0 ?c0 ?k0 ?a1 ?l1 ?c1 ?k1 ?a2 ?l2 ?c2 ?k2 ?a3 ?l3 ?c3 ?k3 ?a4 ?l4 ?c4 ?k4 ?a5 ?l5 ?c5 ?k5 ?a6 ?l6 ?c6 ?k6 ?a7 ?l7 ?c7 ?k7 ?a8 ?l8 ?c8 ?k8 ?a9 ?l9 ?c9 ?k9 ?a10 ?l10 ?c10 ?k10 ?a11 ?l11 ?c11 ?k11 ?a12 ?l12 ?c12 ?k12 ?a13 ?l13 ?c13 ?k13 ?a14 ?l14 ?c14 ?k14 ?a15 ?l15 ?c15 ?k15 ?a16 ?l16 ?c16 ?k16 ?a17 ?l17 ?c17 ?k17 ?a18 ?l18 ?c18 ?k18 ?a19 ?l19 ?c19 ?k19 ?a20 ?l20 ?c20 ?k20 ?a21 ?l21 ?c21 ?k21 ?a22 ?l22 ?c22 ?k22 ?a23 ?l23 ?c23 ?k23 ?a24 ?l24 ?c24 ?k24 ?a25 ?l25 ?c25 ?k25 ?a26 ?l26 ?c26 ?k26 ?a27 ?l27 ?c27 ?k27 ?a28 ?l28 ?c28 ?k28 ?a29 ?l29 ?c29 ?k29 ?a30 ?l30 ?c30 ?k30 ?a31 ?l31 ?c31 ?k31 ?a32 ?l32 ?c32 ?k32 ?a33 ?l33 ?c33 ?k33 ?a34 ?l34 ?c34 ?k34 ?a35 ?l35 ?c35 ?k35 ?a36 ?l36 ?c36 ?k36 ?a37 ?l37 ?c37 ?k37 ?a38 ?l38 ?c38 ?k38 ?a39 ?l39 ?c39 ?k39 ?a40 ?l40 ?c40 ?k40 ?a41 ?l41 ?c41 ?k41 ?a42 ?l42 ?c42 ?k42 ?a43 ?l43 ?c43 ?k43 ?a44 ?l44 ?c44 ?k44 ?a45 ?l45 ?c45 ?k45 ?a46 ?l46 ?c46 ?k46 ?a47 ?l47 ?c47 ?k47 ?a48 ?l48 ?c48 ?k48 ?a49 ?l49 ?c49 ?k49 ?a50 ?l50 ?c50 ?k50 ?a51 ?l51 ?c51 ?k51 ?a52 ?l52 ?c52 ?k52 ?a53 ?l53 ?c53 ?k53 ?x_LEFT ?x_RIGHT ?y_list ?y_int ?y_len ?y_abs ?y_range ?y_tuple ?y_sorted ?y_isinstance ?y_any ?y_bool ?y_str ?y_all ?y_enumerate ?y_zip
    (case a0 => k_is); (case l0 => k_is); (case c0 => k_is); (case k0 => k_is)
    (case a1 => k_is); (case l1 => k_is); (case c1 => k_is); (case k1 => k_is)
    (case a2 => k_is); (case l2 => k_is); (case c2 => k_is); (case k2 => k_is)
    (case a3 => k_is); (case l3 => k_is); (case c3 => k_is); (case k3 => k_is)
    (case a4 => k_is); (case l4 => k_is); (case c4 => k_is); (case k4 => k_is)
    (case a5 => k_is); (case l5 => k_is); (case c5 => k_is); (case k5 => k_is)
    (case a6 => k_is); (case l6 => k_is); (case c6 => k_is); (case k6 => k_is)
    (case a7 => k_is); (case l7 => k_is); (case c7 => k_is); (case k7 => k_is)
    (case a8 => k_is); (case l8 => k_is); (case c8 => k_is); (case k8 => k_is)
    (case a9 => k_is); (case l9 => k_is); (case c9 => k_is); (case k9 => k_is)
    (case a10 => k_is); (case l10 => k_is); (case c10 => k_is); (case k10 => k_is)
    (case a11 => k_is); (case l11 => k_is); (case c11 => k_is); (case k11 => k_is)
    (case a12 => k_is); (case l12 => k_is); (case c12 => k_is); (case k12 => k_is)
    (case a13 => k_is); (case l13 => k_is); (case c13 => k_is); (case k13 => k_is)
    (case a14 => k_is); (case l14 => k_is); (case c14 => k_is); (case k14 => k_is)
    (case a15 => k_is); (case l15 => k_is); (case c15 => k_is); (case k15 => k_is)
    (case a16 => k_is); (case l16 => k_is); (case c16 => k_is); (case k16 => k_is)
    (case a17 => k_is); (case l17 => k_is); (case c17 => k_is); (case k17 => k_is)
    (case a18 => k_is); (case l18 => k_is); (case c18 => k_is); (case k18 => k_is)
    (case a19 => k_is); (case l19 => k_is); (case c19 => k_is); (case k19 => k_is)
    (case a20 => k_is); (case l20 => k_is); (case c20 => k_is); (case k20 => k_is)
    (case a21 => k_is); (case l21 => k_is); (case c21 => k_is); (case k21 => k_is)
    (case a22 => k_is); (case l22 => k_is); (case c22 => k_is); (case k22 => k_is)
    (case a23 => k_is); (case l23 => k_is); (case c23 => k_is); (case k23 => k_is)
    (case a24 => k_is); (case l24 => k_is); (case c24 => k_is); (case k24 => k_is)
    (case a25 => k_is); (case l25 => k_is); (case c25 => k_is); (case k25 => k_is)
    (case a26 => k_is); (case l26 => k_is); (case c26 => k_is); (case k26 => k_is)
    (case a27 => k_is); (case l27 => k_is); (case c27 => k_is); (case k27 => k_is)
    (case a28 => k_is); (case l28 => k_is); (case c28 => k_is); (case k28 => k_is)
    (case a29 => k_is); (case l29 => k_is); (case c29 => k_is); (case k29 => k_is)
    (case a30 => k_is); (case l30 => k_is); (case c30 => k_is); (case k30 => k_is)
    (case a31 => k_is); (case l31 => k_is); (case c31 => k_is); (case k31 => k_is)
    (case a32 => k_is); (case l32 => k_is); (case c32 => k_is); (case k32 => k_is)
    (case a33 => k_is); (case l33 => k_is); (case c33 => k_is); (case k33 => k_is)
    (case a34 => k_is); (case l34 => k_is); (case c34 => k_is); (case k34 => k_is)
    (case a35 => k_is); (case l35 => k_is); (case c35 => k_is); (case k35 => k_is)
    (case a36 => k_is); (case l36 => k_is); (case c36 => k_is); (case k36 => k_is)
    (case a37 => k_is); (case l37 => k_is); (case c37 => k_is); (case k37 => k_is)
    (case a38 => k_is); (case l38 => k_is); (case c38 => k_is); (case k38 => k_is)
    (case a39 => k_is); (case l39 => k_is); (case c39 => k_is); (case k39 => k_is)
    (case a40 => k_is); (case l40 => k_is); (case c40 => k_is); (case k40 => k_is)
    (case a41 => k_is); (case l41 => k_is); (case c41 => k_is); (case k41 => k_is)
    (case a42 => k_is); (case l42 => k_is); (case c42 => k_is); (case k42 => k_is)
    (case a43 => k_is); (case l43 => k_is); (case c43 => k_is); (case k43 => k_is)
    (case a44 => k_is); (case l44 => k_is); (case c44 => k_is); (case k44 => k_is)
    (case a45 => k_is); (case l45 => k_is); (case c45 => k_is); (case k45 => k_is)
    (case a46 => k_is); (case l46 => k_is); (case c46 => k_is); (case k46 => k_is)
    (case a47 => k_is); (case l47 => k_is); (case c47 => k_is); (case k47 => k_is)
    (case a48 => k_is); (case l48 => k_is); (case c48 => k_is); (case k48 => k_is)
    (case a49 => k_is); (case l49 => k_is); (case c49 => k_is); (case k49 => k_is)
    (case a50 => k_is); (case l50 => k_is); (case c50 => k_is); (case k50 => k_is)
    (case a51 => k_is); (case l51 => k_is); (case c51 => k_is); (case k51 => k_is)
    (case a52 => k_is); (case l52 => k_is); (case c52 => k_is); (case k52 => k_is)
    (case a53 => k_is); (case l53 => k_is); (case c53 => k_is); (case k53 => k_is)
    (case x_LEFT => k_is); (case x_RIGHT => k_is)
    (case y_list => k_is); (case y_int => k_is); (case y_len => k_is); (case y_abs => k_is); (case y_range => k_is); (case y_tuple => k_is); (case y_sorted => k_is); (case y_isinstance => k_is); (case y_any => k_is); (case y_bool => k_is); (case y_str => k_is); (case y_all => k_is); (case y_enumerate => k_is); (case y_zip => k_is)
