import PyProof.Rows.All
import Wide.All
import OpenK.AllK
import Wide.FinOn
import HandS.ForMost
import HandS.TupAny
import HandS.IsInst
import HandS.Wide
import HandS.WordsDict
import HandS.Zip
import HandS.Flow
import HandS.Exc
import HandS.SortKw
import HandS.More
import HandS.Text
import HandS.Style
import HandS.DictComp
import KE.GoesMore
import HandS.HeadHook3
import PySem.Challenge.RW_differwithin_k01_touched_of
set_option Elab.async false
set_option linter.all false
set_option maxRecDepth 100000
set_option maxHeartbeats 1000000
/-! MP: a small semantics of plain data over the hand layer -/
namespace MP
open PySem L2 PyProof.Rows

/-- deep data: fl, fd are lists and dicts that nobody changes any more, ref a place of the small heap, ro a list that is locked or written -/
inductive D where
  | non | bl (b : Bool) | int (i : Int) | str (x : Str)
  | tup (xs : List D) | fl (xs : List D) | ro (xs : List D) | fd (ks : List Key) (xs : List D) | ref (n : Nat)
  deriving Inhabited
/-- what stands in the small heap -/
inductive MO where
  | lst (xs : List D) | dk (kvs : List (Key × D))
/-- an exception: its class's name, its own attributes -/
structure Xn where
  cls : Str
  fs : List (Str × D)
inductive R (α : Type) where
  | ok (a : α) (mu : List MO) | exc (x : Xn) (mu : List MO) | bad
def M (α : Type) := List MO → R α
def M.pure {α : Type} (a : α) : M α := fun mu => .ok a mu
def M.bind {α β : Type} (c : M α) (f : α → M β) : M β := fun mu => match c mu with
  | .ok a mu' => f a mu'
  | .exc x mu' => .exc x mu'
  | .bad => .bad
instance : Monad M where
  pure := M.pure
  bind := M.bind
def bad {α : Type} : M α := fun _ => .bad
def raise {α : Type} (x : Xn) : M α := fun mu => .exc x mu
theorem M.bind_ok {α β : Type} {c : M α} {f : α → M β} {mu mu' : List MO} {a : α} (h : c mu = .ok a mu') : (c >>= f) mu = f a mu' := by
  show M.bind c f mu = _
  unfold M.bind
  rw [h]
theorem M.bind_def {α β : Type} {c : M α} {f : α → M β} {mu : List MO} : (c >>= f) mu = match c mu with
  | .ok a mu' => f a mu'
  | .exc x mu' => .exc x mu'
  | .bad => .bad := rfl
theorem M.pure_def {α : Type} {a : α} {mu : List MO} : (Pure.pure a : M α) mu = .ok a mu := rfl

/-- where the small heap's places stand; further places that no datum may name -/
structure Mp where
  ad : List Addr
  no : List Addr
def Mp.Out (m : Mp) (a : Addr) : Prop := a ∉ m.ad ∧ a ∉ m.no
def Mp.add (m : Mp) (a : Addr) : Mp := ⟨m.ad ++ [a], m.no⟩
def Mp.shut (m : Mp) (a : Addr) : Mp := ⟨m.ad, m.no ++ [a]⟩
/-- a list of the written part; a list that is locked or written -/
def KL (K : PySem.W.Frag) (a : Addr) (xs : List V) : Prop := ∃ (o : Obj) (its : Array Value) (n : Nat), K.lookup a = some o ∧ o.cls = .type "list" ∧ o.dict = none ∧ o.data = .seq its n ∧ its.size ≤ sizeLine ∧ Vals xs its.toList
def RoAt (K : PySem.W.Frag) (H : Hp) (a : Addr) (xs : List V) : Prop := (∃ o, H a = some (.frz o (.lst xs))) ∨ KL K a xs
theorem RoAt.sqL {K : PySem.W.Frag} {H : Hp} {a : Addr} {xs : List V} (h : RoAt K H a xs) : SqL K H a xs := by
  rcases h with ⟨o, h⟩ | h
  · exact .inl (.inr ⟨o, h⟩)
  · exact .inr h
section
variable (K : PySem.W.Frag) (m : Mp) (H : Hp)
mutual
def Rep : D → V → Prop
  | .non, v => v = .non
  | .bl b, v => v = .bl b
  | .int i, v => v = .int i
  | .str x, v => v = .str x
  | .tup ds, v => ∃ a vs, v = .ref a ∧ SqT K H a vs ∧ Reps ds vs
  | .fl ds, v => ∃ a vs, v = .ref a ∧ H a = some (.lst vs) ∧ m.Out a ∧ Reps ds vs
  | .ro ds, v => ∃ a vs, v = .ref a ∧ RoAt K H a vs ∧ Reps ds vs
  | .fd ks ds, v => ∃ a vs, v = .ref a ∧ H a = some (.dK (ks.zip vs)) ∧ m.Out a ∧ ks.length = ds.length ∧ Reps ds vs
  | .ref n, v => ∃ a, v = .ref a ∧ m.ad[n]? = some a
def Reps : List D → List V → Prop
  | [], vs => vs = []
  | d :: ds, vs => ∃ v r, vs = v :: r ∧ Rep d v ∧ Reps ds r
end
def RepO (a : Addr) : MO → Prop
  | .lst ds => ∃ vs, H a = some (.lst vs) ∧ Reps K m H ds vs
  | .dk kvs => ∃ vs, H a = some (.dK ((kvs.map (·.1)).zip vs)) ∧ Reps K m H (kvs.map (·.2)) vs
end

/-- the heap grows: new places, what stands outside of m stays -/
structure Grow (m m' : Mp) (H H' : Hp) : Prop where
  ext : ∃ l k, m'.ad = m.ad ++ l ∧ m'.no = m.no ++ k ∧ (∀ a ∈ l, H a = none) ∧ ∀ a ∈ k, H a = none
  oth : ∀ a o, H a = some o → a ∉ m.ad → H' a = some o
  tups : ∀ a xs, H a = some (.tup xs) → H' a = some (.tup xs)
  frzs : ∀ a o u, H a = some (.frz o u) → H' a = some (.frz o u)
  trk : ∀ a o, H a = some o → ∃ o', H' a = some o'
theorem nodup_ix' {N : List Addr} (hN : N.Nodup) {i j : Nat} {x : Addr} (a : N[i]? = some x) (b : N[j]? = some x) : i = j := by
  obtain ⟨h1, e1⟩ := List.getElem?_eq_some_iff.mp a
  obtain ⟨h2, e2⟩ := List.getElem?_eq_some_iff.mp b
  exact (List.getElem_inj hN).mp (by rw [e1, e2])
theorem Grow.refl {m : Mp} {H : Hp} : Grow m m H H := ⟨⟨[], [], by simp, by simp, by simp, by simp⟩, fun _ _ h _ => h, fun _ _ h => h, fun _ _ _ h => h, fun _ o h => ⟨o, h⟩⟩
theorem Grow.notin {m m' : Mp} {H H' : Hp} (g : Grow m m' H H') {a : Addr} {o : HO} (h : H a = some o) (n : a ∉ m.ad) : a ∉ m'.ad := by
  obtain ⟨l, k, e, _, hl, _⟩ := g.ext
  rw [e]
  intro hm
  rcases List.mem_append.mp hm with z | z
  · exact n z
  · rw [hl a z] at h; cases h
theorem Grow.out {m m' : Mp} {H H' : Hp} (g : Grow m m' H H') {a : Addr} {o : HO} (h : H a = some o) (n : m.Out a) : m'.Out a := by
  refine ⟨g.notin h n.1, ?_⟩
  obtain ⟨l, k, _, e, _, hk⟩ := g.ext
  rw [e]
  intro hm
  rcases List.mem_append.mp hm with z | z
  · exact n.2 z
  · rw [hk a z] at h; cases h
theorem Grow.trans {m m1 m2 : Mp} {H H1 H2 : Hp} (g : Grow m m1 H H1) (g' : Grow m1 m2 H1 H2) : Grow m m2 H H2 := by
  have back : ∀ a, H1 a = none → H a = none := fun a h => by
    cases e : H a with
    | none => rfl
    | some o =>
      obtain ⟨o', h'⟩ := g.trk a o e
      rw [h] at h'; cases h'
  refine ⟨?_, fun a o h n => g'.oth a o (g.oth a o h n) (g.notin h n), fun a xs h => g'.tups a xs (g.tups a xs h), fun a o u h => g'.frzs a o u (g.frzs a o u h), fun a o h => ?_⟩
  · obtain ⟨l, k, e1, e2, hl, hk⟩ := g.ext
    obtain ⟨l', k', e1', e2', hl', hk'⟩ := g'.ext
    refine ⟨l ++ l', k ++ k', by rw [e1', e1, List.append_assoc], by rw [e2', e2, List.append_assoc], fun a ha => ?_, fun a ha => ?_⟩
    · rcases List.mem_append.mp ha with z | z
      · exact hl a z
      · exact back a (hl' a z)
    · rcases List.mem_append.mp ha with z | z
      · exact hk a z
      · exact back a (hk' a z)
  · obtain ⟨o1, h1⟩ := g.trk a o h
    exact g'.trk a o1 h1
theorem Grow.get {m m' : Mp} {H H' : Hp} (g : Grow m m' H H') {n : Nat} {a : Addr} (h : m.ad[n]? = some a) : m'.ad[n]? = some a := by
  obtain ⟨l, k, e, _⟩ := g.ext
  rw [e, List.getElem?_append_left (List.getElem?_eq_some_iff.mp h).1]; exact h
theorem Grow.sqT {K : PySem.W.Frag} {m m' : Mp} {H H' : Hp} (g : Grow m m' H H') {a : Addr} {xs : List V} (h : SqT K H a xs) : SqT K H' a xs := by
  rcases h with (h | ⟨o, h⟩) | h
  · exact .inl (.inl (g.tups a xs h))
  · exact .inl (.inr ⟨o, g.frzs a o _ h⟩)
  · exact .inr h
theorem Grow.roAt {K : PySem.W.Frag} {m m' : Mp} {H H' : Hp} (g : Grow m m' H H') {a : Addr} {xs : List V} (h : RoAt K H a xs) : RoAt K H' a xs := by
  rcases h with ⟨o, h⟩ | h
  · exact .inl ⟨o, g.frzs a o _ h⟩
  · exact .inr h
section
variable {K : PySem.W.Frag} {m m' : Mp} {H H' : Hp}
/-- what the data lean on stays -/
structure Keep (m m' : Mp) (H H' : Hp) : Prop where
  get : ∀ (n : Nat) (a : Addr), m.ad[n]? = some a → m'.ad[n]? = some a
  fl : ∀ a o, H a = some o → m.Out a → H' a = some o ∧ m'.Out a
  tups : ∀ a xs, H a = some (.tup xs) → H' a = some (.tup xs)
  frzs : ∀ a o u, H a = some (.frz o u) → H' a = some (.frz o u)
theorem Grow.keep (g : Grow m m' H H') : Keep m m' H H' := ⟨fun _ _ h => g.get h, fun a o h n => ⟨g.oth a o h n.1, g.out h n⟩, g.tups, g.frzs⟩
theorem Keep.sqT (g : Keep m m' H H') {a : Addr} {xs : List V} (h : SqT K H a xs) : SqT K H' a xs := by
  rcases h with (h | ⟨o, h⟩) | h
  · exact .inl (.inl (g.tups a xs h))
  · exact .inl (.inr ⟨o, g.frzs a o _ h⟩)
  · exact .inr h
theorem Keep.roAt (g : Keep m m' H H') {a : Addr} {xs : List V} (h : RoAt K H a xs) : RoAt K H' a xs := by
  rcases h with ⟨o, h⟩ | h
  · exact .inl ⟨o, g.frzs a o _ h⟩
  · exact .inr h
mutual
theorem Rep.keep (g : Keep m m' H H') : ∀ (d : D) (v : V), Rep K m H d v → Rep K m' H' d v
  | .non, v, h => by simp only [Rep] at h ⊢; exact h
  | .bl b, v, h => by simp only [Rep] at h ⊢; exact h
  | .int i, v, h => by simp only [Rep] at h ⊢; exact h
  | .str x, v, h => by simp only [Rep] at h ⊢; exact h
  | .tup ds, v, h => by
    simp only [Rep] at h ⊢
    obtain ⟨a, vs, e, hs, hr⟩ := h
    exact ⟨a, vs, e, g.sqT hs, Reps.keep g ds vs hr⟩
  | .fl ds, v, h => by
    simp only [Rep] at h ⊢
    obtain ⟨a, vs, e, hs, hn, hr⟩ := h
    exact ⟨a, vs, e, (g.fl a _ hs hn).1, (g.fl a _ hs hn).2, Reps.keep g ds vs hr⟩
  | .ro ds, v, h => by
    simp only [Rep] at h ⊢
    obtain ⟨a, vs, e, hs, hr⟩ := h
    exact ⟨a, vs, e, g.roAt hs, Reps.keep g ds vs hr⟩
  | .fd ks ds, v, h => by
    simp only [Rep] at h ⊢
    obtain ⟨a, vs, e, hs, hn, hl, hr⟩ := h
    exact ⟨a, vs, e, (g.fl a _ hs hn).1, (g.fl a _ hs hn).2, hl, Reps.keep g ds vs hr⟩
  | .ref n, v, h => by
    simp only [Rep] at h ⊢
    obtain ⟨a, e, hm⟩ := h
    exact ⟨a, e, g.get n a hm⟩
theorem Reps.keep (g : Keep m m' H H') : ∀ (ds : List D) (vs : List V), Reps K m H ds vs → Reps K m' H' ds vs
  | [], vs, h => by simp only [Reps] at h ⊢; exact h
  | d :: ds, vs, h => by
    simp only [Reps] at h ⊢
    obtain ⟨v, r, e, h1, h2⟩ := h
    exact ⟨v, r, e, Rep.keep g d v h1, Reps.keep g ds r h2⟩
end
theorem Rep.grow (g : Grow m m' H H') (d : D) (v : V) (h : Rep K m H d v) : Rep K m' H' d v := Rep.keep g.keep d v h
theorem Reps.grow (g : Grow m m' H H') (ds : List D) (vs : List V) (h : Reps K m H ds vs) : Reps K m' H' ds vs := Reps.keep g.keep ds vs h
theorem Reps.nil_iff {vs : List V} : Reps K m H [] vs ↔ vs = [] := by simp only [Reps]
theorem Reps.cons_iff {d : D} {ds : List D} {vs : List V} : Reps K m H (d :: ds) vs ↔ ∃ v r, vs = v :: r ∧ Rep K m H d v ∧ Reps K m H ds r := by simp only [Reps]
theorem Reps.length : ∀ {ds : List D} {vs : List V}, Reps K m H ds vs → ds.length = vs.length
  | [], vs, h => by rw [Reps.nil_iff] at h; subst h; rfl
  | d :: ds, vs, h => by
    obtain ⟨v, r, e, _, h2⟩ := Reps.cons_iff.mp h
    subst e
    rw [List.length_cons, List.length_cons, Reps.length h2]
theorem Reps.get : ∀ {ds : List D} {vs : List V} {i : Nat} {d : D}, Reps K m H ds vs → ds[i]? = some d → ∃ v, vs[i]? = some v ∧ Rep K m H d v
  | [], vs, i, d, _, e => by simp at e
  | d' :: ds, vs, i, d, h, e => by
    obtain ⟨v, r, ev, h1, h2⟩ := Reps.cons_iff.mp h
    subst ev
    cases i with
    | zero => simp at e; subst e; exact ⟨v, rfl, h1⟩
    | succ i =>
      obtain ⟨w, hw, rw'⟩ := Reps.get (i := i) (d := d) h2 (by simpa using e)
      exact ⟨w, by simpa using hw, rw'⟩
theorem Reps.append : ∀ {ds es : List D} {vs ws : List V}, Reps K m H ds vs → Reps K m H es ws → Reps K m H (ds ++ es) (vs ++ ws)
  | [], es, vs, ws, h, h' => by rw [Reps.nil_iff] at h; subst h; exact h'
  | d :: ds, es, vs, ws, h, h' => by
    obtain ⟨v, r, ev, h1, h2⟩ := Reps.cons_iff.mp h
    subst ev
    exact Reps.cons_iff.mpr ⟨v, r ++ ws, rfl, h1, Reps.append h2 h'⟩
theorem Reps.one {d : D} {v : V} (h : Rep K m H d v) : Reps K m H [d] [v] := Reps.cons_iff.mpr ⟨v, [], rfl, h, Reps.nil_iff.mpr rfl⟩
theorem Reps.take (n : Nat) : ∀ {ds : List D} {vs : List V}, Reps K m H ds vs → Reps K m H (ds.take n) (vs.take n) := by
  induction n with
  | zero => intro ds vs _; exact Reps.nil_iff.mpr rfl
  | succ n ih =>
    intro ds vs h
    cases ds with
    | nil => rw [Reps.nil_iff] at h; subst h; exact Reps.nil_iff.mpr rfl
    | cons d ds =>
      obtain ⟨v, r, ev, h1, h2⟩ := Reps.cons_iff.mp h
      subst ev
      exact Reps.cons_iff.mpr ⟨v, r.take n, rfl, h1, ih h2⟩
theorem Reps.drop (n : Nat) : ∀ {ds : List D} {vs : List V}, Reps K m H ds vs → Reps K m H (ds.drop n) (vs.drop n) := by
  induction n with
  | zero => intro ds vs h; exact h
  | succ n ih =>
    intro ds vs h
    cases ds with
    | nil => rw [Reps.nil_iff] at h; subst h; exact Reps.nil_iff.mpr rfl
    | cons d ds =>
      obtain ⟨v, r, ev, h1, h2⟩ := Reps.cons_iff.mp h
      subst ev
      exact ih h2
theorem Reps.set {d : D} {v : V} (hd : Rep K m H d v) : ∀ {ds : List D} {vs : List V} (i : Nat), Reps K m H ds vs → Reps K m H (ds.set i d) (vs.set i v)
  | [], vs, i, h => by rw [Reps.nil_iff] at h; subst h; exact Reps.nil_iff.mpr rfl
  | e :: ds, vs, i, h => by
    obtain ⟨w, r, ev, h1, h2⟩ := Reps.cons_iff.mp h
    subst ev
    cases i with
    | zero => exact Reps.cons_iff.mpr ⟨v, r, rfl, hd, h2⟩
    | succ i => exact Reps.cons_iff.mpr ⟨w, r.set i v, rfl, h1, Reps.set hd i h2⟩
theorem Reps.of_ints : ∀ {ns : List Int} {vs : List V}, Reps K m H (ns.map D.int) vs ↔ vs = ns.map V.int
  | [], vs => Reps.nil_iff
  | n :: ns, vs => by
    rw [List.map_cons, Reps.cons_iff, List.map_cons]
    constructor
    · rintro ⟨v, r, e, h1, h2⟩
      simp only [Rep] at h1
      rw [e, h1, Reps.of_ints.mp h2]
    · rintro rfl
      exact ⟨_, _, rfl, by simp only [Rep], Reps.of_ints.mpr rfl⟩
theorem Reps.of_strs : ∀ {ns : List Str} {vs : List V}, Reps K m H (ns.map D.str) vs ↔ vs = ns.map V.str
  | [], vs => Reps.nil_iff
  | n :: ns, vs => by
    rw [List.map_cons, Reps.cons_iff, List.map_cons]
    constructor
    · rintro ⟨v, r, e, h1, h2⟩
      simp only [Rep] at h1
      rw [e, h1, Reps.of_strs.mp h2]
    · rintro rfl
      exact ⟨_, _, rfl, by simp only [Rep], Reps.of_strs.mpr rfl⟩
theorem Reps.of_bls : ∀ {ns : List Bool} {vs : List V}, Reps K m H (ns.map D.bl) vs ↔ vs = ns.map V.bl
  | [], vs => Reps.nil_iff
  | n :: ns, vs => by
    rw [List.map_cons, Reps.cons_iff, List.map_cons]
    constructor
    · rintro ⟨v, r, e, h1, h2⟩
      simp only [Rep] at h1
      rw [e, h1, Reps.of_bls.mp h2]
    · rintro rfl
      exact ⟨_, _, rfl, by simp only [Rep], Reps.of_bls.mpr rfl⟩
theorem RepO.keep (g : Keep m m' H H') {a : Addr} (hk : ∀ o, H a = some o → H' a = some o) : ∀ {o : MO}, RepO K m H a o → RepO K m' H' a o
  | .lst ds, ⟨vs, h, r⟩ => ⟨vs, hk _ h, Reps.keep g ds vs r⟩
  | .dk kvs, ⟨vs, h, r⟩ => ⟨vs, hk _ h, Reps.keep g _ vs r⟩
theorem RepO.grow (g : Grow m m' H H') {a : Addr} (hk : ∀ o, H a = some o → H' a = some o) : ∀ {o : MO}, RepO K m H a o → RepO K m' H' a o
  | .lst ds, ⟨vs, h, r⟩ => ⟨vs, hk _ h, Reps.grow g ds vs r⟩
  | .dk kvs, ⟨vs, h, r⟩ => ⟨vs, hk _ h, Reps.grow g _ vs r⟩
/-- the small heap stands -/
structure Rel (K : PySem.W.Frag) (m : Mp) (mu : List MO) (H : Hp) : Prop where
  len : m.ad.length = mu.length
  nd : m.ad.Nodup
  nos : ∀ a, a ∈ m.no → ∃ o, H a = some o
  dj : ∀ a, a ∈ m.ad → a ∉ m.no
  obj : ∀ (n : Nat) (o : MO) (a : Addr), mu[n]? = some o → m.ad[n]? = some a → RepO K m H a o
theorem Rel.at {mu : List MO} (r : Rel K m mu H) {n : Nat} {o : MO} (h : mu[n]? = some o) : ∃ a, m.ad[n]? = some a ∧ RepO K m H a o := by
  have hn : n < m.ad.length := by rw [r.len]; exact (List.getElem?_eq_some_iff.mp h).1
  exact ⟨m.ad[n], List.getElem?_eq_getElem hn, r.obj n o _ h (List.getElem?_eq_getElem hn)⟩
theorem Rel.at' {mu : List MO} (r : Rel K m mu H) {n : Nat} {a : Addr} (h : m.ad[n]? = some a) : ∃ o, mu[n]? = some o ∧ RepO K m H a o := by
  have hn : n < mu.length := by rw [← r.len]; exact (List.getElem?_eq_some_iff.mp h).1
  exact ⟨mu[n], List.getElem?_eq_getElem hn, r.obj n _ a (List.getElem?_eq_getElem hn) h⟩
theorem RepO.there {a : Addr} : ∀ {o : MO}, RepO K m H a o → (∃ vs, H a = some (.lst vs)) ∨ ∃ kvs, H a = some (.dK kvs)
  | .lst _, ⟨vs, h, _⟩ => .inl ⟨vs, h⟩
  | .dk _, ⟨_, h, _⟩ => .inr ⟨_, h⟩
theorem Rel.mem {mu : List MO} (r : Rel K m mu H) {a : Addr} (h : a ∈ m.ad) : (∃ vs, H a = some (.lst vs)) ∨ ∃ kvs, H a = some (.dK kvs) := by
  obtain ⟨n, hn⟩ := List.mem_iff_getElem?.mp h
  obtain ⟨o, _, ho⟩ := r.at' hn
  exact ho.there
/-- a place that is free may be taken for an object outside of m -/
theorem Grow.laid {a : Addr} {o : HO} (h : H a = none) : Grow m m H (upd H a o) :=
  ⟨⟨[], [], by simp, by simp, by simp, by simp⟩, fun b u e _ => by rw [upd_ne (ne_of_none e h)]; exact e, fun b u e => by rw [upd_ne (ne_of_none e h)]; exact e, fun b u w e => by rw [upd_ne (ne_of_none e h)]; exact e, fun b u e => ⟨u, by rw [upd_ne (ne_of_none e h)]; exact e⟩⟩
theorem Rel.laid {mu : List MO} {a : Addr} {o : HO} (r : Rel K m mu H) (h : H a = none) : Rel K m mu (upd H a o) :=
  ⟨r.len, r.nd, fun b hb => (Grow.laid (m := m) h).trk b _ (r.nos b hb).choose_spec, r.dj, fun n ob b e e' => (r.obj n ob b e e').grow (.laid h) fun u q => by rw [upd_ne (ne_of_none q h)]; exact q⟩
theorem Rel.free {mu : List MO} {a : Addr} (r : Rel K m mu H) (h : H a = none) : m.Out a := ⟨fun z => by
  rcases r.mem z with ⟨_, q⟩ | ⟨_, q⟩ <;> (rw [h] at q; cases q), fun z => by
  obtain ⟨o, q⟩ := r.nos a z
  rw [h] at q; cases q⟩
/-- an object that is not yet of the small heap is taken into it -/
theorem Grow.adopt {H0 : Hp} {a : Addr} (g : Grow m m' H0 H) (h0 : H0 a = none) : Grow m (m'.add a) H0 H := by
  obtain ⟨l, k, e, e2, hl, hk⟩ := g.ext
  refine ⟨⟨l ++ [a], k, by show m'.ad ++ [a] = _; rw [e, List.append_assoc], e2, fun b hb => ?_, hk⟩, g.oth, g.tups, g.frzs, g.trk⟩
  rcases List.mem_append.mp hb with z | z
  · exact hl b z
  · rw [List.mem_singleton.mp z]; exact h0
/-- an object of the small heap is changed -/
theorem Grow.write {mu : List MO} {n : Nat} {a : Addr} {ho : HO} (r : Rel K m mu H) (hm : m.ad[n]? = some a) : Grow m m H (upd H a ho) := by
  have hmem : a ∈ m.ad := List.mem_of_getElem? hm
  have hin := r.mem hmem
  refine ⟨⟨[], [], by simp, by simp, by simp, by simp⟩, fun b u e nb => ?_, fun b u e => ?_, fun b u w e => ?_, fun b u e => ?_⟩
  · rw [upd_ne (show b ≠ a from fun z => nb (by rw [z]; exact hmem))]; exact e
  · rw [upd_ne (show b ≠ a from fun z => by rw [z] at e; rcases hin with ⟨_, q⟩ | ⟨_, q⟩ <;> (rw [q] at e; cases e))]; exact e
  · rw [upd_ne (show b ≠ a from fun z => by rw [z] at e; rcases hin with ⟨_, q⟩ | ⟨_, q⟩ <;> (rw [q] at e; cases e))]; exact e
  · by_cases z : b = a
    · subst z; exact ⟨ho, upd_same⟩
    · exact ⟨u, by rw [upd_ne z]; exact e⟩
theorem Rel.write {mu : List MO} {n : Nat} {a : Addr} {o : MO} {ho : HO} (r : Rel K m mu H) (hm : m.ad[n]? = some a) (hnew : RepO K m (upd H a ho) a o) : Rel K m (mu.set n o) (upd H a ho) := by
  have g : Grow m m H (upd H a ho) := .write r hm
  refine ⟨by rw [List.length_set]; exact r.len, r.nd, fun b hb => g.trk b _ (r.nos b hb).choose_spec, r.dj, fun k ob b e e' => ?_⟩
  by_cases hk : k = n
  · subst hk
    rw [hm] at e'; cases e'
    rw [List.getElem?_set_self (by rw [← r.len]; exact (List.getElem?_eq_some_iff.mp hm).1)] at e
    cases e
    exact hnew
  · rw [List.getElem?_set_ne (Ne.symm hk)] at e
    have hba : b ≠ a := fun z => hk (nodup_ix' r.nd e' (z ▸ hm))
    exact (r.obj k ob b e e').grow g fun u q => by rw [upd_ne hba]; exact q
end
end MP
namespace MP
open PySem L2 PyProof.Rows

abbrev Env := List (Option D)
structure RepE (K : PySem.W.Frag) (m : Mp) (H : Hp) (env : Env) (σ : L2.St) : Prop where
  len : env.length = σ.length
  get : ∀ (i : Nat) (d : D), env[i]? = some (some d) → ∃ v, σ[i]? = some (some v) ∧ Rep K m H d v
abbrev Wx := Xn → Mp → Hp → Prop
def Post (K : PySem.W.Frag) (W : Wx) (m : Mp) (H : Hp) {α : Type} (r : R α) (Q : α → Mp → List MO → Hp → Prop) : Prop := match r with
  | .ok a mu' => ∀ m' H', Grow m m' H H' → Rel K m' mu' H' → Q a m' mu' H'
  | .exc x mu' => ∀ m' H', Grow m m' H H' → Rel K m' mu' H' → W x m' H'
  | .bad => False
section
variable {K : PySem.W.Frag} {W : Wx} {m m' : Mp} {H H' : Hp} {α β : Type} {env : Env} {σ : L2.St} {mu : List MO}
theorem RepE.grow (r : RepE K m H env σ) (g : Grow m m' H H') : RepE K m' H' env σ :=
  ⟨r.len, fun i d e => let ⟨v, h, q⟩ := r.get i d e; ⟨v, h, Rep.grow g d v q⟩⟩
theorem RepE.keep (r : RepE K m H env σ) (g : Keep m m' H H') : RepE K m' H' env σ :=
  ⟨r.len, fun i d e => let ⟨v, h, q⟩ := r.get i d e; ⟨v, h, Rep.keep g d v q⟩⟩
theorem RepE.set (r : RepE K m H env σ) {i : Nat} {d : D} {v : V} (h : Rep K m H d v) : RepE K m H (env.set i (some d)) (σ.set i (some v)) := by
  refine ⟨by rw [List.length_set, List.length_set, r.len], fun j e he => ?_⟩
  by_cases hj : i = j
  · subst hj
    by_cases hi : i < env.length
    · rw [List.getElem?_set_self hi] at he
      cases he
      exact ⟨v, List.getElem?_set_self (by rw [← r.len]; exact hi), h⟩
    · rw [List.getElem?_eq_none (by rw [List.length_set]; omega)] at he
      cases he
  · rw [List.getElem?_set_ne hj] at he
    obtain ⟨w, hw, q⟩ := r.get j e he
    exact ⟨w, by rw [List.getElem?_set_ne hj]; exact hw, q⟩
/-- slots forgotten -/
def wipeE (env : Env) : List Nat → Env
  | [] => env
  | i :: is => (wipeE env is).set i none
theorem wipeE_length : ∀ (is : List Nat), (wipeE env is).length = env.length
  | [] => rfl
  | i :: is => by unfold wipeE; rw [List.length_set, wipeE_length is]
theorem wipeE_some {i : Nat} {d : D} : ∀ {is : List Nat}, (wipeE env is)[i]? = some (some d) → env[i]? = some (some d) ∧ i ∉ is
  | [], h => ⟨h, by simp⟩
  | j :: is, h => by
    unfold wipeE at h
    by_cases hi : j = i
    · subst hi
      by_cases hv : j < (wipeE env is).length
      · rw [List.getElem?_set_self hv] at h; cases h
      · rw [List.getElem?_eq_none (by simpa using hv)] at h; cases h
    · rw [List.getElem?_set_ne hi] at h
      obtain ⟨h1, h2⟩ := wipeE_some h
      exact ⟨h1, by simp only [List.mem_cons, not_or]; exact ⟨fun e => hi e.symm, h2⟩⟩
theorem RepE.wipeL (r : RepE K m H env σ) (is : List Nat) : RepE K m H (wipeE env is) σ :=
  ⟨by rw [wipeE_length]; exact r.len, fun i d e => r.get i d (wipeE_some e).1⟩
theorem L2wipe_get {i : Nat} : ∀ {is : List Nat}, i ∉ is → (L2.wipe σ is)[i]? = σ[i]?
  | [], _ => rfl
  | j :: is, h => by
    simp only [List.mem_cons, not_or] at h
    unfold L2.wipe
    rw [List.getElem?_set_ne (Ne.symm h.1), L2wipe_get h.2]
theorem RepE.wipe (r : RepE K m H env σ) (is : List Nat) : RepE K m H (wipeE env is) (L2.wipe σ is) :=
  ⟨by rw [wipeE_length, L2.wipe_length]; exact r.len, fun i d e => by
    obtain ⟨h1, h2⟩ := wipeE_some e
    obtain ⟨v, h, q⟩ := r.get i d h1
    exact ⟨v, by rw [L2wipe_get h2]; exact h, q⟩⟩
theorem Post.mono {r : R α} {Q Q' : α → Mp → List MO → Hp → Prop} (h : Post K W m H r Q) (hQ : ∀ a m' mu' H', Grow m m' H H' → Rel K m' mu' H' → Q a m' mu' H' → Q' a m' mu' H') : Post K W m H r Q' := by
  cases r with
  | ok a mu' => exact fun m' H' g rl => hQ a m' mu' H' g rl (h m' H' g rl)
  | exc x mu' => exact h
  | bad => exact h
theorem Post.grow {r : R α} {Q : α → Mp → List MO → Hp → Prop} (h : Post K W m H r Q) (g : Grow m m' H H') : Post K W m' H' r Q := by
  cases r with
  | ok a mu' => exact fun m2 H2 g2 rl => h m2 H2 (g.trans g2) rl
  | exc x mu' => exact fun m2 H2 g2 rl => h m2 H2 (g.trans g2) rl
  | bad => exact h
theorem Post.bind {c : M α} {f : α → M β} {Q : β → Mp → List MO → Hp → Prop} (h : Post K W m H ((c >>= f) mu) Q) : Post K W m H (c mu) (fun a m' mu' H' => Post K W m' H' (f a mu') Q) := by
  rw [M.bind_def] at h
  cases e : c mu with
  | ok a mu' =>
    rw [e] at h
    exact fun m' H' g rl => h.grow g
  | exc x mu' => rw [e] at h; exact h
  | bad => rw [e] at h; exact h
theorem Post.pure {a : α} {Q : α → Mp → List MO → Hp → Prop} (h : Post K W m H ((Pure.pure a : M α) mu) Q) (rl : Rel K m mu H) : Q a m mu H := h m H .refl rl
theorem Post.wx {W' : Wx} {r : R α} {Q : α → Mp → List MO → Hp → Prop} (h : Post K W m H r Q) (hw : ∀ x m H, W x m H → W' x m H) : Post K W' m H r Q := by
  cases r with
  | ok a mu' => exact h
  | exc x mu' => exact fun m' H' g rl => hw _ _ _ (h m' H' g rl)
  | bad => exact h
end

/-! ### readings -/
def tE (K : PySem.W.Frag) (W : Wx) (r : Env → M D) : TE := fun σ H Q => ∃ env m mu, RepE K m H env σ ∧ Rel K m mu H ∧ Post K W m H (r env mu) fun d m' _ H' => ∀ v, Rep K m' H' d v → Q v H'
def tT (K : PySem.W.Frag) (W : Wx) (r : Env → M Bool) : TT := fun σ H Q => ∃ env m mu, RepE K m H env σ ∧ Rel K m mu H ∧ Post K W m H (r env mu) fun b _ _ H' => Q b H'
def tA (K : PySem.W.Frag) (W : Wx) (r : Env → M (List D)) : TA := fun σ H Q => ∃ env m mu, RepE K m H env σ ∧ Rel K m mu H ∧ Post K W m H (r env mu) fun ds m' _ H' => ∀ vs, Reps K m' H' ds vs → Q vs H'
/-- what a def hands back: a datum, or a list that is new -/
inductive Rv where
  | vl (d : D) | fr (ds : List D)
inductive Fl where
  | nx (e : Env) | rt (rv : Rv) | bk (e : Env) | ct (e : Env)
/-- a list that was not there ahead of H, and that nothing else holds -/
def NewL (K : PySem.W.Frag) (H : Hp) (ds : List D) (m' : Mp) (mu' : List MO) (H' : Hp) (Q : VK) : Prop :=
  ∀ a vs, H a = none → H' a = some (.lst vs) → m'.Out a → Reps K m' H' ds vs → Rel K (m'.add a) (mu' ++ [.lst ds]) H' → Q (.ref a) H'
def RvQ (K : PySem.W.Frag) (H : Hp) (rv : Rv) (m' : Mp) (mu' : List MO) (H' : Hp) (Q : VK) : Prop := match rv with
  | .vl d => ∀ v, Rep K m' H' d v → Q v H'
  | .fr ds => NewL K H ds m' mu' H' Q
theorem Grow.none_of {m m1 : Mp} {H H1 : Hp} (g : Grow m m1 H H1) {a : Addr} (h : H1 a = none) : H a = none := by
  cases e : H a with
  | none => rfl
  | some o =>
    obtain ⟨o', h'⟩ := g.trk a o e
    rw [h] at h'; cases h'
theorem NewL.from {K : PySem.W.Frag} {m m1 m' : Mp} {mu' : List MO} {H H1 H' : Hp} {ds : List D} {Q : VK} (h : NewL K H ds m' mu' H' Q) (g : Grow m m1 H H1) : NewL K H1 ds m' mu' H' Q := fun a vs h1 => h a vs (g.none_of h1)
theorem RvQ.from {K : PySem.W.Frag} {m m1 m' : Mp} {mu' : List MO} {H H1 H' : Hp} {rv : Rv} {Q : VK} (h : RvQ K H rv m' mu' H' Q) (g : Grow m m1 H H1) : RvQ K H1 rv m' mu' H' Q := by
  cases rv with
  | vl d => exact h
  | fr ds => exact NewL.from h g
def FlQ (K : PySem.W.Frag) (D : Ends) (H : Hp) (fl : Fl) (m' : Mp) (mu' : List MO) (H' : Hp) : Prop := match fl with
  | .nx e => ∀ σ', RepE K m' H' e σ' → D.nx σ' H'
  | .rt rv => RvQ K H rv m' mu' H' D.rt
  | .bk e => ∀ σ', RepE K m' H' e σ' → D.bk σ' H'
  | .ct e => ∀ σ', RepE K m' H' e σ' → D.ct σ' H'
def tS (K : PySem.W.Frag) (W : Wx) (r : Env → M Fl) : TS := fun D σ H => ∃ env m mu, RepE K m H env σ ∧ Rel K m mu H ∧ Post K W m H (r env mu) fun fl m' mu' H' => FlQ K D H fl m' mu' H'
def tF (K : PySem.W.Frag) (W : Wx) (r : Env → M (List D)) : TE := fun σ H Q => ∃ env m mu, RepE K m H env σ ∧ Rel K m mu H ∧ Post K W m H (r env mu) fun ds m' mu' H' => NewL K H ds m' mu' H' Q
structure ME (X : Cx) (W : Wx) (e : Expr) (r : Env → M D) : Prop where
  pe : PE X e (tE X.K W r)
structure MF (X : Cx) (W : Wx) (e : Expr) (r : Env → M (List D)) : Prop where
  pe : PE X e (tF X.K W r)
structure MT (X : Cx) (W : Wx) (e : Expr) (r : Env → M Bool) : Prop where
  pt : PT X e (tT X.K W r)
structure MA (X : Cx) (W : Wx) (es : List Expr) (r : Env → M (List D)) : Prop where
  pa : PA X es (tA X.K W r)
structure MS (X : Cx) (W : Wx) (st : Stmt) (r : Env → M Fl) : Prop where
  ps : PS X st (tS X.K W r)
structure MSs (X : Cx) (W : Wx) (st : List Stmt) (r : Env → M Fl) : Prop where
  ps : PSs X st (tS X.K W r)
section
variable {X : Cx} {W : Wx} {e a b : Expr} {pos : Pos}
theorem _root_.L2.PE.imp {t t' : TE} (h : PE X e t) (i : ∀ σ H Q, t' σ H Q → t σ H Q) : PE X e t' := ⟨fun pins s σ H Q I q => h.run pins s σ H Q I (i σ H Q q)⟩
theorem _root_.L2.PT.imp {t t' : TT} (h : PT X e t) (i : ∀ σ H Q, t' σ H Q → t σ H Q) : PT X e t' := ⟨fun pins s σ H Q I q => h.run pins s σ H Q I (i σ H Q q)⟩
theorem _root_.L2.PW.imp {t t' : TT} (h : PW X e t) (i : ∀ σ H Q, t' σ H Q → t σ H Q) : PW X e t' := ⟨fun wh pins s σ H Q I q => h.run wh pins s σ H Q I (i σ H Q q)⟩
theorem _root_.L2.PA.imp {es : List Expr} {t t' : TA} (h : PA X es t) (i : ∀ σ H Q, t' σ H Q → t σ H Q) : PA X es t' := ⟨fun p pins s σ H Q I q => h.run p pins s σ H Q I (i σ H Q q)⟩
theorem _root_.L2.PS.imp {st : Stmt} {t t' : TS} (h : PS X st t) (i : ∀ D σ H, t' D σ H → t D σ H) : PS X st t' := ⟨fun pins s σ H D I q => h.run pins s σ H D I (i D σ H q)⟩
theorem _root_.L2.PSs.imp {st : List Stmt} {t t' : TS} (h : PSs X st t) (i : ∀ D σ H, t' D σ H → t D σ H) : PSs X st t' := ⟨fun pins s σ H D I q => h.run pins s σ H D I (i D σ H q)⟩
theorem _root_.L2.PE.or {t t' : TE} (h : PE X e t) (h' : PE X e t') : PE X e (fun σ H Q => t σ H Q ∨ t' σ H Q) := ⟨fun pins s σ H Q I q => q.elim (h.run pins s σ H Q I) (h'.run pins s σ H Q I)⟩
theorem ME.eq {r r' : Env → M D} (h : ME X W e r) (i : ∀ env mu, r' env mu = r env mu) : ME X W e r' := by
  rw [show r' = r from funext fun env => funext fun mu => i env mu]; exact h

/-! ### names, constants -/
def eVar (i : Nat) : Env → M D := fun env => match env[i]? with
  | some (some d) => pure d
  | _ => bad
def eC (d : D) : Env → M D := fun _ => pure d
theorem me_var {i : Nat} {x : Str} (h : PE X (.Name x pos) (tVar i)) : ME X W (.Name x pos) (eVar i) := ⟨h.imp fun σ H Q ⟨env, m, mu, hE, hR, hp⟩ => by
  cases e : env[i]? with
  | none => unfold eVar at hp; rw [e] at hp; exact hp.elim
  | some o =>
    cases o with
    | none => unfold eVar at hp; rw [e] at hp; exact hp.elim
    | some d =>
      unfold eVar at hp
      rw [e] at hp
      obtain ⟨v, hv, rv⟩ := hE.get i d e
      exact ⟨v, hv, Post.pure hp hR v rv⟩⟩
theorem me_c {d : D} {v : V} (h : PE X e (tC v)) (hr : ∀ m H, Rep X.K m H d v) : ME X W e (eC d) := ⟨h.imp fun σ H Q ⟨env, m, mu, hE, hR, hp⟩ => Post.pure hp hR v (hr m H)⟩
theorem me_int {i j} : ME X W (.Constant (.int i) j pos) (eC (.int i)) := me_c pe_int fun m H => by simp only [Rep]
theorem me_bl {i j} : ME X W (.Constant (.bool i) j pos) (eC (.bl i)) := me_c pe_bl fun m H => by simp only [Rep]
theorem me_non {j} : ME X W (.Constant .none j pos) (eC .non) := me_c pe_non fun m H => by simp only [Rep]
theorem me_str {i j} : ME X W (.Constant (.str i) j pos) (eC (.str i)) := me_c pe_str fun m H => by simp only [Rep]

/-! ### operators by values -/
/-- a reading of two values is a function of two data -/
structure OpM (K : PySem.W.Frag) (W : Wx) (r : R2) (g : D → D → M D) : Prop where
  go : ∀ (x y : D) (v w : V) (m : Mp) (mu : List MO) (H : Hp) (Q : VK), Rel K m mu H → Rep K m H x v → Rep K m H y w → Post K W m H (g x y mu) (fun d m' _ H' => ∀ u, Rep K m' H' d u → Q u H') → r v w H Q
def eBin (g : D → D → M D) (ra rb : Env → M D) : Env → M D := fun env => ra env >>= fun x => rb env >>= fun y => g x y
theorem tE_bin {r : R2} {g : D → D → M D} {ra rb : Env → M D} (o : OpM X.K W r g) : ∀ σ H Q, tE X.K W (eBin g ra rb) σ H Q → tOp r (tE X.K W ra) (tE X.K W rb) σ H Q := fun σ H Q ⟨env, m, mu, hE, hR, hp⟩ =>
  ⟨env, m, mu, hE, hR, (Post.bind hp).mono fun x m1 mu1 H1 g1 R1 hp1 v rv => ⟨env, m1, mu1, hE.grow g1, R1, (Post.bind hp1).mono fun y m2 mu2 H2 g2 R2 hp2 w rw' => o.go x y v w m2 mu2 H2 Q R2 (Rep.grow g2 x v rv) rw' hp2⟩⟩
theorem me_bin {op : Operator} {r : R2} {g : D → D → M D} {ra rb : Env → M D} (ho : OpR X (binaryOp op) r) (o : OpM X.K W r g) (ha : ME X W a ra) (hb : ME X W b rb) : ME X W (.BinOp a op b pos) (eBin g ra rb) :=
  ⟨(pe_op ho ha.pe hb.pe).imp (tE_bin o)⟩
theorem me_cmp {op : CmpOp} {r : R2} {g : D → D → M D} {ra rb : Env → M D} (ho : OpR X (compareOp op) r) (o : OpM X.K W r g) (ha : ME X W a ra) (hb : ME X W b rb) (hm : behindInMarks op b = false) : ME X W (.Compare a [op] [b] pos) (eBin g ra rb) :=
  ⟨(pe_cmpR ho ha.pe hb.pe hm).imp (tE_bin o)⟩
def asB : D → M Bool
  | .bl b => pure b
  | _ => bad
def eB (r : Env → M D) : Env → M Bool := fun env => r env >>= asB
theorem tT_of {r : Env → M D} {t : TE} (h : ∀ σ H Q, tE X.K W r σ H Q → t σ H Q) : ∀ σ H Q, tT X.K W (eB r) σ H Q → t σ H (fun x H' => ∃ k, x = .bl k ∧ Q k H') := fun σ H Q ⟨env, m, mu, hE, hR, hp⟩ =>
  h σ H _ ⟨env, m, mu, hE, hR, (Post.bind hp).mono fun x m1 mu1 H1 g1 R1 hp1 v rv => by
    cases x with
    | bl b =>
      simp only [Rep] at rv
      exact ⟨b, rv, Post.pure hp1 R1⟩
    | _ => exact hp1.elim⟩
theorem mt_cmp {op : CmpOp} {r : R2} {g : D → D → M D} {ra rb : Env → M D} (ho : OpR X (compareOp op) r) (o : OpM X.K W r g) (ha : ME X W a ra) (hb : ME X W b rb) (hm : behindInMarks op b = false) : MT X W (.Compare a [op] [b] pos) (eB (eBin g ra rb)) :=
  ⟨(pt_cmpR ho ha.pe hb.pe hm).imp (tT_of (tE_bin o))⟩
/-- any expression that gives True or False -/
theorem mt_val {r : Env → M D} (h : ME X W e r) (he : ∀ whole, isTrue e X.env whole = (do let v ← whole; standAt e.pos; holding [v] (truthy v)) := by intro _; rfl) : MT X W e (eB r) :=
  ⟨(pt_val h.pe he).imp (tT_of fun _ _ _ q => q)⟩
end
end MP
namespace MP
open PySem L2 PyProof.Rows

def b2n (b : Bool) : Int := if b = true then 1 else 0
mutual
/-- == of data -/
def eqD : D → D → Bool
  | .non, .non => true
  | .bl a, .bl b => a == b
  | .bl a, .int j => b2n a == j
  | .int i, .bl b => i == b2n b
  | .int i, .int j => i == j
  | .str x, .str y => x == y
  | .tup xs, .tup ys => eqDs xs ys
  | .fl xs, .fl ys => eqDs xs ys
  | .fl xs, .ro ys => eqDs xs ys
  | .ro xs, .fl ys => eqDs xs ys
  | .ro xs, .ro ys => eqDs xs ys
  | _, _ => false
def eqDs : List D → List D → Bool
  | [], [] => true
  | x :: xs, y :: ys => eqD x y && eqDs xs ys
  | _, _ => false
end
mutual
/-- == is served -/
def okE : D → Bool
  | .ref _ => false
  | .fd _ _ => false
  | .tup xs => okEs xs
  | .fl xs => okEs xs
  | .ro xs => okEs xs
  | _ => true
def okEs : List D → Bool
  | [] => true
  | x :: xs => okE x && okEs xs
end
mutual
def dep : D → Nat
  | .tup xs => deps xs + 1
  | .fl xs => deps xs + 1
  | .ro xs => deps xs + 1
  | _ => 0
def deps : List D → Nat
  | [] => 0
  | x :: xs => max (dep x) (deps xs)
end
theorem eqDs_range : ∀ (xs ys : List D), (((List.range (min xs.length ys.length)).all fun j => eqD (xs.getD j .non) (ys.getD j .non)) && xs.length == ys.length) = eqDs xs ys
  | [], [] => by simp [eqDs]
  | [], _ :: _ => by simp [eqDs]
  | _ :: _, [] => by simp [eqDs]
  | x :: xs, y :: ys => by
    have ih := eqDs_range xs ys
    rw [List.length_cons, List.length_cons, Nat.succ_min_succ, List.range_succ_eq_map, List.all_cons, List.all_map]
    rw [show eqDs (x :: xs) (y :: ys) = (eqD x y && eqDs xs ys) from by simp only [eqDs], ← ih, Bool.and_assoc]
    congr 2
    rw [Bool.eq_iff_iff]; simp
theorem eqDs_len : ∀ {xs ys : List D}, xs.length ≠ ys.length → eqDs xs ys = false
  | [], [], h => absurd rfl h
  | [], _ :: _, _ => by simp only [eqDs]
  | _ :: _, [], _ => by simp only [eqDs]
  | x :: xs, y :: ys, h => by
    simp only [eqDs]
    rw [eqDs_len (xs := xs) (ys := ys) (fun z => h (by rw [List.length_cons, List.length_cons, z])), Bool.and_false]
theorem eqDs_all {xs ys : List D} (h : xs.length = ys.length) : ((List.range xs.length).all fun j => eqD (xs.getD j .non) (ys.getD j .non)) = eqDs xs ys := by
  rw [← eqDs_range, h, Nat.min_self]
  simp
theorem okEs_get : ∀ {xs : List D} {j : Nat} {d : D}, okEs xs = true → xs[j]? = some d → okE d = true
  | [], _, _, _, e => by simp at e
  | x :: xs, 0, d, h, e => by simp only [okEs, Bool.and_eq_true] at h; simp at e; rw [← e]; exact h.1
  | x :: xs, j + 1, d, h, e => by simp only [okEs, Bool.and_eq_true] at h; exact okEs_get h.2 (by simpa using e)
theorem deps_get : ∀ {xs : List D} {j : Nat} {d : D}, xs[j]? = some d → dep d ≤ deps xs
  | [], _, _, e => by simp at e
  | x :: xs, 0, d, e => by simp at e; rw [← e]; simp only [deps]; exact Nat.le_max_left _ _
  | x :: xs, j + 1, d, e => by simp only [deps]; exact Nat.le_trans (deps_get (xs := xs) (j := j) (by simpa using e)) (Nat.le_max_right _ _)

section
variable {X : Cx} {pins : List (Addr × Obj)} {σ : L2.St} {H : Hp} {s : Shared} {m : Mp}
theorem Inv.list_not_tuple (I : Inv X pins σ H s) {a : Addr} {xs ys : List V} (h : SqL X.K H a xs) (h' : SqT X.K H a ys) : False := by
  obtain ⟨its, r, pl, _⟩ := I.list h
  obtain ⟨its', r', pt, _⟩ := I.tuple h'
  exact SeqAt.ne_of_list_tuple pl.isList (show s.heap.IsTuple a its'.toArray from pt) rfl
mutual
/-- one value's data are equal -/
theorem rep_same (I : Inv X pins σ H s) : ∀ (d e : D) (v : V), Rep X.K m H d v → Rep X.K m H e v → okE d = true → okE e = true → eqD d e = true
  | .non, e, v, h, h', _, ok => by
    simp only [Rep] at h; subst h
    cases e <;> simp only [Rep] at h' <;> first | (simp only [eqD]; done) | (cases h' <;> done) | (obtain ⟨_, _, z, _⟩ := h'; cases z; done) | (obtain ⟨_, z, _⟩ := h'; cases z; done) | (cases h'; simp [eqD]; done)
  | .bl b, e, v, h, h', _, ok => by
    simp only [Rep] at h; subst h
    cases e <;> simp only [Rep] at h' <;> first | (simp only [eqD]; done) | (cases h' <;> done) | (obtain ⟨_, _, z, _⟩ := h'; cases z; done) | (obtain ⟨_, z, _⟩ := h'; cases z; done) | (cases h'; simp [eqD]; done)
  | .int i, e, v, h, h', _, ok => by
    simp only [Rep] at h; subst h
    cases e <;> simp only [Rep] at h' <;> first | (simp only [eqD]; done) | (cases h' <;> done) | (obtain ⟨_, _, z, _⟩ := h'; cases z; done) | (obtain ⟨_, z, _⟩ := h'; cases z; done) | (cases h'; simp [eqD]; done)
  | .str x, e, v, h, h', _, ok => by
    simp only [Rep] at h; subst h
    cases e <;> simp only [Rep] at h' <;> first | (simp only [eqD]; done) | (cases h' <;> done) | (obtain ⟨_, _, z, _⟩ := h'; cases z; done) | (obtain ⟨_, z, _⟩ := h'; cases z; done) | (cases h'; simp [eqD]; done)
  | .tup ds, e, v, h, h', ok, ok' => by
    simp only [Rep] at h
    obtain ⟨a, vs, rfl, hs, hr⟩ := h
    cases e <;> simp only [Rep] at h'
    case tup es =>
      obtain ⟨b, ws, eb, hs', hr'⟩ := h'
      cases eb
      rw [I.tuple_inj hs' hs] at hr'
      simp only [eqD]
      exact reps_same I ds es vs hr hr' (by simpa [okE] using ok) (by simpa [okE] using ok')
    case fl es =>
      obtain ⟨b, ws, eb, hs', _⟩ := h'
      cases eb
      exact (Inv.list_not_tuple I (.of hs') hs).elim
    case ro es =>
      obtain ⟨b, ws, eb, hs', _⟩ := h'
      cases eb
      exact (Inv.list_not_tuple I hs'.sqL hs).elim
    all_goals first | (cases h' <;> done) | (simp [okE] at ok'; done)
  | .fl ds, e, v, h, h', ok, ok' => by
    simp only [Rep] at h
    obtain ⟨a, vs, rfl, hs, hn, hr⟩ := h
    cases e <;> simp only [Rep] at h'
    case tup es =>
      obtain ⟨b, ws, eb, hs', hr'⟩ := h'
      cases eb
      exact (Inv.list_not_tuple I (.of hs) hs').elim
    case fl es =>
      obtain ⟨b, ws, eb, hs', _, hr'⟩ := h'
      cases eb
      rw [I.list_inj (.of hs') (.of hs)] at hr'
      simp only [eqD]
      exact reps_same I ds es vs hr hr' (by simpa [okE] using ok) (by simpa [okE] using ok')
    case ro es =>
      obtain ⟨b, ws, eb, hs', hr'⟩ := h'
      cases eb
      rw [I.list_inj hs'.sqL (.of hs)] at hr'
      simp only [eqD]
      exact reps_same I ds es vs hr hr' (by simpa [okE] using ok) (by simpa [okE] using ok')
    all_goals first | (cases h' <;> done) | (simp [okE] at ok'; done)
  | .ro ds, e, v, h, h', ok, ok' => by
    simp only [Rep] at h
    obtain ⟨a, vs, rfl, hs, hr⟩ := h
    cases e <;> simp only [Rep] at h'
    case tup es =>
      obtain ⟨b, ws, eb, hs', hr'⟩ := h'
      cases eb
      exact (Inv.list_not_tuple I hs.sqL hs').elim
    case fl es =>
      obtain ⟨b, ws, eb, hs', _, hr'⟩ := h'
      cases eb
      rw [I.list_inj (.of hs') hs.sqL] at hr'
      simp only [eqD]
      exact reps_same I ds es vs hr hr' (by simpa [okE] using ok) (by simpa [okE] using ok')
    case ro es =>
      obtain ⟨b, ws, eb, hs', hr'⟩ := h'
      cases eb
      rw [I.list_inj hs'.sqL hs.sqL] at hr'
      simp only [eqD]
      exact reps_same I ds es vs hr hr' (by simpa [okE] using ok) (by simpa [okE] using ok')
    all_goals first | (cases h' <;> done) | (simp [okE] at ok'; done)
  | .fd _ _, _, _, _, _, ok, _ => by simp [okE] at ok
  | .ref _, _, _, _, _, ok, _ => by simp [okE] at ok
theorem reps_same (I : Inv X pins σ H s) : ∀ (ds es : List D) (vs : List V), Reps X.K m H ds vs → Reps X.K m H es vs → okEs ds = true → okEs es = true → eqDs ds es = true
  | [], es, vs, h, h', _, _ => by
    rw [Reps.nil_iff] at h; subst h
    cases es with
    | nil => simp only [eqDs]
    | cons e es => obtain ⟨_, _, z, _⟩ := Reps.cons_iff.mp h'; cases z
  | d :: ds, es, vs, h, h', ok, ok' => by
    obtain ⟨v, r, rfl, h1, h2⟩ := Reps.cons_iff.mp h
    cases es with
    | nil => rw [Reps.nil_iff] at h'; cases h'
    | cons e es =>
      obtain ⟨v', r', z, h1', h2'⟩ := Reps.cons_iff.mp h'
      cases z
      simp only [okEs, Bool.and_eq_true] at ok ok'
      simp only [eqDs, Bool.and_eq_true]
      exact ⟨rep_same I d e _ h1 h1' ok.1 ok'.1, reps_same I ds es _ h2 h2' ok.2 ok'.2⟩
end
end
end MP
namespace MP
open PySem L2 PyProof.Rows
open PySem.SeqAt (EqAt RcAt)
theorem in1_units (A : Around) : A.in1.units = A.units + 1 := rfl
section
variable {X : Cx} {pins : List (Addr × Obj)} {σ : L2.St} {H : Hp} {s : Shared} {m : Mp}
theorem vals_at {vs : List V} {its : List Value} (r : Vals vs its) {j : Nat} (h : j < its.toArray.size) : ∃ v, vs[j]? = some v ∧ RelV v (its.toArray[j]) := by
  have hj : j < its.length := by simpa using h
  have hl := r.length
  have e : vs[j]? = some vs[j] := List.getElem?_eq_getElem (by omega)
  obtain ⟨u, hu, ru⟩ := r.get e
  refine ⟨_, e, ?_⟩
  rw [List.getElem?_eq_getElem hj] at hu
  cases hu
  simpa using ru
theorem getD_at {ds : List D} {j : Nat} {d : D} (h : ds[j]? = some d) : ds.getD j .non = d := by rw [List.getD_eq_getElem?_getD, h]; rfl
theorem Reps.at {K : PySem.W.Frag} {ds : List D} {vs : List V} (r : Reps K m H ds vs) {j : Nat} {v : V} (h : vs[j]? = some v) : ∃ d, ds[j]? = some d ∧ Rep K m H d v := by
  have hj : j < ds.length := by rw [r.length]; exact (List.getElem?_eq_some_iff.mp h).1
  obtain ⟨w, hw, q⟩ := r.get (List.getElem?_eq_getElem hj)
  rw [h] at hw; cases hw
  exact ⟨_, List.getElem?_eq_getElem hj, q⟩
/-- items by items, then the lists -/
theorem eq_lists {a b : Addr} {ds es : List D} {vs ws : List V} {A : Around} (I : Inv X pins σ H s) (ha : SqL X.K H a vs) (hb : SqL X.K H b ws) (ra : Reps X.K m H ds vs) (rb : Reps X.K m H es ws) (ok : okEs ds = true) (ok' : okEs es = true) (hu : A.units + (deps ds + 1) < cLine)
    (ih : ∀ (j : Nat) d e v w u u', ds[j]? = some d → es[j]? = some e → Rep X.K m H d v → Rep X.K m H e w → RelV v u → RelV w u' → EqAt A.in1 s u u' (eqD d e)) :
    RcAt A s (.ref a) (.ref b) (eqDs ds es) ∧ EqAt A s (.ref a) (.ref b) (eqDs ds es) := by
  obtain ⟨its, r, pl, _⟩ := I.list ha
  obtain ⟨its', r', pl', _⟩ := I.list hb
  have h1 := ra.length
  have h2 := rb.length
  have h3 := r.length
  have h4 := r'.length
  have rc : RcAt A s (.ref a) (.ref b) (eqDs ds es) := by
    by_cases hsz : its.toArray.size = its'.toArray.size
    · have hl : ds.length = es.length := by simp only [List.size_toArray] at hsz; omega
      rw [← eqDs_all hl]
      have q := RcAt.lists (A := A) (e := fun j => eqD (ds.getD j .non) (es.getD j .non)) pl.isList pl'.isList hsz (by omega) fun j j1 j2 => by
        obtain ⟨v, hv, rv⟩ := vals_at r j1
        obtain ⟨w, hw, rw'⟩ := vals_at r' j2
        obtain ⟨d, hd, qd⟩ := ra.at hv
        obtain ⟨e, he, qe⟩ := rb.at hw
        show EqAt A.in1 s _ _ (eqD (ds.getD j .non) (es.getD j .non))
        rw [getD_at hd, getD_at he]
        exact ih j d e v w _ _ hd he qd qe rv rw'
      rw [show ds.length = its.toArray.size by simp only [List.size_toArray]; omega]
      exact q
    · rw [eqDs_len (by simp only [List.size_toArray] at hsz; omega)]
      exact RcAt.lists_lengths pl.isList pl'.isList (by simpa using hsz) (by omega)
  refine ⟨rc, ?_⟩
  by_cases z : a = b
  · subst z
    rw [I.list_inj hb ha] at rb
    rw [reps_same I ds es vs ra rb ok ok']
    exact EqAt.same _
  · exact EqAt.of_refs z rc
theorem eq_tuples {a b : Addr} {ds es : List D} {vs ws : List V} {A : Around} (I : Inv X pins σ H s) (ha : SqT X.K H a vs) (hb : SqT X.K H b ws) (ra : Reps X.K m H ds vs) (rb : Reps X.K m H es ws) (ok : okEs ds = true) (ok' : okEs es = true) (hu : A.units + (deps ds + 1) < cLine)
    (ih : ∀ (j : Nat) d e v w u u', ds[j]? = some d → es[j]? = some e → Rep X.K m H d v → Rep X.K m H e w → RelV v u → RelV w u' → EqAt A.in1 s u u' (eqD d e)) :
    RcAt A s (.ref a) (.ref b) (eqDs ds es) ∧ EqAt A s (.ref a) (.ref b) (eqDs ds es) := by
  obtain ⟨its, r, pl, _⟩ := I.tuple ha
  obtain ⟨its', r', pl', _⟩ := I.tuple hb
  have h1 := ra.length
  have h2 := rb.length
  have h3 := r.length
  have h4 := r'.length
  have rc : RcAt A s (.ref a) (.ref b) (eqDs ds es) := by
    rw [← eqDs_range]
    have q := RcAt.tuples (A := A) (e := fun j => eqD (ds.getD j .non) (es.getD j .non)) (show s.heap.IsTuple a its.toArray from pl) (show s.heap.IsTuple b its'.toArray from pl') (by omega) fun j j1 j2 => by
      obtain ⟨v, hv, rv⟩ := vals_at r j1
      obtain ⟨w, hw, rw'⟩ := vals_at r' j2
      obtain ⟨d, hd, qd⟩ := ra.at hv
      obtain ⟨e, he, qe⟩ := rb.at hw
      show EqAt A.in1 s _ _ (eqD (ds.getD j .non) (es.getD j .non))
      rw [getD_at hd, getD_at he]
      exact ih j d e v w _ _ hd he qd qe rv rw'
    have e1 : its.toArray.size = ds.length := by simp only [List.size_toArray]; omega
    have e2 : its'.toArray.size = es.length := by simp only [List.size_toArray]; omega
    rw [e1, e2] at q
    exact q
  refine ⟨rc, ?_⟩
  by_cases z : a = b
  · subst z
    rw [I.tuple_inj hb ha] at rb
    rw [reps_same I ds es vs ra rb ok ok']
    exact EqAt.same _
  · exact EqAt.of_refs z rc
theorem list_at (I : Inv X pins σ H s) {a : Addr} {vs : List V} (h : SqL X.K H a vs) : ∃ its, s.heap.IsList a its := by
  obtain ⟨its, _, pl, _⟩ := I.list h
  exact ⟨_, pl.isList⟩
theorem tuple_at (I : Inv X pins σ H s) {a : Addr} {vs : List V} (h : SqT X.K H a vs) : ∃ its, s.heap.IsTuple a its := by
  obtain ⟨its, _, pl, _⟩ := I.tuple h
  exact ⟨its.toArray, pl⟩
/-- what a datum is, for == -/
inductive Kd (K : PySem.W.Frag) (m : Mp) (H : Hp) : D → Value → Prop where
  | non : Kd K m H .non .none
  | bl (b : Bool) : Kd K m H (.bl b) (.bool b)
  | int (i : Int) (t : Tok) : Kd K m H (.int i) (.int i t)
  | str (x : Str) (t : Tok) : Kd K m H (.str x) (.str x t)
  | tup {ds : List D} {a : Addr} {vs : List V} : SqT K H a vs → Reps K m H ds vs → Kd K m H (.tup ds) (.ref a)
  | fl {ds : List D} {a : Addr} {vs : List V} : SqL K H a vs → Reps K m H ds vs → Kd K m H (.fl ds) (.ref a)
  | ro {ds : List D} {a : Addr} {vs : List V} : SqL K H a vs → Reps K m H ds vs → Kd K m H (.ro ds) (.ref a)
theorem kd_of {K : PySem.W.Frag} {d : D} {v : V} {u : Value} (h : Rep K m H d v) (r : RelV v u) (ok : okE d = true) : Kd K m H d u := by
  cases d <;> simp only [Rep] at h
  case non => subst h; cases r; exact .non
  case bl b => subst h; cases r; exact .bl b
  case int i => subst h; obtain ⟨t, rfl⟩ := r; exact .int i t
  case str x => subst h; obtain ⟨t, rfl⟩ := r; exact .str x t
  case tup ds => obtain ⟨a, vs, rfl, hs, hr⟩ := h; cases r; exact .tup hs hr
  case fl ds => obtain ⟨a, vs, rfl, hs, _, hr⟩ := h; cases r; exact .fl (.of hs) hr
  case ro ds => obtain ⟨a, vs, rfl, hs, hr⟩ := h; cases r; exact .ro hs.sqL hr
  all_goals simp [okE] at ok
mutual
theorem eq_at (I : Inv X pins σ H s) : ∀ (d e : D) (u u' : Value) (A : Around), Kd X.K m H d u → Kd X.K m H e u' → okE d = true → okE e = true → A.units + dep d < cLine → RcAt A s u u' (eqD d e) ∧ EqAt A s u u' (eqD d e)
  | .non, e, u, u', A, h, h', ok, ok', hu => by
    cases h
    cases h' <;> simp only [eqD, dep, Nat.add_zero] at hu ⊢
    case non => exact ⟨RcAt.none_none, EqAt.same _⟩
    case bl b => exact ⟨RcAt.none_bool _, EqAt.none_bool _⟩
    case int i t => exact ⟨RcAt.none_int _ _, EqAt.none_int _ _⟩
    case str x t => exact ⟨RcAt.none_str _ _, EqAt.none_str _ _⟩
    case tup hs hr => obtain ⟨_, p⟩ := tuple_at I hs; exact ⟨RcAt.none_tuple p hu, EqAt.none_tuple p hu⟩
    case fl hs hr => obtain ⟨_, p⟩ := list_at I hs; exact ⟨RcAt.none_list p hu, EqAt.none_list p hu⟩
    case ro hs hr => obtain ⟨_, p⟩ := list_at I hs; exact ⟨RcAt.none_list p hu, EqAt.none_list p hu⟩
  | .bl b, e, u, u', A, h, h', ok, ok', hu => by
    cases h
    cases h' <;> simp only [eqD, dep, Nat.add_zero] at hu ⊢
    case non => exact ⟨RcAt.bool_none _, EqAt.bool_none _⟩
    case bl b => exact ⟨RcAt.bool_bool _ _, EqAt.bool_bool _ _⟩
    case int i t => exact ⟨RcAt.bool_int _ _ _, EqAt.bool_int _ _ _⟩
    case str x t => exact ⟨RcAt.bool_str _ _ _, EqAt.bool_str _ _ _⟩
    case tup hs hr => obtain ⟨_, p⟩ := tuple_at I hs; exact ⟨RcAt.bool_tuple _ p hu, EqAt.bool_tuple _ p hu⟩
    case fl hs hr => obtain ⟨_, p⟩ := list_at I hs; exact ⟨RcAt.bool_list _ p hu, EqAt.bool_list _ p hu⟩
    case ro hs hr => obtain ⟨_, p⟩ := list_at I hs; exact ⟨RcAt.bool_list _ p hu, EqAt.bool_list _ p hu⟩
  | .int i, e, u, u', A, h, h', ok, ok', hu => by
    cases h
    cases h' <;> simp only [eqD, dep, Nat.add_zero] at hu ⊢
    case non => exact ⟨RcAt.int_none _ _, EqAt.int_none _ _⟩
    case bl b => exact ⟨RcAt.int_bool _ _ _, EqAt.int_bool _ _ _⟩
    case int i t => exact ⟨RcAt.int_int _ _ _ _, EqAt.int_int _ _ _ _⟩
    case str x t => exact ⟨RcAt.int_str _ _ _ _, EqAt.int_str _ _ _ _⟩
    case tup hs hr => obtain ⟨_, p⟩ := tuple_at I hs; exact ⟨RcAt.int_tuple _ _ p hu, EqAt.int_tuple _ _ p hu⟩
    case fl hs hr => obtain ⟨_, p⟩ := list_at I hs; exact ⟨RcAt.int_list _ _ p hu, EqAt.int_list _ _ p hu⟩
    case ro hs hr => obtain ⟨_, p⟩ := list_at I hs; exact ⟨RcAt.int_list _ _ p hu, EqAt.int_list _ _ p hu⟩
  | .str x, e, u, u', A, h, h', ok, ok', hu => by
    cases h
    cases h' <;> simp only [eqD, dep, Nat.add_zero] at hu ⊢
    case non => exact ⟨RcAt.str_none _ _, EqAt.str_none _ _⟩
    case bl b => exact ⟨RcAt.str_bool _ _ _, EqAt.str_bool _ _ _⟩
    case int i t => exact ⟨RcAt.str_int _ _ _ _, EqAt.str_int _ _ _ _⟩
    case str x t => exact ⟨RcAt.str_str _ _ _ _, EqAt.str_str _ _ _ _⟩
    case tup hs hr => obtain ⟨_, p⟩ := tuple_at I hs; exact ⟨RcAt.str_tuple _ _ p hu, EqAt.str_tuple _ _ p hu⟩
    case fl hs hr => obtain ⟨_, p⟩ := list_at I hs; exact ⟨RcAt.str_list _ _ p hu, EqAt.str_list _ _ p hu⟩
    case ro hs hr => obtain ⟨_, p⟩ := list_at I hs; exact ⟨RcAt.str_list _ _ p hu, EqAt.str_list _ _ p hu⟩
  | .tup ds, e, u, u', A, h, h', ok, ok', hu => by
    cases h with
    | tup hs hr =>
    have hu0 : A.units < cLine := by omega
    cases h' <;> simp only [eqD]
    case non => obtain ⟨_, p⟩ := tuple_at I hs; exact ⟨RcAt.tuple_none p hu0, EqAt.tuple_none p hu0⟩
    case bl b => obtain ⟨_, p⟩ := tuple_at I hs; exact ⟨RcAt.tuple_bool _ p hu0, EqAt.tuple_bool _ p hu0⟩
    case int i t => obtain ⟨_, p⟩ := tuple_at I hs; exact ⟨RcAt.tuple_int _ _ p hu0, EqAt.tuple_int _ _ p hu0⟩
    case str x t => obtain ⟨_, p⟩ := tuple_at I hs; exact ⟨RcAt.tuple_str _ _ p hu0, EqAt.tuple_str _ _ p hu0⟩
    case tup es b ws hs' hr' =>
      simp only [okE] at ok ok'
      simp only [dep] at hu
      exact eq_tuples I hs hs' hr hr' ok ok' hu fun j d e v w u u' hd he qd qe rv rw' => (eq_ats I ds j d hd e u u' A.in1 (kd_of qd rv (okEs_get ok hd)) (kd_of qe rw' (okEs_get ok' he)) ok (okEs_get ok' he) (by rw [in1_units]; omega))
    case fl es b ws hs' hr' => obtain ⟨_, p⟩ := tuple_at I hs; obtain ⟨_, p'⟩ := list_at I hs'; exact ⟨RcAt.tuple_list p p' hu0, EqAt.tuple_list p p' hu0⟩
    case ro es b ws hs' hr' => obtain ⟨_, p⟩ := tuple_at I hs; obtain ⟨_, p'⟩ := list_at I hs'; exact ⟨RcAt.tuple_list p p' hu0, EqAt.tuple_list p p' hu0⟩
  | .fl ds, e, u, u', A, h, h', ok, ok', hu => by
    cases h with
    | fl hs hr =>
    have hu0 : A.units < cLine := by omega
    simp only [dep] at hu
    cases h' <;> simp only [eqD]
    case non => obtain ⟨_, p⟩ := list_at I hs; exact ⟨RcAt.list_none p hu0, EqAt.list_none p hu0⟩
    case bl b => obtain ⟨_, p⟩ := list_at I hs; exact ⟨RcAt.list_bool _ p hu0, EqAt.list_bool _ p hu0⟩
    case int i t => obtain ⟨_, p⟩ := list_at I hs; exact ⟨RcAt.list_int _ _ p hu0, EqAt.list_int _ _ p hu0⟩
    case str x t => obtain ⟨_, p⟩ := list_at I hs; exact ⟨RcAt.list_str _ _ p hu0, EqAt.list_str _ _ p hu0⟩
    case tup es b ws hs' hr' => obtain ⟨_, p⟩ := list_at I hs; obtain ⟨_, p'⟩ := tuple_at I hs'; exact ⟨RcAt.list_tuple p p' hu0, EqAt.list_tuple p p' hu0⟩
    case fl es b ws hs' hr' =>
      simp only [okE] at ok ok'
      exact eq_lists I hs hs' hr hr' ok ok' hu fun j d e v w u u' hd he qd qe rv rw' => (eq_ats I ds j d hd e u u' A.in1 (kd_of qd rv (okEs_get ok hd)) (kd_of qe rw' (okEs_get ok' he)) ok (okEs_get ok' he) (by rw [in1_units]; omega))
    case ro es b ws hs' hr' =>
      simp only [okE] at ok ok'
      exact eq_lists I hs hs' hr hr' ok ok' hu fun j d e v w u u' hd he qd qe rv rw' => (eq_ats I ds j d hd e u u' A.in1 (kd_of qd rv (okEs_get ok hd)) (kd_of qe rw' (okEs_get ok' he)) ok (okEs_get ok' he) (by rw [in1_units]; omega))
  | .ro ds, e, u, u', A, h, h', ok, ok', hu => by
    cases h with
    | ro hs hr =>
    have hu0 : A.units < cLine := by omega
    simp only [dep] at hu
    cases h' <;> simp only [eqD]
    case non => obtain ⟨_, p⟩ := list_at I hs; exact ⟨RcAt.list_none p hu0, EqAt.list_none p hu0⟩
    case bl b => obtain ⟨_, p⟩ := list_at I hs; exact ⟨RcAt.list_bool _ p hu0, EqAt.list_bool _ p hu0⟩
    case int i t => obtain ⟨_, p⟩ := list_at I hs; exact ⟨RcAt.list_int _ _ p hu0, EqAt.list_int _ _ p hu0⟩
    case str x t => obtain ⟨_, p⟩ := list_at I hs; exact ⟨RcAt.list_str _ _ p hu0, EqAt.list_str _ _ p hu0⟩
    case tup es b ws hs' hr' => obtain ⟨_, p⟩ := list_at I hs; obtain ⟨_, p'⟩ := tuple_at I hs'; exact ⟨RcAt.list_tuple p p' hu0, EqAt.list_tuple p p' hu0⟩
    case fl es b ws hs' hr' =>
      simp only [okE] at ok ok'
      exact eq_lists I hs hs' hr hr' ok ok' hu fun j d e v w u u' hd he qd qe rv rw' => (eq_ats I ds j d hd e u u' A.in1 (kd_of qd rv (okEs_get ok hd)) (kd_of qe rw' (okEs_get ok' he)) ok (okEs_get ok' he) (by rw [in1_units]; omega))
    case ro es b ws hs' hr' =>
      simp only [okE] at ok ok'
      exact eq_lists I hs hs' hr hr' ok ok' hu fun j d e v w u u' hd he qd qe rv rw' => (eq_ats I ds j d hd e u u' A.in1 (kd_of qd rv (okEs_get ok hd)) (kd_of qe rw' (okEs_get ok' he)) ok (okEs_get ok' he) (by rw [in1_units]; omega))
  | .fd _ _, _, _, _, _, _, _, ok, _, _ => by simp [okE] at ok
  | .ref _, _, _, _, _, _, _, ok, _, _ => by simp [okE] at ok
theorem eq_ats (I : Inv X pins σ H s) : ∀ (ds : List D) (j : Nat) (d : D), ds[j]? = some d → ∀ (e : D) (u u' : Value) (A : Around), Kd X.K m H d u → Kd X.K m H e u' → okEs ds = true → okE e = true → A.units + deps ds < cLine → EqAt A s u u' (eqD d e)
  | [], _, _, h => by simp at h
  | x :: xs, 0, d, h => fun e u u' A k k' ok ok' hu => by
    simp only [okEs, Bool.and_eq_true] at ok
    simp only [deps] at hu
    have : x = d := by simpa using h
    subst this
    exact (eq_at I x e u u' A k k' ok.1 ok' (by have := Nat.le_max_left (dep x) (deps xs); omega)).2
  | x :: xs, j + 1, d, h => fun e u u' A k k' ok ok' hu => by
    simp only [okEs, Bool.and_eq_true] at ok
    simp only [deps] at hu
    exact eq_ats I xs j d (by simpa using h) e u u' A k k' ok.2 ok' (by have := Nat.le_max_right (dep x) (deps xs); omega)
end
end
end MP
namespace MP
open PySem L2 PyProof.Rows

/-- the list at a place -/
def atL (mu : List MO) (n : Nat) : R (List D) := match mu[n]? with
  | some (.lst xs) => .ok xs mu
  | _ => .bad
theorem atL_lst {mu : List MO} {n : Nat} {xs : List D} (h : mu[n]? = some (.lst xs)) : atL mu n = .ok xs mu := by unfold atL; rw [h]
theorem atL_dk {mu : List MO} {n : Nat} {kvs : List (Key × D)} (h : mu[n]? = some (.dk kvs)) : atL mu n = .bad := by unfold atL; rw [h]
/-- the items of a list, as it stands -/
def rdL : D → M (List D)
  | .fl xs => pure xs
  | .ro xs => pure xs
  | .ref n => fun mu => atL mu n
  | _ => bad
/-- of a list that is not locked -/
def rdM : D → M (List D)
  | .fl xs => pure xs
  | .ref n => fun mu => atL mu n
  | _ => bad
section
variable {K : PySem.W.Frag} {W : Wx} {m m' : Mp} {H H' : Hp} {mu : List MO}
theorem rdL_ok {d : D} {v : V} {Q : List D → Mp → List MO → Hp → Prop} (rl : Rel K m mu H) (h : Rep K m H d v) (hp : Post K W m H (rdL d mu) Q) : ∃ a xs vs, v = .ref a ∧ SqL K H a vs ∧ Reps K m H xs vs ∧ rdL d mu = .ok xs mu ∧ Q xs m mu H := by
  cases d <;> simp only [Rep] at h
  case fl ds => obtain ⟨a, vs, rfl, hs, _, hr⟩ := h; exact ⟨a, ds, vs, rfl, .of hs, hr, rfl, hp m H .refl rl⟩
  case ro ds => obtain ⟨a, vs, rfl, hs, hr⟩ := h; exact ⟨a, ds, vs, rfl, hs.sqL, hr, rfl, hp m H .refl rl⟩
  case ref n =>
    obtain ⟨a, rfl, hm⟩ := h
    obtain ⟨o, ho, hr⟩ := rl.at' hm
    cases o with
    | lst xs =>
      obtain ⟨vs, hH, hr⟩ := hr
      have e : rdL (.ref n) mu = .ok xs mu := atL_lst ho
      rw [e] at hp
      exact ⟨a, xs, vs, rfl, .of hH, hr, e, hp m H .refl rl⟩
    | dk kvs =>
      have e : rdL (.ref n) mu = .bad := atL_dk ho
      rw [e] at hp
      exact hp.elim
  all_goals exact (show False from hp).elim
theorem rdM_ok {d : D} {v : V} {Q : List D → Mp → List MO → Hp → Prop} (rl : Rel K m mu H) (h : Rep K m H d v) (hp : Post K W m H (rdM d mu) Q) : ∃ a xs vs, v = .ref a ∧ H a = some (.lst vs) ∧ Reps K m H xs vs ∧ rdM d mu = .ok xs mu ∧ Q xs m mu H := by
  cases d <;> simp only [Rep] at h
  case fl ds => obtain ⟨a, vs, rfl, hs, _, hr⟩ := h; exact ⟨a, ds, vs, rfl, hs, hr, rfl, hp m H .refl rl⟩
  case ref n =>
    obtain ⟨a, rfl, hm⟩ := h
    obtain ⟨o, ho, hr⟩ := rl.at' hm
    cases o with
    | lst xs =>
      obtain ⟨vs, hH, hr⟩ := hr
      have e : rdM (.ref n) mu = .ok xs mu := atL_lst ho
      rw [e] at hp
      exact ⟨a, xs, vs, rfl, hH, hr, e, hp m H .refl rl⟩
    | dk kvs =>
      have e : rdM (.ref n) mu = .bad := atL_dk ho
      rw [e] at hp
      exact hp.elim
  all_goals exact (show False from hp).elim
theorem Post.ok_of {α : Type} {a : α} {r : R α} {Q : α → Mp → List MO → Hp → Prop} {mu' : List MO} (e : r = .ok a mu') (hp : Post K W m H r Q) (rl : Rel K m mu' H) : Q a m mu' H := by
  rw [e] at hp; exact hp m H .refl rl
/-- a new list outside of the small heap -/
theorem new_fl {ds : List D} {vs : List V} {p : Addr} (rl : Rel K m mu H) (hr : Reps K m H ds vs) (hp : H p = none) : Grow m m H (upd H p (.lst vs)) ∧ Rel K m mu (upd H p (.lst vs)) ∧ Rep K m (upd H p (.lst vs)) (.fl ds) (.ref p) := by
  have g : Grow m m H (upd H p (.lst vs)) := .laid hp
  exact ⟨g, rl.laid hp, by simp only [Rep]; exact ⟨p, vs, rfl, upd_same, rl.free hp, Reps.grow g ds vs hr⟩⟩
theorem new_tup {ds : List D} {vs : List V} {p : Addr} (rl : Rel K m mu H) (hr : Reps K m H ds vs) (hp : H p = none) : Grow m m H (upd H p (.tup vs)) ∧ Rel K m mu (upd H p (.tup vs)) ∧ Rep K m (upd H p (.tup vs)) (.tup ds) (.ref p) := by
  have g : Grow m m H (upd H p (.tup vs)) := .laid hp
  exact ⟨g, rl.laid hp, by simp only [Rep]; exact ⟨p, vs, rfl, .of upd_same, Reps.grow g ds vs hr⟩⟩
end

/-! ### views -/
def toI : D → M Int
  | .int i => pure i
  | _ => bad
def toS : D → M Str
  | .str x => pure x
  | _ => bad
def toT : D → M (List D)
  | .tup xs => pure xs
  | _ => bad
def toB : D → M Bool
  | .bl b => pure b
  | _ => bad
section
variable {K : PySem.W.Frag} {W : Wx} {m m' : Mp} {H H' : Hp} {mu : List MO}
theorem toI_ok {d : D} {v : V} {Q : Int → Mp → List MO → Hp → Prop} (rl : Rel K m mu H) (h : Rep K m H d v) (hp : Post K W m H (toI d mu) Q) : ∃ i, d = .int i ∧ v = .int i ∧ Q i m mu H := by
  cases d
  case int i => simp only [Rep] at h; exact ⟨i, rfl, h, hp m H .refl rl⟩
  all_goals exact (show False from hp).elim
theorem toS_ok {d : D} {v : V} {Q : Str → Mp → List MO → Hp → Prop} (rl : Rel K m mu H) (h : Rep K m H d v) (hp : Post K W m H (toS d mu) Q) : ∃ i, d = .str i ∧ v = .str i ∧ Q i m mu H := by
  cases d
  case str i => simp only [Rep] at h; exact ⟨i, rfl, h, hp m H .refl rl⟩
  all_goals exact (show False from hp).elim
theorem toB_ok {d : D} {v : V} {Q : Bool → Mp → List MO → Hp → Prop} (rl : Rel K m mu H) (h : Rep K m H d v) (hp : Post K W m H (toB d mu) Q) : ∃ i, d = .bl i ∧ v = .bl i ∧ Q i m mu H := by
  cases d
  case bl i => simp only [Rep] at h; exact ⟨i, rfl, h, hp m H .refl rl⟩
  all_goals exact (show False from hp).elim
theorem toT_ok {d : D} {v : V} {Q : List D → Mp → List MO → Hp → Prop} (rl : Rel K m mu H) (h : Rep K m H d v) (hp : Post K W m H (toT d mu) Q) : ∃ xs a vs, d = .tup xs ∧ v = .ref a ∧ SqT K H a vs ∧ Reps K m H xs vs ∧ Q xs m mu H := by
  cases d
  case tup xs => simp only [Rep] at h; obtain ⟨a, vs, e, hs, hr⟩ := h; exact ⟨xs, a, vs, rfl, e, hs, hr, hp m H .refl rl⟩
  all_goals exact (show False from hp).elim
/-- a condition that the data must meet -/
def need (c : Prop) [Decidable c] : M Unit := if c then pure () else bad
theorem need_ok {c : Prop} [Decidable c] {Q : Unit → Mp → List MO → Hp → Prop} (rl : Rel K m mu H) (hp : Post K W m H (need c mu) Q) : c ∧ Q () m mu H := by
  by_cases h : c
  · unfold need at hp
    rw [if_pos h] at hp
    exact ⟨h, hp m H .refl rl⟩
  · unfold need at hp
    rw [if_neg h] at hp
    exact (show False from hp).elim
end

/-! ### arithmetic, +, comparisons -/
def gII (c : Int → Int → Prop) [∀ i j, Decidable (c i j)] (f : Int → Int → D) (x y : D) : M D := do
  let i ← toI x
  let j ← toI y
  need (c i j)
  pure (f i j)
def gCat (x y : D) : M D := do
  let xs ← rdM x
  let ys ← rdM y
  need (xs.length + ys.length ≤ sizeLine)
  pure (.fl (xs ++ ys))
def gAdd : D → D → M D
  | .int i, y => do
    let j ← toI y
    pure (.int (i + j))
  | .str x, y => do
    let z ← toS y
    need (x.length + z.length ≤ sizeLine)
    pure (.str (x ++ z))
  | .tup xs, y => do
    let ys ← toT y
    need (xs.length + ys.length ≤ sizeLine)
    pure (.tup (xs ++ ys))
  | x, y => gCat x y
def cAny (_ _ : Int) : Prop := True
instance (i j : Int) : Decidable (cAny i j) := isTrue trivial
instance (i j : Int) : Decidable (CMulW i j) := inferInstanceAs (Decidable (_ < _))
instance (i j : Int) : Decidable (CDivW i j) := inferInstanceAs (Decidable (_ ∧ _))
instance (i j : Int) : Decidable (CPow i j) := inferInstanceAs (Decidable (_ ∧ _ ∧ _))
def cPos (_ j : Int) : Prop := 0 < j
instance (i j : Int) : Decidable (cPos i j) := inferInstanceAs (Decidable (_ < _))
def gSub : D → D → M D := gII cAny fun i j => .int (i - j)
def cMul (i j : Int) : Prop := CMul i j ∨ CMulW i j
instance (i j : Int) : Decidable (CMul i j) := inferInstanceAs (Decidable ((-(2 ^ 64) < i ∧ i < 2 ^ 64) ∨ (-(2 ^ 64) < j ∧ j < 2 ^ 64)))
instance (i j : Int) : Decidable (cMul i j) := inferInstanceAs (Decidable (CMul i j ∨ CMulW i j))
def gMul : D → D → M D := gII cMul fun i j => .int (i * j)
def gDiv : D → D → M D := gII CDivW fun i j => .int (i / j)
def gMod : D → D → M D := gII cPos fun i j => .int (i % j)
def gPow : D → D → M D := gII CPow fun i j => .int (i ^ j.toNat)
def gCmp (f : Int → Int → Bool) : D → D → M D := gII cAny fun i j => .bl (f i j)
def ltS (x y : Str) : Bool := decide (x.cps.toList < y.cps.toList)
def gLt : D → D → M D
  | .str x, y => do
    let z ← toS y
    pure (.bl (ltS x z))
  | x, y => gCmp (fun i j => decide (i < j)) x y
def gEq (neg : Bool) (x y : D) : M D := do
  need (okE x = true ∧ okE y = true ∧ dep x < 64)
  pure (.bl (eqD x y != neg))
def isN : D → Bool
  | .non => true
  | _ => false
def gIsN (neg : Bool) (x y : D) : M D := do
  need (isN y = true)
  pure (.bl (isN x != neg))
section
variable {X : Cx} {W : Wx}
theorem opm_ii {c : Int → Int → Prop} [∀ i j, Decidable (c i j)] {f : Int → Int → D} {fv : Int → Int → V} (hf : ∀ i j m H, Rep X.K m H (f i j) (fv i j)) : OpM X.K W (rI c fv) (gII c f) := ⟨fun x y v w m mu H Q rl hx hy hp => by
  obtain ⟨i, rfl, rfl, hp⟩ := toI_ok rl hx (Post.bind hp)
  obtain ⟨j, rfl, rfl, hp⟩ := toI_ok rl hy (Post.bind hp)
  obtain ⟨hc, hp⟩ := need_ok rl (Post.bind hp)
  exact ⟨i, j, rfl, rfl, hc, Post.pure hp rl _ (hf i j _ _)⟩⟩
theorem rI0_any {g : Int → Int → V} {x y : V} {H : Hp} {Q : VK} (h : rI cAny g x y H Q) : rI0 g x y H Q := let ⟨i, j, e, e', _, q⟩ := h; ⟨i, j, e, e', q⟩
theorem OpM.imp {K : PySem.W.Frag} {r r' : R2} {g : D → D → M D} (o : OpM K W r g) (h : ∀ x y H Q, r x y H Q → r' x y H Q) : OpM K W r' g := ⟨fun x y v w m mu H Q rl hx hy hp => h _ _ _ _ (o.go x y v w m mu H Q rl hx hy hp)⟩
theorem opm_sub : OpM X.K W (rI0 fun i j => .int (i - j)) gSub := (opm_ii (c := cAny) fun i j m H => by simp only [Rep]).imp fun _ _ _ _ => rI0_any
def rMulM : R2 := fun x y H Q => rI CMul (fun i j => .int (i * j)) x y H Q ∨ rI CMulW (fun i j => .int (i * j)) x y H Q
theorem op_mulM : OpR X (binaryOp .Mult) rMulM := op_mul.or op_mulW
theorem opm_mul : OpM X.K W rMulM gMul := (opm_ii (c := cMul) (fv := fun i j => .int (i * j)) fun i j m H => by simp only [Rep]).imp fun _ _ _ _ ⟨i, j, e, e', c, q⟩ => c.elim (fun c => .inl ⟨i, j, e, e', c, q⟩) (fun c => .inr ⟨i, j, e, e', c, q⟩)
theorem opm_div : OpM X.K W (rI CDivW fun i j => .int (i / j)) gDiv := opm_ii fun i j m H => by simp only [Rep]
theorem opm_mod : OpM X.K W (rI (fun _ j => 0 < j) fun i j => .int (i % j)) gMod := opm_ii (c := cPos) fun i j m H => by simp only [Rep]
theorem opm_pow : OpM X.K W (rI CPow fun i j => .int (i ^ j.toNat)) gPow := opm_ii fun i j m H => by simp only [Rep]
theorem opm_cmp {f : Int → Int → Bool} : OpM X.K W (rI0 fun i j => .bl (f i j)) (gCmp f) := (opm_ii (c := cAny) fun i j m H => by simp only [Rep]).imp fun _ _ _ _ => rI0_any
def rLtM : R2 := fun x y H Q => rI0 (fun i j => .bl (decide (i < j))) x y H Q ∨ ∃ i j, x = .str i ∧ y = .str j ∧ Q (.bl (decide (i.cps.toList < j.cps.toList))) H
theorem op_ltM : OpR X (compareOp .Lt) rLtM := op_lt.or op_lt_str
theorem opm_lt : OpM X.K W rLtM gLt := ⟨fun x y v w m mu H Q rl hx hy hp => by
  cases x
  case str x =>
    obtain ⟨z, rfl, rfl, hp⟩ := toS_ok rl hy (Post.bind hp)
    simp only [Rep] at hx
    exact .inr ⟨x, z, hx, rfl, Post.pure hp rl _ (by simp only [Rep, ltS])⟩
  all_goals exact .inl (opm_cmp.go _ y v w m mu H Q rl hx hy hp)⟩
/-- + of anything -/
def rAddM (K : PySem.W.Frag) : R2 := fun x y H Q => rI0 (fun i j => .int (i + j)) x y H Q ∨ (∃ i j, x = .str i ∧ y = .str j ∧ i.length + j.length ≤ sizeLine ∧ Q (.str (i ++ j)) H) ∨ rCatA K x y H Q ∨ rCat x y H Q
theorem op_addM : OpR X (binaryOp .Add) (rAddM X.K) := op_add.or (op_add_str.or (op_catA.or op_cat))
theorem opm_addL {x y : D} {v w : V} {m : Mp} {mu : List MO} {H : Hp} {Q : VK} (rl : Rel X.K m mu H) (hx : Rep X.K m H x v) (hy : Rep X.K m H y w)
    (hp : Post X.K W m H (gCat x y mu) (fun d m' _ H' => ∀ u, Rep X.K m' H' d u → Q u H')) : rAddM X.K v w H Q := by
  obtain ⟨a, xs, vs, rfl, ha, ra, ea, hp⟩ := rdM_ok rl hx (Post.bind hp)
  obtain ⟨b, ys, ws, rfl, hb, rb, eb, hp⟩ := rdM_ok rl hy (Post.bind hp)
  obtain ⟨c, hp⟩ := need_ok rl (Post.bind hp)
  refine .inr (.inr (.inr ⟨a, b, vs, ws, rfl, rfl, ha, hb, by rw [← ra.length, ← rb.length]; exact c, fun p hn => ?_⟩))
  obtain ⟨g, R', rp⟩ := new_fl rl (ra.append rb) hn
  exact hp m _ g R' _ rp
theorem opm_add : OpM X.K W (rAddM X.K) gAdd := ⟨fun x y v w m mu H Q rl hx hy hp => by
  cases x
  case int i =>
    obtain ⟨j, rfl, rfl, hp⟩ := toI_ok rl hy (Post.bind hp)
    simp only [Rep] at hx
    exact .inl ⟨i, j, hx, rfl, Post.pure hp rl _ (by simp only [Rep])⟩
  case str x =>
    obtain ⟨z, rfl, rfl, hp⟩ := toS_ok rl hy (Post.bind hp)
    obtain ⟨c, hp⟩ := need_ok rl (Post.bind hp)
    simp only [Rep] at hx
    exact .inr (.inl ⟨x, z, hx, rfl, c, Post.pure hp rl _ (by simp only [Rep])⟩)
  case tup xs =>
    obtain ⟨ys, b, ws, rfl, rfl, hb, rb, hp⟩ := toT_ok rl hy (Post.bind hp)
    obtain ⟨c, hp⟩ := need_ok rl (Post.bind hp)
    simp only [Rep] at hx
    obtain ⟨a, vs, rfl, ha, ra⟩ := hx
    refine .inr (.inr (.inl ⟨a, b, vs, ws, rfl, rfl, ha, hb, by rw [← ra.length, ← rb.length]; exact c, fun e => ?_, fun _ e => ?_, fun _ _ p hn => ?_⟩))
    · subst e
      have z : xs = [] := List.eq_nil_of_length_eq_zero (by rw [ra.length]; rfl)
      subst z
      exact Post.pure hp rl _ (by simp only [Rep]; exact ⟨b, ws, rfl, hb, rb⟩)
    · subst e
      have z : ys = [] := List.eq_nil_of_length_eq_zero (by rw [rb.length]; rfl)
      subst z
      rw [List.append_nil] at hp
      exact Post.pure hp rl _ (by simp only [Rep]; exact ⟨a, vs, rfl, ha, ra⟩)
    · obtain ⟨g, R', rp⟩ := new_tup rl (ra.append rb) hn
      exact hp m _ g R' _ rp
  all_goals exact opm_addL rl hx hy hp⟩
/-- ==, != of data -/
def rEqM (neg : Bool) (K : PySem.W.Frag) : R2 := fun x y H Q => ∃ d e m, Rep K m H d x ∧ Rep K m H e y ∧ okE d = true ∧ okE e = true ∧ dep d < 64 ∧ Q (.bl (eqD d e != neg)) H
theorem op_eqM (hu : X.A.units + 64 < cLine) : OpR X (compareOp .Eq) (rEqM false X.K) := by
  intro pins s σ H x y v u Q I rx ry h
  obtain ⟨d, e, m, hd, he, ok, ok', hdep, q⟩ := h
  have z := (eq_at I d e v u X.A (kd_of hd rx ok) (kd_of he ry ok') ok ok' (by omega)).1
  rw [Bool.bne_false] at q
  exact z X.prog X.w _ _ ⟨.bl _, H, I, rfl, q⟩
theorem opm_eq {neg : Bool} : OpM X.K W (rEqM neg X.K) (gEq neg) := ⟨fun x y v w m mu H Q rl hx hy hp => by
  obtain ⟨⟨h1, h2, h3⟩, hp⟩ := need_ok rl (Post.bind hp)
  exact ⟨x, y, m, hx, hy, h1, h2, h3, Post.pure hp rl _ (by simp only [Rep])⟩⟩
def rIsNM (neg : Bool) : R2 := fun x y H Q => y = .non ∧ Q (.bl (decide (x = .non) != neg)) H
theorem op_isNM : OpR X (compareOp .Is) (rIsNM false) := fun pins s σ H x y v u Q I rx ry h => op_isN pins s σ H x y v u Q I rx ry ⟨h.1, by have := h.2; rw [Bool.bne_false] at this; exact this⟩
theorem op_notNM : OpR X (compareOp .IsNot) (rIsNM true) := fun pins s σ H x y v u Q I rx ry h => op_notN pins s σ H x y v u Q I rx ry ⟨h.1, by have := h.2; rw [Bool.bne_true] at this; exact this⟩
theorem isN_eq {K : PySem.W.Frag} {m : Mp} {H : Hp} {d : D} {v : V} (h : Rep K m H d v) : isN d = decide (v = .non) := by
  cases d <;> simp only [Rep] at h
  case non => subst h; rfl
  case bl => subst h; rfl
  case int => subst h; rfl
  case str => subst h; rfl
  all_goals (obtain ⟨a, h⟩ := h)
  case tup => obtain ⟨vs, rfl, _⟩ := h; rfl
  case fl => obtain ⟨vs, rfl, _⟩ := h; rfl
  case ro => obtain ⟨vs, rfl, _⟩ := h; rfl
  case fd => obtain ⟨vs, rfl, _⟩ := h; rfl
  case ref => obtain ⟨rfl, _⟩ := h; rfl
theorem opm_isN {neg : Bool} : OpM X.K W (rIsNM neg) (gIsN neg) := ⟨fun x y v w m mu H Q rl hx hy hp => by
  obtain ⟨h1, hp⟩ := need_ok rl (Post.bind hp)
  rw [isN_eq hy] at h1
  rw [isN_eq hx] at hp
  exact ⟨of_decide_eq_true h1, Post.pure hp rl _ (by simp only [Rep])⟩⟩
end
end MP
namespace MP
open PySem L2 PyProof.Rows
open PySem.SeqAt (EqAt RcAt)
mutual
/-- the one form of equal data -/
def nf : D → D
  | .non => .non
  | .bl b => .int (b2n b)
  | .int i => .int i
  | .str x => .str x
  | .tup xs => .tup (nfs xs)
  | .fl xs => .fl (nfs xs)
  | .ro xs => .fl (nfs xs)
  | .fd ks xs => .fd ks xs
  | .ref n => .ref n
def nfs : List D → List D
  | [] => []
  | x :: xs => nf x :: nfs xs
end
mutual
theorem eqD_nf : ∀ (d e : D), okE d = true → okE e = true → (eqD d e = true ↔ nf d = nf e)
  | .non, e, _, h => by cases e <;> simp [eqD, nf, okE] at h ⊢
  | .bl b, e, _, h => by cases e <;> simp [eqD, nf, okE] at h ⊢ <;> (cases b <;> simp [b2n]) <;> rename_i c <;> cases c <;> simp
  | .int i, e, _, h => by cases e <;> simp [eqD, nf, okE] at h ⊢
  | .str x, e, _, h => by cases e <;> simp [eqD, nf, okE] at h ⊢
  | .tup xs, e, h, h' => by
    simp only [okE] at h
    cases e <;> simp only [eqD, nf, D.tup.injEq, reduceCtorEq, Bool.false_eq_true]
    case tup ys => exact eqDs_nf xs ys h (by simpa [okE] using h')
  | .fl xs, e, h, h' => by
    simp only [okE] at h
    cases e <;> simp only [eqD, nf, D.fl.injEq, reduceCtorEq, Bool.false_eq_true]
    case fl ys => exact eqDs_nf xs ys h (by simpa [okE] using h')
    case ro ys => exact eqDs_nf xs ys h (by simpa [okE] using h')
  | .ro xs, e, h, h' => by
    simp only [okE] at h
    cases e <;> simp only [eqD, nf, D.fl.injEq, reduceCtorEq, Bool.false_eq_true]
    case fl ys => exact eqDs_nf xs ys h (by simpa [okE] using h')
    case ro ys => exact eqDs_nf xs ys h (by simpa [okE] using h')
  | .fd _ _, _, h, _ => by simp [okE] at h
  | .ref _, _, h, _ => by simp [okE] at h
theorem eqDs_nf : ∀ (ds es : List D), okEs ds = true → okEs es = true → (eqDs ds es = true ↔ nfs ds = nfs es)
  | [], [], _, _ => by simp [eqDs, nfs]
  | [], _ :: _, _, _ => by simp [eqDs, nfs]
  | _ :: _, [], _, _ => by simp [eqDs, nfs]
  | d :: ds, e :: es, h, h' => by
    simp only [okEs, Bool.and_eq_true] at h h'
    simp only [eqDs, nfs, Bool.and_eq_true, List.cons.injEq]
    rw [eqD_nf d e h.1 h'.1, eqDs_nf ds es h.2 h'.2]
end
theorem eqD_trans {d e x : D} (hd : okE d = true) (he : okE e = true) (hx : okE x = true) (h : eqD d e = true) : eqD d x = eqD e x := by
  have h1 := (eqD_nf d e hd he).mp h
  rw [Bool.eq_iff_iff, eqD_nf d x hd hx, eqD_nf e x he hx, h1]

/-! ### in -/
def inS (x y : Str) : Bool := !(Builtin.Str.occurrences y x 0 y.length 1).isEmpty
/-- the items of a list or a tuple -/
def rdQ : D → M (List D)
  | .tup xs => pure xs
  | d => rdL d
def gIn (neg : Bool) : D → D → M D
  | x, .str y => do
    let z ← toS x
    pure (.bl (inS z y != neg))
  | x, y => do
    let ys ← rdQ y
    need (okE x = true ∧ okEs ys = true ∧ deps ys < 60)
    pure (.bl ((ys.any fun y => eqD y x) != neg))
section
variable {X : Cx} {W : Wx} {K : PySem.W.Frag} {m m' : Mp} {H H' : Hp} {mu : List MO}
theorem rdQ_ok {d : D} {v : V} {Q : List D → Mp → List MO → Hp → Prop} (rl : Rel K m mu H) (h : Rep K m H d v) (hp : Post K W m H (rdQ d mu) Q) : ∃ a xs vs, v = .ref a ∧ (SqL K H a vs ∨ SqT K H a vs) ∧ Reps K m H xs vs ∧ Q xs m mu H := by
  cases d
  case tup xs =>
    simp only [Rep] at h
    obtain ⟨a, vs, e, hs, hr⟩ := h
    exact ⟨a, xs, vs, e, .inr hs, hr, hp m H .refl rl⟩
  all_goals (
    obtain ⟨a, xs, vs, e, hs, hr, _, q⟩ := rdL_ok rl h hp
    exact ⟨a, xs, vs, e, .inl hs, hr, q⟩)
def rInM (neg : Bool) (K : PySem.W.Frag) : R2 := fun x y H Q => (∃ i j, x = .str i ∧ y = .str j ∧ Q (.bl (inS i j != neg)) H) ∨
  ∃ d p ds vs m, y = .ref p ∧ (SqL K H p vs ∨ SqT K H p vs) ∧ Rep K m H d x ∧ Reps K m H ds vs ∧ okE d = true ∧ okEs ds = true ∧ deps ds < 60 ∧ Q (.bl ((ds.any fun y => eqD y d) != neg)) H
open Classical in
theorem in_fun {pins : List (Addr × Obj)} {σ : L2.St} {s : Shared} {A : Around} (I : Inv X pins σ H s) {d : D} {x : V} {v : Value} {ds : List D} {vs : List V} {its : List Value} (hx : Rep X.K m H d x) (rx : RelV x v) (hr : Reps X.K m H ds vs) (r : Vals vs its)
    (ok : okE d = true) (oks : okEs ds = true) (hu : A.units + deps ds < cLine) : ∃ e : Value → Bool, (∀ u ∈ its, EqAt A s u v (e u)) ∧ its.any e = ds.any fun y => eqD y d := by
  have kx := kd_of hx rx ok
  have hl := hr.length
  have hl' := r.length
  have key : ∀ (i : Nat) (u : Value) (y : D), its[i]? = some u → ds[i]? = some y → Kd X.K m H y u ∧ okE y = true ∧ EqAt A s u v (eqD y d) := fun i u y hi hy => by
    obtain ⟨w, hw, qw⟩ := hr.get hy
    obtain ⟨u', hu', ru⟩ := r.get hw
    rw [hi] at hu'; cases hu'
    have oky := okEs_get oks hy
    have k := kd_of qw ru oky
    exact ⟨k, oky, eq_ats I ds i y hy d u v A k kx oks ok hu⟩
  have uniq : ∀ (i j : Nat) (u : Value) (y z : D), its[i]? = some u → its[j]? = some u → ds[i]? = some y → ds[j]? = some z → eqD y d = eqD z d := fun i j u y z hi hj hy hz => by
    obtain ⟨w, hw, qw⟩ := hr.get hy
    obtain ⟨w', hw', qw'⟩ := hr.get hz
    obtain ⟨u1, hu1, r1⟩ := r.get hw
    obtain ⟨u2, hu2, r2⟩ := r.get hw'
    rw [hi] at hu1; cases hu1
    rw [hj] at hu2; cases hu2
    have ew : w = w' := r1.inj r2
    subst ew
    have oky := okEs_get oks hy
    have okz := okEs_get oks hz
    exact eqD_trans oky okz ok (rep_same I y z w qw qw' oky okz)
  refine ⟨fun u => decide (∃ (i : Nat) (y : D), its[i]? = some u ∧ ds[i]? = some y ∧ eqD y d = true), fun u hm => ?_, ?_⟩
  · obtain ⟨i, hi⟩ := List.mem_iff_getElem?.mp hm
    have hil : i < ds.length := by have := (List.getElem?_eq_some_iff.mp hi).1; omega
    have hy : ds[i]? = some ds[i] := List.getElem?_eq_getElem hil
    have e : decide (∃ (i : Nat) (y : D), its[i]? = some u ∧ ds[i]? = some y ∧ eqD y d = true) = eqD ds[i] d := by
      rw [Bool.eq_iff_iff, decide_eq_true_iff]
      constructor
      · rintro ⟨j, z, hj, hz, q⟩
        rw [uniq i j u _ z hi hj hy hz]; exact q
      · intro q
        exact ⟨i, _, hi, hy, q⟩
    show EqAt A s u v (decide _)
    rw [e]
    exact (key i u _ hi hy).2.2
  · rw [Bool.eq_iff_iff, List.any_eq_true, List.any_eq_true]
    constructor
    · rintro ⟨u, hm, q⟩
      obtain ⟨i, y, hi, hy, q⟩ := of_decide_eq_true q
      exact ⟨y, List.mem_of_getElem? hy, q⟩
    · rintro ⟨y, hm, q⟩
      obtain ⟨i, hy⟩ := List.mem_iff_getElem?.mp hm
      have hil : i < its.length := by have := (List.getElem?_eq_some_iff.mp hy).1; omega
      exact ⟨its[i], List.getElem_mem hil, decide_eq_true ⟨i, y, List.getElem?_eq_getElem hil, hy, q⟩⟩
theorem op_inM (hu : X.A.units + 64 < cLine) : OpR X (compareOp .In) (rInM false X.K) := by
  intro pins s σ H x y v u Q I rx ry h
  rcases h with ⟨i, j, rfl, rfl, q⟩ | ⟨d, p, ds, vs, m, rfl, hq, hx, hr, ok, oks, hd, q⟩
  · rw [Bool.bne_false] at q
    exact op_in_str pins s σ H _ _ v u Q I rx ry ⟨i, j, rfl, rfl, q⟩
  · rw [Bool.bne_false] at q
    cases ry
    rcases hq with hq | hq
    · obtain ⟨its, r, pl, hz⟩ := I.list hq
      obtain ⟨e, he, ha⟩ := in_fun (A := X.A.in1) I hx rx hr r ok oks (by rw [in1_units]; omega)
      refine SeqAt.in_listAt e pl.isList (fun w hw => he w (by simpa using hw)) ⟨.bl _, H, I, rfl, ?_⟩
      rw [show its.toArray.any e = its.any e by simp, ha]
      exact q
    · obtain ⟨its, r, pl, hz⟩ := I.tuple hq
      obtain ⟨e, he, ha⟩ := in_fun (A := X.A.in1) I hx rx hr r ok oks (by rw [in1_units]; omega)
      refine SeqAt.in_tupleAt e pl (fun w hw => he w (by simpa using hw)) ⟨.bl _, H, I, rfl, ?_⟩
      rw [show its.toArray.any e = its.any e by simp, ha]
      exact q
theorem op_notInM (hu : X.A.units + 64 < cLine) : OpR X (compareOp .NotIn) (rInM true X.K) := by
  intro pins s σ H x y v u Q I rx ry h
  rcases h with ⟨i, j, rfl, rfl, q⟩ | ⟨d, p, ds, vs, m, rfl, hq, hx, hr, ok, oks, hd, q⟩
  · rw [Bool.bne_true] at q
    exact L2.op_notIn_str pins s σ H _ _ v u Q I rx ry ⟨i, j, rfl, rfl, q⟩
  · rw [Bool.bne_true] at q
    cases ry
    rcases hq with hq | hq
    · obtain ⟨its, r, pl, hz⟩ := I.list hq
      obtain ⟨e, he, ha⟩ := in_fun (A := X.A.in1) I hx rx hr r ok oks (by rw [in1_units]; omega)
      refine SeqAt.notIn_listAt e pl.isList (fun w hw => he w (by simpa using hw)) ⟨.bl _, H, I, rfl, ?_⟩
      rw [show its.toArray.any e = its.any e by simp, ha]
      exact q
    · obtain ⟨its, r, pl, hz⟩ := I.tuple hq
      obtain ⟨e, he, ha⟩ := in_fun (A := X.A.in1) I hx rx hr r ok oks (by rw [in1_units]; omega)
      refine SeqAt.notIn_tupleAt e pl (fun w hw => he w (by simpa using hw)) ⟨.bl _, H, I, rfl, ?_⟩
      rw [show its.toArray.any e = its.any e by simp, ha]
      exact q
theorem opm_in {neg : Bool} : OpM X.K W (rInM neg X.K) (gIn neg) := ⟨fun x y v w m mu H Q rl hx hy hp => by
  have seq : ∀ y, Rep X.K m H y w → Post X.K W m H ((do let ys ← rdQ y; need (okE x = true ∧ okEs ys = true ∧ deps ys < 60); pure (D.bl ((ys.any fun y => eqD y x) != neg))) mu) (fun d m' _ H' => ∀ u, Rep X.K m' H' d u → Q u H') → rInM neg X.K v w H Q := fun y hy hp => by
    obtain ⟨a, ys, vs, rfl, hs, hr, hp⟩ := rdQ_ok rl hy (Post.bind hp)
    obtain ⟨⟨h1, h2, h3⟩, hp⟩ := need_ok rl (Post.bind hp)
    exact .inr ⟨x, a, ys, vs, m, rfl, hs, hx, hr, h1, h2, h3, Post.pure hp rl _ (by simp only [Rep])⟩
  cases y
  case str y =>
    obtain ⟨z, rfl, rfl, hp⟩ := toS_ok rl hx (Post.bind hp)
    simp only [Rep] at hy
    exact .inl ⟨z, y, rfl, hy, Post.pure hp rl _ (by simp only [Rep])⟩
  all_goals exact seq _ hy hp⟩
open PySem.SeqAt (RcNeAt) in
theorem ne_lists {pins : List (Addr × Obj)} {σ : L2.St} {s : Shared} {a b : Addr} {ds es : List D} {vs ws : List V} {A : Around} (I : Inv X pins σ H s) (ha : SqL X.K H a vs) (hb : SqL X.K H b ws) (ra : Reps X.K m H ds vs) (rb : Reps X.K m H es ws) (ok : okEs ds = true) (hu : A.units + (deps ds + 1) < cLine)
    (ih : ∀ (j : Nat) d e v w u u', ds[j]? = some d → es[j]? = some e → Rep X.K m H d v → Rep X.K m H e w → RelV v u → RelV w u' → EqAt A.in1 s u u' (eqD d e)) : RcNeAt A s (.ref a) (.ref b) (!eqDs ds es) := by
  obtain ⟨its, r, pl, _⟩ := I.list ha
  obtain ⟨its', r', pl', _⟩ := I.list hb
  have h1 := ra.length
  have h2 := rb.length
  have h3 := r.length
  have h4 := r'.length
  by_cases hsz : its.toArray.size = its'.toArray.size
  · have hl : ds.length = es.length := by simp only [List.size_toArray] at hsz; omega
    rw [← eqDs_all hl]
    have q := RcNeAt.lists (A := A) (e := fun j => eqD (ds.getD j .non) (es.getD j .non)) pl.isList pl'.isList hsz (by omega) fun j j1 j2 => by
      obtain ⟨v, hv, rv⟩ := vals_at r j1
      obtain ⟨w, hw, rw'⟩ := vals_at r' j2
      obtain ⟨d, hd, qd⟩ := ra.at hv
      obtain ⟨e, he, qe⟩ := rb.at hw
      show EqAt A.in1 s _ _ (eqD (ds.getD j .non) (es.getD j .non))
      rw [getD_at hd, getD_at he]
      exact ih j d e v w _ _ hd he qd qe rv rw'
    rw [show ds.length = its.toArray.size by simp only [List.size_toArray]; omega]
    exact q
  · rw [eqDs_len (by simp only [List.size_toArray] at hsz; omega)]
    exact RcNeAt.lists_lengths pl.isList pl'.isList (by simpa using hsz) (by omega)
open PySem.SeqAt (RcNeAt) in
theorem ne_tuples {pins : List (Addr × Obj)} {σ : L2.St} {s : Shared} {a b : Addr} {ds es : List D} {vs ws : List V} {A : Around} (I : Inv X pins σ H s) (ha : SqT X.K H a vs) (hb : SqT X.K H b ws) (ra : Reps X.K m H ds vs) (rb : Reps X.K m H es ws) (ok : okEs ds = true) (hu : A.units + (deps ds + 1) < cLine)
    (ih : ∀ (j : Nat) d e v w u u', ds[j]? = some d → es[j]? = some e → Rep X.K m H d v → Rep X.K m H e w → RelV v u → RelV w u' → EqAt A.in1 s u u' (eqD d e)) : RcNeAt A s (.ref a) (.ref b) (!eqDs ds es) := by
  obtain ⟨its, r, pl, _⟩ := I.tuple ha
  obtain ⟨its', r', pl', _⟩ := I.tuple hb
  have h1 := ra.length
  have h2 := rb.length
  have h3 := r.length
  have h4 := r'.length
  rw [← eqDs_range]
  have q := RcNeAt.tuples (A := A) (e := fun j => eqD (ds.getD j .non) (es.getD j .non)) (show s.heap.IsTuple a its.toArray from pl) (show s.heap.IsTuple b its'.toArray from pl') (by omega) fun j j1 j2 => by
    obtain ⟨v, hv, rv⟩ := vals_at r j1
    obtain ⟨w, hw, rw'⟩ := vals_at r' j2
    obtain ⟨d, hd, qd⟩ := ra.at hv
    obtain ⟨e, he, qe⟩ := rb.at hw
    show EqAt A.in1 s _ _ (eqD (ds.getD j .non) (es.getD j .non))
    rw [getD_at hd, getD_at he]
    exact ih j d e v w _ _ hd he qd qe rv rw'
  have e1 : its.toArray.size = ds.length := by simp only [List.size_toArray]; omega
  have e2 : its'.toArray.size = es.length := by simp only [List.size_toArray]; omega
  rw [e1, e2] at q
  exact q
open PySem.SeqAt (RcNeAt) in
theorem ne_at {pins : List (Addr × Obj)} {σ : L2.St} {s : Shared} (I : Inv X pins σ H s) (d e : D) (u u' : Value) (A : Around) (h : Kd X.K m H d u) (h' : Kd X.K m H e u') (ok : okE d = true) (ok' : okE e = true) (hu : A.units + dep d < cLine) : RcNeAt A s u u' (!eqD d e) := by
  have hu0 : A.units < cLine := by omega
  cases h with
  | non =>
    cases h' <;> simp only [eqD, Bool.not_false, Bool.not_true]
    case non => exact RcNeAt.none_none
    case bl c => exact RcNeAt.none_bool _
    case int j t2 => exact RcNeAt.none_int _ _
    case str y t2 => exact RcNeAt.none_str _ _
    case tup es b ws hs' hr' => obtain ⟨_, p⟩ := tuple_at I hs'; exact RcNeAt.none_tuple p hu0
    case fl es b ws hs' hr' => obtain ⟨_, p⟩ := list_at I hs'; exact RcNeAt.none_list p hu0
    case ro es b ws hs' hr' => obtain ⟨_, p⟩ := list_at I hs'; exact RcNeAt.none_list p hu0
  | bl b =>
    cases h' <;> simp only [eqD, Bool.not_false, Bool.not_true]
    case non => exact RcNeAt.bool_none _
    case bl c => exact RcNeAt.bool_bool _ _
    case int j t2 => exact RcNeAt.bool_int _ _ _
    case str y t2 => exact RcNeAt.bool_str _ _ _
    case tup es b ws hs' hr' => obtain ⟨_, p⟩ := tuple_at I hs'; exact RcNeAt.bool_tuple _ p hu0
    case fl es b ws hs' hr' => obtain ⟨_, p⟩ := list_at I hs'; exact RcNeAt.bool_list _ p hu0
    case ro es b ws hs' hr' => obtain ⟨_, p⟩ := list_at I hs'; exact RcNeAt.bool_list _ p hu0
  | int i t =>
    cases h' <;> simp only [eqD, Bool.not_false, Bool.not_true]
    case non => exact RcNeAt.int_none _ _
    case bl c => exact RcNeAt.int_bool _ _ _
    case int j t2 => exact RcNeAt.int_int _ _ _ _
    case str y t2 => exact RcNeAt.int_str _ _ _ _
    case tup es b ws hs' hr' => obtain ⟨_, p⟩ := tuple_at I hs'; exact RcNeAt.int_tuple _ _ p hu0
    case fl es b ws hs' hr' => obtain ⟨_, p⟩ := list_at I hs'; exact RcNeAt.int_list _ _ p hu0
    case ro es b ws hs' hr' => obtain ⟨_, p⟩ := list_at I hs'; exact RcNeAt.int_list _ _ p hu0
  | str x t =>
    cases h' <;> simp only [eqD, Bool.not_false, Bool.not_true]
    case non => exact RcNeAt.str_none _ _
    case bl c => exact RcNeAt.str_bool _ _ _
    case int j t2 => exact RcNeAt.str_int _ _ _ _
    case str y t2 => exact RcNeAt.str_str _ _ _ _
    case tup es b ws hs' hr' => obtain ⟨_, p⟩ := tuple_at I hs'; exact RcNeAt.str_tuple _ _ p hu0
    case fl es b ws hs' hr' => obtain ⟨_, p⟩ := list_at I hs'; exact RcNeAt.str_list _ _ p hu0
    case ro es b ws hs' hr' => obtain ⟨_, p⟩ := list_at I hs'; exact RcNeAt.str_list _ _ p hu0
  | @tup ds a vs hs hr =>
    simp only [okE] at ok
    simp only [dep] at hu
    obtain ⟨_, p⟩ := tuple_at I hs
    cases h' <;> simp only [eqD, Bool.not_false, Bool.not_true]
    case non => exact RcNeAt.tuple_none p hu0
    case bl c => exact RcNeAt.tuple_bool _ p hu0
    case int j t2 => exact RcNeAt.tuple_int _ _ p hu0
    case str y t2 => exact RcNeAt.tuple_str _ _ p hu0
    case tup es b ws hs' hr' => simp only [okE] at ok'; exact ne_tuples I hs hs' hr hr' ok hu fun j d e v w u u' hd he qd qe rv rw' => (eq_ats I ds j d hd e u u' A.in1 (kd_of qd rv (okEs_get ok hd)) (kd_of qe rw' (okEs_get ok' he)) ok (okEs_get ok' he) (by rw [in1_units]; omega))
    case fl es b ws hs' hr' => obtain ⟨_, p'⟩ := list_at I hs'; exact RcNeAt.tuple_list p p' hu0
    case ro es b ws hs' hr' => obtain ⟨_, p'⟩ := list_at I hs'; exact RcNeAt.tuple_list p p' hu0
  | @fl ds a vs hs hr =>
    simp only [okE] at ok
    simp only [dep] at hu
    obtain ⟨_, p⟩ := list_at I hs
    cases h' <;> simp only [eqD, Bool.not_false, Bool.not_true]
    case non => exact RcNeAt.list_none p hu0
    case bl c => exact RcNeAt.list_bool _ p hu0
    case int j t2 => exact RcNeAt.list_int _ _ p hu0
    case str y t2 => exact RcNeAt.list_str _ _ p hu0
    case tup es b ws hs' hr' => obtain ⟨_, p'⟩ := tuple_at I hs'; exact RcNeAt.list_tuple p p' hu0
    case fl es b ws hs' hr' => simp only [okE] at ok'; exact ne_lists I hs hs' hr hr' ok hu fun j d e v w u u' hd he qd qe rv rw' => (eq_ats I ds j d hd e u u' A.in1 (kd_of qd rv (okEs_get ok hd)) (kd_of qe rw' (okEs_get ok' he)) ok (okEs_get ok' he) (by rw [in1_units]; omega))
    case ro es b ws hs' hr' => simp only [okE] at ok'; exact ne_lists I hs hs' hr hr' ok hu fun j d e v w u u' hd he qd qe rv rw' => (eq_ats I ds j d hd e u u' A.in1 (kd_of qd rv (okEs_get ok hd)) (kd_of qe rw' (okEs_get ok' he)) ok (okEs_get ok' he) (by rw [in1_units]; omega))
  | @ro ds a vs hs hr =>
    simp only [okE] at ok
    simp only [dep] at hu
    obtain ⟨_, p⟩ := list_at I hs
    cases h' <;> simp only [eqD, Bool.not_false, Bool.not_true]
    case non => exact RcNeAt.list_none p hu0
    case bl c => exact RcNeAt.list_bool _ p hu0
    case int j t2 => exact RcNeAt.list_int _ _ p hu0
    case str y t2 => exact RcNeAt.list_str _ _ p hu0
    case tup es b ws hs' hr' => obtain ⟨_, p'⟩ := tuple_at I hs'; exact RcNeAt.list_tuple p p' hu0
    case fl es b ws hs' hr' => simp only [okE] at ok'; exact ne_lists I hs hs' hr hr' ok hu fun j d e v w u u' hd he qd qe rv rw' => (eq_ats I ds j d hd e u u' A.in1 (kd_of qd rv (okEs_get ok hd)) (kd_of qe rw' (okEs_get ok' he)) ok (okEs_get ok' he) (by rw [in1_units]; omega))
    case ro es b ws hs' hr' => simp only [okE] at ok'; exact ne_lists I hs hs' hr hr' ok hu fun j d e v w u u' hd he qd qe rv rw' => (eq_ats I ds j d hd e u u' A.in1 (kd_of qd rv (okEs_get ok hd)) (kd_of qe rw' (okEs_get ok' he)) ok (okEs_get ok' he) (by rw [in1_units]; omega))
theorem op_neM (hu : X.A.units + 64 < cLine) : OpR X (compareOp .NotEq) (rEqM true X.K) := by
  intro pins s σ H x y v u Q I rx ry h
  obtain ⟨d, e, m, hd, he, ok, ok', hdep, q⟩ := h
  have z := ne_at I d e v u X.A (kd_of hd rx ok) (kd_of he ry ok') ok ok' (by omega)
  rw [Bool.bne_true] at q
  exact z X.prog X.w _ _ ⟨.bl _, H, I, rfl, q⟩
end
end MP
namespace MP
open PySem L2 PyProof.Rows
/-! ### expressions made of expressions -/
section
variable {X : Cx} {W : Wx} {e a b : Expr} {es : List Expr} {pos : Pos}
def eMap (f : D → M D) (r : Env → M D) : Env → M D := fun env => r env >>= f
def gNeg (x : D) : M D := do
  let i ← toI x
  pure (.int (-i))
theorem me_neg {r : Env → M D} (h : ME X W a r) : ME X W (.UnaryOp .USub a pos) (eMap gNeg r) := ⟨(pe_un un_neg h.pe).imp fun σ H Q ⟨env, m, mu, hE, hR, hp⟩ =>
  ⟨env, m, mu, hE, hR, (Post.bind hp).mono fun x m1 mu1 H1 g1 R1 hp v rv => by
    obtain ⟨i, rfl, rfl, hp⟩ := toI_ok R1 rv (Post.bind hp)
    exact ⟨i, rfl, Post.pure hp R1 _ (by simp only [Rep])⟩⟩⟩
def gNot (x : D) : M D := do
  let b ← toB x
  pure (.bl (!b))
theorem me_not {r : Env → M D} (h : ME X W a r) : ME X W (.UnaryOp .Not a pos) (eMap gNot r) := ⟨(pe_not h.pe).imp fun σ H Q ⟨env, m, mu, hE, hR, hp⟩ =>
  ⟨env, m, mu, hE, hR, (Post.bind hp).mono fun x m1 mu1 H1 g1 R1 hp v rv => by
    obtain ⟨i, rfl, rfl, hp⟩ := toB_ok R1 rv (Post.bind hp)
    exact ⟨i, rfl, Post.pure hp R1 _ (by simp only [Rep])⟩⟩⟩
theorem tT_bind {α : Type} {r : Env → M Bool} {t : TT} {f : Bool → Env → M Bool} (h : ∀ σ H Q, tT X.K W r σ H Q → t σ H Q) {σ : L2.St} {H : Hp} {Q : Bool → Hp → Prop} {Q' : Bool → Hp → Prop}
    (hq : tT X.K W (fun env => r env >>= fun b => f b env) σ H Q) (hn : ∀ b H1, tT X.K W (f b) σ H1 Q → Q' b H1) : t σ H Q' := by
  obtain ⟨env, m, mu, hE, hR, hp⟩ := hq
  exact h σ H _ ⟨env, m, mu, hE, hR, (Post.bind hp).mono fun b m1 mu1 H1 g1 R1 hp => hn b H1 ⟨env, m1, mu1, hE.grow g1, R1, hp⟩⟩
theorem tT_pure {c : Bool} {σ : L2.St} {H : Hp} {Q : Bool → Hp → Prop} (h : tT X.K W (fun _ => pure c) σ H Q) : Q c H := by
  obtain ⟨env, m, mu, hE, hR, hp⟩ := h
  exact Post.pure hp hR
def bNot (r : Env → M Bool) : Env → M Bool := fun env => r env >>= fun b => pure (!b)
def bAnd (r r' : Env → M Bool) : Env → M Bool := fun env => r env >>= fun b => if b = true then r' env else pure false
def bOr (r r' : Env → M Bool) : Env → M Bool := fun env => r env >>= fun b => if b = true then pure true else r' env
theorem mt_not {r : Env → M Bool} (h : MT X W a r) : MT X W (.UnaryOp .Not a pos) (bNot r) :=
  ⟨(pt_not h.pt).imp fun σ H Q hq => tT_bind (α := Bool) (f := fun b _ => pure (!b)) (fun _ _ _ q => q) hq fun b H1 q => tT_pure q⟩
/-- and, or as tests -/
structure MW (X : Cx) (W : Wx) (e : Expr) (r : Env → M Bool) : Prop where
  pw : PW X e (tT X.K W r)
theorem MW.mt {r : Env → M Bool} (h : MW X W e r) : MT X W e r := ⟨h.pw.pt⟩
theorem mw_and1 {r : Env → M Bool} (h : MT X W a r) : MW X W (.BoolOp .And [a] pos) r := ⟨pw_and1 h.pt⟩
theorem mw_or1 {r : Env → M Bool} (h : MT X W a r) : MW X W (.BoolOp .Or [a] pos) r := ⟨pw_or1 h.pt⟩
theorem mw_and {r r' : Env → M Bool} (h : MT X W a r) (h' : MW X W (.BoolOp .And (b :: es) pos) r') : MW X W (.BoolOp .And (a :: b :: es) pos) (bAnd r r') :=
  ⟨(pw_and h.pt h'.pw).imp fun σ H Q hq => tT_bind (α := Bool) (f := fun b env => if b = true then r' env else pure false) (fun _ _ _ q => q) hq fun b H1 q => by
    cases b
    · exact tT_pure q
    · exact q⟩
theorem mw_or {r r' : Env → M Bool} (h : MT X W a r) (h' : MW X W (.BoolOp .Or (b :: es) pos) r') : MW X W (.BoolOp .Or (a :: b :: es) pos) (bOr r r') :=
  ⟨(pw_or h.pt h'.pw).imp fun σ H Q hq => tT_bind (α := Bool) (f := fun b env => if b = true then pure true else r' env) (fun _ _ _ q => q) hq fun b H1 q => by
    cases b
    · exact q
    · exact tT_pure q⟩
/-- .. as values, of bools -/
def eAnd (r r' : Env → M D) : Env → M D := fun env => r env >>= fun x => toB x >>= fun b => if b = true then r' env else pure (.bl false)
def eOr (r r' : Env → M D) : Env → M D := fun env => r env >>= fun x => toB x >>= fun b => if b = true then pure (.bl true) else r' env
theorem me_one {op} {r : Env → M D} (h : ME X W a r) : ME X W (.BoolOp op [a] pos) r := ⟨pe_one h.pe⟩
theorem me_and {r r' : Env → M D} (h : ME X W a r) (h' : ME X W (.BoolOp .And (b :: es) pos) r') : ME X W (.BoolOp .And (a :: b :: es) pos) (eAnd r r') := ⟨(pe_and h.pe h'.pe).imp fun σ H Q ⟨env, m, mu, hE, hR, hp⟩ =>
  ⟨env, m, mu, hE, hR, (Post.bind hp).mono fun x m1 mu1 H1 g1 R1 hp v rv => by
    obtain ⟨c, rfl, rfl, hp⟩ := toB_ok R1 rv (Post.bind hp)
    refine ⟨c, rfl, ?_⟩
    cases c
    · exact Post.pure hp R1 _ (by simp only [Rep])
    · exact ⟨env, m1, mu1, hE.grow g1, R1, hp⟩⟩⟩
theorem me_or {r r' : Env → M D} (h : ME X W a r) (h' : ME X W (.BoolOp .Or (b :: es) pos) r') : ME X W (.BoolOp .Or (a :: b :: es) pos) (eOr r r') := ⟨(pe_or h.pe h'.pe).imp fun σ H Q ⟨env, m, mu, hE, hR, hp⟩ =>
  ⟨env, m, mu, hE, hR, (Post.bind hp).mono fun x m1 mu1 H1 g1 R1 hp v rv => by
    obtain ⟨c, rfl, rfl, hp⟩ := toB_ok R1 rv (Post.bind hp)
    refine ⟨c, rfl, ?_⟩
    cases c
    · exact ⟨env, m1, mu1, hE.grow g1, R1, hp⟩
    · exact Post.pure hp R1 _ (by simp only [Rep])⟩⟩
def eIf {α : Type} (t : Env → M Bool) (r r' : Env → M α) : Env → M α := fun env => t env >>= fun b => if b = true then r env else r' env
theorem me_ifExp {c : Expr} {t : Env → M Bool} {r r' : Env → M D} (hc : MT X W c t) (h : ME X W a r) (h' : ME X W b r') : ME X W (.IfExp c a b pos) (eIf t r r') := ⟨(pe_ifExp hc.pt h.pe h'.pe).imp fun σ H Q ⟨env, m, mu, hE, hR, hp⟩ =>
  ⟨env, m, mu, hE, hR, (Post.bind hp).mono fun b m1 mu1 H1 g1 R1 hp => by
    cases b
    · exact ⟨env, m1, mu1, hE.grow g1, R1, hp⟩
    · exact ⟨env, m1, mu1, hE.grow g1, R1, hp⟩⟩⟩

/-! ### argument lists, displays -/
def aNil : Env → M (List D) := fun _ => pure []
def aCons (r : Env → M D) (rs : Env → M (List D)) : Env → M (List D) := fun env => r env >>= fun x => rs env >>= fun xs => pure (x :: xs)
theorem ma_nil : MA X W [] aNil := ⟨pa_nil.imp fun σ H Q ⟨env, m, mu, hE, hR, hp⟩ => Post.pure hp hR [] (Reps.nil_iff.mpr rfl)⟩
theorem ma_cons {r : Env → M D} {rs : Env → M (List D)} (h : ME X W e r) (hs : MA X W es rs) (he : starEach (e :: es) X.env = (false, eval e X.env) :: starEach es X.env := by rfl) : MA X W (e :: es) (aCons r rs) :=
  ⟨(pa_cons h.pe hs.pa he).imp fun σ H Q ⟨env, m, mu, hE, hR, hp⟩ =>
    ⟨env, m, mu, hE, hR, (Post.bind hp).mono fun x m1 mu1 H1 g1 R1 hp v rv => ⟨env, m1, mu1, hE.grow g1, R1, (Post.bind hp).mono fun xs m2 mu2 H2 g2 R2 hp vs rvs =>
      Post.pure hp R2 (v :: vs) (Reps.cons_iff.mpr ⟨v, vs, rfl, Rep.grow g2 x v rv, rvs⟩)⟩⟩⟩
def gTup (xs : List D) : M D := do
  need (xs.length ≤ sizeLine)
  pure (.tup xs)
def aThen (f : List D → M D) (rs : Env → M (List D)) : Env → M D := fun env => rs env >>= f
theorem me_tup {x1} {rs : Env → M (List D)} (h : MA X W es rs) : ME X W (.Tuple es x1 pos) (aThen gTup rs) := ⟨(pe_tup h.pa).imp fun σ H Q ⟨env, m, mu, hE, hR, hp⟩ =>
  ⟨env, m, mu, hE, hR, (Post.bind hp).mono fun xs m1 mu1 H1 g1 R1 hp vs rv => by
    obtain ⟨c, hp⟩ := need_ok R1 (Post.bind hp)
    refine ⟨by rw [← rv.length]; exact c, fun p hn => ?_⟩
    obtain ⟨g, R', rp⟩ := new_tup R1 rv hn
    exact hp m1 _ g R' _ rp⟩⟩
/-- a new object is taken into the small heap -/
theorem Rel.adopt {K : PySem.W.Frag} {m : Mp} {H H' : Hp} {mu : List MO} (R : Rel K m mu H) {a : Addr} {o : MO} (hn : m.Out a) (hg : Grow m (m.add a) H H') (hk : ∀ b u, H b = some u → H' b = some u) (ho : RepO K (m.add a) H' a o) : Rel K (m.add a) (mu ++ [o]) H' := by
  refine ⟨by show (m.ad ++ [a]).length = _; rw [List.length_append, List.length_append, R.len]; rfl, ?_, fun b hb => hg.trk b _ (R.nos b hb).choose_spec, fun b hb => ?_, fun n ob b h1 h2 => ?_⟩
  · show (m.ad ++ [a]).Nodup
    rw [List.nodup_append]
    refine ⟨R.nd, by simp, fun x hx y hy => ?_⟩
    rw [List.mem_singleton.mp hy]
    rintro rfl
    exact hn.1 hx
  · rcases List.mem_append.mp (show b ∈ m.ad ++ [a] from hb) with z | z
    · exact R.dj b z
    · rw [List.mem_singleton.mp z]; exact hn.2
  · have h2 : (m.ad ++ [a])[n]? = some b := h2
    by_cases h : n < mu.length
    · rw [List.getElem?_append_left h] at h1
      rw [List.getElem?_append_left (by rw [R.len]; exact h)] at h2
      exact (R.obj n ob b h1 h2).grow hg fun u q => hk b u q
    · by_cases hl : n = mu.length
      · subst hl
        rw [List.getElem?_append_right (Nat.le_refl _), Nat.sub_self] at h1
        rw [List.getElem?_append_right (by rw [R.len]; exact Nat.le_refl _), ← R.len, Nat.sub_self] at h2
        cases h1
        cases h2
        exact ho
      · rw [List.getElem?_eq_none (by rw [List.length_append]; simp only [List.length_cons, List.length_nil]; omega)] at h1
        cases h1
theorem add_get {K : PySem.W.Frag} {m : Mp} {H : Hp} {mu : List MO} (R : Rel K m mu H) {a : Addr} : (m.add a).ad[mu.length]? = some a := by
  show (m.ad ++ [a])[mu.length]? = some a
  rw [List.getElem?_append_right (by rw [R.len]; exact Nat.le_refl _), ← R.len, Nat.sub_self]
  rfl
theorem Grow.fresh {m : Mp} {H : Hp} {p : Addr} {o : HO} (hn : H p = none) : Grow m (m.add p) H (upd H p o) :=
  let g : Grow m m H (upd H p o) := .laid hn
  ⟨⟨[p], [], rfl, by simp [Mp.add], fun a ha => by rw [List.mem_singleton.mp ha]; exact hn, by simp⟩, g.oth, g.tups, g.frzs, g.trk⟩
theorem upd_keeps {H : Hp} {p : Addr} {o : HO} (hn : H p = none) : ∀ b u, H b = some u → upd H p o b = some u := fun b u e => by rw [upd_ne (ne_of_none e hn)]; exact e
/-- a new list: from its reading -/
theorem tF_new {K : PySem.W.Frag} {W : Wx} {m m1 : Mp} {H H1 : Hp} {mu1 : List MO} {ds : List D} {vs : List V} {Q : VK} (g : Grow m m1 H H1) (R1 : Rel K m1 mu1 H1) (r : Reps K m1 H1 ds vs) (hp : Post K W m1 H1 ((pure ds : M (List D)) mu1) fun ds m' mu' H' => NewL K H ds m' mu' H' Q) : ∀ p, H1 p = none → Q (.ref p) (upd H1 p (.lst vs)) := fun p hn => by
  have g1 : Grow m1 m1 H1 (upd H1 p (.lst vs)) := .laid hn
  have q := hp m1 _ g1 (R1.laid hn)
  exact q p vs (g.none_of hn) upd_same (R1.free hn) (Reps.grow g1 ds vs r) (R1.adopt (R1.free hn) (.fresh hn) (upd_keeps hn) ⟨vs, upd_same, Reps.grow (.fresh hn) ds vs r⟩)
def aList (rs : Env → M (List D)) : Env → M (List D) := fun env => rs env >>= fun xs => need (xs.length ≤ sizeLine) >>= fun _ => pure xs
theorem mf_lst {rs : Env → M (List D)} (h : MA X W es rs) : MF X W (.List es pos) (aList rs) := ⟨(pe_lst h.pa).imp fun σ H Q ⟨env, m, mu, hE, hR, hp⟩ =>
  ⟨env, m, mu, hE, hR, (Post.bind hp).mono fun xs m1 mu1 H1 g1 R1 hp vs rv => by
    obtain ⟨c, hp⟩ := need_ok R1 (Post.bind hp)
    exact ⟨by rw [← rv.length]; exact c, tF_new g1 R1 rv hp⟩⟩⟩
def eFl (r : Env → M (List D)) : Env → M D := fun env => r env >>= fun xs => pure (.fl xs)
def alloc (o : MO) : M D := fun mu => .ok (.ref mu.length) (mu ++ [o])
def eNew (r : Env → M (List D)) : Env → M D := fun env => r env >>= fun xs => alloc (.lst xs)
/-- a new list, from now on read alone -/
theorem me_fl {r : Env → M (List D)} (h : MF X W e r) : ME X W e (eFl r) := ⟨h.pe.imp fun σ H Q ⟨env, m, mu, hE, hR, hp⟩ =>
  ⟨env, m, mu, hE, hR, (Post.bind hp).mono fun xs m1 mu1 H1 g1 R1 hp a vs h0 h1 hn hr _ => Post.pure hp R1 _ (by simp only [Rep]; exact ⟨a, vs, rfl, h1, hn, hr⟩)⟩⟩
/-- a new list, taken into the small heap -/
theorem me_new {r : Env → M (List D)} (h : MF X W e r) : ME X W e (eNew r) := ⟨h.pe.imp fun σ H Q ⟨env, m, mu, hE, hR, hp⟩ => by
  refine ⟨env, m, mu, hE, hR, ?_⟩
  have e0 : eNew r env mu = M.bind (r env) (fun xs => alloc (.lst xs)) mu := rfl
  rw [e0] at hp
  unfold M.bind at hp
  cases hr : r env mu with
  | ok xs mu1 =>
    rw [hr] at hp
    intro m1 H1 g1 R1 a vs h0 h1 hn hrs ha
    have q := hp (m1.add a) H1 (g1.adopt h0) ha (.ref a)
    exact q (by simp only [Rep]; exact ⟨a, rfl, add_get R1⟩)
  | exc x mu1 => rw [hr] at hp; exact hp
  | bad => rw [hr] at hp; exact hp⟩
/-- {} , taken into the small heap -/
def eNewD : Env → M D := fun _ => alloc (.dk [])
theorem me_dict0 : ME X W (.Dict [] [] pos) eNewD := ⟨pe_dnewK.imp fun σ H Q ⟨env, m, mu, hE, hR, hp⟩ p hn => by
  have q := hp (m.add p) (upd H p (.dK [])) (.fresh hn) (hR.adopt (hR.free hn) (.fresh hn) (upd_keeps hn) ⟨[], upd_same, Reps.nil_iff.mpr rfl⟩) (.ref p)
  exact q (by simp only [Rep]; exact ⟨p, rfl, add_get hR⟩)⟩

/-! ### subscripts -/
def ixD (xs : List D) (i : Int) : M D := match atI xs i with
  | some d => pure d
  | none => bad
def gIx : D → D → M D
  | .str z, y => do
    let i ← toI y
    need (z.length ≤ sizeLine)
    match atI z.cps.toList i with
    | some c => pure (.str ⟨#[c]⟩)
    | none => bad
  | x, y => do
    let xs ← rdQ x
    let i ← toI y
    ixD xs i
theorem ixD_ok {K : PySem.W.Frag} {m : Mp} {H : Hp} {mu : List MO} {xs : List D} {vs : List V} {i : Int} {Q : D → Mp → List MO → Hp → Prop} (R : Rel K m mu H) (r : Reps K m H xs vs) (hp : Post K W m H (ixD xs i mu) Q) : ∃ d v, atI vs i = some v ∧ Rep K m H d v ∧ Q d m mu H := by
  unfold ixD at hp
  cases e : atI xs i with
  | none => rw [e] at hp; exact (show False from hp).elim
  | some d =>
    rw [e] at hp
    unfold atI at e
    rw [r.length] at e
    cases e2 : ixN vs.length i with
    | none => rw [e2] at e; cases e
    | some j =>
      rw [e2] at e
      obtain ⟨v, hv, rv⟩ := r.get (show xs[j]? = some d from e)
      exact ⟨d, v, by unfold atI; rw [e2]; exact hv, rv, Post.pure hp R⟩
theorem opm_ix : OpM X.K W (rIx X.K) gIx := ⟨fun x y v w m mu H Q rl hx hy hp => by
  have seq : ∀ x, Rep X.K m H x v → Post X.K W m H ((do let xs ← rdQ x; let i ← toI y; ixD xs i) mu) (fun d m' _ H' => ∀ u, Rep X.K m' H' d u → Q u H') → rIx X.K v w H Q := fun x hx hp => by
    obtain ⟨a, xs, vs, rfl, hs, hr, hp⟩ := rdQ_ok rl hx (Post.bind hp)
    obtain ⟨i, rfl, rfl, hp⟩ := toI_ok rl hy (Post.bind hp)
    obtain ⟨d, v, hv, rv, hp⟩ := ixD_ok rl hr hp
    rcases hs with hs | hs
    · exact .inl ⟨a, vs, i, v, rfl, rfl, hs, hv, hp v rv⟩
    · exact .inr (.inl ⟨a, vs, i, v, rfl, rfl, hs, hv, hp v rv⟩)
  cases x
  case str z =>
    obtain ⟨i, rfl, rfl, hp⟩ := toI_ok rl hy (Post.bind hp)
    obtain ⟨c, hp⟩ := need_ok rl (Post.bind hp)
    simp only [Rep] at hx
    cases e : atI z.cps.toList i with
    | none => rw [e] at hp; exact (show False from hp).elim
    | some k =>
      rw [e] at hp
      exact .inr (.inr ⟨z, i, k, hx, rfl, c, e, Post.pure hp rl _ (by simp only [Rep])⟩)
  all_goals exact seq _ hx hp⟩
theorem me_ix {ra rb : Env → M D} (ha : ME X W a ra) (hb : ME X W b rb) (hs : PlainIx b := by intro _ _; rfl) : ME X W (.Subscript a b pos) (eBin gIx ra rb) := ⟨(pe_ix ix_seq ha.pe hb.pe hs).imp (tE_bin opm_ix)⟩
/-- keys of a dict -/
def toK : D → M Key
  | .int i => pure (.inl i)
  | .str x => pure (.inr x)
  | _ => bad
theorem toK_ok {K : PySem.W.Frag} {m : Mp} {H : Hp} {mu : List MO} {d : D} {v : V} {Q : Key → Mp → List MO → Hp → Prop} (R : Rel K m mu H) (h : Rep K m H d v) (hp : Post K W m H (toK d mu) Q) : ∃ k, v = kV k ∧ Q k m mu H := by
  cases d
  case int i => simp only [Rep] at h; exact ⟨.inl i, h, hp m H .refl R⟩
  case str i => simp only [Rep] at h; exact ⟨.inr i, h, hp m H .refl R⟩
  all_goals exact (show False from hp).elim
/-- what a dict holds at a key -/
def valD (kvs : List (Key × D)) (k : Key) : Option D := (kvs.find? fun kv => decide (kv.1 = k)).map (·.2)
def atD (mu : List MO) (n : Nat) : R (List (Key × D)) := match mu[n]? with
  | some (.dk kvs) => .ok kvs mu
  | _ => .bad
theorem atD_dk {mu : List MO} {n : Nat} {kvs : List (Key × D)} (h : mu[n]? = some (.dk kvs)) : atD mu n = .ok kvs mu := by unfold atD; rw [h]
theorem atD_lst {mu : List MO} {n : Nat} {xs : List D} (h : mu[n]? = some (.lst xs)) : atD mu n = .bad := by unfold atD; rw [h]
def rdD : D → M (List (Key × D))
  | .fd ks xs => pure (ks.zip xs)
  | .ref n => fun mu => atD mu n
  | _ => bad
theorem zip_keys {α β : Type} : ∀ (kvs : List (α × β)), (kvs.map (·.1)).zip (kvs.map (·.2)) = kvs
  | [] => rfl
  | (k, v) :: r => by rw [List.map_cons, List.map_cons, List.zip_cons_cons, zip_keys r]
theorem valD_rep {K : PySem.W.Frag} {m : Mp} {H : Hp} {k : Key} : ∀ {ks : List Key} {ds : List D} {vs : List V}, Reps K m H ds vs → match valD (ks.zip ds) k with
    | some d => ∃ v, valV (ks.zip vs) k = some v ∧ Rep K m H d v
    | none => valV (ks.zip vs) k = none
  | [], ds, vs, _ => by simp [valD, valV]
  | _ :: _, [], vs, h => by rw [Reps.nil_iff] at h; subst h; simp [valD, valV]
  | j :: ks, d :: ds, vs, h => by
    obtain ⟨v, r, rfl, h1, h2⟩ := Reps.cons_iff.mp h
    have ih := valD_rep (k := k) (ks := ks) h2
    by_cases e : j = k
    · subst e
      simp only [valD, valV, List.zip_cons_cons, List.find?_cons, decide_true, Option.map_some]
      exact ⟨v, rfl, h1⟩
    · simp only [valD, valV, List.zip_cons_cons, List.find?_cons, decide_eq_false e] at ih ⊢
      exact ih
theorem rdD_ok {K : PySem.W.Frag} {m : Mp} {H : Hp} {mu : List MO} {d : D} {v : V} {Q : List (Key × D) → Mp → List MO → Hp → Prop} (R : Rel K m mu H) (h : Rep K m H d v) (hp : Post K W m H (rdD d mu) Q) : ∃ a kvs vs, v = .ref a ∧ H a = some (.dK ((kvs.map (·.1)).zip vs)) ∧ Reps K m H (kvs.map (·.2)) vs ∧ Q kvs m mu H := by
  cases d <;> simp only [Rep] at h
  case fd ks ds =>
    obtain ⟨a, vs, rfl, hs, _, hl, hr⟩ := h
    refine ⟨a, ks.zip ds, vs, rfl, ?_, ?_, hp m H .refl R⟩
    · rw [List.map_fst_zip (by omega)]; exact hs
    · rw [List.map_snd_zip (by omega)]; exact hr
  case ref n =>
    obtain ⟨a, rfl, hm⟩ := h
    obtain ⟨o, ho, hr⟩ := R.at' hm
    cases o with
    | dk kvs =>
      obtain ⟨vs, hH, hr⟩ := hr
      have e : rdD (.ref n) mu = .ok kvs mu := atD_dk ho
      rw [e] at hp
      exact ⟨a, kvs, vs, rfl, hH, hr, hp m H .refl R⟩
    | lst xs =>
      have e : rdD (.ref n) mu = .bad := atD_lst ho
      rw [e] at hp
      exact hp.elim
  all_goals exact (show False from hp).elim
theorem valD_get {K : PySem.W.Frag} {m : Mp} {H : Hp} {kvs : List (Key × D)} {vs : List V} {a : Addr} (k : Key) (hH : H a = some (.dK ((kvs.map (·.1)).zip vs))) (hr : Reps K m H (kvs.map (·.2)) vs) : (∃ d v, valD kvs k = some d ∧ Rep K m H d v ∧ DGet H a (kV k) (some v)) ∨ (valD kvs k = none ∧ DGet H a (kV k) none) := by
  have q := valD_rep (k := k) (ks := kvs.map (·.1)) hr
  rw [zip_keys] at q
  have g := DGet.k (k := k) hH
  cases e : valD kvs k with
  | none =>
    rw [e] at q
    rw [show valV ((kvs.map (·.1)).zip vs) k = none from q] at g
    exact .inr ⟨rfl, g⟩
  | some d =>
    rw [e] at q
    obtain ⟨v, hv, rv⟩ := q
    rw [hv] at g
    exact .inl ⟨d, v, rfl, rv, g⟩
def gDget (x y : D) : M D := do
  let kvs ← rdD x
  let k ← toK y
  match valD kvs k with
  | some d => pure d
  | none => bad
theorem me_dget {ra rb : Env → M D} (hu : X.A.units + 1 < cLine) (ha : ME X W a ra) (hb : ME X W b rb) (hs : NoSl b := by intro _ _; rfl) : ME X W (.Subscript a b pos) (eBin gDget ra rb) := ⟨(pe_dget hu ha.pe hb.pe hs).imp fun σ H Q ⟨env, m, mu, hE, hR, hp⟩ =>
  ⟨env, m, mu, hE, hR, (Post.bind hp).mono fun x m1 mu1 H1 g1 R1 hp1 v rv => ⟨env, m1, mu1, hE.grow g1, R1, (Post.bind hp1).mono fun y m2 mu2 H2 g2 R2 hp w rw' => by
    obtain ⟨p, kvs, vs, rfl, hH, hr, hp⟩ := rdD_ok R2 (Rep.grow g2 x v rv) (Post.bind hp)
    obtain ⟨k, rfl, hp⟩ := toK_ok R2 rw' (Post.bind hp)
    rcases valD_get k hH hr with ⟨d, z, e, rz, g⟩ | ⟨e, g⟩
    · rw [e] at hp
      exact ⟨p, z, rfl, g, Post.pure hp R2 z rz⟩
    · rw [e] at hp
      exact (show False from hp).elim⟩⟩⟩
/-- in a dict -/
def gDin (neg : Bool) (y x : D) : M D := do
  let kvs ← rdD x
  let k ← toK y
  pure (.bl ((valD kvs k).isSome != neg))
theorem din_go {neg : Bool} {σ : L2.St} {ra rb : Env → M D} {H : Hp} {Q : VK} (h : tE X.K W (eBin (gDin neg) ra rb) σ H Q) : (tE X.K W ra) σ H fun y H1 => (tE X.K W rb) σ H1 fun x H2 => ∃ a o, x = .ref a ∧ DGet H2 a y o ∧ Q (.bl (o.isSome != neg)) H2 := by
  obtain ⟨env, m, mu, hE, hR, hp⟩ := h
  exact ⟨env, m, mu, hE, hR, (Post.bind hp).mono fun y m1 mu1 H1 g1 R1 hp1 v rv => ⟨env, m1, mu1, hE.grow g1, R1, (Post.bind hp1).mono fun x m2 mu2 H2 g2 R2 hp w rw' => by
    obtain ⟨p, kvs, vs, rfl, hH, hr, hp⟩ := rdD_ok R2 rw' (Post.bind hp)
    obtain ⟨k, rfl, hp⟩ := toK_ok R2 (Rep.grow g2 y v rv) (Post.bind hp)
    rcases valD_get k hH hr with ⟨d, z, e, rz, g⟩ | ⟨e, g⟩
    · rw [e] at hp
      exact ⟨p, _, rfl, g, Post.pure hp R2 _ (by simp only [Rep, Option.isSome_some])⟩
    · rw [e] at hp
      exact ⟨p, _, rfl, g, Post.pure hp R2 _ (by simp only [Rep, Option.isSome_none])⟩⟩⟩
theorem pc_dinM {ra rb : Env → M D} (hu : X.A.units + 1 < cLine) (ha : ME X W a ra) (hb : ME X W b rb) : PC X .In a b (tE X.K W (eBin (gDin false) ra rb)) := ⟨fun pins s σ H Q I h => (pc_din hu ha.pe hb.pe).run pins s σ H Q I (by
  have q := din_go h
  simp only [Bool.bne_false] at q
  exact q)⟩
theorem pc_dnotinM {ra rb : Env → M D} (hu : X.A.units + 1 < cLine) (ha : ME X W a ra) (hb : ME X W b rb) : PC X .NotIn a b (tE X.K W (eBin (gDin true) ra rb)) := ⟨fun pins s σ H Q I h => (pc_dnotin hu ha.pe hb.pe).run pins s σ H Q I (by
  have q := din_go h
  simp only [Bool.bne_true] at q
  exact q)⟩
theorem me_pc {op : CmpOp} {r : Env → M D} (h : PC X op a b (tE X.K W r)) (h1 : behindInMarks op b = false := by first | exact nobehind _ (by decide) (by decide) | rfl) : ME X W (.Compare a [op] [b] pos) r := ⟨pe_cmp h h1⟩
theorem mt_pc {op : CmpOp} {r : Env → M D} (h : PC X op a b (tE X.K W r)) (h1 : behindInMarks op b = false := by first | exact nobehind _ (by decide) (by decide) | rfl) : MT X W (.Compare a [op] [b] pos) (eB r) := ⟨(pt_cmp h h1).imp (tT_of fun _ _ _ q => q)⟩
end
end MP
namespace MP
open PySem L2 PyProof.Rows
/-! ### slices, built-ins -/
section
variable {X : Cx} {W : Wx} {e a b : Expr} {es : List Expr} {pos p : Pos}
structure MO_ (X : Cx) (W : Wx) (e : Option Expr) (r : Env → M (Option Int)) : Prop where
  po : PO X e fun σ H Q => ∃ env m mu, RepE X.K m H env σ ∧ Rel X.K m mu H ∧ Post X.K W m H (r env mu) fun o _ _ H' => Q o H'
theorem _root_.L2.PO.imp {e : Option Expr} {t t' : TO} (h : PO X e t) (i : ∀ σ H Q, t' σ H Q → t σ H Q) : PO X e t' := ⟨fun pins s σ H Q I q => h.run pins s σ H Q I (i σ H Q q)⟩
def oNone : Env → M (Option Int) := fun _ => pure none
def oSome (r : Env → M D) : Env → M (Option Int) := fun env => r env >>= fun x => toI x >>= fun i => pure (some i)
theorem mo_none : MO_ X W none oNone := ⟨po_none.imp fun σ H Q ⟨env, m, mu, hE, hR, hp⟩ => Post.pure hp hR⟩
theorem mo_some {r : Env → M D} (h : ME X W e r) : MO_ X W (some e) (oSome r) := ⟨(po_some h.pe).imp fun σ H Q ⟨env, m, mu, hE, hR, hp⟩ =>
  ⟨env, m, mu, hE, hR, (Post.bind hp).mono fun x m1 mu1 H1 g1 R1 hp v rv => by
    obtain ⟨i, rfl, rfl, hp⟩ := toI_ok R1 rv (Post.bind hp)
    exact ⟨i, rfl, Post.pure hp R1⟩⟩⟩
def cutD (xs : List D) (lo hi : Option Int) : List D := (xs.drop (HT.sIx xs.length 0 lo)).take (HT.sIx xs.length xs.length hi - HT.sIx xs.length 0 lo)
theorem cut_rep {K : PySem.W.Frag} {m : Mp} {H : Hp} {xs : List D} {vs : List V} {lo hi : Option Int} (h : Reps K m H xs vs) : Reps K m H (cutD xs lo hi) (cutV vs lo hi) := by
  unfold cutD cutV
  rw [h.length]
  exact (h.drop _).take _
def gSl (x : D) (lo hi : Option Int) : M D := match x with
  | .str z => do
    need (z.length ≤ sizeLine)
    pure (.str (cutS z lo hi))
  | .tup xs => pure (.tup (cutD xs lo hi))
  | x => do
    let xs ← rdL x
    pure (.fl (cutD xs lo hi))
def rSlM (K : PySem.W.Frag) : V → Option Int → Option Int → Hp → VK → Prop := fun x lo hi H Q => rSlS x lo hi H Q ∨ rSlA K x lo hi H Q ∨ rSlL K x lo hi H Q
theorem sl_M : SlR X (rSlM X.K) := sl_str.or (sl_tupA.or sl_list)
def eSl (r : Env → M D) (rl rh : Env → M (Option Int)) : Env → M D := fun env => r env >>= fun x => rl env >>= fun lo => rh env >>= fun hi => gSl x lo hi
theorem cut_whole {vs : List V} {lo hi : Option Int} (h : HT.sIx vs.length 0 lo = 0 ∧ HT.sIx vs.length vs.length hi = vs.length) : cutV vs lo hi = vs := by
  unfold cutV
  rw [h.1, h.2, List.drop_zero, Nat.sub_zero, List.take_length]
theorem slice_go {x : D} {v : V} {l u : Option Int} {m3 : Mp} {mu3 : List MO} {H3 : Hp} {Q : VK} (R3 : Rel X.K m3 mu3 H3) (rv3 : Rep X.K m3 H3 x v) (hp : Post X.K W m3 H3 (gSl x l u mu3) fun d m' _ H' => ∀ u, Rep X.K m' H' d u → Q u H') : rSlM X.K v l u H3 Q := by
    have lst : ∀ x, Rep X.K m3 H3 x v → Post X.K W m3 H3 ((do let xs ← rdL x; pure (D.fl (cutD xs l u))) mu3) (fun d m' _ H' => ∀ u, Rep X.K m' H' d u → Q u H') → rSlM X.K v l u H3 Q := fun x rv3 hp => by
      obtain ⟨a, xs, vs, rfl, hs, hr, _, hp⟩ := rdL_ok R3 rv3 (Post.bind hp)
      refine .inr (.inr ⟨a, vs, rfl, hs, fun p hn => ?_⟩)
      obtain ⟨g, R', rp⟩ := new_fl R3 (cut_rep (lo := l) (hi := u) hr) hn
      exact hp m3 _ g R' _ rp
    cases x
    case str z =>
      obtain ⟨c, hp⟩ := need_ok R3 (Post.bind hp)
      simp only [Rep] at rv3
      exact .inl ⟨z, rv3, c, Post.pure hp R3 _ (by simp only [Rep])⟩
    case tup xs =>
      simp only [Rep] at rv3
      obtain ⟨a, vs, rfl, hs, hr⟩ := rv3
      refine .inr (.inl ⟨a, vs, rfl, hs, fun hw => ?_, fun _ p hn => ?_⟩)
      · refine Post.pure hp R3 _ ?_
        simp only [Rep]
        exact ⟨a, vs, rfl, hs, by have q := cut_rep (lo := l) (hi := u) hr; rw [cut_whole hw] at q; exact q⟩
      · obtain ⟨g, R', rp⟩ := new_tup R3 (cut_rep (lo := l) (hi := u) hr) hn
        exact hp m3 _ g R' _ rp
    all_goals exact lst _ rv3 hp
theorem me_slice {p2 : Pos} {lo hi : Option Expr} {r : Env → M D} {rl rh : Env → M (Option Int)} (h : ME X W e r) (hl : MO_ X W lo rl) (hh : MO_ X W hi rh) : ME X W (.Subscript e (.Slice lo hi none p2) pos) (eSl r rl rh) := ⟨(pe_slice sl_M h.pe hl.po hh.po).imp fun σ H Q ⟨env, m, mu, hE, hR, hp⟩ =>
  ⟨env, m, mu, hE, hR, (Post.bind hp).mono fun x m1 mu1 H1 g1 R1 hpa v rv => ⟨env, m1, mu1, hE.grow g1, R1, (Post.bind hpa).mono fun l m2 mu2 H2 g2 R2 hpb => ⟨env, m2, mu2, (hE.grow g1).grow g2, R2, (Post.bind hpb).mono fun u m3 mu3 H3 g3 R3 hpc => slice_go R3 (Rep.grow g3 x v (Rep.grow g2 x v rv)) hpc⟩⟩⟩⟩
/-- .. of a list, as a new list -/
def fSl (r : Env → M D) (rl rh : Env → M (Option Int)) : Env → M (List D) := fun env => r env >>= fun x => rl env >>= fun lo => rh env >>= fun hi => rdL x >>= fun xs => pure (cutD xs lo hi)
theorem mf_slice {p2 : Pos} {lo hi : Option Expr} {r : Env → M D} {rl rh : Env → M (Option Int)} (h : ME X W e r) (hl : MO_ X W lo rl) (hh : MO_ X W hi rh) : MF X W (.Subscript e (.Slice lo hi none p2) pos) (fSl r rl rh) := ⟨(pe_slice sl_list h.pe hl.po hh.po).imp fun σ H Q ⟨env, m, mu, hE, hR, hp⟩ =>
  ⟨env, m, mu, hE, hR, (Post.bind hp).mono fun x m1 mu1 H1 g1 R1 hp v rv => ⟨env, m1, mu1, hE.grow g1, R1, (Post.bind hp).mono fun l m2 mu2 H2 g2 R2 hp => ⟨env, m2, mu2, (hE.grow g1).grow g2, R2, (Post.bind hp).mono fun u m3 mu3 H3 g3 R3 hp => by
    obtain ⟨a, xs, vs, rfl, hs, hr, _, hp⟩ := rdL_ok R3 (Rep.grow g3 x v (Rep.grow g2 x v rv)) (Post.bind hp)
    exact ⟨a, vs, rfl, hs, tF_new ((g1.trans g2).trans g3) R3 (cut_rep hr) hp⟩⟩⟩⟩⟩
/-- xs + ys, a new list -/
def fCat (ra rb : Env → M D) : Env → M (List D) := fun env => ra env >>= fun x => rb env >>= fun y => rdM x >>= fun xs => rdM y >>= fun ys => need (xs.length + ys.length ≤ sizeLine) >>= fun _ => pure (xs ++ ys)
theorem mf_cat {ra rb : Env → M D} (ha : ME X W a ra) (hb : ME X W b rb) : MF X W (.BinOp a .Add b pos) (fCat ra rb) := ⟨(pe_op op_cat ha.pe hb.pe).imp fun σ H Q ⟨env, m, mu, hE, hR, hp⟩ =>
  ⟨env, m, mu, hE, hR, (Post.bind hp).mono fun x m1 mu1 H1 g1 R1 hp1 v rv => ⟨env, m1, mu1, hE.grow g1, R1, (Post.bind hp1).mono fun y m2 mu2 H2 g2 R2 hp w rw' => by
    obtain ⟨a, xs, vs, rfl, ha, ra, ea, hp⟩ := rdM_ok R2 (Rep.grow g2 x v rv) (Post.bind hp)
    obtain ⟨b, ys, ws, rfl, hb, rb, eb, hp⟩ := rdM_ok R2 rw' (Post.bind hp)
    obtain ⟨c, hp⟩ := need_ok R2 (Post.bind hp)
    exact ⟨a, b, vs, ws, rfl, rfl, ha, hb, by rw [← ra.length, ← rb.length]; exact c, tF_new (g1.trans g2) R2 (ra.append rb) hp⟩⟩⟩⟩

/-! ### built-ins by their values -/
structure CallM (K : PySem.W.Frag) (W : Wx) (r : List V → Hp → VK → Prop) (g : List D → M D) : Prop where
  go : ∀ (ds : List D) (vs : List V) (m : Mp) (mu : List MO) (H : Hp) (Q : VK), Rel K m mu H → Reps K m H ds vs → Post K W m H (g ds mu) (fun d m' _ H' => ∀ u, Rep K m' H' d u → Q u H') → r vs H Q
theorem tCB_of {r : List V → Hp → VK → Prop} {g : List D → M D} {rs : Env → M (List D)} (c : CallM X.K W r g) : ∀ σ H Q, tE X.K W (aThen g rs) σ H Q → tCB r (tA X.K W rs) σ H Q := fun σ H Q ⟨env, m, mu, hE, hR, hp⟩ =>
  ⟨env, m, mu, hE, hR, (Post.bind hp).mono fun xs m1 mu1 H1 g1 R1 hp vs rv => c.go xs vs m1 mu1 H1 Q R1 rv hp⟩
/-- one argument -/
def g1 (g : D → M D) : List D → M D
  | [x] => g x
  | _ => bad
def g2 (g : D → D → M D) : List D → M D
  | [x, y] => g x y
  | _ => bad
theorem callM1 {r : List V → Hp → VK → Prop} {g : D → M D} {K : PySem.W.Frag} (h : ∀ (x : D) (v : V) (m : Mp) (mu : List MO) (H : Hp) (Q : VK), Rel K m mu H → Rep K m H x v → Post K W m H (g x mu) (fun d m' _ H' => ∀ u, Rep K m' H' d u → Q u H') → r [v] H Q) : CallM K W r (g1 g) := ⟨fun ds vs m mu H Q R hr hp => by
  match ds, hr, hp with
  | [x], hr, hp =>
    obtain ⟨v, r', rfl, h1, h2⟩ := Reps.cons_iff.mp hr
    rw [Reps.nil_iff] at h2
    subst h2
    exact h x v m mu H Q R h1 hp
  | [], _, hp => exact (show False from hp).elim
  | _ :: _ :: _, _, hp => exact (show False from hp).elim⟩
theorem callM2 {r : List V → Hp → VK → Prop} {g : D → D → M D} {K : PySem.W.Frag} (h : ∀ (x y : D) (v w : V) (m : Mp) (mu : List MO) (H : Hp) (Q : VK), Rel K m mu H → Rep K m H x v → Rep K m H y w → Post K W m H (g x y mu) (fun d m' _ H' => ∀ u, Rep K m' H' d u → Q u H') → r [v, w] H Q) : CallM K W r (g2 g) := ⟨fun ds vs m mu H Q R hr hp => by
  match ds, hr, hp with
  | [x, y], hr, hp =>
    obtain ⟨v, r', rfl, h1, h2⟩ := Reps.cons_iff.mp hr
    obtain ⟨w, r2, rfl, h3, h4⟩ := Reps.cons_iff.mp h2
    rw [Reps.nil_iff] at h4
    subst h4
    exact h x y v w m mu H Q R h1 h3 hp
  | [], _, hp => exact (show False from hp).elim
  | [_], _, hp => exact (show False from hp).elim
  | _ :: _ :: _ :: _, _, hp => exact (show False from hp).elim⟩
/-- len -/
def gLen : D → M D
  | .str z => do
    need (z.length ≤ sizeLine)
    pure (.int z.length)
  | .fd ks xs => pure (.int xs.length)
  | .ref n => fun mu => match mu[n]? with
    | some (.lst xs) => .ok (.int xs.length) mu
    | some (.dk kvs) => .ok (.int kvs.length) mu
    | none => .bad
  | x => do
    let xs ← rdQ x
    pure (.int xs.length)
def rLenM (K : PySem.W.Frag) : List V → Hp → VK → Prop := fun xs H Q => (∃ x n, xs = [x] ∧ LenV K x H n ∧ Q (.int n) H) ∨ ∃ a kvs, xs = [V.ref a] ∧ H a = some (.dK kvs) ∧ Q (.int kvs.length) H
theorem call_lenM : CallR X (.builtin "len") (rLenM X.K) := call_len.or call_lenD
theorem callM_len : CallM X.K W (rLenM X.K) (g1 gLen) := callM1 fun x v m mu H Q R hx hp => by
  have seq : ∀ x, Rep X.K m H x v → Post X.K W m H ((do let xs ← rdQ x; pure (D.int xs.length)) mu) (fun d m' _ H' => ∀ u, Rep X.K m' H' d u → Q u H') → rLenM X.K [v] H Q := fun x hx hp => by
    obtain ⟨a, xs, vs, rfl, hs, hr, hp⟩ := rdQ_ok R hx (Post.bind hp)
    refine .inl ⟨_, vs.length, rfl, ?_, ?_⟩
    · rcases hs with hs | hs
      · exact .inl ⟨vs, hs, rfl⟩
      · exact .inr ⟨vs, hs, rfl⟩
    · rw [← hr.length]
      exact Post.pure hp R _ (by simp only [Rep])
  cases x
  case str z =>
    obtain ⟨c, hp⟩ := need_ok R (Post.bind hp)
    simp only [Rep] at hx
    exact .inl ⟨v, z.length, rfl, by rw [hx]; exact ⟨c, rfl⟩, Post.pure hp R _ (by simp only [Rep])⟩
  case fd ks xs =>
    simp only [Rep] at hx
    obtain ⟨a, vs, rfl, hs, _, hl, hr⟩ := hx
    refine .inr ⟨a, _, rfl, hs, ?_⟩
    rw [List.length_zip, ← hr.length, hl, Nat.min_self]
    exact Post.pure hp R _ (by simp only [Rep])
  case ref n =>
    simp only [Rep] at hx
    obtain ⟨a, rfl, hm⟩ := hx
    obtain ⟨o, ho, hr⟩ := R.at' hm
    have e : gLen (.ref n) mu = (match mu[n]? with
      | some (.lst xs) => MP.R.ok (.int xs.length) mu
      | some (.dk kvs) => .ok (.int kvs.length) mu
      | none => .bad) := rfl
    rw [e, ho] at hp
    cases o with
    | lst xs =>
      obtain ⟨vs, hH, hr⟩ := hr
      refine .inl ⟨_, vs.length, rfl, .inl ⟨vs, .of hH, rfl⟩, ?_⟩
      rw [← hr.length]
      exact hp m H .refl R _ (by simp only [Rep])
    | dk kvs =>
      obtain ⟨vs, hH, hr⟩ := hr
      refine .inr ⟨a, _, rfl, hH, ?_⟩
      have := hr.length
      rw [List.length_map] at this
      rw [List.length_zip, List.length_map, ← this, Nat.min_self]
      exact hp m H .refl R _ (by simp only [Rep])
  all_goals exact seq _ hx hp
/-- abs, int -/
def gAbs (x : D) : M D := do
  let i ← toI x
  pure (.int (if i < 0 then -i else i))
theorem callM_abs : CallM X.K W (fun xs H Q => ∃ i, xs = [.int i] ∧ Q (.int (if i < 0 then -i else i)) H) (g1 gAbs) := callM1 fun x v m mu H Q R hx hp => by
  obtain ⟨i, rfl, rfl, hp⟩ := toI_ok R hx (Post.bind hp)
  exact ⟨i, rfl, Post.pure hp R _ (by simp only [Rep])⟩
def gInt : D → M D
  | .bl b => pure (.int (b2n b))
  | x => do
    let i ← toI x
    pure (.int i)
theorem callM_int : CallM X.K W (fun xs H Q => (∃ i, xs = [.int i] ∧ Q (.int i) H) ∨ ∃ k, xs = [.bl k] ∧ Q (.int (if k then 1 else 0)) H) (g1 gInt) := callM1 fun x v m mu H Q R hx hp => by
  have oth : ∀ x, Rep X.K m H x v → Post X.K W m H ((do let i ← toI x; pure (D.int i)) mu) (fun d m' _ H' => ∀ u, Rep X.K m' H' d u → Q u H') → (∃ i, [v] = [V.int i] ∧ Q (.int i) H) := fun x hx hp => by
    obtain ⟨i, rfl, rfl, hp⟩ := toI_ok R hx (Post.bind hp)
    exact ⟨i, rfl, Post.pure hp R _ (by simp only [Rep])⟩
  cases x
  case bl b =>
    simp only [Rep] at hx
    refine .inr ⟨b, by rw [hx], Post.pure hp R _ (by simp only [Rep]; cases b <;> rfl)⟩
  all_goals exact .inl (oth _ hx hp)
/-- tuple(x) of a list or a tuple -/
def gTuple (x : D) : M D := do
  let xs ← rdQ x
  pure (.tup xs)
theorem callM_tuple : CallM X.K W (fun xs H Q => ∃ p ys, xs = [.ref p] ∧ ((SqL X.K H p ys ∧ ∀ l, H l = none → Q (.ref l) (upd H l (.tup ys))) ∨ (SqT X.K H p ys ∧ Q (.ref p) H))) (g1 gTuple) := callM1 fun x v m mu H Q R hx hp => by
  obtain ⟨a, xs, vs, rfl, hs, hr, hp⟩ := rdQ_ok R hx (Post.bind hp)
  refine ⟨a, vs, rfl, ?_⟩
  rcases hs with hs | hs
  · refine .inl ⟨hs, fun p hn => ?_⟩
    obtain ⟨g, R', rp⟩ := new_tup R hr hn
    exact hp m _ g R' _ rp
  · exact .inr ⟨hs, Post.pure hp R _ (by simp only [Rep]; exact ⟨a, vs, rfl, hs, hr⟩)⟩
/-- list(x) -/
def fThen1 (g : D → M (List D)) (rs : Env → M (List D)) : Env → M (List D) := fun env => rs env >>= fun xs => match xs with
  | [x] => g x
  | _ => bad
theorem mf_list1 {rs : Env → M (List D)} {x : Str} (hg : Gl X x) (hm : X.mg x = none) (hv : bootBuiltins x = some (.type "list")) (h : MA X W (e :: es) rs) (hn : x ≠ "__name__" := by decide) (hdb : (x == ("__debug__" : Str)) = false := by decide)
    (he : starEach (e :: es) X.env = (false, eval e X.env) :: starEach es X.env := by rfl) (hpl : (backTo pos (starEach es X.env)).any (·.1) = false := by rfl) : MF X W (.Call (.Name x p) (e :: es) [] pos) (fThen1 rdQ rs) :=
  ⟨(pe_callTy call_list_of hg hm hv h.pa hn hdb he hpl).imp fun σ H Q ⟨env, m, mu, hE, hR, hp⟩ => ⟨env, m, mu, hE, hR, (Post.bind hp).mono fun xs m1 mu1 H1 g1 R1 hp vs rv => by
    match xs, rv, hp with
    | [x], rv, hp =>
      obtain ⟨v, r', rfl, h1, h2⟩ := Reps.cons_iff.mp rv
      rw [Reps.nil_iff] at h2
      subst h2
      have hp2 : Post X.K W m1 H1 ((rdQ x >>= fun ys => pure ys) mu1) fun ds m' mu' H' => NewL X.K H ds m' mu' H' Q := by
        have e : (rdQ x >>= fun ys => pure ys) mu1 = rdQ x mu1 := by rw [M.bind_def]; cases rdQ x mu1 <;> rfl
        rw [e]; exact hp
      obtain ⟨a, ys, vs, rfl, hs, hr, hp⟩ := rdQ_ok R1 h1 (Post.bind hp2)
      exact ⟨a, vs, rfl, hs, tF_new g1 R1 hr hp⟩
    | [], _, hp => exact (show False from hp).elim
    | _ :: _ :: _, _, hp => exact (show False from hp).elim⟩⟩
theorem me_callB {x : Str} {id : String} {r : List V → Hp → VK → Prop} {g : List D → M D} {rs : Env → M (List D)} (hc : CallR X (.builtin id) r) (c : CallM X.K W r g) (hg : Gl X x) (hm : X.mg x = none) (hv : bootBuiltins x = some (.builtin id)) (h : MA X W (e :: es) rs) (hn : x ≠ "__name__" := by decide) (hdb : (x == ("__debug__" : Str)) = false := by decide)
    (he : starEach (e :: es) X.env = (false, eval e X.env) :: starEach es X.env := by rfl) (hpl : (backTo pos (starEach es X.env)).any (·.1) = false := by rfl) : ME X W (.Call (.Name x p) (e :: es) [] pos) (aThen g rs) := ⟨(pe_callB hc hg hm hv h.pa hn hdb he hpl).imp (tCB_of c)⟩
theorem me_callTy {x : Str} {T : String} {r : List V → Hp → VK → Prop} {g : List D → M D} {rs : Env → M (List D)} (hc : CallR X (.type T) r) (c : CallM X.K W r g) (hg : Gl X x) (hm : X.mg x = none) (hv : bootBuiltins x = some (.type T)) (h : MA X W (e :: es) rs) (hn : x ≠ "__name__" := by decide) (hdb : (x == ("__debug__" : Str)) = false := by decide)
    (he : starEach (e :: es) X.env = (false, eval e X.env) :: starEach es X.env := by rfl) (hpl : (backTo pos (starEach es X.env)).any (·.1) = false := by rfl) : ME X W (.Call (.Name x p) (e :: es) [] pos) (aThen g rs) := ⟨(pe_callTy hc hg hm hv h.pa hn hdb he hpl).imp (tCB_of c)⟩
/-- all, any of a list of truth values -/
def toBs : List D → M (List Bool)
  | [] => pure []
  | x :: xs => toB x >>= fun b => toBs xs >>= fun bs => pure (b :: bs)
theorem toBs_ok {K : PySem.W.Frag} {m : Mp} {H : Hp} {mu : List MO} (R : Rel K m mu H) : ∀ {xs : List D} {vs : List V} {Q : List Bool → Mp → List MO → Hp → Prop}, Reps K m H xs vs → Post K W m H (toBs xs mu) Q → ∃ bs, vs = bs.map V.bl ∧ Q bs m mu H
  | [], vs, Q, h, hp => by rw [Reps.nil_iff] at h; subst h; exact ⟨[], rfl, Post.pure hp R⟩
  | x :: xs, vs, Q, h, hp => by
    obtain ⟨v, r, rfl, h1, h2⟩ := Reps.cons_iff.mp h
    obtain ⟨b, rfl, rfl, hp⟩ := toB_ok R h1 (Post.bind hp)
    obtain ⟨bs, rfl, hp⟩ := toBs_ok R h2 (Post.bind hp)
    exact ⟨b :: bs, rfl, Post.pure hp R⟩
def gAll (x : D) : M D := do
  let xs ← rdL x
  let bs ← toBs xs
  pure (.bl (bs.all id))
def gAny (x : D) : M D := do
  let xs ← rdL x
  let bs ← toBs xs
  pure (.bl (bs.any id))
theorem callM_all : CallM X.K W (rAll X.K) (g1 gAll) := callM1 fun x v m mu H Q R hx hp => by
  obtain ⟨a, xs, vs, rfl, hs, hr, _, hp⟩ := rdL_ok R hx (Post.bind hp)
  obtain ⟨bs, rfl, hp⟩ := toBs_ok R hr (Post.bind hp)
  exact ⟨a, bs, rfl, hs, Post.pure hp R _ (by simp only [Rep])⟩
theorem callM_any : CallM X.K W (rAny X.K) (g1 gAny) := callM1 fun x v m mu H Q R hx hp => by
  obtain ⟨a, xs, vs, rfl, hs, hr, _, hp⟩ := rdL_ok R hx (Post.bind hp)
  obtain ⟨bs, rfl, hp⟩ := toBs_ok R hr (Post.bind hp)
  exact ⟨a, bs, rfl, hs, Post.pure hp R _ (by simp only [Rep])⟩
/-- sum, max, min of a list of ints -/
def toIs : List D → M (List Int)
  | [] => pure []
  | x :: xs => toI x >>= fun b => toIs xs >>= fun bs => pure (b :: bs)
theorem toIs_ok {K : PySem.W.Frag} {m : Mp} {H : Hp} {mu : List MO} (R : Rel K m mu H) : ∀ {xs : List D} {vs : List V} {Q : List Int → Mp → List MO → Hp → Prop}, Reps K m H xs vs → Post K W m H (toIs xs mu) Q → ∃ bs, vs = bs.map V.int ∧ Q bs m mu H
  | [], vs, Q, h, hp => by rw [Reps.nil_iff] at h; subst h; exact ⟨[], rfl, Post.pure hp R⟩
  | x :: xs, vs, Q, h, hp => by
    obtain ⟨v, r, rfl, h1, h2⟩ := Reps.cons_iff.mp h
    obtain ⟨b, rfl, rfl, hp⟩ := toI_ok R h1 (Post.bind hp)
    obtain ⟨bs, rfl, hp⟩ := toIs_ok R h2 (Post.bind hp)
    exact ⟨b :: bs, rfl, Post.pure hp R⟩
def gSum (x : D) : M D := do
  let xs ← rdL x
  let bs ← toIs xs
  pure (.int bs.sum)
theorem callM_sum : CallM X.K W (rSum X.K) (g1 gSum) := callM1 fun x v m mu H Q R hx hp => by
  obtain ⟨a, xs, vs, rfl, hs, hr, _, hp⟩ := rdL_ok R hx (Post.bind hp)
  obtain ⟨bs, rfl, hp⟩ := toIs_ok R hr (Post.bind hp)
  exact ⟨a, bs, rfl, hs, Post.pure hp R _ (by simp only [Rep])⟩
/-- max, min of two ints -/
theorem callM_max2 : CallM X.K W (fun xs H Q => ∃ i j, xs = [.int i, .int j] ∧ Q (.int (if j > i then j else i)) H) (g2 (gII cAny fun i j => .int (if j > i then j else i))) := callM2 fun x y v w m mu H Q R hx hy hp => by
  obtain ⟨i, rfl, rfl, hp⟩ := toI_ok R hx (Post.bind hp)
  obtain ⟨j, rfl, rfl, hp⟩ := toI_ok R hy (Post.bind hp)
  obtain ⟨_, hp⟩ := need_ok R (Post.bind hp)
  exact ⟨i, j, rfl, Post.pure hp R _ (by simp only [Rep])⟩
theorem callM_min2 : CallM X.K W (fun xs H Q => ∃ i j, xs = [.int i, .int j] ∧ Q (.int (if j < i then j else i)) H) (g2 (gII cAny fun i j => .int (if j < i then j else i))) := callM2 fun x y v w m mu H Q R hx hy hp => by
  obtain ⟨i, rfl, rfl, hp⟩ := toI_ok R hx (Post.bind hp)
  obtain ⟨j, rfl, rfl, hp⟩ := toI_ok R hy (Post.bind hp)
  obtain ⟨_, hp⟩ := need_ok R (Post.bind hp)
  exact ⟨i, j, rfl, Post.pure hp R _ (by simp only [Rep])⟩
end
end MP
namespace MP
open PySem L2 PyProof.Rows
/-! ### what is walked -/
/-- at each turn the iterator gives the data in their order; g: a list of the small heap that must not change meanwhile -/
def ItOk (K : PySem.W.Frag) (g : List (Nat × List D)) (its : List D) (J : It) (m0 : Mp) (H0 : Hp) : Prop := ∀ (m : Mp) (mu : List MO) (H : Hp), Grow m0 m H0 H → Rel K m mu H → (∀ p ∈ g, mu[p.1]? = some (.lst p.2)) →
  (∀ i, its.length ≤ i → J.stop i H) ∧ ∀ (i : Nat) (d : D), its[i]? = some d → J.go i H ∧ ∀ x H', J.yld i H x H' → Grow m m H H' ∧ Rel K m mu H' ∧ Rep K m H' d x
/-- the items, and the lists of the small heap that are walked -/
abbrev Wk := List D × List (Nat × List D)
def tI (K : PySem.W.Frag) (W : Wx) (r : Env → M Wk) : TI := fun σ H R => ∃ env m mu, RepE K m H env σ ∧ Rel K m mu H ∧ Post K W m H (r env mu) fun p m' _ H' => p.1.length ≤ sizeLine → ∀ J, ItOk K p.2 p.1 J m' H' → R J H'
structure MI (X : Cx) (W : Wx) (tg iter : Expr) (r : Env → M Wk) : Prop where
  pi : PI X tg iter (tI X.K W r)
/-- sizes that hold wherever the abstract heap is held -/
def Sz (K : PySem.W.Frag) (H : Hp) : Prop := (∀ a xs, SqL K H a xs → xs.length ≤ sizeLine) ∧ ∀ a xs, SqT K H a xs → xs.length ≤ sizeLine
section
variable {X : Cx} {W : Wx} {e a b tg iter : Expr} {es : List Expr} {pos p : Pos}
theorem sz_of {pins : List (Addr × Obj)} {σ : L2.St} {H : Hp} {s : Shared} (I : Inv X pins σ H s) : Sz X.K H := ⟨fun a xs h => let ⟨_, _, _, z⟩ := I.list h; z, fun a xs h => let ⟨_, _, _, z⟩ := I.tuple h; z⟩
theorem pi_sz {t : TI} (h : PI X tg iter t) : PI X tg iter (fun σ H R => t σ H fun J H' => Sz X.K H' → R J H') := ⟨fun pins s σ H R I q =>
  thn (h.run pins s σ H _ I q) fun v s1 h1 => thn h1 fun itv s2 ⟨it, fp, tn, J, H', e, I2, T, st, f2, q2⟩ => ⟨it, fp, tn, J, H', e, I2, T, st, f2, q2 (sz_of I2)⟩⟩
theorem pe_sz {t : TE} (h : PE X e t) : PE X e (fun σ H Q => t σ H fun v H' => Sz X.K H' → Q v H') := ⟨fun pins s σ H Q I q =>
  thn (h.run pins s σ H _ I q) fun v s1 ⟨x, H1, I1, r, q1⟩ => ⟨x, H1, I1, r, q1 (sz_of I1)⟩⟩
theorem pi_imp {t t' : TI} (h : PI X tg iter t) (i : ∀ σ H R, t' σ H R → t σ H R) : PI X tg iter t' := ⟨fun pins s σ H R I q => h.run pins s σ H R I (i σ H R q)⟩
theorem pi_or {t t' : TI} (h : PI X tg iter t) (h' : PI X tg iter t') : PI X tg iter (fun σ H R => t σ H R ∨ t' σ H R) := ⟨fun pins s σ H R I q => q.elim (h.run pins s σ H R I) (h'.run pins s σ H R I)⟩
theorem itOk_list {K : PySem.W.Frag} {m0 : Mp} {H0 : Hp} {ds : List D} {vs : List V} {a : Addr} {g : List (Nat × List D)} (hk : ∀ (m : Mp) (mu : List MO) (H : Hp), Grow m0 m H0 H → Rel K m mu H → (∀ p ∈ g, mu[p.1]? = some (.lst p.2)) → ∃ vs, SqL K H a vs ∧ Reps K m H ds vs) : ItOk K g ds (Itl K a) m0 H0 := fun m mu H gr R hg => by
  obtain ⟨vs, hs, hr⟩ := hk m mu H gr R hg
  refine ⟨fun i hi => ⟨vs, hs, by rw [← hr.length]; exact hi⟩, fun i d hd => ?_⟩
  obtain ⟨v, hv, rv⟩ := hr.get hd
  refine ⟨⟨vs, v, hs, hv⟩, fun x H' y => ?_⟩
  obtain ⟨e, y⟩ := y
  subst e
  have e2 := y vs hs
  rw [hv] at e2
  cases e2
  exact ⟨.refl, R, rv⟩
theorem itOk_tup {K : PySem.W.Frag} {m0 : Mp} {H0 : Hp} {ds : List D} {vs : List V} {a : Addr} (hs : SqT K H0 a vs) (hr : Reps K m0 H0 ds vs) : ItOk K [] ds (Itt K a) m0 H0 := fun m mu H gr R hg => by
  have hs' := gr.sqT hs
  have hr' := Reps.grow gr ds vs hr
  refine ⟨fun i hi => ⟨vs, hs', by rw [← hr.length]; exact hi⟩, fun i d hd => ?_⟩
  obtain ⟨v, hv, rv⟩ := hr'.get hd
  refine ⟨⟨vs, v, hs', hv⟩, fun x H' y => ?_⟩
  obtain ⟨e, y⟩ := y
  subst e
  have e2 := y vs hs'
  rw [hv] at e2
  cases e2
  exact ⟨.refl, R, rv⟩
/-- the items of a walked thing -/
def walkD : D → M Wk
  | .tup xs => pure (xs, [])
  | .fl xs => pure (xs, [])
  | .ro xs => pure (xs, [])
  | .ref n => fun mu => match atL mu n with
    | .ok xs mu => .ok (xs, [(n, xs)]) mu
    | _ => .bad
  | .str z => do
    need (z.length ≤ sizeLine)
    pure (z.cps.toList.map fun c => D.str ⟨#[c]⟩, [])
  | _ => bad
def eWalk (r : Env → M D) : Env → M Wk := fun env => r env >>= walkD
theorem mi_seq {r : Env → M D} (h : ME X W iter r) : MI X W tg iter (eWalk r) := ⟨pi_imp (pi_sz (pi_or (pi_list h.pe) (pi_or (pi_tup h.pe) (pi_str h.pe)))) fun σ H Q ⟨env, m, mu, hE, hR, hp⟩ => by
  have e0 : eWalk r env mu = M.bind (r env) walkD mu := rfl
  rw [e0] at hp
  unfold M.bind at hp
  cases hr : r env mu with
  | exc x mu1 => rw [hr] at hp; exact .inl ⟨env, m, mu, hE, hR, by rw [hr]; exact hp⟩
  | bad => rw [hr] at hp; exact hp.elim
  | ok x mu1 =>
    rw [hr] at hp
    cases x
    case tup xs =>
      refine .inr (.inl ⟨env, m, mu, hE, hR, ?_⟩)
      rw [hr]
      intro m' H' g R v rv
      simp only [Rep] at rv
      obtain ⟨a, vs, rfl, hs, hq⟩ := rv
      refine ⟨a, rfl, ⟨vs, hs⟩, fun sz => hp m' H' g R (by show xs.length ≤ _; rw [hq.length]; exact sz.2 a vs hs) _ (itOk_tup hs hq)⟩
    case fl xs =>
      refine .inl ⟨env, m, mu, hE, hR, ?_⟩
      rw [hr]
      intro m' H' g R v rv
      simp only [Rep] at rv
      obtain ⟨a, vs, rfl, hs, hn, hq⟩ := rv
      exact ⟨a, rfl, ⟨vs, .of hs⟩, fun sz => hp m' H' g R (by show xs.length ≤ _; rw [hq.length]; exact sz.1 a vs (.of hs)) _ (itOk_list (vs := vs) (fun m mu H gr R hg => ⟨vs, .of (gr.oth a _ hs hn.1), Reps.grow gr xs vs hq⟩))⟩
    case ro xs =>
      refine .inl ⟨env, m, mu, hE, hR, ?_⟩
      rw [hr]
      intro m' H' g R v rv
      simp only [Rep] at rv
      obtain ⟨a, vs, rfl, hs, hq⟩ := rv
      exact ⟨a, rfl, ⟨vs, hs.sqL⟩, fun sz => hp m' H' g R (by show xs.length ≤ _; rw [hq.length]; exact sz.1 a vs hs.sqL) _ (itOk_list (vs := vs) (fun m mu H gr R hg => ⟨vs, (gr.roAt hs).sqL, Reps.grow gr xs vs hq⟩))⟩
    case ref n =>
      refine .inl ⟨env, m, mu, hE, hR, ?_⟩
      rw [hr]
      intro m' H' g R v rv
      simp only [Rep] at rv
      obtain ⟨a, rfl, hm⟩ := rv
      obtain ⟨o, ho, hro⟩ := R.at' hm
      have e1 : walkD (.ref n) mu1 = match atL mu1 n with
        | .ok xs mu => MP.R.ok (xs, [(n, xs)]) mu
        | _ => .bad := rfl
      have hp : Post X.K W m H (walkD (.ref n) mu1) fun p m' _ H' => p.1.length ≤ sizeLine → ∀ J, ItOk X.K p.2 p.1 J m' H' → Q J H' := hp
      rw [e1] at hp
      cases o with
      | dk kvs => rw [atL_dk ho] at hp; exact (show False from hp).elim
      | lst xs =>
        rw [atL_lst ho] at hp
        obtain ⟨vs, hH, hq⟩ := hro
        refine ⟨a, rfl, ⟨vs, .of hH⟩, fun sz => hp m' H' g R (by show xs.length ≤ _; rw [hq.length]; exact sz.1 a vs (.of hH)) _ (itOk_list (vs := vs) (fun m mu H gr R hg => ?_))⟩
        obtain ⟨ws, h1, h2⟩ := R.obj n _ a (hg (n, xs) (by simp)) (gr.get hm)
        exact ⟨ws, .of h1, h2⟩
    case str z =>
      refine .inr (.inr ⟨env, m, mu, hE, hR, ?_⟩)
      rw [hr]
      intro m' H' g R v rv
      simp only [Rep] at rv
      refine ⟨z, rv, fun sz => ?_⟩
      have hp : Post X.K W m H ((need (z.length ≤ sizeLine) >>= fun _ => (pure (z.cps.toList.map fun c => D.str ⟨#[c]⟩, []) : M Wk)) mu1) fun p m' _ H' => p.1.length ≤ sizeLine → ∀ J, ItOk X.K p.2 p.1 J m' H' → Q J H' := hp
      obtain ⟨hz, hp⟩ := need_ok R (Post.bind (hp.grow g))
      have ok : ItOk X.K [] (z.cps.toList.map fun c => D.str ⟨#[c]⟩) (Its z) m' H' := fun m2 mu2 H2 gr R2 hg => by
        refine ⟨fun i hi => by show z.cps.size ≤ i; simpa using hi, fun i d hd => ?_⟩
        rw [List.getElem?_map] at hd
        obtain ⟨c, hc, ed⟩ := Option.map_eq_some_iff.mp hd
        have hc' : z.cps[i]? = some c := by simpa using hc
        refine ⟨by show i < z.cps.size; exact (Array.getElem?_eq_some_iff.mp hc').1, fun x H' y => ?_⟩
        obtain ⟨e1, c2, h2, e2⟩ := y
        rw [hc'] at h2
        cases h2
        subst e1 e2 ed
        exact ⟨.refl, R2, by simp only [Rep]⟩
      exact Post.pure hp R (by show (z.cps.toList.map _).length ≤ _; rw [List.length_map, Array.length_toList]; exact hz) _ ok
    all_goals exact (show False from hp).elim⟩
/-- range(n), range(a, b) -/
def rngD (lo : Int) (n : Nat) : List D := (List.range n).map fun (i : Nat) => D.int (lo + (i : Int))
theorem itOk_range {K : PySem.W.Frag} {lo : Int} {n : Nat} {m0 : Mp} {H0 : Hp} : ItOk K [] (rngD lo n) (Itr lo n) m0 H0 := fun m mu H gr R hg => by
  refine ⟨fun i hi => by show n ≤ i; unfold rngD at hi; simpa using hi, fun i d hd => ?_⟩
  unfold rngD at hd
  rw [List.getElem?_map] at hd
  obtain ⟨c, hc, ed⟩ := Option.map_eq_some_iff.mp hd
  obtain ⟨hi, ei⟩ := List.getElem?_eq_some_iff.mp hc
  rw [List.getElem_range] at ei
  subst ei ed
  rw [List.length_range] at hi
  refine ⟨hi, fun x H' y => ?_⟩
  obtain ⟨e1, e2⟩ := y
  subst e1 e2
  exact ⟨.refl, R, by simp only [Rep]⟩
def wRng1 : List D → M Wk
  | [x] => do
    let n ← toI x
    need (-16777216 ≤ n ∧ n ≤ 16777216)
    pure (rngD 0 n.toNat, [])
  | _ => bad
def wRng2 : List D → M Wk
  | [x, y] => do
    let lo ← toI x
    let hi ← toI y
    need (-16777216 ≤ lo ∧ lo ≤ 16777216 ∧ -16777216 ≤ hi ∧ hi ≤ 16777216 ∧ hi - lo ≤ 16777216)
    pure (rngD lo (hi - lo).toNat, [])
  | _ => bad
def wThen (g : List D → M Wk) (rs : Env → M (List D)) : Env → M Wk := fun env => rs env >>= g
theorem rep1 {K : PySem.W.Frag} {m : Mp} {H : Hp} {x : D} {vs : List V} (h : Reps K m H [x] vs) : ∃ v, vs = [v] ∧ Rep K m H x v := by
  obtain ⟨v, r', rfl, h1, h2⟩ := Reps.cons_iff.mp h
  rw [Reps.nil_iff] at h2
  subst h2
  exact ⟨v, rfl, h1⟩
theorem rep2 {K : PySem.W.Frag} {m : Mp} {H : Hp} {x y : D} {vs : List V} (h : Reps K m H [x, y] vs) : ∃ v w, vs = [v, w] ∧ Rep K m H x v ∧ Rep K m H y w := by
  obtain ⟨v, r', rfl, h1, h2⟩ := Reps.cons_iff.mp h
  obtain ⟨w, rfl, h3⟩ := rep1 h2
  exact ⟨v, w, rfl, h1, h3⟩
theorem rngD_len (lo : Int) (n : Nat) : (rngD lo n).length = n := by unfold rngD; rw [List.length_map, List.length_range]
theorem mi_range1 {rs : Env → M (List D)} (hg : Gl X "range") (hm : X.mg "range" = none) (h : MA X W [a] rs) (hs : starEach [a] X.env = [(false, eval a X.env)] := by rfl) : MI X W tg (.Call (.Name "range" p) [a] [] pos) (wThen wRng1 rs) :=
  ⟨pi_imp (pi_range1 hg hm h.pa hs) fun σ H Q ⟨env, m, mu, hE, hR, hp⟩ => ⟨env, m, mu, hE, hR, (Post.bind hp).mono fun xs m1 mu1 H1 g1 R1 hp vs rv => by
    match xs, rv, hp with
    | [x], rv, hp =>
      obtain ⟨v, rfl, h1⟩ := rep1 rv
      obtain ⟨n, rfl, rfl, hp⟩ := toI_ok R1 h1 (Post.bind hp)
      obtain ⟨hc, hp⟩ := need_ok R1 (Post.bind hp)
      exact ⟨n, rfl, by omega, by omega, Post.pure hp R1 (by show (rngD 0 n.toNat).length ≤ _; rw [rngD_len, sizeLine_eq]; omega) _ itOk_range⟩
    | [], _, hp => exact (show False from hp).elim
    | _ :: _ :: _, _, hp => exact (show False from hp).elim⟩⟩
theorem mi_range2 {rs : Env → M (List D)} (hg : Gl X "range") (hm : X.mg "range" = none) (h : MA X W [a, b] rs) (hs : starEach [a, b] X.env = [(false, eval a X.env), (false, eval b X.env)] := by rfl) (hs2 : starEach [b] X.env = [(false, eval b X.env)] := by rfl) :
    MI X W tg (.Call (.Name "range" p) [a, b] [] pos) (wThen wRng2 rs) :=
  ⟨pi_imp (pi_range2 hg hm h.pa hs hs2) fun σ H Q ⟨env, m, mu, hE, hR, hp⟩ => ⟨env, m, mu, hE, hR, (Post.bind hp).mono fun xs m1 mu1 H1 g1 R1 hp vs rv => by
    match xs, rv, hp with
    | [x, y], rv, hp =>
      obtain ⟨v, w, rfl, h1, h2⟩ := rep2 rv
      obtain ⟨n, rfl, rfl, hp⟩ := toI_ok R1 h1 (Post.bind hp)
      obtain ⟨k, rfl, rfl, hp⟩ := toI_ok R1 h2 (Post.bind hp)
      obtain ⟨hc, hp⟩ := need_ok R1 (Post.bind hp)
      exact ⟨n, k, rfl, ⟨by omega, by omega, by omega, by omega⟩, Post.pure hp R1 (by show (rngD n (k - n).toNat).length ≤ _; rw [rngD_len, sizeLine_eq]; omega) _ itOk_range⟩
    | [], _, hp => exact (show False from hp).elim
    | [_], _, hp => exact (show False from hp).elim
    | _ :: _ :: _ :: _, _, hp => exact (show False from hp).elim⟩⟩
/-- enumerate(xs) -/
def enumD : Int → List D → List D
  | _, [] => []
  | k, d :: ds => .tup [.int k, d] :: enumD (k + 1) ds
theorem enumD_get : ∀ (ds : List D) (k : Int) (i : Nat), (enumD k ds)[i]? = (ds[i]?).map fun d => .tup [.int (k + (i : Int)), d]
  | [], _, _ => by simp [enumD]
  | d :: ds, k, 0 => by simp [enumD]
  | d :: ds, k, i + 1 => by
    simp only [enumD, List.getElem?_cons_succ]
    rw [enumD_get ds (k + 1) i]
    have e : k + 1 + (i : Int) = k + ((i + 1 : Nat) : Int) := by omega
    rw [e]
theorem enumD_len : ∀ (ds : List D) (k : Int), (enumD k ds).length = ds.length
  | [], _ => rfl
  | d :: ds, k => by simp only [enumD, List.length_cons]; rw [enumD_len ds]
/-- a list that is walked, at its address -/
def LsAt (K : PySem.W.Frag) (g : List (Nat × List D)) (ds : List D) (a : Addr) (m0 : Mp) (H0 : Hp) : Prop := ∀ (m : Mp) (mu : List MO) (H : Hp), Grow m0 m H0 H → Rel K m mu H → (∀ p ∈ g, mu[p.1]? = some (.lst p.2)) → ∃ vs, SqL K H a vs ∧ Reps K m H ds vs
/-- a list, and how it is held still -/
def rdW : D → M Wk
  | .fl xs => pure (xs, [])
  | .ro xs => pure (xs, [])
  | .ref n => fun mu => match atL mu n with
    | .ok xs mu => .ok (xs, [(n, xs)]) mu
    | _ => .bad
  | _ => bad
theorem rdW_ok {K : PySem.W.Frag} {W : Wx} {m : Mp} {H : Hp} {mu : List MO} {d : D} {v : V} {Q : Wk → Mp → List MO → Hp → Prop} (R : Rel K m mu H) (h : Rep K m H d v) (hp : Post K W m H (rdW d mu) Q) : ∃ a xs g vs, v = .ref a ∧ SqL K H a vs ∧ Reps K m H xs vs ∧ LsAt K g xs a m H ∧ Q (xs, g) m mu H := by
  cases d <;> simp only [Rep] at h
  case fl ds =>
    obtain ⟨a, vs, rfl, hs, hn, hr⟩ := h
    exact ⟨a, ds, [], vs, rfl, .of hs, hr, fun m2 mu2 H2 gr R2 _ => ⟨vs, .of (gr.oth a _ hs hn.1), Reps.grow gr ds vs hr⟩, hp m H .refl R⟩
  case ro ds =>
    obtain ⟨a, vs, rfl, hs, hr⟩ := h
    exact ⟨a, ds, [], vs, rfl, hs.sqL, hr, fun m2 mu2 H2 gr R2 _ => ⟨vs, (gr.roAt hs).sqL, Reps.grow gr ds vs hr⟩, hp m H .refl R⟩
  case ref n =>
    obtain ⟨a, rfl, hm⟩ := h
    obtain ⟨o, ho, hro⟩ := R.at' hm
    have e1 : rdW (.ref n) mu = match atL mu n with
      | .ok xs mu => MP.R.ok (xs, [(n, xs)]) mu
      | _ => .bad := rfl
    rw [e1] at hp
    cases o with
    | dk kvs => rw [atL_dk ho] at hp; exact (show False from hp).elim
    | lst xs =>
      rw [atL_lst ho] at hp
      obtain ⟨vs, hH, hq⟩ := hro
      refine ⟨a, xs, [(n, xs)], vs, rfl, .of hH, hq, fun m2 mu2 H2 gr R2 hg => ?_, hp m H .refl R⟩
      obtain ⟨ws, h1, h2⟩ := R2.obj n _ a (hg (n, xs) (by simp)) (gr.get hm)
      exact ⟨ws, .of h1, h2⟩
  all_goals exact (show False from hp).elim
theorem pairT {K : PySem.W.Frag} {m : Mp} {mu : List MO} {H : Hp} {x y : D} {v w : V} {T : Addr} (R : Rel K m mu H) (h1 : Rep K m H x v) (h2 : Rep K m H y w) (hn : H T = none) : Grow m m H (upd H T (.tup [v, w])) ∧ Rel K m mu (upd H T (.tup [v, w])) ∧ Rep K m (upd H T (.tup [v, w])) (.tup [x, y]) (.ref T) :=
  new_tup R (Reps.cons_iff.mpr ⟨v, [w], rfl, h1, Reps.one h2⟩) hn
theorem itOk_enum {K : PySem.W.Frag} {m0 : Mp} {H0 : Hp} {ds : List D} {a : Addr} {g : List (Nat × List D)} (hk : LsAt K g ds a m0 H0) : ItOk K g (enumD 0 ds) (Ite K a) m0 H0 := fun m mu H gr R hg => by
  obtain ⟨vs, hs, hr⟩ := hk m mu H gr R hg
  refine ⟨fun i hi => ⟨vs, hs, by rw [← hr.length, ← enumD_len ds 0]; exact hi⟩, fun i d hd => ?_⟩
  rw [enumD_get] at hd
  obtain ⟨x, hx, ed⟩ := Option.map_eq_some_iff.mp hd
  obtain ⟨v, hv, rv⟩ := hr.get hx
  refine ⟨⟨vs, v, hs, hv⟩, fun y H' yy => ?_⟩
  obtain ⟨T, z, rfl, hn, rfl, u⟩ := yy
  have e2 := u vs hs
  rw [hv] at e2
  cases e2
  subst ed
  rw [Int.zero_add]
  exact pairT R (by simp only [Rep]) rv hn
def wEnum : List D → M Wk
  | [x] => do
    let p ← rdW x
    pure (enumD 0 p.1, p.2)
  | _ => bad
theorem mi_enum {elts : List Expr} {kk : Nat} {tpos : Pos} {rs : Env → M (List D)} (hg : Gl X "enumerate") (hm : X.mg "enumerate" = none) (h : MA X W [a] rs) (hs : starEach [a] X.env = [(false, eval a X.env)] := by rfl) : MI X W (.Tuple elts kk tpos) (.Call (.Name "enumerate" p) [a] [] pos) (wThen wEnum rs) :=
  ⟨pi_imp (pi_sz (pi_enum hg hm h.pa hs)) fun σ H Q ⟨env, m, mu, hE, hR, hp⟩ => ⟨env, m, mu, hE, hR, (Post.bind hp).mono fun xs m1 mu1 H1 g1 R1 hp vs rv => by
    match xs, rv, hp with
    | [x], rv, hp =>
      obtain ⟨v, rfl, h1⟩ := rep1 rv
      obtain ⟨a, ds, g, vs, rfl, hs, hr, hk, hp⟩ := rdW_ok R1 h1 (Post.bind hp)
      exact ⟨a, vs, rfl, hs, fun sz => Post.pure hp R1 (by show (enumD 0 ds).length ≤ _; rw [enumD_len, hr.length]; exact sz.1 a vs hs) _ (itOk_enum hk)⟩
    | [], _, hp => exact (show False from hp).elim
    | _ :: _ :: _, _, hp => exact (show False from hp).elim⟩⟩
/-- zip(xs, ys): two lists, or two tuples -/
def zipD (xs ys : List D) : List D := List.zipWith (fun x y => .tup [x, y]) xs ys
theorem zipD_len (xs ys : List D) : (zipD xs ys).length = min xs.length ys.length := by unfold zipD; rw [List.length_zipWith]
theorem zipD_get {xs ys : List D} {i : Nat} {d : D} (h : (zipD xs ys)[i]? = some d) : ∃ x y, xs[i]? = some x ∧ ys[i]? = some y ∧ d = .tup [x, y] := by
  unfold zipD at h
  rw [List.getElem?_zipWith] at h
  cases ex : xs[i]? with
  | none => rw [ex] at h; simp at h
  | some x =>
    cases ey : ys[i]? with
    | none => rw [ex, ey] at h; simp at h
    | some y => rw [ex, ey] at h; simp at h; exact ⟨x, y, rfl, rfl, h.symm⟩
theorem itOk_zip {K : PySem.W.Frag} {m0 : Mp} {H0 : Hp} {ds es : List D} {a b : Addr} {g g' : List (Nat × List D)} (hk : LsAt K g ds a m0 H0) (hk' : LsAt K g' es b m0 H0) : ItOk K (g ++ g') (zipD ds es) (Itz K a b) m0 H0 := fun m mu H gr R hg => by
  obtain ⟨vs, hs, hr⟩ := hk m mu H gr R fun p hp => hg p (List.mem_append_left _ hp)
  obtain ⟨ws, hs', hr'⟩ := hk' m mu H gr R fun p hp => hg p (List.mem_append_right _ hp)
  refine ⟨fun i hi => ⟨vs, ws, hs, hs', by rw [← hr.length, ← hr'.length]; rw [zipD_len] at hi; omega⟩, fun i d hd => ?_⟩
  obtain ⟨x, y, hx, hy, rfl⟩ := zipD_get hd
  obtain ⟨v, hv, rv⟩ := hr.get hx
  obtain ⟨w, hw, rw'⟩ := hr'.get hy
  refine ⟨⟨vs, ws, v, w, hs, hs', hv, hw⟩, fun z H' yy => ?_⟩
  obtain ⟨T, x2, y2, rfl, hn, rfl, u, u'⟩ := yy
  have e2 := u vs hs
  rw [hv] at e2
  cases e2
  have e3 := u' ws hs'
  rw [hw] at e3
  cases e3
  exact pairT R rv rw' hn
theorem itOk_zipT {K : PySem.W.Frag} {m0 : Mp} {H0 : Hp} {ds es : List D} {vs ws : List V} {a b : Addr} (hs0 : SqT K H0 a vs) (hr0 : Reps K m0 H0 ds vs) (hs0' : SqT K H0 b ws) (hr0' : Reps K m0 H0 es ws) : ItOk K [] (zipD ds es) (RZ.ItzT K a b) m0 H0 := fun m mu H gr R hg => by
  have hs := gr.sqT hs0
  have hr := Reps.grow gr _ _ hr0
  have hs' := gr.sqT hs0'
  have hr' := Reps.grow gr _ _ hr0'
  refine ⟨fun i hi => ⟨vs, ws, hs, hs', by rw [← hr.length, ← hr'.length]; rw [zipD_len] at hi; omega⟩, fun i d hd => ?_⟩
  obtain ⟨x, y, hx, hy, rfl⟩ := zipD_get hd
  obtain ⟨v, hv, rv⟩ := hr.get hx
  obtain ⟨w, hw, rw'⟩ := hr'.get hy
  refine ⟨⟨vs, ws, v, w, hs, hs', hv, hw⟩, fun z H' yy => ?_⟩
  obtain ⟨T, x2, y2, rfl, hn, rfl, u, u'⟩ := yy
  have e2 := u vs hs
  rw [hv] at e2
  cases e2
  have e3 := u' ws hs'
  rw [hw] at e3
  cases e3
  exact pairT R rv rw' hn
def zip2 : D → D → M Wk
  | .tup xs, y => do
    let ys ← toT y
    pure (zipD xs ys, [])
  | x, y => do
    let p ← rdW x
    let q ← rdW y
    pure (zipD p.1 q.1, p.2 ++ q.2)
def wZip : List D → M Wk
  | [x, y] => zip2 x y
  | _ => bad
theorem mi_zip {elts : List Expr} {kk : Nat} {tpos : Pos} {rs : Env → M (List D)} (hg : Gl X "zip") (hm : X.mg "zip" = none) (h : MA X W [a, b] rs) (hs : starEach [a, b] X.env = (false, eval a X.env) :: starEach [b] X.env := by rfl) (hpl : (backTo pos (starEach [b] X.env)).any (·.1) = false := by rfl) :
    MI X W (.Tuple elts kk tpos) (.Call (.Name "zip" p) [a, b] [] pos) (wThen wZip rs) :=
  ⟨pi_imp (pi_sz (RZ.pi_zipA hg hm h.pa hs hpl)) fun σ H Q ⟨env, m, mu, hE, hR, hp⟩ => ⟨env, m, mu, hE, hR, (Post.bind hp).mono fun xs m1 mu1 H1 g1 R1 hp vs rv => by
    match xs, rv, hp with
    | [x, y], rv, hp =>
      obtain ⟨v, w, rfl, h1, h2⟩ := rep2 rv
      have lst : ∀ x, Rep X.K m1 H1 x v → Post X.K W m1 H1 ((do let p ← rdW x; let q ← rdW y; pure (zipD p.1 q.1, p.2 ++ q.2)) mu1) (fun (p : Wk) m' _ H' => p.1.length ≤ sizeLine → ∀ J, ItOk X.K p.2 p.1 J m' H' → Q J H') → ∃ a b xs ys, [v, w] = [V.ref a, V.ref b] ∧ ((SqL X.K H1 a xs ∧ SqL X.K H1 b ys ∧ (Sz X.K H1 → Q (Itz X.K a b) H1)) ∨ (SqT X.K H1 a xs ∧ SqT X.K H1 b ys ∧ (Sz X.K H1 → Q (RZ.ItzT X.K a b) H1))) := fun x h1 hp => by
        obtain ⟨a, ds, g, vs, rfl, hs, hr, hk, hp⟩ := rdW_ok R1 h1 (Post.bind hp)
        obtain ⟨b, es, g', ws, rfl, hs', hr', hk', hp⟩ := rdW_ok R1 h2 (Post.bind hp)
        exact ⟨a, b, vs, ws, rfl, .inl ⟨hs, hs', fun sz => Post.pure hp R1 (by show (zipD ds es).length ≤ _; have := sz.1 a vs hs; rw [zipD_len, hr.length]; omega) _ (itOk_zip hk hk')⟩⟩
      cases x
      case tup xs =>
        obtain ⟨ys, b, ws, rfl, rfl, hs', hr', hp⟩ := toT_ok R1 h2 (Post.bind hp)
        simp only [Rep] at h1
        obtain ⟨a, vs, rfl, hs, hr⟩ := h1
        exact ⟨a, b, vs, ws, rfl, .inr ⟨hs, hs', fun sz => Post.pure hp R1 (by show (zipD xs ys).length ≤ _; have := sz.2 a vs hs; rw [zipD_len, hr.length]; omega) _ (itOk_zipT hs hr hs' hr')⟩⟩
      all_goals exact lst _ h1 hp
    | [], _, hp => exact (show False from hp).elim
    | [_], _, hp => exact (show False from hp).elim
    | _ :: _ :: _ :: _, _, hp => exact (show False from hp).elim⟩⟩
end
end MP
namespace MP
open PySem L2 PyProof.Rows
/-! ### targets -/
/-- the slots outside of l are as they were -/
def Off (l : List Nat) (σ' σ : L2.St) : Prop := σ'.length = σ.length ∧ ∀ i, i ∉ l → σ'[i]? = σ[i]?
def tG (K : PySem.W.Frag) (W : Wx) (l : List Nat) (asg : D → Env → M Env) : TG := fun v σ H Q => ∃ d env m mu, RepE K m H env σ ∧ Rel K m mu H ∧ Rep K m H d v ∧ Post K W m H (asg d env mu) fun env' m' _ H' => ∀ σ', RepE K m' H' env' σ' → Off l σ' σ → Q σ' H'
def tGs (K : PySem.W.Frag) (W : Wx) (l : List Nat) (asg : List D → Env → M Env) : TGs := fun vs σ H Q => ∃ ds env m mu, RepE K m H env σ ∧ Rel K m mu H ∧ Reps K m H ds vs ∧ Post K W m H (asg ds env mu) fun env' m' _ H' => ∀ σ', RepE K m' H' env' σ' → Off l σ' σ → Q σ' H'
structure MG (X : Cx) (W : Wx) (tg : Expr) (l : List Nat) (asg : D → Env → M Env) : Prop where
  pg : PG X tg (tG X.K W l asg)
structure MGs (X : Cx) (W : Wx) (tg : List Expr) (l : List Nat) (asg : List D → Env → M Env) : Prop where
  pg : PGs X tg (tGs X.K W l asg)
section
variable {X : Cx} {W : Wx} {e a b tg iter : Expr} {es : List Expr} {pos p : Pos}
theorem Off.refl {l : List Nat} {σ : L2.St} : Off l σ σ := ⟨rfl, fun _ _ => rfl⟩
theorem Off.trans {l l' : List Nat} {σ σ1 σ2 : L2.St} (h : Off l σ1 σ) (h' : Off l' σ2 σ1) : Off (l ++ l') σ2 σ := ⟨h'.1.trans h.1, fun i hi => by
  rw [List.mem_append, not_or] at hi
  rw [h'.2 i hi.2, h.2 i hi.1]⟩
theorem _root_.L2.PG.imp {t t' : TG} (h : PG X tg t) (i : ∀ v σ H Q, t' v σ H Q → t v σ H Q) : PG X tg t' := ⟨fun pins s σ H v u Q I r q => h.run pins s σ H v u Q I r (i v σ H Q q)⟩
theorem _root_.L2.PGs.imp {ts : List Expr} {t t' : TGs} (h : PGs X ts t) (i : ∀ v σ H Q, t' v σ H Q → t v σ H Q) : PGs X ts t' := ⟨fun pins s σ H v u Q I r q => h.run pins s σ H v u Q I r (i v σ H Q q)⟩
def asgN (i : Nat) : D → Env → M Env := fun d env => pure (env.set i (some d))
theorem mg_of {i : Nat} (h : PG X tg (gName i)) : MG X W tg [i] (asgN i) := ⟨h.imp fun v σ H Q ⟨d, env, m, mu, hE, hR, hd, hp⟩ =>
  Post.pure hp hR _ (hE.set hd) ⟨by rw [List.length_set], fun j hj => by rw [List.getElem?_set_ne (fun z => hj (by rw [z]; exact List.mem_singleton.mpr rfl))]⟩⟩
def asgNil : List D → Env → M Env := fun ds env => match ds with
  | [] => pure env
  | _ => bad
def asgCons (f : D → Env → M Env) (g : List D → Env → M Env) : List D → Env → M Env := fun ds env => match ds with
  | d :: ds => f d env >>= fun env' => g ds env'
  | [] => bad
theorem mgs_nil : MGs X W [] [] asgNil := ⟨pgs_nil.imp fun vs σ H Q ⟨ds, env, m, mu, hE, hR, hd, hp⟩ => by
  match ds, hd, hp with
  | [], hd, hp =>
    rw [Reps.nil_iff] at hd
    exact ⟨hd, Post.pure hp hR _ hE .refl⟩
  | _ :: _, _, hp => exact (show False from hp).elim⟩
theorem mgs_cons {l l' : List Nat} {f : D → Env → M Env} {g : List D → Env → M Env} (h : MG X W e l f) (h' : MGs X W es l' g) (hs : (assignEach (e :: es) X.env).map (·.2) = assign e X.env :: (assignEach es X.env).map (·.2) := by rfl) : MGs X W (e :: es) (l ++ l') (asgCons f g) :=
  ⟨(pgs_cons h.pg h'.pg hs).imp fun vs σ H Q ⟨ds, env, m, mu, hE, hR, hd, hp⟩ => by
    match ds, hd, hp with
    | [], _, hp => exact (show False from hp).elim
    | d :: ds, hd, hp =>
      obtain ⟨v, r, rfl, h1, h2⟩ := Reps.cons_iff.mp hd
      exact ⟨v, r, rfl, d, env, m, mu, hE, hR, h1, (Post.bind hp).mono fun env1 m1 mu1 H1 g1 R1 hp σ1 hE1 o1 =>
        ⟨ds, env1, m1, mu1, hE1, R1, Reps.grow g1 ds r h2, hp.mono fun env2 m2 mu2 H2 g2 R2 hq σ2 hE2 o2 => hq σ2 hE2 (o1.trans o2)⟩⟩⟩
def asgT (n : Nat) (g : List D → Env → M Env) : D → Env → M Env := fun d env => toT d >>= fun xs => need (xs.length = n) >>= fun _ => g xs env
theorem mg_tup {k : Nat} {l : List Nat} {g : List D → Env → M Env} {n : Nat} (hc : X.calm = true) (h : MGs X W es l g) (hn : (assignEach es X.env).length = n := by rfl) (hst : (assignEach es X.env).findIdx? (·.1) = none := by rfl) : MG X W (.Tuple es k pos) l (asgT n g) :=
  ⟨(pg_tup hc h.pg hn hst).imp fun v σ H Q ⟨d, env, m, mu, hE, hR, hd, hp⟩ => by
    obtain ⟨xs, a, vs, rfl, rfl, hs, hr, hp⟩ := toT_ok hR hd (Post.bind hp)
    obtain ⟨c, hp⟩ := need_ok hR (Post.bind hp)
    exact ⟨a, vs, rfl, hs, by rw [← hr.length]; exact c, xs, env, m, mu, hE, hR, hr, hp⟩⟩
theorem mg_par {l : List Nat} {g : D → Env → M Env} (h : MG X W tg l g) : MG X W tg l g := h

/-! ### loops -/
open Classical in
/-- the walked lists stand as they stood -/
noncomputable def chk (g : List (Nat × List D)) : M Unit := fun mu => if ∀ p ∈ g, mu[p.1]? = some (.lst p.2) then .ok () mu else .bad
theorem chk_ok {K : PySem.W.Frag} {m : Mp} {H : Hp} {mu : List MO} {g : List (Nat × List D)} {Q : Unit → Mp → List MO → Hp → Prop} (R : Rel K m mu H) (hp : Post K W m H (chk g mu) Q) : (∀ p ∈ g, mu[p.1]? = some (.lst p.2)) ∧ Q () m mu H := by
  unfold chk at hp
  split at hp
  · rename_i h
    exact ⟨h, hp m H .refl R⟩
  · exact (show False from hp).elim
/-- for: over the items; fg: the slots that are forgotten ahead of each turn and behind the loop -/
noncomputable def loopF (asg : D → Env → M Env) (body : Env → M Fl) (fg : List Nat) (g : List (Nat × List D)) : List D → Env → M Fl
  | [], env => chk g >>= fun _ => pure (.nx (wipeE env fg))
  | d :: ds, env => chk g >>= fun _ => asg d (wipeE env fg) >>= fun env1 => body env1 >>= fun fl => match fl with
    | .nx e => loopF asg body fg g ds e
    | .ct e => loopF asg body fg g ds e
    | .bk e => pure (.nx (wipeE e fg))
    | .rt rv => pure (.rt rv)
noncomputable def sFor (r : Env → M Wk) (asg : D → Env → M Env) (body : Env → M Fl) (fg : List Nat) : Env → M Fl := fun env => r env >>= fun p => loopF asg body fg p.2 p.1 env
theorem FlQ.from {K : PySem.W.Frag} {D : Ends} {m m1 m' : Mp} {H H1 H' : Hp} {mu' : List MO} {fl : Fl} (h : FlQ K D H fl m' mu' H') (g : Grow m m1 H H1) : FlQ K D H1 fl m' mu' H' := by
  cases fl with
  | rt rv => exact RvQ.from h g
  | nx e => exact h
  | bk e => exact h
  | ct e => exact h
theorem ms_for {fg l : List Nat} {r : Env → M Wk} {asg : D → Env → M Env} {body : List Stmt} {rb : Env → M Fl} (hp : PassesOwn (model X.prog X.w) X.A X.env X.xe) (hc : X.calm = true) (hi : MI X W tg iter r) (hg : MG X W tg l asg) (hb : MSs X W body rb)
    (hs : ∀ x, foldedSetIterable iter X.env x = pure x := by intro _; rfl) : MS X W (.For tg iter body [] pos) (sFor r asg rb fg) := ⟨(ps_for hp hc hi.pi hg.pg hb.ps hs).imp fun D σ H ⟨env, m, mu, hE, hR, hp⟩ =>
  ⟨env, m, mu, hE, hR, (Post.bind hp).mono fun p m1 mu1 H1 g1 R1 hp _ J ok => by
    refine ⟨fun i k σ2 H2 => ∃ rest env2 m2 mu2, k = rest.length ∧ p.1.drop i = rest ∧ RepE X.K m2 H2 env2 σ2 ∧ Rel X.K m2 mu2 H2 ∧ Grow m1 m2 H1 H2 ∧ Post X.K W m2 H2 (loopF asg rb fg p.2 rest env2 mu2) fun fl m' mu' H' => FlQ X.K D H fl m' mu' H', ⟨_, p.1, env, m1, mu1, rfl, rfl, hE.grow g1, R1, .refl, hp⟩, ?_⟩
    rintro i k σ2 H2 ⟨rest, env2, m2, mu2, rfl, hd, hE2, R2, g2, hp2⟩
    cases rest with
    | nil =>
      obtain ⟨hch, hp2⟩ := chk_ok R2 (Post.bind hp2)
      have q := Post.pure hp2 R2
      refine .inl ⟨((ok m2 mu2 H2 g2 R2 hch).1 i) (by rw [List.drop_eq_nil_iff] at hd; exact hd), q σ2 (hE2.wipeL fg)⟩
    | cons d ds =>
      obtain ⟨hch, hp2⟩ := chk_ok R2 (Post.bind hp2)
      have hdi : p.1[i]? = some d := by
        have e : (p.1.drop i)[0]? = some d := by rw [hd]; rfl
        rw [List.getElem?_drop] at e
        simpa using e
      have hds : p.1.drop (i + 1) = ds := by
        have e := congrArg List.tail hd
        rw [List.tail_drop] at e
        exact e
      obtain ⟨go, yl⟩ := (ok m2 mu2 H2 g2 R2 hch).2 i d hdi
      refine .inr ⟨go, fun σ3 H3 => ∃ env3 m3 mu3, RepE X.K m3 H3 env3 σ3 ∧ Rel X.K m3 mu3 H3 ∧ Grow m1 m3 H1 H3 ∧ Post X.K W m3 H3 (loopF asg rb fg p.2 ds env3 mu3) fun fl m' mu' H' => FlQ X.K D H fl m' mu' H',
        fun σ3 H3 ⟨env3, m3, mu3, hE3, R3, g3, hp3⟩ => ⟨ds.length, Nat.lt_succ_self _, ds, env3, m3, mu3, rfl, hds, hE3, R3, g3, hp3⟩, fun x H3 y => ?_⟩
      obtain ⟨gy, Ry, rx⟩ := yl x H3 y
      refine ⟨d, wipeE env2 fg, m2, mu2, (hE2.grow gy).wipeL fg, Ry, rx, (Post.bind (hp2.grow gy)).mono fun env4 m4 mu4 H4 g4 R4 hp4 σ4 hE4 _ => ⟨env4, m4, mu4, hE4, R4, ?_⟩⟩
      have e0 : (rb env4 >>= fun fl => match fl with
        | .nx e => loopF asg rb fg p.2 ds e
        | .ct e => loopF asg rb fg p.2 ds e
        | .bk e => pure (.nx (wipeE e fg))
        | .rt rv => pure (.rt rv)) mu4 = M.bind (rb env4) _ mu4 := rfl
      rw [e0] at hp4
      unfold M.bind at hp4
      cases hr : rb env4 mu4 with
      | bad => rw [hr] at hp4; exact hp4
      | exc x mu5 => rw [hr] at hp4; exact hp4
      | ok fl mu5 =>
        rw [hr] at hp4
        intro m5 H5 g5 R5
        cases fl with
        | nx e => exact fun σ5 hE5 => ⟨e, m5, mu5, hE5, R5, (((g2.trans gy).trans g4).trans g5), hp4.grow g5⟩
        | ct e => exact fun σ5 hE5 => ⟨e, m5, mu5, hE5, R5, (((g2.trans gy).trans g4).trans g5), hp4.grow g5⟩
        | bk e => exact fun σ5 hE5 => (hp4 m5 H5 g5 R5) σ5 (hE5.wipeL fg)
        | rt rv => exact RvQ.from (hp4 m5 H5 g5 R5) ((g1.trans (g2.trans gy)).trans g4)⟩⟩
end
end MP
namespace MP
open PySem L2 PyProof.Rows
section
variable {X : Cx} {W : Wx} {e a b tg iter : Expr} {es : List Expr} {pos p : Pos} {st : Stmt} {rest : List Stmt}
/-! ### while -/
/-- a lid on the turns; never reckoned with -/
def lid : Nat := 10 ^ 12
def loopW (c : Env → M Bool) (body : Env → M Fl) (fg : List Nat) : Nat → Env → M Fl
  | 0, _ => bad
  | n + 1, env => c (wipeE env fg) >>= fun b => if b = true then (body (wipeE env fg) >>= fun fl => match fl with
    | .nx e => loopW c body fg n e
    | .ct e => loopW c body fg n e
    | .bk e => pure (.nx (wipeE e fg))
    | .rt rv => pure (.rt rv)) else pure (.nx (wipeE env fg))
def sWhile (c : Env → M Bool) (body : Env → M Fl) (fg : List Nat) : Env → M Fl := fun env => loopW c body fg lid env
theorem ms_while {fg : List Nat} {c : Expr} {body : List Stmt} {rc : Env → M Bool} {rb : Env → M Fl} (hp : PassesOwn (model X.prog X.w) X.A X.env X.xe) (hc : MT X W c rc) (hb : MSs X W body rb) : MS X W (.While c body [] pos) (sWhile rc rb fg) := ⟨(ps_while hp hc.pt hb.ps).imp fun D σ H ⟨env, m, mu, hE, hR, hp⟩ => by
  refine ⟨fun k σ2 H2 => ∃ env2 m2 mu2, RepE X.K m2 H2 env2 σ2 ∧ Rel X.K m2 mu2 H2 ∧ Grow m m2 H H2 ∧ Post X.K W m2 H2 (loopW rc rb fg k env2 mu2) fun fl m' mu' H' => FlQ X.K D H fl m' mu' H', ⟨_, env, m, mu, hE, hR, .refl, hp⟩, ?_⟩
  rintro k σ2 H2 ⟨env2, m2, mu2, hE2, R2, g2, hp2⟩
  cases k with
  | zero => exact (show False from hp2).elim
  | succ k =>
    refine ⟨wipeE env2 fg, m2, mu2, hE2.wipeL fg, R2, (Post.bind hp2).mono fun b m3 mu3 H3 g3 R3 hp3 => ?_⟩
    cases b with
    | false =>
      rw [if_neg Bool.false_ne_true]
      exact (Post.pure hp3 R3) σ2 ((hE2.grow g3).wipeL fg)
    | true =>
      rw [if_pos rfl]
      rw [if_pos rfl] at hp3
      refine ⟨fun σ5 H5 => ∃ env5 m5 mu5, RepE X.K m5 H5 env5 σ5 ∧ Rel X.K m5 mu5 H5 ∧ Grow m m5 H H5 ∧ Post X.K W m5 H5 (loopW rc rb fg k env5 mu5) fun fl m' mu' H' => FlQ X.K D H fl m' mu' H',
        fun σ5 H5 h => ⟨k, Nat.lt_succ_self _, h⟩, wipeE env2 fg, m3, mu3, (hE2.grow g3).wipeL fg, R3, ?_⟩
      have e0 : (rb (wipeE env2 fg) >>= fun fl => match fl with
        | .nx e => loopW rc rb fg k e
        | .ct e => loopW rc rb fg k e
        | .bk e => pure (.nx (wipeE e fg))
        | .rt rv => pure (.rt rv)) mu3 = M.bind (rb (wipeE env2 fg)) _ mu3 := rfl
      rw [e0] at hp3
      unfold M.bind at hp3
      cases hr : rb (wipeE env2 fg) mu3 with
      | bad => rw [hr] at hp3; exact hp3
      | exc x mu5 => rw [hr] at hp3; exact hp3
      | ok fl mu5 =>
        rw [hr] at hp3
        intro m5 H5 g5 R5
        cases fl with
        | nx e => exact fun σ5 hE5 => ⟨e, m5, mu5, hE5, R5, (g2.trans g3).trans g5, hp3.grow g5⟩
        | ct e => exact fun σ5 hE5 => ⟨e, m5, mu5, hE5, R5, (g2.trans g3).trans g5, hp3.grow g5⟩
        | bk e => exact fun σ5 hE5 => (hp3 m5 H5 g5 R5) σ5 (hE5.wipeL fg)
        | rt rv => exact RvQ.from (hp3 m5 H5 g5 R5) (g2.trans g3)⟩

/-! ### small statements -/
def sNext : Env → M Fl := fun env => pure (.nx env)
def sSeq (r r' : Env → M Fl) : Env → M Fl := fun env => r env >>= fun fl => match fl with
  | .nx e => r' e
  | fl => pure fl
theorem mss_nil : MSs X W [] sNext := ⟨pss_nil.imp fun D σ H ⟨env, m, mu, hE, hR, hp⟩ => Post.pure hp hR σ hE⟩
theorem mss_one {r : Env → M Fl} (h : MS X W st r) : MSs X W [st] r := ⟨pss_one h.ps⟩
theorem mss_cons {r r' : Env → M Fl} (h : MS X W st r) (h' : MSs X W rest r') : MSs X W (st :: rest) (sSeq r r') := ⟨(pss_cons h.ps h'.ps).imp fun D σ H ⟨env, m, mu, hE, hR, hp⟩ => by
  refine ⟨env, m, mu, hE, hR, ?_⟩
  have e0 : sSeq r r' env mu = M.bind (r env) (fun fl => match fl with
    | .nx e => r' e
    | fl => pure fl) mu := rfl
  rw [e0] at hp
  unfold M.bind at hp
  cases hr : r env mu with
  | bad => rw [hr] at hp; exact hp
  | exc x mu5 => rw [hr] at hp; exact hp
  | ok fl mu5 =>
    rw [hr] at hp
    intro m5 H5 g5 R5
    cases fl with
    | nx e => exact fun σ5 hE5 => ⟨e, m5, mu5, hE5, R5, (hp.grow g5).mono fun fl m' mu' H' _ _ q => FlQ.from q g5⟩
    | ct e => exact hp m5 H5 g5 R5
    | bk e => exact hp m5 H5 g5 R5
    | rt rv => exact hp m5 H5 g5 R5⟩
theorem ms_pass : MS X W (.Pass pos) sNext := ⟨ps_pass.imp fun D σ H ⟨env, m, mu, hE, hR, hp⟩ => Post.pure hp hR σ hE⟩
def sBreak : Env → M Fl := fun env => pure (.bk env)
def sCont : Env → M Fl := fun env => pure (.ct env)
theorem ms_break : MS X W (.Break pos) sBreak := ⟨ps_break.imp fun D σ H ⟨env, m, mu, hE, hR, hp⟩ => Post.pure hp hR σ hE⟩
theorem ms_continue : MS X W (.Continue pos) sCont := ⟨ps_continue.imp fun D σ H ⟨env, m, mu, hE, hR, hp⟩ => Post.pure hp hR σ hE⟩
def sExpr (r : Env → M D) : Env → M Fl := fun env => r env >>= fun _ => pure (.nx env)
theorem ms_expr {r : Env → M D} (h : ME X W e r) (hs : swapsWith e none pos.line X.env = pure false := by rfl) : MS X W (.Expr e pos) (sExpr r) := ⟨(ps_expr h.pe hs).imp fun D σ H ⟨env, m, mu, hE, hR, hp⟩ =>
  ⟨env, m, mu, hE, hR, (Post.bind hp).mono fun x m1 mu1 H1 g1 R1 hp v rv => (Post.pure hp R1) σ (hE.grow g1)⟩⟩
def sRet (r : Env → M D) : Env → M Fl := fun env => r env >>= fun d => pure (.rt (.vl d))
theorem ms_ret {r : Env → M D} (h : ME X W e r) : MS X W (.Return (some e) pos) (sRet r) := ⟨(ps_ret h.pe).imp fun D σ H ⟨env, m, mu, hE, hR, hp⟩ =>
  ⟨env, m, mu, hE, hR, (Post.bind hp).mono fun x m1 mu1 H1 g1 R1 hp v rv => (Post.pure hp R1) v rv⟩⟩
def sRetF (r : Env → M (List D)) : Env → M Fl := fun env => r env >>= fun ds => pure (.rt (.fr ds))
theorem ms_retF {r : Env → M (List D)} (h : MF X W e r) : MS X W (.Return (some e) pos) (sRetF r) := ⟨(ps_ret h.pe).imp fun D σ H ⟨env, m, mu, hE, hR, hp⟩ =>
  ⟨env, m, mu, hE, hR, (Post.bind hp).mono fun x m1 mu1 H1 g1 R1 hp => Post.pure hp R1⟩⟩
def sRetN : Env → M Fl := fun env => pure (.rt (.vl .non))
theorem ms_retN : MS X W (.Return none pos) sRetN := ⟨ps_retN.imp fun D σ H ⟨env, m, mu, hE, hR, hp⟩ => (Post.pure hp hR) .non (by simp only [Rep])⟩
theorem ms_if {c : Expr} {s1 s2 : List Stmt} {t : Env → M Bool} {r r' : Env → M Fl} (hc : MT X W c t) (h : MSs X W s1 r) (h' : MSs X W s2 r') : MS X W (.If c s1 s2 pos) (eIf t r r') := ⟨(ps_if hc.pt h.ps h'.ps).imp fun D σ H ⟨env, m, mu, hE, hR, hp⟩ =>
  ⟨env, m, mu, hE, hR, (Post.bind hp).mono fun b m1 mu1 H1 g1 R1 hp => by
    cases b
    · exact ⟨env, m1, mu1, hE.grow g1, R1, hp.mono fun fl m' mu' H' _ _ q => FlQ.from q g1⟩
    · exact ⟨env, m1, mu1, hE.grow g1, R1, hp.mono fun fl m' mu' H' _ _ q => FlQ.from q g1⟩⟩⟩
def sAsg (r : Env → M D) (asg : D → Env → M Env) : Env → M Fl := fun env => r env >>= fun d => asg d env >>= fun env' => pure (.nx env')
theorem asg_go {l : List Nat} {r : Env → M D} {asg : D → Env → M Env} : ∀ D σ H, tS X.K W (sAsg r asg) D σ H → tAsg (tE X.K W r) (tG X.K W l asg) D σ H := fun D σ H ⟨env, m, mu, hE, hR, hp⟩ =>
  ⟨env, m, mu, hE, hR, (Post.bind hp).mono fun x m1 mu1 H1 g1 R1 hp v rv => ⟨x, env, m1, mu1, hE.grow g1, R1, rv, (Post.bind hp).mono fun env2 m2 mu2 H2 g2 R2 hp σ2 hE2 _ => (Post.pure hp R2) σ2 hE2⟩⟩
theorem ms_asg {l : List Nat} {r : Env → M D} {asg : D → Env → M Env} (h : ME X W e r) (hg : MG X W tg l asg) (hs : swapsWithSole [tg] e pos.line X.env = pure false := by rfl) (hw : swappedStores [tg] e X.env = pure none := by rfl) (h1 : (assignEach [tg] X.env).map (·.2) = [assign tg X.env] := by rfl) : MS X W (.Assign [tg] e pos) (sAsg r asg) :=
  ⟨(ps_asg h.pe hg.pg hs hw h1).imp (asg_go (l := l))⟩
/-- name = value -/
def sSet (i : Nat) (r : Env → M D) : Env → M Fl := fun env => r env >>= fun d => pure (.nx (env.set i (some d)))
theorem set_go {i : Nat} {r : Env → M D} : ∀ D σ H, tS X.K W (sSet i r) D σ H → tAsg (tE X.K W r) (gName i) D σ H := fun D σ H ⟨env, m, mu, hE, hR, hp⟩ =>
  ⟨env, m, mu, hE, hR, (Post.bind hp).mono fun x m1 mu1 H1 g1 R1 hp v rv => (Post.pure hp R1) _ ((hE.grow g1).set rv)⟩
theorem ms_set {i : Nat} {x : Str} {r : Env → M D} {pos' : Pos} (hN : X.N.Nodup) (hi : X.N[i]? = some x) (hx : Loc X.env.scope x) (h : ME X W e r) (hs : swapsWith e (some (.Name x pos')) pos.line X.env = pure false := by rfl) (hf : X.fn x = true ∨ X.env.scope.names.lookup x = some .local := by first | exact .inl rfl | exact .inr rfl | assumption) :
    MS X W (.Assign [.Name x pos'] e pos) (sSet i r) := ⟨(ps_set hN hi hx h.pe hs hf).imp set_go⟩
/-- name op= value -/
def sAug (i : Nat) (g : D → D → M D) (r : Env → M D) : Env → M Fl := fun env => eVar i env >>= fun x => r env >>= fun y => g x y >>= fun z => pure (.nx (env.set i (some z)))
theorem ms_aug {i : Nat} {x : Str} {op : Operator} {rr : R2} {g : D → D → M D} {r : Env → M D} {pos' : Pos} (hN : X.N.Nodup) (hi : X.N[i]? = some x) (hx : Loc X.env.scope x) (h : ME X W e r) (ho : OpR X (inplaceOp op) rr) (o : OpM X.K W rr g) (hf : X.fn x = true ∨ X.env.scope.names.lookup x = some .local := by first | exact .inl rfl | exact .inr rfl | assumption) :
    MS X W (.AugAssign (.Name x pos') op e pos) (sAug i g r) := ⟨(ps_aug (ti := fun x y H Q => rr x y H Q) hN hi hx h.pe (fun pins s σ H x y v u Q I r1 r2 h => ho pins s σ H x y v u Q I r1 r2 h) hf).imp fun D σ H ⟨env, m, mu, hE, hR, hp⟩ => by
  have hp0 := Post.bind hp
  cases ev : env[i]? with
  | none => unfold eVar at hp0; rw [ev] at hp0; exact (show False from hp0).elim
  | some o2 =>
    cases o2 with
    | none => unfold eVar at hp0; rw [ev] at hp0; exact (show False from hp0).elim
    | some d =>
      unfold eVar at hp0
      rw [ev] at hp0
      obtain ⟨v, hv, rv⟩ := hE.get i d ev
      have hp1 := Post.pure hp0 hR
      exact ⟨v, hv, env, m, mu, hE, hR, (Post.bind hp1).mono fun y m1 mu1 H1 g1 R1 hp2 w rw' => o.go d y v w m1 mu1 H1 _ R1 (Rep.grow g1 d v rv) rw' ((Post.bind hp2).mono fun z m2 mu2 H2 g2 R2 hp3 u ru => (Post.pure hp3 R2) _ (((hE.grow g1).grow g2).set ru))⟩⟩
end
end MP
namespace MP
open PySem L2 PyProof.Rows
/-! ### objects of the small heap that change -/
/-- the list at a place is changed by f, which hands back what the method gives -/
def modLr (o : Option MO) (n : Nat) (f : List D → Option (List D × D)) (mu : List MO) : R D := match o with
  | some (.lst xs) => match f xs with
    | some (ys, d) => .ok d (mu.set n (.lst ys))
    | none => .bad
  | _ => .bad
def modL (n : Nat) (f : List D → Option (List D × D)) : M D := fun mu => modLr mu[n]? n f mu
def modDr (o : Option MO) (n : Nat) (f : List (Key × D) → Option (List (Key × D) × D)) (mu : List MO) : R D := match o with
  | some (.dk xs) => match f xs with
    | some (ys, d) => .ok d (mu.set n (.dk ys))
    | none => .bad
  | _ => .bad
def modD (n : Nat) (f : List (Key × D) → Option (List (Key × D) × D)) : M D := fun mu => modDr mu[n]? n f mu
def toR : D → M Nat
  | .ref n => pure n
  | _ => bad
section
variable {K : PySem.W.Frag} {W : Wx} {m m' : Mp} {H H' : Hp} {mu : List MO}
theorem toR_ok {d : D} {v : V} {Q : Nat → Mp → List MO → Hp → Prop} (rl : Rel K m mu H) (h : Rep K m H d v) (hp : Post K W m H (toR d mu) Q) : ∃ n a, d = .ref n ∧ v = .ref a ∧ m.ad[n]? = some a ∧ Q n m mu H := by
  cases d
  case ref n => simp only [Rep] at h; obtain ⟨a, e, hm⟩ := h; exact ⟨n, a, rfl, e, hm, hp m H .refl rl⟩
  all_goals exact (show False from hp).elim
theorem modL_ok {n : Nat} {f : List D → Option (List D × D)} {a : Addr} {Q : D → Mp → List MO → Hp → Prop} (R : Rel K m mu H) (hm : m.ad[n]? = some a) (hp : Post K W m H (modL n f mu) Q) : ∃ xs vs ys d, H a = some (.lst vs) ∧ Reps K m H xs vs ∧ f xs = some (ys, d) ∧
    (∀ ws, Grow m m H (upd H a (.lst ws))) ∧ ∀ ws, Reps K m (upd H a (.lst ws)) ys ws → Q d m (mu.set n (.lst ys)) (upd H a (.lst ws)) := by
  unfold modL at hp
  obtain ⟨o, ho, hr⟩ := R.at' hm
  rw [ho] at hp
  cases o with
  | dk _ => exact (show False from hp).elim
  | lst xs =>
    obtain ⟨vs, hH, hr⟩ := hr
    cases e : f xs with
    | none =>
      have hp : Post K W m H (match f xs with
        | some (ys, d) => MP.R.ok d (mu.set n (.lst ys))
        | none => .bad) Q := hp
      rw [e] at hp; exact (show False from hp).elim
    | some p =>
      obtain ⟨ys, d⟩ := p
      have hp : Post K W m H (match f xs with
        | some (ys, d) => MP.R.ok d (mu.set n (.lst ys))
        | none => .bad) Q := hp
      rw [e] at hp
      exact ⟨xs, vs, ys, d, hH, hr, e, fun ws => .write R hm, fun ws hw => hp m _ (.write R hm) (R.write hm ⟨ws, upd_same, hw⟩)⟩
theorem modD_ok {n : Nat} {f : List (Key × D) → Option (List (Key × D) × D)} {a : Addr} {Q : D → Mp → List MO → Hp → Prop} (R : Rel K m mu H) (hm : m.ad[n]? = some a) (hp : Post K W m H (modD n f mu) Q) : ∃ xs vs ys d, H a = some (.dK ((xs.map (·.1)).zip vs)) ∧ Reps K m H (xs.map (·.2)) vs ∧ f xs = some (ys, d) ∧
    (∀ ws, Grow m m H (upd H a (.dK ws))) ∧ ∀ ws, Reps K m (upd H a (.dK ((ys.map (·.1)).zip ws))) (ys.map (·.2)) ws → Q d m (mu.set n (.dk ys)) (upd H a (.dK ((ys.map (·.1)).zip ws))) := by
  unfold modD at hp
  obtain ⟨o, ho, hr⟩ := R.at' hm
  rw [ho] at hp
  cases o with
  | lst _ => exact (show False from hp).elim
  | dk xs =>
    obtain ⟨vs, hH, hr⟩ := hr
    have hp : Post K W m H (match f xs with
      | some (ys, d) => MP.R.ok d (mu.set n (.dk ys))
      | none => .bad) Q := hp
    cases e : f xs with
    | none => rw [e] at hp; exact (show False from hp).elim
    | some p =>
      obtain ⟨ys, d⟩ := p
      rw [e] at hp
      exact ⟨xs, vs, ys, d, hH, hr, e, fun ws => .write R hm, fun ws hw => hp m _ (.write R hm) (R.write hm ⟨ws, upd_same, hw⟩)⟩
end
/-- it is a list -/
def lstK : D → M Unit
  | .fl _ => pure ()
  | .ro _ => pure ()
  | .ref n => fun mu => match mu[n]? with
    | some (.lst _) => .ok () mu
    | _ => .bad
  | _ => bad
def eMeth (k : D → M Unit) (g : D → List D → M D) (ro : Env → M D) (rs : Env → M (List D)) : Env → M D := fun env => ro env >>= fun o => k o >>= fun _ => rs env >>= fun xs => g o xs
structure MethM (K : PySem.W.Frag) (W : Wx) (r : V → List V → Hp → VK → Prop) (g : D → List D → M D) : Prop where
  go : ∀ (o : D) (ds : List D) (v : V) (vs : List V) (m : Mp) (mu : List MO) (H : Hp) (Q : VK), Rel K m mu H → Rep K m H o v → Reps K m H ds vs → Post K W m H (g o ds mu) (fun d m' _ H' => ∀ u, Rep K m' H' d u → Q u H') → r v vs H Q
section
variable {X : Cx} {W : Wx} {e o a b tg iter : Expr} {es : List Expr} {pos apos cpos p : Pos}
theorem lstK_ok {K : PySem.W.Frag} {m : Mp} {H : Hp} {mu : List MO} {d : D} {v : V} {Q : Unit → Mp → List MO → Hp → Prop} (R : Rel K m mu H) (h : Rep K m H d v) (hp : Post K W m H (lstK d mu) Q) : ∃ a vs, v = .ref a ∧ SqL K H a vs ∧ Q () m mu H := by
  cases d <;> simp only [Rep] at h
  case fl ds => obtain ⟨a, vs, rfl, hs, _, _⟩ := h; exact ⟨a, vs, rfl, .of hs, hp m H .refl R⟩
  case ro ds => obtain ⟨a, vs, rfl, hs, _⟩ := h; exact ⟨a, vs, rfl, hs.sqL, hp m H .refl R⟩
  case ref n =>
    obtain ⟨a, rfl, hm⟩ := h
    obtain ⟨o, ho, hr⟩ := R.at' hm
    have e1 : lstK (.ref n) mu = match mu[n]? with
      | some (.lst _) => MP.R.ok () mu
      | _ => .bad := rfl
    rw [e1, ho] at hp
    cases o with
    | dk _ => exact (show False from hp).elim
    | lst xs => obtain ⟨vs, hH, _⟩ := hr; exact ⟨a, vs, rfl, .of hH, hp m H .refl R⟩
  all_goals exact (show False from hp).elim
theorem meth_go {T : String} {k : D → M Unit} {r : V → List V → Hp → VK → Prop} {g : D → List D → M D} {ro : Env → M D} {rs : Env → M (List D)} (c : MethM X.K W r g)
    (hk : ∀ (m : Mp) (mu : List MO) (H : Hp) (d : D) (v : V) (Q : Unit → Mp → List MO → Hp → Prop), Rel X.K m mu H → Rep X.K m H d v → Post X.K W m H (k d mu) Q → tyV X.K T v H ∧ Q () m mu H) : ∀ σ H Q, tE X.K W (eMeth k g ro rs) σ H Q → tBM X.K T r (tE X.K W ro) (tA X.K W rs) σ H Q := fun σ H Q ⟨env, m, mu, hE, hR, hp⟩ =>
  ⟨env, m, mu, hE, hR, (Post.bind hp).mono fun x m1 mu1 H1 g1 R1 hp1 v rv => by
    obtain ⟨ty, hp2⟩ := hk m1 mu1 H1 x v _ R1 rv (Post.bind hp1)
    exact ⟨ty, env, m1, mu1, hE.grow g1, R1, (Post.bind hp2).mono fun xs m2 mu2 H2 g2 R2 hp3 vs rvs => c.go x xs v vs m2 mu2 H2 Q R2 (Rep.grow g2 x v rv) rvs hp3⟩⟩
theorem me_lmeth {id : String} {name : Str} {r : V → List V → Hp → VK → Prop} {g : D → List D → M D} {ro : Env → M D} {rs : Env → M (List D)} (slot : Slot "list" name id) (hty : typeOf (.builtin id) = pure (.type "method_descriptor")) (hm : MtR X id r) (c : MethM X.K W r g) (h : ME X W o ro) (hs : MA X W (e :: es) rs)
    (hbase : attributeBase o name X.env (eval o X.env) = eval o X.env := by rfl)
    (hfew : ((backTo cpos (starEach (e :: es) X.env)).all (fun x => !x.1) && (backToKw cpos (keywordEach [] X.env)).all (fun x => x.1.isSome)
      && decide ((e :: es).length + ([] : List Keyword).length + (if ([] : List Keyword).isEmpty then 0 else 1) < 30)) = true := by rfl)
    (hline : (apos.endLine == cpos.line) = true := by rfl) (hst : starEach (e :: es) X.env = (false, eval e X.env) :: starEach es X.env := by rfl) (hplain : (backTo cpos (starEach es X.env)).any (·.1) = false := by rfl) :
    ME X W (.Call (.Attribute o name apos) (e :: es) [] cpos) (eMeth lstK g ro rs) :=
  ⟨(pe_bm PySem.F.plainAttrs_list slot hty hm h.pe hs.pa hbase hfew hline hst hplain).imp (meth_go c fun m mu H d v Q R hd hp => by
    obtain ⟨a, vs, rfl, hs, q⟩ := lstK_ok R hd hp
    exact ⟨.inl ⟨rfl, vs, hs⟩, q⟩)⟩
theorem me_lmeth0 {id : String} {name : Str} {r : V → List V → Hp → VK → Prop} {g : D → List D → M D} {ro : Env → M D} (slot : Slot "list" name id) (hty : typeOf (.builtin id) = pure (.type "method_descriptor")) (hm : MtR X id r) (c : MethM X.K W r g) (h : ME X W o ro)
    (hbase : attributeBase o name X.env (eval o X.env) = eval o X.env := by rfl) (hline : (apos.endLine == cpos.line) = true := by rfl) :
    ME X W (.Call (.Attribute o name apos) [] [] cpos) (eMeth lstK g ro aNil) :=
  ⟨(pe_bm0 PySem.F.plainAttrs_list slot hty hm h.pe hbase hline).imp fun σ H Q hq => by
    obtain ⟨env, m, mu, hE, hR, hp⟩ := hq
    exact ⟨env, m, mu, hE, hR, (Post.bind hp).mono fun x m1 mu1 H1 g1 R1 hp1 v rv => by
      obtain ⟨a, vs, rfl, hs, hp2⟩ := lstK_ok R1 rv (Post.bind hp1)
      exact ⟨.inl ⟨rfl, vs, hs⟩, c.go x [] _ [] m1 mu1 H1 Q R1 rv (Reps.nil_iff.mpr rfl) (Post.pure (Post.bind hp2) R1)⟩⟩⟩
/-- append -/
def gAppend : D → List D → M D
  | .ref n, [y] => modL n fun xs => if xs.length < sizeLine then some (xs ++ [y], .non) else none
  | _, _ => bad
theorem methM_append : MethM X.K W rAppend gAppend := ⟨fun o ds v vs m mu H Q R ho hr hp => by
  cases o
  case ref n =>
    match ds, hr, hp with
    | [y], hr, hp =>
      obtain ⟨w, rfl, hw⟩ := rep1 hr
      simp only [Rep] at ho
      obtain ⟨a, rfl, hm⟩ := ho
      obtain ⟨xs, us, ys, d, hH, hrs, hf, hg, hq⟩ := modL_ok R hm hp
      by_cases c : xs.length < sizeLine
      · rw [if_pos c] at hf
        cases hf
        refine ⟨a, us, w, rfl, rfl, hH, by rw [← hrs.length]; exact c, ?_⟩
        exact hq (us ++ [w]) ((Reps.grow (hg _) xs us hrs).append (Reps.one (Rep.grow (hg _) y w hw))) .non (by simp only [Rep])
      · rw [if_neg c] at hf; cases hf
    | [], _, hp => exact (show False from hp).elim
    | _ :: _ :: _, _, hp => exact (show False from hp).elim
  all_goals exact (show False from hp).elim⟩
/-- extend -/
def gExtend : D → List D → M D
  | .ref n, [y] => rdM y >>= fun zs => modL n fun xs => if xs.length + zs.length ≤ sizeLine then some (xs ++ zs, .non) else none
  | _, _ => bad
theorem methM_extend : MethM X.K W rExtend gExtend := ⟨fun o ds v vs m mu H Q R ho hr hp => by
  cases o
  case ref n =>
    match ds, hr, hp with
    | [y], hr, hp =>
      obtain ⟨w, rfl, hw⟩ := rep1 hr
      simp only [Rep] at ho
      obtain ⟨a, rfl, hm⟩ := ho
      obtain ⟨b, zs, ws, rfl, hb, hz, _, hp⟩ := rdM_ok R hw (Post.bind hp)
      obtain ⟨xs, us, ys, d, hH, hrs, hf, hg, hq⟩ := modL_ok R hm hp
      by_cases c : xs.length + zs.length ≤ sizeLine
      · rw [if_pos c] at hf
        cases hf
        refine ⟨a, b, us, ws, rfl, rfl, hH, hb, by rw [← hrs.length, ← hz.length]; exact c, ?_⟩
        exact hq (us ++ ws) ((Reps.grow (hg _) xs us hrs).append (Reps.grow (hg _) zs ws hz)) .non (by simp only [Rep])
      · rw [if_neg c] at hf; cases hf
    | [], _, hp => exact (show False from hp).elim
    | _ :: _ :: _, _, hp => exact (show False from hp).elim
  all_goals exact (show False from hp).elim⟩
/-- insert -/
def gInsert : D → List D → M D
  | .ref n, [x, y] => toI x >>= fun i => modL n fun xs => if xs.length < sizeLine ∧ 0 ≤ i ∧ i < 2 ^ 63 then some (xs.take i.toNat ++ [y] ++ xs.drop i.toNat, .non) else none
  | _, _ => bad
def rInsert : V → List V → Hp → VK → Prop := fun x vs H Q => ∃ (l : Addr) (xs : List V) (i : Int) (y : V), x = .ref l ∧ vs = [.int i, y] ∧ H l = some (.lst xs) ∧ xs.length < sizeLine ∧ 0 ≤ i ∧ i < 2 ^ 63 ∧ Q .non (upd H l (.lst (xs.take i.toNat ++ [y] ++ xs.drop i.toNat)))
theorem methM_insert : MethM X.K W rInsert gInsert := ⟨fun o ds v vs m mu H Q R ho hr hp => by
  cases o
  case ref n =>
    match ds, hr, hp with
    | [x, y], hr, hp =>
      obtain ⟨v, w, rfl, hv, hw⟩ := rep2 hr
      simp only [Rep] at ho
      obtain ⟨a, rfl, hm⟩ := ho
      obtain ⟨i, rfl, rfl, hp⟩ := toI_ok R hv (Post.bind hp)
      obtain ⟨xs, us, ys, d, hH, hrs, hf, hg, hq⟩ := modL_ok R hm hp
      by_cases c : xs.length < sizeLine ∧ 0 ≤ i ∧ i < 2 ^ 63
      · rw [if_pos c] at hf
        cases hf
        refine ⟨a, us, i, w, rfl, rfl, hH, by rw [← hrs.length]; exact c.1, c.2.1, c.2.2, ?_⟩
        have hrs' : ∀ ws, Reps X.K m (upd H a (.lst ws)) xs us := fun ws => Reps.grow (hg ws) xs us hrs
        exact hq _ ((((hrs' _).take _).append (Reps.one (Rep.grow (hg _) y w hw))).append ((hrs' _).drop _)) .non (by simp only [Rep])
      · rw [if_neg c] at hf; cases hf
    | [], _, hp => exact (show False from hp).elim
    | [_], _, hp => exact (show False from hp).elim
    | _ :: _ :: _ :: _, _, hp => exact (show False from hp).elim
  all_goals exact (show False from hp).elim⟩
/-- pop(), pop(i) -/
def gPop0 : D → List D → M D
  | .ref n, [] => modL n fun xs => match xs[xs.length - 1]? with
    | some y => some (xs.dropLast, y)
    | none => none
  | _, _ => bad
theorem Reps.dropLast {K : PySem.W.Frag} {m : Mp} {H : Hp} {ds : List D} {vs : List V} (h : Reps K m H ds vs) : Reps K m H ds.dropLast vs.dropLast := by
  rw [List.dropLast_eq_take, List.dropLast_eq_take, h.length]
  exact h.take _
theorem methM_pop0 : MethM X.K W rPop gPop0 := ⟨fun o ds v vs m mu H Q R ho hr hp => by
  cases o
  case ref n =>
    match ds, hr, hp with
    | [], hr, hp =>
      rw [Reps.nil_iff] at hr
      subst hr
      simp only [Rep] at ho
      obtain ⟨a, rfl, hm⟩ := ho
      obtain ⟨xs, us, ys, d, hH, hrs, hf, hg, hq⟩ := modL_ok R hm hp
      cases e : xs[xs.length - 1]? with
      | none => rw [e] at hf; cases hf
      | some y =>
        rw [e] at hf
        cases hf
        obtain ⟨w, hw, rw'⟩ := hrs.get e
        refine ⟨a, us, w, rfl, rfl, hH, by rw [← hrs.length]; exact hw, ?_⟩
        exact hq _ (Reps.dropLast (Reps.grow (hg _) xs us hrs)) w (Rep.grow (hg _) _ w rw')
    | _ :: _, _, hp => exact (show False from hp).elim
  all_goals exact (show False from hp).elim⟩
def gPopAt : D → List D → M D
  | .ref n, [x] => toI x >>= fun i => modL n fun xs => if -(2 ^ 63) ≤ i ∧ i < 2 ^ 63 then match seqIndex? i xs.length with
    | some k => match xs[k]? with
      | some y => some (xs.eraseIdx k, y)
      | none => none
    | none => none else none
  | _, _ => bad
theorem Reps.eraseIdx {K : PySem.W.Frag} {m : Mp} {H : Hp} : ∀ {ds : List D} {vs : List V} (i : Nat), Reps K m H ds vs → Reps K m H (ds.eraseIdx i) (vs.eraseIdx i)
  | [], vs, i, h => by rw [Reps.nil_iff] at h; subst h; exact Reps.nil_iff.mpr rfl
  | d :: ds, vs, i, h => by
    obtain ⟨v, r, rfl, h1, h2⟩ := Reps.cons_iff.mp h
    cases i with
    | zero => exact h2
    | succ i => exact Reps.cons_iff.mpr ⟨v, _, rfl, h1, Reps.eraseIdx i h2⟩
theorem methM_popAt : MethM X.K W rPopAt gPopAt := ⟨fun o ds v vs m mu H Q R ho hr hp => by
  cases o
  case ref n =>
    match ds, hr, hp with
    | [y], hr, hp =>
      obtain ⟨w, rfl, hw⟩ := rep1 hr
      simp only [Rep] at ho
      obtain ⟨a, rfl, hm⟩ := ho
      obtain ⟨i, rfl, rfl, hp⟩ := toI_ok R hw (Post.bind hp)
      obtain ⟨xs, us, ys, d, hH, hrs, hf, hg, hq⟩ := modL_ok R hm hp
      by_cases c : -(2 ^ 63) ≤ i ∧ i < 2 ^ 63
      · rw [if_pos c] at hf
        cases ek : seqIndex? i xs.length with
        | none => rw [ek] at hf; cases hf
        | some k =>
          rw [ek] at hf
          cases e : xs[k]? with
          | none => simp only [e] at hf; cases hf
          | some y =>
            simp only [e] at hf
            cases hf
            obtain ⟨w, hw, rw'⟩ := hrs.get e
            refine ⟨a, us, i, k, w, rfl, rfl, hH, c.1, c.2, by rw [← hrs.length]; exact ek, hw, ?_⟩
            exact hq _ (Reps.eraseIdx k (Reps.grow (hg _) xs us hrs)) w (Rep.grow (hg _) _ w rw')
      · rw [if_neg c] at hf; cases hf
    | [], _, hp => exact (show False from hp).elim
    | _ :: _ :: _, _, hp => exact (show False from hp).elim
  all_goals exact (show False from hp).elim⟩
/-- xs[i] = e -/
def setL (o i v : D) : M D := toR o >>= fun n => toI i >>= fun k => modL n fun xs => match ixN xs.length k with
  | some j => some (xs.set j v, .non)
  | none => none
def sSub (ro ri rv : Env → M D) : Env → M Fl := fun env => rv env >>= fun v => ro env >>= fun o => ri env >>= fun i => setL o i v >>= fun _ => pure (.nx env)
theorem ms_sub {ro ri rv : Env → M D} {sp : Pos} (ho : ME X W o ro) (hi : ME X W a ri) (hv : ME X W e rv)
    (ha : ∀ v, assign (.Subscript o a sp) X.env v = (do
      let ov ← holding [v] (eval o X.env)
      let iv ← holding [v, ov] (eval a X.env)
      standAt sp
      holding [v, ov, iv] (setItem ov iv v)
      release [v, ov, iv] []) := by intro _; rfl)
    (hs : swapsWithSole [.Subscript o a sp] e pos.line X.env = pure false := by rfl) (hw : swappedStores [.Subscript o a sp] e X.env = pure none := by rfl) (h1 : (assignEach [.Subscript o a sp] X.env).map (·.2) = [assign (.Subscript o a sp) X.env] := by rfl) :
    MS X W (.Assign [.Subscript o a sp] e pos) (sSub ro ri rv) := ⟨(ps_asg hv.pe (pg_sub ho.pe hi.pe set_list ha) hs hw h1).imp fun D σ H ⟨env, m, mu, hE, hR, hp⟩ =>
  ⟨env, m, mu, hE, hR, (Post.bind hp).mono fun v m1 mu1 H1 g1 R1 hp vv rv => ⟨env, m1, mu1, hE.grow g1, R1, (Post.bind hp).mono fun o m2 mu2 H2 g2 R2 hp ov ro => ⟨env, m2, mu2, (hE.grow g1).grow g2, R2, (Post.bind hp).mono fun i m3 mu3 H3 g3 R3 hp iv ri => by
    have hp := Post.bind hp
    unfold setL at hp
    obtain ⟨n, a, rfl, rfl, hm, hp⟩ := toR_ok R3 (Rep.grow g3 o ov ro) (Post.bind hp)
    obtain ⟨k, rfl, rfl, hp⟩ := toI_ok R3 ri (Post.bind hp)
    obtain ⟨xs, us, ys, d, hH, hrs, hf, hg, hq⟩ := modL_ok R3 hm hp
    cases ej : ixN xs.length k with
    | none => rw [ej] at hf; cases hf
    | some j =>
      rw [ej] at hf
      cases hf
      refine ⟨a, us, k, j, rfl, rfl, hH, by rw [← hrs.length]; exact ej, ?_⟩
      have gg := hg (us.set j vv)
      have q := hq (us.set j vv) (Reps.set (Rep.grow gg v vv (Rep.grow g3 v vv (Rep.grow g2 v vv rv))) j (Reps.grow gg xs us hrs))
      exact (Post.pure q (R3.write hm ⟨_, upd_same, Reps.set (Rep.grow gg v vv (Rep.grow g3 v vv (Rep.grow g2 v vv rv))) j (Reps.grow gg xs us hrs)⟩)) σ (((hE.grow g1).grow g2).grow g3 |>.grow gg)⟩⟩⟩⟩
end
end MP
namespace MP
open PySem L2 PyProof.Rows
/-! ### list comprehensions -/
/-- no exception -/
def noX {α : Type} (c : M α) : M α := fun mu => match c mu with
  | .exc _ _ => .bad
  | r => r
abbrev W0 : Wx := fun _ _ _ => False
theorem noX_post {K : PySem.W.Frag} {W : Wx} {m : Mp} {H : Hp} {mu : List MO} {α : Type} {c : M α} {Q : α → Mp → List MO → Hp → Prop} (h : Post K W m H (noX c mu) Q) : Post K W0 m H (c mu) Q := by
  have e : noX c mu = match c mu with
    | .exc _ _ => .bad
    | r => r := rfl
  rw [e] at h
  cases hc : c mu with
  | ok a mu' => rw [hc] at h; exact h
  | exc x mu' => rw [hc] at h; exact (show False from h).elim
  | bad => rw [hc] at h; exact h
noncomputable def loopC (asg : D → Env → M Env) (t : Env → M Bool) (r : Env → M D) (g : List (Nat × List D)) : List D → Env → M (List D)
  | [], _ => chk g >>= fun _ => pure []
  | d :: ds, env => chk g >>= fun _ => asg d env >>= fun env1 => t env1 >>= fun b => if b = true then (r env1 >>= fun x => loopC asg t r g ds env >>= fun xs => pure (x :: xs)) else loopC asg t r g ds env
/-- [elt for .. in .. if ..]; vs: the slots of the comprehension's own names -/
noncomputable def fComp (w : Env → M Wk) (asg : D → Env → M Env) (t : Env → M Bool) (r : Env → M D) (vs : List Nat) : Env → M (List D) := fun env => w env >>= fun p => noX (loopC asg t r p.2 p.1 (wipeE env vs))
def tYesM : Env → M Bool := fun _ => pure true
structure MTs (X : Cx) (W : Wx) (ifs : List Expr) (r : Env → M Bool) : Prop where
  pt : PTs X ifs (tT X.K W r)
theorem _root_.L2.PTs.imp {X : Cx} {ifs : List Expr} {t t' : TT} (h : PTs X ifs t) (i : ∀ σ H Q, t' σ H Q → t σ H Q) : PTs X ifs t' := ⟨fun pins s σ H Q I q => h.run pins s σ H Q I (i σ H Q q)⟩
section
variable {X : Cx} {W : Wx} {e o a b tg iter elt : Expr} {es ifs : List Expr} {pos apos cpos p : Pos}
theorem mts_nil : MTs X W [] tYesM := ⟨pts_nil.imp fun σ H Q ⟨env, m, mu, hE, hR, hp⟩ => Post.pure hp hR⟩
theorem mts_one {r : Env → M Bool} (h : MT X W e r) : MTs X W [e] r := ⟨pts_one h.pt⟩
theorem wipe_off {vs : List Nat} {σ' σ : L2.St} {l : List Nat} (h : Off l σ' (L2.wipe σ vs)) (hl : ∀ i ∈ l, i ∈ vs) : L2.wipe σ' vs = L2.wipe σ vs := by
  have len : σ'.length = σ.length := by rw [h.1, L2.wipe_length]
  apply List.ext_getElem?
  intro i
  by_cases hi : i ∈ vs
  · have none_at : ∀ (τ : L2.St), τ.length = σ.length → (L2.wipe τ vs)[i]? = if i < σ.length then some none else none := by
      intro τ ht
      clear h hl len
      induction vs with
      | nil => cases hi
      | cons j vs ih =>
        show ((L2.wipe τ vs).set j none)[i]? = _
        by_cases hj : j = i
        · subst hj
          by_cases hlt : j < σ.length
          · rw [List.getElem?_set_self (by rw [L2.wipe_length, ht]; exact hlt), if_pos hlt]
          · rw [List.getElem?_eq_none (by rw [List.length_set, L2.wipe_length, ht]; omega), if_neg hlt]
        · rw [List.getElem?_set_ne hj]
          exact ih (by rcases List.mem_cons.mp hi with z | z; exact absurd z.symm hj; exact z)
    rw [none_at σ' len, none_at σ rfl]
  · rw [L2wipe_get hi, h.2 i (fun z => hi (hl i z))]
/-- the comprehension's list, for its reading -/
theorem comp_go {wi : TI} {vs l : List Nat} {w : Env → M Wk} {asg : D → Env → M Env} {t : Env → M Bool} {r : Env → M D} (hl : ∀ i ∈ l, i ∈ vs) (hwi : wi = tI X.K W w) : ∀ σ H Q, tF X.K W (fComp w asg t r vs) σ H Q → tLc wi (tG X.K W0 l asg) (tT X.K W0 t) (tE X.K W0 r) vs σ H Q := by
  subst hwi
  rintro σ H Q ⟨env, m, mu, hE, hR, hp⟩
  refine ⟨env, m, mu, hE, hR, (Post.bind hp).mono fun p m1 mu1 H1 g1 R1 hp0 hz J ok => ?_⟩
  have hp0 := noX_post hp0
  intro Dd hDn
  have hdead : ∀ b o, H1 b = some o → b ≠ Dd := fun b o e z => by rw [z, hDn] at e; cases e
  have hD0 : H Dd = none := g1.none_of hDn
  refine ⟨fun i k H2 => ∃ rest acc vs2 m2 mu2, k = rest.length ∧ p.1.drop i = rest ∧ acc.length ≤ i ∧ H2 Dd = some (.lst vs2) ∧ Dd ∈ m2.no ∧ Dd ∉ m2.ad ∧ Reps X.K m2 H2 acc vs2 ∧ Rel X.K m2 mu2 H2 ∧ RepE X.K m2 H2 (wipeE env vs) (L2.wipe σ vs) ∧ Grow m1 m2 H1 H2 ∧
      Post X.K W0 m1 H1 (loopC asg t r p.2 rest (wipeE env vs) mu2) fun xs m' mu' H' => NewL X.K H (acc ++ xs) m' mu' H' Q, ⟨_, p.1, [], [], m1.shut Dd, mu1, rfl, rfl, Nat.le_refl _, upd_same, by simp [Mp.shut], ?_, Reps.nil_iff.mpr rfl, ?_, ?_, ?_, ?_⟩, ?_⟩
  · exact (R1.free hDn).1
  · have g : Grow m1 m1 H1 (upd H1 Dd (.lst [])) := .laid hDn
    have kp : Keep m1 (m1.shut Dd) H1 (upd H1 Dd (.lst [])) := ⟨fun _ _ h => h, fun a o h n => ⟨by rw [upd_ne (hdead a o h)]; exact h, n.1, fun z => by
      rcases List.mem_append.mp z with z | z
      · exact n.2 z
      · exact hdead a o h (List.mem_singleton.mp z)⟩, g.tups, g.frzs⟩
    refine ⟨R1.len, R1.nd, fun a ha => ?_, fun a ha z => ?_, fun n o a h1 h2 => (R1.obj n o a h1 h2).keep kp fun u q => by rw [upd_ne (hdead a u q)]; exact q⟩
    · rcases List.mem_append.mp ha with z | z
      · exact g.trk a _ (R1.nos a z).choose_spec
      · rw [List.mem_singleton.mp z]; exact ⟨_, upd_same⟩
    · rcases List.mem_append.mp z with z | z
      · exact R1.dj a ha z
      · exact (R1.free hDn).1 (by rw [← List.mem_singleton.mp z]; exact ha)
  · have g : Grow m1 m1 H1 (upd H1 Dd (.lst [])) := .laid hDn
    have kp : Keep m1 (m1.shut Dd) H1 (upd H1 Dd (.lst [])) := ⟨fun _ _ h => h, fun a o h n => ⟨by rw [upd_ne (hdead a o h)]; exact h, n.1, fun z => by
      rcases List.mem_append.mp z with z | z
      · exact n.2 z
      · exact hdead a o h (List.mem_singleton.mp z)⟩, g.tups, g.frzs⟩
    exact ((hE.grow g1).wipe vs).keep kp
  · have g : Grow m1 m1 H1 (upd H1 Dd (.lst [])) := .laid hDn
    exact ⟨⟨[], [Dd], by simp [Mp.shut], rfl, by simp, fun a ha => by rw [List.mem_singleton.mp ha]; exact hDn⟩, g.oth, g.tups, g.frzs, g.trk⟩
  · exact hp0
  rintro i k H2 ⟨rest, acc, vs2, m2, mu2, rfl, hd, ha, hH2, hno, had, hacc, R2, hE2, g2, hp2⟩
  cases rest with
  | nil =>
    have e0 : loopC asg t r p.2 [] (wipeE env vs) mu2 = M.bind (chk p.2) (fun _ => pure []) mu2 := rfl
    rw [e0] at hp2
    unfold M.bind at hp2
    have hch : ∀ q ∈ p.2, mu2[q.1]? = some (.lst q.2) := by
      unfold chk at hp2
      by_cases z : ∀ q ∈ p.2, mu2[q.1]? = some (.lst q.2)
      · exact z
      · rw [if_neg z] at hp2; exact (show False from hp2).elim
    have ec : chk p.2 mu2 = .ok () mu2 := by unfold chk; rw [if_pos hch]
    rw [ec] at hp2
    refine .inl ⟨((ok m2 mu2 H2 g2 R2 hch).1 i) (by rw [List.drop_eq_nil_iff] at hd; exact hd), ?_⟩
    obtain ⟨l', k', e1, e2, hl', hk'⟩ := g2.ext
    have n1 : Dd ∉ m1.no := (R1.free hDn).2
    have kp : ∀ m3 : Mp, (∀ n a, m2.ad[n]? = some a → m3.ad[n]? = some a) → (∀ a, m2.Out a → m3.Out a) → Keep m2 m3 H2 H2 := fun m3 h1 h2 => ⟨h1, fun a o h n => ⟨h, h2 a n⟩, fun _ _ h => h, fun _ _ _ h => h⟩
    have k3 : Keep m2 ⟨m2.ad, m1.no⟩ H2 H2 := kp _ (fun _ _ h => h) fun a n => ⟨n.1, fun z => n.2 (by rw [e2]; exact List.mem_append_left _ z)⟩
    have g3 : Grow m1 ⟨m2.ad, m1.no⟩ H1 H2 := ⟨⟨l', [], e1, by simp, hl', by simp⟩, g2.oth, g2.tups, g2.frzs, g2.trk⟩
    have R3 : Rel X.K ⟨m2.ad, m1.no⟩ mu2 H2 := ⟨R2.len, R2.nd, fun a z => R2.nos a (by rw [e2]; exact List.mem_append_left _ z), fun a ha z => R2.dj a ha (by rw [e2]; exact List.mem_append_left _ z), fun n o a h1 h2 => (R2.obj n o a h1 h2).keep k3 fun _ q => q⟩
    have k4 : Keep m2 ((⟨m2.ad, m1.no⟩ : Mp).add Dd) H2 H2 := kp _ (fun n a h => by
      show (m2.ad ++ [Dd])[n]? = some a
      rw [List.getElem?_append_left (List.getElem?_eq_some_iff.mp h).1]; exact h) fun a n => ⟨fun z => by
        rcases List.mem_append.mp z with z | z
        · exact n.1 z
        · exact n.2 (by rw [List.mem_singleton.mp z]; exact hno), fun z => n.2 (by rw [e2]; exact List.mem_append_left _ z)⟩
    have q := hp2 ⟨m2.ad, m1.no⟩ H2 g3 R3 Dd vs2 hD0 hH2 ⟨had, n1⟩ (by rw [List.append_nil]; exact Reps.keep k3 acc vs2 hacc)
    refine q ?_
    rw [List.append_nil]
    refine ⟨by show (m2.ad ++ [Dd]).length = _; rw [List.length_append, List.length_append, R2.len]; rfl, ?_, fun a z => R3.nos a z, fun a ha z => ?_, fun n ob b h1 h2 => ?_⟩
    · show (m2.ad ++ [Dd]).Nodup
      rw [List.nodup_append]
      refine ⟨R2.nd, by simp, fun x hx y hy => ?_⟩
      rw [List.mem_singleton.mp hy]
      rintro rfl
      exact had hx
    · rcases List.mem_append.mp (show a ∈ m2.ad ++ [Dd] from ha) with z' | z'
      · exact R3.dj a z' z
      · exact n1 (by rw [← List.mem_singleton.mp z']; exact z)
    · have h2 : (m2.ad ++ [Dd])[n]? = some b := h2
      by_cases h : n < mu2.length
      · rw [List.getElem?_append_left h] at h1
        rw [List.getElem?_append_left (by rw [R2.len]; exact h)] at h2
        exact (R2.obj n ob b h1 h2).keep k4 fun _ q => q
      · by_cases hl : n = mu2.length
        · subst hl
          rw [List.getElem?_append_right (Nat.le_refl _), Nat.sub_self] at h1
          rw [List.getElem?_append_right (by rw [R2.len]; exact Nat.le_refl _), ← R2.len, Nat.sub_self] at h2
          cases h1
          cases h2
          exact ⟨vs2, hH2, Reps.keep k4 acc vs2 hacc⟩
        · rw [List.getElem?_eq_none (by rw [List.length_append]; simp only [List.length_cons, List.length_nil]; omega)] at h1
          cases h1
  | cons d ds =>
    have e0 : loopC asg t r p.2 (d :: ds) (wipeE env vs) mu2 = M.bind (chk p.2) (fun _ => M.bind (asg d (wipeE env vs)) fun env1 => M.bind (t env1) fun b => if b = true then (r env1 >>= fun x => loopC asg t r p.2 ds (wipeE env vs) >>= fun xs => pure (x :: xs)) else loopC asg t r p.2 ds (wipeE env vs)) mu2 := rfl
    rw [e0] at hp2
    unfold M.bind at hp2
    have hch : ∀ q ∈ p.2, mu2[q.1]? = some (.lst q.2) := by
      unfold chk at hp2
      by_cases z : ∀ q ∈ p.2, mu2[q.1]? = some (.lst q.2)
      · exact z
      · rw [if_neg z] at hp2; exact (show False from hp2).elim
    have ec : chk p.2 mu2 = .ok () mu2 := by unfold chk; rw [if_pos hch]
    rw [ec] at hp2
    dsimp only at hp2
    have hdi : p.1[i]? = some d := by
      have e : (p.1.drop i)[0]? = some d := by rw [hd]; rfl
      rw [List.getElem?_drop] at e
      simpa using e
    have hds : p.1.drop (i + 1) = ds := by
      have e := congrArg List.tail hd
      rw [List.tail_drop] at e
      exact e
    have hil : i < p.1.length := (List.getElem?_eq_some_iff.mp hdi).1
    obtain ⟨go, yl⟩ := (ok m2 mu2 H2 g2 R2 hch).2 i d hdi
    -- the turn's end: nothing is added, or a datum
    have fin : ∀ (acc' : List D) (vs' : List V) (m3 : Mp) (mu3 : List MO) (H3 : Hp), acc'.length ≤ i + 1 → H3 Dd = some (.lst vs') → Dd ∈ m3.no → Dd ∉ m3.ad → Reps X.K m3 H3 acc' vs' → Rel X.K m3 mu3 H3 → RepE X.K m3 H3 (wipeE env vs) (L2.wipe σ vs) → Grow m1 m3 H1 H3 →
        (Post X.K W0 m1 H1 (loopC asg t r p.2 ds (wipeE env vs) mu3) fun xs m' mu' H' => NewL X.K H (acc' ++ xs) m' mu' H' Q) → ∃ m', m' < (d :: ds).length ∧ ∃ rest acc vs2 m2 mu2, m' = rest.length ∧ p.1.drop (i + 1) = rest ∧ acc.length ≤ i + 1 ∧ H3 Dd = some (.lst vs2) ∧ Dd ∈ m2.no ∧ Dd ∉ m2.ad ∧ Reps X.K m2 H3 acc vs2 ∧ Rel X.K m2 mu2 H3 ∧ RepE X.K m2 H3 (wipeE env vs) (L2.wipe σ vs) ∧ Grow m1 m2 H1 H3 ∧
      Post X.K W0 m1 H1 (loopC asg t r p.2 rest (wipeE env vs) mu2) fun xs m' mu' H' => NewL X.K H (acc ++ xs) m' mu' H' Q := fun acc' vs' m3 mu3 H3 a1 a2 a3 a4 a5 a6 a7 a8 a9 =>
      ⟨ds.length, Nat.lt_succ_self _, ds, acc', vs', m3, mu3, rfl, hds, a1, a2, a3, a4, a5, a6, a7, a8, a9⟩
    refine .inr ⟨go, fun H3 => ∃ m', m' < (d :: ds).length ∧ ∃ rest acc vs2 m2 mu2, m' = rest.length ∧ p.1.drop (i + 1) = rest ∧ acc.length ≤ i + 1 ∧ H3 Dd = some (.lst vs2) ∧ Dd ∈ m2.no ∧ Dd ∉ m2.ad ∧ Reps X.K m2 H3 acc vs2 ∧ Rel X.K m2 mu2 H3 ∧ RepE X.K m2 H3 (wipeE env vs) (L2.wipe σ vs) ∧ Grow m1 m2 H1 H3 ∧
      Post X.K W0 m1 H1 (loopC asg t r p.2 rest (wipeE env vs) mu2) fun xs m' mu' H' => NewL X.K H (acc ++ xs) m' mu' H' Q, fun H3 h => h, fun x H3 y => ?_⟩
    obtain ⟨gy, Ry, rx⟩ := yl x H3 y
    refine ⟨d, wipeE env vs, m2, mu2, hE2.grow gy, Ry, rx, ?_⟩
    have stay : ∀ (m3 : Mp) (H4 : Hp), Grow m2 m3 H2 H4 → H4 Dd = some (.lst vs2) ∧ Dd ∈ m3.no ∧ Dd ∉ m3.ad := fun m3 H4 g => by
      obtain ⟨l', k', e1, e2, _, _⟩ := g.ext
      exact ⟨g.oth Dd _ hH2 had, by rw [e2]; exact List.mem_append_left _ hno, g.notin hH2 had⟩
    cases ha1 : asg d (wipeE env vs) mu2 with
    | bad => rw [ha1] at hp2; exact (show False from hp2).elim
    | exc ex mu4 => rw [ha1] at hp2; exact fun m4 H4 g4 R4 => hp2 m4 H4 ((g2.trans gy).trans g4) R4
    | ok env1 mu4 =>
      rw [ha1] at hp2
      dsimp only at hp2
      intro m4 H4 g4 R4 σ2 hE4 off
      refine ⟨wipe_off off hl, env1, m4, mu4, hE4, R4, ?_⟩
      cases ht1 : t env1 mu4 with
      | bad => rw [ht1] at hp2; exact (show False from hp2).elim
      | exc ex mu5 => rw [ht1] at hp2; exact fun m5 H5 g5 R5 => hp2 m5 H5 (((g2.trans gy).trans g4).trans g5) R5
      | ok b mu5 =>
        rw [ht1] at hp2
        dsimp only at hp2
        intro m5 H5 g5 R5
        have g25 : Grow m2 m5 H2 H5 := (gy.trans g4).trans g5
        cases b with
        | false =>
          simp only [Bool.false_eq_true, if_false] at hp2 ⊢
          obtain ⟨s1, s2, s3⟩ := stay m5 H5 g25
          exact fin acc vs2 m5 mu5 H5 (Nat.le_succ_of_le ha) s1 s2 s3 (Reps.grow g25 acc vs2 hacc) R5 (hE2.grow g25) (g2.trans g25) hp2
        | true =>
          simp only [if_true] at hp2 ⊢
          refine ⟨env1, m5, mu5, hE4.grow g5, R5, ?_⟩
          have hp2 : Post X.K W0 m1 H1 (M.bind (r env1) (fun x => loopC asg t r p.2 ds (wipeE env vs) >>= fun xs => pure (x :: xs)) mu5) fun xs m' mu' H' => NewL X.K H (acc ++ xs) m' mu' H' Q := hp2
          unfold M.bind at hp2
          cases hr1 : r env1 mu5 with
          | bad => rw [hr1] at hp2; exact (show False from hp2).elim
          | exc ex mu6 => rw [hr1] at hp2; exact fun m6 H6 g6 R6 => hp2 m6 H6 ((g2.trans g25).trans g6) R6
          | ok yd mu6 =>
            rw [hr1] at hp2
            dsimp only at hp2
            intro m6 H6 g6 R6 v rv
            have g26 : Grow m2 m6 H2 H6 := g25.trans g6
            obtain ⟨s1, s2, s3⟩ := stay m6 H6 g26
            have hlen := hacc.length
            refine ⟨vs2, s1, by omega, ?_⟩
            have nD : ∀ b o, H6 b = some o → m6.Out b → b ≠ Dd := fun b o _ n z => n.2 (by rw [z]; exact s2)
            have kp : Keep m6 m6 H6 (upd H6 Dd (.lst (vs2 ++ [v]))) := ⟨fun _ _ h => h, fun a o h n => ⟨by rw [upd_ne (nD a o h n)]; exact h, n⟩, fun a xs h => by rw [upd_ne (fun z => by rw [z, s1] at h; cases h)]; exact h, fun a u xs h => by rw [upd_ne (fun z => by rw [z, s1] at h; cases h)]; exact h⟩
            have g6f : Grow m1 m6 H1 (upd H6 Dd (.lst (vs2 ++ [v]))) := by
              have g16 := g2.trans g26
              refine ⟨g16.ext, fun a o h n => ?_, fun a xs h => ?_, fun a o u h => ?_, fun a o h => ?_⟩
              · rw [upd_ne (hdead a o h)]; exact g16.oth a o h n
              · rw [upd_ne (hdead a _ h)]; exact g16.tups a xs h
              · rw [upd_ne (hdead a _ h)]; exact g16.frzs a o u h
              · rw [upd_ne (hdead a o h)]; exact g16.trk a o h
            refine fin (acc ++ [yd]) (vs2 ++ [v]) m6 mu6 _ (by rw [List.length_append]; simp only [List.length_cons, List.length_nil]; omega) upd_same s2 s3 ((Reps.keep kp acc vs2 (Reps.grow g26 acc vs2 hacc)).append (Reps.one (Rep.keep kp yd v rv))) ?_ ((hE2.grow g26).keep kp) g6f ?_
            · refine ⟨R6.len, R6.nd, fun a z => ?_, R6.dj, fun n ob a h1 h2 => (R6.obj n ob a h1 h2).keep kp fun u q => ?_⟩
              · by_cases za : a = Dd
                · subst za; exact ⟨_, upd_same⟩
                · rw [upd_ne za]; exact R6.nos a z
              · rw [upd_ne (fun z => s3 (by rw [← z]; exact List.mem_of_getElem? h2))]; exact q
            · refine (Post.bind hp2).mono fun xs m' mu' H' _ R' q => ?_
              have q2 := Post.pure q R'
              rw [show acc ++ [yd] ++ xs = acc ++ yd :: xs by simp]
              exact q2
theorem mf_comp {scope : Scope} {own : List (Str × Nat)} {w : Env → M Wk} {asg : D → Env → M Env} {t : Env → M Bool} {r : Env → M D} {l : List Nat} (hc : X.calm = true) (hN : X.N.Nodup) (hi : MI X W tg iter w) (ok : BlkOk X.N X.env.scope scope own) (hl : ∀ i ∈ l, i ∈ own.map (·.2))
    (hg : ∀ (s : Shared) (H : Hp) (C : Addr) (cl : List (Str × Addr)) (fp : List Addr), MG (X.blk s H scope (compEnvC scope cl C X.env) fp) W0 tg l asg) (ht : ∀ (s : Shared) (H : Hp) (C : Addr) (cl : List (Str × Addr)) (fp : List Addr), MTs (X.blk s H scope (compEnvC scope cl C X.env) fp) W0 ifs t)
    (he : ∀ (s : Shared) (H : Hp) (C : Addr) (cl : List (Str × Addr)) (fp : List Addr), ME (X.blk s H scope (compEnvC scope cl C X.env) fp) W0 elt r) (hs : ∀ x, foldedSetIterable iter X.env x = pure x := by intro _; rfl) :
    MF X W (.ListComp elt [⟨tg, iter, ifs, 0⟩] scope pos) (fComp w asg t r (own.map (·.2))) :=
  ⟨(pe_lc hc hN hi.pi ok (fun s H C cl fp => (hg s H C cl fp).pg) (fun s H C cl fp => (ht s H C cl fp).pt) (fun s H C cl fp => (he s H C cl fp).pe) hs).imp (comp_go hl rfl)⟩
/-- name = [..], by what becomes of the new list -/
theorem tAsg_imp {te te' : TE} {i : Nat} (h : ∀ σ H Q, te' σ H Q → te σ H Q) : ∀ D σ H, tAsg te' (gName i) D σ H → tAsg te (gName i) D σ H := fun D σ H q => h σ H _ q
theorem ms_setC {i : Nat} {y : Str} {py spos : Pos} {scope : Scope} {own : List (Str × Nat)} {w : Env → M Wk} {asg : D → Env → M Env} {t : Env → M Bool} {r : Env → M D} {l : List Nat} {rr : Env → M D} (hc : X.calm = true) (hN : X.N.Nodup) (hy : X.N[i]? = some y) (hyl : X.env.scope.names.lookup y = some .local)
    (hsw : swapsWith (.ListComp elt [⟨tg, iter, ifs, 0⟩] scope pos) (some (.Name y py)) spos.line X.env = pure true) (hi : MI X W tg iter w) (ok : BlkOk X.N X.env.scope scope own) (hl : ∀ i ∈ l, i ∈ own.map (·.2))
    (hg : ∀ (s : Shared) (H : Hp) (C : Addr) (cl : List (Str × Addr)) (fp : List Addr), MG (X.blk s H scope (compEnvC scope cl C X.env) fp) W0 tg l asg) (ht : ∀ (s : Shared) (H : Hp) (C : Addr) (cl : List (Str × Addr)) (fp : List Addr), MTs (X.blk s H scope (compEnvC scope cl C X.env) fp) W0 ifs t)
    (he : ∀ (s : Shared) (H : Hp) (C : Addr) (cl : List (Str × Addr)) (fp : List Addr), ME (X.blk s H scope (compEnvC scope cl C X.env) fp) W0 elt r)
    (hrr : ∀ σ H Q, tE X.K W rr σ H Q → tF X.K W (fComp w asg t r (own.map (·.2))) σ H Q) (hs : ∀ x, foldedSetIterable iter X.env x = pure x := by intro _; rfl) :
    MS X W (.Assign [.Name y py] (.ListComp elt [⟨tg, iter, ifs, 0⟩] scope pos) spos) (sSet i rr) :=
  ⟨(ps_setLc hc hN hy hyl hsw hi.pi ok (fun s H C cl fp => (hg s H C cl fp).pg) (fun s H C cl fp => (ht s H C cl fp).pt) (fun s H C cl fp => (he s H C cl fp).pe) hs).imp fun D σ H q => comp_go hl rfl σ H _ (hrr σ H _ (set_go D σ H q))⟩
theorem fl_go {r : Env → M (List D)} : ∀ σ H Q, tE X.K W (eFl r) σ H Q → tF X.K W r σ H Q := fun σ H Q ⟨env, m, mu, hE, hR, hp⟩ =>
  ⟨env, m, mu, hE, hR, (Post.bind hp).mono fun xs m1 mu1 H1 g1 R1 hp a vs h0 h1 hn hr _ => Post.pure hp R1 _ (by simp only [Rep]; exact ⟨a, vs, rfl, h1, hn, hr⟩)⟩
theorem new_go {r : Env → M (List D)} : ∀ σ H Q, tE X.K W (eNew r) σ H Q → tF X.K W r σ H Q := fun σ H Q ⟨env, m, mu, hE, hR, hp⟩ => by
  refine ⟨env, m, mu, hE, hR, ?_⟩
  have e0 : eNew r env mu = M.bind (r env) (fun xs => alloc (.lst xs)) mu := rfl
  rw [e0] at hp
  unfold M.bind at hp
  cases hr : r env mu with
  | ok xs mu1 =>
    rw [hr] at hp
    intro m1 H1 g1 R1 a vs h0 h1 hn hrs ha
    have q := hp (m1.add a) H1 (g1.adopt h0) ha (.ref a)
    exact q (by simp only [Rep]; exact ⟨a, rfl, add_get R1⟩)
  | exc x mu1 => rw [hr] at hp; exact hp
  | bad => rw [hr] at hp; exact hp
end
end MP
namespace MP
open PySem L2 PyProof.Rows
/-! ### what a def promises -/
/-- an exception as it flies -/
def XRep (mg : Str → Option Value) (K : PySem.W.Frag) (m : Mp) (H : Hp) (x : Xn) (cls : Value) (d : Option Addr) : Prop := mg x.cls = some cls ∧ match d with
  | none => x.fs = []
  | some p => ∃ gs : List (Str × V), H p = some (.xd gs) ∧ gs.map (·.1) = x.fs.map (·.1) ∧ Reps K m H (x.fs.map (·.2)) (gs.map (·.2))
def WE (mg : Str → Option Value) (K : PySem.W.Frag) (E : XK) : Wx := fun x m H => ∀ cls d, XRep mg K m H x cls d → E cls d H
def sp (K : PySem.W.Frag) (mg : Str → Option Value) (n : Nat) (den : List D → M Rv) : Sp := fun vs H Q E => vs.length = n ∧ ∃ ds m mu, Reps K m H ds vs ∧ Rel K m mu H ∧ Post K (WE mg K E) m H (den ds mu) fun rv m' mu' H' => RvQ K H rv m' mu' H' Q
def startE (n : Nat) (ds : List D) : Env := ds.map some ++ List.replicate (n - ds.length) none
/-- a body run at its arguments -/
def runB (n : Nat) (r : Env → M Fl) (ds : List D) : M Rv := fun mu => match r (startE n ds) mu with
  | .ok (.rt rv) mu' => .ok rv mu'
  | .ok (.nx _) mu' => .ok (.vl .non) mu'
  | .ok _ _ => .bad
  | .exc x mu' => .exc x mu'
  | .bad => .bad
/-- a datum out of what comes back -/
def rvD : Rv → D
  | .vl d => d
  | .fr ds => .fl ds
section
variable {P : Program} {w : World} {K : PySem.W.Frag} {mg : Str → Option Value} {base : Heap}
theorem startE_rep {m : Mp} {H : Hp} {ds : List D} {vs : List V} {N : List Str} (h : Reps K m H ds vs) : RepE K m H (startE N.length ds) (L2.start N vs) := by
  refine ⟨by unfold startE L2.start; rw [List.length_append, List.length_append, List.length_map, List.length_map, List.length_replicate, List.length_replicate, h.length], fun i d e => ?_⟩
  unfold startE at e
  by_cases hi : i < ds.length
  · rw [List.getElem?_append_left (by rw [List.length_map]; exact hi), List.getElem?_map] at e
    obtain ⟨x, hx, ex⟩ := Option.map_eq_some_iff.mp e
    cases ex
    obtain ⟨v, hv, rv⟩ := h.get hx
    refine ⟨v, ?_, rv⟩
    unfold L2.start
    rw [List.getElem?_append_left (by rw [List.length_map, ← h.length]; exact hi), List.getElem?_map, hv]
    rfl
  · rw [List.getElem?_append_right (by rw [List.length_map]; omega), List.getElem?_replicate] at e
    split at e <;> cases e
/-- a def that raises nothing, by its body -/
theorem fn_mp {x qual : Str} {st : Stmt} {f : Addr} {fd : FuncData} {N ps : List Str} {k n : Nat} {r : Env → M Fl} (F : Fun K x qual st f fd) (S : FnScope N ps (defScope st)) (hn : ps.length = n)
    (hbody : ∀ (cdv : Value) (A : Around) (outer : List PySem.Env) (s : Shared) (H : Hp) (E : XK), Room k (A.deeper (envOfC qual (defScope st) s.heap.objs.size f cdv)) → MSs (cxOf CX0 P w K mg base N qual (defScope st) f cdv A outer s H E).nox W0 (defBody st) r) :
    FnOk P w K mg base CX0 (k + 1) f fd ps (sp K mg n fun ds => noX (runB N.length r ds)) := by
  refine F.ok S (fun vs H Q E h => h.1.trans hn.symm) fun cdv A outer s H vs Q E hr h => ?_
  obtain ⟨_, ds, m, mu, hr1, R, hp⟩ := h
  refine ⟨_, (hbody cdv A outer s H E hr).ps, startE N.length ds, m, mu, startE_rep hr1, R, ?_⟩
  have hp := noX_post hp
  have e : runB N.length r ds mu = match r (startE N.length ds) mu with
    | .ok (.rt rv) mu' => .ok rv mu'
    | .ok (.nx _) mu' => .ok (.vl .non) mu'
    | .ok _ _ => .bad
    | .exc x mu' => .exc x mu'
    | .bad => .bad := rfl
  rw [e] at hp
  cases hq : r (startE N.length ds) mu with
  | bad => rw [hq] at hp; exact hp
  | exc x mu' => rw [hq] at hp; exact hp
  | ok fl mu' =>
    rw [hq] at hp
    cases fl with
    | rt rv => exact hp
    | nx e => exact fun m' H' g R' σ' _ => hp m' H' g R' .non (by simp only [Rep])
    | bk e => exact (show False from hp).elim
    | ct e => exact (show False from hp).elim
end
section
variable {X : Cx} {W : Wx} {CX : CXT} {k n : Nat} {f : Addr} {fd : FuncData} {ps : List Str} {den : List D → M Rv} {E : XK} {x : Str} {p pos : Pos} {e : Expr} {es : List Expr} {ds : List Value}
/-- what a callee lets out is wanted here -/
def XOk (CX : CXT) (X : Cx) (W : Wx) : Prop := ∃ E : XK, Passes CX X E ∧ ∀ x m H, W x m H → WE X.mg X.K E x m H
theorem xok0 {W : Wx} : XOk CX0 X W := ⟨fun _ _ _ => True, fun _ _ _ _ _ _ _ h => h.elim, fun _ _ _ _ _ _ _ => trivial⟩
def eCall (den : List D → M Rv) (rs : Env → M (List D)) : Env → M D := fun env => rs env >>= fun xs => den xs >>= fun rv => pure (rvD rv)
theorem Post.wx' {K : PySem.W.Frag} {W W' : Wx} {m : Mp} {H : Hp} {α : Type} {r : R α} {Q : α → Mp → List MO → Hp → Prop} (h : Post K W m H r Q) (hw : ∀ x m H, W x m H → W' x m H) : Post K W' m H r Q := Post.wx h hw
/-- f(e, ..) -/
theorem me_call {rs : Env → M (List D)} (F : FnOk X.prog X.w X.K X.mg X.base CX k f fd ps (sp X.K X.mg n den)) (hr : Room k X.A) (hg : Gl X x) (hm : X.mg x = some (.ref f)) (hk : PySem.W.keepIn X.K (.ref f) = true) (hb : Binds X.K fd ps []) (hx : XOk CX X W)
    (ha : MA X W (e :: es) rs) (hl : n = (e :: es).length) (hdb : (x == ("__debug__" : Str)) = false := by decide) (he : starEach (e :: es) X.env = (false, eval e X.env) :: starEach es X.env := by rfl) (hpl : (backTo pos (starEach es X.env)).any (·.1) = false := by rfl) :
    ME X W (.Call (.Name x p) (e :: es) [] pos) (eCall (fun ds mu => if ds.length = n then den ds mu else .bad) rs) := by
  obtain ⟨E, hE0, hW⟩ := hx
  refine ⟨(pe_call F hr hg hm hk hb .nil hE0 ha.pa hdb he hpl).imp fun σ H Q ⟨env, m, mu, hE, hR, hp⟩ => ⟨env, m, mu, hE, hR, (Post.bind hp).mono fun xs m1 mu1 H1 g1 R1 hp1 vs rv => ?_⟩⟩
  by_cases hlen : xs.length = n
  · have hp2 : Post X.K W m1 H1 (if xs.length = n then den xs mu1 else .bad) _ := Post.bind hp1
    rw [if_pos hlen] at hp2
    have hp1 := hp2
    refine ⟨by rw [List.append_nil, ← rv.length]; exact hlen, xs, m1, mu1, by rw [List.append_nil]; exact rv, R1, (Post.wx hp1 hW).mono fun r2 m2 mu2 H2 g2 R2 hp2 => ?_⟩
    cases r2 with
    | vl d => exact fun v rv => Post.pure (a := d) hp2 R2 v rv
    | fr ds => exact fun a vs h0 h1 hn hr _ => Post.pure (a := D.fl ds) hp2 R2 _ (by simp only [Rep]; exact ⟨a, vs, rfl, h1, hn, hr⟩)
  · have hp2 : Post X.K W m1 H1 (if xs.length = n then den xs mu1 else .bad) _ := Post.bind hp1
    rw [if_neg hlen] at hp2
    exact (show False from hp2).elim
/-- .. that hands back a new list -/
def fCall (den : List D → M Rv) (rs : Env → M (List D)) : Env → M (List D) := fun env => rs env >>= fun xs => den xs >>= fun rv => match rv with
  | .fr ds => pure ds
  | .vl _ => bad
theorem mf_call {rs : Env → M (List D)} (F : FnOk X.prog X.w X.K X.mg X.base CX k f fd ps (sp X.K X.mg n den)) (hr : Room k X.A) (hg : Gl X x) (hm : X.mg x = some (.ref f)) (hk : PySem.W.keepIn X.K (.ref f) = true) (hb : Binds X.K fd ps []) (hx : XOk CX X W)
    (ha : MA X W (e :: es) rs) (hl : n = (e :: es).length) (hdb : (x == ("__debug__" : Str)) = false := by decide) (he : starEach (e :: es) X.env = (false, eval e X.env) :: starEach es X.env := by rfl) (hpl : (backTo pos (starEach es X.env)).any (·.1) = false := by rfl) :
    MF X W (.Call (.Name x p) (e :: es) [] pos) (fCall (fun ds mu => if ds.length = n then den ds mu else .bad) rs) := by
  obtain ⟨E, hE0, hW⟩ := hx
  refine ⟨(pe_call F hr hg hm hk hb .nil hE0 ha.pa hdb he hpl).imp fun σ H Q ⟨env, m, mu, hE, hR, hp⟩ => ⟨env, m, mu, hE, hR, (Post.bind hp).mono fun xs m1 mu1 H1 g1 R1 hp1 vs rv => ?_⟩⟩
  by_cases hlen : xs.length = n
  · have hp2 : Post X.K W m1 H1 (if xs.length = n then den xs mu1 else .bad) _ := Post.bind hp1
    rw [if_pos hlen] at hp2
    have hp1 := hp2
    refine ⟨by rw [List.append_nil, ← rv.length]; exact hlen, xs, m1, mu1, by rw [List.append_nil]; exact rv, R1, (Post.wx hp1 hW).mono fun r2 m2 mu2 H2 g2 R2 hp2 => ?_⟩
    cases r2 with
    | vl d => exact (show False from hp2).elim
    | fr ds => exact NewL.from (Post.pure (a := ds) hp2 R2) g1
  · have hp2 : Post X.K W m1 H1 (if xs.length = n then den xs mu1 else .bad) _ := Post.bind hp1
    rw [if_neg hlen] at hp2
    exact (show False from hp2).elim
end
/-! ### what is left behind is forgotten, what comes back is frozen -/
mutual
/-- refs from k on are read as they stand at the end; ok: the places that may be frozen -/
inductive Frz (mu : List MO) (k : Nat) (ok : Nat → Prop) : D → D → Prop
  | non : Frz mu k ok .non .non
  | bl (b : Bool) : Frz mu k ok (.bl b) (.bl b)
  | int (i : Int) : Frz mu k ok (.int i) (.int i)
  | str (x : Str) : Frz mu k ok (.str x) (.str x)
  | tup {xs ys : List D} : Frzs mu k ok xs ys → Frz mu k ok (.tup xs) (.tup ys)
  | fl {xs ys : List D} : Frzs mu k ok xs ys → Frz mu k ok (.fl xs) (.fl ys)
  | ro {xs ys : List D} : Frzs mu k ok xs ys → Frz mu k ok (.ro xs) (.ro ys)
  | fd {ks : List Key} {xs ys : List D} : Frzs mu k ok xs ys → Frz mu k ok (.fd ks xs) (.fd ks ys)
  | ref {n : Nat} : n < k → Frz mu k ok (.ref n) (.ref n)
  | lst {n : Nat} {xs ys : List D} : k ≤ n → ok n → mu[n]? = some (.lst xs) → Frzs mu k ok xs ys → Frz mu k ok (.ref n) (.fl ys)
  | dk {n : Nat} {kvs : List (Key × D)} {ys : List D} : k ≤ n → ok n → mu[n]? = some (.dk kvs) → Frzs mu k ok (kvs.map (·.2)) ys → Frz mu k ok (.ref n) (.fd (kvs.map (·.1)) ys)
inductive Frzs (mu : List MO) (k : Nat) (ok : Nat → Prop) : List D → List D → Prop
  | nil : Frzs mu k ok [] []
  | cons {x y : D} {xs ys : List D} : Frz mu k ok x y → Frzs mu k ok xs ys → Frzs mu k ok (x :: xs) (y :: ys)
end
inductive FrzO (mu : List MO) (k : Nat) (ok : Nat → Prop) : MO → MO → Prop
  | lst {xs ys : List D} : Frzs mu k ok xs ys → FrzO mu k ok (.lst xs) (.lst ys)
  | dk {kvs kws : List (Key × D)} : kvs.map (·.1) = kws.map (·.1) → Frzs mu k ok (kvs.map (·.2)) (kws.map (·.2)) → FrzO mu k ok (.dk kvs) (.dk kws)
/-- the first places, frozen -/
structure FrzH (mu : List MO) (ok : Nat → Prop) (nu : List MO) : Prop where
  le : nu.length ≤ mu.length
  at_ : ∀ (n : Nat) (o o' : MO), mu[n]? = some o → nu[n]? = some o' → FrzO mu nu.length ok o o'
inductive FrzR (mu nu : List MO) : Rv → Rv → Prop
  | vl {d d' : D} : FrzH mu (fun _ => True) nu → Frz mu nu.length (fun _ => True) d d' → FrzR mu nu (.vl d) (.vl d')
  | newL {n : Nat} {xs ys : List D} : nu.length ≤ n → mu[n]? = some (.lst xs) → FrzH mu (fun j => j ≠ n) nu → Frzs mu nu.length (fun j => j ≠ n) xs ys → FrzR mu nu (.vl (.ref n)) (.fr ys)
  | fr {xs ys : List D} : FrzH mu (fun _ => True) nu → Frzs mu nu.length (fun _ => True) xs ys → FrzR mu nu (.fr xs) (.fr ys)
  | frv {xs ys : List D} : FrzH mu (fun _ => True) nu → Frzs mu nu.length (fun _ => True) xs ys → FrzR mu nu (.fr xs) (.vl (.fl ys))
section
variable {K : PySem.W.Frag} {m mm : Mp} {H : Hp} {mu nu : List MO} {k : Nat} {ok : Nat → Prop}
theorem zip_len {α β : Type} : ∀ {ks : List α} {vs : List β}, ks.length = vs.length → (ks.zip vs).map (·.2) = vs
  | [], [], _ => rfl
  | _ :: ks, v :: vs, h => by rw [List.zip_cons_cons, List.map_cons, zip_len (by simpa using h)]
mutual
theorem Frz.rep (R : Rel K m mu H) (h1 : ∀ n a, n < k → m.ad[n]? = some a → mm.ad[n]? = some a) (h2 : ∀ a, m.Out a → mm.Out a) (h3 : ∀ n a, k ≤ n → ok n → m.ad[n]? = some a → mm.Out a) : ∀ {d d' : D} {v : V}, Frz mu k ok d d' → Rep K m H d v → Rep K mm H d' v
  | _, _, v, .non, h => by simp only [Rep] at h ⊢; exact h
  | _, _, v, .bl _, h => by simp only [Rep] at h ⊢; exact h
  | _, _, v, .int _, h => by simp only [Rep] at h ⊢; exact h
  | _, _, v, .str _, h => by simp only [Rep] at h ⊢; exact h
  | _, _, v, .tup q, h => by
    simp only [Rep] at h ⊢
    obtain ⟨a, vs, e, hs, hr⟩ := h
    exact ⟨a, vs, e, hs, Frzs.rep R h1 h2 h3 q hr⟩
  | _, _, v, .fl q, h => by
    simp only [Rep] at h ⊢
    obtain ⟨a, vs, e, hs, hn, hr⟩ := h
    exact ⟨a, vs, e, hs, h2 a hn, Frzs.rep R h1 h2 h3 q hr⟩
  | _, _, v, .ro q, h => by
    simp only [Rep] at h ⊢
    obtain ⟨a, vs, e, hs, hr⟩ := h
    exact ⟨a, vs, e, hs, Frzs.rep R h1 h2 h3 q hr⟩
  | _, _, v, .fd q, h => by
    simp only [Rep] at h ⊢
    obtain ⟨a, vs, e, hs, hn, hl, hr⟩ := h
    have hr' := Frzs.rep R h1 h2 h3 q hr
    exact ⟨a, vs, e, hs, h2 a hn, by rw [hl, hr.length, hr'.length], hr'⟩
  | _, _, v, .ref hk, h => by
    simp only [Rep] at h ⊢
    obtain ⟨a, e, hm⟩ := h
    exact ⟨a, e, h1 _ a hk hm⟩
  | _, _, v, .lst hk ho hx q, h => by
    simp only [Rep] at h ⊢
    obtain ⟨a, e, hm⟩ := h
    obtain ⟨vs, hH, hr⟩ := R.obj _ _ a hx hm
    exact ⟨a, vs, e, hH, h3 _ a hk ho hm, Frzs.rep R h1 h2 h3 q hr⟩
  | _, _, v, .dk hk ho hx q, h => by
    simp only [Rep] at h ⊢
    obtain ⟨a, e, hm⟩ := h
    obtain ⟨vs, hH, hr⟩ := R.obj _ _ a hx hm
    have hr' := Frzs.rep R h1 h2 h3 q hr
    refine ⟨a, vs, e, hH, h3 _ a hk ho hm, ?_, hr'⟩
    have := hr.length
    rw [List.length_map] at this
    rw [List.length_map, this, hr'.length]
theorem Frzs.rep (R : Rel K m mu H) (h1 : ∀ n a, n < k → m.ad[n]? = some a → mm.ad[n]? = some a) (h2 : ∀ a, m.Out a → mm.Out a) (h3 : ∀ n a, k ≤ n → ok n → m.ad[n]? = some a → mm.Out a) : ∀ {ds es : List D} {vs : List V}, Frzs mu k ok ds es → Reps K m H ds vs → Reps K mm H es vs
  | _, _, vs, .nil, h => by rw [Reps.nil_iff] at h ⊢; exact h
  | _, _, vs, .cons q qs, h => by
    obtain ⟨v, r, e, r1, r2⟩ := Reps.cons_iff.mp h
    exact Reps.cons_iff.mpr ⟨v, r, e, Frz.rep R h1 h2 h3 q r1, Frzs.rep R h1 h2 h3 qs r2⟩
end
theorem FrzO.rep (R : Rel K m mu H) (h1 : ∀ n a, n < k → m.ad[n]? = some a → mm.ad[n]? = some a) (h2 : ∀ a, m.Out a → mm.Out a) (h3 : ∀ n a, k ≤ n → ok n → m.ad[n]? = some a → mm.Out a) {a : Addr} {o o' : MO} (q : FrzO mu k ok o o') (h : RepO K m H a o) : RepO K mm H a o' := by
  cases q with
  | lst q => obtain ⟨vs, hH, hr⟩ := h; exact ⟨vs, hH, Frzs.rep R h1 h2 h3 q hr⟩
  | dk e q => obtain ⟨vs, hH, hr⟩ := h; exact ⟨vs, by rw [← e]; exact hH, Frzs.rep R h1 h2 h3 q hr⟩
/-- the first places alone -/
def Mp.cut (m : Mp) (k : Nat) : Mp := ⟨m.ad.take k, m.no⟩
theorem cut_get {n : Nat} {a : Addr} (hn : n < k) (h : m.ad[n]? = some a) : (m.cut k).ad[n]? = some a := by
  show (m.ad.take k)[n]? = some a
  rw [List.getElem?_take_of_lt hn]; exact h
theorem cut_out {a : Addr} (h : m.Out a) : (m.cut k).Out a := ⟨fun z => h.1 (List.mem_of_mem_take z), h.2⟩
theorem cut_not {n : Nat} {a : Addr} (R : Rel K m mu H) (hk : k ≤ n) (h : m.ad[n]? = some a) : (m.cut k).Out a := by
  refine ⟨fun z => ?_, R.dj a (List.mem_of_getElem? h)⟩
  obtain ⟨j, hj⟩ := List.mem_iff_getElem?.mp (show a ∈ m.ad.take k from z)
  have hjk : j < k := by
    have := (List.getElem?_eq_some_iff.mp hj).1
    rw [List.length_take] at this
    omega
  rw [List.getElem?_take_of_lt hjk] at hj
  have := nodup_ix' R.nd hj h
  omega
theorem FrzH.rel (R : Rel K m mu H) {ok : Nat → Prop} (q : FrzH mu ok nu) (mm : Mp) (he : mm.ad = m.ad.take nu.length) (hno : mm.no = m.no) : Rel K mm nu H := by
  have e : mm = m.cut nu.length := by cases mm; simp only at he hno; rw [he, hno]; rfl
  subst e
  refine ⟨by show (m.ad.take nu.length).length = _; rw [List.length_take, R.len]; have := q.le; omega, R.nd.sublist (List.take_sublist _ _), R.nos, fun a ha => R.dj a (List.mem_of_mem_take ha), fun n o' a h1 h2 => ?_⟩
  have hn : n < nu.length := (List.getElem?_eq_some_iff.mp h1).1
  have h2' : m.ad[n]? = some a := by
    have h2 : (m.ad.take nu.length)[n]? = some a := h2
    rw [List.getElem?_take_of_lt hn] at h2; exact h2
  obtain ⟨o, ho, hr⟩ := R.at' h2'
  exact (q.at_ n o o' ho h1).rep R (fun n a hk h => cut_get hk h) (fun a h => cut_out h) (fun n a hk _ h => cut_not R hk h) hr
end
end MP
namespace MP
open PySem L2 PyProof.Rows
/-! ### a datum that names only old places is its own freezing -/
def Clo (k : Nat) (d : D) : Prop := ∀ mu ok, Frz mu k ok d d
def Clos (k : Nat) (ds : List D) : Prop := ∀ mu ok, Frzs mu k ok ds ds
theorem Clos.nil {k : Nat} : Clos k [] := fun _ _ => .nil
theorem Clos.cons {k : Nat} {d : D} {ds : List D} (h : Clo k d) (hs : Clos k ds) : Clos k (d :: ds) := fun mu ok => .cons (h mu ok) (hs mu ok)
theorem Clos.inv {k : Nat} {d : D} {ds : List D} (h : Clos k (d :: ds)) : Clo k d ∧ Clos k ds := ⟨fun mu ok => by
  have := h mu ok
  cases this with
  | cons a b => exact a, fun mu ok => by
  have := h mu ok
  cases this with
  | cons a b => exact b⟩
theorem Clos.mem {k : Nat} : ∀ {ds : List D}, Clos k ds → ∀ d ∈ ds, Clo k d
  | d :: ds, h, x, hx => by
    rcases List.mem_cons.mp hx with e | e
    · rw [e]; exact h.inv.1
    · exact Clos.mem h.inv.2 x e
theorem Clos.of {k : Nat} : ∀ {ds : List D}, (∀ d ∈ ds, Clo k d) → Clos k ds
  | [], _ => .nil
  | d :: ds, h => .cons (h d (by simp)) (Clos.of fun x hx => h x (by simp [hx]))
theorem Clo.tup {k : Nat} {ds : List D} : Clo k (.tup ds) ↔ Clos k ds := ⟨fun h mu ok => by
  have := h mu ok
  cases this with
  | tup q => exact q, fun h mu ok => .tup (h mu ok)⟩
theorem Clo.fl {k : Nat} {ds : List D} : Clo k (.fl ds) ↔ Clos k ds := ⟨fun h mu ok => by
  have := h mu ok
  cases this with
  | fl q => exact q, fun h mu ok => .fl (h mu ok)⟩
theorem Clo.ro {k : Nat} {ds : List D} : Clo k (.ro ds) ↔ Clos k ds := ⟨fun h mu ok => by
  have := h mu ok
  cases this with
  | ro q => exact q, fun h mu ok => .ro (h mu ok)⟩
theorem Clo.fd {k : Nat} {ks : List Key} {ds : List D} : Clo k (.fd ks ds) ↔ Clos k ds := ⟨fun h mu ok => by
  have := h mu ok
  cases this with
  | fd q => exact q, fun h mu ok => .fd (h mu ok)⟩
theorem Clo.ref {k n : Nat} : Clo k (.ref n) ↔ n < k := ⟨fun h => by
  have := h [] (fun _ => False)
  cases this with
  | ref h => exact h, fun h mu ok => .ref h⟩
theorem Clo.non {k : Nat} : Clo k .non := fun _ _ => .non
theorem Clo.bl {k : Nat} {b : Bool} : Clo k (.bl b) := fun _ _ => .bl b
theorem Clo.int {k : Nat} {i : Int} : Clo k (.int i) := fun _ _ => .int i
theorem Clo.str {k : Nat} {x : Str} : Clo k (.str x) := fun _ _ => .str x
section
variable {K : PySem.W.Frag} {m mm : Mp} {H : Hp} {mu nu : List MO} {k : Nat} {ok : Nat → Prop}
mutual
theorem Rep.clo : ∀ {d : D} {v : V}, Rep K m H d v → Clo m.ad.length d
  | .non, v, _ => Clo.non
  | .bl b, v, _ => Clo.bl
  | .int i, v, _ => Clo.int
  | .str x, v, _ => Clo.str
  | .tup ds, v, h => by
    simp only [Rep] at h
    obtain ⟨a, vs, e, hs, hr⟩ := h
    exact Clo.tup.mpr (Reps.clo hr)
  | .fl ds, v, h => by
    simp only [Rep] at h
    obtain ⟨a, vs, e, hs, hn, hr⟩ := h
    exact Clo.fl.mpr (Reps.clo hr)
  | .ro ds, v, h => by
    simp only [Rep] at h
    obtain ⟨a, vs, e, hs, hr⟩ := h
    exact Clo.ro.mpr (Reps.clo hr)
  | .fd ks ds, v, h => by
    simp only [Rep] at h
    obtain ⟨a, vs, e, hs, hn, hl, hr⟩ := h
    exact Clo.fd.mpr (Reps.clo hr)
  | .ref n, v, h => by
    simp only [Rep] at h
    obtain ⟨a, e, hm⟩ := h
    exact Clo.ref.mpr (List.getElem?_eq_some_iff.mp hm).1
theorem Reps.clo : ∀ {ds : List D} {vs : List V}, Reps K m H ds vs → Clos m.ad.length ds
  | [], vs, _ => Clos.nil
  | d :: ds, vs, h => by
    obtain ⟨v, r, e, r1, r2⟩ := Reps.cons_iff.mp h
    exact Clos.cons (Rep.clo r1) (Reps.clo r2)
end
def CloO (k : Nat) : MO → Prop
  | .lst xs => Clos k xs
  | .dk kvs => Clos k (kvs.map (·.2))
/-- a small heap that names only its own places -/
def CloH (mu : List MO) : Prop := ∀ o ∈ mu, CloO mu.length o
theorem Rel.clo (R : Rel K m mu H) : CloH mu := fun o ho => by
  obtain ⟨n, hn⟩ := List.mem_iff_getElem?.mp ho
  obtain ⟨a, _, hr⟩ := R.at hn
  rw [← R.len]
  cases o with
  | lst xs => obtain ⟨vs, _, h⟩ := hr; exact Reps.clo h
  | dk kvs => obtain ⟨vs, _, h⟩ := hr; exact Reps.clo h
theorem CloO.frz {o : MO} (h : CloO k o) : FrzO mu k ok o o := by
  cases o with
  | lst xs => exact .lst (h mu ok)
  | dk kvs => exact .dk rfl (h mu ok)
/-- what stands ahead of new places stays as it is -/
theorem CloH.frz (h : CloH mu) (ex : List MO) : FrzH (mu ++ ex) ok mu := ⟨by rw [List.length_append]; omega, fun n o o' h1 h2 => by
  rw [List.getElem?_append_left (List.getElem?_eq_some_iff.mp h2).1, h2] at h1
  cases h1
  exact (h o (List.mem_of_getElem? h2)).frz⟩
theorem Frz.weak {mu mu' : List MO} {k : Nat} {ok ok' : Nat → Prop} (h : ∀ n o, mu[n]? = some o → ok n → mu'[n]? = some o ∧ ok' n) : (∀ {d d' : D}, Frz mu k ok d d' → Frz mu' k ok' d d') ∧ (∀ {d d' : List D}, Frzs mu k ok d d' → Frzs mu' k ok' d d') := by
  have key : ∀ {d d' : D} (q : Frz mu k ok d d'), Frz mu' k ok' d d' := by
    intro d d' q
    exact Frz.rec (motive_1 := fun d d' _ => Frz mu' k ok' d d') (motive_2 := fun d d' _ => Frzs mu' k ok' d d') .non .bl .int .str (fun _ q => .tup q) (fun _ q => .fl q) (fun _ q => .ro q) (fun _ q => .fd q) .ref (fun hk ho hx _ q => .lst hk (h _ _ hx ho).2 (h _ _ hx ho).1 q) (fun hk ho hx _ q => .dk hk (h _ _ hx ho).2 (h _ _ hx ho).1 q) .nil (fun _ _ q qs => .cons q qs) q
  refine ⟨key, ?_⟩
  intro d d' q
  exact Frzs.rec (motive_1 := fun d d' _ => Frz mu' k ok' d d') (motive_2 := fun d d' _ => Frzs mu' k ok' d d') .non .bl .int .str (fun _ q => .tup q) (fun _ q => .fl q) (fun _ q => .ro q) (fun _ q => .fd q) .ref (fun hk ho hx _ q => .lst hk (h _ _ hx ho).2 (h _ _ hx ho).1 q) (fun hk ho hx _ q => .dk hk (h _ _ hx ho).2 (h _ _ hx ho).1 q) .nil (fun _ _ q qs => .cons q qs) q
theorem FrzO.weak {mu mu' : List MO} {k : Nat} {ok ok' : Nat → Prop} (h : ∀ n o, mu[n]? = some o → ok n → mu'[n]? = some o ∧ ok' n) {o o' : MO} (q : FrzO mu k ok o o') : FrzO mu' k ok' o o' := by
  cases q with
  | lst q => exact .lst ((Frz.weak h).2 q)
  | dk e q => exact .dk e ((Frz.weak h).2 q)
/-- a list handed out of the small heap -/
theorem frz_add {n : Nat} {a : Addr} {vs : List V} {xs ys : List D} (R : Rel K m mu H) (q : FrzH mu (fun j => j ≠ n) nu) (hk : nu.length ≤ n) (hx : mu[n]? = some (.lst xs)) (hm : m.ad[n]? = some a) (hys : Frzs mu nu.length (fun j => j ≠ n) xs ys) (hv : H a = some (.lst vs)) (hr : Reps K m H xs vs) :
    (m.cut nu.length).Out a ∧ Reps K (m.cut nu.length) H ys vs ∧ Rel K ((m.cut nu.length).add a) (nu ++ [.lst ys]) H := by
  have hout := cut_not (k := nu.length) R hk hm
  have R1 := q.rel R (m.cut nu.length) rfl rfl
  have g1 : ∀ n' a', n' < nu.length → m.ad[n']? = some a' → ((m.cut nu.length).add a).ad[n']? = some a' := fun n' a' h e => by
    show ((m.cut nu.length).ad ++ [a])[n']? = some a'
    rw [List.getElem?_append_left (by rw [R1.len]; exact h)]
    exact cut_get h e
  have g2 : ∀ a', m.Out a' → ((m.cut nu.length).add a).Out a' := fun a' h => ⟨fun z => by
    rcases List.mem_append.mp (show a' ∈ (m.cut nu.length).ad ++ [a] from z) with z | z
    · exact (cut_out h).1 z
    · rw [List.mem_singleton.mp z] at h
      exact h.1 (List.mem_of_getElem? hm), h.2⟩
  have g3 : ∀ n' a', nu.length ≤ n' → n' ≠ n → m.ad[n']? = some a' → ((m.cut nu.length).add a).Out a' := fun n' a' h1 h2 e => ⟨fun z => by
    rcases List.mem_append.mp (show a' ∈ (m.cut nu.length).ad ++ [a] from z) with z | z
    · exact (cut_not R h1 e).1 z
    · rw [List.mem_singleton.mp z] at e
      exact h2 (nodup_ix' R.nd e hm), R.dj a' (List.mem_of_getElem? e)⟩
  refine ⟨hout, hys.rep R (fun n a hk h => cut_get hk h) (fun a h => cut_out h) (fun n a hk _ h => cut_not R hk h) hr, ?_⟩
  refine ⟨?_, ?_, R.nos, ?_, ?_⟩
  · show ((m.cut nu.length).ad ++ [a]).length = _
    rw [List.length_append, List.length_append, R1.len]; rfl
  · show ((m.cut nu.length).ad ++ [a]).Nodup
    rw [List.nodup_append]
    exact ⟨R1.nd, by simp, fun x hx y hy e => by rw [List.mem_singleton.mp hy] at e; rw [e] at hx; exact hout.1 hx⟩
  · intro a' ha'
    rcases List.mem_append.mp (show a' ∈ (m.cut nu.length).ad ++ [a] from ha') with z | z
    · exact R1.dj a' z
    · rw [List.mem_singleton.mp z]; exact hout.2
  · intro n' o' a' h1 h2
    have h2 : ((m.cut nu.length).ad ++ [a])[n']? = some a' := h2
    by_cases hn' : n' < nu.length
    · rw [List.getElem?_append_left hn'] at h1
      rw [List.getElem?_append_left (by rw [R1.len]; exact hn')] at h2
      have h2 : (m.ad.take nu.length)[n']? = some a' := h2
      rw [List.getElem?_take_of_lt hn'] at h2
      obtain ⟨o, ho, hr'⟩ := R.at' h2
      exact (q.at_ n' o o' ho h1).rep R g1 g2 g3 hr'
    · rw [List.getElem?_append_right (by omega)] at h1
      rw [List.getElem?_append_right (by rw [R1.len]; omega), R1.len] at h2
      have e0 : n' - nu.length = 0 := by
        have := (List.getElem?_eq_some_iff.mp h1).1
        simp only [List.length_cons, List.length_nil] at this
        omega
      rw [e0] at h1 h2
      simp only [List.getElem?_cons_zero, Option.some.injEq] at h1 h2
      subst h1 h2
      exact ⟨vs, hv, hys.rep R g1 g2 g3 hr⟩
/-- the law of an answer that has been frozen -/
inductive FrzX (mu nu : List MO) : Xn → Xn → Prop
  | mk {c : Str} {ks : List Str} {xs ys : List D} : ks.length = xs.length → ks.length = ys.length → FrzH mu (fun _ => True) nu → Frzs mu nu.length (fun _ => True) xs ys → FrzX mu nu ⟨c, ks.zip xs⟩ ⟨c, ks.zip ys⟩
/-- den is as den' says, but for what is left behind -/
def GC (n : Nat) (den den' : List D → M Rv) : Prop := ∀ ds mu, ds.length = n → Clos mu.length ds → CloH mu → match den' ds mu with
  | .bad => True
  | .ok rv' nu => ∃ rv mu', den ds mu = .ok rv mu' ∧ mu.length ≤ nu.length ∧ FrzR mu' nu rv rv'
  | .exc x' nu => ∃ x mu', den ds mu = .exc x mu' ∧ mu.length ≤ nu.length ∧ FrzX mu' nu x x'
theorem Grow.cut {m m' : Mp} {H H' : Hp} {k : Nat} (g : Grow m m' H H') (hk : m.ad.length ≤ k) : Grow m (m'.cut k) H H' := by
  obtain ⟨l, j, e1, e2, hl, hj⟩ := g.ext
  refine ⟨⟨l.take (k - m.ad.length), j, ?_, e2, fun a ha => hl a (List.mem_of_mem_take ha), hj⟩, g.oth, g.tups, g.frzs, g.trk⟩
  show m'.ad.take k = _
  rw [e1, List.take_append, List.take_of_length_le hk]
theorem Grow.new {m m' : Mp} {H H' : Hp} (g : Grow m m' H H') {n : Nat} {a : Addr} (hn : m.ad.length ≤ n) (h : m'.ad[n]? = some a) : H a = none := by
  obtain ⟨l, j, e1, _, hl, _⟩ := g.ext
  rw [e1, List.getElem?_append_right hn] at h
  exact hl a (List.mem_of_getElem? h)
theorem Post.gc {W : Wx} {m : Mp} {den den' : List D → M Rv} {n : Nat} {ds : List D} {vs : List V} {Q : VK} (hg : GC n den den') (hn : ds.length = n) (hr : Reps K m H ds vs) (R : Rel K m mu H)
    (hW : ∀ x x' mu' nu m' H', FrzX mu' nu x x' → Rel K m' mu' H' → W x' (m'.cut nu.length) H' → W x m' H')
    (hp : Post K W m H (den' ds mu) fun rv m' mu' H' => RvQ K H rv m' mu' H' Q) : Post K W m H (den ds mu) fun rv m' mu' H' => RvQ K H rv m' mu' H' Q := by
  have hc := hg ds mu hn (by rw [← R.len]; exact hr.clo) R.clo
  cases e : den' ds mu with
  | bad => rw [e] at hp; exact (show False from hp).elim
  | exc x' nu =>
    rw [e] at hc hp
    obtain ⟨x, mu', e', hl, hx⟩ := hc
    rw [e']
    intro m' H' g R'
    refine hW x x' mu' nu m' H' hx R' (hp _ H' (g.cut (by rw [R.len]; exact hl)) ?_)
    cases hx with
    | mk _ _ hh _ => exact hh.rel R' _ rfl rfl
  | ok rv' nu =>
    rw [e] at hc hp
    obtain ⟨rv, mu', e', hl, hf⟩ := hc
    rw [e']
    intro m' H' g R'
    have gc := g.cut (k := nu.length) (by rw [R.len]; exact hl)
    cases hf with
    | vl hh hd =>
      have hq := hp _ H' gc (hh.rel R' _ rfl rfl)
      exact fun v rv => hq v (hd.rep R' (fun n a hk h => cut_get hk h) (fun a h => cut_out h) (fun n a hk _ h => cut_not R' hk h) rv)
    | newL hk hx hh hys =>
      have hq := hp _ H' gc (hh.rel R' _ rfl rfl)
      intro v rv
      simp only [Rep] at rv
      obtain ⟨a, ev, hm⟩ := rv
      obtain ⟨vs, hv, hr'⟩ := R'.obj _ _ a hx hm
      obtain ⟨h1, h2, h3⟩ := frz_add R' hh hk hx hm hys hv hr'
      rw [ev]
      exact hq a vs (g.new (by rw [R.len]; omega) hm) hv h1 h2 h3
    | fr hh hys =>
      have hq := hp _ H' gc (hh.rel R' _ rfl rfl)
      rename_i xs ys
      intro a vs h0 h1 ho hr' R2
      have hm : (m'.add a).ad[mu'.length]? = some a := by
        show (m'.ad ++ [a])[mu'.length]? = some a
        rw [List.getElem?_append_right (by rw [R'.len]; exact Nat.le_refl _), R'.len]; simp
      have hx : (mu' ++ [MO.lst xs])[mu'.length]? = some (.lst xs) := by
        rw [List.getElem?_append_right (Nat.le_refl _)]; simp
      have wk : ∀ n o, mu'[n]? = some o → True → (mu' ++ [MO.lst xs])[n]? = some o ∧ n ≠ mu'.length := fun n o h _ => by
        have := (List.getElem?_eq_some_iff.mp h).1
        exact ⟨by rw [List.getElem?_append_left this]; exact h, by omega⟩
      have hh' : FrzH (mu' ++ [MO.lst xs]) (fun j => j ≠ mu'.length) nu := ⟨by rw [List.length_append]; have := hh.le; omega, fun n o o' h1 h2 => by
        have hlt : n < mu'.length := Nat.lt_of_lt_of_le (List.getElem?_eq_some_iff.mp h2).1 hh.le
        rw [List.getElem?_append_left hlt] at h1
        exact (hh.at_ n o o' h1 h2).weak wk⟩
      have hr2 : Reps K (m'.add a) H' xs vs := by
        obtain ⟨vs2, hv2, hr2⟩ := R2.obj _ _ a hx hm
        rw [h1] at hv2
        cases hv2
        exact hr2
      obtain ⟨q1, q2, q3⟩ := frz_add R2 hh' (by have := hh.le; omega) hx hm ((Frz.weak wk).2 hys) h1 hr2
      have ec : (m'.add a).cut nu.length = m'.cut nu.length := by
        show Mp.mk ((m'.ad ++ [a]).take nu.length) m'.no = Mp.mk (m'.ad.take nu.length) m'.no
        rw [List.take_append_of_le_length (by rw [R'.len]; exact hh.le)]
      rw [ec] at q1 q2 q3
      exact hq a vs h0 h1 q1 q2 q3
    | frv hh hys =>
      have hq := hp _ H' gc (hh.rel R' _ rfl rfl)
      intro a vs h0 h1 ho hr' R2
      refine hq (.ref a) ?_
      simp only [Rep]
      exact ⟨a, vs, rfl, h1, cut_out ho, hys.rep R' (fun n a hk h => cut_get hk h) (fun a h => cut_out h) (fun n a hk _ h => cut_not R' hk h) hr'⟩
theorem XRep.gc {mg : Str → Option Value} {m : Mp} {x x' : Xn} (hx : FrzX mu nu x x') (R : Rel K m mu H) {cls : Value} {d : Option Addr} (h : XRep mg K m H x cls d) : XRep mg K (m.cut nu.length) H x' cls d := by
  cases hx with
  | @mk c ks xs ys l1 l2 hh hf =>
    obtain ⟨h1, h2⟩ := h
    refine ⟨h1, ?_⟩
    cases d with
    | none =>
      have h2 : ks.zip xs = [] := h2
      show ks.zip ys = []
      cases ks with
      | nil => rfl
      | cons k ks => cases xs with
        | nil => simp at l1
        | cons x xs => simp at h2
    | some p =>
      obtain ⟨gs, g1, g2, g3⟩ := h2
      refine ⟨gs, g1, ?_, ?_⟩
      · rw [g2]
        show (ks.zip xs).map (·.1) = (ks.zip ys).map (·.1)
        rw [List.map_fst_zip (by omega), List.map_fst_zip (by omega)]
      · show Reps K _ H ((ks.zip ys).map (·.2)) _
        have g3 : Reps K m H ((ks.zip xs).map (·.2)) _ := g3
        rw [zip_len l2]
        rw [zip_len l1] at g3
        exact hf.rep R (fun n a hk h => cut_get hk h) (fun a h => cut_out h) (fun n a hk _ h => cut_not R hk h) g3
end
/-- a def's promise, without what it leaves behind -/
theorem sp_gc {P : Program} {w : World} {K : PySem.W.Frag} {mg : Str → Option Value} {base : Heap} {CX : CXT} {k n : Nat} {f : Addr} {fd : FuncData} {ps : List Str} {den den' : List D → M Rv} (F : FnOk P w K mg base CX k f fd ps (sp K mg n den)) (hg : GC n den den') : FnOk P w K mg base CX k f fd ps (sp K mg n den') :=
  F.imp fun vs H Q E ⟨h1, ds, m, mu, hr, R, hp⟩ => ⟨h1, ds, m, mu, hr, R, Post.gc hg (by rw [hr.length]; exact h1) hr R (fun x x' mu' nu m' H' hx R' hw cls d h => hw cls d (XRep.gc hx R' h)) hp⟩
end MP
namespace MP
open PySem L2 PyProof.Rows
/-! ### dicts that change -/
def mapV {β : Type} (kvs : List (Key × β)) (k : Key) (y : β) : List (Key × β) := kvs.map fun kv => if kv.1 = k then (kv.1, y) else kv
def putD {β : Type} (kvs : List (Key × β)) (k : Key) (y : β) : List (Key × β) := if (kvs.any fun kv => decide (kv.1 = k)) = true then mapV kvs k y else kvs ++ [(k, y)]
theorem mapV_keys {β : Type} {k : Key} {y : β} : ∀ (kvs : List (Key × β)), (mapV kvs k y).map (·.1) = kvs.map (·.1)
  | [] => rfl
  | p :: r => by
    have ih := mapV_keys (k := k) (y := y) r
    unfold mapV at ih ⊢
    rw [List.map_cons, List.map_cons, List.map_cons, ih]
    by_cases e : p.1 = k
    · rw [if_pos e]
    · rw [if_neg e]
theorem any_zip {α : Type} {k : Key} : ∀ (kvs : List (Key × α)) {β : Type} (vs : List β), kvs.length = vs.length → (((kvs.map (·.1)).zip vs).any fun kv => decide (kv.1 = k)) = kvs.any fun kv => decide (kv.1 = k)
  | [], _, _, _ => by simp
  | p :: r, _, [], h => by simp at h
  | p :: r, _, v :: vs, h => by
    rw [List.map_cons, List.zip_cons_cons, List.any_cons, List.any_cons, any_zip r vs (by simpa using h)]
theorem mapV_rep {K : PySem.W.Frag} {m : Mp} {H : Hp} {k : Key} {d : D} {v : V} (hd : Rep K m H d v) : ∀ {kvs : List (Key × D)} {vs : List V}, Reps K m H (kvs.map (·.2)) vs → Reps K m H ((mapV kvs k d).map (·.2)) ((mapV ((kvs.map (·.1)).zip vs) k v).map (·.2))
  | [], vs, h => by rw [List.map_nil, Reps.nil_iff] at h; subst h; exact Reps.nil_iff.mpr rfl
  | p :: r, vs, h => by
    rw [List.map_cons] at h
    obtain ⟨w, ws, rfl, h1, h2⟩ := Reps.cons_iff.mp h
    have ih := mapV_rep (k := k) hd h2
    unfold mapV at ih ⊢
    rw [List.map_cons, List.map_cons, List.map_cons, List.zip_cons_cons, List.map_cons, List.map_cons]
    refine Reps.cons_iff.mpr ⟨_, _, rfl, ?_, ih⟩
    by_cases e : p.1 = k
    · rw [if_pos e, if_pos e]; exact hd
    · rw [if_neg e, if_neg e]; exact h1
theorem put_rep {K : PySem.W.Frag} {m : Mp} {H : Hp} {k : Key} {d : D} {v : V} {kvs : List (Key × D)} {vs : List V} (h : Reps K m H (kvs.map (·.2)) vs) (hd : Rep K m H d v) : ∃ ws, putK ((kvs.map (·.1)).zip vs) k v = ((putD kvs k d).map (·.1)).zip ws ∧ ∀ m' H', Reps K m' H' (kvs.map (·.2)) vs → Rep K m' H' d v → Reps K m' H' ((putD kvs k d).map (·.2)) ws := by
  have hl : kvs.length = vs.length := by have := h.length; rwa [List.length_map] at this
  unfold putK putD
  rw [any_zip kvs vs hl]
  by_cases a : (kvs.any fun kv => decide (kv.1 = k)) = true
  · rw [if_pos a, if_pos a]
    refine ⟨(mapV ((kvs.map (·.1)).zip vs) k v).map (·.2), ?_, fun m' H' h hd => mapV_rep hd h⟩
    rw [mapV_keys]
    have e : (mapV ((kvs.map (·.1)).zip vs) k v).map (·.1) = kvs.map (·.1) := by rw [mapV_keys, List.map_fst_zip (by rw [List.length_map]; omega)]
    have z := zip_keys (mapV ((kvs.map (·.1)).zip vs) k v)
    rw [e] at z
    exact z.symm
  · rw [if_neg a, if_neg a]
    refine ⟨vs ++ [v], ?_, fun m' H' h hd => ?_⟩
    · rw [List.map_append, List.zip_append (by rw [List.length_map]; exact hl)]; rfl
    · rw [List.map_append]; exact h.append (Reps.one hd)
def putM (o k v : D) : M D := toR o >>= fun n => toK k >>= fun kk => modD n fun kvs => if kvs.length < sizeLine then some (putD kvs kk v, .non) else none
section
variable {X : Cx} {W : Wx} {e o a b c value i : Expr} {es : List Expr} {pos apos cpos tpos p pos' : Pos}
theorem putM_ok {K : PySem.W.Frag} {W : Wx} {m : Mp} {H : Hp} {mu : List MO} {o k d : D} {x y v : V} {Q : D → Mp → List MO → Hp → Prop} (R : Rel K m mu H) (ho : Rep K m H o x) (hk : Rep K m H k y) (hd : Rep K m H d v) (hp : Post K W m H (putM o k d mu) Q) :
    ∃ a H4 mu', x = .ref a ∧ DPut H a y v H4 ∧ Grow m m H H4 ∧ Rel K m mu' H4 ∧ Q .non m mu' H4 := by
  unfold putM at hp
  obtain ⟨n, a, rfl, rfl, hm, hp⟩ := toR_ok R ho (Post.bind hp)
  obtain ⟨kk, rfl, hp⟩ := toK_ok R hk (Post.bind hp)
  obtain ⟨kvs, us, ys, d', hH, hrs, hf, hg, hq⟩ := modD_ok R hm hp
  by_cases hl : kvs.length < sizeLine
  · rw [if_pos hl] at hf
    cases hf
    obtain ⟨ws, e, hr⟩ := put_rep (k := kk) hrs hd
    have gg := hg (((putD kvs kk d).map (·.1)).zip ws)
    have rr := hr m _ (Reps.grow gg _ _ hrs) (Rep.grow gg _ _ hd)
    have hlen : ((kvs.map (·.1)).zip us).length = kvs.length := by have := hrs.length; rw [List.length_map] at this; rw [List.length_zip, List.length_map, ← this, Nat.min_self]
    exact ⟨a, _, _, rfl, by rw [← e]; exact DPut.k hH (by rw [hlen]; exact hl), gg, R.write hm (show RepO K m _ a (.dk (putD kvs kk d)) from ⟨ws, upd_same, rr⟩), hq ws rr⟩
  · rw [if_neg hl] at hf; cases hf
/-- d[k] = v -/
def sDput (ro ri rv : Env → M D) : Env → M Fl := fun env => rv env >>= fun v => ro env >>= fun o => ri env >>= fun i => putM o i v >>= fun _ => pure (.nx env)
theorem ms_dput {ro ri rv : Env → M D} (hu : X.A.units + 1 < cLine) (ho : ME X W o ro) (hi : ME X W i ri) (hv : ME X W value rv) (hs : swapsWith value (some (.Subscript o i pos')) pos.line X.env = pure false := by rfl) :
    MS X W (.Assign [.Subscript o i pos'] value pos) (sDput ro ri rv) := ⟨(ps_dput hu ho.pe hi.pe hv.pe hs).imp fun D σ H ⟨env, m, mu, hE, hR, hp⟩ =>
  ⟨env, m, mu, hE, hR, (Post.bind hp).mono fun v m1 mu1 H1 g1 R1 hp vv rv => ⟨env, m1, mu1, hE.grow g1, R1, (Post.bind hp).mono fun o m2 mu2 H2 g2 R2 hp ov ro => ⟨env, m2, mu2, (hE.grow g1).grow g2, R2, (Post.bind hp).mono fun i m3 mu3 H3 g3 R3 hp iv ri => by
    obtain ⟨a, H4, mu4, ex, hd, g4, R4, hq⟩ := putM_ok R3 (Rep.grow g3 o ov ro) ri (Rep.grow g3 v vv (Rep.grow g2 v vv rv)) (Post.bind hp)
    exact ⟨a, H4, ex, hd, (Post.pure hq R4) σ ((((hE.grow g1).grow g2).grow g3).grow g4)⟩⟩⟩⟩⟩
/-- d.get(k), d.get(k, x) -/
def dctK (o : D) : M Unit := rdD o >>= fun _ => pure ()
def eGet1 (ro ri : Env → M D) : Env → M D := fun env => ro env >>= fun o => dctK o >>= fun _ => ri env >>= fun y => rdD o >>= fun kvs => toK y >>= fun k => pure ((valD kvs k).getD .non)
def eGet2 (ro ri rx : Env → M D) : Env → M D := fun env => ro env >>= fun o => dctK o >>= fun _ => ri env >>= fun y => rx env >>= fun x => rdD o >>= fun kvs => toK y >>= fun k => pure ((valD kvs k).getD x)
theorem dctK_ok {K : PySem.W.Frag} {W : Wx} {m : Mp} {H : Hp} {mu : List MO} {d : D} {v : V} {Q : Unit → Mp → List MO → Hp → Prop} (R : Rel K m mu H) (h : Rep K m H d v) (hp : Post K W m H (dctK d mu) Q) : ∃ a, v = .ref a ∧ IsD H a ∧ Q () m mu H := by
  obtain ⟨a, kvs, vs, rfl, hH, hr, hp⟩ := rdD_ok R h (Post.bind hp)
  exact ⟨a, rfl, .inl ⟨_, .inl hH⟩, Post.pure hp R⟩
theorem me_get1 {ro ri : Env → M D} (hu : X.A.units + 1 < cLine) (ho : ME X W o ro) (hi : ME X W e ri) (m : M1 X o "get" apos e cpos := by exact ⟨rfl, rfl, rfl, rfl⟩) : ME X W (.Call (.Attribute o "get" apos) [e] [] cpos) (eGet1 ro ri) := ⟨(pe_dget1 hu ho.pe hi.pe m).imp fun σ H Q ⟨env, m, mu, hE, hR, hp⟩ =>
  ⟨env, m, mu, hE, hR, (Post.bind hp).mono fun o m1 mu1 H1 g1 R1 hp ov ro => by
    obtain ⟨a, rfl, hi, hp⟩ := dctK_ok R1 ro (Post.bind hp)
    refine ⟨a, rfl, hi, env, m1, mu1, hE.grow g1, R1, (Post.bind hp).mono fun y m2 mu2 H2 g2 R2 hp yv ry => ?_⟩
    obtain ⟨p, kvs, vs, e, hH, hr, hp⟩ := rdD_ok R2 (Rep.grow g2 o _ ro) (Post.bind hp)
    cases e
    obtain ⟨k, rfl, hp⟩ := toK_ok R2 ry (Post.bind hp)
    rcases valD_get k hH hr with ⟨d, z, e, rz, g⟩ | ⟨e, g⟩
    · rw [e] at hp
      exact ⟨_, g, Post.pure hp R2 z rz⟩
    · rw [e] at hp
      exact ⟨_, g, Post.pure hp R2 .non (by simp only [Rep, Option.getD_none])⟩⟩⟩
theorem me_get2 {ro ri rx : Env → M D} (hu : X.A.units + 1 < cLine) (ho : ME X W o ro) (hi : ME X W e ri) (hx : ME X W c rx) (m : M2 X o "get" apos e c cpos := by exact ⟨rfl, rfl, rfl, rfl⟩) : ME X W (.Call (.Attribute o "get" apos) [e, c] [] cpos) (eGet2 ro ri rx) := ⟨(pe_dget2 hu ho.pe hi.pe hx.pe m).imp fun σ H Q ⟨env, m, mu, hE, hR, hp⟩ =>
  ⟨env, m, mu, hE, hR, (Post.bind hp).mono fun o m1 mu1 H1 g1 R1 hp ov ro => by
    obtain ⟨a, rfl, hi, hp⟩ := dctK_ok R1 ro (Post.bind hp)
    refine ⟨a, rfl, hi, env, m1, mu1, hE.grow g1, R1, (Post.bind hp).mono fun y m2 mu2 H2 g2 R2 hp yv ry => ⟨env, m2, mu2, (hE.grow g1).grow g2, R2, (Post.bind hp).mono fun x m3 mu3 H3 g3 R3 hp xv rx => ?_⟩⟩
    obtain ⟨p, kvs, vs, e, hH, hr, hp⟩ := rdD_ok R3 (Rep.grow g3 o _ (Rep.grow g2 o _ ro)) (Post.bind hp)
    cases e
    obtain ⟨k, rfl, hp⟩ := toK_ok R3 (Rep.grow g3 y _ ry) (Post.bind hp)
    rcases valD_get k hH hr with ⟨d, z, e, rz, g⟩ | ⟨e, g⟩
    · rw [e] at hp
      exact ⟨_, g, Post.pure hp R3 z rz⟩
    · rw [e] at hp
      exact ⟨_, g, Post.pure hp R3 xv rx⟩⟩⟩
/-! ### isinstance -/
def tyD : D → M String
  | .non => pure "NoneType"
  | .bl _ => pure "bool"
  | .int _ => pure "int"
  | .str _ => pure "str"
  | .tup _ => pure "tuple"
  | .fl _ => pure "list"
  | .ro _ => pure "list"
  | .fd _ _ => pure "dict"
  | .ref n => fun mu => match mu[n]? with
    | some (.lst _) => .ok "list" mu
    | some (.dk _) => .ok "dict" mu
    | none => .bad
def tys : List String := ["NoneType", "bool", "int", "str", "tuple", "list", "dict"]
theorem tyD_ok {K : PySem.W.Frag} {W : Wx} {m : Mp} {H : Hp} {mu : List MO} {d : D} {v : V} {Q : String → Mp → List MO → Hp → Prop} (R : Rel K m mu H) (h : Rep K m H d v) (hp : Post K W m H (tyD d mu) Q) : ∃ t, t ∈ tys ∧ TyX K H v (.type t) ∧ Q t m mu H := by
  cases d <;> simp only [Rep] at h
  case non => subst h; exact ⟨_, by simp [tys], .base .non, Post.pure hp R⟩
  case bl b => subst h; exact ⟨_, by simp [tys], .base (.bl b), Post.pure hp R⟩
  case int b => subst h; exact ⟨_, by simp [tys], .base (.int b), Post.pure hp R⟩
  case str b => subst h; exact ⟨_, by simp [tys], .base (.str b), Post.pure hp R⟩
  case tup ds =>
    obtain ⟨a, vs, rfl, hs, _⟩ := h
    refine ⟨"tuple", by simp [tys], ?_, Post.pure hp R⟩
    rcases hs with (hs | ⟨o, hs⟩) | ⟨o, its, n, hs, hc, _⟩
    · exact .base (.tup hs)
    · exact .fTuple hs
    · exact .kTuple hs hc
  case fl ds =>
    obtain ⟨a, vs, rfl, hs, _⟩ := h
    exact ⟨"list", by simp [tys], .base (.lst hs), Post.pure hp R⟩
  case ro ds =>
    obtain ⟨a, vs, rfl, hs, _⟩ := h
    refine ⟨"list", by simp [tys], ?_, Post.pure hp R⟩
    rcases hs with ⟨o, hs⟩ | ⟨o, its, n, hs, hc, _⟩
    · exact .base (.frz hs)
    · exact .kList hs hc
  case fd ks ds =>
    obtain ⟨a, vs, rfl, hs, _⟩ := h
    exact ⟨"dict", by simp [tys], .base (.dK hs), Post.pure hp R⟩
  case ref n =>
    obtain ⟨a, rfl, hm⟩ := h
    obtain ⟨o, ho, hr⟩ := R.at' hm
    have e1 : tyD (.ref n) mu = match mu[n]? with
      | some (.lst _) => MP.R.ok "list" mu
      | some (.dk _) => .ok "dict" mu
      | none => .bad := rfl
    rw [e1, ho] at hp
    cases o with
    | lst xs => obtain ⟨vs, hH, _⟩ := hr; exact ⟨"list", by simp [tys], .base (.lst hH), hp m H .refl R⟩
    | dk xs => obtain ⟨vs, hH, _⟩ := hr; exact ⟨"dict", by simp [tys], .base (.dK hH), hp m H .refl R⟩
def isiB (t T : String) : Bool := t == T || (t == "bool" && T == "int")
theorem isi_tab : ∀ T ∈ (["bool", "int", "str", "tuple", "list", "dict"] : List String), ∀ t ∈ tys, kitB t T = some (isiB t T) := by decide +kernel
def gIsi (T : String) (x : D) : M D := tyD x >>= fun t => pure (.bl (isiB t T))
theorem me_isi {T : String} {x y : Str} {r : Env → M D} (hT : T ∈ (["bool", "int", "str", "tuple", "list", "dict"] : List String)) (hg : Gl X x) (hm : X.mg x = none) (hv : bootBuiltins x = some (.builtin "isinstance")) (hg' : Gl X y) (hm' : X.mg y = none) (hv' : bootBuiltins y = some (.type T)) (h : ME X W e r)
    (hn : x ≠ "__name__" := by decide) (hdb : (x == ("__debug__" : Str)) = false := by decide) (hn' : y ≠ "__name__" := by decide) (hdb' : (y == ("__debug__" : Str)) = false := by decide)
    (h1 : starEach [.Name y pos'] X.env = (false, eval (.Name y pos') X.env) :: starEach [] X.env := by rfl)
    (he : starEach [e, .Name y pos'] X.env = (false, eval e X.env) :: starEach [.Name y pos'] X.env := by rfl) (hpl : (backTo pos (starEach [.Name y pos'] X.env)).any (·.1) = false := by rfl) : ME X W (.Call (.Name x p) [e, .Name y pos'] [] pos) (eMap (gIsi T) r) :=
  ⟨(pe_callB call_isi hg hm hv (pa_cons h.pe (pa_cons (pe_bltn hg' hm' hv' (v := .ty T) rfl hn' hdb') pa_nil h1) he) hn hdb he hpl).imp fun σ H Q ⟨env, m, mu, hE, hR, hp⟩ =>
    ⟨env, m, mu, hE, hR, (Post.bind hp).mono fun d m1 mu1 H1 g1 R1 hp v rv => by
      obtain ⟨t, ht, ty, hp⟩ := tyD_ok R1 rv (Post.bind hp)
      exact ⟨v, .ty T, .type t, .type T, isiB t T, rfl, .ty T, ty, kit_ty (isi_tab T hT t ht), Post.pure hp R1 _ (by simp only [Rep])⟩⟩⟩
end
/-! ### sorted -/
def leS (x y : Str) : Bool := !Spec.ltCps y.cps.toList x.cps.toList
theorem leS_iff {x y : Str} : leS x y = true ↔ x.cps.toList ≤ y.cps.toList := by
  unfold leS
  rw [ltCps_eq, Bool.not_eq_true', decide_eq_false_iff_not]
  exact Iff.rfl
theorem leS_trans (a b c : Str) (h : leS a b = true) (h' : leS b c = true) : leS a c = true := leS_iff.mpr (List.le_trans (leS_iff.mp h) (leS_iff.mp h'))
theorem leS_total (a b : Str) : (leS a b || leS b a) = true := by
  rw [Bool.or_eq_true, leS_iff, leS_iff]
  exact List.le_total _ _
theorem leS_anti {a b : Str} (h : leS a b = true) (h' : leS b a = true) : a = b := by
  have e := List.le_antisymm (leS_iff.mp h) (leS_iff.mp h')
  cases a; cases b
  simp only at e
  congr 1
  exact Array.toList_inj.mp e
theorem risingS_pw : ∀ (l : List Str) (p : Str), risingS p l = true → (p :: l).Pairwise fun a b => leS a b = true
  | [], p, _ => List.pairwise_singleton ..
  | x :: r, p, h => by
    rw [risingS, Bool.and_eq_true] at h
    have ih := risingS_pw r x h.2
    refine List.pairwise_cons.mpr ⟨fun y hy => ?_, ih⟩
    rcases List.mem_cons.mp hy with e | hy
    · rw [e]; exact h.1
    · exact leS_trans p x y h.1 ((List.pairwise_cons.mp ih).1 y hy)
theorem sortedS_pw : ∀ {l : List Str}, sortedS l = true → l.Pairwise fun a b => leS a b = true
  | [], _ => List.Pairwise.nil
  | x :: r, h => risingS_pw r x h
def srtS (xs : List Str) : List Str := xs.mergeSort leS
def srtI (xs : List Int) : List Int := xs.mergeSort fun a b => decide (a ≤ b)
theorem srtS_eq {xs ys : List Str} (h : ys.Perm xs) (hs : sortedS ys = true) : ys = srtS xs :=
  List.Perm.eq_of_pairwise (le := fun a b => leS a b = true) (fun a b _ _ h h' => leS_anti h h') (sortedS_pw hs) (List.pairwise_mergeSort leS_trans leS_total xs) (h.trans (List.mergeSort_perm xs leS).symm)
theorem srtI_eq {xs ys : List Int} (h : ys.Perm xs) (hs : ys.Pairwise (· ≤ ·)) : ys = srtI xs := by
  refine List.Perm.eq_of_pairwise (le := fun a b => a ≤ b) (fun a b _ _ h h' => Int.le_antisymm h h') hs ?_ (h.trans (List.mergeSort_perm xs _).symm)
  have q := List.pairwise_mergeSort (le := fun a b : Int => decide (a ≤ b)) (fun a b c h h' => by simp only [decide_eq_true_eq] at h h' ⊢; omega) (fun a b => by simp only [Bool.or_eq_true, decide_eq_true_eq]; omega) xs
  exact q.imp fun h => by simpa using h
def strsOf : List D → Option (List Str)
  | [] => some []
  | .str x :: r => (strsOf r).map (x :: ·)
  | _ => none
def intsOf : List D → Option (List Int)
  | [] => some []
  | .int x :: r => (intsOf r).map (x :: ·)
  | _ => none
theorem strsOf_eq : ∀ {ds : List D} {xs : List Str}, strsOf ds = some xs → ds = xs.map D.str
  | [], xs, h => by cases h; rfl
  | .str x :: r, xs, h => by
    obtain ⟨ys, hy, e⟩ := Option.map_eq_some_iff.mp (show (strsOf r).map (x :: ·) = some xs from h)
    subst e
    rw [List.map_cons, ← strsOf_eq hy]
theorem intsOf_eq : ∀ {ds : List D} {xs : List Int}, intsOf ds = some xs → ds = xs.map D.int
  | [], xs, h => by cases h; rfl
  | .int x :: r, xs, h => by
    obtain ⟨ys, hy, e⟩ := Option.map_eq_some_iff.mp (show (intsOf r).map (x :: ·) = some xs from h)
    subst e
    rw [List.map_cons, ← intsOf_eq hy]
/-- sorted(x): a list of texts or of ints, fewer than 64 -/
def srtT : Option (List Int) → Option (List Str) → M (List D)
  | some is, _ => pure ((srtI is).map D.int)
  | none, some ss => pure ((srtS ss).map D.str)
  | none, none => bad
def srtD (xs : List D) : M (List D) := need (xs.length < 64) >>= fun _ => srtT (intsOf xs) (strsOf xs)
def keyStrs : List Key → Option (List Str)
  | [] => some []
  | .inr x :: r => (keyStrs r).map (x :: ·)
  | _ => none
theorem keyStrs_eq : ∀ {ds : List Key} {xs : List Str}, keyStrs ds = some xs → ds = xs.map Sum.inr
  | [], xs, h => by cases h; rfl
  | .inr x :: r, xs, h => by
    obtain ⟨ys, hy, e⟩ := Option.map_eq_some_iff.mp (show (keyStrs r).map (x :: ·) = some xs from h)
    subst e
    rw [List.map_cons, ← keyStrs_eq hy]
def srtK (ks : List Key) : M (List D) := need (ks.length < 64) >>= fun _ => match keyStrs ks with
  | some ss => pure ((srtS ss).map D.str)
  | none => bad
section
variable {X : Cx} {W : Wx} {e : Expr} {es : List Expr} {pos p : Pos}
/-- sorted of a list -/
def rSrt (K : PySem.W.Frag) : List V → Hp → VK → Prop := fun xs H Q => rSorted K xs H Q ∨ rSortedS K xs H Q
theorem callM_srt {x : D} {v : V} {m : Mp} {mu : List MO} {H : Hp} {Q : VK} {H0 : Hp} {m0 : Mp} (g0 : Grow m0 m H0 H) (R : Rel X.K m mu H) (hx : Rep X.K m H x v) (hp : Post X.K W m H ((rdL x >>= srtD) mu) (fun ds m' mu' H' => NewL X.K H0 ds m' mu' H' Q)) : rSrt X.K [v] H Q := by
  obtain ⟨a, xs, vs, rfl, hs, hr, _, hp⟩ := rdL_ok R hx (Post.bind hp)
  unfold srtD at hp
  obtain ⟨hl, hp3⟩ := need_ok R (Post.bind hp)
  cases hi : intsOf xs with
  | some is =>
    rw [hi] at hp3
    have e := intsOf_eq hi
    subst e
    have ev := Reps.of_ints.mp hr
    refine .inl ⟨a, is, rfl, by rw [← ev]; exact hs, by simpa using hl, fun ns' q h1 h2 hn => ?_⟩
    rw [srtI_eq h1 h2]
    have q2 := tF_new g0 R (Reps.of_ints.mpr rfl) hp3
    exact q2 q hn
  | none =>
    rw [hi] at hp3
    cases hs' : strsOf xs with
    | none => rw [hs'] at hp3; exact (show False from hp3).elim
    | some ss =>
      rw [hs'] at hp3
      have e := strsOf_eq hs'
      subst e
      have ev := Reps.of_strs.mp hr
      refine .inr ⟨a, ss, rfl, by rw [← ev]; exact hs, by simpa using hl, fun ys q h1 h2 hn => ?_⟩
      rw [srtS_eq h1 h2]
      exact tF_new g0 R (Reps.of_strs.mpr rfl) hp3 q hn
theorem mf_sorted {x : Str} {r : Env → M D} (hg : Gl X x) (hm : X.mg x = none) (hv : bootBuiltins x = some (.builtin "sorted")) (h : ME X W e r) (hn : x ≠ "__name__" := by decide) (hdb : (x == ("__debug__" : Str)) = false := by decide)
    (he : starEach [e] X.env = (false, eval e X.env) :: starEach [] X.env := by rfl) (hpl : (backTo pos (starEach [] X.env)).any (·.1) = false := by rfl) : MF X W (.Call (.Name x p) [e] [] pos) (fun env => r env >>= fun x => rdL x >>= srtD) :=
  ⟨(pe_callB (cr_sorted.or cr_sortedS) hg hm hv (pa_cons h.pe pa_nil he) hn hdb he hpl).imp fun σ H Q ⟨env, m, mu, hE, hR, hp⟩ =>
    ⟨env, m, mu, hE, hR, (Post.bind hp).mono fun d m1 mu1 H1 g1 R1 hp v rv => callM_srt g1 R1 rv hp⟩⟩
theorem mf_sortedD {x : Str} {r : Env → M D} (hc : X.calm = true) (hg : Gl X x) (hm : X.mg x = none) (hv : bootBuiltins x = some (.builtin "sorted")) (h : ME X W e r) (hn : x ≠ "__name__" := by decide) (hdb : (x == ("__debug__" : Str)) = false := by decide)
    (he : starEach [e] X.env = (false, eval e X.env) :: starEach [] X.env := by rfl) (hpl : (backTo pos (starEach [] X.env)).any (·.1) = false := by rfl) : MF X W (.Call (.Name x p) [e] [] pos) (fun env => r env >>= fun x => rdD x >>= fun kvs => srtK (kvs.map (·.1))) :=
  ⟨(pe_callB (call_sortedD hc) hg hm hv (pa_cons h.pe pa_nil he) hn hdb he hpl).imp fun σ H Q ⟨env, m, mu, hE, hR, hp⟩ =>
    ⟨env, m, mu, hE, hR, (Post.bind hp).mono fun d m1 mu1 H1 g1 R1 hp v rv => by
      obtain ⟨a, kvs, vs, rfl, hH, hr, hp⟩ := rdD_ok R1 rv (Post.bind hp)
      unfold srtK at hp
      obtain ⟨hl, hp⟩ := need_ok R1 (Post.bind hp)
      cases hk : keyStrs (kvs.map (·.1)) with
      | none => rw [hk] at hp; exact (show False from hp).elim
      | some ss =>
        rw [hk] at hp
        have e := keyStrs_eq hk
        have hz : (kvs.map (·.1)).length = vs.length := by have := hr.length; rw [List.length_map] at this ⊢; exact this
        refine ⟨a, _, ss, rfl, .inl hH, by rw [List.map_fst_zip (by omega)]; exact e, by rw [e] at hl; simpa using hl, fun ys q h1 h2 hn => ?_⟩
        rw [srtS_eq h1 h2]
        exact tF_new g1 R1 (Reps.of_strs.mpr rfl) hp q hn⟩⟩
end
end MP
namespace MP
open PySem L2 PyProof.Rows
/-! ### what a printed walk leans on -/
structure FnI (K : PySem.W.Frag) (mg : Str → Option Value) (x : Str) (st : Stmt) (f : Addr) (fd : FuncData) (ps : List Str) : Prop where
  fn : Fun K x x st f fd
  mg : mg x = some (.ref f)
  bi : Binds K fd ps []
def lenD (n : Nat) (den : List D → M Rv) : List D → M Rv := fun ds mu => if ds.length = n then den ds mu else .bad
theorem lenD_eq {n : Nat} {den : List D → M Rv} {ds : List D} (h : ds.length = n) : lenD n den ds = den ds := by
  funext mu
  unfold lenD
  rw [if_pos h]
theorem units1 {k : Nat} {A : Around} (r : Room k A) : A.units + 1 < cLine := by have := r.units; omega
def fSrt (r : Env → M D) : Env → M (List D) := fun env => r env >>= fun x => rdL x >>= srtD
def fSrtD (r : Env → M D) : Env → M (List D) := fun env => r env >>= fun x => rdD x >>= fun kvs => srtK (kvs.map (·.1))
section
variable {X : Cx} {W : Wx} {k n : Nat} {f : Addr} {fd : FuncData} {ps : List Str} {den : List D → M Rv} {x : Str} {st : Stmt} {p pos : Pos} {e : Expr} {es : List Expr}
theorem me_callF {rs : Env → M (List D)} (T : FnI X.K X.mg x st f fd ps) (F : FnOk X.prog X.w X.K X.mg X.base CX0 k f fd ps (sp X.K X.mg n den)) (hr : Room k X.A) (hg : Gl X x)
    (ha : MA X W (e :: es) rs) (hl : n = (e :: es).length) (hdb : (x == ("__debug__" : Str)) = false := by decide) (he : starEach (e :: es) X.env = (false, eval e X.env) :: starEach es X.env := by rfl) (hpl : (backTo pos (starEach es X.env)).any (·.1) = false := by rfl) :
    ME X W (.Call (.Name x p) (e :: es) [] pos) (eCall (lenD n den) rs) := me_call F hr hg T.mg T.fn.kp T.bi xok0 ha hl hdb he hpl
theorem mf_callF {rs : Env → M (List D)} (T : FnI X.K X.mg x st f fd ps) (F : FnOk X.prog X.w X.K X.mg X.base CX0 k f fd ps (sp X.K X.mg n den)) (hr : Room k X.A) (hg : Gl X x)
    (ha : MA X W (e :: es) rs) (hl : n = (e :: es).length) (hdb : (x == ("__debug__" : Str)) = false := by decide) (he : starEach (e :: es) X.env = (false, eval e X.env) :: starEach es X.env := by rfl) (hpl : (backTo pos (starEach es X.env)).any (·.1) = false := by rfl) :
    MF X W (.Call (.Name x p) (e :: es) [] pos) (fCall (lenD n den) rs) := mf_call F hr hg T.mg T.fn.kp T.bi xok0 ha hl hdb he hpl
end
/-! ### y += x -/
def gAddI : D → D → M D
  | .int i, .int j => pure (.int (i + j))
  | .str i, .str j => do
    need (i.length + j.length ≤ sizeLine)
    pure (.str (i ++ j))
  | _, _ => bad
section
variable {X : Cx} {W : Wx}
def rAddI : R2 := fun x y H Q => rI0 (fun i j => .int (i + j)) x y H Q ∨ ∃ i j, x = .str i ∧ y = .str j ∧ i.length + j.length ≤ sizeLine ∧ Q (.str (i ++ j)) H
theorem iop_addM : OpR X (inplaceOp .Add) rAddI := iop_add.or iop_add_str
theorem opm_addI : OpM X.K W rAddI gAddI := ⟨fun x y v w m mu H Q rl hx hy hp => by
  cases x
  case int i =>
    cases y
    case int j => simp only [Rep] at hx hy; exact .inl ⟨i, j, hx, hy, Post.pure hp rl _ (by simp only [Rep])⟩
    all_goals exact (show False from hp).elim
  case str i =>
    cases y
    case str j =>
      obtain ⟨c, hp⟩ := need_ok rl (Post.bind hp)
      simp only [Rep] at hx hy
      exact .inr ⟨i, j, hx, hy, c, Post.pure hp rl _ (by simp only [Rep])⟩
    all_goals exact (show False from hp).elim
  all_goals exact (show False from hp).elim⟩
theorem iop_mulM : OpR X (inplaceOp .Mult) (rI CMul fun i j => .int (i * j)) := iop_mul
end
/-! ### a def's answer, what is left behind forgotten -/
/-- a def that only looks: f gives its answer -/
def pureD (f : List D → Option D) : List D → M Rv := fun ds mu => match f ds with
  | some d => .ok (.vl d) mu
  | none => .bad
theorem gc_pure {n : Nat} {den : List D → M Rv} {f : List D → Option D} (h : ∀ ds mu d, ds.length = n → Clos mu.length ds → CloH mu → f ds = some d → Clo mu.length d ∧ ∃ ex, den ds mu = .ok (.vl d) (mu ++ ex)) : GC n den (pureD f) := fun ds mu hn hc hh => by
  cases e : f ds with
  | none =>
    have e0 : pureD f ds mu = .bad := by unfold pureD; rw [e]
    rw [e0]; trivial
  | some d =>
    have e0 : pureD f ds mu = .ok (.vl d) mu := by unfold pureD; rw [e]
    rw [e0]
    obtain ⟨h1, ex, h2⟩ := h ds mu d hn hc hh e
    exact ⟨.vl d, mu ++ ex, h2, Nat.le_refl _, .vl (hh.frz ex) (h1 _ _)⟩
/-- .. that may answer with a new list, read as one that nobody changes -/
theorem gc_pure' {n : Nat} {den : List D → M Rv} {f : List D → Option D} (h : ∀ ds mu d, ds.length = n → Clos mu.length ds → CloH mu → f ds = some d → ∃ ex rv, den ds mu = .ok rv (mu ++ ex) ∧ FrzR (mu ++ ex) mu rv (.vl d)) : GC n den (pureD f) := fun ds mu hn hc hh => by
  cases e : f ds with
  | none =>
    have e0 : pureD f ds mu = .bad := by unfold pureD; rw [e]
    rw [e0]; trivial
  | some d =>
    have e0 : pureD f ds mu = .ok (.vl d) mu := by unfold pureD; rw [e]
    rw [e0]
    obtain ⟨ex, rv, h1, h2⟩ := h ds mu d hn hc hh e
    exact ⟨rv, mu ++ ex, h1, Nat.le_refl _, h2⟩
/-- .. a new list -/
def newD (f : List D → Option (List D)) : List D → M Rv := fun ds mu => match f ds with
  | some d => .ok (.fr d) mu
  | none => .bad
end MP
namespace MP
open PySem L2 PyProof.Rows
/-! ### the small semantics, step by step, for simp -/
section
variable {α β : Type} {mu mu' : List MO} {env : Env} {n i : Nat} {x y d o : D} {xs ys : List D}
@[simp] theorem bind_ap {c : M α} {f : α → M β} : (c >>= f) mu = match c mu with
  | .ok a mu' => f a mu'
  | .exc x mu' => .exc x mu'
  | .bad => .bad := rfl
@[simp] theorem pure_ap {a : α} : (Pure.pure a : M α) mu = .ok a mu := rfl
@[simp] theorem bad_ap : (bad : M α) mu = .bad := rfl
@[simp] theorem raise_ap {x : Xn} : (raise x : M α) mu = .exc x mu := rfl
theorem bind_ok {c : M α} {f : α → M β} {a : α} (h : c mu = .ok a mu') : (c >>= f) mu = f a mu' := by rw [bind_ap, h]
@[simp] theorem noX_ok {c : M α} {a : α} (h : c mu = .ok a mu') : noX c mu = .ok a mu' := by
  show (match c mu with | .exc _ _ => R.bad | r => r) = _
  rw [h]
theorem noX_ap {c : M α} : noX c mu = match c mu with
  | .exc _ _ => .bad
  | r => r := rfl
/-- the list, the dict at a place -/
def onL (o : Option MO) (f : List D → R α) : R α := match o with
  | some (.lst xs) => f xs
  | _ => .bad
def onD (o : Option MO) (f : List (Key × D) → R α) : R α := match o with
  | some (.dk xs) => f xs
  | _ => .bad
@[simp] theorem onL_lst {f : List D → R α} : onL (some (.lst xs)) f = f xs := rfl
@[simp] theorem onD_dk {kvs : List (Key × D)} {f : List (Key × D) → R α} : onD (some (.dk kvs)) f = f kvs := rfl
@[simp] theorem eC_ap : eC d env mu = .ok d mu := rfl
def slot (o : Option (Option D)) (mu : List MO) : R D := match o with
  | some (some d) => .ok d mu
  | _ => .bad
@[simp] theorem slot_ok : slot (some (some d)) mu = .ok d mu := rfl
@[simp] theorem eVar_ap : eVar i env mu = slot env[i]? mu := by
  unfold eVar slot
  cases env[i]? with
  | none => rfl
  | some o => cases o <;> rfl
theorem eVar_get (h : env[i]? = some (some d)) : eVar i env mu = .ok d mu := by rw [eVar_ap, h, slot_ok]
variable {ra rb rc : Env → M D} {rs : Env → M (List D)} {g : D → D → M D} {f : D → M D} {t t' : Env → M Bool} {s1 s2 : Env → M Fl} {rf : Env → M (List D)}
@[simp] theorem eBin_ap : eBin g ra rb env = (ra env >>= fun x => rb env >>= fun y => g x y) := rfl
@[simp] theorem eMap_ap : eMap f ra env = (ra env >>= f) := rfl
@[simp] theorem eIf_ap {r r' : Env → M α} : eIf t r r' env = (t env >>= fun b => if b = true then r env else r' env) := rfl
@[simp] theorem eB_ap : eB ra env = (ra env >>= asB) := rfl
@[simp] theorem asB_bl {b : Bool} : asB (.bl b) mu = .ok b mu := rfl
@[simp] theorem bNot_ap : bNot t env = (t env >>= fun b => pure (!b)) := rfl
@[simp] theorem bAnd_ap : bAnd t t' env = (t env >>= fun b => if b = true then t' env else pure false) := rfl
@[simp] theorem bOr_ap : bOr t t' env = (t env >>= fun b => if b = true then pure true else t' env) := rfl
@[simp] theorem eAnd_ap : eAnd ra rb env = (ra env >>= fun x => toB x >>= fun b => if b = true then rb env else pure (.bl false)) := rfl
@[simp] theorem eOr_ap : eOr ra rb env = (ra env >>= fun x => toB x >>= fun b => if b = true then pure (.bl true) else rb env) := rfl
@[simp] theorem aNil_ap : aNil env mu = .ok [] mu := rfl
@[simp] theorem aCons_ap : aCons ra rs env = (ra env >>= fun x => rs env >>= fun xs => pure (x :: xs)) := rfl
@[simp] theorem aThen_ap {f : List D → M D} : aThen f rs env = (rs env >>= f) := rfl
@[simp] theorem aList_ap : aList rs env = (rs env >>= fun xs => need (xs.length ≤ sizeLine) >>= fun _ => pure xs) := rfl
@[simp] theorem eFl_ap : eFl rf env = (rf env >>= fun xs => pure (.fl xs)) := rfl
@[simp] theorem eNew_ap : eNew rf env = (rf env >>= fun xs => alloc (.lst xs)) := rfl
@[simp] theorem eNewD_ap : eNewD env = alloc (.dk []) := rfl
@[simp] theorem alloc_ap {o : MO} : alloc o mu = .ok (.ref mu.length) (mu ++ [o]) := rfl
@[simp] theorem eCall_ap {den : List D → M Rv} : eCall den rs env = (rs env >>= fun xs => den xs >>= fun rv => pure (rvD rv)) := rfl
@[simp] theorem rvD_vl : rvD (.vl d) = d := rfl
@[simp] theorem rvD_fr : rvD (.fr xs) = .fl xs := rfl
@[simp] theorem fCall_ap {den : List D → M Rv} : fCall den rs env = (rs env >>= fun xs => den xs >>= fun rv => match rv with
  | .fr ds => pure ds
  | .vl _ => bad) := rfl
@[simp] theorem lenD_ap {den : List D → M Rv} : lenD n den xs mu = if xs.length = n then den xs mu else .bad := rfl
@[simp] theorem g1_ap : g1 f [x] = f x := rfl
@[simp] theorem g2_ap : g2 g [x, y] = g x y := rfl
@[simp] theorem fThen1_ap {f : D → M (List D)} : fThen1 f rs env = (rs env >>= fun xs => match xs with
  | [x] => f x
  | _ => bad) := rfl
@[simp] theorem oNone_ap : oNone env mu = .ok none mu := rfl
@[simp] theorem oSome_ap : oSome ra env = (ra env >>= fun x => toI x >>= fun i => pure (some i)) := rfl
@[simp] theorem eSl_ap {rl rh : Env → M (Option Int)} : eSl ra rl rh env = (ra env >>= fun x => rl env >>= fun lo => rh env >>= fun hi => gSl x lo hi) := rfl
@[simp] theorem fSl_ap {rl rh : Env → M (Option Int)} : fSl ra rl rh env = (ra env >>= fun x => rl env >>= fun lo => rh env >>= fun hi => rdL x >>= fun xs => pure (cutD xs lo hi)) := rfl
@[simp] theorem fCat_ap : fCat ra rb env = (ra env >>= fun x => rb env >>= fun y => rdM x >>= fun xs => rdM y >>= fun ys => need (xs.length + ys.length ≤ sizeLine) >>= fun _ => pure (xs ++ ys)) := rfl
@[simp] theorem eWalk_ap : eWalk ra env = (ra env >>= walkD) := rfl
@[simp] theorem wThen_ap {f : List D → M Wk} : wThen f rs env = (rs env >>= f) := rfl
@[simp] theorem fSrt_ap : fSrt ra env = (ra env >>= fun x => rdL x >>= srtD) := rfl
@[simp] theorem fSrtD_ap : fSrtD ra env = (ra env >>= fun x => rdD x >>= fun kvs => srtK (kvs.map (·.1))) := rfl
@[simp] theorem asgN_ap : asgN i d env mu = .ok (env.set i (some d)) mu := rfl
@[simp] theorem asgT_ap {g : List D → Env → M Env} : asgT n g d env = (toT d >>= fun xs => need (xs.length = n) >>= fun _ => g xs env) := rfl
@[simp] theorem asgNil_ap : asgNil [] env mu = .ok env mu := rfl
@[simp] theorem asgCons_ap {h : D → Env → M Env} {g : List D → Env → M Env} : asgCons h g (d :: xs) env = (h d env >>= fun e => g xs e) := rfl
@[simp] theorem sFor_ap {r : Env → M Wk} {asg : D → Env → M Env} {fg : List Nat} : sFor r asg s1 fg env = (r env >>= fun p => loopF asg s1 fg p.2 p.1 env) := rfl
@[simp] theorem sNext_ap : sNext env mu = .ok (.nx env) mu := rfl
@[simp] theorem sSeq_ap : sSeq s1 s2 env = (s1 env >>= fun fl => match fl with
  | .nx e => s2 e
  | fl => pure fl) := by
  unfold sSeq
  congr 1
@[simp] theorem sBreak_ap : sBreak env mu = .ok (.bk env) mu := rfl
@[simp] theorem sCont_ap : sCont env mu = .ok (.ct env) mu := rfl
@[simp] theorem sExpr_ap : sExpr ra env = (ra env >>= fun _ => pure (.nx env)) := rfl
@[simp] theorem sRet_ap : sRet ra env = (ra env >>= fun d => pure (.rt (.vl d))) := rfl
@[simp] theorem sRetF_ap : sRetF rf env = (rf env >>= fun d => pure (.rt (.fr d))) := rfl
@[simp] theorem sRetN_ap : sRetN env mu = .ok (.rt (.vl .non)) mu := rfl
@[simp] theorem sAsg_ap {asg : D → Env → M Env} : sAsg ra asg env = (ra env >>= fun d => asg d env >>= fun env' => pure (.nx env')) := rfl
@[simp] theorem sSet_ap : sSet i ra env = (ra env >>= fun d => pure (.nx (env.set i (some d)))) := rfl
@[simp] theorem sAug_ap : sAug i g ra env = (eVar i env >>= fun x => ra env >>= fun y => g x y >>= fun z => pure (.nx (env.set i (some z)))) := rfl
@[simp] theorem sSub_ap : sSub ra rb rc env = (rc env >>= fun v => ra env >>= fun o => rb env >>= fun i => setL o i v >>= fun _ => pure (.nx env)) := rfl
@[simp] theorem sDput_ap : sDput ra rb rc env = (rc env >>= fun v => ra env >>= fun o => rb env >>= fun i => putM o i v >>= fun _ => pure (.nx env)) := rfl
@[simp] theorem eGet1_ap : eGet1 ra rb env = (ra env >>= fun o => dctK o >>= fun _ => rb env >>= fun y => rdD o >>= fun kvs => toK y >>= fun k => pure ((valD kvs k).getD .non)) := rfl
@[simp] theorem eGet2_ap : eGet2 ra rb rc env = (ra env >>= fun o => dctK o >>= fun _ => rb env >>= fun y => rc env >>= fun x => rdD o >>= fun kvs => toK y >>= fun k => pure ((valD kvs k).getD x)) := rfl
@[simp] theorem dctK_ap : dctK o = (rdD o >>= fun _ => pure ()) := rfl
@[simp] theorem eMeth_ap {k : D → M Unit} {h : D → List D → M D} : eMeth k h ra rs env = (ra env >>= fun o => k o >>= fun _ => rs env >>= fun xs => h o xs) := rfl
@[simp] theorem fComp_ap {w : Env → M Wk} {asg : D → Env → M Env} {vs : List Nat} : fComp w asg t ra vs env = (w env >>= fun p => noX (loopC asg t ra p.2 p.1 (wipeE env vs))) := rfl
@[simp] theorem tYesM_ap : tYesM env mu = .ok true mu := rfl
@[simp] theorem wipeE_nil : wipeE env [] = env := rfl
@[simp] theorem wipeE_cons {vs : List Nat} : wipeE env (i :: vs) = (wipeE env vs).set i none := rfl
/-! values -/
@[simp] theorem need_ap {c : Prop} [Decidable c] : need c mu = if c then .ok () mu else .bad := by unfold need; split <;> rfl
@[simp] theorem toI_int {i : Int} : toI (.int i) mu = .ok i mu := rfl
@[simp] theorem toS_str {z : Str} : toS (.str z) mu = .ok z mu := rfl
@[simp] theorem toT_tup : toT (.tup xs) mu = .ok xs mu := rfl
@[simp] theorem toB_bl {b : Bool} : toB (.bl b) mu = .ok b mu := rfl
@[simp] theorem toR_ref : toR (.ref n) mu = .ok n mu := rfl
@[simp] theorem toK_int {i : Int} : toK (.int i) mu = .ok (.inl i) mu := rfl
@[simp] theorem toK_str {z : Str} : toK (.str z) mu = .ok (.inr z) mu := rfl
@[simp] theorem gAdd_int {i j : Int} : gAdd (.int i) (.int j) mu = .ok (.int (i + j)) mu := rfl
@[simp] theorem gAdd_str {i j : Str} : gAdd (.str i) (.str j) mu = if i.length + j.length ≤ sizeLine then .ok (.str (i ++ j)) mu else .bad := by
  show ((need (i.length + j.length ≤ sizeLine) : M Unit) >>= fun _ => (pure (.str (i ++ j)) : M D)) mu = _
  rw [bind_ap, need_ap]
  by_cases c : i.length + j.length ≤ sizeLine
  · rw [if_pos c, if_pos c]; rfl
  · rw [if_neg c, if_neg c]
theorem gII_ap {c : Int → Int → Prop} [∀ i j, Decidable (c i j)] {f : Int → Int → D} {i j : Int} : gII c f (.int i) (.int j) mu = if c i j then .ok (f i j) mu else .bad := by
  show ((need (c i j) : M Unit) >>= fun _ => (pure (f i j) : M D)) mu = _
  rw [bind_ap, need_ap]
  by_cases h : c i j
  · rw [if_pos h, if_pos h]; rfl
  · rw [if_neg h, if_neg h]
@[simp] theorem gSub_int {i j : Int} : gSub (.int i) (.int j) mu = .ok (.int (i - j)) mu := by unfold gSub; rw [gII_ap]; exact if_pos trivial
theorem gMul_int {i j : Int} : gMul (.int i) (.int j) mu = if cMul i j then .ok (.int (i * j)) mu else .bad := gII_ap
@[simp] theorem gMul_small {i j : Int} (h : -(2 ^ 64) < j ∧ j < 2 ^ 64) : gMul (.int i) (.int j) mu = .ok (.int (i * j)) mu := by rw [gMul_int, if_pos (.inl (.inr h))]
theorem gDiv_int {i j : Int} : gDiv (.int i) (.int j) mu = if CDivW i j then .ok (.int (i / j)) mu else .bad := gII_ap
@[simp] theorem gDiv_small {i j : Int} (h : 0 < j ∧ j.natAbs.log2 < 9000) : gDiv (.int i) (.int j) mu = .ok (.int (i / j)) mu := by rw [gDiv_int, if_pos (show CDivW i j from h)]
@[simp] theorem gMod_int {i j : Int} : gMod (.int i) (.int j) mu = if 0 < j then .ok (.int (i % j)) mu else .bad := gII_ap
@[simp] theorem gPow_int {i j : Int} (h : 0 ≤ j ∧ j ≤ 1000000 ∧ i.natAbs < 2 ^ 64) : gPow (.int i) (.int j) mu = .ok (.int (i ^ j.toNat)) mu := by
  have e : gPow (.int i) (.int j) mu = if CPow i j then .ok (.int (i ^ j.toNat)) mu else .bad := gII_ap
  rw [e, if_pos (show CPow i j from h)]
@[simp] theorem gCmp_int {f : Int → Int → Bool} {i j : Int} : gCmp f (.int i) (.int j) mu = .ok (.bl (f i j)) mu := by unfold gCmp; rw [gII_ap]; exact if_pos trivial
@[simp] theorem gLt_int {i j : Int} : gLt (.int i) (.int j) mu = .ok (.bl (decide (i < j))) mu := rfl
@[simp] theorem gLt_str {i j : Str} : gLt (.str i) (.str j) mu = .ok (.bl (ltS i j)) mu := rfl
@[simp] theorem gNeg_int {i : Int} : gNeg (.int i) mu = .ok (.int (-i)) mu := rfl
@[simp] theorem gNot_bl {b : Bool} : gNot (.bl b) mu = .ok (.bl (!b)) mu := rfl
@[simp] theorem rdL_fl : rdL (.fl xs) mu = .ok xs mu := rfl
@[simp] theorem rdL_ro : rdL (.ro xs) mu = .ok xs mu := rfl
@[simp] theorem rdL_ref : rdL (.ref n) mu = atL mu n := rfl
@[simp] theorem atL_ap : atL mu n = onL mu[n]? fun xs => .ok xs mu := rfl
@[simp] theorem rdQ_tup : rdQ (.tup xs) mu = .ok xs mu := rfl
@[simp] theorem rdQ_fl : rdQ (.fl xs) mu = .ok xs mu := rfl
@[simp] theorem rdQ_ro : rdQ (.ro xs) mu = .ok xs mu := rfl
@[simp] theorem rdQ_ref : rdQ (.ref n) mu = atL mu n := rfl
@[simp] theorem rdD_ref : rdD (.ref n) mu = atD mu n := rfl
@[simp] theorem rdD_fd {ks : List Key} : rdD (.fd ks xs) mu = .ok (ks.zip xs) mu := rfl
@[simp] theorem atD_ap : atD mu n = onD mu[n]? fun kvs => .ok kvs mu := rfl
@[simp] theorem walkD_tup : walkD (.tup xs) mu = .ok (xs, []) mu := rfl
@[simp] theorem walkD_fl : walkD (.fl xs) mu = .ok (xs, []) mu := rfl
@[simp] theorem walkD_ro : walkD (.ro xs) mu = .ok (xs, []) mu := rfl
@[simp] theorem walkD_ref : walkD (.ref n) mu = onL mu[n]? fun xs => .ok (xs, [(n, xs)]) mu := by
  have e : walkD (.ref n) mu = match atL mu n with
    | .ok xs mu => MP.R.ok (xs, [(n, xs)]) mu
    | _ => .bad := rfl
  rw [e]
  cases h : mu[n]? with
  | none => rw [show atL mu n = .bad from by unfold atL; rw [h]]; rfl
  | some o => cases o with
    | lst xs => rw [atL_lst h]; rfl
    | dk kvs => rw [atL_dk h]; rfl
theorem ixD_at {i : Int} (h : atI xs i = some d) : ixD xs i mu = .ok d mu := by unfold ixD; rw [h]; rfl
@[simp] theorem gIx_tup {i : Int} : gIx (.tup xs) (.int i) mu = ixD xs i mu := rfl
@[simp] theorem gIx_fl {i : Int} : gIx (.fl xs) (.int i) mu = ixD xs i mu := rfl
@[simp] theorem gIx_ro {i : Int} : gIx (.ro xs) (.int i) mu = ixD xs i mu := rfl
@[simp] theorem gIx_ref {i : Int} : gIx (.ref n) (.int i) mu = onL mu[n]? fun xs => ixD xs i mu := by
  show ((rdQ (.ref n) : M (List D)) >>= fun xs => (toI (.int i) : M Int) >>= fun i => ixD xs i) mu = _
  rw [bind_ap, rdQ_ref]
  cases h : mu[n]? with
  | none => rw [show atL mu n = .bad from by unfold atL; rw [h]]; rfl
  | some o => cases o with
    | lst xs => rw [atL_lst h]; rfl
    | dk kvs => rw [atL_dk h]; rfl
theorem gIx_str {z : Str} {i : Int} {c : Nat} (hz : z.length ≤ sizeLine) (h : atI z.cps.toList i = some c) : gIx (.str z) (.int i) mu = .ok (.str ⟨#[c]⟩) mu := by
  show ((toI (.int i) : M Int) >>= fun i => (need (z.length ≤ sizeLine) : M Unit) >>= fun _ => (match atI z.cps.toList i with
    | some c => pure (.str ⟨#[c]⟩)
    | none => bad : M D)) mu = _
  rw [bind_ap, toI_int]
  show ((need (z.length ≤ sizeLine) : M Unit) >>= fun _ => (match atI z.cps.toList i with
    | some c => pure (.str ⟨#[c]⟩)
    | none => bad : M D)) mu = _
  rw [bind_ap, need_ap, if_pos hz]
  show (match atI z.cps.toList i with
    | some c => pure (.str ⟨#[c]⟩)
    | none => bad : M D) mu = _
  rw [h]; rfl
@[simp] theorem gLen_tup : gLen (.tup xs) mu = .ok (.int xs.length) mu := rfl
@[simp] theorem gLen_fl : gLen (.fl xs) mu = .ok (.int xs.length) mu := rfl
@[simp] theorem gLen_ro : gLen (.ro xs) mu = .ok (.int xs.length) mu := rfl
theorem gLen_str {z : Str} (h : z.length ≤ sizeLine) : gLen (.str z) mu = .ok (.int z.length) mu := by
  show ((need (z.length ≤ sizeLine) : M Unit) >>= fun _ => (pure (.int z.length) : M D)) mu = _
  rw [bind_ap, need_ap, if_pos h]; rfl
theorem gLen_ref (h : mu[n]? = some (.lst xs)) : gLen (.ref n) mu = .ok (.int xs.length) mu := by
  show (match mu[n]? with
    | some (.lst xs) => MP.R.ok (D.int xs.length) mu
    | some (.dk kvs) => .ok (.int kvs.length) mu
    | none => .bad) = _
  rw [h]
@[simp] theorem gAbs_int {i : Int} : gAbs (.int i) mu = .ok (.int (if i < 0 then -i else i)) mu := rfl
@[simp] theorem gInt_int {i : Int} : gInt (.int i) mu = .ok (.int i) mu := rfl
@[simp] theorem gTuple_fl : gTuple (.fl xs) mu = .ok (.tup xs) mu := rfl
@[simp] theorem gTuple_tup : gTuple (.tup xs) mu = .ok (.tup xs) mu := rfl
@[simp] theorem gTuple_ro : gTuple (.ro xs) mu = .ok (.tup xs) mu := rfl
theorem gTup_ok (h : xs.length ≤ sizeLine) : gTup xs mu = .ok (.tup xs) mu := by
  show ((need (xs.length ≤ sizeLine) : M Unit) >>= fun _ => (pure (.tup xs) : M D)) mu = _
  rw [bind_ap, need_ap, if_pos h]; rfl
@[simp] theorem setL_ap {i : Int} : setL (.ref n) (.int i) d mu = modLr mu[n]? n (fun xs => match ixN xs.length i with
  | some j => some (xs.set j d, .non)
  | none => none) mu := rfl
@[simp] theorem modLr_lst {f : List D → Option (List D × D)} : modLr (some (.lst xs)) n f mu = match f xs with
  | some (ys, d) => .ok d (mu.set n (.lst ys))
  | none => .bad := rfl
theorem setL_ok {i : Int} {j : Nat} (h : mu[n]? = some (.lst xs)) (hj : ixN xs.length i = some j) : setL (.ref n) (.int i) d mu = .ok .non (mu.set n (.lst (xs.set j d))) := by
  rw [setL_ap, h, modLr_lst, hj]
theorem modDr_dk {f : List (Key × D) → Option (List (Key × D) × D)} {kvs : List (Key × D)} : modDr (some (.dk kvs)) n f mu = match f kvs with
  | some (ys, d) => .ok d (mu.set n (.dk ys))
  | none => .bad := rfl
theorem putM_at {kvs : List (Key × D)} {k : Key} (hk : toK y mu = .ok k mu) (h : mu[n]? = some (.dk kvs)) (hl : kvs.length < sizeLine) : putM (.ref n) y d mu = .ok .non (mu.set n (.dk (putD kvs k d))) := by
  show (toR (.ref n) >>= fun n => toK y >>= fun kk => modD n fun kvs => if kvs.length < sizeLine then some (putD kvs kk d, .non) else none) mu = _
  rw [bind_ap, toR_ref]
  show (toK y >>= fun kk => modD n fun kvs => if kvs.length < sizeLine then some (putD kvs kk d, .non) else none) mu = _
  rw [bind_ap, hk]
  show modDr mu[n]? n (fun kvs => if kvs.length < sizeLine then some (putD kvs k d, .non) else none) mu = _
  rw [h, modDr_dk, if_pos hl]
@[simp] theorem tyD_ap : (tyD .non mu = .ok "NoneType" mu) ∧ (∀ b, tyD (.bl b) mu = .ok "bool" mu) ∧ (∀ i, tyD (.int i) mu = .ok "int" mu) ∧ (∀ z, tyD (.str z) mu = .ok "str" mu) ∧ (∀ xs, tyD (.tup xs) mu = .ok "tuple" mu) ∧ (∀ xs, tyD (.fl xs) mu = .ok "list" mu) ∧ (∀ xs, tyD (.ro xs) mu = .ok "list" mu) ∧ ∀ ks xs, tyD (.fd ks xs) mu = .ok "dict" mu := ⟨rfl, fun _ => rfl, fun _ => rfl, fun _ => rfl, fun _ => rfl, fun _ => rfl, fun _ => rfl, fun _ _ => rfl⟩
@[simp] theorem gIsi_ap {T : String} : gIsi T x = (tyD x >>= fun t => pure (.bl (isiB t T))) := rfl
@[simp] theorem runB_ap {r : Env → M Fl} : runB n r xs mu = match r (startE n xs) mu with
  | .ok (.rt rv) mu' => .ok rv mu'
  | .ok (.nx _) mu' => .ok (.vl .non) mu'
  | .ok _ _ => .bad
  | .exc x mu' => .exc x mu'
  | .bad => .bad := rfl
theorem chk_nil : chk [] mu = .ok () mu := by unfold chk; rw [if_pos]; simp
theorem chk_one (h : mu[n]? = some (.lst xs)) : chk [(n, xs)] mu = .ok () mu := by unfold chk; rw [if_pos]; simpa using h
end
/-! ### loops over things that stand still -/
section
variable {asg : D → Env → M Env} {body : Env → M Fl} {fg : List Nat} {t : Env → M Bool} {r : Env → M D} {env env1 : Env} {mu mu' mu1 mu2 mu3 : List MO} {d x : D} {ds xs : List D}
theorem loopF_nil : loopF asg body fg [] [] env mu = .ok (.nx (wipeE env fg)) mu := by
  show ((chk [] : M Unit) >>= fun _ => (pure (.nx (wipeE env fg)) : M Fl)) mu = _
  rw [bind_ap, chk_nil]; rfl
theorem loopF_cons : loopF asg body fg [] (d :: ds) env mu = (asg d (wipeE env fg) >>= fun env1 => body env1 >>= fun fl => match fl with
    | .nx e => loopF asg body fg [] ds e
    | .ct e => loopF asg body fg [] ds e
    | .bk e => pure (.nx (wipeE e fg))
    | .rt rv => pure (.rt rv)) mu := by
  show ((chk [] : M Unit) >>= fun _ => asg d (wipeE env fg) >>= fun env1 => body env1 >>= fun fl => match fl with
    | .nx e => loopF asg body fg [] ds e
    | .ct e => loopF asg body fg [] ds e
    | .bk e => pure (.nx (wipeE e fg))
    | .rt rv => pure (.rt rv)) mu = _
  rw [bind_ap, chk_nil]
theorem loopC_nil : loopC asg t r [] [] env mu = .ok [] mu := by
  show ((chk [] : M Unit) >>= fun _ => (pure [] : M (List D))) mu = _
  rw [bind_ap, chk_nil]; rfl
theorem loopC_cons : loopC asg t r [] (d :: ds) env mu = (asg d env >>= fun env1 => t env1 >>= fun b => if b = true then (r env1 >>= fun x => loopC asg t r [] ds env >>= fun xs => pure (x :: xs)) else loopC asg t r [] ds env) mu := by
  show ((chk [] : M Unit) >>= fun _ => asg d env >>= fun env1 => t env1 >>= fun b => if b = true then (r env1 >>= fun x => loopC asg t r [] ds env >>= fun xs => pure (x :: xs)) else loopC asg t r [] ds env) mu = _
  rw [bind_ap, chk_nil]
theorem loopC_yes (h1 : asg d env mu = .ok env1 mu1) (h2 : t env1 mu1 = .ok true mu1) (h3 : r env1 mu1 = .ok x mu2) (h4 : loopC asg t r [] ds env mu2 = .ok xs mu3) : loopC asg t r [] (d :: ds) env mu = .ok (x :: xs) mu3 := by
  rw [loopC_cons]
  simp [h1, h2, h3, h4]
theorem loopC_no (h1 : asg d env mu = .ok env1 mu1) (h2 : t env1 mu1 = .ok false mu1) (h4 : loopC asg t r [] ds env mu1 = .ok xs mu3) : loopC asg t r [] (d :: ds) env mu = .ok xs mu3 := by
  rw [loopC_cons]
  simp [h1, h2, h4]
/-- a comprehension that changes nothing: each item by itself -/
theorem loopC_map {f : D → D} (h : ∀ d ∈ ds, ∃ env1, asg d env mu = .ok env1 mu ∧ t env1 mu = .ok true mu ∧ r env1 mu = .ok (f d) mu) : loopC asg t r [] ds env mu = .ok (ds.map f) mu := by
  induction ds with
  | nil => exact loopC_nil
  | cons d ds ih =>
    obtain ⟨env1, h1, h2, h3⟩ := h d (by simp)
    exact loopC_yes h1 h2 h3 (ih fun e he => h e (by simp [he]))
theorem loopC_filter {f : D → D} {p : D → Bool} (h : ∀ d ∈ ds, ∃ env1, asg d env mu = .ok env1 mu ∧ t env1 mu = .ok (p d) mu ∧ (p d = true → r env1 mu = .ok (f d) mu)) : loopC asg t r [] ds env mu = .ok ((ds.filter p).map f) mu := by
  induction ds with
  | nil => exact loopC_nil
  | cons d ds ih =>
    obtain ⟨env1, h1, h2, h3⟩ := h d (by simp)
    have ih := ih fun e he => h e (by simp [he])
    cases hp : p d with
    | true =>
      rw [List.filter_cons_of_pos hp, List.map_cons]
      exact loopC_yes h1 (by rw [h2, hp]) (h3 hp) ih
    | false =>
      rw [List.filter_cons_of_neg (by rw [hp]; decide)]
      exact loopC_no h1 (by rw [h2, hp]) ih
end
end MP
namespace MP
open PySem L2 PyProof.Rows
/-! ### the words that all laws share -/
/-- names: 0 script -/
noncomputable def r__law_start : MP.Env → M Fl :=
  (sRetF (aList (aCons (eFl (fThen1 rdQ (aCons (eVar 0) aNil))) (aCons (eC (.int 0)) (aCons (eC (.int 0)) (aCons (eC (.int 0)) aNil))))))
noncomputable def den__law_start : List D → M Rv := fun ds => noX (runB 1 (r__law_start) ds)
/-- names: 0 state, 1 most, 2 cell, 3 mixed, 4 found -/
noncomputable def r__law_draw : MP.Env → M Fl :=
  (sSeq (sSub (eVar 0) (eC (.int 3)) (eBin gAdd (eBin gIx (eVar 0) (eC (.int 3))) (eC (.int 1))))
  (sSeq (eIf (eB (eBin (gCmp fun i j => decide (j < i)) (eBin gIx (eVar 0) (eC (.int 2))) (eC (.int 0))))
  (sSeq (sSet 4 (eBin gMod (aThen (g1 gInt) (aCons (eBin gIx (eVar 0) (eC (.int 2))) aNil)) (eVar 1)))
  (sSeq (sSub (eVar 0) (eC (.int 2)) (eBin gDiv (eBin gIx (eVar 0) (eC (.int 2))) (eVar 1)))
  (sRet (eVar 4))))
  sNext)
  (sSeq (sSet 2 (eC (.int 0)))
  (sSeq (eIf (eB (eBin (gCmp fun i j => decide (j < i)) (aThen (g1 gLen) (aCons (eBin gIx (eVar 0) (eC (.int 0))) aNil)) (eC (.int 0))))
  (sSet 2 (aThen (g1 gAbs) (aCons (eBin gIx (eBin gIx (eVar 0) (eC (.int 0))) (eBin gMod (aThen (g1 gInt) (aCons (eBin gIx (eVar 0) (eC (.int 1))) aNil)) (aThen (g1 gLen) (aCons (eBin gIx (eVar 0) (eC (.int 0))) aNil)))) aNil)))
  sNext)
  (sSeq (sSub (eVar 0) (eC (.int 1)) (eBin gAdd (eBin gIx (eVar 0) (eC (.int 1))) (eC (.int 1))))
  (sSeq (eIf (eB (eBin (gCmp fun i j => decide (j ≤ i)) (eVar 2) (eBin gPow (eC (.int 10)) (eC (.int 18)))))
  (sSeq (sSub (eVar 0) (eC (.int 2)) (eBin gDiv (eVar 2) (eVar 1)))
  (sRet (eBin gMod (aThen (g1 gInt) (aCons (eVar 2) aNil)) (eVar 1))))
  sNext)
  (sSeq (sSet 3 (eBin gMod (aThen (g1 gInt) (aCons (eBin gAdd (eBin gMul (eBin gAdd (eVar 2) (eC (.int 1))) (eC (.int 48271))) (eBin gMul (eBin gIx (eVar 0) (eC (.int 3))) (eC (.int 69621)))) aNil)) (eC (.int 2147483647))))
  (sSeq (sSet 3 (eBin gMod (aThen (g1 gInt) (aCons (eBin gAdd (eBin gAdd (eBin gMul (eVar 3) (eC (.int 16807))) (eBin gDiv (eVar 2) (eC (.int 97)))) (eBin gIx (eVar 0) (eC (.int 3)))) aNil)) (eC (.int 2147483629))))
  (sRet (eBin gMod (eBin gDiv (eVar 3) (eC (.int 11))) (eVar 1)))))))))))
noncomputable def den__law_draw : List D → M Rv := fun ds => noX (runB 5 (r__law_draw) ds)
/-- names: 0 state, 1 items -/
noncomputable def r__law_one_of (d__law_draw : List D → M Rv) : MP.Env → M Fl :=
  (sRet (eBin gIx (eVar 1) (eCall (lenD 2 d__law_draw) (aCons (eVar 0) (aCons (aThen (g1 gLen) (aCons (eVar 1) aNil)) aNil)))))
noncomputable def den__law_one_of (d__law_draw : List D → M Rv) : List D → M Rv := fun ds => noX (runB 2 (r__law_one_of d__law_draw) ds)
/-- names: 0 x -/
noncomputable def r__law_is_int : MP.Env → M Fl :=
  (sRet (eAnd (eMap (gIsi "int") (eVar 0)) (eMap gNot (eMap (gIsi "bool") (eVar 0)))))
noncomputable def den__law_is_int : List D → M Rv := fun ds => noX (runB 1 (r__law_is_int) ds)
/-- names: 0 x, 1 y, 2 k -/
noncomputable def r__law_same (d__law_same : List D → M Rv) (d__law_is_int : List D → M Rv) : MP.Env → M Fl :=
  (sSeq (eIf (eB (eMap (gIsi "tuple") (eVar 1)))
  (sSeq (eIf (bOr (bNot (eB (eMap (gIsi "tuple") (eVar 0)))) (eB (eBin (gEq true) (aThen (g1 gLen) (aCons (eVar 0) aNil)) (aThen (g1 gLen) (aCons (eVar 1) aNil)))))
  (sRet (eC (.bl false)))
  sNext)
  (sRet (aThen (g1 gAll) (aCons (eFl (fComp (wThen wRng1 (aCons (aThen (g1 gLen) (aCons (eVar 1) aNil)) aNil)) (asgN 2) tYesM (eCall (lenD 2 d__law_same) (aCons (eBin gIx (eVar 0) (eVar 2)) (aCons (eBin gIx (eVar 1) (eVar 2)) aNil))) [2])) aNil))))
  sNext)
  (sSeq (eIf (eB (eMap (gIsi "str") (eVar 1)))
  (sRet (eAnd (eMap (gIsi "str") (eVar 0)) (eBin (gEq false) (eVar 0) (eVar 1))))
  sNext)
  (sRet (eAnd (eCall (lenD 1 d__law_is_int) (aCons (eVar 0) aNil)) (eBin (gEq false) (eVar 0) (eVar 1))))))
noncomputable def den__law_same (d__law_same : List D → M Rv) (d__law_is_int : List D → M Rv) : List D → M Rv := fun ds => noX (runB 3 (r__law_same d__law_same d__law_is_int) ds)
@[simp] theorem ixD0 {x : D} {xs : List D} {mu : List MO} : ixD (x :: xs) 0 mu = .ok x mu := ixD_at (by unfold atI ixN; simp)
@[simp] theorem ixD1 {a x : D} {xs : List D} {mu : List MO} : ixD (a :: x :: xs) 1 mu = .ok x mu := ixD_at (by unfold atI ixN; simp; rw [if_pos (by omega)]; rfl)
@[simp] theorem ixD2 {a b x : D} {xs : List D} {mu : List MO} : ixD (a :: b :: x :: xs) 2 mu = .ok x mu := ixD_at (by unfold atI ixN; simp; rw [if_pos (by omega)]; rfl)
@[simp] theorem ixD3 {a b c x : D} {xs : List D} {mu : List MO} : ixD (a :: b :: c :: x :: xs) 3 mu = .ok x mu := ixD_at (by unfold atI ixN; simp; rw [if_pos (by omega)]; rfl)
def st (cs : List Int) (a b c : Int) : MO := .lst [.fl (cs.map .int), .int a, .int b, .int c]
theorem atI_mod {cs : List Int} (h : 0 < cs.length) (a : Int) : ∃ v, atI (cs.map D.int) (a % (cs.length : Int)) = some (.int v) := by
  have h1 := Int.emod_nonneg a (b := (cs.length : Int)) (by omega)
  have h2 := Int.emod_lt_of_pos a (b := (cs.length : Int)) (by omega)
  unfold atI ixN
  rw [List.length_map, if_pos h1, if_pos h2]
  have hk : (a % (cs.length : Int)).toNat < cs.length := by omega
  exact ⟨cs[(a % (cs.length : Int)).toNat], by simp [hk]⟩
theorem draw_ok {s : Nat} {cs : List Int} {a b c most : Int} {mu : List MO} (h : mu[s]? = some (st cs a b c)) (hm : 0 < most) (hl : most.natAbs.log2 < 9000) :
    ∃ d a' b' c', den__law_draw [.ref s, .int most] mu = .ok (.vl (.int d)) (mu.set s (st cs a' b' c')) ∧ 0 ≤ d ∧ d < most := by
  have hs : s < mu.length := (List.getElem?_eq_some_iff.mp h).1
  unfold st at h
  have q : ∀ x : Int, 0 ≤ x % most ∧ x % most < most := fun x => ⟨Int.emod_nonneg x (by omega), Int.emod_lt_of_pos x hm⟩
  by_cases hb : 0 < b
  · refine ⟨b % most, a, b / most, c + 1, noX_ok ?_, (q b).1, (q b).2⟩
    have hset : ∀ x : MO, (mu.set s x)[s]? = some x := fun x => List.getElem?_set_self hs
    simp [r__law_draw, startE, h, hset, hb, hm, hl, st, ixN]
  · have hset : ∀ x : MO, (mu.set s x)[s]? = some x := fun x => List.getElem?_set_self hs
    have l97 : Nat.log2 97 < 9000 := by decide
    have l11 : Nat.log2 11 < 9000 := by decide
    have p18 : (10 : Int) ^ (18 : Int).toNat = 1000000000000000000 := by decide
    by_cases z : 0 < cs.length
    · obtain ⟨v, hv⟩ := atI_mod (cs := cs) z a
      generalize hcell : (if v < 0 then -v else v) = cell
      by_cases h18 : 1000000000000000000 ≤ cell
      · refine ⟨cell % most, a + 1, cell / most, c + 1, noX_ok ?_, (q cell).1, (q cell).2⟩
        simp [r__law_draw, startE, h, hset, hb, hm, hl, st, ixN, z, ixD_at hv, hcell, h18, l97, l11]
      · refine ⟨(((((cell + 1) * 48271 + (c + 1) * 69621) % 2147483647 * 16807 + cell / 97 + (c + 1)) % 2147483629) / 11) % most, a + 1, b, c + 1, noX_ok ?_, (q _).1, (q _).2⟩
        simp [r__law_draw, startE, h, hset, hb, hm, hl, st, ixN, z, ixD_at hv, hcell, h18, l97, l11]
    · refine ⟨(((((0 + 1) * 48271 + (c + 1) * 69621) % 2147483647 * 16807 + 0 / 97 + (c + 1)) % 2147483629) / 11) % most, a + 1, b, c + 1, noX_ok ?_, (q _).1, (q _).2⟩
      simp [r__law_draw, startE, h, hset, hb, hm, hl, st, ixN, z, l97, l11]
end MP
namespace MP
open PySem L2 PyProof.Rows
/-! ### what the shared words answer -/
theorem start_ok {cs : List Int} {mu : List MO} (h : cs.length ≤ 63) : den__law_start [.ro (cs.map .int)] mu = .ok (.fr [.fl (cs.map .int), .int 0, .int 0, .int 0]) mu := by
  refine noX_ok ?_
  have e : (4 : Nat) ≤ sizeLine := by decide
  simp [r__law_start, startE, e]
/-- the state's place -/
def At (s : Nat) (cs : List Int) (mu : List MO) : Prop := ∃ a b c, mu[s]? = some (st cs a b c)
/-- the state moved on, nothing else -/
def Nx (s : Nat) (cs : List Int) (mu mu' : List MO) : Prop := ∃ a b c, mu' = mu.set s (st cs a b c)
theorem At.lt {s : Nat} {cs : List Int} {mu : List MO} (h : At s cs mu) : s < mu.length := by
  obtain ⟨a, b, c, h⟩ := h
  exact (List.getElem?_eq_some_iff.mp h).1
theorem Nx.at_ {s : Nat} {cs : List Int} {mu mu' : List MO} (h : At s cs mu) (n : Nx s cs mu mu') : At s cs mu' := by
  obtain ⟨a, b, c, e⟩ := n
  exact ⟨a, b, c, by rw [e, List.getElem?_set_self h.lt]⟩
theorem Nx.trans {s : Nat} {cs : List Int} {mu mu1 mu2 : List MO} (n : Nx s cs mu mu1) (n' : Nx s cs mu1 mu2) : Nx s cs mu mu2 := by
  obtain ⟨a, b, c, e⟩ := n
  obtain ⟨a', b', c', e'⟩ := n'
  exact ⟨a', b', c', by rw [e', e, List.set_set]⟩
theorem Nx.refl {s : Nat} {cs : List Int} {mu : List MO} (h : At s cs mu) : Nx s cs mu mu := by
  obtain ⟨a, b, c, h⟩ := h
  refine ⟨a, b, c, ?_⟩
  apply List.ext_getElem?
  intro i
  by_cases e : s = i
  · subst e; rw [List.getElem?_set_self (List.getElem?_eq_some_iff.mp h).1]; exact h
  · rw [List.getElem?_set_ne e]
theorem draw_at {s : Nat} {cs : List Int} {most : Int} {mu : List MO} (h : At s cs mu) (hm : 0 < most) (hl : most.natAbs.log2 < 9000) : ∃ d mu', den__law_draw [.ref s, .int most] mu = .ok (.vl (.int d)) mu' ∧ Nx s cs mu mu' ∧ 0 ≤ d ∧ d < most := by
  obtain ⟨a, b, c, h⟩ := h
  obtain ⟨d, a', b', c', e, h1, h2⟩ := draw_ok h hm hl
  exact ⟨d, _, e, ⟨a', b', c', rfl⟩, h1, h2⟩
theorem atI_of {xs : List D} {i : Int} (h0 : 0 ≤ i) (h1 : i < xs.length) : ∃ x, x ∈ xs ∧ atI xs i = some x := by
  have hk : i.toNat < xs.length := by omega
  refine ⟨xs[i.toNat], List.getElem_mem hk, ?_⟩
  unfold atI ixN
  rw [if_pos h0, if_pos h1]
  exact List.getElem?_eq_getElem hk
theorem log2_small {n : Nat} (h : n < 2 ^ 64) : n.log2 < 9000 := by
  rcases Nat.eq_zero_or_pos n with e | e
  · subst e; decide
  · have := (Nat.log2_lt (by omega)).mpr h
    omega
theorem one_of_at {s : Nat} {cs : List Int} {xs : List D} {mu : List MO} (h : At s cs mu) (h0 : 0 < xs.length) (h1 : xs.length < 1000) : ∃ x mu', den__law_one_of den__law_draw [.ref s, .fl xs] mu = .ok (.vl x) mu' ∧ Nx s cs mu mu' ∧ x ∈ xs := by
  obtain ⟨d, mu', e, n, d0, d1⟩ := draw_at (most := (xs.length : Int)) h (by omega) (log2_small (by simp; omega))
  obtain ⟨x, hx, ex⟩ := atI_of d0 d1
  refine ⟨x, mu', noX_ok ?_, n, hx⟩
  simp [r__law_one_of, startE, e, ixD_at ex]
/-! same -/
theorem fn_bad {P : Program} {w : World} {K : PySem.W.Frag} {mg : Str → Option Value} {base : Heap} {CX : CXT} {k n : Nat} {f : Addr} {fd : FuncData} {ps : List Str} : FnOk P w K mg base CX k f fd ps (sp K mg n fun _ _ => .bad) := by
  have no : ∀ vs H Q E, ¬ sp K mg n (fun _ _ => .bad) vs H Q E := fun vs H Q E h => by
    obtain ⟨_, _, _, _, _, _, h⟩ := h
    exact h
  exact ⟨fun vs H Q E h => absurd h (no vs H Q E), fun A outer s H args us vs Q E _ _ _ _ h => absurd h (no vs H Q E)⟩
noncomputable def sameL : Nat → List D → M Rv
  | 0 => fun _ _ => .bad
  | n + 1 => den__law_same (sameL n) den__law_is_int
mutual
/-- data of tuples, texts and ints, less deep than n -/
def plainD : Nat → D → Bool
  | _ + 1, .int _ => true
  | _ + 1, .str _ => true
  | n + 1, .tup xs => decide (xs.length ≤ 1000) && plainDs n xs
  | _, _ => false
def plainDs : Nat → List D → Bool
  | _, [] => true
  | n, x :: xs => plainD n x && plainDs n xs
end
theorem plainDs_mem {n : Nat} : ∀ {xs : List D}, plainDs n xs = true → ∀ x ∈ xs, plainD n x = true
  | [], _, x, hx => by simp at hx
  | y :: ys, h, x, hx => by
    rw [plainDs, Bool.and_eq_true] at h
    rcases List.mem_cons.mp hx with e | e
    · rw [e]; exact h.1
    · exact plainDs_mem h.2 x e
theorem is_int_int {i : Int} {mu : List MO} : den__law_is_int [.int i] mu = .ok (.vl (.bl true)) mu := by
  refine noX_ok ?_
  simp [r__law_is_int, startE, isiB]
theorem gEq_int {i : Int} {mu : List MO} : gEq false (.int i) (.int i) mu = .ok (.bl true) mu := by
  unfold gEq
  simp [okE, dep, eqD]
theorem gEq_str {i : Str} {mu : List MO} : gEq false (.str i) (.str i) mu = .ok (.bl true) mu := by
  unfold gEq
  simp [okE, dep, eqD]
theorem gEq_ints {neg : Bool} {i j : Int} {mu : List MO} : gEq neg (.int i) (.int j) mu = .ok (.bl ((i == j) != neg)) mu := by
  unfold gEq
  simp [okE, dep, eqD]
theorem toBs_true {xs : List D} {mu : List MO} : toBs (xs.map fun _ => D.bl true) mu = .ok (xs.map fun _ => true) mu := by
  induction xs with
  | nil => rfl
  | cons x xs ih =>
    show ((toB (.bl true) : M Bool) >>= fun b => toBs (xs.map fun _ => D.bl true) >>= fun bs => pure (b :: bs)) mu = _
    simp [ih]
theorem sameL_eq {n : Nat} {ds : List D} : sameL (n + 1) ds = noX (runB 3 (r__law_same (sameL n) den__law_is_int) ds) := rfl
theorem same_ok : ∀ (n : Nat) (d : D) (mu : List MO), plainD n d = true → sameL (n + 1) [d, d] mu = .ok (.vl (.bl true)) mu
  | 0, d, mu, h => by cases d <;> simp [plainD] at h
  | n + 1, .int i, mu, _ => by
    rw [sameL_eq]
    refine noX_ok ?_
    simp [r__law_same, startE, isiB, is_int_int, gEq_int]
  | n + 1, .str i, mu, _ => by
    rw [sameL_eq]
    refine noX_ok ?_
    simp [r__law_same, startE, isiB, gEq_str]
  | n + 1, .tup xs, mu, h => by
    have h' : (decide (xs.length ≤ 1000) && plainDs n xs) = true := h
    rw [Bool.and_eq_true, decide_eq_true_eq] at h'
    have hp := plainDs_mem h'.2
    have hz : (xs.length : Int) ≤ 16777216 := by have := h'.1; omega
    rw [sameL_eq]
    refine noX_ok ?_
    have hc : loopC (asgN 2) tYesM (eCall (lenD 2 (sameL (n + 1))) (aCons (eBin gIx (eVar 0) (eVar 2)) (aCons (eBin gIx (eVar 1) (eVar 2)) aNil))) [] (rngD 0 xs.length) [some (D.tup xs), some (D.tup xs), none] mu = .ok ((rngD 0 xs.length).map fun _ => D.bl true) mu := by
      refine loopC_map fun d hd => ?_
      obtain ⟨i, hi, e⟩ := List.mem_map.mp (show d ∈ (List.range xs.length).map fun (i : Nat) => D.int (0 + (i : Int)) from hd)
      subst e
      have hi := List.mem_range.mp hi
      obtain ⟨x, hx, ex⟩ := atI_of (xs := xs) (i := (i : Int)) (by omega) (by omega)
      have ih := same_ok n x mu (hp x hx)
      refine ⟨_, rfl, rfl, ?_⟩
      simp [ixD_at ex, ih]
    simp [r__law_same, startE, isiB, gEq_ints, wRng1, hc, noX_ok hc, gAll, toBs_true, hz]
end MP
namespace MP
open PySem L2 PyProof.Rows
/-! ### forms.form -/
/-- names: 0 constant, 1 pairs, 2 sums, 3 name, 4 coefficient -/
noncomputable def r_form : MP.Env → M Fl :=
  (sSeq (sSet 2 eNewD)
  (sSeq (sFor (eWalk (eVar 1)) (asgT 2 (asgCons (asgN 3) (asgCons (asgN 4) asgNil)))
  (sDput (eVar 2) (eVar 3) (eBin gAdd (eGet2 (eVar 2) (eVar 3) (eC (.int 0))) (eVar 4))) [3, 4])
  (sRet (aThen gTup (aCons (eVar 0) (aCons (aThen (g1 gTuple) (aCons (eFl (fComp (eWalk (eFl (fSrtD (eVar 2)))) (asgN 3) (eB (eBin (gEq true) (eBin gDget (eVar 2) (eVar 3)) (eC (.int 0)))) (aThen gTup (aCons (eVar 3) (aCons (eBin gDget (eVar 2) (eVar 3)) aNil))) [3])) aNil)) aNil))))))
noncomputable def den_form : List D → M Rv := fun ds => noX (runB 5 (r_form) ds)
/-! dicts, plainly -/
def valG {β : Type} (kvs : List (Key × β)) (k : Key) : Option β := (kvs.find? fun kv => decide (kv.1 = k)).map (·.2)
section
variable {β : Type} {kvs r : List (Key × β)} {k j : Key} {y : β} {p : Key × β}
theorem valG_pos (e : p.1 = k) : valG (p :: r) k = some p.2 := by simp [valG, List.find?_cons, e]
theorem valG_neg (e : ¬ p.1 = k) : valG (p :: r) k = valG r k := by simp [valG, List.find?_cons, e]
theorem valG_any : ∀ kvs : List (Key × β), (kvs.any fun kv => decide (kv.1 = k)) = (valG kvs k).isSome
  | [] => rfl
  | p :: r => by
    rw [List.any_cons]
    by_cases e : p.1 = k
    · rw [valG_pos e, decide_eq_true e]; rfl
    · rw [valG_neg e, decide_eq_false e, Bool.false_or]; exact valG_any r
theorem valG_map : ∀ kvs : List (Key × β), valG (mapV kvs k y) j = (valG kvs j).map fun x => if j = k then y else x
  | [] => rfl
  | p :: r => by
    have ih := valG_map r
    unfold mapV at ih ⊢
    rw [List.map_cons]
    by_cases h : p.1 = j
    · rw [valG_pos (p := p) h]
      by_cases h2 : p.1 = k
      · rw [if_pos h2, valG_pos (p := (p.1, y)) h, Option.map_some, if_pos (h.symm.trans h2)]
      · rw [if_neg h2, valG_pos h, Option.map_some, if_neg (fun e => h2 (h.trans e))]
    · rw [valG_neg (p := p) h, ← ih]
      by_cases h2 : p.1 = k
      · rw [if_pos h2, valG_neg (p := (p.1, y)) h]
      · rw [if_neg h2, valG_neg h]
theorem valG_snoc : ∀ kvs : List (Key × β), valG kvs k = none → valG (kvs ++ [(k, y)]) j = if j = k then some y else valG kvs j
  | [], _ => by
    by_cases e : k = j
    · rw [if_pos e.symm]; exact valG_pos (p := (k, y)) e
    · rw [if_neg (fun z => e z.symm)]; exact valG_neg (p := (k, y)) e
  | p :: r, hn => by
    rw [List.cons_append]
    by_cases h : p.1 = k
    · rw [valG_pos h] at hn; cases hn
    · rw [valG_neg h] at hn
      have ih := valG_snoc r hn
      by_cases h2 : p.1 = j
      · rw [valG_pos h2, valG_pos h2, if_neg (fun e => h (h2.trans e))]
      · rw [valG_neg h2, valG_neg h2, ih]
theorem valG_put : valG (putD kvs k y) j = if j = k then some y else valG kvs j := by
  unfold putD
  by_cases a : (kvs.any fun kv => decide (kv.1 = k)) = true
  · rw [if_pos a, valG_map]
    rw [valG_any] at a
    by_cases e : j = k
    · obtain ⟨x, hx⟩ := Option.isSome_iff_exists.mp a
      subst e
      rw [hx, Option.map_some, if_pos rfl, if_pos rfl]
    · rw [if_neg e]
      cases valG kvs j with
      | none => rfl
      | some x => rw [Option.map_some, if_neg e]
  · rw [if_neg a]
    rw [valG_any] at a
    exact valG_snoc kvs (by cases h : valG kvs k with | none => rfl | some x => rw [h] at a; exact absurd rfl a)
theorem valG_mem : k ∈ kvs.map (·.1) ↔ (valG kvs k).isSome = true := by
  rw [← valG_any, List.any_eq_true, List.mem_map]
  constructor
  · rintro ⟨p, hp, e⟩; exact ⟨p, hp, decide_eq_true e⟩
  · rintro ⟨p, hp, e⟩; exact ⟨p, hp, of_decide_eq_true e⟩
theorem keys_put_in (h : k ∈ kvs.map (·.1)) : (putD kvs k y).map (·.1) = kvs.map (·.1) := by
  unfold putD
  rw [if_pos (by rw [valG_any]; exact valG_mem.mp h), mapV_keys]
theorem keys_put_new (h : ¬ k ∈ kvs.map (·.1)) : (putD kvs k y).map (·.1) = kvs.map (·.1) ++ [k] := by
  unfold putD
  rw [if_neg (fun a => h (valG_mem.mpr (by rw [← valG_any]; exact a))), List.map_append]; rfl
theorem length_put : (putD kvs k y).length ≤ kvs.length + 1 := by
  unfold putD
  split
  · unfold mapV; rw [List.length_map]; omega
  · simp
end
def toKD (l : List (Key × Int)) : List (Key × D) := l.map fun p => (p.1, .int p.2)
theorem toKD_keys {l : List (Key × Int)} : (toKD l).map (·.1) = l.map (·.1) := by unfold toKD; rw [List.map_map]; rfl
theorem toKD_val {l : List (Key × Int)} {k : Key} : valD (toKD l) k = (valG l k).map .int := by
  induction l with
  | nil => rfl
  | cons p r ih =>
    have e : valD (toKD (p :: r)) k = valG ((p.1, D.int p.2) :: toKD r) k := rfl
    rw [e]
    by_cases h : p.1 = k
    · rw [valG_pos (p := (p.1, D.int p.2)) h, valG_pos h]; rfl
    · rw [valG_neg (p := (p.1, D.int p.2)) h, valG_neg h]; exact ih
theorem toKD_put {l : List (Key × Int)} {k : Key} {i : Int} : putD (toKD l) k (.int i) = toKD (putD l k i) := by
  unfold putD
  have e : ((toKD l).any fun kv => decide (kv.1 = k)) = l.any fun kv => decide (kv.1 = k) := by unfold toKD; rw [List.any_map]; rfl
  rw [e]
  split
  · unfold mapV toKD
    rw [List.map_map, List.map_map]
    apply List.map_congr_left
    intro p _
    show (if p.1 = k then (p.1, D.int i) else (p.1, D.int p.2)) = ((if p.1 = k then (p.1, i) else p).1, D.int (if p.1 = k then (p.1, i) else p).2)
    split <;> rfl
  · unfold toKD; rw [List.map_append]; rfl
/-! the sums -/
def pairD (p : Str × Int) : D := .tup [.str p.1, .int p.2]
def sums : List (Key × Int) → List (Str × Int) → List (Key × Int)
  | l, [] => l
  | l, p :: r => sums (putD l (.inr p.1) ((valG l (.inr p.1)).getD 0 + p.2)) r
theorem sums_length : ∀ (ps : List (Str × Int)) (l : List (Key × Int)), (sums l ps).length ≤ l.length + ps.length
  | [], l => by unfold sums; simp
  | p :: r, l => by
    unfold sums
    have := sums_length r (putD l (.inr p.1) ((valG l (.inr p.1)).getD 0 + p.2))
    have h2 := length_put (kvs := l) (k := .inr p.1) (y := (valG l (.inr p.1)).getD 0 + p.2)
    rw [List.length_cons]
    omega
theorem form_loop {c d : D} {n : Nat} : ∀ (ps : List (Str × Int)) (l : List (Key × Int)) (mu : List MO) (o3 o4 : Option D), mu[n]? = some (.dk (toKD l)) → l.length + ps.length < sizeLine →
    loopF (asgT 2 (asgCons (asgN 3) (asgCons (asgN 4) asgNil))) (sDput (eVar 2) (eVar 3) (eBin gAdd (eGet2 (eVar 2) (eVar 3) (eC (.int 0))) (eVar 4))) [3, 4] [] (ps.map pairD) [some c, some d, some (.ref n), o3, o4] mu =
      .ok (.nx [some c, some d, some (.ref n), none, none]) (mu.set n (.dk (toKD (sums l ps))))
  | [], l, mu, _, _, h, _ => by
    rw [List.map_nil, loopF_nil]
    have e : mu.set n (.dk (toKD (sums l []))) = mu := by
      apply List.ext_getElem?
      intro i
      by_cases e : n = i
      · subst e; rw [List.getElem?_set_self (List.getElem?_eq_some_iff.mp h).1]; exact h.symm
      · rw [List.getElem?_set_ne e]
    rw [e]; rfl
  | p :: r, l, mu, _, _, h, hl => by
    have hn : n < mu.length := (List.getElem?_eq_some_iff.mp h).1
    have hset : ∀ x : MO, (mu.set n x)[n]? = some x := fun x => List.getElem?_set_self hn
    have hl' : (toKD l).length < sizeLine := by unfold toKD; rw [List.length_map]; rw [List.length_cons] at hl; omega
    have ih := form_loop (c := c) (d := d) (n := n) r (putD l (.inr p.1) ((valG l (.inr p.1)).getD 0 + p.2)) (mu.set n (.dk (toKD (putD l (.inr p.1) ((valG l (.inr p.1)).getD 0 + p.2))))) (some (.str p.1)) (some (.int p.2)) (hset _) (by
      have := length_put (kvs := l) (k := .inr p.1) (y := (valG l (.inr p.1)).getD 0 + p.2)
      rw [List.length_cons] at hl; omega)
    rw [List.set_set] at ih
    rw [List.map_cons, loopF_cons]
    have hv : ((Option.map D.int (valG l (.inr p.1))).getD (D.int 0)) = D.int ((valG l (.inr p.1)).getD 0) := by cases valG l (.inr p.1) <;> rfl
    have hput : putM (.ref n) (.str p.1) (.int ((valG l (.inr p.1)).getD 0 + p.2)) mu = .ok .non (mu.set n (.dk (toKD (putD l (.inr p.1) ((valG l (.inr p.1)).getD 0 + p.2))))) := by
      rw [putM_at (k := .inr p.1) rfl h hl', toKD_put]
    simp [pairD, h, toKD_val, hv, hput]
    exact ih
end MP
namespace MP
open PySem L2 PyProof.Rows
section
variable {γ : Type} {asg : D → Env → M Env} {t : Env → M Bool} {r : Env → M D} {env : Env} {mu : List MO}
theorem loopC_filter' {g f : γ → D} {p : γ → Bool} : ∀ {xs : List γ}, (∀ x ∈ xs, ∃ env1, asg (g x) env mu = .ok env1 mu ∧ t env1 mu = .ok (p x) mu ∧ (p x = true → r env1 mu = .ok (f x) mu)) → loopC asg t r [] (xs.map g) env mu = .ok ((xs.filter p).map f) mu
  | [], _ => loopC_nil
  | x :: xs, h => by
    obtain ⟨env1, h1, h2, h3⟩ := h x (by simp)
    have ih := loopC_filter' (xs := xs) fun e he => h e (by simp [he])
    rw [List.map_cons]
    cases hp : p x with
    | true =>
      rw [List.filter_cons_of_pos hp, List.map_cons]
      exact loopC_yes h1 (by rw [h2, hp]) (h3 hp) ih
    | false =>
      rw [List.filter_cons_of_neg (by rw [hp]; decide)]
      exact loopC_no h1 (by rw [h2, hp]) ih
theorem loopC_map' {g f : γ → D} : ∀ {xs : List γ}, (∀ x ∈ xs, ∃ env1, asg (g x) env mu = .ok env1 mu ∧ t env1 mu = .ok true mu ∧ r env1 mu = .ok (f x) mu) → loopC asg t r [] (xs.map g) env mu = .ok (xs.map f) mu
  | [], _ => loopC_nil
  | x :: xs, h => by
    obtain ⟨env1, h1, h2, h3⟩ := h x (by simp)
    rw [List.map_cons, List.map_cons]
    exact loopC_yes h1 h2 h3 (loopC_map' (xs := xs) fun e he => h e (by simp [he]))
end
theorem keyStrs_map : ∀ (ns : List Str), keyStrs (ns.map Sum.inr) = some ns
  | [] => rfl
  | n :: ns => by
    show (keyStrs (ns.map Sum.inr)).map (n :: ·) = _
    rw [keyStrs_map ns]; rfl
theorem sums_keys : ∀ (ps : List (Str × Int)) (l : List (Key × Int)) (ns : List Str), l.map (·.1) = ns.map Sum.inr → ns.Nodup → ∃ ns' : List Str, (sums l ps).map (·.1) = ns'.map Sum.inr ∧ ns'.Nodup ∧ ∀ n, n ∈ ns' ↔ n ∈ ns ∨ n ∈ ps.map (·.1)
  | [], l, ns, h, hn => ⟨ns, h, hn, fun n => by simp⟩
  | p :: r, l, ns, h, hn => by
    unfold sums
    by_cases hp : p.1 ∈ ns
    · obtain ⟨ns', h1, h2, h3⟩ := sums_keys r (putD l (.inr p.1) ((valG l (.inr p.1)).getD 0 + p.2)) ns (by rw [keys_put_in (by rw [h]; exact List.mem_map.mpr ⟨_, hp, rfl⟩), h]) hn
      refine ⟨ns', h1, h2, fun n => ?_⟩
      rw [h3, List.map_cons, List.mem_cons]
      constructor
      · rintro (z | z)
        · exact .inl z
        · exact .inr (.inr z)
      · rintro (z | z | z)
        · exact .inl z
        · rw [z]; exact .inl hp
        · exact .inr z
    · have hk : ¬ (Sum.inr p.1 : Key) ∈ l.map (·.1) := by
        rw [h]
        intro z
        obtain ⟨q, hq, e⟩ := List.mem_map.mp z
        cases e
        exact hp hq
      obtain ⟨ns', h1, h2, h3⟩ := sums_keys r (putD l (.inr p.1) ((valG l (.inr p.1)).getD 0 + p.2)) (ns ++ [p.1]) (by rw [keys_put_new hk, h, List.map_append]; rfl) (by
        rw [List.nodup_append]
        exact ⟨hn, by simp, fun x hx y hy e => by rw [List.mem_singleton.mp hy] at e; rw [e] at hx; exact hp hx⟩)
      refine ⟨ns', h1, h2, fun n => ?_⟩
      rw [h3, List.map_cons, List.mem_cons, List.mem_append, List.mem_singleton]
      constructor
      · rintro ((z | z) | z)
        · exact .inl z
        · exact .inr (.inl z)
        · exact .inr (.inr z)
      · rintro (z | z | z)
        · exact .inl (.inl z)
        · exact .inl (.inr z)
        · exact .inr z
def nms (ps : List (Str × Int)) : List Str := (keyStrs ((sums [] ps).map (·.1))).getD []
def valOf (ps : List (Str × Int)) (s : Str) : Int := (valG (sums [] ps) (.inr s)).getD 0
theorem nms_spec (ps : List (Str × Int)) : (sums [] ps).map (·.1) = (nms ps).map Sum.inr ∧ (nms ps).Nodup ∧ ∀ n, n ∈ nms ps ↔ n ∈ ps.map (·.1) := by
  obtain ⟨ns, h1, h2, h3⟩ := sums_keys ps [] [] rfl List.nodup_nil
  have e : nms ps = ns := by unfold nms; rw [h1, keyStrs_map]; rfl
  rw [e]
  exact ⟨h1, h2, fun n => by rw [h3]; simp⟩
/-- the form's pairs: sums by name, in order, no nothing -/
def canon (ps : List (Str × Int)) : List (Str × Int) := ((srtS (nms ps)).filter fun s => !(valOf ps s == 0)).map fun s => (s, valOf ps s)
def formD (c : D) (ps : List (Str × Int)) : D := .tup [c, .tup ((canon ps).map pairD)]
theorem srtS_mem {xs : List Str} {x : Str} : x ∈ srtS xs ↔ x ∈ xs := (List.mergeSort_perm xs leS).mem_iff
theorem srtS_len {xs : List Str} : (srtS xs).length = xs.length := (List.mergeSort_perm xs leS).length_eq
theorem nms_len (ps : List (Str × Int)) : (nms ps).length ≤ ps.length := by
  have h := congrArg List.length (nms_spec ps).1
  rw [List.length_map, List.length_map] at h
  have := sums_length ps []
  simp at this
  omega
theorem canon_len (ps : List (Str × Int)) : (canon ps).length ≤ ps.length := by
  unfold canon
  rw [List.length_map]
  have h1 := List.length_filter_le (fun s => !(valOf ps s == 0)) (srtS (nms ps))
  rw [srtS_len] at h1
  have := nms_len ps
  omega
theorem gEq_zero {neg : Bool} {i : Int} {mu : List MO} : gEq neg (.int i) (.int 0) mu = .ok (.bl ((i == 0) != neg)) mu := gEq_ints
theorem srtK_ok {ks : List Key} {ns : List Str} {mu : List MO} (h : ks = ns.map Sum.inr) (hl : ns.length < 64) : srtK ks mu = .ok ((srtS ns).map D.str) mu := by
  unfold srtK
  rw [h, bind_ap, need_ap, if_pos (by rw [List.length_map]; exact hl), keyStrs_map]
  rfl
theorem form_ok {c d : D} {ps : List (Str × Int)} {mu : List MO} (hd : ∀ mu, walkD d mu = .ok (ps.map pairD, []) mu) (hl : ps.length < 64) :
    den_form [c, d] mu = .ok (.vl (formD c ps)) (mu ++ [MO.dk (toKD (sums [] ps))]) := by
  obtain ⟨hk, hnd, hmem⟩ := nms_spec ps
  have hsz : (64 : Nat) ≤ sizeLine := by decide
  have hset : ∀ y : MO, (mu ++ [MO.dk (toKD [])]).set mu.length y = mu ++ [y] := fun y => by simp [List.set_append]
  have h1 := form_loop (c := c) (d := d) (n := mu.length) ps [] (mu ++ [MO.dk (toKD [])]) none none (by simp) (by simp; omega)
  rw [hset] at h1
  have h0 : (mu ++ [MO.dk (toKD (sums [] ps))])[mu.length]? = some (.dk (toKD (sums [] ps))) := by simp
  have h2 := srtK_ok (mu := mu ++ [MO.dk (toKD (sums [] ps))]) (show (toKD (sums [] ps)).map (·.1) = (nms ps).map Sum.inr by rw [toKD_keys]; exact hk) (by have := nms_len ps; omega)
  have hgd : ∀ s ∈ srtS (nms ps), gDget (.ref mu.length) (.str s) (mu ++ [MO.dk (toKD (sums [] ps))]) = .ok (.int (valOf ps s)) (mu ++ [MO.dk (toKD (sums [] ps))]) := fun s hs => by
    have hin : (valG (sums [] ps) (.inr s)).isSome = true := valG_mem.mp (by rw [hk]; exact List.mem_map.mpr ⟨s, srtS_mem.mp hs, rfl⟩)
    obtain ⟨v, hv⟩ := Option.isSome_iff_exists.mp hin
    unfold gDget valOf
    simp [h0, toKD_val, hv]
  have h3 : loopC (asgN 3) (eB (eBin (gEq true) (eBin gDget (eVar 2) (eVar 3)) (eC (.int 0)))) (aThen gTup (aCons (eVar 3) (aCons (eBin gDget (eVar 2) (eVar 3)) aNil))) [] ((srtS (nms ps)).map D.str) [some c, some d, some (.ref mu.length), none, none] (mu ++ [MO.dk (toKD (sums [] ps))]) =
      .ok (((srtS (nms ps)).filter fun s => !(valOf ps s == 0)).map fun s => pairD (s, valOf ps s)) (mu ++ [MO.dk (toKD (sums [] ps))]) := by
    refine loopC_filter' fun s hs => ⟨_, rfl, ?_, fun _ => ?_⟩
    · simp [hgd s hs, gEq_zero]
    · have e2 : (2 : Nat) ≤ sizeLine := by decide
      simp [hgd s hs, gTup_ok, e2, pairD]
  refine noX_ok ?_
  have e2 : (2 : Nat) ≤ sizeLine := by decide
  have ek : toKD [] = [] := rfl
  rw [ek] at h1
  simp [r_form, startE, hd, h1, h0, h2, noX_ok h3, gTup_ok, e2]
  simp [formD, canon, Function.comp_def]
end MP
namespace MP
open PySem L2 PyProof.Rows
theorem ltS_iff {x y : Str} : ltS x y = true ↔ x.cps.toList < y.cps.toList := by unfold ltS; exact decide_eq_true_iff
theorem ltS_le {x y : Str} (h : ltS x y = true) : leS x y = true := leS_iff.mpr (List.le_of_lt (ltS_iff.mp h))
theorem ltS_irr {x : Str} : ltS x x = false := by
  cases h : ltS x x with
  | false => rfl
  | true => exact absurd (ltS_iff.mp h) (List.lt_irrefl _)
theorem ltS_of {x y : Str} (h : leS x y = true) (hn : x ≠ y) : ltS x y = true := by
  cases hl : ltS x y with
  | true => rfl
  | false =>
    have h2 : leS y x = true := by
      unfold leS
      rw [ltCps_eq]
      have : ¬ x.cps.toList < y.cps.toList := fun z => by rw [ltS_iff.mpr z] at hl; cases hl
      rw [decide_eq_false this]; rfl
    exact absurd (leS_anti h h2) hn
theorem sums_val (s : Str) : ∀ (ps : List (Str × Int)) (l : List (Key × Int)), (valG (sums l ps) (.inr s)).getD 0 = (valG l (.inr s)).getD 0 + ((ps.filter fun p => p.1 == s).map (·.2)).sum
  | [], l => by unfold sums; simp
  | p :: r, l => by
    unfold sums
    rw [sums_val s r, valG_put]
    by_cases e : s = p.1
    · subst e
      rw [if_pos rfl, List.filter_cons_of_pos (by simp), List.map_cons, List.sum_cons]
      show (valG l (.inr p.1)).getD 0 + p.2 + _ = _
      omega
    · rw [if_neg (fun z => e (Sum.inr.inj z)), List.filter_cons_of_neg (by simp; exact fun z => e z.symm)]
theorem valOf_eq (ps : List (Str × Int)) (s : Str) : valOf ps s = ((ps.filter fun p => p.1 == s).map (·.2)).sum := by
  unfold valOf
  rw [sums_val]
  show (0 : Int) + _ = _
  omega
/-- names rising, nothing without a number -/
structure Canon (qs : List (Str × Int)) : Prop where
  up : qs.Pairwise fun p q => ltS p.1 q.1 = true
  nz : ∀ p ∈ qs, p.2 ≠ 0
theorem srtS_pw {xs : List Str} (h : xs.Nodup) : (srtS xs).Pairwise fun a b => ltS a b = true := by
  have h1 := List.pairwise_mergeSort leS_trans leS_total xs
  have h2 : (srtS xs).Nodup := (List.mergeSort_perm xs leS).nodup_iff.mpr h
  exact (h1.and h2).imp fun ⟨a, b⟩ => ltS_of a b
theorem canon_canon (ps : List (Str × Int)) : Canon (canon ps) := by
  refine ⟨?_, fun p hp => ?_⟩
  · unfold canon
    rw [List.pairwise_map]
    exact (srtS_pw (nms_spec ps).2.1).filter _
  · unfold canon at hp
    obtain ⟨s, hs, e⟩ := List.mem_map.mp hp
    subst e
    have := (List.mem_filter.mp hs).2
    simpa using this
theorem canon_names {ps : List (Str × Int)} {p : Str × Int} (h : p ∈ canon ps) : p.1 ∈ ps.map (·.1) := by
  unfold canon at h
  obtain ⟨s, hs, e⟩ := List.mem_map.mp h
  subst e
  exact ((nms_spec ps).2.2 _).mp (srtS_mem.mp (List.mem_filter.mp hs).1)
theorem Canon.nodup {qs : List (Str × Int)} (h : Canon qs) : (qs.map (·.1)).Nodup := by
  rw [List.nodup_iff_pairwise_ne, List.pairwise_map]
  exact h.up.imp fun {a b} z e => by rw [e, ltS_irr] at z; cases z
theorem Canon.val {qs : List (Str × Int)} (h : Canon qs) : ∀ p ∈ qs, valOf qs p.1 = p.2 := fun p hp => by
  rw [valOf_eq]
  have hn := h.nodup
  clear h
  induction qs with
  | nil => simp at hp
  | cons q r ih =>
    rw [List.map_cons, List.nodup_cons] at hn
    rcases List.mem_cons.mp hp with e | e
    · subst e
      rw [List.filter_cons_of_pos (by simp), List.map_cons, List.sum_cons]
      have z : (r.filter fun q => q.1 == p.1) = [] := by
        rw [List.filter_eq_nil_iff]
        intro q hq e
        exact hn.1 (List.mem_map.mpr ⟨q, hq, by simpa using e⟩)
      rw [z]; simp
    · have hne : ¬ q.1 = p.1 := fun z => hn.1 (List.mem_map.mpr ⟨p, e, z.symm⟩)
      rw [List.filter_cons_of_neg (by simpa using hne)]
      exact ih e hn.2
theorem canon_id {qs : List (Str × Int)} (h : Canon qs) : canon qs = qs := by
  obtain ⟨h1, h2, h3⟩ := nms_spec qs
  have hperm : (nms qs).Perm (qs.map (·.1)) := (List.perm_ext_iff_of_nodup h2 h.nodup).mpr h3
  have hs : srtS (nms qs) = qs.map (·.1) := by
    refine List.Perm.eq_of_pairwise (le := fun a b => leS a b = true) (fun a b _ _ x y => leS_anti x y) (List.pairwise_mergeSort leS_trans leS_total _) ?_ ((List.mergeSort_perm _ leS).trans hperm)
    rw [List.pairwise_map]
    exact h.up.imp fun z => ltS_le z
  unfold canon
  rw [hs, List.filter_map, List.map_map]
  have hf : qs.filter ((fun s => !(valOf qs s == 0)) ∘ fun p => p.1) = qs := by
    rw [List.filter_eq_self]
    intro p hp
    show (!(valOf qs p.1 == 0)) = true
    rw [h.val p hp]
    have := h.nz p hp
    simpa using this
  rw [hf]
  conv => rhs; rw [← List.map_id qs]
  apply List.map_congr_left
  intro p hp
  show (p.1, valOf qs p.1) = p
  rw [h.val p hp]
theorem cps_append (x y : Str) : (x ++ y).cps.toList = x.cps.toList ++ y.cps.toList := by
  show (x.cps ++ y.cps).toList = _
  simp
theorem lt_append (m : List Nat) : ∀ (a b : List Nat), m ++ a < m ++ b ↔ a < b := by
  induction m with
  | nil => intro a b; rfl
  | cons x m ih =>
    intro a b
    rw [List.cons_append, List.cons_append, List.cons_lt_cons_iff]
    constructor
    · rintro (h | ⟨_, h⟩)
      · exact absurd h (Nat.lt_irrefl _)
      · exact (ih a b).mp h
    · intro h; exact .inr ⟨rfl, (ih a b).mpr h⟩
theorem ltS_append {m x y : Str} : ltS (m ++ x) (m ++ y) = ltS x y := by
  unfold ltS
  rw [cps_append, cps_append]
  exact decide_eq_decide.mpr (lt_append _ _ _)
/-- each name with a mark ahead -/
def marked (m : Str) (qs : List (Str × Int)) : List (Str × Int) := qs.map fun p => (m ++ p.1, p.2)
theorem Canon.marked {qs : List (Str × Int)} (h : Canon qs) (m : Str) : Canon (marked m qs) := by
  refine ⟨?_, fun p hp => ?_⟩
  · unfold MP.marked
    rw [List.pairwise_map]
    exact h.up.imp fun z => by show ltS (m ++ _) (m ++ _) = true; rw [ltS_append]; exact z
  · obtain ⟨q, hq, e⟩ := List.mem_map.mp hp
    subst e
    exact h.nz q hq
/-! what form promises -/
def pairOf : D → Option (Str × Int)
  | .tup [.str s, .int i] => some (s, i)
  | _ => none
def pairsOf : List D → Option (List (Str × Int))
  | [] => some []
  | d :: ds => match pairOf d, pairsOf ds with
    | some p, some r => some (p :: r)
    | _, _ => none
theorem pairsOf_eq : ∀ {ds : List D} {ps : List (Str × Int)}, pairsOf ds = some ps → ds = ps.map pairD
  | [], ps, h => by cases h; rfl
  | d :: ds, ps, h => by
    unfold pairsOf at h
    cases hp : pairOf d with
    | none => rw [hp] at h; cases h
    | some p =>
      cases hr : pairsOf ds with
      | none => rw [hp, hr] at h; cases h
      | some r =>
        rw [hp, hr] at h
        cases h
        rw [List.map_cons, ← pairsOf_eq hr]
        congr 1
        unfold pairOf at hp
        split at hp
        · cases hp; rfl
        · cases hp
theorem pairsOf_map : ∀ (ps : List (Str × Int)), pairsOf (ps.map pairD) = some ps
  | [] => rfl
  | p :: r => by
    rw [List.map_cons]
    unfold pairsOf
    rw [pairsOf_map r]
    rfl
def seqOf : D → Option (List D)
  | .fl xs => some xs
  | .tup xs => some xs
  | .ro xs => some xs
  | _ => none
theorem seqOf_walk {d : D} {xs : List D} (h : seqOf d = some xs) (mu : List MO) : walkD d mu = .ok (xs, []) mu := by
  cases d <;> simp [seqOf] at h <;> (subst h; rfl)
def formF : List D → Option D
  | [c, d] => match seqOf d with
    | some xs => match pairsOf xs with
      | some ps => if ps.length < 64 then some (formD c ps) else none
      | none => none
    | none => none
  | _ => none
theorem formF_ok {c d : D} {ps : List (Str × Int)} (h : seqOf d = some (ps.map pairD)) (hl : ps.length < 64) : formF [c, d] = some (formD c ps) := by
  unfold formF
  simp only [h, pairsOf_map, if_pos hl]
theorem Clo.pairs {k : Nat} (ps : List (Str × Int)) : Clos k (ps.map pairD) := Clos.of fun d hd => by
  obtain ⟨p, _, e⟩ := List.mem_map.mp hd
  subst e
  exact Clo.tup.mpr (Clos.cons Clo.str (Clos.cons Clo.int Clos.nil))
theorem gc_form : GC 2 den_form (pureD formF) := gc_pure fun ds mu d hn hc hh hf => by
  match ds, hc, hf with
  | [c, e], hc, hf =>
    unfold formF at hf
    simp only at hf
    split at hf
    · rename_i xs hx
      split at hf
      · rename_i ps hp
        split at hf
        · rename_i hl
          cases hf
          have e1 := pairsOf_eq hp
          subst e1
          exact ⟨Clo.tup.mpr (Clos.cons hc.inv.1 (Clos.cons (Clo.tup.mpr (Clo.pairs _)) Clos.nil)), _, form_ok (fun mu => seqOf_walk hx mu) hl⟩
        · cases hf
      · cases hf
    · cases hf
  | [], _, hf => cases hf
  | [_], _, hf => cases hf
  | _ :: _ :: _ :: _, _, hf => cases hf
noncomputable abbrev r__law_form := r_form
noncomputable abbrev den__law_form := den_form
end MP
namespace MP
open PySem L2 PyProof.Rows
section
variable {asg : D → Env → M Env} {body : Env → M Fl} {fg : List Nat} {t : Env → M Bool} {r : Env → M D}
/-- a loop with an invariant; the number tells how many turns are left -/
theorem loopF_inv {I : Nat → Env → List MO → Prop} : ∀ {ds : List D} {env : Env} {mu : List MO}, (∀ d ∈ ds, ∀ k env mu, I (k + 1) env mu → ∃ env1 e' mu', asg d (wipeE env fg) mu = .ok env1 mu ∧ body env1 mu = .ok (.nx e') mu' ∧ I k e' mu') → I ds.length env mu →
    ∃ e' mu', loopF asg body fg [] ds env mu = .ok (.nx (wipeE e' fg)) mu' ∧ I 0 e' mu'
  | [], env, mu, _, h => ⟨env, mu, loopF_nil, h⟩
  | d :: ds, env, mu, hs, h => by
    obtain ⟨env1, e1, mu1, h1, h2, h3⟩ := hs d (by simp) ds.length env mu h
    obtain ⟨e', mu', h4, h5⟩ := loopF_inv (ds := ds) (fun x hx => hs x (by simp [hx])) h3
    refine ⟨e', mu', ?_, h5⟩
    rw [loopF_cons]
    simp [h1, h2, h4]
theorem loopC_inv {I : List MO → Prop} {P : D → Prop} : ∀ {ds : List D} {env : Env} {mu : List MO}, (∀ d ∈ ds, ∀ mu, I mu → ∃ env1 mu1 x, asg d env mu = .ok env1 mu ∧ t env1 mu = .ok true mu ∧ r env1 mu = .ok x mu1 ∧ I mu1 ∧ P x) → I mu →
    ∃ xs mu', loopC asg t r [] ds env mu = .ok xs mu' ∧ I mu' ∧ xs.length = ds.length ∧ ∀ x ∈ xs, P x
  | [], env, mu, _, h => ⟨[], mu, loopC_nil, h, rfl, by simp⟩
  | d :: ds, env, mu, hs, h => by
    obtain ⟨env1, mu1, x, h1, h2, h3, h4, h5⟩ := hs d (by simp) mu h
    obtain ⟨xs, mu', h6, h7, h8, h9⟩ := loopC_inv (ds := ds) (env := env) (fun y hy => hs y (by simp [hy])) h4
    exact ⟨x :: xs, mu', loopC_yes h1 h2 h3 h6, h7, by rw [List.length_cons, List.length_cons, h8], fun y hy => by
      rcases List.mem_cons.mp hy with e | e
      · rw [e]; exact h5
      · exact h9 y e⟩
end
theorem len_append (x y : Str) : (x ++ y).length = x.length + y.length := by
  show (x.cps ++ y.cps).size = x.cps.size + y.cps.size
  simp
theorem rng_mem {d : D} {n : Nat} (h : d ∈ rngD 0 n) : ∃ i : Nat, i < n ∧ d = .int i := by
  obtain ⟨i, hi, e⟩ := List.mem_map.mp (show d ∈ (List.range n).map fun (i : Nat) => D.int (0 + (i : Int)) from h)
  exact ⟨i, List.mem_range.mp hi, by rw [← e, Int.zero_add]⟩
theorem wRng1_ok {n : Int} {mu : List MO} (h : -16777216 ≤ n ∧ n ≤ 16777216) : wRng1 [.int n] mu = .ok (rngD 0 n.toNat, []) mu := by
  show ((toI (.int n) : M Int) >>= fun n => (need (-16777216 ≤ n ∧ n ≤ 16777216) : M Unit) >>= fun _ => (pure (rngD 0 n.toNat, []) : M Wk)) mu = _
  rw [bind_ap, toI_int]
  show ((need (-16777216 ≤ n ∧ n ≤ 16777216) : M Unit) >>= fun _ => (pure (rngD 0 n.toNat, []) : M Wk)) mu = _
  rw [bind_ap, need_ap, if_pos h]
  rfl

/-! ### the law's own end -/
def spLaw (K : PySem.W.Frag) (n : Nat) : Sp := fun vs H Q _ => ∃ (a : Addr) (ns : List Int), vs = [.ref a] ∧ Only H ∧ SqL K H a (ns.map V.int) ∧ ns.length ≤ n ∧ ∀ H', Q (.bl true) H'
theorem law_of {P : Program} {w : World} {K : PySem.W.Frag} {mg : Str → Option Value} {base : Heap} {k n : Nat} {f : Addr} {fd : FuncData} {ps : List Str} {den : List D → M Rv} (F : FnOk P w K mg base CX0 k f fd ps (sp K mg 1 den))
    (h : ∀ cs : List Int, cs.length ≤ n → ∃ mu', den [.ro (cs.map .int)] [] = .ok (.vl (.bl true)) mu') : FnOk P w K mg base CX0 k f fd ps (spLaw K n) := F.imp fun vs H Q E ⟨a, ns, e, hO, hS, hl, q⟩ => by
  subst e
  have hro : RoAt K H a (ns.map V.int) := by
    rcases hS with (hS | ⟨o, hS⟩) | hS
    · rcases hO a with z | ⟨o, xs, z⟩
      · rw [z] at hS; cases hS
      · rw [z] at hS; cases hS
    · exact .inl ⟨o, hS⟩
    · exact .inr hS
  obtain ⟨mu', e⟩ := h ns hl
  refine ⟨rfl, [.ro (ns.map .int)], ⟨[], []⟩, [], Reps.one (by simp only [Rep]; exact ⟨a, _, rfl, hro, Reps.of_ints.mpr rfl⟩), ⟨rfl, List.nodup_nil, fun _ z => by simp at z, fun _ z => by simp at z, fun _ _ _ z _ => by simp at z⟩, ?_⟩
  rw [e]
  intro m' H' _ _ v rv
  simp only [Rep] at rv
  subst rv
  exact q H'
theorem walkM {l : PySem.W.OpenLaw} {n k : Nat} {q : Program} {loose : List Str} {XP : (Str → Option Value) → Heap → Prop} {YP : World → Heap → Prop} {d : DefRec} {K : Params → PySem.W.Frag} (hn : l.most = some n) (hn2 : n ≤ sizeLine) (hdf : d.params.defaults = []) (hr : Room k callerA)
    (hY : ∀ (w : World) (h : Heap), YP w h → (K w.params).In h)
    (F : ∀ (w : World) (mg : Str → Option Value) (fa : Addr) (h : Heap), (K w.params).In h → h.Ns mainGlobals mg → mg d.name = some (.ref fa) →
      ∃ fd : FuncData, (∀ (s : Shared) (u : Value), BindsTo s fd ⟨[u], []⟩ [("script", u)]) ∧ ∀ base : Heap, (K w.params).In base → base.Ns mainGlobals mg → FnOk l.prog w (K w.params) mg base CX0 k fa fd ["script"] (spLaw (K w.params) n)) :
    PySem.W.WalkO q loose XP YP l.row.toRowW d [] (fun f vs => PySem.call f vs) :=
  L2.walk_of (n := n) (k := k) (x := "script") (CX := fun _ => CX0) (sp := fun w => spLaw (K w.params) n) hn hn2 hdf hr hY F (fun _ _ a ns hl hO hS => ⟨a, ns, rfl, hO, hS, hl, fun _ => rfl⟩) fun _ _ _ _ _ z => z
end MP
namespace MP
open PySem L2 PyProof.Rows
section
variable {X : Cx} {W : Wx} {e o a b c value i : Expr} {st : Stmt} {es : List Expr} {pos apos cpos tpos p pos' : Pos}
/-! ### a module's texts and numbers -/
theorem me_gstr {x z : Str} {t : Tok} (hg : Gl X x) (hm : X.mg x = some (.str z t)) (hd : (x == ("__debug__" : Str)) = false := by decide) : ME X W (.Name x pos) (eC (.str z)) := me_c (pe_glob hg hm (v := .str z) ⟨t, rfl⟩ hd) fun m H => by simp only [Rep]
theorem me_gint {x : Str} {z : Int} {t : Tok} (hg : Gl X x) (hm : X.mg x = some (.int z t)) (hd : (x == ("__debug__" : Str)) = false := by decide) : ME X W (.Name x pos) (eC (.int z)) := me_c (pe_glob hg hm (v := .int z) ⟨t, rfl⟩ hd) fun m H => by simp only [Rep]
/-! ### what is never reached -/
def sBad : Env → M Fl := fun _ => bad
theorem ms_never : MS X W st sBad := ⟨ps_never.imp fun D σ H ⟨env, m, mu, hE, hR, hp⟩ => (show False from hp).elim⟩
/-! ### is True, is not True -/
def gIsB (neg : Bool) (x y : D) : M D := toB x >>= fun i => toB y >>= fun j => pure (.bl (decide (i = j) != neg))
def rIsBM (neg : Bool) : R2 := fun x y H Q => ∃ a b : Bool, x = .bl a ∧ y = .bl b ∧ Q (.bl (decide (a = b) != neg)) H
theorem op_isBM : OpR X (compareOp .Is) (rIsBM false) := fun pins s σ H x y v u Q I rx ry h => op_isBl pins s σ H x y v u Q I rx ry (by
  obtain ⟨a, b, e1, e2, q⟩ := h
  rw [Bool.bne_false] at q
  exact ⟨a, b, e1, e2, q⟩)
theorem op_notBM : OpR X (compareOp .IsNot) (rIsBM true) := fun pins s σ H x y v u Q I rx ry h => op_notBl pins s σ H x y v u Q I rx ry (by
  obtain ⟨a, b, e1, e2, q⟩ := h
  rw [Bool.bne_true] at q
  exact ⟨a, b, e1, e2, q⟩)
theorem opm_isB {neg : Bool} : OpM X.K W (rIsBM neg) (gIsB neg) := ⟨fun x y v w m mu H Q rl hx hy hp => by
  obtain ⟨i, rfl, rfl, hp⟩ := toB_ok rl hx (Post.bind hp)
  obtain ⟨j, rfl, rfl, hp⟩ := toB_ok rl hy (Post.bind hp)
  exact ⟨i, j, rfl, rfl, Post.pure hp rl _ (by simp only [Rep])⟩⟩
/-! ### <=, >=, > of ints or texts -/
def gOrd (f : Int → Int → Bool) (g : Str → Str → Bool) : D → D → M D
  | .str x, y => do
    let z ← toS y
    pure (.bl (g x z))
  | x, y => gCmp f x y
def rOrd (f : Int → Int → Bool) (g : Str → Str → Bool) : R2 := fun x y H Q => rI0 (fun i j => .bl (f i j)) x y H Q ∨ ∃ i j, x = .str i ∧ y = .str j ∧ Q (.bl (g i j)) H
theorem opm_ord {f : Int → Int → Bool} {g : Str → Str → Bool} : OpM X.K W (rOrd f g) (gOrd f g) := ⟨fun x y v w m mu H Q rl hx hy hp => by
  cases x
  case str z =>
    obtain ⟨j, rfl, rfl, hp⟩ := toS_ok rl hy (Post.bind hp)
    simp only [Rep] at hx
    exact .inr ⟨z, j, hx, rfl, Post.pure hp rl _ (by simp only [Rep])⟩
  all_goals exact .inl (opm_cmp.go _ _ _ _ _ _ _ _ rl hx hy hp)⟩
def gLe : D → D → M D := gOrd (fun i j => decide (i ≤ j)) fun x y => !decide (y.cps.toList < x.cps.toList)
def gGe : D → D → M D := gOrd (fun i j => decide (j ≤ i)) fun x y => !decide (x.cps.toList < y.cps.toList)
def gGt : D → D → M D := gOrd (fun i j => decide (j < i)) fun x y => decide (y.cps.toList < x.cps.toList)
theorem op_leM : OpR X (compareOp .LtE) (rOrd (fun i j => decide (i ≤ j)) fun x y => !decide (y.cps.toList < x.cps.toList)) := op_le.or op_le_str
theorem op_geM : OpR X (compareOp .GtE) (rOrd (fun i j => decide (j ≤ i)) fun x y => !decide (x.cps.toList < y.cps.toList)) := op_ge.or op_ge_str
theorem op_gtM : OpR X (compareOp .Gt) (rOrd (fun i j => decide (j < i)) fun x y => decide (y.cps.toList < x.cps.toList)) := op_gt.or op_gt_str
/-! ### a test that is a value's truth -/
def truD : D → M Bool
  | .non => pure false
  | .bl b => pure b
  | .int i => pure (i != 0)
  | .str z => need (z.length ≤ sizeLine) >>= fun _ => pure ((z.length : Int) != 0)
  | .fd _ xs => pure (!xs.isEmpty)
  | .ref n => fun mu => match mu[n]? with
    | some (.lst xs) => .ok (!xs.isEmpty) mu
    | some (.dk kvs) => .ok (!kvs.isEmpty) mu
    | none => .bad
  | d => rdQ d >>= fun xs => pure (!xs.isEmpty)
def bTru (r : Env → M D) : Env → M Bool := fun env => r env >>= truD
theorem empty_len {α β : Type} {xs : List α} {ys : List β} (h : xs.length = ys.length) : xs.isEmpty = ys.isEmpty := by
  cases xs <;> cases ys <;> simp at h <;> rfl
theorem truD_ok {K : PySem.W.Frag} {W : Wx} {m : Mp} {H : Hp} {mu : List MO} {d : D} {v : V} {Q : Bool → Mp → List MO → Hp → Prop} (R : Rel K m mu H) (h : Rep K m H d v) (hp : Post K W m H (truD d mu) Q) : ∃ k, TruV K v H k ∧ Q k m mu H := by
  have seq : ∀ d, Rep K m H d v → Post K W m H ((rdQ d >>= fun xs => pure (!xs.isEmpty)) mu) Q → ∃ k, TruV K v H k ∧ Q k m mu H := fun d h hp => by
    obtain ⟨a, xs, vs, rfl, hs, hr, hp⟩ := rdQ_ok R h (Post.bind hp)
    rcases hs with hs | hs
    · exact ⟨_, .inl ⟨vs, hs, rfl⟩, by rw [← empty_len hr.length]; exact Post.pure hp R⟩
    · exact ⟨_, .inr (.inl ⟨vs, hs, rfl⟩), by rw [← empty_len hr.length]; exact Post.pure hp R⟩
  cases d
  case non => simp only [Rep] at h; subst h; exact ⟨_, rfl, Post.pure hp R⟩
  case bl b => simp only [Rep] at h; subst h; exact ⟨_, rfl, Post.pure hp R⟩
  case int b => simp only [Rep] at h; subst h; exact ⟨_, rfl, Post.pure hp R⟩
  case str b =>
    obtain ⟨c, hp⟩ := need_ok R (Post.bind hp)
    simp only [Rep] at h; subst h; exact ⟨_, ⟨c, rfl⟩, Post.pure hp R⟩
  case fd ks xs =>
    simp only [Rep] at h
    obtain ⟨a, vs, rfl, hs, _, hl, hr⟩ := h
    refine ⟨_, .inr (.inr ⟨_, hs, rfl⟩), ?_⟩
    rw [show (ks.zip vs).isEmpty = xs.isEmpty from empty_len (by rw [List.length_zip, ← hr.length, hl, Nat.min_self])]
    exact Post.pure hp R
  case ref n =>
    simp only [Rep] at h
    obtain ⟨a, rfl, hm⟩ := h
    obtain ⟨o, ho, hr⟩ := R.at' hm
    have e : truD (.ref n) mu = (match mu[n]? with
      | some (.lst xs) => MP.R.ok (!xs.isEmpty) mu
      | some (.dk kvs) => .ok (!kvs.isEmpty) mu
      | none => .bad) := rfl
    rw [e, ho] at hp
    cases o with
    | lst xs =>
      obtain ⟨vs, hH, hr⟩ := hr
      exact ⟨_, .inl ⟨vs, .of hH, rfl⟩, by rw [← empty_len hr.length]; exact hp m H .refl R⟩
    | dk kvs =>
      obtain ⟨vs, hH, hr⟩ := hr
      have hl := hr.length
      rw [List.length_map] at hl
      refine ⟨_, .inr (.inr ⟨_, hH, rfl⟩), ?_⟩
      rw [show ((kvs.map (·.1)).zip vs).isEmpty = kvs.isEmpty from empty_len (by rw [List.length_zip, List.length_map, ← hl, Nat.min_self])]
      exact hp m H .refl R
  all_goals exact seq _ h hp
theorem mt_truth {r : Env → M D} (h : ME X W a r) (he : ∀ whole, isTrue a X.env whole = (do let v ← whole; standAt a.pos; holding [v] (truthy v)) := by intro _; rfl) : MT X W a (bTru r) :=
  ⟨(pt_truth h.pe he).imp fun σ H Q ⟨env, m, mu, hE, hR, hp⟩ => ⟨env, m, mu, hE, hR, (Post.bind hp).mono fun d m1 mu1 H1 g1 R1 hp v rv => truD_ok R1 rv hp⟩⟩
end
end MP
namespace MP
open PySem L2 PyProof.Rows
/-! ### dict comprehensions -/
/-- a dict that was not there ahead of H -/
def NewDk (K : PySem.W.Frag) (H : Hp) (kvs : List (Key × D)) (m' : Mp) (mu' : List MO) (H' : Hp) (Q : VK) : Prop :=
  ∀ a vs, H a = none → H' a = some (.dK ((kvs.map (·.1)).zip vs)) → m'.Out a → Reps K m' H' (kvs.map (·.2)) vs → Rel K (m'.add a) (mu' ++ [.dk kvs]) H' → Q (.ref a) H'
def tK (K : PySem.W.Frag) (W : Wx) (r : Env → M (List (Key × D))) : TE := fun σ H Q => ∃ env m mu, RepE K m H env σ ∧ Rel K m mu H ∧ Post K W m H (r env mu) fun kvs m' mu' H' => NewDk K H kvs m' mu' H' Q
noncomputable def loopCD (asg : D → Env → M Env) (t : Env → M Bool) (rk r : Env → M D) (g : List (Nat × List D)) : List D → Env → List (Key × D) → M (List (Key × D))
  | [], _, acc => chk g >>= fun _ => pure acc
  | d :: ds, env, acc => chk g >>= fun _ => asg d env >>= fun env1 => t env1 >>= fun b => if b = true then (rk env1 >>= fun y => r env1 >>= fun x => toK y >>= fun k => loopCD asg t rk r g ds env (putD acc k x)) else loopCD asg t rk r g ds env acc
/-- {key: value for .. in .. if ..}; vs: the slots of the comprehension's own names -/
noncomputable def kComp (w : Env → M Wk) (asg : D → Env → M Env) (t : Env → M Bool) (rk r : Env → M D) (vs : List Nat) : Env → M (List (Key × D)) := fun env => w env >>= fun p => noX (loopCD asg t rk r p.2 p.1 (wipeE env vs) [])
theorem toK_at {K : PySem.W.Frag} {W : Wx} {m m0 : Mp} {H H0 : Hp} {mu : List MO} {d : D} {v : V} {α : Type} {f : Key → M α} {Q : α → Mp → List MO → Hp → Prop} (h : Rep K m H d v) (hp : Post K W m0 H0 ((toK d >>= f) mu) Q) : ∃ k, v = kV k ∧ Post K W m0 H0 (f k mu) Q := by
  cases d
  case int i => simp only [Rep] at h; exact ⟨.inl i, h, hp⟩
  case str i => simp only [Rep] at h; exact ⟨.inr i, h, hp⟩
  all_goals exact (show False from hp).elim
section
variable {X : Cx} {W : Wx} {e o a b tg iter elt kx vx : Expr} {es ifs : List Expr} {pos apos cpos p : Pos}
/-- the comprehension's dict, for its reading -/
theorem comp_goD {wi : TI} {vs l : List Nat} {w : Env → M Wk} {asg : D → Env → M Env} {t : Env → M Bool} {rk r : Env → M D} (hl : ∀ i ∈ l, i ∈ vs) (hwi : wi = tI X.K W w) : ∀ σ H Q, tK X.K W (kComp w asg t rk r vs) σ H Q → tDc wi (tG X.K W0 l asg) (tT X.K W0 t) (tE X.K W0 rk) (tE X.K W0 r) vs σ H Q := by
  subst hwi
  rintro σ H Q ⟨env, m, mu, hE, hR, hp⟩
  refine ⟨env, m, mu, hE, hR, (Post.bind hp).mono fun p m1 mu1 H1 g1 R1 hp0 hz J ok => ?_⟩
  have hp0 := noX_post hp0
  intro Dd hDn
  have hdead : ∀ b o, H1 b = some o → b ≠ Dd := fun b o e z => by rw [z, hDn] at e; cases e
  have hD0 : H Dd = none := g1.none_of hDn
  refine ⟨fun i k H2 => ∃ (rest : List D) (acc : List (Key × D)) (vs2 : List V) (m2 : Mp) (mu2 : List MO), k = rest.length ∧ p.1.drop i = rest ∧ acc.length ≤ i ∧ H2 Dd = some (.dK ((acc.map (·.1)).zip vs2)) ∧ Dd ∈ m2.no ∧ Dd ∉ m2.ad ∧ Reps X.K m2 H2 (acc.map (·.2)) vs2 ∧ Rel X.K m2 mu2 H2 ∧ RepE X.K m2 H2 (wipeE env vs) (L2.wipe σ vs) ∧ Grow m1 m2 H1 H2 ∧
      Post X.K W0 m1 H1 (loopCD asg t rk r p.2 rest (wipeE env vs) acc mu2) fun xs m' mu' H' => NewDk X.K H xs m' mu' H' Q, ⟨_, p.1, [], [], m1.shut Dd, mu1, rfl, rfl, Nat.le_refl _, upd_same, by simp [Mp.shut], ?_, Reps.nil_iff.mpr rfl, ?_, ?_, ?_, ?_⟩, ?_⟩
  · exact (R1.free hDn).1
  · have g : Grow m1 m1 H1 (upd H1 Dd (.dK [])) := .laid hDn
    have kp : Keep m1 (m1.shut Dd) H1 (upd H1 Dd (.dK [])) := ⟨fun _ _ h => h, fun a o h n => ⟨by rw [upd_ne (hdead a o h)]; exact h, n.1, fun z => by
      rcases List.mem_append.mp z with z | z
      · exact n.2 z
      · exact hdead a o h (List.mem_singleton.mp z)⟩, g.tups, g.frzs⟩
    refine ⟨R1.len, R1.nd, fun a ha => ?_, fun a ha z => ?_, fun n o a h1 h2 => (R1.obj n o a h1 h2).keep kp fun u q => by rw [upd_ne (hdead a u q)]; exact q⟩
    · rcases List.mem_append.mp ha with z | z
      · exact g.trk a _ (R1.nos a z).choose_spec
      · rw [List.mem_singleton.mp z]; exact ⟨_, upd_same⟩
    · rcases List.mem_append.mp z with z | z
      · exact R1.dj a ha z
      · exact (R1.free hDn).1 (by rw [← List.mem_singleton.mp z]; exact ha)
  · have g : Grow m1 m1 H1 (upd H1 Dd (.dK [])) := .laid hDn
    have kp : Keep m1 (m1.shut Dd) H1 (upd H1 Dd (.dK [])) := ⟨fun _ _ h => h, fun a o h n => ⟨by rw [upd_ne (hdead a o h)]; exact h, n.1, fun z => by
      rcases List.mem_append.mp z with z | z
      · exact n.2 z
      · exact hdead a o h (List.mem_singleton.mp z)⟩, g.tups, g.frzs⟩
    exact ((hE.grow g1).wipe vs).keep kp
  · have g : Grow m1 m1 H1 (upd H1 Dd (.dK [])) := .laid hDn
    exact ⟨⟨[], [Dd], by simp [Mp.shut], rfl, by simp, fun a ha => by rw [List.mem_singleton.mp ha]; exact hDn⟩, g.oth, g.tups, g.frzs, g.trk⟩
  · exact hp0
  rintro i k H2 ⟨rest, acc, vs2, m2, mu2, rfl, hd, ha, hH2, hno, had, hacc, R2, hE2, g2, hp2⟩
  cases rest with
  | nil =>
    have e0 : loopCD asg t rk r p.2 [] (wipeE env vs) acc mu2 = M.bind (chk p.2) (fun _ => pure acc) mu2 := rfl
    rw [e0] at hp2
    unfold M.bind at hp2
    have hch : ∀ q ∈ p.2, mu2[q.1]? = some (.lst q.2) := by
      unfold chk at hp2
      by_cases z : ∀ q ∈ p.2, mu2[q.1]? = some (.lst q.2)
      · exact z
      · rw [if_neg z] at hp2; exact (show False from hp2).elim
    have ec : chk p.2 mu2 = .ok () mu2 := by unfold chk; rw [if_pos hch]
    rw [ec] at hp2
    refine .inl ⟨((ok m2 mu2 H2 g2 R2 hch).1 i) (by rw [List.drop_eq_nil_iff] at hd; exact hd), ?_⟩
    obtain ⟨l', k', e1, e2, hl', hk'⟩ := g2.ext
    have n1 : Dd ∉ m1.no := (R1.free hDn).2
    have kp : ∀ m3 : Mp, (∀ n a, m2.ad[n]? = some a → m3.ad[n]? = some a) → (∀ a, m2.Out a → m3.Out a) → Keep m2 m3 H2 H2 := fun m3 h1 h2 => ⟨h1, fun a o h n => ⟨h, h2 a n⟩, fun _ _ h => h, fun _ _ _ h => h⟩
    have k3 : Keep m2 ⟨m2.ad, m1.no⟩ H2 H2 := kp _ (fun _ _ h => h) fun a n => ⟨n.1, fun z => n.2 (by rw [e2]; exact List.mem_append_left _ z)⟩
    have g3 : Grow m1 ⟨m2.ad, m1.no⟩ H1 H2 := ⟨⟨l', [], e1, by simp, hl', by simp⟩, g2.oth, g2.tups, g2.frzs, g2.trk⟩
    have R3 : Rel X.K ⟨m2.ad, m1.no⟩ mu2 H2 := ⟨R2.len, R2.nd, fun a z => R2.nos a (by rw [e2]; exact List.mem_append_left _ z), fun a ha z => R2.dj a ha (by rw [e2]; exact List.mem_append_left _ z), fun n o a h1 h2 => (R2.obj n o a h1 h2).keep k3 fun _ q => q⟩
    have k4 : Keep m2 ((⟨m2.ad, m1.no⟩ : Mp).add Dd) H2 H2 := kp _ (fun n a h => by
      show (m2.ad ++ [Dd])[n]? = some a
      rw [List.getElem?_append_left (List.getElem?_eq_some_iff.mp h).1]; exact h) fun a n => ⟨fun z => by
        rcases List.mem_append.mp z with z | z
        · exact n.1 z
        · exact n.2 (by rw [List.mem_singleton.mp z]; exact hno), fun z => n.2 (by rw [e2]; exact List.mem_append_left _ z)⟩
    have q := hp2 ⟨m2.ad, m1.no⟩ H2 g3 R3 Dd vs2 hD0 hH2 ⟨had, n1⟩ (Reps.keep k3 _ vs2 hacc)
    refine q ?_
    refine ⟨by show (m2.ad ++ [Dd]).length = _; rw [List.length_append, List.length_append, R2.len]; rfl, ?_, fun a z => R3.nos a z, fun a ha z => ?_, fun n ob b h1 h2 => ?_⟩
    · show (m2.ad ++ [Dd]).Nodup
      rw [List.nodup_append]
      refine ⟨R2.nd, by simp, fun x hx y hy => ?_⟩
      rw [List.mem_singleton.mp hy]
      rintro rfl
      exact had hx
    · rcases List.mem_append.mp (show a ∈ m2.ad ++ [Dd] from ha) with z' | z'
      · exact R3.dj a z' z
      · exact n1 (by rw [← List.mem_singleton.mp z']; exact z)
    · have h2 : (m2.ad ++ [Dd])[n]? = some b := h2
      by_cases h : n < mu2.length
      · rw [List.getElem?_append_left h] at h1
        rw [List.getElem?_append_left (by rw [R2.len]; exact h)] at h2
        exact (R2.obj n ob b h1 h2).keep k4 fun _ q => q
      · by_cases hl : n = mu2.length
        · subst hl
          rw [List.getElem?_append_right (Nat.le_refl _), Nat.sub_self] at h1
          rw [List.getElem?_append_right (by rw [R2.len]; exact Nat.le_refl _), ← R2.len, Nat.sub_self] at h2
          cases h1
          cases h2
          exact ⟨vs2, hH2, Reps.keep k4 _ vs2 hacc⟩
        · rw [List.getElem?_eq_none (by rw [List.length_append]; simp only [List.length_cons, List.length_nil]; omega)] at h1
          cases h1
  | cons d ds =>
    have e0 : loopCD asg t rk r p.2 (d :: ds) (wipeE env vs) acc mu2 = M.bind (chk p.2) (fun _ => M.bind (asg d (wipeE env vs)) fun env1 => M.bind (t env1) fun b => if b = true then (rk env1 >>= fun y => r env1 >>= fun x => toK y >>= fun k => loopCD asg t rk r p.2 ds (wipeE env vs) (putD acc k x)) else loopCD asg t rk r p.2 ds (wipeE env vs) acc) mu2 := rfl
    rw [e0] at hp2
    unfold M.bind at hp2
    have hch : ∀ q ∈ p.2, mu2[q.1]? = some (.lst q.2) := by
      unfold chk at hp2
      by_cases z : ∀ q ∈ p.2, mu2[q.1]? = some (.lst q.2)
      · exact z
      · rw [if_neg z] at hp2; exact (show False from hp2).elim
    have ec : chk p.2 mu2 = .ok () mu2 := by unfold chk; rw [if_pos hch]
    rw [ec] at hp2
    dsimp only at hp2
    have hdi : p.1[i]? = some d := by
      have e : (p.1.drop i)[0]? = some d := by rw [hd]; rfl
      rw [List.getElem?_drop] at e
      simpa using e
    have hds : p.1.drop (i + 1) = ds := by
      have e := congrArg List.tail hd
      rw [List.tail_drop] at e
      exact e
    have hil : i < p.1.length := (List.getElem?_eq_some_iff.mp hdi).1
    obtain ⟨go, yl⟩ := (ok m2 mu2 H2 g2 R2 hch).2 i d hdi
    -- the turn's end: nothing is added, or a datum
    have fin : ∀ (acc' : List (Key × D)) (vs' : List V) (m3 : Mp) (mu3 : List MO) (H3 : Hp), acc'.length ≤ i + 1 → H3 Dd = some (.dK ((acc'.map (·.1)).zip vs')) → Dd ∈ m3.no → Dd ∉ m3.ad → Reps X.K m3 H3 (acc'.map (·.2)) vs' → Rel X.K m3 mu3 H3 → RepE X.K m3 H3 (wipeE env vs) (L2.wipe σ vs) → Grow m1 m3 H1 H3 →
        (Post X.K W0 m1 H1 (loopCD asg t rk r p.2 ds (wipeE env vs) acc' mu3) fun xs m' mu' H' => NewDk X.K H xs m' mu' H' Q) → ∃ m', m' < (d :: ds).length ∧ ∃ (rest : List D) (acc : List (Key × D)) (vs2 : List V) (m2 : Mp) (mu2 : List MO), m' = rest.length ∧ p.1.drop (i + 1) = rest ∧ acc.length ≤ i + 1 ∧ H3 Dd = some (.dK ((acc.map (·.1)).zip vs2)) ∧ Dd ∈ m2.no ∧ Dd ∉ m2.ad ∧ Reps X.K m2 H3 (acc.map (·.2)) vs2 ∧ Rel X.K m2 mu2 H3 ∧ RepE X.K m2 H3 (wipeE env vs) (L2.wipe σ vs) ∧ Grow m1 m2 H1 H3 ∧
      Post X.K W0 m1 H1 (loopCD asg t rk r p.2 rest (wipeE env vs) acc mu2) fun xs m' mu' H' => NewDk X.K H xs m' mu' H' Q := fun acc' vs' m3 mu3 H3 a1 a2 a3 a4 a5 a6 a7 a8 a9 =>
      ⟨ds.length, Nat.lt_succ_self _, ds, acc', vs', m3, mu3, rfl, hds, a1, a2, a3, a4, a5, a6, a7, a8, a9⟩
    refine .inr ⟨go, fun H3 => ∃ m', m' < (d :: ds).length ∧ ∃ (rest : List D) (acc : List (Key × D)) (vs2 : List V) (m2 : Mp) (mu2 : List MO), m' = rest.length ∧ p.1.drop (i + 1) = rest ∧ acc.length ≤ i + 1 ∧ H3 Dd = some (.dK ((acc.map (·.1)).zip vs2)) ∧ Dd ∈ m2.no ∧ Dd ∉ m2.ad ∧ Reps X.K m2 H3 (acc.map (·.2)) vs2 ∧ Rel X.K m2 mu2 H3 ∧ RepE X.K m2 H3 (wipeE env vs) (L2.wipe σ vs) ∧ Grow m1 m2 H1 H3 ∧
      Post X.K W0 m1 H1 (loopCD asg t rk r p.2 rest (wipeE env vs) acc mu2) fun xs m' mu' H' => NewDk X.K H xs m' mu' H' Q, fun H3 h => h, fun x H3 y => ?_⟩
    obtain ⟨gy, Ry, rx⟩ := yl x H3 y
    refine ⟨d, wipeE env vs, m2, mu2, hE2.grow gy, Ry, rx, ?_⟩
    have stay : ∀ (m3 : Mp) (H4 : Hp), Grow m2 m3 H2 H4 → H4 Dd = some (.dK ((acc.map (·.1)).zip vs2)) ∧ Dd ∈ m3.no ∧ Dd ∉ m3.ad := fun m3 H4 g => by
      obtain ⟨l', k', e1, e2, _, _⟩ := g.ext
      exact ⟨g.oth Dd _ hH2 had, by rw [e2]; exact List.mem_append_left _ hno, g.notin hH2 had⟩
    cases ha1 : asg d (wipeE env vs) mu2 with
    | bad => rw [ha1] at hp2; exact (show False from hp2).elim
    | exc ex mu4 => rw [ha1] at hp2; exact fun m4 H4 g4 R4 => hp2 m4 H4 ((g2.trans gy).trans g4) R4
    | ok env1 mu4 =>
      rw [ha1] at hp2
      dsimp only at hp2
      intro m4 H4 g4 R4 σ2 hE4 off
      refine ⟨wipe_off off hl, env1, m4, mu4, hE4, R4, ?_⟩
      cases ht1 : t env1 mu4 with
      | bad => rw [ht1] at hp2; exact (show False from hp2).elim
      | exc ex mu5 => rw [ht1] at hp2; exact fun m5 H5 g5 R5 => hp2 m5 H5 (((g2.trans gy).trans g4).trans g5) R5
      | ok b mu5 =>
        rw [ht1] at hp2
        dsimp only at hp2
        intro m5 H5 g5 R5
        have g25 : Grow m2 m5 H2 H5 := (gy.trans g4).trans g5
        cases b with
        | false =>
          simp only [Bool.false_eq_true, if_false] at hp2 ⊢
          obtain ⟨s1, s2, s3⟩ := stay m5 H5 g25
          exact fin acc vs2 m5 mu5 H5 (Nat.le_succ_of_le ha) s1 s2 s3 (Reps.grow g25 _ vs2 hacc) R5 (hE2.grow g25) (g2.trans g25) hp2
        | true =>
          simp only [if_true] at hp2 ⊢
          refine ⟨env1, m5, mu5, hE4.grow g5, R5, ?_⟩
          have hp2 : Post X.K W0 m1 H1 (M.bind (rk env1) (fun y => M.bind (r env1) fun x => M.bind (toK y) fun k => loopCD asg t rk r p.2 ds (wipeE env vs) (putD acc k x)) mu5) fun xs m' mu' H' => NewDk X.K H xs m' mu' H' Q := hp2
          unfold M.bind at hp2
          cases hr0 : rk env1 mu5 with
          | bad => rw [hr0] at hp2; exact (show False from hp2).elim
          | exc ex mu6 => rw [hr0] at hp2; exact fun m6 H6 g6 R6 => hp2 m6 H6 ((g2.trans g25).trans g6) R6
          | ok kd mu5b =>
          rw [hr0] at hp2
          dsimp only at hp2
          intro m5b H5b g5b R5b kv rkv
          have g25b : Grow m2 m5b H2 H5b := g25.trans g5b
          refine ⟨env1, m5b, mu5b, (hE4.grow g5).grow g5b, R5b, ?_⟩
          cases hr1 : r env1 mu5b with
          | bad => rw [hr1] at hp2; exact (show False from hp2).elim
          | exc ex mu6 => rw [hr1] at hp2; exact fun m6 H6 g6 R6 => hp2 m6 H6 ((g2.trans g25b).trans g6) R6
          | ok yd mu6 =>
            rw [hr1] at hp2
            dsimp only at hp2
            intro m6 H6 g6 R6 v rv
            have g26 : Grow m2 m6 H2 H6 := g25b.trans g6
            obtain ⟨s1, s2, s3⟩ := stay m6 H6 g26
            have hlen := hacc.length
            have hp3 : Post X.K W0 m1 H1 ((toK kd >>= fun k => loopCD asg t rk r p.2 ds (wipeE env vs) (putD acc k yd)) mu6) fun xs m' mu' H' => NewDk X.K H xs m' mu' H' Q := hp2
            obtain ⟨kk, rfl, hp4⟩ := toK_at (Rep.grow g6 kd kv rkv) hp3
            obtain ⟨ws, ew, hws⟩ := put_rep (k := kk) (Reps.grow g26 _ vs2 hacc) rv
            refine ⟨_, kk, rfl, s1, by rw [List.length_zip, List.length_map]; rw [List.length_map] at hlen; omega, ?_⟩
            rw [ew]
            have nD : ∀ b o, H6 b = some o → m6.Out b → b ≠ Dd := fun b o _ n z => n.2 (by rw [z]; exact s2)
            have kp : Keep m6 m6 H6 (upd H6 Dd (.dK (((putD acc kk yd).map (·.1)).zip ws))) := ⟨fun _ _ h => h, fun a o h n => ⟨by rw [upd_ne (nD a o h n)]; exact h, n⟩, fun a xs h => by rw [upd_ne (fun z => by rw [z, s1] at h; cases h)]; exact h, fun a u xs h => by rw [upd_ne (fun z => by rw [z, s1] at h; cases h)]; exact h⟩
            have g6f : Grow m1 m6 H1 (upd H6 Dd (.dK (((putD acc kk yd).map (·.1)).zip ws))) := by
              have g16 := g2.trans g26
              refine ⟨g16.ext, fun a o h n => ?_, fun a xs h => ?_, fun a o u h => ?_, fun a o h => ?_⟩
              · rw [upd_ne (hdead a o h)]; exact g16.oth a o h n
              · rw [upd_ne (hdead a _ h)]; exact g16.tups a xs h
              · rw [upd_ne (hdead a _ h)]; exact g16.frzs a o u h
              · rw [upd_ne (hdead a o h)]; exact g16.trk a o h
            refine fin (putD acc kk yd) ws m6 mu6 _ (by have := length_put (kvs := acc) (k := kk) (y := yd); omega) upd_same s2 s3 (hws m6 _ (Reps.keep kp _ vs2 (Reps.grow g26 _ vs2 hacc)) (Rep.keep kp yd v rv)) ?_ ((hE2.grow g26).keep kp) g6f hp4
            refine ⟨R6.len, R6.nd, fun a z => ?_, R6.dj, fun n ob a h1 h2 => (R6.obj n ob a h1 h2).keep kp fun u q => ?_⟩
            · by_cases za : a = Dd
              · subst za; exact ⟨_, upd_same⟩
              · rw [upd_ne za]; exact R6.nos a z
            · rw [upd_ne (fun z => s3 (by rw [← z]; exact List.mem_of_getElem? h2))]; exact q

def eNewK (r : Env → M (List (Key × D))) : Env → M D := fun env => r env >>= fun kvs => alloc (.dk kvs)
def eFd (r : Env → M (List (Key × D))) : Env → M D := fun env => r env >>= fun kvs => pure (.fd (kvs.map (·.1)) (kvs.map (·.2)))
theorem newK_go {r : Env → M (List (Key × D))} : ∀ σ H Q, tE X.K W (eNewK r) σ H Q → tK X.K W r σ H Q := fun σ H Q ⟨env, m, mu, hE, hR, hp⟩ => by
  refine ⟨env, m, mu, hE, hR, ?_⟩
  have e0 : eNewK r env mu = M.bind (r env) (fun xs => alloc (.dk xs)) mu := rfl
  rw [e0] at hp
  unfold M.bind at hp
  cases hr : r env mu with
  | ok xs mu1 =>
    rw [hr] at hp
    intro m1 H1 g1 R1 a vs h0 h1 hn hrs ha
    have q := hp (m1.add a) H1 (g1.adopt h0) ha (.ref a)
    exact q (by simp only [Rep]; exact ⟨a, rfl, add_get R1⟩)
  | exc x mu1 => rw [hr] at hp; exact hp
  | bad => rw [hr] at hp; exact hp
theorem fd_go {r : Env → M (List (Key × D))} : ∀ σ H Q, tE X.K W (eFd r) σ H Q → tK X.K W r σ H Q := fun σ H Q ⟨env, m, mu, hE, hR, hp⟩ =>
  ⟨env, m, mu, hE, hR, (Post.bind hp).mono fun xs m1 mu1 H1 g1 R1 hp a vs h0 h1 hn hr _ => Post.pure hp R1 _ (by simp only [Rep]; exact ⟨a, vs, rfl, h1, hn, by rw [List.length_map, List.length_map], hr⟩)⟩
theorem me_compD {scope : Scope} {own : List (Str × Nat)} {w : Env → M Wk} {asg : D → Env → M Env} {t : Env → M Bool} {rk r rr : Env → M D} {l : List Nat} (hc : X.calm = true) (hN : X.N.Nodup) (hi : MI X W tg iter w) (ok : BlkOk X.N X.env.scope scope own) (hl : ∀ i ∈ l, i ∈ own.map (·.2))
    (hg : ∀ (s : Shared) (H : Hp) (C : Addr) (cl : List (Str × Addr)) (fp : List Addr), MG (X.blk s H scope (compEnvC scope cl C X.env) fp) W0 tg l asg) (ht : ∀ (s : Shared) (H : Hp) (C : Addr) (cl : List (Str × Addr)) (fp : List Addr), MTs (X.blk s H scope (compEnvC scope cl C X.env) fp) W0 ifs t)
    (hk : ∀ (s : Shared) (H : Hp) (C : Addr) (cl : List (Str × Addr)) (fp : List Addr), ME (X.blk s H scope (compEnvC scope cl C X.env) fp) W0 kx rk)
    (he : ∀ (s : Shared) (H : Hp) (C : Addr) (cl : List (Str × Addr)) (fp : List Addr), ME (X.blk s H scope (compEnvC scope cl C X.env) fp) W0 vx r)
    (hrr : ∀ σ H Q, tE X.K W rr σ H Q → tK X.K W (kComp w asg t rk r (own.map (·.2))) σ H Q) (hs : ∀ x, foldedSetIterable iter X.env x = pure x := by intro _; rfl) :
    ME X W (.DictComp kx vx [⟨tg, iter, ifs, 0⟩] scope pos) rr :=
  ⟨(pe_dc hc hN hi.pi ok (fun s H C cl fp => (hg s H C cl fp).pg) (fun s H C cl fp => (ht s H C cl fp).pt) (fun s H C cl fp => (hk s H C cl fp).pe) (fun s H C cl fp => (he s H C cl fp).pe) hs).imp fun σ H Q q => comp_goD hl rfl σ H Q (hrr σ H Q q)⟩
end
end MP
/-! ### name = {..} on one line; enumerate of a tuple -/
namespace L2
open PySem PySem.Spec PyProof.Rows
section
variable {X : Cx}
theorem ps_setDc {i : Nat} {y : Str} {py : Pos} {kx vx tg iter : Expr} {ifs : List Expr} {scope : Scope} {own : List (Str × Nat)} {pos spos : Pos} {wi : TI} {g : TG} {tt : TT} {tk tv : TE} (hc : X.calm = true) (hN : X.N.Nodup) (hy : X.N[i]? = some y) (hyl : X.env.scope.names.lookup y = some .local)
    (hsw : swapsWith (.DictComp kx vx [⟨tg, iter, ifs, 0⟩] scope pos) (some (.Name y py)) spos.line X.env = pure true) (hi : PI X tg iter wi) (ok : BlkOk X.N X.env.scope scope own)
    (hg : ∀ (s : Shared) (H : Hp) (C : Addr) (cl : List (Str × Addr)) (fp : List Addr), PG (X.blk s H scope (compEnvC scope cl C X.env) fp) tg g) (ht : ∀ (s : Shared) (H : Hp) (C : Addr) (cl : List (Str × Addr)) (fp : List Addr), PTs (X.blk s H scope (compEnvC scope cl C X.env) fp) ifs tt)
    (hk : ∀ (s : Shared) (H : Hp) (C : Addr) (cl : List (Str × Addr)) (fp : List Addr), PE (X.blk s H scope (compEnvC scope cl C X.env) fp) kx tk)
    (he : ∀ (s : Shared) (H : Hp) (C : Addr) (cl : List (Str × Addr)) (fp : List Addr), PE (X.blk s H scope (compEnvC scope cl C X.env) fp) vx tv) (hs : ∀ x, foldedSetIterable iter X.env x = pure x := by intro _; rfl) :
    PS X (.Assign [.Name y py] (.DictComp kx vx [⟨tg, iter, ifs, 0⟩] scope pos) spos) (tAsg (tDc wi g tt tk tv (own.map (·.2))) (gName i)) := by
  refine ⟨fun pins s σ H D I h => ?_⟩
  rw [exec_Assign_Name_used _ _ _ _ hsw]
  refine wpAny_bind (wpAny_standAt (wpAny_bind ?_))
  show wpAny _ X.A (do let _ ← comprehension (.DictComp kx vx [⟨tg, iter, ifs, 0⟩] scope pos) scope X.env (firstIterPos [⟨tg, iter, ifs, 0⟩] pos) newDict false (eval iter X.env) (some (assign (.Name y py) X.env))) _ _ s
  have h : tDc wi g tt tk tv (own.map (·.2)) σ H (fun x H1 => gName i x σ H1 D.nx) := h
  refine wpAny_bind (thn (dc_core (Qf := fun _ s' => SP X pins D .next s') hc hN I hi ok hg ht hk he hs h fun L C s' m H' I' q hn f => ?_) fun _ s' hq => wpAny_pure (wpAny_pure hq))
  show wpAny _ _ (assign (.Name y py) X.env (.ref L)) _ _ _
  refine wpAny_assign_Name (store_ok2 (v := V.ref L) I' hN hy (.inl hyl) rfl (fun s2 I2 ⟨a, sb, ha⟩ => ?_) (.inr hyl))
  obtain ⟨f0, f1, f2, f3, f4, f5⟩ := f
  have haC : C ≠ a := by
    rcases ha with z | z
    · rw [z]; exact f1
    · exact fun e => f4 y a z e.symm
  refine ⟨m, hn.sameBut sb haC, fun h3 sb3 => ?_⟩
  exact ⟨_, H', I2.turned (t' := s2.toks) (fun b o hb e => (sb3.2 b hb).trans e) f0 f1 f3 f4 f5, q⟩
theorem sw_trueD {kx vx : Expr} {gs : List Comprehension} {scope : Scope} {pos py : Pos} {y : Str} {l : Nat} {env : Env} (hk : env.scope.kind = .function) (hy : env.scope.names.lookup y = some .local) (hl : (py.line == pos.line) = true)
    (ha : (scope.names.any fun (n, k) => n == y && (k == .local || k == .cell)) = false) : swapsWith (.DictComp kx vx gs scope pos) (some (.Name y py)) l env = pure true := by
  have ky : env.kindOf y = some .local := hy
  have hb : env.blockKind = .function := by unfold Env.blockKind; rw [hk]; rfl
  unfold swapsWith
  simp only [hb, ky, ha, Expr.pos, hl]
  rfl
end
end L2
namespace PySem
open Sem (wp)
open AutoSeq1 (wpAny_loadPart')
theorem meets_enumerate_newT (l : Addr) (items : Array Value) (n : Nat) (dct : Option Addr) (sl : Array (Option Value)) :
    Meets (Builtin.«enumerate.__new__» ⟨[.type "enumerate", .ref l], []⟩) (fun _ R s => s.heap.get? l = some { cls := .type "tuple", dict := dct, data := .seq items n, slots := sl } ∧
      R (.ok (.ret (.ref (s.heap.push { cls := .type "tuple_iterator", data := .fields #[.ref l, .int 0 0] }).objs.size)))
        { s with heap := (s.heap.push { cls := .type "tuple_iterator", data := .fields #[.ref l, .int 0 0] }).push { cls := .type "enumerate", data := .fields #[.none, .bool false, .ref s.heap.objs.size, rawInt 0, .none, .none] } }) :=
  .of_wp fun prog w A R s h => by
    obtain ⟨hp, g, d, tk, os⟩ := s; obtain ⟨hl, h⟩ := h
    have hsub := sub_enumerate
    have hL : Heap.IsTuple (Shared.heap ⟨hp, g, d, tk, os⟩) l items := ⟨_, hl, rfl, n, rfl⟩
    wp_walk using wpAny_loadPart' hl
    refine wpAny_stack_any fun st => wpAny_pure ?_
    split
    · rename_i c _ _ _ _ _
      cases (c == Value.type "enumerate")
      · wp_walk using wpAny_loadPart' hl, wpAny_pyIter_tuple hL
        exact ⟨_, rfl, h⟩
      · wp_walk using wpAny_loadPart' hl, wpAny_pyIter_tuple hL
        exact ⟨_, rfl, h⟩
    · wp_walk using wpAny_loadPart' hl, wpAny_pyIter_tuple hL
      exact ⟨_, rfl, h⟩
theorem call_enumerate_tuple {prog : Program} {w : World} {A : Around} {E : Value → Shared → Prop} {s : Shared} {l : Addr} {items : Array Value} {Q : Value → Shared → Prop} (hL : s.heap.IsTuple l items)
    (h : ∀ h', IsEnum h' (s.heap.objs.size + 1) s.heap.objs.size 0 .none → h'.IsTupleIter s.heap.objs.size l 0 → h'.objs.size = s.heap.objs.size + 2 →
      (∀ b o, s.heap.get? b = some o → h'.get? b = some o) → Q (.ref (s.heap.objs.size + 1)) { s with heap := h' }) :
    wpAny (model prog w) A (call (.type "enumerate") [.ref l]) Q E s := by
  obtain ⟨⟨c, dct, dt, sl⟩, hl, hc, n, hd⟩ := hL
  replace hc : c = .type "tuple" := hc
  replace hd : dt = .seq items n := hd
  subst hc hd
  refine callType_new F.called_enumerate (by decide) (F.typeCall_enumerate_1 _) (F.newCall_enumerate_1 _) (fun obj => F.args_object_init_2 obj _) F.entry_enumerate_new
    (meets_enumerate_newT l items n dct sl) ⟨hl, ?_⟩
  have hz : (s.heap.push { cls := .type "tuple_iterator", data := .fields #[.ref l, .int 0 0] }).objs.size = s.heap.objs.size + 1 := Heap.size_push ..
  show _ ∧ _
  rw [hz]
  have he : IsEnum ((s.heap.push { cls := .type "tuple_iterator", data := .fields #[.ref l, .int 0 0] }).push
      { cls := .type "enumerate", data := .fields #[.none, .bool false, .ref s.heap.objs.size, rawInt 0, .none, .none] }) (s.heap.objs.size + 1) s.heap.objs.size 0 .none := by
    have := Heap.get?_push_size (s.heap.push { cls := .type "tuple_iterator", data := .fields #[.ref l, .int 0 0] })
      (o := { cls := .type "enumerate", data := .fields #[.none, .bool false, .ref s.heap.objs.size, rawInt 0, .none, .none] }) rfl
    rw [hz] at this; exact this
  refine ⟨⟨_, he, rfl⟩, h _ he ⟨_, Heap.get?_push_of_some _ (Heap.get?_push_size _ rfl), rfl, rfl⟩ (by rw [Heap.size_push, hz]) fun b o x => Heap.get?_push_of_some _ (Heap.get?_push_of_some _ x)⟩
end PySem
namespace L2
open PySem PySem.Spec PyProof.Rows
/-- the tuple at a, each item in a new pair -/
def IteT (K : PySem.W.Frag) (a : Addr) : It :=
  ⟨fun i H => ∃ (xs : List V) (x : V), SqT K H a xs ∧ xs[i]? = some x, fun i H v H' => ∃ T x, v = .ref T ∧ H T = none ∧ H' = upd H T (.tup [.int (i : Nat), x]) ∧ ∀ xs, SqT K H a xs → xs[i]? = some x, fun i H => ∃ xs : List V, SqT K H a xs ∧ xs.length ≤ i⟩
theorem turn_enumT {P : Program} {w : World} {K : PySem.W.Frag} {elts : List Expr} {kk : Nat} {tpos : Pos} (a e it : Addr) (hait : a ≠ it) (hae : a ≠ e) :
    Turn P w K (.Tuple elts kk tpos) (IteT K a) [e, it] e (fun i h => (∃ old, IsEnum h e it ((i : Nat) : Int) old) ∧ h.IsTupleIter it a i ∧ e ≠ it) where
  mem := by simp
  obj := fun i h st b hb => by
    obtain ⟨⟨old, he⟩, ⟨o, ho, hc, hd⟩, _⟩ := st
    have e' : b = e ∨ b = it := by simpa using hb
    rcases e' with z | z
    · rw [z]; exact ⟨_, he, fun v q => nomatch q⟩
    · rw [z]; exact ⟨o, ho, fun v q => by rw [hd] at q; cases q⟩
  keep := fun i h h' st k => let ⟨⟨old, he⟩, hi, hne⟩ := st; ⟨⟨old, k e (by simp) _ he⟩, hi.at fun o q => k it (by simp) o q, hne⟩
  item := by
    intro X hP hw hK hc i pins s σ H E I hf st hg
    subst hP hw hK
    obtain ⟨⟨old, he⟩, hit, hne⟩ := st
    obtain ⟨xs, x, hq, hx⟩ := hg
    obtain ⟨its, rv, p, hz⟩ := I.tuple hq
    obtain ⟨u, hu, ru⟩ := rv.get hx
    have hel : e < s.heap.objs.size := Heap.lt_size he
    have hil : it < s.heap.objs.size := by obtain ⟨_, q, _⟩ := hit; exact Heap.lt_size q
    have hD := Draws.tuple (prog := X.prog) (w := X.w) (A := X.A.in1) (by show X.A.handled = none; exact I.ok.hd hc) it a hait its.toArray
    have hlt : i < its.toArray.size := by
      have := (List.getElem?_eq_some_iff.mp hu).1
      simpa using this
    refine wpAny_pyNext_enum_itemD hD he ⟨hit, p⟩ hlt hne (by simp; exact ⟨hne, fun z => hae z.symm⟩) fun u2 h' tk hP ho hst hT hsz hk => ?_
    have eu : u2 = u := by
      have hP : its.toArray[i]? = some u2 := hP
      rw [List.getElem?_toArray, hu] at hP
      exact (Option.some.inj hP).symm
    subst eu
    refine ⟨_, rfl, wpAny_letOwnedTupleGo_enum (s := { s with heap := h', toks := tk + 1 }) ho fun h'' he' sb => ?_⟩
    have hT2 : h''.get? s.heap.objs.size = some { cls := .type "tuple", data := .seq #[.int i tk, u2] } := (sb.2 _ (Nat.ne_of_gt hel)).trans hT
    have new : ObjOk X.prog X.w (upd H s.heap.objs.size (.tup [.int (i : Nat), x])) h'' s.heap.objs.size (.tup [.int (i : Nat), x]) :=
      ⟨by show 2 ≤ sizeLine; decide, [.int i tk, u2], .cons ⟨_, rfl⟩ (.cons ru .nil), ⟨_, hT2, rfl, _, rfl⟩⟩
    have I1 : Inv X pins σ (upd H s.heap.objs.size (.tup [.int (i : Nat), x])) { s with heap := h'', toks := tk + 1 } :=
      I.turnedNew (ch := [e, it]) (fun b ob hb q => (sb.2 b (fun z => hb (by simp [z]))).trans (hk b ob (fun z => hb (by simp [z])) (fun z => hb (by simp [z])) q)) hf (Nat.le_refl _) new
    refine ⟨.ref s.heap.objs.size, _, I1, rfl, ⟨_, x, rfl, I.hok.fresh (Nat.le_refl _), rfl, fun ys hy => by rw [I.tuple_inj hy hq]; exact hx⟩, ⟨⟨u2, ?_⟩, hst.1.at fun o q => (sb.2 it (Ne.symm hne)).trans q, hne⟩, fun b hb => ?_⟩
    · have e1 : ((i + 1 : Nat) : Int) = (i : Int) + 1 := by omega
      rw [e1]; exact he'
    · have hb' : b < s.heap.objs.size := by
        have e' : b = e ∨ b = it := by simpa using hb
        rcases e' with z | z
        · rw [z]; exact hel
        · rw [z]; exact hil
      rw [upd_ne (Nat.ne_of_lt hb')]
      exact (hf b hb).1
  done := by
    intro X hP hw hK hc i pins s σ H E I hf st hg
    subst hP hw hK
    obtain ⟨⟨old, he⟩, hit, hne⟩ := st
    obtain ⟨xs, hq, hx⟩ := hg
    obtain ⟨its, rv, p, hz⟩ := I.tuple hq
    obtain ⟨f0, f1, f2, f3, f4, f5⟩ := hf it (by simp)
    have hl := rv.length
    have hT : s.TypeIs (.ref e) "enumerate" := ⟨_, he, rfl⟩
    unfold pyNext
    refine wpAny_bind (wpAny_attempt (wpAny_callSpecial?_slot (name := Str.ofString "__next__") hT F.slot_enumerate_next
      (wpAny_call_entry F.slot_enumerate_next hT F.entry_enumerate_next ?_ (F.args_enumerate_next_1 _))))
    show wpAny _ _ (field (.ref e) 2 >>= _) _ _ _
    refine wpAny_bind (wpAny_field he rfl (x := .ref it) rfl ?_)
    refine wpAny_bind (wpAny_nextOf_tuple_end (by show X.A.handled = none; exact I.ok.hd hc) hit p (by simp; omega) fun h' x he' hx' => ?_)
    obtain ⟨o, ho, hc'⟩ := hx'
    refine wpAny_bind (wpAny_isInstance (T := "StopIteration") (b := true) ⟨o, ho, hc'⟩ isSubtype_stop ?_)
    exact wpAny_pure ⟨rfl, I.turned (t' := s.toks) (fun b o hb q => he' b o hb q) f0 f1 f3 f4 f5⟩
  self := fun A i s Q E st h => let ⟨⟨_, he⟩, _⟩ := st; wpAny_pyIter_enum he h
def iEnumT (K : PySem.W.Frag) (ta : TA) : TI := fun σ H R => ta σ H fun vs H1 => ∃ a xs, vs = [.ref a] ∧ SqT K H1 a xs ∧ R (IteT K a) H1
theorem pi_enumT {X : Cx} {e : Expr} {ta : TA} {p pos tpos : Pos} {elts : List Expr} {kk : Nat} (hg : Gl X "enumerate") (hm : X.mg "enumerate" = none) (ha : PA X [e] ta) (hs : starEach [e] X.env = [(false, eval e X.env)] := by rfl) :
    PI X (.Tuple elts kk tpos) (.Call (.Name "enumerate" p) [e] [] pos) (iEnumT X.K ta) := by
  refine ⟨fun pins s σ H R I h => ?_⟩
  refine Call_ (ld_blt I hg hm boot_enumerate (PyProof.Rows.callWith_type1 (thn (ha.run pos pins s σ H _ I h) fun us s1 ⟨vs, H1, I1, r1, q1⟩ => ?_) hs rfl))
  obtain ⟨a, xs, ex, hq, q⟩ := q1
  subst ex
  cases r1 with
  | cons r rr =>
    cases rr
    cases r
    obtain ⟨its, rv, p', hz⟩ := I1.tuple hq
    have hlt : a < s1.heap.objs.size := by obtain ⟨_, q, _⟩ := p'; exact Heap.lt_size q
    refine call_enumerate_tuple p' fun h' he hit hsz hk => wpAny_pyIter_enum he ?_
    have I2 : Inv X pins σ H1 { s1 with heap := h' } := I1.kept (t' := s1.toks) hk
    refine ⟨s1.heap.objs.size + 1, [s1.heap.objs.size + 1, s1.heap.objs.size], _, _, H1, rfl, I2, turn_enumT a (s1.heap.objs.size + 1) s1.heap.objs.size (Nat.ne_of_lt hlt) (Nat.ne_of_lt (Nat.lt_succ_of_lt hlt)), ⟨⟨.none, he⟩, hit, Nat.succ_ne_self _⟩, fun b hb => ?_, q⟩
    have e' : b = s1.heap.objs.size + 1 ∨ b = s1.heap.objs.size := by simpa using hb
    have hle : s1.heap.objs.size ≤ b := by
      rcases e' with z | z
      · rw [z]; exact Nat.le_add_right _ _
      · rw [z]; exact Nat.le_refl _
    exact I1.fpOk hle (I1.hok.fresh hle)
end L2
namespace MP
open PySem L2 PyProof.Rows
section
variable {X : Cx} {W : Wx} {e o a b tg iter elt kx vx : Expr} {es ifs : List Expr} {pos apos cpos p : Pos}
theorem ms_setD {i : Nat} {y : Str} {py spos : Pos} {scope : Scope} {own : List (Str × Nat)} {w : Env → M Wk} {asg : D → Env → M Env} {t : Env → M Bool} {rk r rr : Env → M D} {l : List Nat} (hc : X.calm = true) (hN : X.N.Nodup) (hy : X.N[i]? = some y) (hyl : X.env.scope.names.lookup y = some .local)
    (hsw : swapsWith (.DictComp kx vx [⟨tg, iter, ifs, 0⟩] scope pos) (some (.Name y py)) spos.line X.env = pure true) (hi : MI X W tg iter w) (ok : BlkOk X.N X.env.scope scope own) (hl : ∀ i ∈ l, i ∈ own.map (·.2))
    (hg : ∀ (s : Shared) (H : Hp) (C : Addr) (cl : List (Str × Addr)) (fp : List Addr), MG (X.blk s H scope (compEnvC scope cl C X.env) fp) W0 tg l asg) (ht : ∀ (s : Shared) (H : Hp) (C : Addr) (cl : List (Str × Addr)) (fp : List Addr), MTs (X.blk s H scope (compEnvC scope cl C X.env) fp) W0 ifs t)
    (hk : ∀ (s : Shared) (H : Hp) (C : Addr) (cl : List (Str × Addr)) (fp : List Addr), ME (X.blk s H scope (compEnvC scope cl C X.env) fp) W0 kx rk)
    (he : ∀ (s : Shared) (H : Hp) (C : Addr) (cl : List (Str × Addr)) (fp : List Addr), ME (X.blk s H scope (compEnvC scope cl C X.env) fp) W0 vx r)
    (hrr : ∀ σ H Q, tE X.K W rr σ H Q → tK X.K W (kComp w asg t rk r (own.map (·.2))) σ H Q) (hs : ∀ x, foldedSetIterable iter X.env x = pure x := by intro _; rfl) :
    MS X W (.Assign [.Name y py] (.DictComp kx vx [⟨tg, iter, ifs, 0⟩] scope pos) spos) (sSet i rr) :=
  ⟨(ps_setDc hc hN hy hyl hsw hi.pi ok (fun s H C cl fp => (hg s H C cl fp).pg) (fun s H C cl fp => (ht s H C cl fp).pt) (fun s H C cl fp => (hk s H C cl fp).pe) (fun s H C cl fp => (he s H C cl fp).pe) hs).imp fun D σ H q => comp_goD hl rfl σ H _ (hrr σ H _ (set_go D σ H q))⟩
theorem itOk_enumT {K : PySem.W.Frag} {m0 : Mp} {H0 : Hp} {ds : List D} {vs : List V} {a : Addr} (hs : SqT K H0 a vs) (hr : Reps K m0 H0 ds vs) : ItOk K [] (enumD 0 ds) (IteT K a) m0 H0 := fun m mu H gr R hg => by
  have hs' := gr.sqT hs
  have hr' := Reps.grow gr ds vs hr
  refine ⟨fun i hi => ⟨vs, hs', by rw [← hr.length, ← enumD_len ds 0]; exact hi⟩, fun i d hd => ?_⟩
  rw [enumD_get] at hd
  obtain ⟨x, hx, ed⟩ := Option.map_eq_some_iff.mp hd
  obtain ⟨v, hv, rv⟩ := hr'.get hx
  refine ⟨⟨vs, v, hs', hv⟩, fun y H' yy => ?_⟩
  obtain ⟨T, z, rfl, hn, rfl, u⟩ := yy
  have e2 := u vs hs'
  rw [hv] at e2
  cases e2
  subst ed
  rw [Int.zero_add]
  exact pairT R (by simp only [Rep]) rv hn
/-- enumerate of a list or a tuple -/
def wEnumA : List D → M Wk
  | [.tup xs] => pure (enumD 0 xs, [])
  | xs => wEnum xs
theorem mi_enumA {elts : List Expr} {kk : Nat} {tpos : Pos} {rs : Env → M (List D)} (hg : Gl X "enumerate") (hm : X.mg "enumerate" = none) (h : MA X W [a] rs) (hs : starEach [a] X.env = [(false, eval a X.env)] := by rfl) : MI X W (.Tuple elts kk tpos) (.Call (.Name "enumerate" p) [a] [] pos) (wThen wEnumA rs) :=
  ⟨pi_imp (pi_sz (pi_or (pi_enum hg hm h.pa hs) (pi_enumT hg hm h.pa hs))) fun σ H Q ⟨env, m, mu, hE, hR, hp⟩ => by
    have e0 : wThen wEnumA rs env mu = M.bind (rs env) wEnumA mu := rfl
    rw [e0] at hp
    unfold M.bind at hp
    cases hr : rs env mu with
    | exc x mu1 => rw [hr] at hp; exact .inl ⟨env, m, mu, hE, hR, by rw [hr]; exact hp⟩
    | bad => rw [hr] at hp; exact hp.elim
    | ok xs mu1 =>
      rw [hr] at hp
      replace hp : Post X.K W m H (wEnumA xs mu1) (fun p m' _ H' => p.1.length ≤ sizeLine → ∀ J, ItOk X.K p.2 p.1 J m' H' → Q J H') := hp
      have lst : ∀ xs, rs env mu = .ok xs mu1 → Post X.K W m H (wEnum xs mu1) (fun p m' _ H' => p.1.length ≤ sizeLine → ∀ J, ItOk X.K p.2 p.1 J m' H' → Q J H') → tA X.K W rs σ H (fun vs H1 => ∃ a xs, vs = [.ref a] ∧ SqL X.K H1 a xs ∧ (Sz X.K H1 → Q (Ite X.K a) H1)) := fun xs hr hp => by
        refine ⟨env, m, mu, hE, hR, ?_⟩
        rw [hr]
        intro m1 H1 g1 R1 vs rv
        have hp := hp.grow g1
        match xs, rv, hp with
        | [x], rv, hp =>
          obtain ⟨v, rfl, h1⟩ := rep1 rv
          obtain ⟨a, ds, g, vs, rfl, hs, hr, hk, hp⟩ := rdW_ok R1 h1 (Post.bind hp)
          exact ⟨a, vs, rfl, hs, fun sz => Post.pure hp R1 (by show (enumD 0 ds).length ≤ _; rw [enumD_len, hr.length]; exact sz.1 a vs hs) _ (itOk_enum hk)⟩
        | [], _, hp => exact (show False from hp).elim
        | _ :: _ :: _, _, hp => exact (show False from hp).elim
      cases xs with
      | nil => exact .inl (lst _ hr hp)
      | cons x xs =>
        cases x
        case tup ys =>
          cases xs with
          | cons y ys => exact .inl (lst _ hr hp)
          | nil =>
            refine .inr ⟨env, m, mu, hE, hR, ?_⟩
            rw [hr]
            intro m1 H1 g1 R1 vs rv
            obtain ⟨v, rfl, h1⟩ := rep1 rv
            simp only [Rep] at h1
            obtain ⟨a, vs, rfl, hs, hq⟩ := h1
            have hp2 := hp m1 H1 g1 R1
            exact ⟨a, vs, rfl, hs, fun sz => hp2 (by show (enumD 0 ys).length ≤ _; rw [enumD_len, hq.length]; exact sz.2 a vs hs) _ (itOk_enumT hs hq)⟩
        all_goals exact .inl (lst _ hr hp)⟩
/-! for simp -/
variable {mu : List MO} {env : Env} {d : D} {xs : List D}
@[simp] theorem wEnumA_tup : wEnumA [.tup xs] mu = .ok (enumD 0 xs, []) mu := rfl
@[simp] theorem wEnumA_fl : wEnumA [.fl xs] mu = .ok (enumD 0 xs, []) mu := rfl
@[simp] theorem wEnumA_ro : wEnumA [.ro xs] mu = .ok (enumD 0 xs, []) mu := rfl
@[simp] theorem gIsB_ap {neg x y : Bool} : gIsB neg (.bl x) (.bl y) mu = .ok (.bl (decide (x = y) != neg)) mu := rfl
@[simp] theorem gLe_int {i j : Int} : gLe (.int i) (.int j) mu = .ok (.bl (decide (i ≤ j))) mu := rfl
@[simp] theorem gGe_int {i j : Int} : gGe (.int i) (.int j) mu = .ok (.bl (decide (j ≤ i))) mu := rfl
@[simp] theorem gGt_int {i j : Int} : gGt (.int i) (.int j) mu = .ok (.bl (decide (j < i))) mu := rfl
@[simp] theorem gLe_str {i j : Str} : gLe (.str i) (.str j) mu = .ok (.bl (!ltS j i)) mu := rfl
@[simp] theorem gGe_str {i j : Str} : gGe (.str i) (.str j) mu = .ok (.bl (!ltS i j)) mu := rfl
@[simp] theorem gGt_str {i j : Str} : gGt (.str i) (.str j) mu = .ok (.bl (ltS j i)) mu := rfl
@[simp] theorem bTru_ap {ra : Env → M D} : bTru ra env = (ra env >>= truD) := rfl
@[simp] theorem truD_tup : truD (.tup xs) mu = .ok (!xs.isEmpty) mu := rfl
@[simp] theorem truD_fl : truD (.fl xs) mu = .ok (!xs.isEmpty) mu := rfl
@[simp] theorem truD_bl {b : Bool} : truD (.bl b) mu = .ok b mu := rfl
@[simp] theorem truD_non : truD .non mu = .ok false mu := rfl
@[simp] theorem sBad_ap : sBad env mu = .bad := rfl
@[simp] theorem eNewK_ap {r : Env → M (List (Key × D))} : eNewK r env = (r env >>= fun kvs => alloc (.dk kvs)) := rfl
@[simp] theorem eFd_ap {r : Env → M (List (Key × D))} : eFd r env = (r env >>= fun kvs => pure (.fd (kvs.map (·.1)) (kvs.map (·.2)))) := rfl
@[simp] theorem kComp_ap {w : Env → M Wk} {asg : D → Env → M Env} {t : Env → M Bool} {rk r : Env → M D} {vs : List Nat} : kComp w asg t rk r vs env = (w env >>= fun p => noX (loopCD asg t rk r p.2 p.1 (wipeE env vs) [])) := rfl
end
end MP
namespace MP
open PySem L2 PyProof.Rows
/-! ### more words that the laws share -/
/-- names: 0 state, 1 items, 2 found, 3 item -/
noncomputable def r__law_shuffled (d__law_draw : List D → M Rv) : MP.Env → M Fl :=
  (sSeq (sSet 2 (eNew (aList aNil)))
  (sSeq (sFor (eWalk (eVar 1)) (asgN 3)
  (sExpr (eMeth lstK gInsert (eVar 2) (aCons (eCall (lenD 2 d__law_draw) (aCons (eVar 0) (aCons (eBin gAdd (aThen (g1 gLen) (aCons (eVar 2) aNil)) (eC (.int 1))) aNil))) (aCons (eVar 3) aNil)))) [3])
  (sRet (eVar 2))))
noncomputable def den__law_shuffled (d__law_draw : List D → M Rv) : List D → M Rv := fun ds => noX (runB 4 (r__law_shuffled d__law_draw) ds)
/-- names: 0 state, 1 many, 2 letters, 3 start, 4 step, 5 shared, 6 k -/
noncomputable def r__law_words (d__law_draw : List D → M Rv) : MP.Env → M Fl :=
  (sSeq (sSet 2 (eC (.str "abcdefghijklmnopqrstuvwxyz")))
  (sSeq (sSet 3 (eCall (lenD 2 d__law_draw) (aCons (eVar 0) (aCons (eC (.int 26)) aNil))))
  (sSeq (sSet 4 (eBin gAdd (eC (.int 1)) (eBin gMul (eC (.int 2)) (eCall (lenD 2 d__law_draw) (aCons (eVar 0) (aCons (eC (.int 6)) aNil))))))
  (sSeq (sSet 5 (eSl (eC (.str "qxz")) oNone (oSome (eCall (lenD 2 d__law_draw) (aCons (eVar 0) (aCons (eC (.int 4)) aNil))))))
  (sSeq (eIf (eB (eBin (gEq false) (eCall (lenD 2 d__law_draw) (aCons (eVar 0) (aCons (eC (.int 2)) aNil))) (eC (.int 0))))
  (sRetF (fComp (wThen wRng1 (aCons (eVar 1) aNil)) (asgN 6) tYesM (eBin gAdd (eVar 5) (eBin gIx (eVar 2) (eBin gMod (aThen (g1 gInt) (aCons (eBin gAdd (eVar 3) (eBin gMul (eVar 6) (eVar 4))) aNil)) (eC (.int 26))))) [6]))
  sNext)
  (sRetF (fComp (wThen wRng1 (aCons (eVar 1) aNil)) (asgN 6) tYesM (eBin gAdd (eBin gIx (eVar 2) (eBin gMod (aThen (g1 gInt) (aCons (eBin gAdd (eVar 3) (eBin gMul (eVar 6) (eVar 4))) aNil)) (eC (.int 26)))) (eVar 5)) [6])))))))
noncomputable def den__law_words (d__law_draw : List D → M Rv) : List D → M Rv := fun ds => noX (runB 7 (r__law_words d__law_draw) ds)
/-! what is left behind, forgotten: the general way -/
open Classical in
/-- den where the input is as it should be -/
noncomputable def guardD (WF : List D → List MO → Prop) (den : List D → M Rv) : List D → M Rv := fun ds mu => if WF ds mu then den ds mu else .bad
theorem guardD_ok {WF : List D → List MO → Prop} {den : List D → M Rv} {ds : List D} {mu : List MO} (h : WF ds mu) : guardD WF den ds mu = den ds mu := by unfold guardD; rw [if_pos h]
/-- the first k places; a new list is handed out -/
def cutR (k : Nat) : R Rv → R Rv
  | .ok (.vl (.ref n)) mu' => if n < k then .ok (.vl (.ref n)) (mu'.take k) else match mu'[n]? with
    | some (.lst ys) => .ok (.fr ys) (mu'.take k)
    | _ => .bad
  | .ok rv mu' => .ok rv (mu'.take k)
  | .exc x mu' => .exc x (mu'.take k)
  | .bad => .bad
def forgetN (den : List D → M Rv) : List D → M Rv := fun ds mu => cutR mu.length (den ds mu)
/-- what comes back is whole without what is left behind -/
inductive Whole (k : Nat) (mu1 ex : List MO) : Rv → Rv → Prop
  | vl {d : D} : Clo k d → Whole k mu1 ex (.vl d) (.vl d)
  | new {n : Nat} {ys : List D} : k ≤ n → (mu1 ++ ex)[n]? = some (.lst ys) → Clos k ys → Whole k mu1 ex (.vl (.ref n)) (.fr ys)
  | fr {ys : List D} : Clos k ys → Whole k mu1 ex (.fr ys) (.fr ys)
theorem Whole.cut {k : Nat} {mu1 ex : List MO} {rv rv' : Rv} (h : Whole k mu1 ex rv rv') (hk : mu1.length = k) : cutR k (.ok rv (mu1 ++ ex)) = .ok rv' mu1 := by
  have e : (mu1 ++ ex).take k = mu1 := by rw [← hk, List.take_left]
  cases h with
  | vl hd =>
    rename_i d
    cases d
    case ref n =>
      show (if n < k then MP.R.ok (Rv.vl (D.ref n)) ((mu1 ++ ex).take k) else _) = _
      rw [if_pos (Clo.ref.mp hd), e]
    all_goals (show MP.R.ok (Rv.vl _) ((mu1 ++ ex).take k) = _; rw [e])
  | new hn hx hy =>
    rename_i n ys
    show (if n < k then MP.R.ok (Rv.vl (D.ref n)) ((mu1 ++ ex).take k) else match (mu1 ++ ex)[n]? with
      | some (.lst ys) => MP.R.ok (Rv.fr ys) ((mu1 ++ ex).take k)
      | _ => .bad) = _
    rw [if_neg (by omega), hx, e]
  | fr hy => show MP.R.ok (Rv.fr _) ((mu1 ++ ex).take k) = _; rw [e]
theorem forgetN_ok {den : List D → M Rv} {ds : List D} {mu mu1 ex : List MO} {rv rv' : Rv} (h : den ds mu = .ok rv (mu1 ++ ex)) (hk : mu1.length = mu.length) (hw : Whole mu.length mu1 ex rv rv') : forgetN den ds mu = .ok rv' mu1 := by
  unfold forgetN
  rw [h]
  exact hw.cut hk
theorem gc_guard {n : Nat} {den : List D → M Rv} {WF : List D → List MO → Prop} (h : ∀ ds mu, WF ds mu → ds.length = n → Clos mu.length ds → CloH mu → ∃ rv rv' mu1 ex, den ds mu = .ok rv (mu1 ++ ex) ∧ mu1.length = mu.length ∧ CloH mu1 ∧ Whole mu.length mu1 ex rv rv') : GC n den (guardD WF (forgetN den)) := fun ds mu hn hc hh => by
  by_cases hw : WF ds mu
  · obtain ⟨rv, rv', mu1, ex, e, hl, h1, hW⟩ := h ds mu hw hn hc hh
    rw [guardD_ok hw, forgetN_ok e hl hW]
    refine ⟨rv, mu1 ++ ex, e, by omega, ?_⟩
    rw [← hl] at hW
    cases hW with
    | vl hd => exact .vl (h1.frz ex) (hd _ _)
    | new hk hx hy => exact .newL hk hx (h1.frz ex) (hy _ _)
    | fr hy => exact .fr (h1.frz ex) (hy _ _)
  · have e : guardD WF (forgetN den) ds mu = .bad := by unfold guardD; rw [if_neg hw]
    rw [e]; trivial
theorem st_clo {k : Nat} {cs : List Int} {a b c : Int} : CloO k (st cs a b c) := by
  refine Clos.cons (Clo.fl.mpr (Clos.of fun d hd => ?_)) (Clos.cons Clo.int (Clos.cons Clo.int (Clos.cons Clo.int Clos.nil)))
  obtain ⟨i, _, e⟩ := List.mem_map.mp hd
  subst e
  exact Clo.int
theorem Nx.len {s : Nat} {cs : List Int} {mu mu' : List MO} (n : Nx s cs mu mu') : mu'.length = mu.length := by
  obtain ⟨a, b, c, e⟩ := n
  rw [e, List.length_set]
theorem Nx.clo {s : Nat} {cs : List Int} {mu mu' : List MO} (n : Nx s cs mu mu') (h : CloH mu) : CloH mu' := by
  have hl := n.len
  obtain ⟨a, b, c, e⟩ := n
  intro o ho
  rw [hl]
  rw [e] at ho
  rcases List.mem_or_eq_of_mem_set ho with z | z
  · exact h o z
  · rw [z]; exact st_clo
/-- the state moved on, over further places -/
theorem Nx.app {s : Nat} {cs : List Int} {mu ex mu' : List MO} (h : At s cs mu) (n : Nx s cs (mu ++ ex) mu') : ∃ mu1, mu' = mu1 ++ ex ∧ Nx s cs mu mu1 := by
  obtain ⟨a, b, c, e⟩ := n
  exact ⟨mu.set s (st cs a b c), by rw [e, List.set_append_left _ _ h.lt], a, b, c, rfl⟩
theorem At.app {s : Nat} {cs : List Int} {mu : List MO} (h : At s cs mu) (ex : List MO) : At s cs (mu ++ ex) := by
  have hl := h.lt
  obtain ⟨a, b, c, h⟩ := h
  exact ⟨a, b, c, by rw [List.getElem?_append_left hl]; exact h⟩
@[simp] theorem lstK_ref {n : Nat} {mu : List MO} {xs : List D} (h : mu[n]? = some (.lst xs)) : lstK (.ref n) mu = .ok () mu := by
  have e1 : lstK (.ref n) mu = match mu[n]? with
    | some (.lst _) => MP.R.ok () mu
    | _ => .bad := rfl
  rw [e1, h]
/-! shuffled -/
theorem modL_at {n : Nat} {xs ys : List D} {d : D} {f : List D → Option (List D × D)} {mu : List MO} (h : mu[n]? = some (.lst xs)) (hf : f xs = some (ys, d)) : modL n f mu = .ok d (mu.set n (.lst ys)) := by
  unfold modL
  rw [h, modLr_lst, hf]
theorem insert_ok {n : Nat} {xs : List D} {d : D} {i : Int} {mu : List MO} (h : mu[n]? = some (.lst xs)) (hz : xs.length < sizeLine) (h0 : 0 ≤ i) (h1 : i < 2 ^ 63) : gInsert (.ref n) [.int i, d] mu = .ok .non (mu.set n (.lst (xs.take i.toNat ++ [d] ++ xs.drop i.toNat))) := by
  show ((toI (.int i) : M Int) >>= fun i => modL n fun xs => if xs.length < sizeLine ∧ 0 ≤ i ∧ i < 2 ^ 63 then some (xs.take i.toNat ++ [d] ++ xs.drop i.toNat, .non) else none) mu = _
  rw [bind_ap, toI_int]
  exact modL_at h (by rw [if_pos ⟨hz, h0, h1⟩])
theorem append_ok {n : Nat} {xs : List D} {d : D} {mu : List MO} (h : mu[n]? = some (.lst xs)) (hz : xs.length < sizeLine) : gAppend (.ref n) [d] mu = .ok .non (mu.set n (.lst (xs ++ [d]))) := modL_at h (by rw [if_pos hz])
theorem set_last {mu1 : List MO} {x y : MO} {k : Nat} (h : k = mu1.length) : (mu1 ++ [x]).set k y = mu1 ++ [y] := by subst h; simp [List.set_append]
theorem get_last {mu1 : List MO} {x : MO} {k : Nat} (h : k = mu1.length) : (mu1 ++ [x])[k]? = some x := by subst h; simp
theorem shuf_loop {s : Nat} {cs : List Int} {d : D} {n : Nat} : ∀ (rest ys : List D) (mu1 : List MO) (o3 : Option D), At s cs mu1 → n = mu1.length → ys.length + rest.length < 1000 → ∃ ys' mu2,
    loopF (asgN 3) (sExpr (eMeth lstK gInsert (eVar 2) (aCons (eCall (lenD 2 den__law_draw) (aCons (eVar 0) (aCons (eBin gAdd (aThen (g1 gLen) (aCons (eVar 2) aNil)) (eC (.int 1))) aNil))) (aCons (eVar 3) aNil)))) [3] [] rest [some (.ref s), some d, some (.ref n), o3] (mu1 ++ [.lst ys]) =
      .ok (.nx [some (.ref s), some d, some (.ref n), none]) (mu2 ++ [.lst ys']) ∧ Nx s cs mu1 mu2 ∧ ys'.Perm (ys ++ rest)
  | [], ys, mu1, o3, A, hn, hl => ⟨ys, mu1, by rw [loopF_nil]; rfl, .refl A, by rw [List.append_nil]⟩
  | x :: rest, ys, mu1, o3, A, hn, hl => by
    have hg := get_last (x := .lst ys) hn
    obtain ⟨i, mu', e, nx, h0, h1⟩ := draw_at (most := (ys.length : Int) + 1) (A.app [.lst ys]) (by omega) (log2_small (by rw [List.length_cons] at hl; omega))
    obtain ⟨mu2, rfl, n2⟩ := Nx.app A nx
    have hn2 : n = mu2.length := by rw [n2.len]; exact hn
    have hg2 := get_last (x := .lst ys) hn2
    have hins := insert_ok (d := x) (i := i) hg2 (by rw [List.length_cons] at hl; rw [sizeLine_eq]; omega) h0 (by rw [List.length_cons] at hl; omega)
    rw [set_last hn2] at hins
    have hlen : (ys.take i.toNat ++ [x] ++ ys.drop i.toNat).length = ys.length + 1 := by simp; omega
    obtain ⟨ys', mu3, h2, h3, h4⟩ := shuf_loop (s := s) (cs := cs) (d := d) (n := n) rest (ys.take i.toNat ++ [x] ++ ys.drop i.toNat) mu2 (some x) (n2.at_ A) hn2 (by rw [hlen]; rw [List.length_cons] at hl; omega)
    refine ⟨ys', mu3, ?_, n2.trans h3, h4.trans ?_⟩
    · rw [loopF_cons]
      have hlg : gLen (.ref n) (mu1 ++ [.lst ys]) = .ok (.int ys.length) (mu1 ++ [.lst ys]) := gLen_ref hg
      simp [lstK_ref hg, hlg, e, hins]
      simpa using h2
    · have p1 : (ys.take i.toNat ++ [x] ++ ys.drop i.toNat).Perm (x :: ys) := by
        have z : ys.take i.toNat ++ [x] ++ ys.drop i.toNat = ys.take i.toNat ++ x :: ys.drop i.toNat := by simp
        rw [z]
        exact List.perm_middle.trans (by rw [List.take_append_drop])
      exact (p1.append_right rest).trans (List.perm_middle (l₁ := ys) (l₂ := rest) (a := x)).symm
theorem shuffled_ok {s : Nat} {cs : List Int} {d : D} {xs : List D} {mu : List MO} (A : At s cs mu) (hd : seqOf d = some xs) (hl : xs.length < 1000) : ∃ ys mu1, den__law_shuffled den__law_draw [.ref s, d] mu = .ok (.vl (.ref mu.length)) (mu1 ++ [.lst ys]) ∧ Nx s cs mu mu1 ∧ ys.Perm xs := by
  obtain ⟨ys, mu1, h1, h2, h3⟩ := shuf_loop (s := s) (cs := cs) (d := d) xs [] mu none A rfl (by simpa using hl)
  refine ⟨ys, mu1, noX_ok ?_, h2, h3⟩
  simp [r__law_shuffled, startE, seqOf_walk hd, h1]
/-- shuffled, without what it leaves behind -/
def shufWF (ds : List D) (mu : List MO) : Prop := ∃ s cs d xs, ds = [.ref s, d] ∧ At s cs mu ∧ seqOf d = some xs ∧ xs.length < 1000
noncomputable def shufD : List D → M Rv := guardD shufWF (forgetN (den__law_shuffled den__law_draw))
theorem seqOf_clo {k : Nat} {d : D} {xs : List D} (h : seqOf d = some xs) (hc : Clo k d) : Clos k xs := by
  cases d <;> simp [seqOf] at h
  · subst h; exact Clo.tup.mp hc
  · subst h; exact Clo.fl.mp hc
  · subst h; exact Clo.ro.mp hc
theorem shuf_whole {s : Nat} {cs : List Int} {d : D} {xs : List D} {mu : List MO} (A : At s cs mu) (hd : seqOf d = some xs) (hl : xs.length < 1000) (hc : Clos mu.length xs) : ∃ ys mu1, den__law_shuffled den__law_draw [.ref s, d] mu = .ok (.vl (.ref mu.length)) (mu1 ++ [.lst ys]) ∧ Nx s cs mu mu1 ∧ ys.Perm xs ∧ Whole mu.length mu1 [.lst ys] (.vl (.ref mu.length)) (.fr ys) := by
  obtain ⟨ys, mu1, e, n, p⟩ := shuffled_ok A hd hl
  exact ⟨ys, mu1, e, n, p, .new (Nat.le_refl _) (get_last n.len.symm) (Clos.of fun x hx => hc.mem x (p.mem_iff.mp hx))⟩
theorem gc_shuf : GC 2 (den__law_shuffled den__law_draw) shufD := gc_guard fun ds mu hw hn hc hh => by
  obtain ⟨s, cs, d, xs, rfl, A, hd, hl⟩ := hw
  obtain ⟨ys, mu1, e, n, p, w⟩ := shuf_whole A hd hl (seqOf_clo hd hc.inv.2.inv.1)
  exact ⟨_, _, mu1, _, e, n.len, n.clo hh, w⟩
theorem shufD_ok {s : Nat} {cs : List Int} {d : D} {xs : List D} {mu : List MO} (A : At s cs mu) (hd : seqOf d = some xs) (hl : xs.length < 1000) (hc : Clos mu.length xs) : ∃ ys mu1, shufD [.ref s, d] mu = .ok (.fr ys) mu1 ∧ Nx s cs mu mu1 ∧ ys.Perm xs := by
  obtain ⟨ys, mu1, e, n, p, w⟩ := shuf_whole A hd hl hc
  refine ⟨ys, mu1, ?_, n, p⟩
  unfold shufD
  rw [guardD_ok ⟨s, cs, d, xs, rfl, A, hd, hl⟩]
  exact forgetN_ok e n.len w
end MP
namespace MP
open PySem L2 PyProof.Rows
/-! ### drawn words -/
structure GoodW (w : Str) : Prop where
  pos : 1 ≤ w.length
  le : w.length ≤ 4
  low : ∀ c ∈ w.cps.toList, 97 ≤ c ∧ c ≤ 122
def wd (front : Bool) (sh : Str) (c : Nat) : Str := if front = true then sh ++ ⟨#[c]⟩ else ⟨#[c]⟩ ++ sh
theorem wd_good {front : Bool} {sh : Str} {c : Nat} (h : sh.length ≤ 3) (hs : ∀ c ∈ sh.cps.toList, 97 ≤ c ∧ c ≤ 122) (hc : 97 ≤ c ∧ c ≤ 122) : GoodW (wd front sh c) := by
  have h1 : (⟨#[c]⟩ : Str).length = 1 := rfl
  unfold wd
  cases front
  · refine ⟨?_, ?_, fun x hx => ?_⟩
    · simp only [Bool.false_eq_true, if_false]; rw [len_append, h1]; omega
    · simp only [Bool.false_eq_true, if_false]; rw [len_append, h1]; omega
    · simp only [Bool.false_eq_true, if_false] at hx
      rw [cps_append] at hx
      rcases List.mem_append.mp hx with z | z
      · simp at z; rw [z]; exact hc
      · exact hs x z
  · refine ⟨?_, ?_, fun x hx => ?_⟩
    · simp only [if_true]; rw [len_append, h1]; omega
    · simp only [if_true]; rw [len_append, h1]; omega
    · simp only [if_true] at hx
      rw [cps_append] at hx
      rcases List.mem_append.mp hx with z | z
      · exact hs x z
      · simp at z; rw [z]; exact hc
theorem wd_inj {front : Bool} {sh : Str} {c d : Nat} (h : wd front sh c = wd front sh d) : c = d := by
  have e := congrArg (fun z : Str => z.cps.toList) h
  unfold wd at e
  cases front
  · simp only [Bool.false_eq_true, if_false] at e
    rw [cps_append, cps_append] at e
    simp at e
    exact e
  · simp only [if_true] at e
    rw [cps_append, cps_append] at e
    simp at e
    exact e
theorem step_inj {a d i j : Nat} (hd : d < 6) (hi : i < 26) (hj : j < 26) (h : (a + i * (1 + 2 * d)) % 26 = (a + j * (1 + 2 * d)) % 26) : i = j := by
  have : d = 0 ∨ d = 1 ∨ d = 2 ∨ d = 3 ∨ d = 4 ∨ d = 5 := by omega
  rcases this with rfl | rfl | rfl | rfl | rfl | rfl <;> omega
def wordAt (front : Bool) (sh : Str) (a d i : Nat) : Str := wd front sh (97 + (a + i * (1 + 2 * d)) % 26)
theorem letter_at {x : Nat} (h : x < 26) : atI (Str.ofString "abcdefghijklmnopqrstuvwxyz").cps.toList ((x : Nat) : Int) = some (97 + x) := by
  have e : ∀ x : Fin 26, (Str.ofString "abcdefghijklmnopqrstuvwxyz").cps.toList[x.val]? = some (97 + x.val) := by decide +kernel
  have hl : (Str.ofString "abcdefghijklmnopqrstuvwxyz").cps.toList.length = 26 := by decide +kernel
  unfold atI ixN
  rw [hl, if_pos (by omega), if_pos (by omega)]
  exact e ⟨x, h⟩
theorem shared_ok {d : Int} (h0 : 0 ≤ d) (h1 : d < 4) : ∃ sh : Str, (∀ mu, gSl (.str "qxz") none (some d) mu = .ok (.str sh) mu) ∧ sh.length ≤ 3 ∧ ∀ c ∈ sh.cps.toList, 97 ≤ c ∧ c ≤ 122 := by
  refine ⟨cutS "qxz" none (some d), fun mu => ?_, ?_⟩
  · show ((need ((Str.ofString "qxz").length ≤ sizeLine) : M Unit) >>= fun _ => (pure (.str (cutS "qxz" none (some d))) : M D)) mu = _
    rw [bind_ap, need_ap, if_pos (by decide +kernel)]; rfl
  · have : d = 0 ∨ d = 1 ∨ d = 2 ∨ d = 3 := by omega
    rcases this with rfl | rfl | rfl | rfl <;> decide +kernel
noncomputable def wordsR (lt qz : Str) (d__law_draw : List D → M Rv) : MP.Env → M Fl :=
  (sSeq (sSet 2 (eC (.str lt)))
  (sSeq (sSet 3 (eCall (lenD 2 d__law_draw) (aCons (eVar 0) (aCons (eC (.int 26)) aNil))))
  (sSeq (sSet 4 (eBin gAdd (eC (.int 1)) (eBin gMul (eC (.int 2)) (eCall (lenD 2 d__law_draw) (aCons (eVar 0) (aCons (eC (.int 6)) aNil))))))
  (sSeq (sSet 5 (eSl (eC (.str qz)) oNone (oSome (eCall (lenD 2 d__law_draw) (aCons (eVar 0) (aCons (eC (.int 4)) aNil))))))
  (sSeq (eIf (eB (eBin (gEq false) (eCall (lenD 2 d__law_draw) (aCons (eVar 0) (aCons (eC (.int 2)) aNil))) (eC (.int 0))))
  (sRetF (fComp (wThen wRng1 (aCons (eVar 1) aNil)) (asgN 6) tYesM (eBin gAdd (eVar 5) (eBin gIx (eVar 2) (eBin gMod (aThen (g1 gInt) (aCons (eBin gAdd (eVar 3) (eBin gMul (eVar 6) (eVar 4))) aNil)) (eC (.int 26))))) [6]))
  sNext)
  (sRetF (fComp (wThen wRng1 (aCons (eVar 1) aNil)) (asgN 6) tYesM (eBin gAdd (eBin gIx (eVar 2) (eBin gMod (aThen (g1 gInt) (aCons (eBin gAdd (eVar 3) (eBin gMul (eVar 6) (eVar 4))) aNil)) (eC (.int 26)))) (eVar 5)) [6])))))))
theorem word_front {a k i : Int} {lt sh : Str} {c : Nat} {x y : D} {mu : List MO} (h1 : gMul (.int i) (.int k) mu = .ok (.int (i * k)) mu) (h2 : gIx (.str lt) (.int ((a + i * k) % 26)) mu = .ok (.str ⟨#[c]⟩) mu) (h3 : gAdd (.str sh) (.str ⟨#[c]⟩) mu = .ok (.str (sh ++ ⟨#[c]⟩)) mu) :
    eBin gAdd (eVar 5) (eBin gIx (eVar 2) (eBin gMod (aThen (g1 gInt) (aCons (eBin gAdd (eVar 3) (eBin gMul (eVar 6) (eVar 4))) aNil)) (eC (.int 26)))) [some x, some y, some (.str lt), some (.int a), some (.int k), some (.str sh), some (.int i)] mu = .ok (.str (sh ++ ⟨#[c]⟩)) mu := by
  simp [h1, h2, h3, -gAdd_str]
theorem word_back {a k i : Int} {lt sh : Str} {c : Nat} {x y : D} {mu : List MO} (h1 : gMul (.int i) (.int k) mu = .ok (.int (i * k)) mu) (h2 : gIx (.str lt) (.int ((a + i * k) % 26)) mu = .ok (.str ⟨#[c]⟩) mu) (h3 : gAdd (.str ⟨#[c]⟩) (.str sh) mu = .ok (.str (⟨#[c]⟩ ++ sh)) mu) :
    eBin gAdd (eBin gIx (eVar 2) (eBin gMod (aThen (g1 gInt) (aCons (eBin gAdd (eVar 3) (eBin gMul (eVar 6) (eVar 4))) aNil)) (eC (.int 26)))) (eVar 5) [some x, some y, some (.str lt), some (.int a), some (.int k), some (.str sh), some (.int i)] mu = .ok (.str (⟨#[c]⟩ ++ sh)) mu := by
  simp [h1, h2, h3, -gAdd_str]
theorem wordsR_ok {lt qz : Str} (hz : lt.length ≤ sizeLine) (hlt : ∀ x : Nat, x < 26 → atI lt.cps.toList ((x : Nat) : Int) = some (97 + x)) (hqz : ∀ d : Int, 0 ≤ d → d < 4 → ∃ sh : Str, (∀ mu, gSl (.str qz) none (some d) mu = .ok (.str sh) mu) ∧ sh.length ≤ 3 ∧ ∀ c ∈ sh.cps.toList, 97 ≤ c ∧ c ≤ 122) {s : Nat} {cs : List Int} {n : Nat} {mu : List MO} (A : At s cs mu) (hn : n ≤ 26) : ∃ (ws : List Str) (mu' : List MO), noX (runB 7 (wordsR lt qz den__law_draw) [.ref s, .int n]) mu = .ok (.fr (ws.map D.str)) mu' ∧ Nx s cs mu mu' ∧ ws.length = n ∧ ws.Nodup ∧ ∀ w ∈ ws, GoodW w := by
  obtain ⟨a, m1, e1, n1, a0, a1⟩ := draw_at (most := 26) A (by decide) (by decide)
  obtain ⟨d, m2, e2, n2', d0, d1⟩ := draw_at (most := 6) (n1.at_ A) (by decide) (by decide)
  have n2 := n1.trans n2'
  obtain ⟨q, m3, e3, n3', q0, q1⟩ := draw_at (most := 4) (n2.at_ A) (by decide) (by decide)
  have n3 := n2.trans n3'
  obtain ⟨f, m4, e4, n4', f0, f1⟩ := draw_at (most := 2) (n3.at_ A) (by decide) (by decide)
  have n4 := n3.trans n4'
  obtain ⟨sh, esh, hsl, hsc⟩ := hqz q q0 q1
  obtain ⟨a, rfl⟩ := Int.eq_ofNat_of_zero_le a0
  obtain ⟨d, rfl⟩ := Int.eq_ofNat_of_zero_le d0
  have s64 : -(2 ^ 64) < (1 + 2 * (d : Int)) ∧ (1 + 2 * (d : Int)) < 2 ^ 64 := by omega
  have t64 : -(2 ^ 64) < (d : Int) ∧ (d : Int) < 2 ^ 64 := by omega
  have hcat : ∀ c : Nat, sh.length + (⟨#[c]⟩ : Str).length ≤ sizeLine := fun c => by
    have : (⟨#[c]⟩ : Str).length = 1 := rfl
    rw [this, sizeLine_eq]; omega
  have hcat' : ∀ c : Nat, (⟨#[c]⟩ : Str).length + sh.length ≤ sizeLine := fun c => by rw [Nat.add_comm]; exact hcat c
  obtain ⟨ch, hch⟩ : ∃ ch : Nat → Nat, ∀ i, ch i = 97 + (a + i * (1 + 2 * d)) % 26 := ⟨fun i => 97 + (a + i * (1 + 2 * d)) % 26, fun _ => rfl⟩
  have hix : ∀ (i : Nat) (mu : List MO), gIx (.str lt) (.int (((a : Int) + (i : Int) * (1 + 2 * (d : Int))) % 26)) mu = .ok (.str ⟨#[ch i]⟩) mu := fun i mu => by
    have e : ((a : Int) + (i : Int) * (1 + 2 * (d : Int))) % 26 = (((a + i * (1 + 2 * d)) % 26 : Nat) : Int) := by push_cast; rfl
    rw [e, hch]
    exact gIx_str hz (hlt _ (Nat.mod_lt _ (by decide)))
  have hwt : ∀ i, wordAt true sh a d i = sh ++ ⟨#[ch i]⟩ := fun i => by rw [hch]; rfl
  have hwf : ∀ i, wordAt false sh a d i = ⟨#[ch i]⟩ ++ sh := fun i => by rw [hch]; rfl
  have hgood : ∀ front i, GoodW (wordAt front sh a d i) := fun front i => wd_good hsl hsc (by have := Nat.mod_lt (a + i * (1 + 2 * d)) (show 0 < 26 by decide); omega)
  have hnd : ∀ front, ((List.range n).map (wordAt front sh a d)).Nodup := fun front => by
    rw [List.nodup_iff_pairwise_ne, List.pairwise_map]
    exact (List.nodup_range (n := n)).imp_of_mem fun hi hj hij e => hij (step_inj (a := a) (d := d) (by omega) (by have := List.mem_range.mp hi; omega) (by have := List.mem_range.mp hj; omega) (by have := wd_inj e; omega))
  have hm : ∀ (i : Int) (mu : List MO), gMul (.int i) (.int (1 + 2 * (d : Int))) mu = .ok (.int (i * (1 + 2 * (d : Int)))) mu := fun i mu => gMul_small s64
  have hm2 : ∀ (i : Int) (mu : List MO), gMul (.int i) (.int (d : Int)) mu = .ok (.int (i * (d : Int))) mu := fun i mu => gMul_small t64
  have hr : ∀ r : MP.Env → M D, ∀ front, (∀ i env1, env1 = [some (D.ref s), some (.int n), some (.str lt), some (.int a), some (.int (1 + 2 * (d : Int))), some (.str sh), some (.int ((i : Nat) : Int))] → r env1 m4 = .ok (.str (wordAt front sh a d i)) m4) →
      loopC (asgN 6) tYesM r [] (rngD 0 n) [some (D.ref s), some (.int n), some (.str lt), some (.int a), some (.int (1 + 2 * (d : Int))), some (.str sh), none] m4 = .ok (((List.range n).map (wordAt front sh a d)).map D.str) m4 := fun r front h => by
    unfold rngD
    rw [List.map_map]
    refine loopC_map' fun i hi => ⟨_, rfl, rfl, ?_⟩
    exact h i _ (by simp)
  have hw := wRng1_ok (n := (n : Int)) (mu := m4) (by omega)
  have hnn : ((n : Int)).toNat = n := by omega
  rw [hnn] at hw
  by_cases c : f = 0
  · refine ⟨(List.range n).map (wordAt true sh a d), m4, noX_ok ?_, n4, by simp, hnd true, fun w hw => by
      obtain ⟨i, _, e⟩ := List.mem_map.mp hw
      rw [← e]; exact hgood true i⟩
    have hl := hr (eBin gAdd (eVar 5) (eBin gIx (eVar 2) (eBin gMod (aThen (g1 gInt) (aCons (eBin gAdd (eVar 3) (eBin gMul (eVar 6) (eVar 4))) aNil)) (eC (.int 26))))) true (fun i env1 e => by
      subst e
      rw [hwt]
      exact word_front (hm _ _) (hix i m4) (by rw [gAdd_str, if_pos (hcat _)]))
    simp [wordsR, startE, e1, e2, hm2, e3, esh, e4, c, gEq_ints, hw, noX_ok hl]
  · refine ⟨(List.range n).map (wordAt false sh a d), m4, noX_ok ?_, n4, by simp, hnd false, fun w hw => by
      obtain ⟨i, _, e⟩ := List.mem_map.mp hw
      rw [← e]; exact hgood false i⟩
    have hl := hr (eBin gAdd (eBin gIx (eVar 2) (eBin gMod (aThen (g1 gInt) (aCons (eBin gAdd (eVar 3) (eBin gMul (eVar 6) (eVar 4))) aNil)) (eC (.int 26)))) (eVar 5)) false (fun i env1 e => by
      subst e
      rw [hwf]
      exact word_back (hm _ _) (hix i m4) (by rw [gAdd_str, if_pos (hcat' _)]))
    simp [wordsR, startE, e1, e2, hm2, e3, esh, e4, c, gEq_ints, hw, noX_ok hl]
theorem words_ok {s : Nat} {cs : List Int} {n : Nat} {mu : List MO} (A : At s cs mu) (hn : n ≤ 26) : ∃ (ws : List Str) (mu' : List MO), den__law_words den__law_draw [.ref s, .int n] mu = .ok (.fr (ws.map D.str)) mu' ∧ Nx s cs mu mu' ∧ ws.length = n ∧ ws.Nodup ∧ ∀ w ∈ ws, GoodW w :=
  wordsR_ok (lt := "abcdefghijklmnopqrstuvwxyz") (qz := "qxz") (by decide +kernel) (fun x h => letter_at h) (fun d h0 h1 => shared_ok h0 h1) A hn
end MP
namespace MP
open PySem L2 PyProof.Rows
/-! ### what is left behind, forgotten for every def: the freezing is a function -/
section
variable {mu : List MO} {k : Nat} {ok : Nat → Prop}
theorem Frz.fun_both : (∀ {d d1 : D}, Frz mu k ok d d1 → ∀ d2, Frz mu k ok d d2 → d1 = d2) ∧ (∀ {d d1 : List D}, Frzs mu k ok d d1 → ∀ d2, Frzs mu k ok d d2 → d1 = d2) := by
  refine ⟨fun {d d1} q => ?_, fun {d d1} q => ?_⟩
  · exact Frz.rec (motive_1 := fun d d1 _ => ∀ d2, Frz mu k ok d d2 → d1 = d2) (motive_2 := fun d d1 _ => ∀ d2, Frzs mu k ok d d2 → d1 = d2)
      (fun d2 h => by cases h; rfl) (fun b d2 h => by cases h; rfl) (fun i d2 h => by cases h; rfl) (fun x d2 h => by cases h; rfl)
      (fun _ ih d2 h => by cases h with | tup q => rw [ih _ q]) (fun _ ih d2 h => by cases h with | fl q => rw [ih _ q]) (fun _ ih d2 h => by cases h with | ro q => rw [ih _ q]) (fun _ ih d2 h => by cases h with | fd q => rw [ih _ q])
      (fun hn d2 h => by cases h with | ref _ => rfl | lst h1 _ _ _ => omega | dk h1 _ _ _ => omega)
      (fun hk _ hx _ ih d2 h => by cases h with
        | ref h1 => omega
        | lst _ _ hx' q => rw [hx] at hx'; cases hx'; rw [ih _ q]
        | dk _ _ hx' q => rw [hx] at hx'; cases hx')
      (fun hk _ hx _ ih d2 h => by cases h with
        | ref h1 => omega
        | lst _ _ hx' q => rw [hx] at hx'; cases hx'
        | dk _ _ hx' q => rw [hx] at hx'; cases hx'; rw [ih _ q])
      (fun d2 h => by cases h; rfl) (fun _ _ ih ihs d2 h => by cases h with | cons a b => rw [ih _ a, ihs _ b]) q
  · exact Frzs.rec (motive_1 := fun d d1 _ => ∀ d2, Frz mu k ok d d2 → d1 = d2) (motive_2 := fun d d1 _ => ∀ d2, Frzs mu k ok d d2 → d1 = d2)
      (fun d2 h => by cases h; rfl) (fun b d2 h => by cases h; rfl) (fun i d2 h => by cases h; rfl) (fun x d2 h => by cases h; rfl)
      (fun _ ih d2 h => by cases h with | tup q => rw [ih _ q]) (fun _ ih d2 h => by cases h with | fl q => rw [ih _ q]) (fun _ ih d2 h => by cases h with | ro q => rw [ih _ q]) (fun _ ih d2 h => by cases h with | fd q => rw [ih _ q])
      (fun hn d2 h => by cases h with | ref _ => rfl | lst h1 _ _ _ => omega | dk h1 _ _ _ => omega)
      (fun hk _ hx _ ih d2 h => by cases h with
        | ref h1 => omega
        | lst _ _ hx' q => rw [hx] at hx'; cases hx'; rw [ih _ q]
        | dk _ _ hx' q => rw [hx] at hx'; cases hx')
      (fun hk _ hx _ ih d2 h => by cases h with
        | ref h1 => omega
        | lst _ _ hx' q => rw [hx] at hx'; cases hx'
        | dk _ _ hx' q => rw [hx] at hx'; cases hx'; rw [ih _ q])
      (fun d2 h => by cases h; rfl) (fun _ _ ih ihs d2 h => by cases h with | cons a b => rw [ih _ a, ihs _ b]) q
theorem FrzO.fun_ {o o1 o2 : MO} (h : FrzO mu k ok o o1) (h' : FrzO mu k ok o o2) : o1 = o2 := by
  cases h with
  | lst q => cases h' with | lst q' => rw [Frz.fun_both.2 q _ q']
  | @dk kvs kws e q => cases h' with | @dk _ kws' e' q' =>
    have z := Frz.fun_both.2 q _ q'
    have ek : kws.map (·.1) = kws'.map (·.1) := e.symm.trans e'
    rw [← zip_keys kws, ← zip_keys kws', ek, z]
theorem FrzH.fun_ {nu nu' : List MO} (h : FrzH mu ok nu) (h' : FrzH mu ok nu') (hl : nu.length = nu'.length) : nu = nu' := by
  apply List.ext_getElem hl
  intro i h1 h2
  have hi : i < mu.length := Nat.lt_of_lt_of_le h1 h.le
  have a := h.at_ i mu[i] nu[i] (List.getElem?_eq_getElem hi) (List.getElem?_eq_getElem h1)
  have b := h'.at_ i mu[i] nu'[i] (List.getElem?_eq_getElem hi) (List.getElem?_eq_getElem h2)
  rw [← hl] at b
  exact a.fun_ b
end
/-- a new list handed out -/
def FrzN (mu : List MO) (k : Nat) (rv : Rv) (p : Rv × List MO) : Prop := p.2.length = k ∧ ∃ (n : Nat) (xs ys : List D), rv = .vl (.ref n) ∧ p.1 = .fr ys ∧ k ≤ n ∧ mu[n]? = some (.lst xs) ∧ FrzH mu (fun j => j ≠ n) p.2 ∧ Frzs mu p.2.length (fun j => j ≠ n) xs ys
/-- all else -/
def FrzE (mu : List MO) (k : Nat) (rv : Rv) (p : Rv × List MO) : Prop := p.2.length = k ∧ FrzH mu (fun _ => True) p.2 ∧ ((∃ d d', rv = .vl d ∧ p.1 = .vl d' ∧ Frz mu p.2.length (fun _ => True) d d') ∨ ∃ xs ys, rv = .fr xs ∧ p.1 = .fr ys ∧ Frzs mu p.2.length (fun _ => True) xs ys)
theorem FrzN.one {mu : List MO} {k : Nat} {rv : Rv} {p p' : Rv × List MO} (h : FrzN mu k rv p) (h' : FrzN mu k rv p') : p = p' := by
  obtain ⟨l, n, xs, ys, rfl, e, hk, hx, hh, hf⟩ := h
  obtain ⟨l', n', xs', ys', e0, e', hk', hx', hh', hf'⟩ := h'
  cases e0
  rw [hx] at hx'
  cases hx'
  have z := hh.fun_ hh' (l.trans l'.symm)
  obtain ⟨a, b⟩ := p
  obtain ⟨a', b'⟩ := p'
  simp only at e e' z hf hf' l l'
  subst z e e'
  rw [Frz.fun_both.2 hf _ hf']
theorem FrzE.one {mu : List MO} {k : Nat} {rv : Rv} {p p' : Rv × List MO} (h : FrzE mu k rv p) (h' : FrzE mu k rv p') : p = p' := by
  obtain ⟨l, hh, h⟩ := h
  obtain ⟨l', hh', h'⟩ := h'
  have z := hh.fun_ hh' (l.trans l'.symm)
  obtain ⟨a, b⟩ := p
  obtain ⟨a', b'⟩ := p'
  simp only at z h h' l l'
  subst z
  rcases h with ⟨d, d', rfl, rfl, hf⟩ | ⟨xs, ys, rfl, rfl, hf⟩
  · rcases h' with ⟨e, e', q, rfl, hf'⟩ | ⟨_, _, q, _⟩
    · cases q; rw [Frz.fun_both.1 hf _ hf']
    · cases q
  · rcases h' with ⟨e, e', q, _⟩ | ⟨_, _, q, rfl, hf'⟩
    · cases q
    · cases q; rw [Frz.fun_both.2 hf _ hf']
open Classical in
noncomputable def frzU (k : Nat) : R Rv → R Rv
  | .ok rv mu' => if h : ∃ p, FrzN mu' k rv p then .ok h.choose.1 h.choose.2 else if h : ∃ p, FrzE mu' k rv p then .ok h.choose.1 h.choose.2 else .bad
  | _ => .bad
theorem frzU_N {k : Nat} {rv : Rv} {mu' : List MO} (h : ∃ p, FrzN mu' k rv p) : ∃ p, FrzN mu' k rv p ∧ frzU k (.ok rv mu') = .ok p.1 p.2 := ⟨h.choose, h.choose_spec, dif_pos h⟩
theorem frzU_E {k : Nat} {rv : Rv} {mu' : List MO} (h : ¬ ∃ p, FrzN mu' k rv p) (h2 : ∃ p, FrzE mu' k rv p) : ∃ p, FrzE mu' k rv p ∧ frzU k (.ok rv mu') = .ok p.1 p.2 := ⟨h2.choose, h2.choose_spec, (dif_neg h).trans (dif_pos h2)⟩
theorem frzU_0 {k : Nat} {rv : Rv} {mu' : List MO} (h : ¬ ∃ p, FrzN mu' k rv p) (h2 : ¬ ∃ p, FrzE mu' k rv p) : frzU k (.ok rv mu') = .bad := (dif_neg h).trans (dif_neg h2)
/-- den, what it leaves behind forgotten (no exceptions) -/
noncomputable def fgt (den : List D → M Rv) : List D → M Rv := fun ds mu => frzU mu.length (den ds mu)
theorem gc_fgt {n : Nat} {den : List D → M Rv} : GC n den (fgt den) := fun ds mu hn hc hh => by
  show match frzU mu.length (den ds mu) with
    | .bad => True
    | .ok rv' nu => ∃ rv mu', den ds mu = .ok rv mu' ∧ mu.length ≤ nu.length ∧ FrzR mu' nu rv rv'
    | .exc x' nu => ∃ x mu', den ds mu = .exc x mu' ∧ mu.length ≤ nu.length ∧ FrzX mu' nu x x'
  cases e : den ds mu with
  | bad => trivial
  | exc x mu' => trivial
  | ok rv mu' =>
    by_cases h : ∃ p, FrzN mu' mu.length rv p
    · obtain ⟨p, ⟨l, n, xs, ys, e3, e4, hk, hx, hh, hf⟩, e2⟩ := frzU_N h
      rw [e2]
      refine ⟨rv, mu', rfl, by omega, ?_⟩
      rw [e3, e4]
      exact .newL (by omega) hx hh hf
    · by_cases h2 : ∃ p, FrzE mu' mu.length rv p
      · obtain ⟨p, ⟨l, hh, hf⟩, e2⟩ := frzU_E h h2
        rw [e2]
        refine ⟨rv, mu', rfl, by omega, ?_⟩
        rcases hf with ⟨d, d', e3, e4, hf⟩ | ⟨xs, ys, e3, e4, hf⟩
        · rw [e3, e4]; exact .vl hh hf
        · rw [e3, e4]; exact .fr hh hf
      · rw [frzU_0 h h2]; trivial
section
variable {den : List D → M Rv} {ds : List D} {mu mu' mu1 ex nu : List MO} {d d' : D} {xs ys : List D} {n : Nat}
theorem fgt_new (e : den ds mu = .ok (.vl (.ref n)) mu') (hl : nu.length = mu.length) (hn : mu.length ≤ n) (hx : mu'[n]? = some (.lst xs)) (hh : FrzH mu' (fun j => j ≠ n) nu) (hf : Frzs mu' nu.length (fun j => j ≠ n) xs ys) : fgt den ds mu = .ok (.fr ys) nu := by
  have hp : FrzN mu' mu.length (.vl (.ref n)) (.fr ys, nu) := ⟨hl, n, xs, ys, rfl, rfl, hn, hx, hh, hf⟩
  have h : ∃ p, FrzN mu' mu.length (.vl (.ref n)) p := ⟨_, hp⟩
  obtain ⟨p, hp', e2⟩ := frzU_N h
  unfold fgt
  rw [e, e2, hp'.one hp]
theorem fgt_vl (e : den ds mu = .ok (.vl d) mu') (hl : nu.length = mu.length) (hn : ∀ n xs, d = .ref n → mu'[n]? = some (.lst xs) → n < mu.length) (hh : FrzH mu' (fun _ => True) nu) (hf : Frz mu' nu.length (fun _ => True) d d') : fgt den ds mu = .ok (.vl d') nu := by
  have hp : FrzE mu' mu.length (.vl d) (.vl d', nu) := ⟨hl, hh, .inl ⟨d, d', rfl, rfl, hf⟩⟩
  have h2 : ∃ p, FrzE mu' mu.length (.vl d) p := ⟨_, hp⟩
  have h : ¬ ∃ p, FrzN mu' mu.length (.vl d) p := fun ⟨p, _, n, xs, ys, e1, _, hk, hx, _⟩ => by
    cases e1
    have := hn n xs rfl hx
    omega
  obtain ⟨p, hp', e2⟩ := frzU_E h h2
  unfold fgt
  rw [e, e2, hp'.one hp]
theorem fgt_fr (e : den ds mu = .ok (.fr xs) mu') (hl : nu.length = mu.length) (hh : FrzH mu' (fun _ => True) nu) (hf : Frzs mu' nu.length (fun _ => True) xs ys) : fgt den ds mu = .ok (.fr ys) nu := by
  have hp : FrzE mu' mu.length (.fr xs) (.fr ys, nu) := ⟨hl, hh, .inr ⟨xs, ys, rfl, rfl, hf⟩⟩
  have h2 : ∃ p, FrzE mu' mu.length (.fr xs) p := ⟨_, hp⟩
  have h : ¬ ∃ p, FrzN mu' mu.length (.fr xs) p := fun ⟨p, _, n, xs, ys, e1, _⟩ => by cases e1
  obtain ⟨p, hp', e2⟩ := frzU_E h h2
  unfold fgt
  rw [e, e2, hp'.one hp]
/-- the plain ways: what stood stays (moved on), garbage behind it -/
theorem fgt_val (e : den ds mu = .ok (.vl d) (mu1 ++ ex)) (hl : mu1.length = mu.length) (h1 : CloH mu1) (hd : Clo mu.length d) : fgt den ds mu = .ok (.vl d) mu1 :=
  fgt_vl e hl (fun n xs e _ => by rw [e] at hd; exact Clo.ref.mp hd) (h1.frz ex) (by rw [hl]; exact hd _ _)
theorem fgt_list (e : den ds mu = .ok (.vl (.ref n)) (mu1 ++ ex)) (hl : mu1.length = mu.length) (h1 : CloH mu1) (hn : mu.length ≤ n) (hx : (mu1 ++ ex)[n]? = some (.lst xs)) (hd : Clos mu.length xs) : fgt den ds mu = .ok (.fr xs) mu1 :=
  fgt_new e hl hn hx (h1.frz ex) (by rw [hl]; exact hd _ _)
theorem fgt_lst (e : den ds mu = .ok (.fr xs) (mu1 ++ ex)) (hl : mu1.length = mu.length) (h1 : CloH mu1) (hd : Clos mu.length xs) : fgt den ds mu = .ok (.fr xs) mu1 :=
  fgt_fr e hl (h1.frz ex) (by rw [hl]; exact hd _ _)
end
/-! data without places -/
mutual
def flat : D → Bool
  | .tup xs => flats xs
  | .fl xs => flats xs
  | .ro xs => flats xs
  | .fd _ xs => flats xs
  | .ref _ => false
  | _ => true
def flats : List D → Bool
  | [] => true
  | x :: xs => flat x && flats xs
end
mutual
theorem flat_clo {k : Nat} : ∀ (d : D), flat d = true → Clo k d
  | .non, _ => Clo.non
  | .bl _, _ => Clo.bl
  | .int _, _ => Clo.int
  | .str _, _ => Clo.str
  | .tup xs, h => Clo.tup.mpr (flats_clo xs h)
  | .fl xs, h => Clo.fl.mpr (flats_clo xs h)
  | .ro xs, h => Clo.ro.mpr (flats_clo xs h)
  | .fd ks xs, h => Clo.fd.mpr (flats_clo xs h)
  | .ref _, h => by simp [flat] at h
theorem flats_clo {k : Nat} : ∀ (ds : List D), flats ds = true → Clos k ds
  | [], _ => Clos.nil
  | d :: ds, h => by
    rw [flats, Bool.and_eq_true] at h
    exact Clos.cons (flat_clo d h.1) (flats_clo ds h.2)
end
theorem flats_of : ∀ {ds : List D}, (∀ d ∈ ds, flat d = true) → flats ds = true
  | [], _ => rfl
  | d :: ds, h => by rw [flats, h d (by simp), flats_of fun x hx => h x (by simp [hx])]; rfl
theorem flats_mem : ∀ {ds : List D}, flats ds = true → ∀ d ∈ ds, flat d = true
  | d :: ds, h, x, hx => by
    rw [flats, Bool.and_eq_true] at h
    rcases List.mem_cons.mp hx with e | e
    · rw [e]; exact h.1
    · exact flats_mem h.2 x e
end MP
namespace MP
open PySem L2 PyProof.Rows
/-! ### a dict of the written part with text keys -/
/-- at a: the table -/
structure KTab (K : PySem.W.Frag) (w : World) (a : Addr) (tbl : List (Str × D)) : Prop where
  kd : ∃ es n, KDict K w a es n
  no : ∀ z, (∀ p ∈ tbl, p.1 ≠ z) → PySem.W.nsIn K a z = some none
  yes : ∀ p ∈ tbl, ∃ u v, PySem.W.nsIn K a p.1 = some (some u) ∧ RelV v u ∧ ∀ m H, Rep K m H p.2 v
def tabAt (tbl : List (Str × D)) (z : Str) : Option D := (tbl.find? fun p => p.1 == z).map (·.2)
theorem tabAt_none {tbl : List (Str × D)} {z : Str} (h : tabAt tbl z = none) : ∀ p ∈ tbl, p.1 ≠ z := fun p hp e => by
  unfold tabAt at h
  rw [Option.map_eq_none_iff, List.find?_eq_none] at h
  exact h p hp (by rw [e]; exact beq_self_eq_true z)
theorem tabAt_some {tbl : List (Str × D)} {z : Str} {d : D} (h : tabAt tbl z = some d) : ∃ p ∈ tbl, p.1 = z ∧ p.2 = d := by
  unfold tabAt at h
  obtain ⟨p, hp, e⟩ := Option.map_eq_some_iff.mp h
  have h2 : (p.1 == z) = true := List.find?_some (p := fun p : Str × D => p.1 == z) hp
  exact ⟨p, List.mem_of_find?_eq_some hp, eq_of_beq h2, e⟩
/-- x in T -/
def gInK (neg : Bool) (tbl : List (Str × D)) (x : D) : M D := toS x >>= fun z => pure (.bl ((tabAt tbl z).isSome != neg))
/-- T[x] -/
def gIxK (tbl : List (Str × D)) (x : D) : M D := toS x >>= fun z => match tabAt tbl z with
  | some d => pure d
  | none => bad
section
variable {X : Cx} {W : Wx} {e : Expr} {c : Str} {a : Addr} {tbl : List (Str × D)} {p pos : Pos} {r : Env → M D}
theorem toS_at {K : PySem.W.Frag} {W : Wx} {m : Mp} {H : Hp} {mu : List MO} {x : D} {v : V} {α : Type} {f : Str → M α} {Q : α → Mp → List MO → Hp → Prop} (h : Rep K m H x v) (hp : Post K W m H ((toS x >>= f) mu) Q) : ∃ z, x = .str z ∧ v = .str z ∧ Post K W m H (f z mu) Q := by
  cases x with
  | str z =>
    simp only [Rep] at h
    exact ⟨z, rfl, h, hp⟩
  | _ => exact (show False from hp).elim
def rInK (K : PySem.W.Frag) (a : Addr) (neg : Bool) : R2 := fun x y H Q => ∃ (z : Str) (o : Option Value), x = .str z ∧ y = .ref a ∧ PySem.W.nsIn K a z = some o ∧ Q (.bl (o.isSome != neg)) H
theorem opr_inK {neg : Bool} {op : CmpOp} (hop : (neg = false ∧ op = .In) ∨ (neg = true ∧ op = .NotIn)) (T : KTab X.K X.w a tbl) : OpR X (compareOp op) (rInK X.K a neg) := by
  obtain ⟨es, n, kd⟩ := T.kd
  rcases hop with ⟨rfl, rfl⟩ | ⟨rfl, rfl⟩
  · intro pins s σ H x y v u Q I rx ry h
    obtain ⟨z, o, rfl, rfl, h1, h2⟩ := h
    have e : (o.isSome != false) = o.isSome := by cases o.isSome <;> rfl
    rw [e] at h2
    exact op_in_kd kd pins s σ H _ _ v u Q I rx ry ⟨z, o, rfl, rfl, h1, h2⟩
  · intro pins s σ H x y v u Q I rx ry h
    obtain ⟨z, o, rfl, rfl, h1, h2⟩ := h
    have e : (o.isSome != true) = !o.isSome := by cases o.isSome <;> rfl
    rw [e] at h2
    exact op_notIn_kd kd pins s σ H _ _ v u Q I rx ry ⟨z, o, rfl, rfl, h1, h2⟩
theorem inK_go {neg : Bool} (T : KTab X.K X.w a tbl) : ∀ σ H Q, tE X.K W (eMap (gInK neg tbl) r) σ H Q → tOp (rInK X.K a neg) (tE X.K W r) (tC (.ref a)) σ H Q := fun σ H Q ⟨env, m, mu, hE, hR, hp⟩ =>
  ⟨env, m, mu, hE, hR, (Post.bind hp).mono fun x m1 mu1 H1 g1 R1 hp1 v rv => by
    obtain ⟨z, rfl, rfl, hp2⟩ := toS_at rv hp1
    have hq := Post.pure hp2 R1
    cases ht : tabAt tbl z with
    | none =>
      rw [ht] at hq
      exact ⟨z, none, rfl, rfl, T.no z (tabAt_none ht), hq _ (by simp only [Rep]; rfl)⟩
    | some d =>
      rw [ht] at hq
      obtain ⟨q, hq1, rfl, rfl⟩ := tabAt_some ht
      obtain ⟨u, v, h1, _, _⟩ := T.yes q hq1
      exact ⟨_, some u, rfl, rfl, h1, hq _ (by simp only [Rep]; rfl)⟩⟩
theorem me_inK {neg : Bool} {op : CmpOp} (hop : (neg = false ∧ op = .In) ∨ (neg = true ∧ op = .NotIn)) (T : KTab X.K X.w a tbl) (hg : Gl X c) (hm : X.mg c = some (.ref a)) (he : ME X W e r) (hd : (c == ("__debug__" : Str)) = false := by decide) (hb : behindInMarks op (.Name c p) = false := by first | exact nomark _ | rfl) :
    ME X W (.Compare e [op] [.Name c p] pos) (eMap (gInK neg tbl) r) := ⟨(pe_cmpR (opr_inK hop T) he.pe (pe_glob hg hm (v := .ref a) rfl hd) hb).imp (inK_go T)⟩
theorem mt_inK {neg : Bool} {op : CmpOp} (hop : (neg = false ∧ op = .In) ∨ (neg = true ∧ op = .NotIn)) (T : KTab X.K X.w a tbl) (hg : Gl X c) (hm : X.mg c = some (.ref a)) (he : ME X W e r) (hd : (c == ("__debug__" : Str)) = false := by decide) (hb : behindInMarks op (.Name c p) = false := by first | exact nomark _ | rfl) :
    MT X W (.Compare e [op] [.Name c p] pos) (eB (eMap (gInK neg tbl) r)) := ⟨(pt_cmpR (opr_inK hop T) he.pe (pe_glob hg hm (v := .ref a) rfl hd) hb).imp (tT_of (inK_go T))⟩
theorem me_ixK (T : KTab X.K X.w a tbl) (hg : Gl X c) (hm : X.mg c = some (.ref a)) (he : ME X W e r) (hd : (c == ("__debug__" : Str)) = false := by decide) (hs : PlainIx e := by intro _ _; rfl) :
    ME X W (.Subscript (.Name c p) e pos) (eMap (gIxK tbl) r) := by
  obtain ⟨es, n, kd⟩ := T.kd
  have hc : PE X (.Name c p) (tC (.ref a)) := pe_glob hg hm (v := .ref a) rfl hd
  refine ⟨(pe_ix ix_kdict hc he.pe hs).imp fun σ H Q hq => ?_⟩
  obtain ⟨env, m, mu, hE, hR, hp⟩ := hq
  exact ⟨env, m, mu, hE, hR, (Post.bind hp).mono fun x m1 mu1 H1 g1 R1 hp1 v rv => by
    obtain ⟨z, rfl, rfl, hp2⟩ := toS_at rv hp1
    cases ht : tabAt tbl z with
    | none =>
      have hp3 : Post X.K W m1 H1 ((match tabAt tbl z with | some d => (pure d : M D) | none => bad) mu1) _ := hp2
      rw [ht] at hp3
      exact (show False from hp3).elim
    | some d =>
      have hp3 : Post X.K W m1 H1 ((match tabAt tbl z with | some d => (pure d : M D) | none => bad) mu1) _ := hp2
      rw [ht] at hp3
      have hq := Post.pure hp3 R1
      obtain ⟨q, hq1, rfl, rfl⟩ := tabAt_some ht
      obtain ⟨u, v, h1, h2, h3⟩ := T.yes q hq1
      exact ⟨a, _, v, rfl, rfl, ⟨es, n, u, kd.at_, kd.lit, h1, h2⟩, hq v (h3 m1 H1)⟩⟩
end
@[simp] theorem gInK_ap {neg : Bool} {tbl : List (Str × D)} {z : Str} {mu : List MO} : gInK neg tbl (.str z) mu = .ok (.bl ((tabAt tbl z).isSome != neg)) mu := rfl
theorem gIxK_ap {tbl : List (Str × D)} {z : Str} {d : D} {mu : List MO} (h : tabAt tbl z = some d) : gIxK tbl (.str z) mu = .ok d mu := by
  show (match tabAt tbl z with | some d => (pure d : M D) | none => bad) mu = _
  rw [h]; rfl
/-- the table, from what the head tells -/
theorem ktab_of {K : PySem.W.Frag} {w : World} {a : Addr} {tbl : List (Str × D)} (hk : He.dicW K a = some (He.keysIn w.params (tbl.map (·.1)))) (yes : ∀ p ∈ tbl, ∃ u v, PySem.W.nsIn K a p.1 = some (some u) ∧ RelV v u ∧ ∀ m H, Rep K m H p.2 v) : KTab K w a tbl := by
  refine ⟨He.dicW_ok hk, fun z hz => ?_, yes⟩
  unfold He.dicW at hk
  unfold PySem.W.nsIn
  split at hk
  · rename_i c es n sl ho
    rw [ho]
    split at hk
    · have hk := Option.some.inj hk
      have hall : ∀ e ∈ es.toList, ∃ x t, e.key = .str x t ∧ x ∈ tbl.map (·.1) := fun e he => by
        have h1 : He.keyOf e ∈ He.keysIn w.params (tbl.map (·.1)) := by rw [← hk]; exact List.mem_map_of_mem he
        obtain ⟨x, hx, ex⟩ := List.mem_map.mp h1
        unfold He.keyOf at ex
        split at ex
        · rename_i y t hy
          have := Option.some.inj ex
          obtain ⟨e1, _⟩ := Prod.mk.inj this
          exact ⟨y, t, hy, e1 ▸ hx⟩
        · cases ex
      have hf : es.toList.find? (fun e => e.key.isStr z) = none := List.find?_eq_none.mpr fun e he hs => by
        obtain ⟨x, t, e1, hx⟩ := hall e he
        rw [e1] at hs
        obtain ⟨q, hq, rfl⟩ := List.mem_map.mp hx
        have : (q.1 == z) = true := hs
        exact hz q hq (eq_of_beq this)
      have hr : es.toList.any (fun e => e.refKey) = false := List.any_eq_false.mpr fun e he hs => by
        obtain ⟨x, t, e1, _⟩ := hall e he
        unfold DictEntry.refKey at hs
        rw [e1] at hs
        cases hs
      dsimp only
      rw [hf]
      simp only [hr]
      rfl
    · cases hk
  · cases hk
end MP
namespace K01
open PySem L2 PyProof.Rows MP
def top (i : Nat) : Stmt := PySem.Challenge.pw_differwithin_k01_touched_of.main.body.getD i (.Pass ⟨0, 0, 0, 0⟩)
section
variable {P : Program} {w : World} {K : PySem.W.Frag} {mg : Str → Option Value} {base : Heap}
def tab_CHANGING : List (Str × D) := [("store", .int 1), ("push", .int 2), ("pop", .int 2)]
abbrev st_statements_in : Stmt := top 1
theorem sc_statements_in : FnScope ["body", "found", "statement", "block"] ["body"] (defScope st_statements_in) := ⟨rfl, rfl, rfl, by decide +kernel, rfl, by decide +kernel, by decide +kernel⟩
/-- names: 0 body, 1 found, 2 statement, 3 block -/
noncomputable def r_statements_in (d_statements_in : List D → M Rv) : MP.Env → M Fl :=
  (sSeq (sSet 1 (eNew (aList aNil)))
  (sSeq (sFor (eWalk (eVar 0)) (asgN 2)
  (sSeq (sExpr (eMeth lstK gAppend (eVar 1) (aCons (eVar 2) aNil)))
  (eIf (eB (eBin (gIn false) (eBin gIx (eVar 2) (eC (.int 0))) (aThen gTup (aCons (eC (.str "if")) (aCons (eC (.str "while")) aNil)))))
  (sFor (eWalk (eSl (eVar 2) (oSome (eC (.int 2))) oNone)) (asgN 3)
  (sExpr (eMeth lstK gExtend (eVar 1) (aCons (eCall (lenD 1 d_statements_in) (aCons (eVar 3) aNil)) aNil))) [3])
  sNext)) [2])
  (sRet (eVar 1))))
noncomputable def den_statements_in (d_statements_in : List D → M Rv) : List D → M Rv := fun ds => noX (runB 4 (r_statements_in d_statements_in) ds)
theorem mp_statements_in {k : Nat} {f : Addr} {fd : FuncData} {d_statements_in : List D → M Rv} (T_statements_in : FnI K mg "statements_in" st_statements_in f fd ["body"]) (F_statements_in : FnOk P w K mg base CX0 k f fd ["body"] (sp K mg 1 d_statements_in)) : FnOk P w K mg base CX0 (k + 1) f fd ["body"] (sp K mg 1 (den_statements_in d_statements_in)) :=
  have sc := sc_statements_in
  fn_mp (N := ["body", "found", "statement", "block"]) (r := r_statements_in d_statements_in) T_statements_in.fn sc_statements_in rfl fun cdv A outer s H E hr =>
  have hu := hr.units
  have hu1 := units1 hr
  (mss_cons (ms_set (i := 1) sc.nd rfl (by first | exact Or.inl rfl | exact Or.inr rfl) (me_new (mf_lst ma_nil)))
  (mss_cons (ms_for (fg := [2]) PassesOwn.never rfl (mi_seq (me_var (pv 0))) (mg_of (pg_name (i := 2) sc.nd rfl (by first | exact Or.inl rfl | exact Or.inr rfl)))
  (mss_cons (ms_expr (me_lmeth PySem.F.slot_list_append PySem.F.type_list_append mt_append methM_append (me_var (pv 1)) (ma_cons (me_var (pv 2)) ma_nil)))
  (mss_one (ms_if (mt_cmp (op_inM hu) opm_in (me_ix (me_var (pv 2)) me_int) (me_tup (ma_cons me_str (ma_cons me_str ma_nil))) (by first | exact nomark _ | rfl))
  (mss_one (ms_for (fg := [3]) PassesOwn.never rfl (mi_seq (me_slice (me_var (pv 2)) (mo_some me_int) mo_none)) (mg_of (pg_name (i := 3) sc.nd rfl (by first | exact Or.inl rfl | exact Or.inr rfl)))
  (mss_one (ms_expr (me_lmeth PySem.F.slot_list_extend PySem.F.type_list_extend mt_extend methM_extend (me_var (pv 1)) (ma_cons (me_callF T_statements_in F_statements_in hr rfl (ma_cons (me_var (pv 3)) ma_nil) rfl) ma_nil))))))
  mss_nil))))
  (mss_one (ms_ret (me_var (pv 1))))))
abbrev st_proc_named : Stmt := top 2
theorem sc_proc_named : FnScope ["core", "name", "proc"] ["core", "name"] (defScope st_proc_named) := ⟨rfl, rfl, rfl, by decide +kernel, rfl, by decide +kernel, by decide +kernel⟩
/-- names: 0 core, 1 name, 2 proc -/
noncomputable def r_proc_named : MP.Env → M Fl :=
  (sRet (eBin gIx (eFl (fComp (eWalk (eVar 0)) (asgN 2) (eB (eBin (gEq false) (eBin gIx (eVar 2) (eC (.int 0))) (eVar 1))) (eVar 2) [2])) (eC (.int 0))))
noncomputable def den_proc_named : List D → M Rv := fun ds => noX (runB 3 (r_proc_named) ds)
theorem mp_proc_named {k : Nat} {f : Addr} {fd : FuncData} (F : Fun K "proc_named" "proc_named" st_proc_named f fd) : FnOk P w K mg base CX0 (k + 1) f fd ["core", "name"] (sp K mg 2 (den_proc_named)) :=
  have sc := sc_proc_named
  fn_mp (N := ["core", "name", "proc"]) (r := r_proc_named) F sc_proc_named rfl fun cdv A outer s H E hr =>
  have hu := hr.units
  have hu1 := units1 hr
  (mss_one (ms_ret (me_ix (me_fl (mf_comp rfl sc.nd (mi_seq (me_var (pv 0))) (own := [("proc", 2)]) (blkOk_by (N := ["core", "name", "proc"]) (sc := defScope st_proc_named) (by decide +kernel)) (by decide) (fun s H C cl fp => (mg_of (pg_name (i := 2) sc.nd rfl (by first | exact Or.inl rfl | exact Or.inr rfl)))) (fun s H C cl fp => (mts_one (mt_cmp (op_eqM hu) opm_eq (me_ix (me_var (pv 2)) me_int) (me_var (pv 1)) (by first | exact nomark _ | rfl)))) (fun s H C cl fp => (me_var (pv 2))))) me_int)))
abbrev st_changed_in : Stmt := top 5
theorem sc_changed_in : FnScope ["proc", "found", "statement"] ["proc"] (defScope st_changed_in) := ⟨rfl, rfl, rfl, by decide +kernel, rfl, by decide +kernel, by decide +kernel⟩
/-- names: 0 proc, 1 found, 2 statement -/
noncomputable def r_changed_in (d_statements_in : List D → M Rv) : MP.Env → M Fl :=
  (sSeq (sSet 1 (eNew (aList aNil)))
  (sSeq (sFor (eWalk (eCall (lenD 1 d_statements_in) (aCons (eBin gIx (eVar 0) (eC (.int 8))) aNil))) (asgN 2)
  (eIf (eB (eMap (gInK false tab_CHANGING) (eBin gIx (eVar 2) (eC (.int 0)))))
  (sExpr (eMeth lstK gAppend (eVar 1) (aCons (eBin gIx (eVar 2) (eMap (gIxK tab_CHANGING) (eBin gIx (eVar 2) (eC (.int 0))))) aNil)))
  sNext) [2])
  (sRet (eVar 1))))
noncomputable def den_changed_in (d_statements_in : List D → M Rv) : List D → M Rv := fun ds => noX (runB 3 (r_changed_in d_statements_in) ds)
theorem mp_changed_in {k : Nat} {f : Addr} {fd : FuncData} (F : Fun K "changed_in" "changed_in" st_changed_in f fd) {f_statements_in : Addr} {e_statements_in : FuncData} {d_statements_in : List D → M Rv} (T_statements_in : FnI K mg "statements_in" st_statements_in f_statements_in e_statements_in ["body"]) (F_statements_in : FnOk P w K mg base CX0 k f_statements_in e_statements_in ["body"] (sp K mg 1 d_statements_in)) {a_CHANGING : Addr} (K_CHANGING : KTab K w a_CHANGING tab_CHANGING) (g_CHANGING : mg "CHANGING" = some (.ref a_CHANGING)) : FnOk P w K mg base CX0 (k + 1) f fd ["proc"] (sp K mg 1 (den_changed_in d_statements_in)) :=
  have sc := sc_changed_in
  fn_mp (N := ["proc", "found", "statement"]) (r := r_changed_in d_statements_in) F sc_changed_in rfl fun cdv A outer s H E hr =>
  have hu := hr.units
  have hu1 := units1 hr
  (mss_cons (ms_set (i := 1) sc.nd rfl (by first | exact Or.inl rfl | exact Or.inr rfl) (me_new (mf_lst ma_nil)))
  (mss_cons (ms_for (fg := [2]) PassesOwn.never rfl (mi_seq (me_callF T_statements_in F_statements_in hr rfl (ma_cons (me_ix (me_var (pv 0)) me_int) ma_nil) rfl)) (mg_of (pg_name (i := 2) sc.nd rfl (by first | exact Or.inl rfl | exact Or.inr rfl)))
  (mss_one (ms_if (mt_inK (.inl ⟨rfl, rfl⟩) K_CHANGING rfl g_CHANGING (me_ix (me_var (pv 2)) me_int))
  (mss_one (ms_expr (me_lmeth PySem.F.slot_list_append PySem.F.type_list_append mt_append methM_append (me_var (pv 1)) (ma_cons (me_ix (me_var (pv 2)) (me_ixK K_CHANGING rfl g_CHANGING (me_ix (me_var (pv 2)) me_int))) ma_nil))))
  mss_nil)))
  (mss_one (ms_ret (me_var (pv 1))))))
abbrev st_passed_to : Stmt := top 6
theorem sc_passed_to : FnScope ["core", "table", "proc", "found", "statement", "parameter", "argument"] ["core", "table", "proc"] (defScope st_passed_to) := ⟨rfl, rfl, rfl, by decide +kernel, rfl, by decide +kernel, by decide +kernel⟩
/-- names: 0 core, 1 table, 2 proc, 3 found, 4 statement, 5 parameter, 6 argument -/
noncomputable def r_passed_to (d_statements_in : List D → M Rv) (d_proc_named : List D → M Rv) : MP.Env → M Fl :=
  (sSeq (sSet 3 (eNew (aList aNil)))
  (sSeq (sFor (eWalk (eCall (lenD 1 d_statements_in) (aCons (eBin gIx (eVar 2) (eC (.int 8))) aNil))) (asgN 4)
  (eIf (eB (eBin (gEq false) (eBin gIx (eVar 4) (eC (.int 0))) (eC (.str "call"))))
  (sFor (wThen wZip (aCons (eBin gIx (eCall (lenD 2 d_proc_named) (aCons (eVar 0) (aCons (eBin gIx (eVar 4) (eC (.int 1))) aNil))) (eC (.int 1))) (aCons (eBin gIx (eVar 4) (eC (.int 2))) aNil))) (asgT 2 (asgCons (asgN 5) (asgCons (asgN 6) asgNil)))
  (eIf (bAnd (eB (eBin (gEq false) (eBin gIx (eVar 5) (eC (.int 0))) (eC (.str "array")))) (eB (eBin (gIn false) (eBin gIx (eVar 5) (eC (.int 1))) (eBin gDget (eVar 1) (eBin gIx (eVar 4) (eC (.int 1)))))))
  (sExpr (eMeth lstK gAppend (eVar 3) (aCons (eBin gIx (eVar 6) (eC (.int 1))) aNil)))
  sNext) [5, 6])
  sNext) [4])
  (sRet (eVar 3))))
noncomputable def den_passed_to (d_statements_in : List D → M Rv) (d_proc_named : List D → M Rv) : List D → M Rv := fun ds => noX (runB 7 (r_passed_to d_statements_in d_proc_named) ds)
theorem mp_passed_to {k : Nat} {f : Addr} {fd : FuncData} (F : Fun K "passed_to" "passed_to" st_passed_to f fd) {f_statements_in : Addr} {e_statements_in : FuncData} {f_proc_named : Addr} {e_proc_named : FuncData} {d_statements_in : List D → M Rv} {d_proc_named : List D → M Rv} (T_statements_in : FnI K mg "statements_in" st_statements_in f_statements_in e_statements_in ["body"]) (F_statements_in : FnOk P w K mg base CX0 k f_statements_in e_statements_in ["body"] (sp K mg 1 d_statements_in)) (T_proc_named : FnI K mg "proc_named" st_proc_named f_proc_named e_proc_named ["core", "name"]) (F_proc_named : FnOk P w K mg base CX0 k f_proc_named e_proc_named ["core", "name"] (sp K mg 2 d_proc_named)) (z_zip : mg "zip" = none) : FnOk P w K mg base CX0 (k + 1) f fd ["core", "table", "proc"] (sp K mg 3 (den_passed_to d_statements_in d_proc_named)) :=
  have sc := sc_passed_to
  fn_mp (N := ["core", "table", "proc", "found", "statement", "parameter", "argument"]) (r := r_passed_to d_statements_in d_proc_named) F sc_passed_to rfl fun cdv A outer s H E hr =>
  have hu := hr.units
  have hu1 := units1 hr
  (mss_cons (ms_set (i := 3) sc.nd rfl (by first | exact Or.inl rfl | exact Or.inr rfl) (me_new (mf_lst ma_nil)))
  (mss_cons (ms_for (fg := [4]) PassesOwn.never rfl (mi_seq (me_callF T_statements_in F_statements_in hr rfl (ma_cons (me_ix (me_var (pv 2)) me_int) ma_nil) rfl)) (mg_of (pg_name (i := 4) sc.nd rfl (by first | exact Or.inl rfl | exact Or.inr rfl)))
  (mss_one (ms_if (mt_cmp (op_eqM hu) opm_eq (me_ix (me_var (pv 4)) me_int) me_str (by first | exact nomark _ | rfl))
  (mss_one (ms_for (fg := [5, 6]) PassesOwn.never rfl (mi_zip rfl z_zip (ma_cons (me_ix (me_callF T_proc_named F_proc_named hr rfl (ma_cons (me_var (pv 0)) (ma_cons (me_ix (me_var (pv 4)) me_int) ma_nil)) rfl) me_int) (ma_cons (me_ix (me_var (pv 4)) me_int) ma_nil))) (mg_tup rfl (mgs_cons (mg_of (pg_name (i := 5) sc.nd rfl (by first | exact Or.inl rfl | exact Or.inr rfl))) (mgs_cons (mg_of (pg_name (i := 6) sc.nd rfl (by first | exact Or.inl rfl | exact Or.inr rfl))) mgs_nil)))
  (mss_one (ms_if (MW.mt (mw_and (mt_cmp (op_eqM hu) opm_eq (me_ix (me_var (pv 5)) me_int) me_str (by first | exact nomark _ | rfl)) (mw_and1 (mt_cmp (op_inM hu) opm_in (me_ix (me_var (pv 5)) me_int) (me_dget hu1 (me_var (pv 1)) (me_ix (me_var (pv 4)) me_int)) (by first | exact nomark _ | rfl)))))
  (mss_one (ms_expr (me_lmeth PySem.F.slot_list_append PySem.F.type_list_append mt_append methM_append (me_var (pv 3)) (ma_cons (me_ix (me_var (pv 6)) me_int) ma_nil))))
  mss_nil))))
  mss_nil)))
  (mss_one (ms_ret (me_var (pv 3))))))
abbrev st_touched_table : Stmt := top 7
theorem sc_touched_table : FnScope ["core", "table", "growing", "proc", "name"] ["core"] (defScope st_touched_table) := ⟨rfl, rfl, rfl, by decide +kernel, rfl, by decide +kernel, by decide +kernel⟩
/-- names: 0 core, 1 table, 2 growing, 3 proc, 4 name -/
noncomputable def r_touched_table (d_changed_in : List D → M Rv) (d_passed_to : List D → M Rv) : MP.Env → M Fl :=
  (sSeq (sSet 1 (eNewK (kComp (eWalk (eVar 0)) (asgN 3) tYesM (eBin gIx (eVar 3) (eC (.int 0))) (eNew (fCall (lenD 1 d_changed_in) (aCons (eVar 3) aNil))) [3])))
  (sSeq (sSet 2 (eC (.bl true)))
  (sSeq (sWhile (eB (eVar 2))
  (sSeq (sSet 2 (eC (.bl false)))
  (sFor (eWalk (eVar 0)) (asgN 3)
  (sFor (eWalk (eCall (lenD 3 d_passed_to) (aCons (eVar 0) (aCons (eVar 1) (aCons (eVar 3) aNil))))) (asgN 4)
  (eIf (eB (eBin (gIn true) (eVar 4) (eBin gDget (eVar 1) (eBin gIx (eVar 3) (eC (.int 0))))))
  (sSeq (sExpr (eMeth lstK gAppend (eBin gDget (eVar 1) (eBin gIx (eVar 3) (eC (.int 0)))) (aCons (eVar 4) aNil)))
  (sSet 2 (eC (.bl true))))
  sNext) [4]) [3, 4])) [3])
  (sRet (eVar 1)))))
noncomputable def den_touched_table (d_changed_in : List D → M Rv) (d_passed_to : List D → M Rv) : List D → M Rv := fun ds => noX (runB 5 (r_touched_table d_changed_in d_passed_to) ds)
theorem mp_touched_table {k : Nat} {f : Addr} {fd : FuncData} (F : Fun K "touched_table" "touched_table" st_touched_table f fd) {f_changed_in : Addr} {e_changed_in : FuncData} {f_passed_to : Addr} {e_passed_to : FuncData} {d_changed_in : List D → M Rv} {d_passed_to : List D → M Rv} (T_changed_in : FnI K mg "changed_in" st_changed_in f_changed_in e_changed_in ["proc"]) (F_changed_in : FnOk P w K mg base CX0 k f_changed_in e_changed_in ["proc"] (sp K mg 1 d_changed_in)) (T_passed_to : FnI K mg "passed_to" st_passed_to f_passed_to e_passed_to ["core", "table", "proc"]) (F_passed_to : FnOk P w K mg base CX0 k f_passed_to e_passed_to ["core", "table", "proc"] (sp K mg 3 d_passed_to)) : FnOk P w K mg base CX0 (k + 1) f fd ["core"] (sp K mg 1 (den_touched_table d_changed_in d_passed_to)) :=
  have sc := sc_touched_table
  fn_mp (N := ["core", "table", "growing", "proc", "name"]) (r := r_touched_table d_changed_in d_passed_to) F sc_touched_table rfl fun cdv A outer s H E hr =>
  have hu := hr.units
  have hu1 := units1 hr
  (mss_cons (ms_setD (i := 1) rfl sc.nd rfl rfl (sw_trueD rfl rfl (by decide +kernel) (by decide +kernel)) (mi_seq (me_var (pv 0))) (own := [("proc", 3)]) (blkOk_by (N := ["core", "table", "growing", "proc", "name"]) (sc := defScope st_touched_table) (by decide +kernel)) (by decide) (fun s H C cl fp => (mg_of (pg_name (i := 3) sc.nd rfl (by first | exact Or.inl rfl | exact Or.inr rfl)))) (fun s H C cl fp => mts_nil) (fun s H C cl fp => (me_ix (me_var (pv 3)) me_int)) (fun s H C cl fp => (me_new (mf_callF T_changed_in F_changed_in hr rfl (ma_cons (me_var (pv 3)) ma_nil) rfl))) newK_go)
  (mss_cons (ms_set (i := 2) sc.nd rfl (by first | exact Or.inl rfl | exact Or.inr rfl) me_bl)
  (mss_cons (ms_while (fg := [3]) PassesOwn.never (mt_val (me_var (pv 2)))
  (mss_cons (ms_set (i := 2) sc.nd rfl (by first | exact Or.inl rfl | exact Or.inr rfl) me_bl)
  (mss_one (ms_for (fg := [3, 4]) PassesOwn.never rfl (mi_seq (me_var (pv 0))) (mg_of (pg_name (i := 3) sc.nd rfl (by first | exact Or.inl rfl | exact Or.inr rfl)))
  (mss_one (ms_for (fg := [4]) PassesOwn.never rfl (mi_seq (me_callF T_passed_to F_passed_to hr rfl (ma_cons (me_var (pv 0)) (ma_cons (me_var (pv 1)) (ma_cons (me_var (pv 3)) ma_nil))) rfl)) (mg_of (pg_name (i := 4) sc.nd rfl (by first | exact Or.inl rfl | exact Or.inr rfl)))
  (mss_one (ms_if (mt_cmp (op_notInM hu) opm_in (me_var (pv 4)) (me_dget hu1 (me_var (pv 1)) (me_ix (me_var (pv 3)) me_int)) (by first | exact nomark _ | rfl))
  (mss_cons (ms_expr (me_lmeth PySem.F.slot_list_append PySem.F.type_list_append mt_append methM_append (me_dget hu1 (me_var (pv 1)) (me_ix (me_var (pv 3)) me_int)) (ma_cons (me_var (pv 4)) ma_nil)))
  (mss_one (ms_set (i := 2) sc.nd rfl (by first | exact Or.inl rfl | exact Or.inr rfl) me_bl)))
  mss_nil))))))))
  (mss_one (ms_ret (me_var (pv 1)))))))
abbrev st_touched_of : Stmt := top 8
theorem sc_touched_of : FnScope ["core", "name", "table", "parameters", "item"] ["core", "name"] (defScope st_touched_of) := ⟨rfl, rfl, rfl, by decide +kernel, rfl, by decide +kernel, by decide +kernel⟩
/-- names: 0 core, 1 name, 2 table, 3 parameters, 4 item -/
noncomputable def r_touched_of (d_touched_table : List D → M Rv) (d_proc_named : List D → M Rv) : MP.Env → M Fl :=
  (sSeq (sSet 2 (eCall (lenD 1 d_touched_table) (aCons (eVar 0) aNil)))
  (sSeq (sSet 3 (eBin gIx (eCall (lenD 2 d_proc_named) (aCons (eVar 0) (aCons (eVar 1) aNil))) (eC (.int 1))))
  (sRet (aThen (g1 gTuple) (aCons (eFl (fComp (eWalk (eVar 3)) (asgN 4) (bAnd (eB (eBin (gEq false) (eBin gIx (eVar 4) (eC (.int 0))) (eC (.str "array")))) (eB (eBin (gIn false) (eBin gIx (eVar 4) (eC (.int 1))) (eBin gDget (eVar 2) (eVar 1))))) (eBin gIx (eVar 4) (eC (.int 1))) [4])) aNil)))))
noncomputable def den_touched_of (d_touched_table : List D → M Rv) (d_proc_named : List D → M Rv) : List D → M Rv := fun ds => noX (runB 5 (r_touched_of d_touched_table d_proc_named) ds)
theorem mp_touched_of {k : Nat} {f : Addr} {fd : FuncData} (F : Fun K "touched_of" "touched_of" st_touched_of f fd) {f_touched_table : Addr} {e_touched_table : FuncData} {f_proc_named : Addr} {e_proc_named : FuncData} {d_touched_table : List D → M Rv} {d_proc_named : List D → M Rv} (T_touched_table : FnI K mg "touched_table" st_touched_table f_touched_table e_touched_table ["core"]) (F_touched_table : FnOk P w K mg base CX0 k f_touched_table e_touched_table ["core"] (sp K mg 1 d_touched_table)) (T_proc_named : FnI K mg "proc_named" st_proc_named f_proc_named e_proc_named ["core", "name"]) (F_proc_named : FnOk P w K mg base CX0 k f_proc_named e_proc_named ["core", "name"] (sp K mg 2 d_proc_named)) (z_tuple : mg "tuple" = none) : FnOk P w K mg base CX0 (k + 1) f fd ["core", "name"] (sp K mg 2 (den_touched_of d_touched_table d_proc_named)) :=
  have sc := sc_touched_of
  fn_mp (N := ["core", "name", "table", "parameters", "item"]) (r := r_touched_of d_touched_table d_proc_named) F sc_touched_of rfl fun cdv A outer s H E hr =>
  have hu := hr.units
  have hu1 := units1 hr
  (mss_cons (ms_set (i := 2) sc.nd rfl (by first | exact Or.inl rfl | exact Or.inr rfl) (me_callF T_touched_table F_touched_table hr rfl (ma_cons (me_var (pv 0)) ma_nil) rfl))
  (mss_cons (ms_set (i := 3) sc.nd rfl (by first | exact Or.inl rfl | exact Or.inr rfl) (me_ix (me_callF T_proc_named F_proc_named hr rfl (ma_cons (me_var (pv 0)) (ma_cons (me_var (pv 1)) ma_nil)) rfl) me_int))
  (mss_one (ms_ret (me_callTy call_tuple_of callM_tuple rfl z_tuple (by decide +kernel) (ma_cons (me_fl (mf_comp rfl sc.nd (mi_seq (me_var (pv 3))) (own := [("item", 4)]) (blkOk_by (N := ["core", "name", "table", "parameters", "item"]) (sc := defScope st_touched_of) (by decide +kernel)) (by decide) (fun s H C cl fp => (mg_of (pg_name (i := 4) sc.nd rfl (by first | exact Or.inl rfl | exact Or.inr rfl)))) (fun s H C cl fp => (mts_one (MW.mt (mw_and (mt_cmp (op_eqM hu) opm_eq (me_ix (me_var (pv 4)) me_int) me_str (by first | exact nomark _ | rfl)) (mw_and1 (mt_cmp (op_inM hu) opm_in (me_ix (me_var (pv 4)) me_int) (me_dget hu1 (me_var (pv 2)) (me_var (pv 1))) (by first | exact nomark _ | rfl))))))) (fun s H C cl fp => (me_ix (me_var (pv 4)) me_int)))) ma_nil))))))
abbrev st__law_start : Stmt := top 10
theorem sc__law_start : FnScope ["script"] ["script"] (defScope st__law_start) := ⟨rfl, rfl, rfl, by decide +kernel, rfl, by decide +kernel, by decide +kernel⟩
theorem mp__law_start {k : Nat} {f : Addr} {fd : FuncData} (F : Fun K "_law_start" "_law_start" st__law_start f fd) (z_list : mg "list" = none) : FnOk P w K mg base CX0 (k + 1) f fd ["script"] (sp K mg 1 (den__law_start)) :=
  have sc := sc__law_start
  fn_mp (N := ["script"]) (r := r__law_start) F sc__law_start rfl fun cdv A outer s H E hr =>
  have hu := hr.units
  have hu1 := units1 hr
  (mss_one (ms_retF (mf_lst (ma_cons (me_fl (mf_list1 rfl z_list (by decide +kernel) (ma_cons (me_var (pv 0)) ma_nil))) (ma_cons me_int (ma_cons me_int (ma_cons me_int ma_nil)))))))
abbrev st__law_draw : Stmt := top 11
theorem sc__law_draw : FnScope ["state", "most", "cell", "mixed", "found"] ["state", "most"] (defScope st__law_draw) := ⟨rfl, rfl, rfl, by decide +kernel, rfl, by decide +kernel, by decide +kernel⟩
theorem mp__law_draw {k : Nat} {f : Addr} {fd : FuncData} (F : Fun K "_law_draw" "_law_draw" st__law_draw f fd) (z_int : mg "int" = none) (z_len : mg "len" = none) (z_abs : mg "abs" = none) : FnOk P w K mg base CX0 (k + 1) f fd ["state", "most"] (sp K mg 2 (den__law_draw)) :=
  have sc := sc__law_draw
  fn_mp (N := ["state", "most", "cell", "mixed", "found"]) (r := r__law_draw) F sc__law_draw rfl fun cdv A outer s H E hr =>
  have hu := hr.units
  have hu1 := units1 hr
  (mss_cons (ms_sub (me_var (pv 0)) me_int (me_bin op_addM opm_add (me_ix (me_var (pv 0)) me_int) me_int))
  (mss_cons (ms_if (mt_cmp op_gt opm_cmp (me_ix (me_var (pv 0)) me_int) me_int (by first | exact nomark _ | rfl))
  (mss_cons (ms_set (i := 4) sc.nd rfl (by first | exact Or.inl rfl | exact Or.inr rfl) (me_bin op_mod opm_mod (me_callTy call_int1 callM_int rfl z_int (by decide +kernel) (ma_cons (me_ix (me_var (pv 0)) me_int) ma_nil)) (me_var (pv 1))))
  (mss_cons (ms_sub (me_var (pv 0)) me_int (me_bin op_fdivW opm_div (me_ix (me_var (pv 0)) me_int) (me_var (pv 1))))
  (mss_one (ms_ret (me_var (pv 4))))))
  mss_nil)
  (mss_cons (ms_set (i := 2) sc.nd rfl (by first | exact Or.inl rfl | exact Or.inr rfl) me_int)
  (mss_cons (ms_if (mt_cmp op_gt opm_cmp (me_callB call_lenM callM_len rfl z_len PySem.boot_len (ma_cons (me_ix (me_var (pv 0)) me_int) ma_nil)) me_int (by first | exact nomark _ | rfl))
  (mss_one (ms_set (i := 2) sc.nd rfl (by first | exact Or.inl rfl | exact Or.inr rfl) (me_callB call_abs callM_abs rfl z_abs (by decide +kernel) (ma_cons (me_ix (me_ix (me_var (pv 0)) me_int) (me_bin op_mod opm_mod (me_callTy call_int1 callM_int rfl z_int (by decide +kernel) (ma_cons (me_ix (me_var (pv 0)) me_int) ma_nil)) (me_callB call_lenM callM_len rfl z_len PySem.boot_len (ma_cons (me_ix (me_var (pv 0)) me_int) ma_nil)))) ma_nil))))
  mss_nil)
  (mss_cons (ms_sub (me_var (pv 0)) me_int (me_bin op_addM opm_add (me_ix (me_var (pv 0)) me_int) me_int))
  (mss_cons (ms_if (mt_cmp op_ge opm_cmp (me_var (pv 2)) (me_bin op_pow opm_pow me_int me_int) (by first | exact nomark _ | rfl))
  (mss_cons (ms_sub (me_var (pv 0)) me_int (me_bin op_fdivW opm_div (me_var (pv 2)) (me_var (pv 1))))
  (mss_one (ms_ret (me_bin op_mod opm_mod (me_callTy call_int1 callM_int rfl z_int (by decide +kernel) (ma_cons (me_var (pv 2)) ma_nil)) (me_var (pv 1))))))
  mss_nil)
  (mss_cons (ms_set (i := 3) sc.nd rfl (by first | exact Or.inl rfl | exact Or.inr rfl) (me_bin op_mod opm_mod (me_callTy call_int1 callM_int rfl z_int (by decide +kernel) (ma_cons (me_bin op_addM opm_add (me_bin op_mulM opm_mul (me_bin op_addM opm_add (me_var (pv 2)) me_int) me_int) (me_bin op_mulM opm_mul (me_ix (me_var (pv 0)) me_int) me_int)) ma_nil)) me_int))
  (mss_cons (ms_set (i := 3) sc.nd rfl (by first | exact Or.inl rfl | exact Or.inr rfl) (me_bin op_mod opm_mod (me_callTy call_int1 callM_int rfl z_int (by decide +kernel) (ma_cons (me_bin op_addM opm_add (me_bin op_addM opm_add (me_bin op_mulM opm_mul (me_var (pv 3)) me_int) (me_bin op_fdivW opm_div (me_var (pv 2)) me_int)) (me_ix (me_var (pv 0)) me_int)) ma_nil)) me_int))
  (mss_one (ms_ret (me_bin op_mod opm_mod (me_bin op_fdivW opm_div (me_var (pv 3)) me_int) (me_var (pv 1)))))))))))))
abbrev st__law_one_of : Stmt := top 12
theorem sc__law_one_of : FnScope ["state", "items"] ["state", "items"] (defScope st__law_one_of) := ⟨rfl, rfl, rfl, by decide +kernel, rfl, by decide +kernel, by decide +kernel⟩
theorem mp__law_one_of {k : Nat} {f : Addr} {fd : FuncData} (F : Fun K "_law_one_of" "_law_one_of" st__law_one_of f fd) {f__law_draw : Addr} {e__law_draw : FuncData} {d__law_draw : List D → M Rv} (T__law_draw : FnI K mg "_law_draw" st__law_draw f__law_draw e__law_draw ["state", "most"]) (F__law_draw : FnOk P w K mg base CX0 k f__law_draw e__law_draw ["state", "most"] (sp K mg 2 d__law_draw)) (z_len : mg "len" = none) : FnOk P w K mg base CX0 (k + 1) f fd ["state", "items"] (sp K mg 2 (den__law_one_of d__law_draw)) :=
  have sc := sc__law_one_of
  fn_mp (N := ["state", "items"]) (r := r__law_one_of d__law_draw) F sc__law_one_of rfl fun cdv A outer s H E hr =>
  have hu := hr.units
  have hu1 := units1 hr
  (mss_one (ms_ret (me_ix (me_var (pv 1)) (me_callF T__law_draw F__law_draw hr rfl (ma_cons (me_var (pv 0)) (ma_cons (me_callB call_lenM callM_len rfl z_len PySem.boot_len (ma_cons (me_var (pv 1)) ma_nil)) ma_nil)) rfl))))
abbrev st__law_shuffled : Stmt := top 13
theorem sc__law_shuffled : FnScope ["state", "items", "found", "item"] ["state", "items"] (defScope st__law_shuffled) := ⟨rfl, rfl, rfl, by decide +kernel, rfl, by decide +kernel, by decide +kernel⟩
theorem mp__law_shuffled {k : Nat} {f : Addr} {fd : FuncData} (F : Fun K "_law_shuffled" "_law_shuffled" st__law_shuffled f fd) {f__law_draw : Addr} {e__law_draw : FuncData} {d__law_draw : List D → M Rv} (T__law_draw : FnI K mg "_law_draw" st__law_draw f__law_draw e__law_draw ["state", "most"]) (F__law_draw : FnOk P w K mg base CX0 k f__law_draw e__law_draw ["state", "most"] (sp K mg 2 d__law_draw)) (z_len : mg "len" = none) : FnOk P w K mg base CX0 (k + 1) f fd ["state", "items"] (sp K mg 2 (den__law_shuffled d__law_draw)) :=
  have sc := sc__law_shuffled
  fn_mp (N := ["state", "items", "found", "item"]) (r := r__law_shuffled d__law_draw) F sc__law_shuffled rfl fun cdv A outer s H E hr =>
  have hu := hr.units
  have hu1 := units1 hr
  (mss_cons (ms_set (i := 2) sc.nd rfl (by first | exact Or.inl rfl | exact Or.inr rfl) (me_new (mf_lst ma_nil)))
  (mss_cons (ms_for (fg := [3]) PassesOwn.never rfl (mi_seq (me_var (pv 1))) (mg_of (pg_name (i := 3) sc.nd rfl (by first | exact Or.inl rfl | exact Or.inr rfl)))
  (mss_one (ms_expr (me_lmeth PySem.F.slot_list_insert PySem.F.type_list_insert mt_insert methM_insert (me_var (pv 2)) (ma_cons (me_callF T__law_draw F__law_draw hr rfl (ma_cons (me_var (pv 0)) (ma_cons (me_bin op_addM opm_add (me_callB call_lenM callM_len rfl z_len PySem.boot_len (ma_cons (me_var (pv 2)) ma_nil)) me_int) ma_nil)) rfl) (ma_cons (me_var (pv 3)) ma_nil))))))
  (mss_one (ms_ret (me_var (pv 2))))))
abbrev st__law_words : Stmt := top 14
theorem sc__law_words : FnScope ["state", "many", "letters", "start", "step", "shared", "k"] ["state", "many"] (defScope st__law_words) := ⟨rfl, rfl, rfl, by decide +kernel, rfl, by decide +kernel, by decide +kernel⟩
theorem mp__law_words {k : Nat} {f : Addr} {fd : FuncData} (F : Fun K "_law_words" "_law_words" st__law_words f fd) {f__law_draw : Addr} {e__law_draw : FuncData} {d__law_draw : List D → M Rv} (T__law_draw : FnI K mg "_law_draw" st__law_draw f__law_draw e__law_draw ["state", "most"]) (F__law_draw : FnOk P w K mg base CX0 k f__law_draw e__law_draw ["state", "most"] (sp K mg 2 d__law_draw)) (z_range : mg "range" = none) (z_int : mg "int" = none) : FnOk P w K mg base CX0 (k + 1) f fd ["state", "many"] (sp K mg 2 (den__law_words d__law_draw)) :=
  have sc := sc__law_words
  fn_mp (N := ["state", "many", "letters", "start", "step", "shared", "k"]) (r := r__law_words d__law_draw) F sc__law_words rfl fun cdv A outer s H E hr =>
  have hu := hr.units
  have hu1 := units1 hr
  (mss_cons (ms_set (i := 2) sc.nd rfl (by first | exact Or.inl rfl | exact Or.inr rfl) me_str)
  (mss_cons (ms_set (i := 3) sc.nd rfl (by first | exact Or.inl rfl | exact Or.inr rfl) (me_callF T__law_draw F__law_draw hr rfl (ma_cons (me_var (pv 0)) (ma_cons me_int ma_nil)) rfl))
  (mss_cons (ms_set (i := 4) sc.nd rfl (by first | exact Or.inl rfl | exact Or.inr rfl) (me_bin op_addM opm_add me_int (me_bin op_mulM opm_mul me_int (me_callF T__law_draw F__law_draw hr rfl (ma_cons (me_var (pv 0)) (ma_cons me_int ma_nil)) rfl))))
  (mss_cons (ms_set (i := 5) sc.nd rfl (by first | exact Or.inl rfl | exact Or.inr rfl) (me_slice me_str mo_none (mo_some (me_callF T__law_draw F__law_draw hr rfl (ma_cons (me_var (pv 0)) (ma_cons me_int ma_nil)) rfl))))
  (mss_cons (ms_if (mt_cmp (op_eqM hu) opm_eq (me_callF T__law_draw F__law_draw hr rfl (ma_cons (me_var (pv 0)) (ma_cons me_int ma_nil)) rfl) me_int (by first | exact nomark _ | rfl))
  (mss_one (ms_retF (mf_comp rfl sc.nd (mi_range1 rfl z_range (ma_cons (me_var (pv 1)) ma_nil)) (own := [("k", 6)]) (blkOk_by (N := ["state", "many", "letters", "start", "step", "shared", "k"]) (sc := defScope st__law_words) (by decide +kernel)) (by decide) (fun s H C cl fp => (mg_of (pg_name (i := 6) sc.nd rfl (by first | exact Or.inl rfl | exact Or.inr rfl)))) (fun s H C cl fp => mts_nil) (fun s H C cl fp => (me_bin op_addM opm_add (me_var (pv 5)) (me_ix (me_var (pv 2)) (me_bin op_mod opm_mod (me_callTy call_int1 callM_int rfl z_int (by decide +kernel) (ma_cons (me_bin op_addM opm_add (me_var (pv 3)) (me_bin op_mulM opm_mul (me_var (pv 6)) (me_var (pv 4)))) ma_nil)) me_int)))))))
  mss_nil)
  (mss_one (ms_retF (mf_comp rfl sc.nd (mi_range1 rfl z_range (ma_cons (me_var (pv 1)) ma_nil)) (own := [("k", 6)]) (blkOk_by (N := ["state", "many", "letters", "start", "step", "shared", "k"]) (sc := defScope st__law_words) (by decide +kernel)) (by decide) (fun s H C cl fp => (mg_of (pg_name (i := 6) sc.nd rfl (by first | exact Or.inl rfl | exact Or.inr rfl)))) (fun s H C cl fp => mts_nil) (fun s H C cl fp => (me_bin op_addM opm_add (me_ix (me_var (pv 2)) (me_bin op_mod opm_mod (me_callTy call_int1 callM_int rfl z_int (by decide +kernel) (ma_cons (me_bin op_addM opm_add (me_var (pv 3)) (me_bin op_mulM opm_mul (me_var (pv 6)) (me_var (pv 4)))) ma_nil)) me_int)) (me_var (pv 5))))))))))))
abbrev st__law_is_int : Stmt := top 15
theorem sc__law_is_int : FnScope ["x"] ["x"] (defScope st__law_is_int) := ⟨rfl, rfl, rfl, by decide +kernel, rfl, by decide +kernel, by decide +kernel⟩
theorem mp__law_is_int {k : Nat} {f : Addr} {fd : FuncData} (F : Fun K "_law_is_int" "_law_is_int" st__law_is_int f fd) (z_isinstance : mg "isinstance" = none) (z_int : mg "int" = none) (z_bool : mg "bool" = none) : FnOk P w K mg base CX0 (k + 1) f fd ["x"] (sp K mg 1 (den__law_is_int)) :=
  have sc := sc__law_is_int
  fn_mp (N := ["x"]) (r := r__law_is_int) F sc__law_is_int rfl fun cdv A outer s H E hr =>
  have hu := hr.units
  have hu1 := units1 hr
  (mss_one (ms_ret (me_and (me_isi (T := "int") (by decide) rfl z_isinstance (by decide +kernel) rfl z_int (by decide +kernel) (me_var (pv 0))) (me_one (me_not (me_isi (T := "bool") (by decide) rfl z_isinstance (by decide +kernel) rfl z_bool (by decide +kernel) (me_var (pv 0))))))))
abbrev st__law_same : Stmt := top 16
theorem sc__law_same : FnScope ["x", "y", "k"] ["x", "y"] (defScope st__law_same) := ⟨rfl, rfl, rfl, by decide +kernel, rfl, by decide +kernel, by decide +kernel⟩
theorem mp__law_same {k : Nat} {f : Addr} {fd : FuncData} {f__law_is_int : Addr} {e__law_is_int : FuncData} {d__law_same : List D → M Rv} {d__law_is_int : List D → M Rv} (T__law_same : FnI K mg "_law_same" st__law_same f fd ["x", "y"]) (F__law_same : FnOk P w K mg base CX0 k f fd ["x", "y"] (sp K mg 2 d__law_same)) (T__law_is_int : FnI K mg "_law_is_int" st__law_is_int f__law_is_int e__law_is_int ["x"]) (F__law_is_int : FnOk P w K mg base CX0 k f__law_is_int e__law_is_int ["x"] (sp K mg 1 d__law_is_int)) (z_isinstance : mg "isinstance" = none) (z_tuple : mg "tuple" = none) (z_len : mg "len" = none) (z_range : mg "range" = none) (z_all : mg "all" = none) (z_str : mg "str" = none) : FnOk P w K mg base CX0 (k + 1) f fd ["x", "y"] (sp K mg 2 (den__law_same d__law_same d__law_is_int)) :=
  have sc := sc__law_same
  fn_mp (N := ["x", "y", "k"]) (r := r__law_same d__law_same d__law_is_int) T__law_same.fn sc__law_same rfl fun cdv A outer s H E hr =>
  have hu := hr.units
  have hu1 := units1 hr
  (mss_cons (ms_if (mt_val (me_isi (T := "tuple") (by decide) rfl z_isinstance (by decide +kernel) rfl z_tuple (by decide +kernel) (me_var (pv 1))))
  (mss_cons (ms_if (MW.mt (mw_or (mt_not (mt_val (me_isi (T := "tuple") (by decide) rfl z_isinstance (by decide +kernel) rfl z_tuple (by decide +kernel) (me_var (pv 0))))) (mw_or1 (mt_cmp (op_neM hu) opm_eq (me_callB call_lenM callM_len rfl z_len PySem.boot_len (ma_cons (me_var (pv 0)) ma_nil)) (me_callB call_lenM callM_len rfl z_len PySem.boot_len (ma_cons (me_var (pv 1)) ma_nil)) (by first | exact nomark _ | rfl)))))
  (mss_one (ms_ret me_bl))
  mss_nil)
  (mss_one (ms_ret (me_callB (cr_all rfl) callM_all rfl z_all (by decide +kernel) (ma_cons (me_fl (mf_comp rfl sc.nd (mi_range1 rfl z_range (ma_cons (me_callB call_lenM callM_len rfl z_len PySem.boot_len (ma_cons (me_var (pv 1)) ma_nil)) ma_nil)) (own := [("k", 2)]) (blkOk_by (N := ["x", "y", "k"]) (sc := defScope st__law_same) (by decide +kernel)) (by decide) (fun s H C cl fp => (mg_of (pg_name (i := 2) sc.nd rfl (by first | exact Or.inl rfl | exact Or.inr rfl)))) (fun s H C cl fp => mts_nil) (fun s H C cl fp => (me_callF T__law_same F__law_same hr rfl (ma_cons (me_ix (me_var (pv 0)) (me_var (pv 2))) (ma_cons (me_ix (me_var (pv 1)) (me_var (pv 2))) ma_nil)) rfl)))) ma_nil)))))
  mss_nil)
  (mss_cons (ms_if (mt_val (me_isi (T := "str") (by decide) rfl z_isinstance (by decide +kernel) rfl z_str (by decide +kernel) (me_var (pv 1))))
  (mss_one (ms_ret (me_and (me_isi (T := "str") (by decide) rfl z_isinstance (by decide +kernel) rfl z_str (by decide +kernel) (me_var (pv 0))) (me_one (me_cmp (op_eqM hu) opm_eq (me_var (pv 0)) (me_var (pv 1)) (by first | exact nomark _ | rfl))))))
  mss_nil)
  (mss_one (ms_ret (me_and (me_callF T__law_is_int F__law_is_int hr rfl (ma_cons (me_var (pv 0)) ma_nil) rfl) (me_one (me_cmp (op_eqM hu) opm_eq (me_var (pv 0)) (me_var (pv 1)) (by first | exact nomark _ | rfl))))))))
abbrev st__law_statements : Stmt := top 17
theorem sc__law_statements : FnScope ["body", "found", "s"] ["body"] (defScope st__law_statements) := ⟨rfl, rfl, rfl, by decide +kernel, rfl, by decide +kernel, by decide +kernel⟩
/-- names: 0 body, 1 found, 2 s -/
noncomputable def r__law_statements (d__law_statements : List D → M Rv) : MP.Env → M Fl :=
  (sSeq (sSet 1 (eNew (aList aNil)))
  (sSeq (sFor (eWalk (eVar 0)) (asgN 2)
  (sSeq (sExpr (eMeth lstK gAppend (eVar 1) (aCons (eVar 2) aNil)))
  (eIf (eB (eBin (gEq false) (eBin gIx (eVar 2) (eC (.int 0))) (eC (.str "while"))))
  (sSet 1 (eNew (fCat (eVar 1) (eCall (lenD 1 d__law_statements) (aCons (eBin gIx (eVar 2) (eC (.int 2))) aNil)))))
  (eIf (eB (eBin (gEq false) (eBin gIx (eVar 2) (eC (.int 0))) (eC (.str "if"))))
  (sSet 1 (eNew (fCat (eBin gAdd (eVar 1) (eCall (lenD 1 d__law_statements) (aCons (eBin gIx (eVar 2) (eC (.int 2))) aNil))) (eCall (lenD 1 d__law_statements) (aCons (eBin gIx (eVar 2) (eC (.int 3))) aNil)))))
  sNext))) [2])
  (sRet (eVar 1))))
noncomputable def den__law_statements (d__law_statements : List D → M Rv) : List D → M Rv := fun ds => noX (runB 3 (r__law_statements d__law_statements) ds)
theorem mp__law_statements {k : Nat} {f : Addr} {fd : FuncData} {d__law_statements : List D → M Rv} (T__law_statements : FnI K mg "_law_statements" st__law_statements f fd ["body"]) (F__law_statements : FnOk P w K mg base CX0 k f fd ["body"] (sp K mg 1 d__law_statements)) : FnOk P w K mg base CX0 (k + 1) f fd ["body"] (sp K mg 1 (den__law_statements d__law_statements)) :=
  have sc := sc__law_statements
  fn_mp (N := ["body", "found", "s"]) (r := r__law_statements d__law_statements) T__law_statements.fn sc__law_statements rfl fun cdv A outer s H E hr =>
  have hu := hr.units
  have hu1 := units1 hr
  (mss_cons (ms_set (i := 1) sc.nd rfl (by first | exact Or.inl rfl | exact Or.inr rfl) (me_new (mf_lst ma_nil)))
  (mss_cons (ms_for (fg := [2]) PassesOwn.never rfl (mi_seq (me_var (pv 0))) (mg_of (pg_name (i := 2) sc.nd rfl (by first | exact Or.inl rfl | exact Or.inr rfl)))
  (mss_cons (ms_expr (me_lmeth PySem.F.slot_list_append PySem.F.type_list_append mt_append methM_append (me_var (pv 1)) (ma_cons (me_var (pv 2)) ma_nil)))
  (mss_one (ms_if (mt_cmp (op_eqM hu) opm_eq (me_ix (me_var (pv 2)) me_int) me_str (by first | exact nomark _ | rfl))
  (mss_one (ms_set (i := 1) sc.nd rfl (by first | exact Or.inl rfl | exact Or.inr rfl) (me_new (mf_cat (me_var (pv 1)) (me_callF T__law_statements F__law_statements hr rfl (ma_cons (me_ix (me_var (pv 2)) me_int) ma_nil) rfl)))))
  (mss_one (ms_if (mt_cmp (op_eqM hu) opm_eq (me_ix (me_var (pv 2)) me_int) me_str (by first | exact nomark _ | rfl))
  (mss_one (ms_set (i := 1) sc.nd rfl (by first | exact Or.inl rfl | exact Or.inr rfl) (me_new (mf_cat (me_bin op_addM opm_add (me_var (pv 1)) (me_callF T__law_statements F__law_statements hr rfl (ma_cons (me_ix (me_var (pv 2)) me_int) ma_nil) rfl)) (me_callF T__law_statements F__law_statements hr rfl (ma_cons (me_ix (me_var (pv 2)) me_int) ma_nil) rfl)))))
  mss_nil))))))
  (mss_one (ms_ret (me_var (pv 1))))))
abbrev st__law_parts : Stmt := top 18
theorem sc__law_parts : FnScope ["state", "many", "ring", "names", "arrays", "heads", "name", "size", "items", "k", "known", "free", "places", "x", "kind"] ["state", "many", "ring"] (defScope st__law_parts) := ⟨rfl, rfl, rfl, by decide +kernel, rfl, by decide +kernel, by decide +kernel⟩
/-- names: 0 state, 1 many, 2 ring, 3 names, 4 arrays, 5 heads, 6 name, 7 size, 8 items, 9 k, 10 known, 11 free, 12 places, 13 x, 14 kind -/
noncomputable def r__law_parts (d__law_words : List D → M Rv) (d__law_draw : List D → M Rv) (d__law_shuffled : List D → M Rv) : MP.Env → M Fl :=
  (sSeq (sSet 3 (eFl (fSrt (eCall (lenD 2 d__law_words) (aCons (eVar 0) (aCons (eVar 1) aNil))))))
  (sSeq (sSet 4 (eCall (lenD 2 d__law_words) (aCons (eVar 0) (aCons (eC (.int 8)) aNil))))
  (sSeq (sSet 5 (eNew (aList aNil)))
  (sSeq (sFor (eWalk (eVar 3)) (asgN 6)
  (sSeq (sSet 7 (eCall (lenD 2 d__law_draw) (aCons (eVar 0) (aCons (eC (.int 5)) aNil))))
  (sSeq (eIf (eB (eVar 2))
  (sSet 7 (eBin gAdd (eC (.int 1)) (eCall (lenD 2 d__law_draw) (aCons (eVar 0) (aCons (eC (.int 4)) aNil)))))
  sNext)
  (sSeq (sSet 8 (eNew (fComp (eWalk (eSl (eCall (lenD 2 d__law_shuffled) (aCons (eVar 0) (aCons (eSl (eVar 4) oNone (oSome (eC (.int 6)))) aNil))) oNone (oSome (eVar 7)))) (asgN 13) tYesM (aThen gTup (aCons (eC (.str "array")) (aCons (eVar 13) aNil))) [13])))
  (sSeq (sFor (wThen wRng1 (aCons (eCall (lenD 2 d__law_draw) (aCons (eVar 0) (aCons (eC (.int 3)) aNil))) aNil)) (asgN 9)
  (sExpr (eMeth lstK gInsert (eVar 8) (aCons (eCall (lenD 2 d__law_draw) (aCons (eVar 0) (aCons (eBin gAdd (aThen (g1 gLen) (aCons (eVar 8) aNil)) (eC (.int 1))) aNil))) (aCons (aThen gTup (aCons (eC (.str "int")) (aCons (eBin gAdd (eBin gIx (eVar 4) (eBin gAdd (eC (.int 6)) (eVar 9))) (eC (.str "n"))) aNil))) aNil)))) [9])
  (sSeq (sSet 10 (eFl (fComp (eWalk (eVar 8)) (asgT 2 (asgCons (asgN 14) (asgCons (asgN 13) asgNil))) tYesM (eVar 13) [13, 14])))
  (sSeq (sSet 11 (eCall (lenD 2 d__law_shuffled) (aCons (eVar 0) (aCons (eFl (fComp (eWalk (eVar 4)) (asgN 13) (eB (eBin (gIn true) (eVar 13) (eVar 10))) (eVar 13) [13])) aNil))))
  (sSeq (sSet 12 (eFl (fComp (eWalk (eVar 11)) (asgN 13) tYesM (aThen gTup (aCons (eC (.str "array")) (aCons (eVar 13) aNil))) [13])))
  (sExpr (eMeth lstK gAppend (eVar 5) (aCons (aThen gTup (aCons (eVar 6) (aCons (eVar 8) (aCons (eSl (eVar 12) oNone (oSome (aThen (g2 (gII cAny fun i j => .int (if j > i then j else i))) (aCons (eBin gAdd (eC (.int 3)) (eCall (lenD 2 d__law_draw) (aCons (eVar 0) (aCons (eC (.int 2)) aNil)))) (aCons (eBin gSub (eC (.int 4)) (eVar 7)) aNil))))) aNil)))) aNil)))))))))) [6, 7, 8, 9, 10, 11, 12])
  (sRet (eVar 5))))))
noncomputable def den__law_parts (d__law_words : List D → M Rv) (d__law_draw : List D → M Rv) (d__law_shuffled : List D → M Rv) : List D → M Rv := fun ds => noX (runB 15 (r__law_parts d__law_words d__law_draw d__law_shuffled) ds)
theorem mp__law_parts {k : Nat} {f : Addr} {fd : FuncData} (F : Fun K "_law_parts" "_law_parts" st__law_parts f fd) {f__law_words : Addr} {e__law_words : FuncData} {f__law_draw : Addr} {e__law_draw : FuncData} {f__law_shuffled : Addr} {e__law_shuffled : FuncData} {d__law_words : List D → M Rv} {d__law_draw : List D → M Rv} {d__law_shuffled : List D → M Rv} (T__law_words : FnI K mg "_law_words" st__law_words f__law_words e__law_words ["state", "many"]) (F__law_words : FnOk P w K mg base CX0 k f__law_words e__law_words ["state", "many"] (sp K mg 2 d__law_words)) (T__law_draw : FnI K mg "_law_draw" st__law_draw f__law_draw e__law_draw ["state", "most"]) (F__law_draw : FnOk P w K mg base CX0 k f__law_draw e__law_draw ["state", "most"] (sp K mg 2 d__law_draw)) (T__law_shuffled : FnI K mg "_law_shuffled" st__law_shuffled f__law_shuffled e__law_shuffled ["state", "items"]) (F__law_shuffled : FnOk P w K mg base CX0 k f__law_shuffled e__law_shuffled ["state", "items"] (sp K mg 2 d__law_shuffled)) (z_sorted : mg "sorted" = none) (z_range : mg "range" = none) (z_len : mg "len" = none) (z_max : mg "max" = none) : FnOk P w K mg base CX0 (k + 1) f fd ["state", "many", "ring"] (sp K mg 3 (den__law_parts d__law_words d__law_draw d__law_shuffled)) :=
  have sc := sc__law_parts
  fn_mp (N := ["state", "many", "ring", "names", "arrays", "heads", "name", "size", "items", "k", "known", "free", "places", "x", "kind"]) (r := r__law_parts d__law_words d__law_draw d__law_shuffled) F sc__law_parts rfl fun cdv A outer s H E hr =>
  have hu := hr.units
  have hu1 := units1 hr
  (mss_cons (ms_set (i := 3) sc.nd rfl (by first | exact Or.inl rfl | exact Or.inr rfl) (me_fl (mf_sorted rfl z_sorted (by decide +kernel) (me_callF T__law_words F__law_words hr rfl (ma_cons (me_var (pv 0)) (ma_cons (me_var (pv 1)) ma_nil)) rfl))))
  (mss_cons (ms_set (i := 4) sc.nd rfl (by first | exact Or.inl rfl | exact Or.inr rfl) (me_callF T__law_words F__law_words hr rfl (ma_cons (me_var (pv 0)) (ma_cons me_int ma_nil)) rfl))
  (mss_cons (ms_set (i := 5) sc.nd rfl (by first | exact Or.inl rfl | exact Or.inr rfl) (me_new (mf_lst ma_nil)))
  (mss_cons (ms_for (fg := [6, 7, 8, 9, 10, 11, 12]) PassesOwn.never rfl (mi_seq (me_var (pv 3))) (mg_of (pg_name (i := 6) sc.nd rfl (by first | exact Or.inl rfl | exact Or.inr rfl)))
  (mss_cons (ms_set (i := 7) sc.nd rfl (by first | exact Or.inl rfl | exact Or.inr rfl) (me_callF T__law_draw F__law_draw hr rfl (ma_cons (me_var (pv 0)) (ma_cons me_int ma_nil)) rfl))
  (mss_cons (ms_if (mt_val (me_var (pv 2)))
  (mss_one (ms_set (i := 7) sc.nd rfl (by first | exact Or.inl rfl | exact Or.inr rfl) (me_bin op_addM opm_add me_int (me_callF T__law_draw F__law_draw hr rfl (ma_cons (me_var (pv 0)) (ma_cons me_int ma_nil)) rfl))))
  mss_nil)
  (mss_cons (ms_setC (i := 8) rfl sc.nd rfl rfl (sw_true rfl rfl (by decide +kernel) (by decide +kernel)) (mi_seq (me_slice (me_callF T__law_shuffled F__law_shuffled hr rfl (ma_cons (me_var (pv 0)) (ma_cons (me_slice (me_var (pv 4)) mo_none (mo_some me_int)) ma_nil)) rfl) mo_none (mo_some (me_var (pv 7))))) (own := [("x", 13)]) (blkOk_by (N := ["state", "many", "ring", "names", "arrays", "heads", "name", "size", "items", "k", "known", "free", "places", "x", "kind"]) (sc := defScope st__law_parts) (by decide +kernel)) (by decide) (fun s H C cl fp => (mg_of (pg_name (i := 13) sc.nd rfl (by first | exact Or.inl rfl | exact Or.inr rfl)))) (fun s H C cl fp => mts_nil) (fun s H C cl fp => (me_tup (ma_cons me_str (ma_cons (me_var (pv 13)) ma_nil)))) new_go)
  (mss_cons (ms_for (fg := [9]) PassesOwn.never rfl (mi_range1 rfl z_range (ma_cons (me_callF T__law_draw F__law_draw hr rfl (ma_cons (me_var (pv 0)) (ma_cons me_int ma_nil)) rfl) ma_nil)) (mg_of (pg_name (i := 9) sc.nd rfl (by first | exact Or.inl rfl | exact Or.inr rfl)))
  (mss_one (ms_expr (me_lmeth PySem.F.slot_list_insert PySem.F.type_list_insert mt_insert methM_insert (me_var (pv 8)) (ma_cons (me_callF T__law_draw F__law_draw hr rfl (ma_cons (me_var (pv 0)) (ma_cons (me_bin op_addM opm_add (me_callB call_lenM callM_len rfl z_len PySem.boot_len (ma_cons (me_var (pv 8)) ma_nil)) me_int) ma_nil)) rfl) (ma_cons (me_tup (ma_cons me_str (ma_cons (me_bin op_addM opm_add (me_ix (me_var (pv 4)) (me_bin op_addM opm_add me_int (me_var (pv 9)))) me_str) ma_nil))) ma_nil))))))
  (mss_cons (ms_set (i := 10) sc.nd rfl (by first | exact Or.inl rfl | exact Or.inr rfl) (me_fl (mf_comp rfl sc.nd (mi_seq (me_var (pv 8))) (own := [("x", 13), ("kind", 14)]) (blkOk_by (N := ["state", "many", "ring", "names", "arrays", "heads", "name", "size", "items", "k", "known", "free", "places", "x", "kind"]) (sc := defScope st__law_parts) (by decide +kernel)) (by decide) (fun s H C cl fp => (mg_tup rfl (mgs_cons (mg_of (pg_name (i := 14) sc.nd rfl (by first | exact Or.inl rfl | exact Or.inr rfl))) (mgs_cons (mg_of (pg_name (i := 13) sc.nd rfl (by first | exact Or.inl rfl | exact Or.inr rfl))) mgs_nil)))) (fun s H C cl fp => mts_nil) (fun s H C cl fp => (me_var (pv 13))))))
  (mss_cons (ms_set (i := 11) sc.nd rfl (by first | exact Or.inl rfl | exact Or.inr rfl) (me_callF T__law_shuffled F__law_shuffled hr rfl (ma_cons (me_var (pv 0)) (ma_cons (me_fl (mf_comp rfl sc.nd (mi_seq (me_var (pv 4))) (own := [("x", 13)]) (blkOk_by (N := ["state", "many", "ring", "names", "arrays", "heads", "name", "size", "items", "k", "known", "free", "places", "x", "kind"]) (sc := defScope st__law_parts) (by decide +kernel)) (by decide) (fun s H C cl fp => (mg_of (pg_name (i := 13) sc.nd rfl (by first | exact Or.inl rfl | exact Or.inr rfl)))) (fun s H C cl fp => (mts_one (mt_cmp (op_notInM hu) opm_in (me_var (pv 13)) (me_var (pv 10)) (by first | exact nomark _ | rfl)))) (fun s H C cl fp => (me_var (pv 13))))) ma_nil)) rfl))
  (mss_cons (ms_setC (i := 12) rfl sc.nd rfl rfl (sw_true rfl rfl (by decide +kernel) (by decide +kernel)) (mi_seq (me_var (pv 11))) (own := [("x", 13)]) (blkOk_by (N := ["state", "many", "ring", "names", "arrays", "heads", "name", "size", "items", "k", "known", "free", "places", "x", "kind"]) (sc := defScope st__law_parts) (by decide +kernel)) (by decide) (fun s H C cl fp => (mg_of (pg_name (i := 13) sc.nd rfl (by first | exact Or.inl rfl | exact Or.inr rfl)))) (fun s H C cl fp => mts_nil) (fun s H C cl fp => (me_tup (ma_cons me_str (ma_cons (me_var (pv 13)) ma_nil)))) fl_go)
  (mss_one (ms_expr (me_lmeth PySem.F.slot_list_append PySem.F.type_list_append mt_append methM_append (me_var (pv 5)) (ma_cons (me_tup (ma_cons (me_var (pv 6)) (ma_cons (me_var (pv 8)) (ma_cons (me_slice (me_var (pv 12)) mo_none (mo_some (me_callB (call_max2 rfl) callM_max2 rfl z_max (by decide +kernel) (ma_cons (me_bin op_addM opm_add me_int (me_callF T__law_draw F__law_draw hr rfl (ma_cons (me_var (pv 0)) (ma_cons me_int ma_nil)) rfl)) (ma_cons (me_bin op_sub opm_sub me_int (me_var (pv 7))) ma_nil))))) ma_nil)))) ma_nil))))))))))))
  (mss_one (ms_ret (me_var (pv 5))))))))
abbrev st__law_arrays : Stmt := top 19
theorem sc__law_arrays : FnScope ["head", "kind", "x"] ["head"] (defScope st__law_arrays) := ⟨rfl, rfl, rfl, by decide +kernel, rfl, by decide +kernel, by decide +kernel⟩
/-- names: 0 head, 1 kind, 2 x -/
noncomputable def r__law_arrays : MP.Env → M Fl :=
  (sRetF (fComp (eWalk (eBin gAdd (eBin gIx (eVar 0) (eC (.int 1))) (eBin gIx (eVar 0) (eC (.int 2))))) (asgT 2 (asgCons (asgN 1) (asgCons (asgN 2) asgNil))) (eB (eBin (gEq false) (eVar 1) (eC (.str "array")))) (eVar 2) [1, 2]))
noncomputable def den__law_arrays : List D → M Rv := fun ds => noX (runB 3 (r__law_arrays) ds)
theorem mp__law_arrays {k : Nat} {f : Addr} {fd : FuncData} (F : Fun K "_law_arrays" "_law_arrays" st__law_arrays f fd) : FnOk P w K mg base CX0 (k + 1) f fd ["head"] (sp K mg 1 (den__law_arrays)) :=
  have sc := sc__law_arrays
  fn_mp (N := ["head", "kind", "x"]) (r := r__law_arrays) F sc__law_arrays rfl fun cdv A outer s H E hr =>
  have hu := hr.units
  have hu1 := units1 hr
  (mss_one (ms_retF (mf_comp rfl sc.nd (mi_seq (me_bin op_addM opm_add (me_ix (me_var (pv 0)) me_int) (me_ix (me_var (pv 0)) me_int))) (own := [("kind", 1), ("x", 2)]) (blkOk_by (N := ["head", "kind", "x"]) (sc := defScope st__law_arrays) (by decide +kernel)) (by decide) (fun s H C cl fp => (mg_tup rfl (mgs_cons (mg_of (pg_name (i := 1) sc.nd rfl (by first | exact Or.inl rfl | exact Or.inr rfl))) (mgs_cons (mg_of (pg_name (i := 2) sc.nd rfl (by first | exact Or.inl rfl | exact Or.inr rfl))) mgs_nil)))) (fun s H C cl fp => (mts_one (mt_cmp (op_eqM hu) opm_eq (me_var (pv 1)) me_str (by first | exact nomark _ | rfl)))) (fun s H C cl fp => (me_var (pv 2))))))
abbrev st__law_call : Stmt := top 20
theorem sc__law_call : FnScope ["callee", "passed", "given", "kind", "x"] ["callee", "passed"] (defScope st__law_call) := ⟨rfl, rfl, rfl, by decide +kernel, rfl, by decide +kernel, by decide +kernel⟩
/-- names: 0 callee, 1 passed, 2 given, 3 kind, 4 x -/
noncomputable def r__law_call : MP.Env → M Fl :=
  (sSeq (sSet 2 (eNew (aList aNil)))
  (sSeq (sFor (eWalk (eBin gIx (eVar 0) (eC (.int 1)))) (asgT 2 (asgCons (asgN 3) (asgCons (asgN 4) asgNil)))
  (eIf (eB (eBin (gEq false) (eVar 3) (eC (.str "array"))))
  (sExpr (eMeth lstK gAppend (eVar 2) (aCons (aThen gTup (aCons (eC (.str "array")) (aCons (eMeth lstK gPopAt (eVar 1) (aCons (eC (.int 0)) aNil)) aNil))) aNil)))
  (sExpr (eMeth lstK gAppend (eVar 2) (aCons (aThen gTup (aCons (eC (.str "number")) (aCons (eC (.int 3)) aNil))) aNil)))) [3, 4])
  (sRet (aThen gTup (aCons (eC (.str "call")) (aCons (eBin gIx (eVar 0) (eC (.int 0))) (aCons (aThen (g1 gTuple) (aCons (eVar 2) aNil)) (aCons (aThen gTup aNil) aNil))))))))
noncomputable def den__law_call : List D → M Rv := fun ds => noX (runB 5 (r__law_call) ds)
theorem mp__law_call {k : Nat} {f : Addr} {fd : FuncData} (F : Fun K "_law_call" "_law_call" st__law_call f fd) (z_tuple : mg "tuple" = none) : FnOk P w K mg base CX0 (k + 1) f fd ["callee", "passed"] (sp K mg 2 (den__law_call)) :=
  have sc := sc__law_call
  fn_mp (N := ["callee", "passed", "given", "kind", "x"]) (r := r__law_call) F sc__law_call rfl fun cdv A outer s H E hr =>
  have hu := hr.units
  have hu1 := units1 hr
  (mss_cons (ms_set (i := 2) sc.nd rfl (by first | exact Or.inl rfl | exact Or.inr rfl) (me_new (mf_lst ma_nil)))
  (mss_cons (ms_for (fg := [3, 4]) PassesOwn.never rfl (mi_seq (me_ix (me_var (pv 0)) me_int)) (mg_tup rfl (mgs_cons (mg_of (pg_name (i := 3) sc.nd rfl (by first | exact Or.inl rfl | exact Or.inr rfl))) (mgs_cons (mg_of (pg_name (i := 4) sc.nd rfl (by first | exact Or.inl rfl | exact Or.inr rfl))) mgs_nil)))
  (mss_one (ms_if (mt_cmp (op_eqM hu) opm_eq (me_var (pv 3)) me_str (by first | exact nomark _ | rfl))
  (mss_one (ms_expr (me_lmeth PySem.F.slot_list_append PySem.F.type_list_append mt_append methM_append (me_var (pv 2)) (ma_cons (me_tup (ma_cons me_str (ma_cons (me_lmeth PySem.F.slot_list_pop PySem.F.type_list_pop mt_popAt methM_popAt (me_var (pv 1)) (ma_cons me_int ma_nil)) ma_nil))) ma_nil))))
  (mss_one (ms_expr (me_lmeth PySem.F.slot_list_append PySem.F.type_list_append mt_append methM_append (me_var (pv 2)) (ma_cons (me_tup (ma_cons me_str (ma_cons me_int ma_nil))) ma_nil)))))))
  (mss_one (ms_ret (me_tup (ma_cons me_str (ma_cons (me_ix (me_var (pv 0)) me_int) (ma_cons (me_callTy call_tuple_of callM_tuple rfl z_tuple (by decide +kernel) (ma_cons (me_var (pv 2)) ma_nil)) (ma_cons (me_tup ma_nil) ma_nil)))))))))
abbrev st__law_change : Stmt := top 21
theorem sc__law_change : FnScope ["state", "x", "number"] ["state", "x"] (defScope st__law_change) := ⟨rfl, rfl, rfl, by decide +kernel, rfl, by decide +kernel, by decide +kernel⟩
/-- names: 0 state, 1 x, 2 number -/
noncomputable def r__law_change (d__law_draw : List D → M Rv) : MP.Env → M Fl :=
  (sSeq (sSet 2 (aThen gTup (aCons (eC (.str "number")) (aCons (eCall (lenD 2 d__law_draw) (aCons (eVar 0) (aCons (eC (.int 9)) aNil))) aNil))))
  (sRet (eBin gIx (eFl (aList (aCons (aThen gTup (aCons (eC (.str "store")) (aCons (eVar 1) (aCons (aThen gTup (aCons (eC (.str "number")) (aCons (eC (.int 0)) aNil))) (aCons (eVar 2) aNil))))) (aCons (aThen gTup (aCons (eC (.str "push")) (aCons (eVar 2) (aCons (eVar 1) aNil)))) (aCons (aThen gTup (aCons (eC (.str "pop")) (aCons (eC (.str "z_z")) (aCons (eVar 1) aNil)))) aNil))))) (eCall (lenD 2 d__law_draw) (aCons (eVar 0) (aCons (eC (.int 3)) aNil))))))
noncomputable def den__law_change (d__law_draw : List D → M Rv) : List D → M Rv := fun ds => noX (runB 3 (r__law_change d__law_draw) ds)
theorem mp__law_change {k : Nat} {f : Addr} {fd : FuncData} (F : Fun K "_law_change" "_law_change" st__law_change f fd) {f__law_draw : Addr} {e__law_draw : FuncData} {d__law_draw : List D → M Rv} (T__law_draw : FnI K mg "_law_draw" st__law_draw f__law_draw e__law_draw ["state", "most"]) (F__law_draw : FnOk P w K mg base CX0 k f__law_draw e__law_draw ["state", "most"] (sp K mg 2 d__law_draw)) : FnOk P w K mg base CX0 (k + 1) f fd ["state", "x"] (sp K mg 2 (den__law_change d__law_draw)) :=
  have sc := sc__law_change
  fn_mp (N := ["state", "x", "number"]) (r := r__law_change d__law_draw) F sc__law_change rfl fun cdv A outer s H E hr =>
  have hu := hr.units
  have hu1 := units1 hr
  (mss_cons (ms_set (i := 2) sc.nd rfl (by first | exact Or.inl rfl | exact Or.inr rfl) (me_tup (ma_cons me_str (ma_cons (me_callF T__law_draw F__law_draw hr rfl (ma_cons (me_var (pv 0)) (ma_cons me_int ma_nil)) rfl) ma_nil))))
  (mss_one (ms_ret (me_ix (me_fl (mf_lst (ma_cons (me_tup (ma_cons me_str (ma_cons (me_var (pv 1)) (ma_cons (me_tup (ma_cons me_str (ma_cons me_int ma_nil))) (ma_cons (me_var (pv 2)) ma_nil))))) (ma_cons (me_tup (ma_cons me_str (ma_cons (me_var (pv 2)) (ma_cons (me_var (pv 1)) ma_nil)))) (ma_cons (me_tup (ma_cons me_str (ma_cons me_str (ma_cons (me_var (pv 1)) ma_nil)))) ma_nil))))) (me_callF T__law_draw F__law_draw hr rfl (ma_cons (me_var (pv 0)) (ma_cons me_int ma_nil)) rfl)))))
abbrev st__law_wrapped : Stmt := top 22
theorem sc__law_wrapped : FnScope ["state", "statements", "test", "pick"] ["state", "statements"] (defScope st__law_wrapped) := ⟨rfl, rfl, rfl, by decide +kernel, rfl, by decide +kernel, by decide +kernel⟩
/-- names: 0 state, 1 statements, 2 test, 3 pick -/
noncomputable def r__law_wrapped (d__law_draw : List D → M Rv) : MP.Env → M Fl :=
  (sSeq (sSet 2 (aThen gTup (aCons (eC (.str "less")) (aCons (aThen gTup (aCons (eC (.str "number")) (aCons (eCall (lenD 2 d__law_draw) (aCons (eVar 0) (aCons (eC (.int 2)) aNil))) aNil))) (aCons (aThen gTup (aCons (eC (.str "length")) (aCons (eC (.str "w_w")) aNil))) aNil)))))
  (sSeq (sSet 3 (eCall (lenD 2 d__law_draw) (aCons (eVar 0) (aCons (eC (.int 5)) aNil))))
  (sSeq (eIf (eB (eBin (gEq false) (eVar 3) (eC (.int 0))))
  (sRet (aThen gTup (aCons (aThen gTup (aCons (eC (.str "while")) (aCons (eVar 2) (aCons (eVar 1) aNil)))) aNil)))
  sNext)
  (sSeq (eIf (eB (eBin (gEq false) (eVar 3) (eC (.int 1))))
  (sRet (aThen gTup (aCons (aThen gTup (aCons (eC (.str "if")) (aCons (eVar 2) (aCons (eVar 1) (aCons (aThen gTup (aCons (aThen gTup (aCons (eC (.str "pause")) aNil)) aNil)) aNil))))) aNil)))
  sNext)
  (sSeq (eIf (eB (eBin (gEq false) (eVar 3) (eC (.int 2))))
  (sRet (aThen gTup (aCons (aThen gTup (aCons (eC (.str "if")) (aCons (eVar 2) (aCons (aThen gTup aNil) (aCons (aThen gTup (aCons (aThen gTup (aCons (eC (.str "while")) (aCons (eVar 2) (aCons (eVar 1) aNil)))) aNil)) aNil))))) aNil)))
  sNext)
  (sRet (eVar 1)))))))
noncomputable def den__law_wrapped (d__law_draw : List D → M Rv) : List D → M Rv := fun ds => noX (runB 4 (r__law_wrapped d__law_draw) ds)
theorem mp__law_wrapped {k : Nat} {f : Addr} {fd : FuncData} (F : Fun K "_law_wrapped" "_law_wrapped" st__law_wrapped f fd) {f__law_draw : Addr} {e__law_draw : FuncData} {d__law_draw : List D → M Rv} (T__law_draw : FnI K mg "_law_draw" st__law_draw f__law_draw e__law_draw ["state", "most"]) (F__law_draw : FnOk P w K mg base CX0 k f__law_draw e__law_draw ["state", "most"] (sp K mg 2 d__law_draw)) : FnOk P w K mg base CX0 (k + 1) f fd ["state", "statements"] (sp K mg 2 (den__law_wrapped d__law_draw)) :=
  have sc := sc__law_wrapped
  fn_mp (N := ["state", "statements", "test", "pick"]) (r := r__law_wrapped d__law_draw) F sc__law_wrapped rfl fun cdv A outer s H E hr =>
  have hu := hr.units
  have hu1 := units1 hr
  (mss_cons (ms_set (i := 2) sc.nd rfl (by first | exact Or.inl rfl | exact Or.inr rfl) (me_tup (ma_cons me_str (ma_cons (me_tup (ma_cons me_str (ma_cons (me_callF T__law_draw F__law_draw hr rfl (ma_cons (me_var (pv 0)) (ma_cons me_int ma_nil)) rfl) ma_nil))) (ma_cons (me_tup (ma_cons me_str (ma_cons me_str ma_nil))) ma_nil)))))
  (mss_cons (ms_set (i := 3) sc.nd rfl (by first | exact Or.inl rfl | exact Or.inr rfl) (me_callF T__law_draw F__law_draw hr rfl (ma_cons (me_var (pv 0)) (ma_cons me_int ma_nil)) rfl))
  (mss_cons (ms_if (mt_cmp (op_eqM hu) opm_eq (me_var (pv 3)) me_int (by first | exact nomark _ | rfl))
  (mss_one (ms_ret (me_tup (ma_cons (me_tup (ma_cons me_str (ma_cons (me_var (pv 2)) (ma_cons (me_var (pv 1)) ma_nil)))) ma_nil))))
  mss_nil)
  (mss_cons (ms_if (mt_cmp (op_eqM hu) opm_eq (me_var (pv 3)) me_int (by first | exact nomark _ | rfl))
  (mss_one (ms_ret (me_tup (ma_cons (me_tup (ma_cons me_str (ma_cons (me_var (pv 2)) (ma_cons (me_var (pv 1)) (ma_cons (me_tup (ma_cons (me_tup (ma_cons me_str ma_nil)) ma_nil)) ma_nil))))) ma_nil))))
  mss_nil)
  (mss_cons (ms_if (mt_cmp (op_eqM hu) opm_eq (me_var (pv 3)) me_int (by first | exact nomark _ | rfl))
  (mss_one (ms_ret (me_tup (ma_cons (me_tup (ma_cons me_str (ma_cons (me_var (pv 2)) (ma_cons (me_tup ma_nil) (ma_cons (me_tup (ma_cons (me_tup (ma_cons me_str (ma_cons (me_var (pv 2)) (ma_cons (me_var (pv 1)) ma_nil)))) ma_nil)) ma_nil))))) ma_nil))))
  mss_nil)
  (mss_one (ms_ret (me_var (pv 1)))))))))
abbrev st__law_core_of : Stmt := top 23
theorem sc__law_core_of : FnScope ["state", "many", "ring", "heads", "step", "alone", "core", "k", "head", "body", "j", "places", "own", "passed", "call", "change", "kind", "x"] ["state"] (defScope st__law_core_of) := ⟨rfl, rfl, rfl, by decide +kernel, rfl, by decide +kernel, by decide +kernel⟩
/-- names: 0 state, 1 many, 2 ring, 3 heads, 4 step, 5 alone, 6 core, 7 k, 8 head, 9 body, 10 j, 11 places, 12 own, 13 passed, 14 call, 15 change, 16 kind, 17 x -/
noncomputable def r__law_core_of (d__law_draw : List D → M Rv) (d__law_parts : List D → M Rv) (d__law_wrapped : List D → M Rv) (d__law_call : List D → M Rv) (d__law_shuffled : List D → M Rv) (d__law_arrays : List D → M Rv) (d__law_one_of : List D → M Rv) (d__law_change : List D → M Rv) : MP.Env → M Fl :=
  (sSeq (sSet 1 (eBin gAdd (eC (.int 1)) (eCall (lenD 2 d__law_draw) (aCons (eVar 0) (aCons (eBin gIx (eFl (aList (aCons (eC (.int 3)) (aCons (eC (.int 6)) (aCons (eC (.int 12)) aNil))))) (eCall (lenD 2 d__law_draw) (aCons (eVar 0) (aCons (eC (.int 3)) aNil)))) aNil)))))
  (sSeq (sSet 2 (eBin (gEq false) (eCall (lenD 2 d__law_draw) (aCons (eVar 0) (aCons (eC (.int 3)) aNil))) (eC (.int 0))))
  (sSeq (sSet 3 (eCall (lenD 3 d__law_parts) (aCons (eVar 0) (aCons (eVar 1) (aCons (eVar 2) aNil)))))
  (sSeq (sSet 4 (eBin gIx (eFl (aList (aCons (eC (.int 1)) (aCons (eBin gSub (eVar 1) (eC (.int 1))) aNil)))) (eCall (lenD 2 d__law_draw) (aCons (eVar 0) (aCons (eC (.int 2)) aNil)))))
  (sSeq (sSet 5 (eBin gMul (eCall (lenD 2 d__law_draw) (aCons (eVar 0) (aCons (eC (.int 2)) aNil))) (eBin gAdd (eC (.int 1)) (eCall (lenD 2 d__law_draw) (aCons (eVar 0) (aCons (eVar 1) aNil))))))
  (sSeq (sSet 6 (eNew (aList aNil)))
  (sSeq (sFor (wThen wRng1 (aCons (eVar 1) aNil)) (asgN 7)
  (sSeq (sSet 8 (eBin gIx (eVar 3) (eVar 7)))
  (sSeq (sSet 9 (aThen gTup aNil))
  (sSeq (eIf (eB (eVar 2))
  (sSeq (sSet 12 (eFl (fComp (eWalk (eBin gIx (eVar 8) (eC (.int 1)))) (asgT 2 (asgCons (asgN 16) (asgCons (asgN 17) asgNil))) (eB (eBin (gEq false) (eVar 16) (eC (.str "array")))) (eVar 17) [16, 17])))
  (sSeq (sSet 13 (eNew (fCat (eBin gAdd (eSl (eVar 12) (oSome (eC (.int 1))) oNone) (eSl (eVar 12) oNone (oSome (eC (.int 1))))) (eFl (fComp (eWalk (eBin gIx (eVar 8) (eC (.int 2)))) (asgT 2 (asgCons (asgN 16) (asgCons (asgN 17) asgNil))) tYesM (eVar 17) [16, 17])))))
  (sSet 9 (eCall (lenD 2 d__law_wrapped) (aCons (eVar 0) (aCons (aThen gTup (aCons (eCall (lenD 2 d__law_call) (aCons (eBin gIx (eVar 3) (eBin gMod (aThen (g1 gInt) (aCons (eBin gAdd (eVar 7) (eVar 4)) aNil)) (eVar 1))) (aCons (eVar 13) aNil))) aNil)) aNil))))))
  sNext)
  (sSeq (sFor (wThen wRng1 (aCons (eCall (lenD 2 d__law_draw) (aCons (eVar 0) (aCons (eC (.int 4)) aNil))) aNil)) (asgN 10)
  (sSeq (sSet 14 (eCall (lenD 2 d__law_call) (aCons (eCall (lenD 2 d__law_one_of) (aCons (eVar 0) (aCons (eVar 3) aNil))) (aCons (eNew (fCall (lenD 2 d__law_shuffled) (aCons (eVar 0) (aCons (eCall (lenD 1 d__law_arrays) (aCons (eVar 8) aNil)) aNil)))) aNil))))
  (sSet 9 (eBin gAdd (eVar 9) (eCall (lenD 2 d__law_wrapped) (aCons (eVar 0) (aCons (aThen gTup (aCons (eVar 14) aNil)) aNil)))))) [10, 14])
  (sSeq (eIf (bOr (eB (eBin (gEq false) (eVar 5) (eBin gAdd (eVar 7) (eC (.int 1))))) (bAnd (eB (eBin (gEq false) (eVar 5) (eC (.int 0)))) (eB (eBin (gEq false) (eCall (lenD 2 d__law_draw) (aCons (eVar 0) (aCons (eC (.int 4)) aNil))) (eC (.int 0))))))
  (sSeq (sSet 15 (eCall (lenD 2 d__law_wrapped) (aCons (eVar 0) (aCons (aThen gTup (aCons (eCall (lenD 2 d__law_change) (aCons (eVar 0) (aCons (eCall (lenD 2 d__law_one_of) (aCons (eVar 0) (aCons (eCall (lenD 1 d__law_arrays) (aCons (eVar 8) aNil)) aNil))) aNil))) aNil)) aNil))))
  (sSet 9 (eBin gIx (eFl (aList (aCons (eBin gAdd (eVar 15) (eVar 9)) (aCons (eBin gAdd (eVar 9) (eVar 15)) aNil)))) (eCall (lenD 2 d__law_draw) (aCons (eVar 0) (aCons (eC (.int 2)) aNil))))))
  sNext)
  (sSeq (sSet 11 (aThen (g1 gTuple) (aCons (eBin gAdd (eBin gIx (eVar 8) (eC (.int 2))) (eFl (aList (aCons (aThen gTup (aCons (eC (.str "int")) (aCons (eC (.str "z_z")) aNil))) (aCons (aThen gTup (aCons (eC (.str "array")) (aCons (eC (.str "w_w")) aNil))) aNil))))) aNil)))
  (sExpr (eMeth lstK gAppend (eVar 6) (aCons (aThen gTup (aCons (eBin gIx (eVar 8) (eC (.int 0))) (aCons (aThen (g1 gTuple) (aCons (eBin gIx (eVar 8) (eC (.int 1))) aNil)) (aCons (aThen gTup aNil) (aCons (eVar 11) (aCons (aThen gTup aNil) (aCons (aThen gTup aNil) (aCons (aThen gTup aNil) (aCons (aThen gTup aNil) (aCons (eVar 9) aNil)))))))))) aNil))))))))) [7, 8, 9, 10, 11])
  (sRet (aThen (g1 gTuple) (aCons (eVar 6) aNil))))))))))
noncomputable def den__law_core_of (d__law_draw : List D → M Rv) (d__law_parts : List D → M Rv) (d__law_wrapped : List D → M Rv) (d__law_call : List D → M Rv) (d__law_shuffled : List D → M Rv) (d__law_arrays : List D → M Rv) (d__law_one_of : List D → M Rv) (d__law_change : List D → M Rv) : List D → M Rv := fun ds => noX (runB 18 (r__law_core_of d__law_draw d__law_parts d__law_wrapped d__law_call d__law_shuffled d__law_arrays d__law_one_of d__law_change) ds)
theorem mp__law_core_of {k : Nat} {f : Addr} {fd : FuncData} (F : Fun K "_law_core_of" "_law_core_of" st__law_core_of f fd) {f__law_draw : Addr} {e__law_draw : FuncData} {f__law_parts : Addr} {e__law_parts : FuncData} {f__law_wrapped : Addr} {e__law_wrapped : FuncData} {f__law_call : Addr} {e__law_call : FuncData} {f__law_shuffled : Addr} {e__law_shuffled : FuncData} {f__law_arrays : Addr} {e__law_arrays : FuncData} {f__law_one_of : Addr} {e__law_one_of : FuncData} {f__law_change : Addr} {e__law_change : FuncData} {d__law_draw : List D → M Rv} {d__law_parts : List D → M Rv} {d__law_wrapped : List D → M Rv} {d__law_call : List D → M Rv} {d__law_shuffled : List D → M Rv} {d__law_arrays : List D → M Rv} {d__law_one_of : List D → M Rv} {d__law_change : List D → M Rv} (T__law_draw : FnI K mg "_law_draw" st__law_draw f__law_draw e__law_draw ["state", "most"]) (F__law_draw : FnOk P w K mg base CX0 k f__law_draw e__law_draw ["state", "most"] (sp K mg 2 d__law_draw)) (T__law_parts : FnI K mg "_law_parts" st__law_parts f__law_parts e__law_parts ["state", "many", "ring"]) (F__law_parts : FnOk P w K mg base CX0 k f__law_parts e__law_parts ["state", "many", "ring"] (sp K mg 3 d__law_parts)) (T__law_wrapped : FnI K mg "_law_wrapped" st__law_wrapped f__law_wrapped e__law_wrapped ["state", "statements"]) (F__law_wrapped : FnOk P w K mg base CX0 k f__law_wrapped e__law_wrapped ["state", "statements"] (sp K mg 2 d__law_wrapped)) (T__law_call : FnI K mg "_law_call" st__law_call f__law_call e__law_call ["callee", "passed"]) (F__law_call : FnOk P w K mg base CX0 k f__law_call e__law_call ["callee", "passed"] (sp K mg 2 d__law_call)) (T__law_shuffled : FnI K mg "_law_shuffled" st__law_shuffled f__law_shuffled e__law_shuffled ["state", "items"]) (F__law_shuffled : FnOk P w K mg base CX0 k f__law_shuffled e__law_shuffled ["state", "items"] (sp K mg 2 d__law_shuffled)) (T__law_arrays : FnI K mg "_law_arrays" st__law_arrays f__law_arrays e__law_arrays ["head"]) (F__law_arrays : FnOk P w K mg base CX0 k f__law_arrays e__law_arrays ["head"] (sp K mg 1 d__law_arrays)) (T__law_one_of : FnI K mg "_law_one_of" st__law_one_of f__law_one_of e__law_one_of ["state", "items"]) (F__law_one_of : FnOk P w K mg base CX0 k f__law_one_of e__law_one_of ["state", "items"] (sp K mg 2 d__law_one_of)) (T__law_change : FnI K mg "_law_change" st__law_change f__law_change e__law_change ["state", "x"]) (F__law_change : FnOk P w K mg base CX0 k f__law_change e__law_change ["state", "x"] (sp K mg 2 d__law_change)) (z_range : mg "range" = none) (z_int : mg "int" = none) (z_tuple : mg "tuple" = none) : FnOk P w K mg base CX0 (k + 1) f fd ["state"] (sp K mg 1 (den__law_core_of d__law_draw d__law_parts d__law_wrapped d__law_call d__law_shuffled d__law_arrays d__law_one_of d__law_change)) :=
  have sc := sc__law_core_of
  fn_mp (N := ["state", "many", "ring", "heads", "step", "alone", "core", "k", "head", "body", "j", "places", "own", "passed", "call", "change", "kind", "x"]) (r := r__law_core_of d__law_draw d__law_parts d__law_wrapped d__law_call d__law_shuffled d__law_arrays d__law_one_of d__law_change) F sc__law_core_of rfl fun cdv A outer s H E hr =>
  have hu := hr.units
  have hu1 := units1 hr
  (mss_cons (ms_set (i := 1) sc.nd rfl (by first | exact Or.inl rfl | exact Or.inr rfl) (me_bin op_addM opm_add me_int (me_callF T__law_draw F__law_draw hr rfl (ma_cons (me_var (pv 0)) (ma_cons (me_ix (me_fl (mf_lst (ma_cons me_int (ma_cons me_int (ma_cons me_int ma_nil))))) (me_callF T__law_draw F__law_draw hr rfl (ma_cons (me_var (pv 0)) (ma_cons me_int ma_nil)) rfl)) ma_nil)) rfl)))
  (mss_cons (ms_set (i := 2) sc.nd rfl (by first | exact Or.inl rfl | exact Or.inr rfl) (me_cmp (op_eqM hu) opm_eq (me_callF T__law_draw F__law_draw hr rfl (ma_cons (me_var (pv 0)) (ma_cons me_int ma_nil)) rfl) me_int (by first | exact nomark _ | rfl)))
  (mss_cons (ms_set (i := 3) sc.nd rfl (by first | exact Or.inl rfl | exact Or.inr rfl) (me_callF T__law_parts F__law_parts hr rfl (ma_cons (me_var (pv 0)) (ma_cons (me_var (pv 1)) (ma_cons (me_var (pv 2)) ma_nil))) rfl))
  (mss_cons (ms_set (i := 4) sc.nd rfl (by first | exact Or.inl rfl | exact Or.inr rfl) (me_ix (me_fl (mf_lst (ma_cons me_int (ma_cons (me_bin op_sub opm_sub (me_var (pv 1)) me_int) ma_nil)))) (me_callF T__law_draw F__law_draw hr rfl (ma_cons (me_var (pv 0)) (ma_cons me_int ma_nil)) rfl)))
  (mss_cons (ms_set (i := 5) sc.nd rfl (by first | exact Or.inl rfl | exact Or.inr rfl) (me_bin op_mulM opm_mul (me_callF T__law_draw F__law_draw hr rfl (ma_cons (me_var (pv 0)) (ma_cons me_int ma_nil)) rfl) (me_bin op_addM opm_add me_int (me_callF T__law_draw F__law_draw hr rfl (ma_cons (me_var (pv 0)) (ma_cons (me_var (pv 1)) ma_nil)) rfl))))
  (mss_cons (ms_set (i := 6) sc.nd rfl (by first | exact Or.inl rfl | exact Or.inr rfl) (me_new (mf_lst ma_nil)))
  (mss_cons (ms_for (fg := [7, 8, 9, 10, 11]) PassesOwn.never rfl (mi_range1 rfl z_range (ma_cons (me_var (pv 1)) ma_nil)) (mg_of (pg_name (i := 7) sc.nd rfl (by first | exact Or.inl rfl | exact Or.inr rfl)))
  (mss_cons (ms_set (i := 8) sc.nd rfl (by first | exact Or.inl rfl | exact Or.inr rfl) (me_ix (me_var (pv 3)) (me_var (pv 7))))
  (mss_cons (ms_set (i := 9) sc.nd rfl (by first | exact Or.inl rfl | exact Or.inr rfl) (me_tup ma_nil))
  (mss_cons (ms_if (mt_val (me_var (pv 2)))
  (mss_cons (ms_setC (i := 12) rfl sc.nd rfl rfl (sw_true rfl rfl (by decide +kernel) (by decide +kernel)) (mi_seq (me_ix (me_var (pv 8)) me_int)) (own := [("kind", 16), ("x", 17)]) (blkOk_by (N := ["state", "many", "ring", "heads", "step", "alone", "core", "k", "head", "body", "j", "places", "own", "passed", "call", "change", "kind", "x"]) (sc := defScope st__law_core_of) (by decide +kernel)) (by decide) (fun s H C cl fp => (mg_tup rfl (mgs_cons (mg_of (pg_name (i := 16) sc.nd rfl (by first | exact Or.inl rfl | exact Or.inr rfl))) (mgs_cons (mg_of (pg_name (i := 17) sc.nd rfl (by first | exact Or.inl rfl | exact Or.inr rfl))) mgs_nil)))) (fun s H C cl fp => (mts_one (mt_cmp (op_eqM hu) opm_eq (me_var (pv 16)) me_str (by first | exact nomark _ | rfl)))) (fun s H C cl fp => (me_var (pv 17))) fl_go)
  (mss_cons (ms_set (i := 13) sc.nd rfl (by first | exact Or.inl rfl | exact Or.inr rfl) (me_new (mf_cat (me_bin op_addM opm_add (me_slice (me_var (pv 12)) (mo_some me_int) mo_none) (me_slice (me_var (pv 12)) mo_none (mo_some me_int))) (me_fl (mf_comp rfl sc.nd (mi_seq (me_ix (me_var (pv 8)) me_int)) (own := [("kind", 16), ("x", 17)]) (blkOk_by (N := ["state", "many", "ring", "heads", "step", "alone", "core", "k", "head", "body", "j", "places", "own", "passed", "call", "change", "kind", "x"]) (sc := defScope st__law_core_of) (by decide +kernel)) (by decide) (fun s H C cl fp => (mg_tup rfl (mgs_cons (mg_of (pg_name (i := 16) sc.nd rfl (by first | exact Or.inl rfl | exact Or.inr rfl))) (mgs_cons (mg_of (pg_name (i := 17) sc.nd rfl (by first | exact Or.inl rfl | exact Or.inr rfl))) mgs_nil)))) (fun s H C cl fp => mts_nil) (fun s H C cl fp => (me_var (pv 17))))))))
  (mss_one (ms_set (i := 9) sc.nd rfl (by first | exact Or.inl rfl | exact Or.inr rfl) (me_callF T__law_wrapped F__law_wrapped hr rfl (ma_cons (me_var (pv 0)) (ma_cons (me_tup (ma_cons (me_callF T__law_call F__law_call hr rfl (ma_cons (me_ix (me_var (pv 3)) (me_bin op_mod opm_mod (me_callTy call_int1 callM_int rfl z_int (by decide +kernel) (ma_cons (me_bin op_addM opm_add (me_var (pv 7)) (me_var (pv 4))) ma_nil)) (me_var (pv 1)))) (ma_cons (me_var (pv 13)) ma_nil)) rfl) ma_nil)) ma_nil)) rfl)))))
  mss_nil)
  (mss_cons (ms_for (fg := [10, 14]) PassesOwn.never rfl (mi_range1 rfl z_range (ma_cons (me_callF T__law_draw F__law_draw hr rfl (ma_cons (me_var (pv 0)) (ma_cons me_int ma_nil)) rfl) ma_nil)) (mg_of (pg_name (i := 10) sc.nd rfl (by first | exact Or.inl rfl | exact Or.inr rfl)))
  (mss_cons (ms_set (i := 14) sc.nd rfl (by first | exact Or.inl rfl | exact Or.inr rfl) (me_callF T__law_call F__law_call hr rfl (ma_cons (me_callF T__law_one_of F__law_one_of hr rfl (ma_cons (me_var (pv 0)) (ma_cons (me_var (pv 3)) ma_nil)) rfl) (ma_cons (me_new (mf_callF T__law_shuffled F__law_shuffled hr rfl (ma_cons (me_var (pv 0)) (ma_cons (me_callF T__law_arrays F__law_arrays hr rfl (ma_cons (me_var (pv 8)) ma_nil) rfl) ma_nil)) rfl)) ma_nil)) rfl))
  (mss_one (ms_set (i := 9) sc.nd rfl (by first | exact Or.inl rfl | exact Or.inr rfl) (me_bin op_addM opm_add (me_var (pv 9)) (me_callF T__law_wrapped F__law_wrapped hr rfl (ma_cons (me_var (pv 0)) (ma_cons (me_tup (ma_cons (me_var (pv 14)) ma_nil)) ma_nil)) rfl))))))
  (mss_cons (ms_if (MW.mt (mw_or (mt_cmp (op_eqM hu) opm_eq (me_var (pv 5)) (me_bin op_addM opm_add (me_var (pv 7)) me_int) (by first | exact nomark _ | rfl)) (mw_or1 (MW.mt (mw_and (mt_cmp (op_eqM hu) opm_eq (me_var (pv 5)) me_int (by first | exact nomark _ | rfl)) (mw_and1 (mt_cmp (op_eqM hu) opm_eq (me_callF T__law_draw F__law_draw hr rfl (ma_cons (me_var (pv 0)) (ma_cons me_int ma_nil)) rfl) me_int (by first | exact nomark _ | rfl))))))))
  (mss_cons (ms_set (i := 15) sc.nd rfl (by first | exact Or.inl rfl | exact Or.inr rfl) (me_callF T__law_wrapped F__law_wrapped hr rfl (ma_cons (me_var (pv 0)) (ma_cons (me_tup (ma_cons (me_callF T__law_change F__law_change hr rfl (ma_cons (me_var (pv 0)) (ma_cons (me_callF T__law_one_of F__law_one_of hr rfl (ma_cons (me_var (pv 0)) (ma_cons (me_callF T__law_arrays F__law_arrays hr rfl (ma_cons (me_var (pv 8)) ma_nil) rfl) ma_nil)) rfl) ma_nil)) rfl) ma_nil)) ma_nil)) rfl))
  (mss_one (ms_set (i := 9) sc.nd rfl (by first | exact Or.inl rfl | exact Or.inr rfl) (me_ix (me_fl (mf_lst (ma_cons (me_bin op_addM opm_add (me_var (pv 15)) (me_var (pv 9))) (ma_cons (me_bin op_addM opm_add (me_var (pv 9)) (me_var (pv 15))) ma_nil)))) (me_callF T__law_draw F__law_draw hr rfl (ma_cons (me_var (pv 0)) (ma_cons me_int ma_nil)) rfl)))))
  mss_nil)
  (mss_cons (ms_set (i := 11) sc.nd rfl (by first | exact Or.inl rfl | exact Or.inr rfl) (me_callTy call_tuple_of callM_tuple rfl z_tuple (by decide +kernel) (ma_cons (me_bin op_addM opm_add (me_ix (me_var (pv 8)) me_int) (me_fl (mf_lst (ma_cons (me_tup (ma_cons me_str (ma_cons me_str ma_nil))) (ma_cons (me_tup (ma_cons me_str (ma_cons me_str ma_nil))) ma_nil))))) ma_nil)))
  (mss_one (ms_expr (me_lmeth PySem.F.slot_list_append PySem.F.type_list_append mt_append methM_append (me_var (pv 6)) (ma_cons (me_tup (ma_cons (me_ix (me_var (pv 8)) me_int) (ma_cons (me_callTy call_tuple_of callM_tuple rfl z_tuple (by decide +kernel) (ma_cons (me_ix (me_var (pv 8)) me_int) ma_nil)) (ma_cons (me_tup ma_nil) (ma_cons (me_var (pv 11)) (ma_cons (me_tup ma_nil) (ma_cons (me_tup ma_nil) (ma_cons (me_tup ma_nil) (ma_cons (me_tup ma_nil) (ma_cons (me_var (pv 9)) ma_nil)))))))))) ma_nil)))))))))))
  (mss_one (ms_ret (me_callTy call_tuple_of callM_tuple rfl z_tuple (by decide +kernel) (ma_cons (me_var (pv 6)) ma_nil)))))))))))
abbrev st__law_links : Stmt := top 24
theorem sc__law_links : FnScope ["core", "found", "p", "s", "callee", "k", "q"] ["core"] (defScope st__law_links) := ⟨rfl, rfl, rfl, by decide +kernel, rfl, by decide +kernel, by decide +kernel⟩
/-- names: 0 core, 1 found, 2 p, 3 s, 4 callee, 5 k, 6 q -/
noncomputable def r__law_links (d__law_statements : List D → M Rv) : MP.Env → M Fl :=
  (sSeq (sSet 1 (eNew (aList aNil)))
  (sSeq (sFor (eWalk (eVar 0)) (asgN 2)
  (sFor (eWalk (eCall (lenD 1 d__law_statements) (aCons (eBin gIx (eVar 2) (eC (.int 8))) aNil))) (asgN 3)
  (eIf (eB (eBin (gEq false) (eBin gIx (eVar 3) (eC (.int 0))) (eC (.str "call"))))
  (sSeq (sSet 4 (eBin gIx (eFl (fComp (eWalk (eVar 0)) (asgN 6) (eB (eBin (gEq false) (eBin gIx (eVar 6) (eC (.int 0))) (eBin gIx (eVar 3) (eC (.int 1))))) (eVar 6) [6])) (eC (.int 0))))
  (sFor (wThen wRng1 (aCons (aThen (g1 gLen) (aCons (eBin gIx (eVar 3) (eC (.int 2))) aNil)) aNil)) (asgN 5)
  (eIf (eB (eBin (gEq false) (eBin gIx (eBin gIx (eBin gIx (eVar 3) (eC (.int 2))) (eVar 5)) (eC (.int 0))) (eC (.str "array"))))
  (sExpr (eMeth lstK gAppend (eVar 1) (aCons (aThen gTup (aCons (aThen gTup (aCons (eBin gIx (eVar 4) (eC (.int 0))) (aCons (eBin gIx (eBin gIx (eBin gIx (eVar 4) (eC (.int 1))) (eVar 5)) (eC (.int 1))) aNil))) (aCons (aThen gTup (aCons (eBin gIx (eVar 2) (eC (.int 0))) (aCons (eBin gIx (eBin gIx (eBin gIx (eVar 3) (eC (.int 2))) (eVar 5)) (eC (.int 1))) aNil))) aNil))) aNil)))
  sNext) [5]))
  sNext) [3]) [2, 3])
  (sRet (eVar 1))))
noncomputable def den__law_links (d__law_statements : List D → M Rv) : List D → M Rv := fun ds => noX (runB 7 (r__law_links d__law_statements) ds)
theorem mp__law_links {k : Nat} {f : Addr} {fd : FuncData} (F : Fun K "_law_links" "_law_links" st__law_links f fd) {f__law_statements : Addr} {e__law_statements : FuncData} {d__law_statements : List D → M Rv} (T__law_statements : FnI K mg "_law_statements" st__law_statements f__law_statements e__law_statements ["body"]) (F__law_statements : FnOk P w K mg base CX0 k f__law_statements e__law_statements ["body"] (sp K mg 1 d__law_statements)) (z_range : mg "range" = none) (z_len : mg "len" = none) : FnOk P w K mg base CX0 (k + 1) f fd ["core"] (sp K mg 1 (den__law_links d__law_statements)) :=
  have sc := sc__law_links
  fn_mp (N := ["core", "found", "p", "s", "callee", "k", "q"]) (r := r__law_links d__law_statements) F sc__law_links rfl fun cdv A outer s H E hr =>
  have hu := hr.units
  have hu1 := units1 hr
  (mss_cons (ms_set (i := 1) sc.nd rfl (by first | exact Or.inl rfl | exact Or.inr rfl) (me_new (mf_lst ma_nil)))
  (mss_cons (ms_for (fg := [2, 3]) PassesOwn.never rfl (mi_seq (me_var (pv 0))) (mg_of (pg_name (i := 2) sc.nd rfl (by first | exact Or.inl rfl | exact Or.inr rfl)))
  (mss_one (ms_for (fg := [3]) PassesOwn.never rfl (mi_seq (me_callF T__law_statements F__law_statements hr rfl (ma_cons (me_ix (me_var (pv 2)) me_int) ma_nil) rfl)) (mg_of (pg_name (i := 3) sc.nd rfl (by first | exact Or.inl rfl | exact Or.inr rfl)))
  (mss_one (ms_if (mt_cmp (op_eqM hu) opm_eq (me_ix (me_var (pv 3)) me_int) me_str (by first | exact nomark _ | rfl))
  (mss_cons (ms_set (i := 4) sc.nd rfl (by first | exact Or.inl rfl | exact Or.inr rfl) (me_ix (me_fl (mf_comp rfl sc.nd (mi_seq (me_var (pv 0))) (own := [("q", 6)]) (blkOk_by (N := ["core", "found", "p", "s", "callee", "k", "q"]) (sc := defScope st__law_links) (by decide +kernel)) (by decide) (fun s H C cl fp => (mg_of (pg_name (i := 6) sc.nd rfl (by first | exact Or.inl rfl | exact Or.inr rfl)))) (fun s H C cl fp => (mts_one (mt_cmp (op_eqM hu) opm_eq (me_ix (me_var (pv 6)) me_int) (me_ix (me_var (pv 3)) me_int) (by first | exact nomark _ | rfl)))) (fun s H C cl fp => (me_var (pv 6))))) me_int))
  (mss_one (ms_for (fg := [5]) PassesOwn.never rfl (mi_range1 rfl z_range (ma_cons (me_callB call_lenM callM_len rfl z_len PySem.boot_len (ma_cons (me_ix (me_var (pv 3)) me_int) ma_nil)) ma_nil)) (mg_of (pg_name (i := 5) sc.nd rfl (by first | exact Or.inl rfl | exact Or.inr rfl)))
  (mss_one (ms_if (mt_cmp (op_eqM hu) opm_eq (me_ix (me_ix (me_ix (me_var (pv 3)) me_int) (me_var (pv 5))) me_int) me_str (by first | exact nomark _ | rfl))
  (mss_one (ms_expr (me_lmeth PySem.F.slot_list_append PySem.F.type_list_append mt_append methM_append (me_var (pv 1)) (ma_cons (me_tup (ma_cons (me_tup (ma_cons (me_ix (me_var (pv 4)) me_int) (ma_cons (me_ix (me_ix (me_ix (me_var (pv 4)) me_int) (me_var (pv 5))) me_int) ma_nil))) (ma_cons (me_tup (ma_cons (me_ix (me_var (pv 2)) me_int) (ma_cons (me_ix (me_ix (me_ix (me_var (pv 3)) me_int) (me_var (pv 5))) me_int) ma_nil))) ma_nil))) ma_nil))))
  mss_nil)))))
  mss_nil)))))
  (mss_one (ms_ret (me_var (pv 1))))))
abbrev st__law_reached : Stmt := top 25
theorem sc__law_reached : FnScope ["core", "links", "found", "p", "k", "s", "source", "target"] ["core"] (defScope st__law_reached) := ⟨rfl, rfl, rfl, by decide +kernel, rfl, by decide +kernel, by decide +kernel⟩
/-- names: 0 core, 1 links, 2 found, 3 p, 4 k, 5 s, 6 source, 7 target -/
noncomputable def r__law_reached (d__law_links : List D → M Rv) (d__law_statements : List D → M Rv) : MP.Env → M Fl :=
  (sSeq (sSet 1 (eCall (lenD 1 d__law_links) (aCons (eVar 0) aNil)))
  (sSeq (sSet 2 (eNew (aList aNil)))
  (sSeq (sFor (eWalk (eVar 0)) (asgN 3)
  (sFor (eWalk (eCall (lenD 1 d__law_statements) (aCons (eBin gIx (eVar 3) (eC (.int 8))) aNil))) (asgN 5)
  (eIf (eB (eBin (gEq false) (eBin gIx (eVar 5) (eC (.int 0))) (eC (.str "store"))))
  (sExpr (eMeth lstK gAppend (eVar 2) (aCons (aThen gTup (aCons (eBin gIx (eVar 3) (eC (.int 0))) (aCons (eBin gIx (eVar 5) (eC (.int 1))) aNil))) aNil)))
  (eIf (bOr (eB (eBin (gEq false) (eBin gIx (eVar 5) (eC (.int 0))) (eC (.str "push")))) (eB (eBin (gEq false) (eBin gIx (eVar 5) (eC (.int 0))) (eC (.str "pop")))))
  (sExpr (eMeth lstK gAppend (eVar 2) (aCons (aThen gTup (aCons (eBin gIx (eVar 3) (eC (.int 0))) (aCons (eBin gIx (eVar 5) (eC (.int 2))) aNil))) aNil)))
  sNext)) [5]) [3, 5])
  (sSeq (sFor (wThen wRng1 (aCons (eC (.int 400)) aNil)) (asgN 4)
  (sSeq (eIf (eB (eBin gGe (eVar 4) (aThen (g1 gLen) (aCons (eVar 2) aNil))))
  (sRet (eVar 2))
  sNext)
  (sFor (eWalk (eVar 1)) (asgT 2 (asgCons (asgN 6) (asgCons (asgN 7) asgNil)))
  (eIf (bAnd (eB (eBin (gEq false) (eVar 6) (eBin gIx (eVar 2) (eVar 4)))) (eB (eBin (gIn true) (eVar 7) (eVar 2))))
  (sExpr (eMeth lstK gAppend (eVar 2) (aCons (eVar 7) aNil)))
  sNext) [6, 7])) [4, 6, 7])
  (sRet (eVar 2))))))
noncomputable def den__law_reached (d__law_links : List D → M Rv) (d__law_statements : List D → M Rv) : List D → M Rv := fun ds => noX (runB 8 (r__law_reached d__law_links d__law_statements) ds)
theorem mp__law_reached {k : Nat} {f : Addr} {fd : FuncData} (F : Fun K "_law_reached" "_law_reached" st__law_reached f fd) {f__law_links : Addr} {e__law_links : FuncData} {f__law_statements : Addr} {e__law_statements : FuncData} {d__law_links : List D → M Rv} {d__law_statements : List D → M Rv} (T__law_links : FnI K mg "_law_links" st__law_links f__law_links e__law_links ["core"]) (F__law_links : FnOk P w K mg base CX0 k f__law_links e__law_links ["core"] (sp K mg 1 d__law_links)) (T__law_statements : FnI K mg "_law_statements" st__law_statements f__law_statements e__law_statements ["body"]) (F__law_statements : FnOk P w K mg base CX0 k f__law_statements e__law_statements ["body"] (sp K mg 1 d__law_statements)) (z_range : mg "range" = none) (z_len : mg "len" = none) : FnOk P w K mg base CX0 (k + 1) f fd ["core"] (sp K mg 1 (den__law_reached d__law_links d__law_statements)) :=
  have sc := sc__law_reached
  fn_mp (N := ["core", "links", "found", "p", "k", "s", "source", "target"]) (r := r__law_reached d__law_links d__law_statements) F sc__law_reached rfl fun cdv A outer s H E hr =>
  have hu := hr.units
  have hu1 := units1 hr
  (mss_cons (ms_set (i := 1) sc.nd rfl (by first | exact Or.inl rfl | exact Or.inr rfl) (me_callF T__law_links F__law_links hr rfl (ma_cons (me_var (pv 0)) ma_nil) rfl))
  (mss_cons (ms_set (i := 2) sc.nd rfl (by first | exact Or.inl rfl | exact Or.inr rfl) (me_new (mf_lst ma_nil)))
  (mss_cons (ms_for (fg := [3, 5]) PassesOwn.never rfl (mi_seq (me_var (pv 0))) (mg_of (pg_name (i := 3) sc.nd rfl (by first | exact Or.inl rfl | exact Or.inr rfl)))
  (mss_one (ms_for (fg := [5]) PassesOwn.never rfl (mi_seq (me_callF T__law_statements F__law_statements hr rfl (ma_cons (me_ix (me_var (pv 3)) me_int) ma_nil) rfl)) (mg_of (pg_name (i := 5) sc.nd rfl (by first | exact Or.inl rfl | exact Or.inr rfl)))
  (mss_one (ms_if (mt_cmp (op_eqM hu) opm_eq (me_ix (me_var (pv 5)) me_int) me_str (by first | exact nomark _ | rfl))
  (mss_one (ms_expr (me_lmeth PySem.F.slot_list_append PySem.F.type_list_append mt_append methM_append (me_var (pv 2)) (ma_cons (me_tup (ma_cons (me_ix (me_var (pv 3)) me_int) (ma_cons (me_ix (me_var (pv 5)) me_int) ma_nil))) ma_nil))))
  (mss_one (ms_if (MW.mt (mw_or (mt_cmp (op_eqM hu) opm_eq (me_ix (me_var (pv 5)) me_int) me_str (by first | exact nomark _ | rfl)) (mw_or1 (mt_cmp (op_eqM hu) opm_eq (me_ix (me_var (pv 5)) me_int) me_str (by first | exact nomark _ | rfl)))))
  (mss_one (ms_expr (me_lmeth PySem.F.slot_list_append PySem.F.type_list_append mt_append methM_append (me_var (pv 2)) (ma_cons (me_tup (ma_cons (me_ix (me_var (pv 3)) me_int) (ma_cons (me_ix (me_var (pv 5)) me_int) ma_nil))) ma_nil))))
  mss_nil)))))))
  (mss_cons (ms_for (fg := [4, 6, 7]) PassesOwn.never rfl (mi_range1 rfl z_range (ma_cons me_int ma_nil)) (mg_of (pg_name (i := 4) sc.nd rfl (by first | exact Or.inl rfl | exact Or.inr rfl)))
  (mss_cons (ms_if (mt_cmp op_geM opm_ord (me_var (pv 4)) (me_callB call_lenM callM_len rfl z_len PySem.boot_len (ma_cons (me_var (pv 2)) ma_nil)) (by first | exact nomark _ | rfl))
  (mss_one (ms_ret (me_var (pv 2))))
  mss_nil)
  (mss_one (ms_for (fg := [6, 7]) PassesOwn.never rfl (mi_seq (me_var (pv 1))) (mg_tup rfl (mgs_cons (mg_of (pg_name (i := 6) sc.nd rfl (by first | exact Or.inl rfl | exact Or.inr rfl))) (mgs_cons (mg_of (pg_name (i := 7) sc.nd rfl (by first | exact Or.inl rfl | exact Or.inr rfl))) mgs_nil)))
  (mss_one (ms_if (MW.mt (mw_and (mt_cmp (op_eqM hu) opm_eq (me_var (pv 6)) (me_ix (me_var (pv 2)) (me_var (pv 4))) (by first | exact nomark _ | rfl)) (mw_and1 (mt_cmp (op_notInM hu) opm_in (me_var (pv 7)) (me_var (pv 2)) (by first | exact nomark _ | rfl)))))
  (mss_one (ms_expr (me_lmeth PySem.F.slot_list_append PySem.F.type_list_append mt_append methM_append (me_var (pv 2)) (ma_cons (me_var (pv 7)) ma_nil))))
  mss_nil))))))
  (mss_one (ms_ret (me_var (pv 2))))))))
abbrev st_law : Stmt := top 26
theorem sc_law : FnScope ["script", "state", "core", "found", "p", "due", "kind", "x"] ["script"] (defScope st_law) := ⟨rfl, rfl, rfl, by decide +kernel, rfl, by decide +kernel, by decide +kernel⟩
/-- names: 0 script, 1 state, 2 core, 3 found, 4 p, 5 due, 6 kind, 7 x -/
noncomputable def r_law (d__law_start : List D → M Rv) (d__law_core_of : List D → M Rv) (d__law_reached : List D → M Rv) (d__law_same : List D → M Rv) (d_touched_of : List D → M Rv) : MP.Env → M Fl :=
  (sSeq (sSet 1 (eNew (fCall (lenD 1 d__law_start) (aCons (eVar 0) aNil))))
  (sSeq (sSet 2 (eCall (lenD 1 d__law_core_of) (aCons (eVar 1) aNil)))
  (sSeq (sSet 3 (eCall (lenD 1 d__law_reached) (aCons (eVar 2) aNil)))
  (sSeq (sFor (eWalk (eVar 2)) (asgN 4)
  (sSeq (sSet 5 (aThen (g1 gTuple) (aCons (eFl (fComp (eWalk (eBin gIx (eVar 4) (eC (.int 1)))) (asgT 2 (asgCons (asgN 6) (asgCons (asgN 7) asgNil))) (bAnd (eB (eBin (gEq false) (eVar 6) (eC (.str "array")))) (eB (eBin (gIn false) (aThen gTup (aCons (eBin gIx (eVar 4) (eC (.int 0))) (aCons (eVar 7) aNil))) (eVar 3)))) (eVar 7) [6, 7])) aNil)))
  (eIf (bNot (eB (eCall (lenD 2 d__law_same) (aCons (eCall (lenD 2 d_touched_of) (aCons (eVar 2) (aCons (eBin gIx (eVar 4) (eC (.int 0))) aNil))) (aCons (eVar 5) aNil)))))
  (sRet (eC (.bl false)))
  sNext)) [4, 5])
  (sRet (eC (.bl true)))))))
noncomputable def den_law (d__law_start : List D → M Rv) (d__law_core_of : List D → M Rv) (d__law_reached : List D → M Rv) (d__law_same : List D → M Rv) (d_touched_of : List D → M Rv) : List D → M Rv := fun ds => noX (runB 8 (r_law d__law_start d__law_core_of d__law_reached d__law_same d_touched_of) ds)
theorem mp_law {k : Nat} {f : Addr} {fd : FuncData} (F : Fun K "law" "law" st_law f fd) {f__law_start : Addr} {e__law_start : FuncData} {f__law_core_of : Addr} {e__law_core_of : FuncData} {f__law_reached : Addr} {e__law_reached : FuncData} {f__law_same : Addr} {e__law_same : FuncData} {f_touched_of : Addr} {e_touched_of : FuncData} {d__law_start : List D → M Rv} {d__law_core_of : List D → M Rv} {d__law_reached : List D → M Rv} {d__law_same : List D → M Rv} {d_touched_of : List D → M Rv} (T__law_start : FnI K mg "_law_start" st__law_start f__law_start e__law_start ["script"]) (F__law_start : FnOk P w K mg base CX0 k f__law_start e__law_start ["script"] (sp K mg 1 d__law_start)) (T__law_core_of : FnI K mg "_law_core_of" st__law_core_of f__law_core_of e__law_core_of ["state"]) (F__law_core_of : FnOk P w K mg base CX0 k f__law_core_of e__law_core_of ["state"] (sp K mg 1 d__law_core_of)) (T__law_reached : FnI K mg "_law_reached" st__law_reached f__law_reached e__law_reached ["core"]) (F__law_reached : FnOk P w K mg base CX0 k f__law_reached e__law_reached ["core"] (sp K mg 1 d__law_reached)) (T__law_same : FnI K mg "_law_same" st__law_same f__law_same e__law_same ["x", "y"]) (F__law_same : FnOk P w K mg base CX0 k f__law_same e__law_same ["x", "y"] (sp K mg 2 d__law_same)) (T_touched_of : FnI K mg "touched_of" st_touched_of f_touched_of e_touched_of ["core", "name"]) (F_touched_of : FnOk P w K mg base CX0 k f_touched_of e_touched_of ["core", "name"] (sp K mg 2 d_touched_of)) (z_tuple : mg "tuple" = none) : FnOk P w K mg base CX0 (k + 1) f fd ["script"] (sp K mg 1 (den_law d__law_start d__law_core_of d__law_reached d__law_same d_touched_of)) :=
  have sc := sc_law
  fn_mp (N := ["script", "state", "core", "found", "p", "due", "kind", "x"]) (r := r_law d__law_start d__law_core_of d__law_reached d__law_same d_touched_of) F sc_law rfl fun cdv A outer s H E hr =>
  have hu := hr.units
  have hu1 := units1 hr
  (mss_cons (ms_set (i := 1) sc.nd rfl (by first | exact Or.inl rfl | exact Or.inr rfl) (me_new (mf_callF T__law_start F__law_start hr rfl (ma_cons (me_var (pv 0)) ma_nil) rfl)))
  (mss_cons (ms_set (i := 2) sc.nd rfl (by first | exact Or.inl rfl | exact Or.inr rfl) (me_callF T__law_core_of F__law_core_of hr rfl (ma_cons (me_var (pv 1)) ma_nil) rfl))
  (mss_cons (ms_set (i := 3) sc.nd rfl (by first | exact Or.inl rfl | exact Or.inr rfl) (me_callF T__law_reached F__law_reached hr rfl (ma_cons (me_var (pv 2)) ma_nil) rfl))
  (mss_cons (ms_for (fg := [4, 5]) PassesOwn.never rfl (mi_seq (me_var (pv 2))) (mg_of (pg_name (i := 4) sc.nd rfl (by first | exact Or.inl rfl | exact Or.inr rfl)))
  (mss_cons (ms_set (i := 5) sc.nd rfl (by first | exact Or.inl rfl | exact Or.inr rfl) (me_callTy call_tuple_of callM_tuple rfl z_tuple (by decide +kernel) (ma_cons (me_fl (mf_comp rfl sc.nd (mi_seq (me_ix (me_var (pv 4)) me_int)) (own := [("kind", 6), ("x", 7)]) (blkOk_by (N := ["script", "state", "core", "found", "p", "due", "kind", "x"]) (sc := defScope st_law) (by decide +kernel)) (by decide) (fun s H C cl fp => (mg_tup rfl (mgs_cons (mg_of (pg_name (i := 6) sc.nd rfl (by first | exact Or.inl rfl | exact Or.inr rfl))) (mgs_cons (mg_of (pg_name (i := 7) sc.nd rfl (by first | exact Or.inl rfl | exact Or.inr rfl))) mgs_nil)))) (fun s H C cl fp => (mts_one (MW.mt (mw_and (mt_cmp (op_eqM hu) opm_eq (me_var (pv 6)) me_str (by first | exact nomark _ | rfl)) (mw_and1 (mt_cmp (op_inM hu) opm_in (me_tup (ma_cons (me_ix (me_var (pv 4)) me_int) (ma_cons (me_var (pv 7)) ma_nil))) (me_var (pv 3)) (by first | exact nomark _ | rfl))))))) (fun s H C cl fp => (me_var (pv 7))))) ma_nil)))
  (mss_one (ms_if (mt_not (mt_val (me_callF T__law_same F__law_same hr rfl (ma_cons (me_callF T_touched_of F_touched_of hr rfl (ma_cons (me_var (pv 2)) (ma_cons (me_ix (me_var (pv 4)) me_int) ma_nil)) rfl) (ma_cons (me_var (pv 5)) ma_nil)) rfl)))
  (mss_one (ms_ret me_bl))
  mss_nil))))
  (mss_one (ms_ret me_bl))))))
end
end K01
namespace MP
open PySem L2 PyProof.Rows
theorem loopF_step {asg : D → Env → M Env} {body : Env → M Fl} {fg : List Nat} {d : D} {ds : List D} {env env1 e : Env} {mu mu1 : List MO} (h1 : asg d (wipeE env fg) mu = .ok env1 mu) (h2 : body env1 mu = .ok (.nx e) mu1) : loopF asg body fg [] (d :: ds) env mu = loopF asg body fg [] ds e mu1 := by
  rw [loopF_cons]
  simp [h1, h2]
@[simp] theorem rdM_fl {xs : List D} {mu : List MO} : rdM (.fl xs) mu = .ok xs mu := rfl
@[simp] theorem rdM_ref {n : Nat} {mu : List MO} : rdM (.ref n) mu = atL mu n := rfl
theorem cutD_take {xs : List D} {k : Nat} : MP.cutD xs none (some (k : Int)) = xs.take k := by
  unfold MP.cutD
  rw [HT.sIx_none, HT.sIx_nat]
  simp
theorem cutD_drop {xs : List D} {k : Nat} : MP.cutD xs (some (k : Int)) none = xs.drop k := by
  unfold MP.cutD
  rw [HT.sIx_nat, HT.sIx_none]
  by_cases h : k ≤ xs.length
  · rw [Nat.min_eq_left h]
    exact List.take_of_length_le (by rw [List.length_drop]; omega)
  · rw [Nat.min_eq_right (by omega), List.drop_eq_nil_of_le (Nat.le_refl _), List.drop_eq_nil_of_le (by omega)]
    simp
@[simp] theorem gSl_tup {xs : List D} {lo hi : Option Int} {mu : List MO} : gSl (.tup xs) lo hi mu = .ok (.tup (MP.cutD xs lo hi)) mu := rfl
theorem gEq_strs {neg : Bool} {x y : Str} {mu : List MO} : gEq neg (.str x) (.str y) mu = .ok (.bl ((x == y) != neg)) mu := by
  unfold gEq
  simp [okE, dep, eqD]
theorem extend_ok {n : Nat} {xs ys : List D} {d : D} {mu : List MO} (h : mu[n]? = some (.lst xs)) (hd : rdM d mu = .ok ys mu) (hz : xs.length + ys.length ≤ sizeLine) : gExtend (.ref n) [d] mu = .ok .non (mu.set n (.lst (xs ++ ys))) := by
  show (rdM d >>= fun zs => modL n fun xs => if xs.length + zs.length ≤ sizeLine then some (xs ++ zs, .non) else none) mu = _
  rw [bind_ap, hd]
  exact modL_at h (by rw [if_pos hz])
mutual
theorem Clo.mono {k k' : Nat} (h : k ≤ k') : ∀ (d : D), Clo k d → Clo k' d
  | .non, _ => Clo.non
  | .bl _, _ => Clo.bl
  | .int _, _ => Clo.int
  | .str _, _ => Clo.str
  | .tup xs, c => Clo.tup.mpr (Clos.mono h xs (Clo.tup.mp c))
  | .fl xs, c => Clo.fl.mpr (Clos.mono h xs (Clo.fl.mp c))
  | .ro xs, c => Clo.ro.mpr (Clos.mono h xs (Clo.ro.mp c))
  | .fd ks xs, c => Clo.fd.mpr (Clos.mono h xs (Clo.fd.mp c))
  | .ref n, c => Clo.ref.mpr (Nat.lt_of_lt_of_le (Clo.ref.mp c) h)
theorem Clos.mono {k k' : Nat} (h : k ≤ k') : ∀ (ds : List D), Clos k ds → Clos k' ds
  | [], _ => Clos.nil
  | d :: ds, c => Clos.cons (Clo.mono h d c.inv.1) (Clos.mono h ds c.inv.2)
end
theorem CloO.mono {k k' : Nat} (h : k ≤ k') {o : MO} (c : CloO k o) : CloO k' o := by
  cases o with
  | lst xs => exact Clos.mono h xs c
  | dk kvs => exact Clos.mono h _ c
theorem CloH.snoc {mu : List MO} {o : MO} (h : CloH mu) (ho : CloO (mu.length + 1) o) : CloH (mu ++ [o]) := fun x hx => by
  have e : (mu ++ [o]).length = mu.length + 1 := by simp
  rw [e]
  rcases List.mem_append.mp hx with z | z
  · exact (h x z).mono (by omega)
  · rw [List.mem_singleton.mp z]; exact ho
theorem CloH.snoc_flat {mu : List MO} {xs : List D} (h : CloH mu) (hf : flats xs = true) : CloH (mu ++ [.lst xs]) := h.snoc (show CloO _ (.lst xs) from flats_clo xs hf)
theorem strs_flat (ns : List Str) : flats (ns.map D.str) = true := flats_of fun d hd => by
  obtain ⟨z, _, e⟩ := List.mem_map.mp hd
  rw [← e]; rfl
theorem flats_app {xs ys : List D} (h : flats xs = true) (h' : flats ys = true) : flats (xs ++ ys) = true := flats_of fun d hd => (List.mem_append.mp hd).elim (flats_mem h d) (flats_mem h' d)
/-- lists of flat data, whatever stands in them -/
def FlO (ex : List MO) : Prop := ∀ o ∈ ex, ∃ xs, o = .lst xs ∧ flats xs = true
theorem FlO.nil : FlO [] := fun o h => by cases h
theorem FlO.app {a b : List MO} (h : FlO a) (h' : FlO b) : FlO (a ++ b) := fun o ho => (List.mem_append.mp ho).elim (h o) (h' o)
theorem FlO.one {xs : List D} (h : flats xs = true) : FlO [.lst xs] := fun o ho => ⟨xs, List.mem_singleton.mp ho, h⟩
theorem CloH.flo {mu ex : List MO} (h : CloH mu) (hf : FlO ex) : CloH (mu ++ ex) := fun o ho => by
  rcases List.mem_append.mp ho with z | z
  · exact (h o z).mono (by simp)
  · obtain ⟨xs, rfl, hx⟩ := hf o z
    exact flats_clo xs hx
end MP
namespace K01
open PySem L2 PyProof.Rows MP
inductive Sb where
  | store (x : Str) (i : Int) | push (i : Int) (x : Str) | pop (x : Str) | call (c : Str) (args : List (Option Str))
inductive Wr where
  | no | whl (k : Int) | if1 (k : Int) | if2 (k : Int)
def numD (i : Int) : D := .tup [.str "number", .int i]
def argD : Option Str → D
  | some x => .tup [.str "array", .str x]
  | none => numD 3
def sbD : Sb → D
  | .store x i => .tup [.str "store", .str x, numD 0, numD i]
  | .push i x => .tup [.str "push", numD i, .str x]
  | .pop x => .tup [.str "pop", .str "z_z", .str x]
  | .call c as => .tup [.str "call", .str c, .tup (as.map argD), .tup []]
def testD (k : Int) : D := .tup [.str "less", numD k, .tup [.str "length", .str "w_w"]]
def pauseD : D := .tup [.str "pause"]
def whD (k : Int) (b : Sb) : D := .tup [.str "while", testD k, .tup [sbD b]]
def topD : Wr × Sb → D
  | (.no, b) => sbD b
  | (.whl k, b) => whD k b
  | (.if1 k, b) => .tup [.str "if", testD k, .tup [sbD b], .tup [pauseD]]
  | (.if2 k, b) => .tup [.str "if", testD k, .tup [], .tup [whD k b]]
/-- the statements of one -/
def flatS : Wr × Sb → List D
  | (.no, b) => [sbD b]
  | (.whl k, b) => [whD k b, sbD b]
  | (.if1 k, b) => [topD (.if1 k, b), sbD b, pauseD]
  | (.if2 k, b) => [topD (.if2 k, b), whD k b, sbD b]
theorem argD_flat (a : Option Str) : flat (argD a) = true := by cases a <;> rfl
theorem args_flat (as : List (Option Str)) : flats (as.map argD) = true := flats_of fun d hd => by
  obtain ⟨a, _, e⟩ := List.mem_map.mp hd
  rw [← e]; exact argD_flat a
theorem sbD_flat (b : Sb) : flat (sbD b) = true := by
  cases b with
  | call c as => simp [sbD, flat, flats, args_flat]
  | _ => rfl
theorem topD_flat (t : Wr × Sb) : flat (topD t) = true := by
  obtain ⟨w, b⟩ := t
  have := sbD_flat b
  cases w <;> simp [topD, whD, testD, numD, pauseD, flat, flats, this]
theorem flatS_flat (t : Wr × Sb) : flats (flatS t) = true := by
  obtain ⟨w, b⟩ := t
  have h := sbD_flat b
  have h1 := topD_flat (w, b)
  cases w <;> simp [flatS, flats, h, h1, whD, testD, numD, pauseD, flat]
  all_goals simpa [topD, whD, testD, numD, flat, flats, h] using h1
def sbK : Sb → Str
  | .store _ _ => "store"
  | .push _ _ => "push"
  | .pop _ => "pop"
  | .call _ _ => "call"
theorem sbD_head (b : Sb) : ∃ r, sbD b = .tup (.str (sbK b) :: r) := by cases b <;> exact ⟨_, rfl⟩
theorem sbK_no (b : Sb) : (sbK b == Str.ofString "if") = false ∧ (sbK b == Str.ofString "while") = false := by cases b <;> exact ⟨rfl, rfl⟩
/-- a statement without blocks -/
def Plain (d : D) : Prop := ∃ k r, d = .tup (.str k :: r) ∧ (k == Str.ofString "if") = false ∧ (k == Str.ofString "while") = false
theorem sb_plain (b : Sb) : Plain (sbD b) := by
  obtain ⟨r, e⟩ := sbD_head b
  exact ⟨_, r, e, sbK_no b⟩
theorem pause_plain : Plain pauseD := ⟨_, _, rfl, by decide +kernel, by decide +kernel⟩
/-! ### statements_in -/
noncomputable def stmtL : Nat → List D → M Rv
  | 0 => fun _ _ => .bad
  | n + 1 => fgt (den_statements_in (stmtL n))
noncomputable def stIn (ds : List D → M Rv) : MP.Env → M Fl := sExpr (eMeth lstK gExtend (eVar 1) (aCons (eCall (lenD 1 ds) (aCons (eVar 3) aNil)) aNil))
noncomputable def stBody (ds : List D → M Rv) : MP.Env → M Fl := (sSeq (sExpr (eMeth lstK gAppend (eVar 1) (aCons (eVar 2) aNil)))
  (eIf (eB (eBin (gIn false) (eBin gIx (eVar 2) (eC (.int 0))) (aThen gTup (aCons (eC (.str "if")) (aCons (eC (.str "while")) aNil)))))
  (sFor (eWalk (eSl (eVar 2) (oSome (eC (.int 2))) oNone)) (asgN 3) (stIn ds) [3])
  sNext))
/-- what one statement gives -/
def Gives (ds : List D → M Rv) (d : D) (xs : List D) : Prop := ∀ (c : D) (n : Nat) (o3 : Option D) (mu1 : List MO) (acc : List D), n = mu1.length → CloH mu1 → flats acc = true → acc.length + xs.length < 100000 →
  ∃ o3', stBody ds [some c, some (.ref n), some d, o3] (mu1 ++ [.lst acc]) = .ok (.nx [some c, some (.ref n), some d, o3']) (mu1 ++ [.lst (acc ++ xs)])
theorem two_kinds {z : Str} {mu : List MO} : gIn false (.str z) (.tup [.str "if", .str "while"]) mu = .ok (.bl ((z == Str.ofString "if") || (z == Str.ofString "while"))) mu := by
  unfold gIn
  simp [okE, okEs, dep, deps, eqD]
  rw [BEq.comm (a := Str.ofString "if"), BEq.comm (a := Str.ofString "while")]
theorem gives_plain {ds : List D → M Rv} {d : D} (h : Plain d) : Gives ds d [d] := fun c n o3 mu1 acc hn hc hf hl => by
  obtain ⟨k, r, rfl, h1, h2⟩ := h
  have s2 : (2 : Nat) ≤ sizeLine := by decide
  have hg := get_last (x := .lst acc) hn
  have ha := append_ok (d := .tup (.str k :: r)) hg (by rw [List.length_cons, List.length_nil] at hl; rw [sizeLine_eq]; omega)
  rw [set_last hn] at ha
  exact ⟨o3, by simp [stBody, lstK_ref hg, ha, gTup_ok, s2, two_kinds, h1, h2]⟩
theorem blocks_loop {ds : List D → M Rv} {c d : D} {n : Nat} {mu1 : List MO} (hn : n = mu1.length) (hc : CloH mu1) : ∀ (bs : List (List D × List D)) (acc : List D) (o3 : Option D), (∀ p ∈ bs, flats p.2 = true ∧ ∀ mu, CloH mu → ds [.tup p.1] mu = .ok (.fr p.2) mu) → flats acc = true → acc.length + (bs.flatMap fun p => p.2).length < 100000 →
    ∃ o3', loopF (asgN 3) (stIn ds) [3] [] (bs.map fun p => .tup p.1) [some c, some (.ref n), some d, o3] (mu1 ++ [.lst acc]) = .ok (.nx [some c, some (.ref n), some d, o3']) (mu1 ++ [.lst (acc ++ bs.flatMap fun p => p.2)])
  | [], acc, o3, _, _, _ => ⟨none, by
    show loopF _ _ _ [] [] _ _ = _
    rw [loopF_nil]; simp⟩
  | p :: bs, acc, o3, h, hf, hl => by
    rw [List.flatMap_cons, List.length_append] at hl
    have hp := h p (by simp)
    have hcl := hp.2 _ (hc.snoc_flat hf)
    have hg := get_last (x := .lst acc) hn
    have he := extend_ok (d := .fl p.2) (ys := p.2) hg rfl (by rw [sizeLine_eq]; omega)
    rw [set_last hn] at he
    obtain ⟨o3', ih⟩ := blocks_loop (c := c) (d := d) hn hc bs (acc ++ p.2) (some (.tup p.1)) (fun q hq => h q (by simp [hq])) (flats_app hf hp.1) (by rw [List.length_append]; omega)
    refine ⟨o3', ?_⟩
    rw [List.map_cons, loopF_step (e := [some c, some (.ref n), some d, some (.tup p.1)]) rfl ?_, ih, List.flatMap_cons, List.append_assoc]
    simp [stIn, lstK_ref hg, hcl, he]
theorem gives_block {ds : List D → M Rv} {k : Str} {t : D} {bs : List (List D × List D)} (hk : k = "if" ∨ k = "while") (hfl : flat (.tup (.str k :: t :: bs.map fun p => .tup p.1)) = true) (h : ∀ p ∈ bs, flats p.2 = true ∧ ∀ mu, CloH mu → ds [.tup p.1] mu = .ok (.fr p.2) mu) :
    Gives ds (.tup (.str k :: t :: bs.map fun p => .tup p.1)) ((.tup (.str k :: t :: bs.map fun p => .tup p.1)) :: bs.flatMap fun p => p.2) := fun c n o3 mu1 acc hn hc hf hl => by
  have s2 : (2 : Nat) ≤ sizeLine := by decide
  rw [List.length_cons] at hl
  have hg := get_last (x := .lst acc) hn
  generalize hd : D.tup (.str k :: t :: bs.map fun p => .tup p.1) = d at hfl ⊢
  have ha := append_ok (d := d) hg (by rw [sizeLine_eq]; omega)
  rw [set_last hn] at ha
  obtain ⟨o3', hb⟩ := blocks_loop (c := c) (d := d) hn hc bs (acc ++ [d]) o3 h (flats_app hf (flats_of fun x hx => by rw [List.mem_singleton.mp hx]; exact hfl)) (by rw [List.length_append, List.length_singleton]; omega)
  refine ⟨o3', ?_⟩
  have hkk : ((k == Str.ofString "if") || (k == Str.ofString "while")) = true := by
    rcases hk with rfl | rfl <;> decide +kernel
  have i0 : ∀ m, gIx d (.int 0) m = .ok (.str k) m := fun m => by rw [← hd]; simp
  have sl : ∀ m, gSl d (some 2) none m = .ok (.tup (bs.map fun p => .tup p.1)) m := fun m => by
    rw [← hd, gSl_tup, show (2 : Int) = ((2 : Nat) : Int) from rfl, cutD_drop]; rfl
  have hfin : acc ++ (d :: bs.flatMap fun p => p.2) = (acc ++ [d]) ++ bs.flatMap fun p => p.2 := by simp
  rw [hfin]
  generalize (acc ++ [d]) ++ bs.flatMap (fun p => p.2) = FIN at hb ⊢
  generalize hac : acc ++ [d] = AC at ha hb
  generalize bs.map (fun p => D.tup p.1) = BS at hb sl
  simp [stBody, lstK_ref hg, ha, gTup_ok, s2, i0, two_kinds, hkk, sl, hb]
theorem stmts_gen {ds : List D → M Rv} {c : D} {n : Nat} {mu1 : List MO} (hn : n = mu1.length) (hc : CloH mu1) : ∀ (ps : List (D × List D)) (acc : List D) (o2 o3 : Option D), (∀ p ∈ ps, Gives ds p.1 p.2 ∧ flats p.2 = true) → flats acc = true → acc.length + (ps.flatMap fun p => p.2).length < 100000 →
    ∃ o3', loopF (asgN 2) (stBody ds) [2] [] (ps.map fun p => p.1) [some c, some (.ref n), o2, o3] (mu1 ++ [.lst acc]) = .ok (.nx [some c, some (.ref n), none, o3']) (mu1 ++ [.lst (acc ++ ps.flatMap fun p => p.2)])
  | [], acc, o2, o3, _, _, _ => ⟨o3, by
    show loopF _ _ _ [] [] _ _ = _
    rw [loopF_nil]; simp⟩
  | p :: ps, acc, o2, o3, h, hf, hl => by
    rw [List.flatMap_cons, List.length_append] at hl
    obtain ⟨hp, hpf⟩ := h p (by simp)
    obtain ⟨o3', e⟩ := hp c n o3 mu1 acc hn hc hf (by omega)
    obtain ⟨o3'', ih⟩ := stmts_gen (c := c) hn hc ps (acc ++ p.2) (some p.1) o3' (fun q hq => h q (by simp [hq])) (flats_app hf hpf) (by rw [List.length_append]; omega)
    exact ⟨o3'', by rw [List.map_cons, loopF_step rfl e, ih, List.flatMap_cons, List.append_assoc]⟩
theorem stmts_of {m : Nat} {ps : List (D × List D)} {mu : List MO} (h : ∀ p ∈ ps, Gives (stmtL m) p.1 p.2 ∧ flats p.2 = true) (hl : (ps.flatMap fun p => p.2).length < 100000) (hc : CloH mu) : stmtL (m + 1) [.tup (ps.map fun p => p.1)] mu = .ok (.fr (ps.flatMap fun p => p.2)) mu := by
  obtain ⟨o3', h1⟩ := stmts_gen (ds := stmtL m) (c := .tup (ps.map fun p => p.1)) (n := mu.length) rfl hc ps [] none none h rfl (by simpa using hl)
  rw [List.nil_append] at h1
  have er : r_statements_in (stmtL m) = sSeq (sSet 1 (eNew (aList aNil))) (sSeq (sFor (eWalk (eVar 0)) (asgN 2) (stBody (stmtL m)) [2]) (sRet (eVar 1))) := rfl
  have e : den_statements_in (stmtL m) [.tup (ps.map fun p => p.1)] mu = .ok (.vl (.ref mu.length)) (mu ++ [.lst (ps.flatMap fun p => p.2)]) := by
    refine noX_ok ?_
    rw [er]
    generalize ps.flatMap (fun p => p.2) = Y at h1 ⊢
    generalize ps.map (fun p => p.1) = X at h1 ⊢
    simp [startE, h1]
  refine fgt_list e rfl hc (Nat.le_refl _) (get_last rfl) (flats_clo _ (flats_of fun d hd => ?_))
  obtain ⟨p, hp, hd⟩ := List.mem_flatMap.mp hd
  exact flats_mem (h p hp).2 d hd
/-! what the items give -/
theorem one_plain {m : Nat} {d : D} {mu : List MO} (h : Plain d) (hf : flat d = true) (hc : CloH mu) : stmtL (m + 1) [.tup [d]] mu = .ok (.fr [d]) mu :=
  stmts_of (ps := [(d, [d])]) (fun p hp => by rw [List.mem_singleton.mp hp]; exact ⟨gives_plain h, flats_of fun x hx => by rw [List.mem_singleton.mp hx]; exact hf⟩) (by simp) hc
theorem none_of {m : Nat} {mu : List MO} (hc : CloH mu) : stmtL (m + 1) [.tup []] mu = .ok (.fr []) mu := stmts_of (ps := []) (fun p hp => by cases hp) (by simp) hc
theorem whD_flat (k : Int) (b : Sb) : flat (whD k b) = true := topD_flat (.whl k, b)
theorem one_flat {d : D} (h : flat d = true) : flats [d] = true := flats_of fun x hx => by rw [List.mem_singleton.mp hx]; exact h
theorem gives_while {m : Nat} {k : Int} {b : Sb} : Gives (stmtL (m + 1)) (whD k b) [whD k b, sbD b] :=
  gives_block (k := "while") (t := testD k) (bs := [([sbD b], [sbD b])]) (.inr rfl) (whD_flat k b) fun p hp => by
    rw [List.mem_singleton.mp hp]
    exact ⟨one_flat (sbD_flat b), fun mu hc => one_plain (sb_plain b) (sbD_flat b) hc⟩
theorem one_while {m : Nat} {k : Int} {b : Sb} {mu : List MO} (hc : CloH mu) : stmtL (m + 2) [.tup [whD k b]] mu = .ok (.fr [whD k b, sbD b]) mu :=
  stmts_of (ps := [(whD k b, [whD k b, sbD b])]) (fun p hp => by rw [List.mem_singleton.mp hp]; exact ⟨gives_while, flatS_flat (.whl k, b)⟩) (by simp) hc
theorem gives_top {m : Nat} (t : Wr × Sb) : Gives (stmtL (m + 2)) (topD t) (flatS t) := by
  obtain ⟨w, b⟩ := t
  cases w with
  | no => exact gives_plain (sb_plain b)
  | whl k => exact gives_while
  | if1 k =>
    exact gives_block (k := "if") (t := testD k) (bs := [([sbD b], [sbD b]), ([pauseD], [pauseD])]) (.inl rfl) (topD_flat (.if1 k, b)) fun p hp => by
      simp only [List.mem_cons, List.not_mem_nil, or_false] at hp
      rcases hp with rfl | rfl
      · exact ⟨one_flat (sbD_flat b), fun mu hc => one_plain (sb_plain b) (sbD_flat b) hc⟩
      · exact ⟨rfl, fun mu hc => one_plain pause_plain rfl hc⟩
  | if2 k =>
    exact gives_block (k := "if") (t := testD k) (bs := [([], []), ([whD k b], [whD k b, sbD b])]) (.inl rfl) (topD_flat (.if2 k, b)) fun p hp => by
      simp only [List.mem_cons, List.not_mem_nil, or_false] at hp
      rcases hp with rfl | rfl
      · exact ⟨rfl, fun mu hc => none_of hc⟩
      · exact ⟨flatS_flat (.whl k, b), fun mu hc => one_while hc⟩
theorem flatS_len (t : Wr × Sb) : (flatS t).length ≤ 3 := by
  obtain ⟨w, b⟩ := t
  cases w <;> simp [flatS]
theorem flats_len : ∀ (ts : List (Wr × Sb)), (ts.flatMap flatS).length ≤ 3 * ts.length
  | [] => by simp
  | t :: ts => by
    have h1 := flatS_len t
    have h2 := flats_len ts
    rw [List.flatMap_cons, List.length_append, List.length_cons]; omega
theorem stmts_ok {m : Nat} {ts : List (Wr × Sb)} {mu : List MO} (hl : ts.length < 1000) (hc : CloH mu) : stmtL (m + 3) [.tup (ts.map topD)] mu = .ok (.fr (ts.flatMap flatS)) mu := by
  have e1 : (ts.map fun t => (topD t, flatS t)).map (fun p => p.1) = ts.map topD := by rw [List.map_map]; rfl
  have e2 : (ts.map fun t => (topD t, flatS t)).flatMap (fun p => p.2) = ts.flatMap flatS := by rw [List.flatMap_map]
  have := flats_len ts
  have h := stmts_of (m := m + 2) (ps := ts.map fun t => (topD t, flatS t)) (mu := mu) (fun p hp => by
    obtain ⟨t, _, rfl⟩ := List.mem_map.mp hp
    exact ⟨gives_top t, flatS_flat t⟩) (by rw [e2]; omega) hc
  rw [e1, e2] at h
  exact h
end K01
namespace MP
open PySem L2 PyProof.Rows
theorem gAdd_ref {n : Nat} {xs ys : List D} {mu : List MO} (h : mu[n]? = some (.lst xs)) (hl : xs.length + ys.length ≤ sizeLine) : gAdd (.ref n) (.fl ys) mu = .ok (.fl (xs ++ ys)) mu := by
  show ((rdM (.ref n) : M (List D)) >>= fun xs => (rdM (.fl ys) : M (List D)) >>= fun ys => (need (xs.length + ys.length ≤ sizeLine) : M Unit) >>= fun _ => (pure (.fl (xs ++ ys)) : M D)) mu = _
  have e1 : (rdM (.ref n) : M (List D)) mu = .ok xs mu := by rw [rdM_ref, atL_ap, h]; rfl
  rw [bind_ap, e1]
  show ((rdM (.fl ys) : M (List D)) >>= fun ys => (need (xs.length + ys.length ≤ sizeLine) : M Unit) >>= fun _ => (pure (.fl (xs ++ ys)) : M D)) mu = _
  rw [bind_ap, rdM_fl]
  show ((need (xs.length + ys.length ≤ sizeLine) : M Unit) >>= fun _ => (pure (.fl (xs ++ ys)) : M D)) mu = _
  rw [bind_ap, need_ap, if_pos hl]; rfl
end MP
namespace K01
open PySem L2 PyProof.Rows MP
/-! ### _law_statements -/
noncomputable def lstmtL : Nat → List D → M Rv
  | 0 => fun _ _ => .bad
  | n + 1 => fgt (den__law_statements (lstmtL n))
noncomputable def lsBody (ds : List D → M Rv) : MP.Env → M Fl := (sSeq (sExpr (eMeth lstK gAppend (eVar 1) (aCons (eVar 2) aNil)))
  (eIf (eB (eBin (gEq false) (eBin gIx (eVar 2) (eC (.int 0))) (eC (.str "while"))))
  (sSet 1 (eNew (fCat (eVar 1) (eCall (lenD 1 ds) (aCons (eBin gIx (eVar 2) (eC (.int 2))) aNil)))))
  (eIf (eB (eBin (gEq false) (eBin gIx (eVar 2) (eC (.int 0))) (eC (.str "if"))))
  (sSet 1 (eNew (fCat (eBin gAdd (eVar 1) (eCall (lenD 1 ds) (aCons (eBin gIx (eVar 2) (eC (.int 2))) aNil))) (eCall (lenD 1 ds) (aCons (eBin gIx (eVar 2) (eC (.int 3))) aNil)))))
  sNext)))
def LGives (ds : List D → M Rv) (d : D) (xs : List D) : Prop := ∀ (c : D) (h : List MO) (acc : List D), CloH h → flats acc = true → acc.length + xs.length < 100000 →
  ∃ ex, FlO ex ∧ lsBody ds [some c, some (.ref h.length), some d] (h ++ [.lst acc]) = .ok (.nx [some c, some (.ref (h ++ ex).length), some d]) ((h ++ ex) ++ [.lst (acc ++ xs)])
theorem lgives_plain {ds : List D → M Rv} {d : D} (hp : Plain d) : LGives ds d [d] := fun c h acc hc hf hl => by
  obtain ⟨k, r, rfl, h1, h2⟩ := hp
  have hg := get_last (x := .lst acc) (mu1 := h) rfl
  have ha := append_ok (d := .tup (.str k :: r)) hg (by rw [List.length_cons, List.length_nil] at hl; rw [sizeLine_eq]; omega)
  rw [set_last rfl] at ha
  refine ⟨[], FlO.nil, ?_⟩
  rw [List.append_nil]
  simp [lsBody, lstK_ref hg, ha, gEq_strs, h1, h2]
theorem if_ne : (Str.ofString "if" == Str.ofString "while") = false := by decide +kernel
theorem lgives_while {ds : List D → M Rv} {t : D} {b ys : List D} (hfl : flat (.tup [.str "while", t, .tup b]) = true) (hy : flats ys = true) (hb : ∀ mu, CloH mu → ds [.tup b] mu = .ok (.fr ys) mu) : LGives ds (.tup [.str "while", t, .tup b]) (.tup [.str "while", t, .tup b] :: ys) := fun c h acc hc hf hl => by
  rw [List.length_cons] at hl
  have hg := get_last (x := .lst acc) (mu1 := h) rfl
  have ha := append_ok (d := .tup [.str "while", t, .tup b]) hg (by rw [sizeLine_eq]; omega)
  rw [set_last rfl] at ha
  have hf1 : flats (acc ++ [.tup [.str "while", t, .tup b]]) = true := flats_app hf (one_flat hfl)
  have hcl := hb _ (hc.snoc_flat hf1)
  have hg1 := get_last (x := .lst (acc ++ [.tup [.str "while", t, .tup b]])) (mu1 := h) rfl
  have hz : (acc ++ [D.tup [.str "while", t, .tup b]]).length + ys.length ≤ sizeLine := by rw [List.length_append, List.length_singleton, sizeLine_eq]; omega
  refine ⟨[.lst (acc ++ [.tup [.str "while", t, .tup b]])], FlO.one hf1, ?_⟩
  have hfin : acc ++ (D.tup [.str "while", t, .tup b] :: ys) = (acc ++ [.tup [.str "while", t, .tup b]]) ++ ys := by simp
  rw [hfin]
  generalize hd : D.tup [.str "while", t, .tup b] = d at *
  have i0 : ∀ m, gIx d (.int 0) m = .ok (.str "while") m := fun m => by rw [← hd]; simp
  have i2 : ∀ m, gIx d (.int 2) m = .ok (.tup b) m := fun m => by rw [← hd]; simp
  have hhl : (h ++ [MO.lst (acc ++ [d])]).length = h.length + 1 := by simp
  rw [hhl]
  generalize acc ++ [d] = A1 at *
  simp [lsBody, lstK_ref hg, ha, i0, i2, gEq_strs, hcl, hg1, hz]
theorem lgives_if {ds : List D → M Rv} {t : D} {b1 b2 y1 y2 : List D} (hfl : flat (.tup [.str "if", t, .tup b1, .tup b2]) = true) (hy1 : flats y1 = true) (hy2 : flats y2 = true) (hb1 : ∀ mu, CloH mu → ds [.tup b1] mu = .ok (.fr y1) mu) (hb2 : ∀ mu, CloH mu → ds [.tup b2] mu = .ok (.fr y2) mu) :
    LGives ds (.tup [.str "if", t, .tup b1, .tup b2]) (.tup [.str "if", t, .tup b1, .tup b2] :: (y1 ++ y2)) := fun c h acc hc hf hl => by
  rw [List.length_cons, List.length_append] at hl
  have hg := get_last (x := .lst acc) (mu1 := h) rfl
  have ha := append_ok (d := .tup [.str "if", t, .tup b1, .tup b2]) hg (by rw [sizeLine_eq]; omega)
  rw [set_last rfl] at ha
  have hf1 : flats (acc ++ [.tup [.str "if", t, .tup b1, .tup b2]]) = true := flats_app hf (one_flat hfl)
  have hcl1 := hb1 _ (hc.snoc_flat hf1)
  have hcl2 := hb2 _ (hc.snoc_flat hf1)
  have hg1 := get_last (x := .lst (acc ++ [.tup [.str "if", t, .tup b1, .tup b2]])) (mu1 := h) rfl
  have hz : (acc ++ [D.tup [.str "if", t, .tup b1, .tup b2]]).length + y1.length ≤ sizeLine := by rw [List.length_append, List.length_singleton, sizeLine_eq]; omega
  have hz2 : ((acc ++ [D.tup [.str "if", t, .tup b1, .tup b2]]) ++ y1).length + y2.length ≤ sizeLine := by rw [List.length_append, List.length_append, List.length_singleton, sizeLine_eq]; omega
  have hga := gAdd_ref hg1 hz
  refine ⟨[.lst (acc ++ [.tup [.str "if", t, .tup b1, .tup b2]])], FlO.one hf1, ?_⟩
  have hfin : acc ++ (D.tup [.str "if", t, .tup b1, .tup b2] :: (y1 ++ y2)) = ((acc ++ [.tup [.str "if", t, .tup b1, .tup b2]]) ++ y1) ++ y2 := by simp
  rw [hfin]
  generalize hd : D.tup [.str "if", t, .tup b1, .tup b2] = d at *
  have i0 : ∀ m, gIx d (.int 0) m = .ok (.str "if") m := fun m => by rw [← hd]; simp
  have i2 : ∀ m, gIx d (.int 2) m = .ok (.tup b1) m := fun m => by rw [← hd]; simp
  have i3 : ∀ m, gIx d (.int 3) m = .ok (.tup b2) m := fun m => by rw [← hd]; simp
  have hhl : (h ++ [MO.lst (acc ++ [d])]).length = h.length + 1 := by simp
  rw [hhl]
  generalize acc ++ [d] = A1 at *
  generalize A1 ++ y1 = A2 at *
  simp [lsBody, lstK_ref hg, ha, i0, i2, i3, gEq_strs, if_ne, hcl1, hcl2, hga, hz2]
theorem lstmts_gen {ds : List D → M Rv} {c : D} : ∀ (ps : List (D × List D)) (h : List MO) (acc : List D) (o2 : Option D), (∀ p ∈ ps, LGives ds p.1 p.2 ∧ flats p.2 = true) → CloH h → flats acc = true → acc.length + (ps.flatMap fun p => p.2).length < 100000 →
    ∃ ex, FlO ex ∧ loopF (asgN 2) (lsBody ds) [2] [] (ps.map fun p => p.1) [some c, some (.ref h.length), o2] (h ++ [.lst acc]) = .ok (.nx [some c, some (.ref (h ++ ex).length), none]) ((h ++ ex) ++ [.lst (acc ++ ps.flatMap fun p => p.2)])
  | [], h, acc, o2, _, _, _, _ => ⟨[], FlO.nil, by
    show loopF _ _ _ [] [] _ _ = _
    rw [loopF_nil]; simp⟩
  | p :: ps, h, acc, o2, hp, hc, hf, hl => by
    rw [List.flatMap_cons, List.length_append] at hl
    obtain ⟨hp1, hpf⟩ := hp p (by simp)
    obtain ⟨ex, f1, e⟩ := hp1 c h acc hc hf (by omega)
    obtain ⟨ex2, f2, ih⟩ := lstmts_gen (c := c) ps (h ++ ex) (acc ++ p.2) (some p.1) (fun q hq => hp q (by simp [hq])) (hc.flo f1) (flats_app hf hpf) (by rw [List.length_append]; omega)
    exact ⟨ex ++ ex2, f1.app f2, by rw [List.map_cons, loopF_step rfl e, ih]; simp only [List.append_assoc, List.flatMap_cons]⟩
theorem lstmts_of {m : Nat} {ps : List (D × List D)} {mu : List MO} (h : ∀ p ∈ ps, LGives (lstmtL m) p.1 p.2 ∧ flats p.2 = true) (hl : (ps.flatMap fun p => p.2).length < 100000) (hc : CloH mu) : lstmtL (m + 1) [.tup (ps.map fun p => p.1)] mu = .ok (.fr (ps.flatMap fun p => p.2)) mu := by
  obtain ⟨ex, f1, h1⟩ := lstmts_gen (ds := lstmtL m) (c := .tup (ps.map fun p => p.1)) ps mu [] none h hc rfl (by simpa using hl)
  rw [List.nil_append] at h1
  have er : r__law_statements (lstmtL m) = sSeq (sSet 1 (eNew (aList aNil))) (sSeq (sFor (eWalk (eVar 0)) (asgN 2) (lsBody (lstmtL m)) [2]) (sRet (eVar 1))) := rfl
  have e : den__law_statements (lstmtL m) [.tup (ps.map fun p => p.1)] mu = .ok (.vl (.ref (mu ++ ex).length)) (mu ++ (ex ++ [.lst (ps.flatMap fun p => p.2)])) := by
    refine noX_ok ?_
    rw [er, ← List.append_assoc]
    generalize ps.flatMap (fun p => p.2) = Y at h1 ⊢
    generalize ps.map (fun p => p.1) = X at h1 ⊢
    generalize (mu ++ ex).length = N at h1 ⊢
    simp [startE, h1]
  refine fgt_list e rfl hc (by simp) (by rw [← List.append_assoc]; exact get_last rfl) (flats_clo _ (flats_of fun d hd => ?_))
  obtain ⟨p, hp, hd⟩ := List.mem_flatMap.mp hd
  exact flats_mem (h p hp).2 d hd
theorem lone_plain {m : Nat} {d : D} {mu : List MO} (h : Plain d) (hf : flat d = true) (hc : CloH mu) : lstmtL (m + 1) [.tup [d]] mu = .ok (.fr [d]) mu :=
  lstmts_of (ps := [(d, [d])]) (fun p hp => by rw [List.mem_singleton.mp hp]; exact ⟨lgives_plain h, one_flat hf⟩) (by simp) hc
theorem lnone_of {m : Nat} {mu : List MO} (hc : CloH mu) : lstmtL (m + 1) [.tup []] mu = .ok (.fr []) mu := lstmts_of (ps := []) (fun p hp => by cases hp) (by simp) hc
theorem lgives_wh {m : Nat} {k : Int} {b : Sb} : LGives (lstmtL (m + 1)) (whD k b) [whD k b, sbD b] := lgives_while (whD_flat k b) (one_flat (sbD_flat b)) fun mu hc => lone_plain (sb_plain b) (sbD_flat b) hc
theorem lone_while {m : Nat} {k : Int} {b : Sb} {mu : List MO} (hc : CloH mu) : lstmtL (m + 2) [.tup [whD k b]] mu = .ok (.fr [whD k b, sbD b]) mu :=
  lstmts_of (ps := [(whD k b, [whD k b, sbD b])]) (fun p hp => by rw [List.mem_singleton.mp hp]; exact ⟨lgives_wh, flatS_flat (.whl k, b)⟩) (by simp) hc
theorem lgives_top {m : Nat} (t : Wr × Sb) : LGives (lstmtL (m + 2)) (topD t) (flatS t) := by
  obtain ⟨w, b⟩ := t
  cases w with
  | no => exact lgives_plain (sb_plain b)
  | whl k => exact lgives_wh
  | if1 k => exact lgives_if (topD_flat (.if1 k, b)) (one_flat (sbD_flat b)) (by rfl : flats [pauseD] = true) (fun mu hc => lone_plain (sb_plain b) (sbD_flat b) hc) fun mu hc => lone_plain pause_plain rfl hc
  | if2 k => exact lgives_if (y1 := []) (topD_flat (.if2 k, b)) rfl (flatS_flat (.whl k, b)) (fun mu hc => lnone_of hc) fun mu hc => lone_while hc
theorem lstmts_ok {m : Nat} {ts : List (Wr × Sb)} {mu : List MO} (hl : ts.length < 1000) (hc : CloH mu) : lstmtL (m + 3) [.tup (ts.map topD)] mu = .ok (.fr (ts.flatMap flatS)) mu := by
  have e1 : (ts.map fun t => (topD t, flatS t)).map (fun p => p.1) = ts.map topD := by rw [List.map_map]; rfl
  have e2 : (ts.map fun t => (topD t, flatS t)).flatMap (fun p => p.2) = ts.flatMap flatS := by rw [List.flatMap_map]
  have := flats_len ts
  have h := lstmts_of (m := m + 2) (ps := ts.map fun t => (topD t, flatS t)) (mu := mu) (fun p hp => by
    obtain ⟨t, _, rfl⟩ := List.mem_map.mp hp
    exact ⟨lgives_top t, flatS_flat t⟩) (by rw [e2]; omega) hc
  rw [e1, e2] at h
  exact h
end K01
namespace K01
open PySem L2 PyProof.Rows MP
structure P1 where
  name : Str
  items : List (Bool × Str)
  places : List (Bool × Str)
  body : List (Wr × Sb)
def kindS (b : Bool) : Str := if b = true then "array" else "int"
def itemD (p : Bool × Str) : D := .tup [.str (kindS p.1), .str p.2]
def procD (p : P1) : D := .tup [.str p.name, .tup (p.items.map itemD), .tup [], .tup (p.places.map itemD), .tup [], .tup [], .tup [], .tup [], .tup (p.body.map topD)]
def coreD (ps : List P1) : D := .tup (ps.map procD)
theorem kind_arr {b : Bool} : (kindS b == Str.ofString "array") = b := by cases b <;> decide +kernel
theorem procD_name {p : P1} {mu : List MO} : gIx (procD p) (.int 0) mu = .ok (.str p.name) mu := by simp [procD]
theorem procD_items {p : P1} {mu : List MO} : gIx (procD p) (.int 1) mu = .ok (.tup (p.items.map itemD)) mu := by simp [procD]
theorem ixD_nat {xs : List D} {k : Nat} {t : D} {mu : List MO} (h : xs[k]? = some t) : ixD xs (k : Int) mu = .ok t mu := ixD_at (by
  unfold atI ixN
  have hk := (List.getElem?_eq_some_iff.mp h).1
  rw [if_pos (by omega), if_pos (by omega)]
  simpa using h)
theorem procD_body {p : P1} {mu : List MO} : gIx (procD p) (.int 8) mu = .ok (.tup (p.body.map topD)) mu := by
  unfold procD
  rw [gIx_tup]
  exact ixD_nat (k := 8) rfl
/-- statements that are none of ours -/
def Oth (d : D) : Prop := ∃ k r, d = .tup (.str k :: r) ∧ (k = "while" ∨ k = "if" ∨ k = "pause")
theorem flatS_split (t : Wr × Sb) : ∃ pre post, flatS t = pre ++ (sbD t.2 :: post) ∧ (∀ d ∈ pre, Oth d) ∧ ∀ d ∈ post, Oth d := by
  obtain ⟨w, b⟩ := t
  have hw : ∀ k, Oth (whD k b) := fun k => ⟨_, _, rfl, .inl rfl⟩
  cases w with
  | no => exact ⟨[], [], rfl, by simp, by simp⟩
  | whl k => exact ⟨[whD k b], [], rfl, fun d hd => by rw [List.mem_singleton.mp hd]; exact hw k, by simp⟩
  | if1 k => exact ⟨[topD (.if1 k, b)], [pauseD], rfl, fun d hd => by rw [List.mem_singleton.mp hd]; exact ⟨_, _, rfl, .inr (.inl rfl)⟩, fun d hd => by rw [List.mem_singleton.mp hd]; exact ⟨_, _, rfl, .inr (.inr rfl)⟩⟩
  | if2 k => exact ⟨[topD (.if2 k, b), whD k b], [], rfl, fun d hd => by
      simp only [List.mem_cons, List.not_mem_nil, or_false] at hd
      rcases hd with rfl | rfl
      · exact ⟨_, _, rfl, .inr (.inl rfl)⟩
      · exact hw k, by simp⟩
section
variable {β : Type} {asg : D → MP.Env → M MP.Env} {body : MP.Env → M Fl} {fg : List Nat} {I : Nat → β → MP.Env → List MO → Prop} {f : Sb → β → β}
theorem oth_loop (ho : ∀ d, Oth d → ∀ k acc env mu, I k acc env mu → ∃ env1 e' mu', asg d (wipeE env fg) mu = .ok env1 mu ∧ body env1 mu = .ok (.nx e') mu' ∧ I k acc e' mu') {k : Nat} {acc : β} : ∀ (ds rest : List D) (env : MP.Env) (mu : List MO), (∀ d ∈ ds, Oth d) → I k acc env mu →
    ∃ e' mu', loopF asg body fg [] (ds ++ rest) env mu = loopF asg body fg [] rest e' mu' ∧ I k acc e' mu'
  | [], rest, env, mu, _, h => ⟨env, mu, rfl, h⟩
  | d :: ds, rest, env, mu, hd, h => by
    obtain ⟨env1, e', mu', h1, h2, h3⟩ := ho d (hd d (by simp)) k acc env mu h
    obtain ⟨e2, mu2, h4, h5⟩ := oth_loop ho ds rest e' mu' (fun x hx => hd x (by simp [hx])) h3
    exact ⟨e2, mu2, (loopF_step h1 h2).trans h4, h5⟩
theorem flat_loop : ∀ (ts : List (Wr × Sb)) (acc : β) (env : MP.Env) (mu : List MO), (hs : ∀ t ∈ ts, ∀ k acc env mu, I (k + 1) acc env mu → ∃ env1 e' mu', asg (sbD t.2) (wipeE env fg) mu = .ok env1 mu ∧ body env1 mu = .ok (.nx e') mu' ∧ I k (f t.2 acc) e' mu') →
    (ho : ∀ d, Oth d → ∀ k acc env mu, I k acc env mu → ∃ env1 e' mu', asg d (wipeE env fg) mu = .ok env1 mu ∧ body env1 mu = .ok (.nx e') mu' ∧ I k acc e' mu') → I ts.length acc env mu →
    ∃ e' mu', loopF asg body fg [] (ts.flatMap flatS) env mu = .ok (.nx (wipeE e' fg)) mu' ∧ I 0 (ts.foldl (fun a t => f t.2 a) acc) e' mu'
  | [], acc, env, mu, _, _, h => ⟨env, mu, loopF_nil, h⟩
  | t :: ts, acc, env, mu, hs, ho, h => by
    obtain ⟨pre, post, e, h1, h2⟩ := flatS_split t
    rw [List.flatMap_cons, e, List.append_assoc, List.cons_append]
    obtain ⟨e1, mu1, l1, i1⟩ := oth_loop (I := I) (k := ts.length + 1) (acc := acc) ho pre (sbD t.2 :: (post ++ ts.flatMap flatS)) env mu h1 h
    obtain ⟨env1, e2, mu2, a1, b1, i2⟩ := hs t (by simp) ts.length acc e1 mu1 i1
    obtain ⟨e3, mu3, l3, i3⟩ := oth_loop (I := I) (k := ts.length) (acc := f t.2 acc) ho post (ts.flatMap flatS) e2 mu2 h2 i2
    obtain ⟨e4, mu4, l4, i4⟩ := flat_loop ts (f t.2 acc) e3 mu3 (fun x hx => hs x (by simp [hx])) ho i3
    exact ⟨e4, mu4, by rw [l1, loopF_step a1 b1, l3, l4], i4⟩
end
theorem foldl_app {α : Type} (g : Sb → List α) : ∀ (ts : List (Wr × Sb)) (acc : List α), ts.foldl (fun a t => a ++ g t.2) acc = acc ++ ts.flatMap fun t => g t.2
  | [], acc => by simp
  | t :: ts, acc => by rw [List.foldl_cons, foldl_app g ts, List.flatMap_cons, List.append_assoc]
/-! ### changed_in -/
def chB : Sb → List Str
  | .store x _ => [x]
  | .push _ x => [x]
  | .pop x => [x]
  | .call _ _ => []
def ch (p : P1) : List Str := p.body.flatMap fun t => chB t.2
noncomputable def chD : List D → M Rv := fgt (den_changed_in (stmtL 4))
theorem tab_kinds : tabAt tab_CHANGING (Str.ofString "store") = some (.int 1) ∧ tabAt tab_CHANGING (Str.ofString "push") = some (.int 2) ∧ tabAt tab_CHANGING (Str.ofString "pop") = some (.int 2) ∧ tabAt tab_CHANGING (Str.ofString "call") = none ∧ tabAt tab_CHANGING (Str.ofString "while") = none ∧ tabAt tab_CHANGING (Str.ofString "if") = none ∧ tabAt tab_CHANGING (Str.ofString "pause") = none := by
  have hs : ∀ z : Str, tabAt tab_CHANGING z = if Str.ofString "store" == z then some (.int 1) else if Str.ofString "push" == z then some (.int 2) else if Str.ofString "pop" == z then some (.int 2) else none := fun z => by
    unfold tabAt tab_CHANGING
    simp only [List.find?_cons, List.find?_nil]
    cases Str.ofString "store" == z <;> cases Str.ofString "push" == z <;> cases Str.ofString "pop" == z <;> rfl
  have e : (Str.ofString "store" == Str.ofString "push") = false ∧ (Str.ofString "store" == Str.ofString "pop") = false ∧ (Str.ofString "push" == Str.ofString "pop") = false ∧ (Str.ofString "store" == Str.ofString "call") = false ∧ (Str.ofString "push" == Str.ofString "call") = false ∧ (Str.ofString "pop" == Str.ofString "call") = false ∧
    (Str.ofString "store" == Str.ofString "while") = false ∧ (Str.ofString "push" == Str.ofString "while") = false ∧ (Str.ofString "pop" == Str.ofString "while") = false ∧ (Str.ofString "store" == Str.ofString "if") = false ∧ (Str.ofString "push" == Str.ofString "if") = false ∧ (Str.ofString "pop" == Str.ofString "if") = false ∧
    (Str.ofString "store" == Str.ofString "pause") = false ∧ (Str.ofString "push" == Str.ofString "pause") = false ∧ (Str.ofString "pop" == Str.ofString "pause") = false := by decide +kernel
  simp [hs, e]
noncomputable def chBody : MP.Env → M Fl := (eIf (eB (eMap (gInK false tab_CHANGING) (eBin gIx (eVar 2) (eC (.int 0)))))
  (sExpr (eMeth lstK gAppend (eVar 1) (aCons (eBin gIx (eVar 2) (eMap (gIxK tab_CHANGING) (eBin gIx (eVar 2) (eC (.int 0))))) aNil)))
  sNext)
theorem changed_ok {p : P1} {mu : List MO} (hl : p.body.length < 1000) (hc : CloH mu) : chD [procD p] mu = .ok (.fr ((ch p).map D.str)) mu := by
  obtain ⟨t1, t2, t3, t4, t5, t6, t7⟩ := tab_kinds
  obtain ⟨e', mu', h1, ⟨o2, rfl, rfl, _⟩⟩ := flat_loop (asg := asgN 2) (body := chBody) (fg := [2]) (f := fun b a => a ++ chB b)
    (I := fun k (acc : List Str) env m => ∃ o2, env = [some (procD p), some (.ref mu.length), o2] ∧ m = mu ++ [.lst (acc.map D.str)] ∧ acc.length + k < 1000)
    p.body [] [some (procD p), some (.ref mu.length), none] (mu ++ [.lst []])
    (fun t ht k acc env m ⟨o2, he, hm, hk⟩ => by
      subst he hm
      have hg := get_last (x := .lst (acc.map D.str)) (mu1 := mu) rfl
      have hz : (acc.map D.str).length < sizeLine := by rw [List.length_map, sizeLine_eq]; omega
      have ha : ∀ x : Str, gAppend (.ref mu.length) [.str x] (mu ++ [.lst (acc.map D.str)]) = .ok .non (mu ++ [.lst ((acc ++ [x]).map D.str)]) := fun x => by
        rw [append_ok hg hz, set_last rfl, List.map_append]; rfl
      cases hb : t.2 with
      | store x i =>
        refine ⟨_, [some (procD p), some (.ref mu.length), some (sbD (.store x i))], mu ++ [.lst ((acc ++ [x]).map D.str)], rfl, ?_, ⟨_, rfl, rfl, by simp [chB]; omega⟩⟩
        have hax := ha x
        generalize acc.map D.str = A at hg hax ⊢
        generalize (acc ++ [x]).map D.str = A2 at hax ⊢
        simp [chBody, sbD, gIxK_ap t1, t1, lstK_ref hg, hax]
      | push i x =>
        refine ⟨_, [some (procD p), some (.ref mu.length), some (sbD (.push i x))], mu ++ [.lst ((acc ++ [x]).map D.str)], rfl, ?_, ⟨_, rfl, rfl, by simp [chB]; omega⟩⟩
        have hax := ha x
        generalize acc.map D.str = A at hg hax ⊢
        generalize (acc ++ [x]).map D.str = A2 at hax ⊢
        simp [chBody, sbD, gIxK_ap t2, t2, lstK_ref hg, hax]
      | pop x =>
        refine ⟨_, [some (procD p), some (.ref mu.length), some (sbD (.pop x))], mu ++ [.lst ((acc ++ [x]).map D.str)], rfl, ?_, ⟨_, rfl, rfl, by simp [chB]; omega⟩⟩
        have hax := ha x
        generalize acc.map D.str = A at hg hax ⊢
        generalize (acc ++ [x]).map D.str = A2 at hax ⊢
        simp [chBody, sbD, gIxK_ap t3, t3, lstK_ref hg, hax]
      | call c as =>
        refine ⟨_, [some (procD p), some (.ref mu.length), some (sbD (.call c as))], mu ++ [.lst (acc.map D.str)], rfl, ?_, ⟨_, rfl, by simp [chB], by simp [chB]; omega⟩⟩
        generalize acc.map D.str = A
        simp [chBody, sbD, t4])
    (fun d ⟨kk, r, hd, hkk⟩ k acc env m ⟨o2, he, hm, hk⟩ => by
      subst hd he hm
      refine ⟨_, [some (procD p), some (.ref mu.length), some (.tup (.str kk :: r))], _, rfl, ?_, ⟨_, rfl, rfl, hk⟩⟩
      have hn : tabAt tab_CHANGING kk = none := by rcases hkk with rfl | rfl | rfl <;> assumption
      generalize acc.map D.str = A
      simp [chBody, hn]) ⟨none, rfl, rfl, by simpa using hl⟩
  rw [foldl_app, List.nil_append] at h1
  have hst := stmts_ok (m := 1) (ts := p.body) hl (hc.snoc_flat (xs := []) rfl)
  have er : r_changed_in (stmtL 4) = sSeq (sSet 1 (eNew (aList aNil))) (sSeq (sFor (eWalk (eCall (lenD 1 (stmtL 4)) (aCons (eBin gIx (eVar 0) (eC (.int 8))) aNil))) (asgN 2) chBody [2]) (sRet (eVar 1))) := rfl
  have e : den_changed_in (stmtL 4) [procD p] mu = .ok (.vl (.ref mu.length)) (mu ++ [.lst ((ch p).map D.str)]) := by
    refine noX_ok ?_
    rw [er]
    have b8 := fun m => procD_body (p := p) (mu := m)
    have h1 : loopF (asgN 2) chBody [2] [] (p.body.flatMap flatS) [some (procD p), some (.ref mu.length), none] (mu ++ [.lst []]) = .ok (.nx [some (procD p), some (.ref mu.length), none]) (mu ++ [.lst ((ch p).map D.str)]) := h1
    generalize (ch p).map D.str = Y at h1 ⊢
    generalize p.body.flatMap flatS = X at h1 hst
    simp [startE, b8, hst, h1]
  exact fgt_list e rfl hc (Nat.le_refl _) (get_last rfl) (flats_clo _ (strs_flat _))
end K01
namespace MP
open PySem L2 PyProof.Rows
theorem gIn_names {neg : Bool} {z : Str} {ns : List Str} {d : D} {mu : List MO} (hd : rdQ d mu = .ok (ns.map D.str) mu) (hns : ∀ y, d ≠ .str y) : gIn neg (.str z) d mu = .ok (.bl (ns.contains z != neg)) mu := by
  have e : gIn neg (.str z) d = (rdQ d >>= fun ys => need (okE (.str z) = true ∧ okEs ys = true ∧ deps ys < 60) >>= fun _ => pure (.bl ((ys.any fun y => eqD y (.str z)) != neg)) : M D) := by
    cases d <;> first | rfl | exact absurd rfl (hns _)
  rw [e]
  have ok1 : ∀ ns : List Str, okEs (ns.map D.str) = true := fun ns => by
    induction ns with
    | nil => rfl
    | cons x xs ih => rw [List.map_cons, okEs, ih]; rfl
  have ok2 : ∀ ns : List Str, deps (ns.map D.str) = 0 := fun ns => by
    induction ns with
    | nil => rfl
    | cons x xs ih => rw [List.map_cons, deps, ih]; rfl
  have ok3 : ∀ ns : List Str, ((ns.map D.str).any fun y => eqD y (.str z)) = ns.contains z := fun ns => by
    induction ns with
    | nil => rfl
    | cons x xs ih =>
      rw [List.map_cons, List.any_cons, ih, List.contains_cons]
      congr 1
      show (x == z) = (z == x)
      exact BEq.comm
  simp [hd, okE, ok1, ok2, ok3]
theorem zip_ok {xs ys : List D} {mu : List MO} : wZip [.tup xs, .tup ys] mu = .ok (zipD xs ys, []) mu := rfl
theorem zipD_map {α β : Type} {f : α → D} {g : β → D} : ∀ (xs : List α) (ys : List β), zipD (xs.map f) (ys.map g) = (xs.zip ys).map fun p => .tup [f p.1, g p.2]
  | [], _ => rfl
  | _ :: _, [] => rfl
  | x :: xs, y :: ys => by
    show D.tup [f x, g y] :: zipD (xs.map f) (ys.map g) = D.tup [f x, g y] :: (xs.zip ys).map fun p => .tup [f p.1, g p.2]
    rw [zipD_map xs ys]
theorem gDget_at {o : D} {z : Str} {kvs : List (Key × D)} {d : D} {mu : List MO} (h : rdD o mu = .ok kvs mu) (hv : valD kvs (.inr z) = some d) : gDget o (.str z) mu = .ok d mu := by
  show (rdD o >>= fun kvs => toK (.str z) >>= fun k => match valD kvs k with | some d => pure d | none => bad) mu = _
  rw [bind_ap, h]
  show (match valD kvs (.inr z) with | some d => (pure d : M D) | none => bad) mu = _
  rw [hv]; rfl
end MP
namespace K01
open PySem L2 PyProof.Rows MP
theorem proc_named_ok {ps : List P1} {n : Str} {p : P1} {mu : List MO} (h : ps.find? (fun q => q.name == n) = some p) : den_proc_named [coreD ps, .str n] mu = .ok (.vl (procD p)) mu := by
  refine noX_ok ?_
  have hl : loopC (asgN 2) (eB (eBin (gEq false) (eBin gIx (eVar 2) (eC (.int 0))) (eVar 1))) (eVar 2) [] (ps.map procD) [some (coreD ps), some (.str n), none] mu = .ok ((ps.filter fun q => q.name == n).map procD) mu := by
    refine loopC_filter' fun q hq => ⟨_, rfl, ?_, fun _ => ?_⟩
    · simp [procD, gEq_strs]
    · simp
  have e : ∃ r, ps.filter (fun q => q.name == n) = p :: r := by
    rw [← List.head?_filter] at h
    cases hf : ps.filter (fun q => q.name == n) with
    | nil => rw [hf] at h; cases h
    | cons q r => rw [hf] at h; cases h; exact ⟨r, rfl⟩
  obtain ⟨r, hr⟩ := e
  rw [hr] at hl
  have w : coreD ps = .tup (ps.map procD) := rfl
  rw [w] at hl
  simp [r_proc_named, startE, w, noX_ok hl]
/-- the table in the heap -/
structure TabH (ps : List P1) (n : Nat) (pl : Str → Nat) (tb : Str → List Str) (h : List MO) : Prop where
  dk : h[n]? = some (.dk (ps.map fun p => (Sum.inr p.name, .ref (pl p.name))))
  ls : ∀ p ∈ ps, h[pl p.name]? = some (.lst ((tb p.name).map D.str))
  inj : ∀ p ∈ ps, ∀ q ∈ ps, pl p.name = pl q.name → p.name = q.name
theorem tab_val {pl : Str → Nat} {c : Str} : ∀ (ps : List P1), c ∈ ps.map (·.name) → valD (ps.map fun p => (Sum.inr p.name, D.ref (pl p.name))) (.inr c) = some (.ref (pl c))
  | [], h => by cases h
  | p :: ps, h => by
    unfold valD
    rw [List.map_cons, List.find?_cons]
    by_cases e : p.name = c
    · simp [e]
    · have : decide ((Sum.inr p.name : Key) = .inr c) = false := decide_eq_false fun z => e (Sum.inr.inj z)
      simp only [this]
      exact tab_val ps (by simpa [Ne.symm e] using h)
theorem find_name {ps : List P1} {c : Str} {q : P1} (h : ps.find? (fun x => x.name == c) = some q) : q ∈ ps ∧ q.name = c := by
  have h2 : (q.name == c) = true := List.find?_some (p := fun x : P1 => x.name == c) h
  exact ⟨List.mem_of_find?_eq_some h, eq_of_beq h2⟩
/-- a call that fits -/
def CallOk (ps : List P1) : Sb → Prop
  | .call c as => ∃ q, ps.find? (fun x => x.name == c) = some q ∧ as.length = q.items.length ∧ q.items.length ≤ 10 ∧ ∀ pr ∈ q.items.zip as, pr.1.1 = pr.2.isSome
  | _ => True
def itemsOf (ps : List P1) (c : Str) : List (Bool × Str) := ((ps.find? fun x => x.name == c).map (·.items)).getD []
def pz1 (T : List Str) (pr : (Bool × Str) × Option Str) : List Str := match pr.2 with
  | some x => if pr.1.1 && T.contains pr.1.2 then [x] else []
  | none => []
def ptB (tb : Str → List Str) (ps : List P1) : Sb → List Str
  | .call c as => ((itemsOf ps c).zip as).flatMap (pz1 (tb c))
  | _ => []
def pt (tb : Str → List Str) (ps : List P1) (p : P1) : List Str := p.body.flatMap fun t => ptB tb ps t.2
noncomputable def ptIn : MP.Env → M Fl := (eIf (bAnd (eB (eBin (gEq false) (eBin gIx (eVar 5) (eC (.int 0))) (eC (.str "array")))) (eB (eBin (gIn false) (eBin gIx (eVar 5) (eC (.int 1))) (eBin gDget (eVar 1) (eBin gIx (eVar 4) (eC (.int 1)))))))
  (sExpr (eMeth lstK gAppend (eVar 3) (aCons (eBin gIx (eVar 6) (eC (.int 1))) aNil)))
  sNext)
noncomputable def ptBody : MP.Env → M Fl := (eIf (eB (eBin (gEq false) (eBin gIx (eVar 4) (eC (.int 0))) (eC (.str "call"))))
  (sFor (wThen wZip (aCons (eBin gIx (eCall (lenD 2 den_proc_named) (aCons (eVar 0) (aCons (eBin gIx (eVar 4) (eC (.int 1))) aNil))) (eC (.int 1))) (aCons (eBin gIx (eVar 4) (eC (.int 2))) aNil))) (asgT 2 (asgCons (asgN 5) (asgCons (asgN 6) asgNil))) ptIn [5, 6])
  sNext)
theorem pt_inner {core pr : D} {n m : Nat} {c : Str} {as0 : List (Option Str)} {T : List Str} {h : List MO} (hm : m = h.length) {i : Nat} (hd : ∀ A, gDget (.ref n) (.str c) (h ++ [.lst A]) = .ok (.ref i) (h ++ [.lst A])) (hi : h[i]? = some (.lst (T.map D.str))) :
    ∀ (zs : List ((Bool × Str) × Option Str)) (acc : List Str) (o5 o6 : Option D), (∀ p ∈ zs, p.1.1 = p.2.isSome) → acc.length + zs.length < 100000 →
    loopF (asgT 2 (asgCons (asgN 5) (asgCons (asgN 6) asgNil))) ptIn [5, 6] [] (zs.map fun p => .tup [itemD p.1, argD p.2]) [some core, some (.ref n), some pr, some (.ref m), some (sbD (.call c as0)), o5, o6] (h ++ [.lst (acc.map D.str)])
      = .ok (.nx [some core, some (.ref n), some pr, some (.ref m), some (sbD (.call c as0)), none, none]) (h ++ [.lst ((acc ++ zs.flatMap (pz1 T)).map D.str)])
  | [], acc, o5, o6, _, _ => by
    show loopF _ _ _ [] [] _ _ = _
    rw [loopF_nil]; simp
  | z :: zs, acc, o5, o6, hz, hl => by
    obtain ⟨⟨b, y⟩, a⟩ := z
    rw [List.length_cons] at hl
    have hg := get_last (x := .lst (acc.map D.str)) (mu1 := h) hm
    have hi' : ∀ A, (h ++ [.lst A])[i]? = some (.lst (T.map D.str)) := fun A => by rw [List.getElem?_append_left (List.getElem?_eq_some_iff.mp hi).1, hi]
    have hin : ∀ A, gIn false (.str y) (.ref i) (h ++ [.lst A]) = .ok (.bl (T.contains y)) (h ++ [.lst A]) := fun A => by
      rw [gIn_names (ns := T) (by rw [rdQ_ref, atL_ap, hi']; rfl) (fun z e => by cases e)]
      cases T.contains y <;> rfl
    have hba := hz ((b, y), a) (by simp)
    have key : ∀ xs : List Str, xs.length ≤ 1 → ptIn [some core, some (.ref n), some pr, some (.ref m), some (sbD (.call c as0)), some (itemD (b, y)), some (argD a)] (h ++ [.lst (acc.map D.str)]) = .ok (.nx [some core, some (.ref n), some pr, some (.ref m), some (sbD (.call c as0)), some (itemD (b, y)), some (argD a)]) (h ++ [.lst ((acc ++ xs).map D.str)]) → pz1 T ((b, y), a) = xs → loopF (asgT 2 (asgCons (asgN 5) (asgCons (asgN 6) asgNil))) ptIn [5, 6] [] ((((b, y), a) :: zs).map fun p => .tup [itemD p.1, argD p.2]) [some core, some (.ref n), some pr, some (.ref m), some (sbD (.call c as0)), o5, o6] (h ++ [.lst (acc.map D.str)]) = .ok (.nx [some core, some (.ref n), some pr, some (.ref m), some (sbD (.call c as0)), none, none]) (h ++ [.lst ((acc ++ (((b, y), a) :: zs).flatMap (pz1 T)).map D.str)]) := fun xs hx st e => by
      have ih := pt_inner (core := core) (pr := pr) (as0 := as0) (T := T) hm hd hi zs (acc ++ xs) (some (itemD (b, y))) (some (argD a)) (fun q hq => hz q (by simp [hq])) (by rw [List.length_append]; omega)
      rw [List.map_cons, List.flatMap_cons, e, ← List.append_assoc]
      refine (loopF_step ?_ st).trans ih
      generalize sbD (.call c as0) = SB
      simp
    have i1 : ∀ m, gIx (sbD (.call c as0)) (.int 1) m = .ok (.str c) m := fun m => by simp [sbD]
    have k0 : ∀ m, gIx (itemD (b, y)) (.int 0) m = .ok (.str (kindS b)) m := fun m => by simp [itemD]
    have k1 : ∀ m, gIx (itemD (b, y)) (.int 1) m = .ok (.str y) m := fun m => by simp [itemD]
    have ka : (kindS b == Str.ofString "array") = b := kind_arr
    cases b with
    | false =>
      refine key [] (by simp) ?_ ?_
      · generalize sbD (.call c as0) = SB at *
        rw [List.append_nil]
        generalize acc.map D.str = A
        simp [ptIn, k0, gEq_strs, ka]
      · cases a <;> rfl
    | true =>
      cases a with
      | none => cases hba
      | some x =>
        have a1 : ∀ m, gIx (argD (some x)) (.int 1) m = .ok (.str x) m := fun m => by simp [argD]
        cases hT : T.contains y with
        | false =>
          refine key [] (by simp) ?_ (show (if (true && T.contains y) = true then [x] else []) = [] by rw [hT]; rfl)
          generalize sbD (.call c as0) = SB at *
          rw [List.append_nil]
          generalize acc.map D.str = A at *
          rw [hT] at hin
          simp [ptIn, k0, k1, gEq_strs, ka, i1, hd, hin]
        | true =>
          refine key [x] (by simp) ?_ (show (if (true && T.contains y) = true then [x] else []) = [x] by rw [hT]; rfl)
          have ha : gAppend (.ref m) [.str x] (h ++ [.lst (acc.map D.str)]) = .ok .non (h ++ [.lst ((acc ++ [x]).map D.str)]) := by
            rw [append_ok hg (by rw [List.length_map, sizeLine_eq]; omega), set_last hm, List.map_append]; rfl
          generalize sbD (.call c as0) = SB at *
          generalize (acc ++ [x]).map D.str = A2 at *
          generalize acc.map D.str = A at *
          rw [hT] at hin
          simp [ptIn, k0, k1, gEq_strs, ka, i1, hd, hin, lstK_ref hg, a1, ha]
theorem pz_len (T : List Str) : ∀ (zs : List ((Bool × Str) × Option Str)), (zs.flatMap (pz1 T)).length ≤ zs.length
  | [] => by simp
  | z :: zs => by
    have := pz_len T zs
    rw [List.flatMap_cons, List.length_append, List.length_cons]
    have h1 : (pz1 T z).length ≤ 1 := by
      unfold pz1
      split
      · split <;> simp
      · simp
    omega
noncomputable def ptD : List D → M Rv := fgt (den_passed_to (stmtL 4) den_proc_named)
theorem passed_ok {ps : List P1} {p : P1} {n : Nat} {pl : Str → Nat} {tb : Str → List Str} {mu : List MO} (hl : p.body.length < 1000) (hb : ∀ t ∈ p.body, CallOk ps t.2) (hc : CloH mu) (ht : TabH ps n pl tb mu) :
    ptD [coreD ps, .ref n, procD p] mu = .ok (.fr ((pt tb ps p).map D.str)) mu := by
  obtain ⟨e', mu', h1, ⟨o4, rfl, rfl, _⟩⟩ := flat_loop (asg := asgN 4) (body := ptBody) (fg := [4]) (f := fun b a => a ++ ptB tb ps b)
    (I := fun k (acc : List Str) env m => ∃ o4, env = [some (coreD ps), some (.ref n), some (procD p), some (.ref mu.length), o4, none, none] ∧ m = mu ++ [.lst (acc.map D.str)] ∧ acc.length + 10 * k < 20000)
    p.body [] [some (coreD ps), some (.ref n), some (procD p), some (.ref mu.length), none, none, none] (mu ++ [.lst []])
    (fun t hmem k acc env m ⟨o4, he, hm, hk⟩ => by
      subst he hm
      obtain ⟨w, b⟩ := t
      have hco := hb (w, b) hmem
      cases b with
      | call c as =>
        obtain ⟨q, hq, hql, hq10, hqz⟩ := hco
        obtain ⟨hqm, hqn⟩ := find_name hq
        have hcm : c ∈ ps.map (·.name) := by rw [← hqn]; exact List.mem_map_of_mem hqm
        have hzl : (q.items.zip as).length ≤ 10 := by rw [List.length_zip]; omega
        have hd : ∀ A, gDget (.ref n) (.str c) (mu ++ [.lst A]) = .ok (.ref (pl c)) (mu ++ [.lst A]) := fun A => gDget_at (by
          rw [rdD_ref, atD_ap, List.getElem?_append_left (List.getElem?_eq_some_iff.mp ht.dk).1, ht.dk]; rfl) (tab_val ps hcm)
        have hi : mu[pl c]? = some (.lst ((tb c).map D.str)) := by
          have := ht.ls q hqm
          rw [hqn] at this; exact this
        have hin := pt_inner (core := coreD ps) (pr := procD p) (n := n) (m := mu.length) (c := c) (as0 := as) (T := tb c) (h := mu) rfl hd hi (q.items.zip as) acc none none hqz (by omega)
        have hit : itemsOf ps c = q.items := by unfold itemsOf; rw [hq]; rfl
        have hf : acc ++ ptB tb ps (.call c as) = acc ++ (q.items.zip as).flatMap (pz1 (tb c)) := by
          show acc ++ ((itemsOf ps c).zip as).flatMap (pz1 (tb c)) = _
          rw [hit]
        have hlen := pz_len (tb c) (q.items.zip as)
        refine ⟨_, [some (coreD ps), some (.ref n), some (procD p), some (.ref mu.length), some (sbD (.call c as)), none, none], mu ++ [.lst ((acc ++ ptB tb ps (.call c as)).map D.str)], rfl, ?_, ⟨_, rfl, rfl, by rw [hf, List.length_append]; omega⟩⟩
        rw [hf]
        have z1 : zipD (q.items.map itemD) (as.map argD) = (q.items.zip as).map fun p => .tup [itemD p.1, argD p.2] := zipD_map _ _
        rw [← z1] at hin
        have pn := fun m => proc_named_ok (mu := m) hq
        have pi := fun m => procD_items (p := q) (mu := m)
        have i0 : ∀ m, gIx (sbD (.call c as)) (.int 0) m = .ok (.str "call") m := fun m => by simp [sbD]
        have i1 : ∀ m, gIx (sbD (.call c as)) (.int 1) m = .ok (.str c) m := fun m => by simp [sbD]
        have i2 : ∀ m, gIx (sbD (.call c as)) (.int 2) m = .ok (.tup (as.map argD)) m := fun m => by simp [sbD]
        have zo := fun m => zip_ok (xs := q.items.map itemD) (ys := as.map argD) (mu := m)
        generalize (acc ++ (q.items.zip as).flatMap (pz1 (tb c))).map D.str = A2 at hin ⊢
        generalize acc.map D.str = A at hin ⊢
        generalize zipD (q.items.map itemD) (as.map argD) = Z at hin zo
        generalize q.items.map itemD = QI at pi zo
        generalize as.map argD = AS at i2 zo
        generalize sbD (.call c as) = SB at *
        generalize coreD ps = CO at *
        simp [ptBody, i0, i1, i2, gEq_strs, pn, pi, zo, hin]
      | store x i =>
        refine ⟨_, [some (coreD ps), some (.ref n), some (procD p), some (.ref mu.length), some (sbD (.store x i)), none, none], mu ++ [.lst (acc.map D.str)], rfl, ?_, ⟨_, rfl, by simp [ptB], by simp [ptB]; omega⟩⟩
        have hk : (Str.ofString "store" == Str.ofString "call") = false := by decide +kernel
        generalize acc.map D.str = A
        simp [ptBody, sbD, gEq_strs, hk]
      | push i x =>
        refine ⟨_, [some (coreD ps), some (.ref n), some (procD p), some (.ref mu.length), some (sbD (.push i x)), none, none], mu ++ [.lst (acc.map D.str)], rfl, ?_, ⟨_, rfl, by simp [ptB], by simp [ptB]; omega⟩⟩
        have hk : (Str.ofString "push" == Str.ofString "call") = false := by decide +kernel
        generalize acc.map D.str = A
        simp [ptBody, sbD, gEq_strs, hk]
      | pop x =>
        refine ⟨_, [some (coreD ps), some (.ref n), some (procD p), some (.ref mu.length), some (sbD (.pop x)), none, none], mu ++ [.lst (acc.map D.str)], rfl, ?_, ⟨_, rfl, by simp [ptB], by simp [ptB]; omega⟩⟩
        have hk : (Str.ofString "pop" == Str.ofString "call") = false := by decide +kernel
        generalize acc.map D.str = A
        simp [ptBody, sbD, gEq_strs, hk])
    (fun d ⟨kk, r, hd, hkk⟩ k acc env m ⟨o4, he, hm, hk⟩ => by
      subst hd he hm
      refine ⟨_, [some (coreD ps), some (.ref n), some (procD p), some (.ref mu.length), some (.tup (.str kk :: r)), none, none], _, rfl, ?_, ⟨_, rfl, rfl, hk⟩⟩
      have hn : (kk == Str.ofString "call") = false := by rcases hkk with rfl | rfl | rfl <;> decide +kernel
      generalize acc.map D.str = A
      simp [ptBody, gEq_strs, hn]) ⟨none, rfl, rfl, by simp; omega⟩
  rw [foldl_app, List.nil_append] at h1
  have hst := stmts_ok (m := 1) (ts := p.body) hl (hc.snoc_flat (xs := []) rfl)
  have er : r_passed_to (stmtL 4) den_proc_named = sSeq (sSet 3 (eNew (aList aNil))) (sSeq (sFor (eWalk (eCall (lenD 1 (stmtL 4)) (aCons (eBin gIx (eVar 2) (eC (.int 8))) aNil))) (asgN 4) ptBody [4]) (sRet (eVar 3))) := rfl
  have e : den_passed_to (stmtL 4) den_proc_named [coreD ps, .ref n, procD p] mu = .ok (.vl (.ref mu.length)) (mu ++ [.lst ((pt tb ps p).map D.str)]) := by
    refine noX_ok ?_
    rw [er]
    have b8 := fun m => procD_body (p := p) (mu := m)
    have h1 : loopF (asgN 4) ptBody [4] [] (p.body.flatMap flatS) [some (coreD ps), some (.ref n), some (procD p), some (.ref mu.length), none, none, none] (mu ++ [.lst []]) = .ok (.nx [some (coreD ps), some (.ref n), some (procD p), some (.ref mu.length), none, none, none]) (mu ++ [.lst ((pt tb ps p).map D.str)]) := h1
    generalize (pt tb ps p).map D.str = Y at h1 ⊢
    generalize p.body.flatMap flatS = X at h1 hst
    generalize coreD ps = CO at *
    simp [startE, b8, hst, h1]
  exact fgt_list e rfl hc (Nat.le_refl _) (get_last rfl) (flats_clo _ (strs_flat _))
end K01
namespace MP
open PySem L2 PyProof.Rows
section
variable {asg : D → Env → M Env} {t : Env → M Bool} {rk r : Env → M D} {env : Env} {mu : List MO}
theorem loopCD_nil {acc : List (Key × D)} : loopCD asg t rk r [] [] env acc mu = .ok acc mu := by
  show ((chk [] : M Unit) >>= fun _ => (pure acc : M (List (Key × D)))) mu = _
  rw [bind_ap, chk_nil]; rfl
theorem loopCD_yes {d x y : D} {ds : List D} {acc : List (Key × D)} {env1 : Env} {k : Key} {mu1 mu2 mu3 : List MO} (h1 : asg d env mu = .ok env1 mu1) (h2 : t env1 mu1 = .ok true mu1) (h3 : rk env1 mu1 = .ok y mu2) (h4 : r env1 mu2 = .ok x mu3) (h5 : toK y mu3 = .ok k mu3) :
    loopCD asg t rk r [] (d :: ds) env acc mu = loopCD asg t rk r [] ds env (putD acc k x) mu3 := by
  show ((chk [] : M Unit) >>= fun _ => asg d env >>= fun env1 => t env1 >>= fun b => if b = true then (rk env1 >>= fun y => r env1 >>= fun x => toK y >>= fun k => loopCD asg t rk r [] ds env (putD acc k x)) else loopCD asg t rk r [] ds env acc) mu = _
  rw [bind_ap, chk_nil]
  simp [h1, h2, h3, h4, h5]
end
theorem loopW_go {c : Env → M Bool} {body : Env → M Fl} {fg : List Nat} {n : Nat} {env e : Env} {mu mu1 mu2 : List MO} (h1 : c (wipeE env fg) mu = .ok true mu1) (h2 : body (wipeE env fg) mu1 = .ok (.nx e) mu2) : loopW c body fg (n + 1) env mu = loopW c body fg n e mu2 := by
  simp [loopW, h1, h2]
theorem loopW_stop {c : Env → M Bool} {body : Env → M Fl} {fg : List Nat} {n : Nat} {env : Env} {mu mu1 : List MO} (h1 : c (wipeE env fg) mu = .ok false mu1) : loopW c body fg (n + 1) env mu = .ok (.nx (wipeE env fg)) mu1 := by
  simp [loopW, h1]
theorem CloH.set {mu : List MO} {i : Nat} {xs : List D} (h : CloH mu) (hf : flats xs = true) : CloH (mu.set i (.lst xs)) := fun o ho => by
  rw [List.length_set]
  rcases List.mem_or_eq_of_mem_set ho with z | z
  · exact h o z
  · rw [z]; exact flats_clo xs hf
end MP
namespace K01
open PySem L2 PyProof.Rows MP
abbrev Tb := Str → List Str
def updT (tb : Tb) (z x : Str) : Tb := fun y => if y = z then tb z ++ [x] else tb y
theorem updT_same {tb : Tb} {z x : Str} : updT tb z x z = tb z ++ [x] := if_pos rfl
theorem updT_ne {tb : Tb} {z x y : Str} (h : y ≠ z) : updT tb z x y = tb y := if_neg h
theorem updT_sub {tb : Tb} {z x : Str} (y : Str) : ∀ w ∈ tb y, w ∈ updT tb z x y := fun w hw => by
  by_cases h : y = z
  · subst h; rw [updT_same]; exact List.mem_append.mpr (.inl hw)
  · rw [updT_ne h]; exact hw
/-- all names that a procedure may hand on -/
def alB : Sb → List Str
  | .call _ as => as.filterMap id
  | _ => []
def al (p : P1) : List Str := p.body.flatMap fun t => alB t.2
theorem pt_al {tb : Tb} {ps : List P1} {p : P1} : ∀ x ∈ pt tb ps p, x ∈ al p := fun x hx => by
  obtain ⟨t, ht, hx⟩ := List.mem_flatMap.mp hx
  refine List.mem_flatMap.mpr ⟨t, ht, ?_⟩
  cases hb : t.2 with
  | call c as =>
    rw [hb] at hx
    obtain ⟨z, hz, hx⟩ := List.mem_flatMap.mp (show x ∈ ((itemsOf ps c).zip as).flatMap (pz1 (tb c)) from hx)
    obtain ⟨it, a⟩ := z
    have ha : a ∈ as := (List.of_mem_zip hz).2
    show x ∈ as.filterMap id
    unfold pz1 at hx
    cases a with
    | none => cases hx
    | some y =>
      have hx : x ∈ if (it.1 && (tb c).contains it.2) = true then [y] else [] := hx
      split at hx
      · rw [List.mem_singleton.mp hx]
        exact List.mem_filterMap.mpr ⟨some y, ha, rfl⟩
      · cases hx
  | store y i => rw [hb] at hx; cases hx
  | push i y => rw [hb] at hx; cases hx
  | pop y => rw [hb] at hx; cases hx
/-- how many of them are not yet there -/
def miss (tb : Tb) (p : P1) : Nat := (al p).countP fun x => !(tb p.name).contains x
def missA (tb : Tb) (ps : List P1) : Nat := (ps.map (miss tb)).sum
theorem miss_le {tb tb' : Tb} {p : P1} (h : ∀ x ∈ tb p.name, x ∈ tb' p.name) : miss tb' p ≤ miss tb p := by
  unfold miss
  refine List.countP_mono_left fun x _ hx => ?_
  simp only [Bool.not_eq_true', List.contains_eq_mem, decide_eq_false_iff_not] at hx ⊢
  exact fun z => hx (h x z)
theorem countP_lt {α : Type} {P Q : α → Bool} : ∀ (l : List α), (∀ y, Q y = true → P y = true) → (∃ x ∈ l, P x = true ∧ Q x = false) → l.countP Q < l.countP P
  | [], _, ⟨x, hx, _⟩ => by cases hx
  | a :: l, hm, ⟨x, hx, hp, hq⟩ => by
    have hle : l.countP Q ≤ l.countP P := List.countP_mono_left fun y _ hy => hm y hy
    rcases List.mem_cons.mp hx with rfl | hx
    · rw [List.countP_cons_of_pos hp, List.countP_cons_of_neg (by rw [hq]; decide)]; omega
    · have ih := countP_lt l hm ⟨x, hx, hp, hq⟩
      rw [List.countP_cons, List.countP_cons]
      have := hm a
      cases hqa : Q a with
      | false => simp; omega
      | true => rw [this hqa]; simp; omega
theorem miss_lt {tb tb' : Tb} {p : P1} {x : Str} (h : ∀ x ∈ tb p.name, x ∈ tb' p.name) (hx : x ∈ al p) (h1 : ¬ x ∈ tb p.name) (h2 : x ∈ tb' p.name) : miss tb' p < miss tb p := by
  unfold miss
  refine countP_lt _ (fun y hy => ?_) ⟨x, hx, by simpa using h1, by simpa using h2⟩
  simp only [Bool.not_eq_true', List.contains_eq_mem, decide_eq_false_iff_not] at hy ⊢
  exact fun z => hy (h y z)
theorem missA_le {tb tb' : Tb} : ∀ (ps : List P1), (∀ p ∈ ps, ∀ x ∈ tb p.name, x ∈ tb' p.name) → missA tb' ps ≤ missA tb ps
  | [], _ => Nat.le_refl _
  | p :: ps, h => by
    have h1 := miss_le (h p (by simp))
    have h2 := missA_le ps fun q hq => h q (by simp [hq])
    show miss tb' p + missA tb' ps ≤ miss tb p + missA tb ps
    omega
theorem missA_lt {tb tb' : Tb} {p : P1} {x : Str} : ∀ (ps : List P1), p ∈ ps → (∀ p ∈ ps, ∀ x ∈ tb p.name, x ∈ tb' p.name) → x ∈ al p → ¬ x ∈ tb p.name → x ∈ tb' p.name → missA tb' ps < missA tb ps
  | [], hp, _, _, _, _ => by cases hp
  | q :: ps, hp, h, h1, h2, h3 => by
    show miss tb' q + missA tb' ps < miss tb q + missA tb ps
    rcases List.mem_cons.mp hp with rfl | hp
    · have a := miss_lt (h _ (by simp)) h1 h2 h3
      have b := missA_le ps fun q hq => h q (by simp [hq])
      omega
    · have a := missA_lt ps hp (fun q hq => h q (by simp [hq])) h1 h2 h3
      have b := miss_le (h q (by simp))
      omega
/-- one turn's outcome -/
structure Step (ps : List P1) (S : Str → Str → Prop) (tb : Tb) (g : Bool) (tb' : Tb) (g' : Bool) : Prop where
  sub : ∀ z, ∀ x ∈ tb z, x ∈ tb' z
  same : g' = false → g = false ∧ tb' = tb
  less : g = false → g' = true → missA tb' ps < missA tb ps
  sound : (∀ p ∈ ps, ∀ y ∈ tb p.name, S p.name y) → ∀ p ∈ ps, ∀ y ∈ tb' p.name, S p.name y
theorem Step.refl {ps : List P1} {S : Str → Str → Prop} {tb : Tb} {g : Bool} : Step ps S tb g tb g := ⟨fun _ _ h => h, fun h => ⟨h, rfl⟩, fun h h' => absurd (h.symm.trans h') (by decide), fun h => h⟩
theorem Step.missA {ps : List P1} {S : Str → Str → Prop} {tb tb' : Tb} {g g' : Bool} (h : Step ps S tb g tb' g') : missA tb' ps ≤ missA tb ps := missA_le ps fun p _ x hx => h.sub p.name x hx
theorem Step.trans {ps : List P1} {S : Str → Str → Prop} {tb tb1 tb2 : Tb} {g g1 g2 : Bool} (a : Step ps S tb g tb1 g1) (b : Step ps S tb1 g1 tb2 g2) : Step ps S tb g tb2 g2 := by
  refine ⟨fun z x hx => b.sub z x (a.sub z x hx), fun h => ?_, fun h h' => ?_, fun h => b.sound (a.sound h)⟩
  · obtain ⟨h1, e1⟩ := b.same h
    obtain ⟨h2, e2⟩ := a.same h1
    exact ⟨h2, e1.trans e2⟩
  · cases hg : g1 with
    | false =>
      have := b.less hg h'
      have := a.missA
      omega
    | true =>
      have := a.less h hg
      have := b.missA
      omega
/-- the heap with the table, above mu -/
structure HT (mu : List MO) (ps : List P1) (n : Nat) (pl : Str → Nat) (tb : Tb) (h : List MO) : Prop where
  tab : TabH ps n pl tb h
  clo : CloH h
  pre : ∃ ex, h = mu ++ ex
  lo : mu.length ≤ n ∧ ∀ p ∈ ps, mu.length ≤ pl p.name ∧ pl p.name ≠ n
  cap : ∀ p ∈ ps, (tb p.name).length + miss tb p ≤ 20000
  nd : (ps.map (·.name)).Nodup
theorem nodup_eq {ps : List P1} (h : (ps.map (·.name)).Nodup) {p q : P1} (hp : p ∈ ps) (hq : q ∈ ps) (e : p.name = q.name) : p = q := by
  induction ps with
  | nil => cases hp
  | cons a ps ih =>
    have h' := List.nodup_cons.mp h
    rcases List.mem_cons.mp hp with rfl | hp1 <;> rcases List.mem_cons.mp hq with rfl | hq1
    · rfl
    · exact (h'.1 (List.mem_map.mpr ⟨q, hq1, e.symm⟩)).elim
    · exact (h'.1 (List.mem_map.mpr ⟨p, hp1, e⟩)).elim
    · exact ih h'.2 hp1 hq1
theorem HT.append {mu h : List MO} {ps : List P1} {n : Nat} {pl : Str → Nat} {tb : Tb} {p : P1} {x : Str} (H : HT mu ps n pl tb h) (hp : p ∈ ps) (hx : x ∈ al p) (hn : ¬ x ∈ tb p.name) : ∃ h', gAppend (.ref (pl p.name)) [.str x] h = .ok .non h' ∧ HT mu ps n pl (updT tb p.name x) h' := by
  have hl := H.tab.ls p hp
  have hcap := H.cap p hp
  have hz : ((tb p.name).map D.str).length < sizeLine := by rw [List.length_map, sizeLine_eq]; omega
  have hm : miss (updT tb p.name x) p < miss tb p := miss_lt (updT_sub p.name) hx hn (by rw [updT_same]; simp)
  obtain ⟨ex, rfl⟩ := H.pre
  have hlo := (H.lo.2 p hp).1
  refine ⟨_, append_ok (d := .str x) hl hz, ⟨?_, ?_, ?_⟩, ?_, ?_, H.lo, ?_, H.nd⟩
  · rw [List.getElem?_set_ne (H.lo.2 p hp).2]; exact H.tab.dk
  · intro q hq
    by_cases e : q.name = p.name
    · rw [e, updT_same, List.map_append, List.getElem?_set_self (List.getElem?_eq_some_iff.mp hl).1]; rfl
    · rw [updT_ne e, List.getElem?_set_ne (fun z => e (H.tab.inj q hq p hp z.symm))]
      exact H.tab.ls q hq
  · exact H.tab.inj
  · exact H.clo.set (flats_app (strs_flat _) rfl)
  · exact ⟨_, List.set_append_right _ _ hlo⟩
  · intro q hq
    by_cases e : q.name = p.name
    · rw [nodup_eq H.nd hq hp e, updT_same, List.length_append, List.length_singleton]; omega
    · have := H.cap q hq
      have hmq : miss (updT tb p.name x) q ≤ miss tb q := miss_le (updT_sub q.name)
      rw [updT_ne e]; omega
end K01
namespace K01
open PySem L2 PyProof.Rows MP
abbrev Inv (ps : List P1) (S : Str → Str → Prop) (tb : Tb) : Prop := ∀ p ∈ ps, ∀ y ∈ tb p.name, S p.name y
noncomputable def nameBody : MP.Env → M Fl := eIf (eB (eBin (gIn true) (eVar 4) (eBin gDget (eVar 1) (eBin gIx (eVar 3) (eC (.int 0))))))
  (sSeq (sExpr (eMeth lstK gAppend (eBin gDget (eVar 1) (eBin gIx (eVar 3) (eC (.int 0)))) (aCons (eVar 4) aNil)))
  (sSet 2 (eC (.bl true))))
  sNext
noncomputable def procBody : MP.Env → M Fl := sFor (eWalk (eCall (lenD 3 ptD) (aCons (eVar 0) (aCons (eVar 1) (aCons (eVar 3) aNil))))) (asgN 4) nameBody [4]
theorem updT_inv {ps : List P1} {S : Str → Str → Prop} {tb : Tb} {p : P1} {x : Str} (h : Inv ps S tb) (hx : S p.name x) : Inv ps S (updT tb p.name x) := fun q hq y hy => by
  by_cases e : q.name = p.name
  · rw [e, updT_same] at hy
    rcases List.mem_append.mp hy with z | z
    · rw [← e] at z; exact h q hq y z
    · rw [List.mem_singleton.mp z, e]; exact hx
  · rw [updT_ne e] at hy; exact h q hq y hy
theorem names_loop {mu : List MO} {ps : List P1} {n : Nat} {pl : Str → Nat} {S : Str → Str → Prop} {p : P1} (hp : p ∈ ps) {c : D} : ∀ (xs : List Str) (tb : Tb) (g : Bool) (h : List MO) (o4 : Option D), HT mu ps n pl tb h → (∀ x ∈ xs, x ∈ al p) → (Inv ps S tb → ∀ x ∈ xs, S p.name x) →
    ∃ tb' g' h', loopF (asgN 4) nameBody [4] [] (xs.map D.str) [some c, some (.ref n), some (.bl g), some (procD p), o4] h = .ok (.nx [some c, some (.ref n), some (.bl g'), some (procD p), none]) h' ∧ HT mu ps n pl tb' h' ∧ Step ps S tb g tb' g' ∧ ∀ x ∈ xs, x ∈ tb' p.name
  | [], tb, g, h, o4, H, _, _ => ⟨tb, g, h, by
    show loopF _ _ _ [] [] _ _ = _
    rw [loopF_nil]; rfl, H, .refl, by simp⟩
  | x :: xs, tb, g, h, o4, H, ha, hs => by
    have hv := tab_val (pl := pl) ps (List.mem_map_of_mem hp : p.name ∈ ps.map (·.name))
    have hd : gDget (.ref n) (.str p.name) h = .ok (.ref (pl p.name)) h := gDget_at (by rw [rdD_ref, atD_ap, H.tab.dk]; rfl) hv
    have hl := H.tab.ls p hp
    have hin : gIn true (.str x) (.ref (pl p.name)) h = .ok (.bl ((tb p.name).contains x != true)) h := gIn_names (by rw [rdQ_ref, atL_ap, hl]; rfl) fun z e => by cases e
    have pn := fun m => procD_name (p := p) (mu := m)
    by_cases hx : x ∈ tb p.name
    · have hc : (tb p.name).contains x = true := by simpa using hx
      obtain ⟨tb', g', h', e, H', st, hm⟩ := names_loop (S := S) hp (c := c) xs tb g h (some (.str x)) H (fun y hy => ha y (by simp [hy])) fun i y hy => hs i y (by simp [hy])
      refine ⟨tb', g', h', ?_, H', st, fun y hy => ?_⟩
      · rw [List.map_cons]
        refine (loopF_step rfl ?_).trans e
        rw [hc] at hin
        generalize procD p = PD at *
        simp [nameBody, pn, hd, hin]
      · rcases List.mem_cons.mp hy with rfl | hy
        · exact st.sub p.name _ hx
        · exact hm y hy
    · have hc : (tb p.name).contains x = false := by simpa using hx
      obtain ⟨h1, e1, H1⟩ := H.append hp (ha x (by simp)) hx
      obtain ⟨tb', g', h', e, H', st, hm⟩ := names_loop (S := S) hp (c := c) xs (updT tb p.name x) true h1 (some (.str x)) H1 (fun y hy => ha y (by simp [hy])) fun i y hy => hs (fun q hq z hz => i q hq z (updT_sub q.name z hz)) y (by simp [hy])
      have st1 : Step ps S tb g (updT tb p.name x) true := ⟨updT_sub, fun z => (by cases z), fun _ _ => missA_lt ps hp (fun q _ => updT_sub q.name) (ha x (by simp)) hx (by rw [updT_same]; simp), fun i => updT_inv i (hs i x (by simp))⟩
      refine ⟨tb', g', h', ?_, H', st1.trans st, fun y hy => ?_⟩
      · rw [List.map_cons]
        refine (loopF_step rfl ?_).trans e
        rw [hc] at hin
        have hk := lstK_ref hl
        generalize procD p = PD at *
        simp [nameBody, pn, hd, hin, hk, e1]
      · rcases List.mem_cons.mp hy with rfl | hy
        · exact st.sub p.name _ (by rw [updT_same]; simp)
        · exact hm y hy
theorem procs_loop {mu : List MO} {ps : List P1} {n : Nat} {pl : Str → Nat} {S : Str → Str → Prop} (hS : ∀ tb, Inv ps S tb → ∀ p ∈ ps, ∀ y ∈ pt tb ps p, S p.name y) (hb : ∀ p ∈ ps, p.body.length < 1000 ∧ ∀ t ∈ p.body, CallOk ps t.2) : ∀ (qs : List P1) (tb : Tb) (g : Bool) (h : List MO) (o3 o4 : Option D), (∀ q ∈ qs, q ∈ ps) → HT mu ps n pl tb h →
    ∃ tb' g' h', loopF (asgN 3) procBody [3, 4] [] (qs.map procD) [some (coreD ps), some (.ref n), some (.bl g), o3, o4] h = .ok (.nx [some (coreD ps), some (.ref n), some (.bl g'), none, none]) h' ∧ HT mu ps n pl tb' h' ∧ Step ps S tb g tb' g' ∧ (g' = false → ∀ q ∈ qs, ∀ x ∈ pt tb ps q, x ∈ tb q.name)
  | [], tb, g, h, o3, o4, _, H => ⟨tb, g, h, by
    show loopF _ _ _ [] [] _ _ = _
    rw [loopF_nil]; rfl, H, .refl, by simp⟩
  | q :: qs, tb, g, h, o3, o4, hq, H => by
    have hqp := hq q (by simp)
    have hp := passed_ok (hb q hqp).1 (hb q hqp).2 H.clo H.tab
    obtain ⟨tb1, g1, h1, e1, H1, s1, m1⟩ := names_loop (S := S) hqp (c := coreD ps) (pt tb ps q) tb g h none H pt_al fun i => hS tb i q hqp
    obtain ⟨tb2, g2, h2, e2, H2, s2, m2⟩ := procs_loop hS hb qs tb1 g1 h1 (some (procD q)) none (fun x hx => hq x (by simp [hx])) H1
    refine ⟨tb2, g2, h2, ?_, H2, s1.trans s2, fun hg r hr => ?_⟩
    · rw [List.map_cons]
      refine (loopF_step (e := [some (coreD ps), some (.ref n), some (.bl g1), some (procD q), none]) rfl ?_).trans e2
      generalize coreD ps = CO at *
      generalize procD q = PD at *
      generalize (pt tb ps q).map D.str = XS at *
      simp [procBody, hp, e1]
    · obtain ⟨hg1, et⟩ := s2.same hg
      obtain ⟨_, et1⟩ := s1.same hg1
      rcases List.mem_cons.mp hr with rfl | hr
      · intro x hx
        have := m1 x hx
        rw [et1] at this; exact this
      · have := m2 hg r hr
        rw [et1] at this; exact this
noncomputable def turnBody : MP.Env → M Fl := sSeq (sSet 2 (eC (.bl false))) (sFor (eWalk (eVar 0)) (asgN 3) procBody [3, 4])
theorem while_loop {mu : List MO} {ps : List P1} {n : Nat} {pl : Str → Nat} {S : Str → Str → Prop} (hS : ∀ tb, Inv ps S tb → ∀ p ∈ ps, ∀ y ∈ pt tb ps p, S p.name y) (hb : ∀ p ∈ ps, p.body.length < 1000 ∧ ∀ t ∈ p.body, CallOk ps t.2) : ∀ (k : Nat) (tb : Tb) (h : List MO) (o3 o4 : Option D) (f : Nat), missA tb ps ≤ k → HT mu ps n pl tb h →
    ∃ tb' h', loopW (eB (eVar 2)) turnBody [3] (f + k + 2) [some (coreD ps), some (.ref n), some (.bl true), o3, o4] h = .ok (.nx [some (coreD ps), some (.ref n), some (.bl false), none, none]) h' ∧ HT mu ps n pl tb' h' ∧ (∀ z, ∀ x ∈ tb z, x ∈ tb' z) ∧ (Inv ps S tb → Inv ps S tb') ∧ ∀ q ∈ ps, ∀ x ∈ pt tb' ps q, x ∈ tb' q.name := by
  intro k
  induction k with
  | zero =>
    intro tb h o3 o4 f hk H
    obtain ⟨tb', g', h', e, H', st, m⟩ := procs_loop hS hb ps tb false h none o4 (fun q hq => hq) H
    cases g' with
    | true => have := st.less rfl rfl; omega
    | false =>
      obtain ⟨_, et⟩ := st.same rfl
      have w : walkD (coreD ps) h = .ok (ps.map procD, []) h := rfl
      refine ⟨tb', h', ?_, H', st.sub, st.sound, ?_⟩
      · rw [show f + 0 + 2 = (f + 1) + 1 from rfl, loopW_go (mu1 := h) (mu2 := h') (e := [some (coreD ps), some (.ref n), some (.bl false), none, none]) (by simp) ?_]
        · rw [loopW_stop (mu1 := h') (by simp)]; rfl
        · generalize coreD ps = CO at *
          simp [turnBody, w, e]
      · rw [et]; exact m rfl
  | succ k ih =>
    intro tb h o3 o4 f hk H
    obtain ⟨tb', g', h', e, H', st, m⟩ := procs_loop hS hb ps tb false h none o4 (fun q hq => hq) H
    have w : walkD (coreD ps) h = .ok (ps.map procD, []) h := rfl
    have stp : turnBody (wipeE [some (coreD ps), some (.ref n), some (.bl true), o3, o4] [3]) h = .ok (.nx [some (coreD ps), some (.ref n), some (.bl g'), none, none]) h' := by
      generalize coreD ps = CO at *
      simp [turnBody, w, e]
    rw [show f + (k + 1) + 2 = (f + k + 2) + 1 from by omega, loopW_go (mu1 := h) (by simp) stp]
    cases g' with
    | false =>
      obtain ⟨_, et⟩ := st.same rfl
      refine ⟨tb', h', ?_, H', st.sub, st.sound, ?_⟩
      · rw [show f + k + 2 = (f + k + 1) + 1 from rfl, loopW_stop (mu1 := h') (by simp)]; rfl
      · rw [et]; exact m rfl
    | true =>
      have := st.less rfl rfl
      obtain ⟨tb2, h2, e2, H2, s2, i2, m2⟩ := ih tb' h' none none f (by omega) H'
      exact ⟨tb2, h2, e2, H2, fun z x hx => s2 z x (st.sub z x hx), fun i => i2 (st.sound i), m2⟩
end K01
namespace K01
open PySem L2 PyProof.Rows MP
def build : Nat → List P1 → List (Key × D)
  | _, [] => []
  | b, p :: ps => (.inr p.name, .ref b) :: build (b + 1) ps
def lists (ps : List P1) : List MO := ps.map fun p => .lst ((ch p).map D.str)
theorem lists_flo (ps : List P1) : FlO (lists ps) := fun o ho => by
  obtain ⟨p, _, e⟩ := List.mem_map.mp ho
  exact ⟨_, e.symm, strs_flat _⟩
theorem putD_new {β : Type} {kvs : List (Key × β)} {k : Key} {y : β} (h : ∀ q ∈ kvs, q.1 ≠ k) : putD kvs k y = kvs ++ [(k, y)] := by
  unfold putD
  rw [if_neg]
  intro z
  obtain ⟨q, hq, e⟩ := List.any_eq_true.mp z
  exact h q hq (of_decide_eq_true e)
theorem comp_ok {env : MP.Env} (hi : env.length = 5) : ∀ (ps : List P1) (acc : List (Key × D)) (mu : List MO), CloH mu → (∀ p ∈ ps, p.body.length < 1000) → (∀ p ∈ ps, ∀ q ∈ acc, q.1 ≠ .inr p.name) → (ps.map (·.name)).Nodup →
    loopCD (asgN 3) tYesM (eBin gIx (eVar 3) (eC (.int 0))) (eNew (fCall (lenD 1 chD) (aCons (eVar 3) aNil))) [] (ps.map procD) env acc mu = .ok (acc ++ build mu.length ps) (mu ++ lists ps)
  | [], acc, mu, _, _, _, _ => by
    show loopCD _ _ _ _ [] [] env acc mu = _
    rw [loopCD_nil]; simp [build, lists]
  | p :: ps, acc, mu, hc, hb, hn, hnd => by
    have hg : (env.set 3 (some (procD p)))[3]? = some (some (procD p)) := List.getElem?_set_self (by omega)
    have ha := changed_ok (hb p (by simp)) hc
    have hnd' := List.nodup_cons.mp hnd
    have hput : putD acc (.inr p.name) (.ref mu.length) = acc ++ [(.inr p.name, .ref mu.length)] := putD_new (hn p (by simp))
    have ih := comp_ok (env := env) hi ps (acc ++ [(.inr p.name, .ref mu.length)]) (mu ++ [.lst ((ch p).map D.str)]) (hc.snoc_flat (strs_flat _)) (fun q hq => hb q (by simp [hq])) (fun q hq r hr => by
      rcases List.mem_append.mp hr with z | z
      · exact hn q (by simp [hq]) r z
      · rw [List.mem_singleton.mp z]
        exact fun e => hnd'.1 (List.mem_map.mpr ⟨q, hq, (Sum.inr.inj e).symm⟩)) hnd'.2
    rw [List.map_cons, loopCD_yes (env1 := env.set 3 (some (procD p))) (mu1 := mu) (mu2 := mu) (mu3 := mu ++ [.lst ((ch p).map D.str)]) (y := .str p.name) (x := .ref mu.length) (k := .inr p.name) rfl rfl (by simp [hg, procD_name]) ?_ rfl, hput, ih]
    · simp [build, lists]
    · generalize (ch p).map D.str = C at *
      simp [hg, ha]
theorem build_pl : ∀ (ps : List P1) (b : Nat), (ps.map (·.name)).Nodup → ∃ pl : Str → Nat, build b ps = ps.map (fun p => (Sum.inr p.name, D.ref (pl p.name))) ∧ ∀ p ∈ ps, ∃ i, pl p.name = b + i ∧ ps[i]? = some p
  | [], b, _ => ⟨fun _ => 0, rfl, by simp⟩
  | p :: ps, b, h => by
    have h' := List.nodup_cons.mp h
    obtain ⟨pl, e, hp⟩ := build_pl ps (b + 1) h'.2
    refine ⟨fun z => if z = p.name then b else pl z, ?_, fun q hq => ?_⟩
    · show (Sum.inr p.name, D.ref b) :: build (b + 1) ps = (Sum.inr p.name, D.ref (if p.name = p.name then b else pl p.name)) :: ps.map _
      rw [if_pos rfl, e]
      congr 1
      apply List.map_congr_left
      intro q hq
      show (Sum.inr q.name, D.ref (pl q.name)) = (Sum.inr q.name, D.ref (if q.name = p.name then b else pl q.name))
      rw [if_neg (show ¬ q.name = p.name from fun z => h'.1 (List.mem_map.mpr ⟨q, hq, z⟩))]
    · rcases List.mem_cons.mp hq with rfl | hq1
      · exact ⟨0, by simp, rfl⟩
      · obtain ⟨i, h1, h2⟩ := hp q hq1
        refine ⟨i + 1, ?_, by simpa using h2⟩
        show (if q.name = p.name then b else pl q.name) = _
        rw [if_neg fun z => h'.1 (List.mem_map.mpr ⟨q, hq1, z⟩), h1]; omega
/-- what is asked of the procedures -/
structure CoreOk (ps : List P1) : Prop where
  nd : (ps.map (·.name)).Nodup
  body : ∀ p ∈ ps, p.body.length < 1000 ∧ ∀ t ∈ p.body, CallOk ps t.2
  few : ∀ p ∈ ps, (ch p).length + (al p).length ≤ 10000
  many : ps.length ≤ 100
noncomputable def tableD : List D → M Rv := fgt (den_touched_table chD ptD)
def fls (ns : List Str) : D := .fl (ns.map D.str)
theorem table_ok {ps : List P1} {S : Str → Str → Prop} {mu : List MO} (O : CoreOk ps) (hS : ∀ tb, Inv ps S tb → ∀ p ∈ ps, ∀ y ∈ pt tb ps p, S p.name y) (hS0 : ∀ p ∈ ps, ∀ y ∈ ch p, S p.name y) (hc : CloH mu) :
    ∃ tb : Tb, tableD [coreD ps] mu = .ok (.vl (.fd (ps.map fun p => Sum.inr p.name) (ps.map fun p => fls (tb p.name)))) mu ∧ Inv ps S tb ∧ (∀ p ∈ ps, ∀ x ∈ ch p, x ∈ tb p.name) ∧ ∀ q ∈ ps, ∀ x ∈ pt tb ps q, x ∈ tb q.name := by
  obtain ⟨pl, hpl, hpi⟩ := build_pl ps mu.length O.nd
  let tb0 : Tb := fun z => ((ps.find? fun p => p.name == z).map ch).getD []
  have htb0 : ∀ p ∈ ps, tb0 p.name = ch p := fun p hp => by
    have : ps.find? (fun q => q.name == p.name) = some p := by
      cases hf : ps.find? (fun q => q.name == p.name) with
      | none => exact (List.find?_eq_none.mp hf p hp (by simp)).elim
      | some q =>
        obtain ⟨h1, h2⟩ := find_name hf
        rw [nodup_eq O.nd h1 hp h2]
    show ((ps.find? fun q => q.name == p.name).map ch).getD [] = _
    rw [this]; rfl
  have hll : (lists ps).length = ps.length := by unfold lists; simp
  have hc1 : CloH (mu ++ lists ps) := hc.flo (lists_flo ps)
  have hi : ∀ p ∈ ps, pl p.name < (mu ++ lists ps).length := fun p hp => by
    obtain ⟨i, h1, h2⟩ := hpi p hp
    have := (List.getElem?_eq_some_iff.mp h2).1
    rw [List.length_append, hll, h1]; omega
  have H : HT mu ps (mu ++ lists ps).length pl tb0 ((mu ++ lists ps) ++ [.dk (build mu.length ps)]) := by
    refine ⟨⟨?_, fun p hp => ?_, fun p hp q hq e => ?_⟩, ?_, ⟨lists ps ++ [.dk (build mu.length ps)], by rw [List.append_assoc]⟩, ⟨by simp, fun p hp => ⟨?_, ?_⟩⟩, fun p hp => ?_, O.nd⟩
    · rw [get_last rfl, hpl]
    · obtain ⟨i, h1, h2⟩ := hpi p hp
      rw [List.getElem?_append_left (hi p hp), h1, List.getElem?_append_right (by omega), show mu.length + i - mu.length = i from by omega, htb0 p hp]
      unfold lists
      rw [List.getElem?_map, h2]; rfl
    · obtain ⟨i, h1, h2⟩ := hpi p hp
      obtain ⟨j, h3, h4⟩ := hpi q hq
      have : i = j := by omega
      subst this
      rw [h2] at h4; cases h4; rfl
    · refine hc1.snoc (show CloO _ (.dk _) from Clos.of fun d hd => ?_)
      rw [hpl] at hd
      obtain ⟨kv, hkv, rfl⟩ := List.mem_map.mp hd
      obtain ⟨p, hp, rfl⟩ := List.mem_map.mp hkv
      exact Clo.ref.mpr (Nat.lt_succ_of_lt (hi p hp))
    · obtain ⟨i, h1, _⟩ := hpi p hp; omega
    · exact Nat.ne_of_lt (hi p hp)
    · have h1 := O.few p hp
      have h2 : miss tb0 p ≤ (al p).length := List.countP_le_length
      rw [htb0 p hp]; omega
  have hmiss : missA tb0 ps ≤ 1000000 := by
    have go : ∀ qs : List P1, (∀ q ∈ qs, q ∈ ps) → missA tb0 qs ≤ 10000 * qs.length := fun qs => by
      induction qs with
      | nil => intro _; exact Nat.le_refl _
      | cons q qs ih =>
        intro hq
        have h1 := ih fun x hx => hq x (by simp [hx])
        have h2 := O.few q (hq q (by simp))
        have h3 : miss tb0 q ≤ (al q).length := List.countP_le_length
        show miss tb0 q + missA tb0 qs ≤ _
        rw [List.length_cons]; omega
    have := go ps fun q hq => hq
    have := O.many
    omega
  obtain ⟨tb, h', e, H', sub, snd, cl⟩ := while_loop (mu := mu) hS O.body 1000000 tb0 ((mu ++ lists ps) ++ [.dk (build mu.length ps)]) none none (lid - 1000002) hmiss H
  have hlid : lid - 1000002 + 1000000 + 2 = lid := by decide
  rw [hlid] at e
  have hcomp := comp_ok (env := [some (coreD ps), none, none, none, none]) rfl ps [] mu hc (fun p hp => (O.body p hp).1) (by simp) O.nd
  rw [List.nil_append] at hcomp
  refine ⟨tb, ?_, snd (fun p hp y hy => hS0 p hp y (by rw [htb0 p hp] at hy; exact hy)), fun p hp x hx => sub p.name x (by rw [htb0 p hp]; exact hx), cl⟩
  obtain ⟨ex, hex⟩ := H'.pre
  have er : r_touched_table chD ptD = (sSeq (sSet 1 (eNewK (kComp (eWalk (eVar 0)) (asgN 3) tYesM (eBin gIx (eVar 3) (eC (.int 0))) (eNew (fCall (lenD 1 chD) (aCons (eVar 3) aNil))) [3])))
    (sSeq (sSet 2 (eC (.bl true))) (sSeq (sWhile (eB (eVar 2)) turnBody [3]) (sRet (eVar 1))))) := rfl
  have ed : den_touched_table chD ptD [coreD ps] mu = .ok (.vl (.ref (mu ++ lists ps).length)) (mu ++ ex) := by
    refine noX_ok ?_
    rw [er, ← hex]
    have w : walkD (coreD ps) mu = .ok (ps.map procD, []) mu := rfl
    have hcomp := noX_ok hcomp
    have hw : ∀ env, sWhile (eB (eVar 2)) turnBody [3] env = loopW (eB (eVar 2)) turnBody [3] lid env := fun _ => rfl
    generalize turnBody = TB at e hw ⊢
    generalize lid = LI at e hw
    generalize build mu.length ps = BU at e hcomp
    generalize mu ++ lists ps = M1 at e hcomp ⊢
    generalize ps.map procD = PS at w hcomp
    generalize coreD ps = CO at e hcomp w ⊢
    simp [startE, w, hcomp, hw, e]
  refine fgt_vl ed rfl (fun n xs e hx => ?_) (hc.frz _) ?_
  · cases e
    rw [← hex, H'.tab.dk] at hx
    cases hx
  · rw [← hex]
    have h1 := H'.tab.dk
    have e1 : (ps.map fun p => ((Sum.inr p.name : Key), D.ref (pl p.name))).map (·.1) = ps.map fun p => Sum.inr p.name := by rw [List.map_map]; rfl
    have e2 : (ps.map fun p => ((Sum.inr p.name : Key), D.ref (pl p.name))).map (·.2) = ps.map fun p => D.ref (pl p.name) := by rw [List.map_map]; rfl
    rw [← e1]
    refine Frz.dk H'.lo.1 trivial h1 ?_
    rw [e2]
    have go : ∀ qs : List P1, (∀ q ∈ qs, q ∈ ps) → Frzs h' mu.length (fun _ => True) (qs.map fun p => D.ref (pl p.name)) (qs.map fun p => fls (tb p.name)) := fun qs => by
      induction qs with
      | nil => intro _; exact .nil
      | cons q qs ih =>
        intro hq
        exact .cons (.lst (H'.lo.2 q (hq q (by simp))).1 trivial (H'.tab.ls q (hq q (by simp))) (flats_clo _ (strs_flat _) _ _)) (ih fun x hx => hq x (by simp [hx]))
    exact go ps fun q hq => hq
/-! ### touched_of -/
noncomputable abbrev touchD : List D → M Rv := den_touched_of tableD den_proc_named
/-- the answer, with the table -/
def ansT (T : List Str) (p : P1) : List Str := (p.items.filter fun it => it.1 && T.contains it.2).map (·.2)
theorem find_self {ps : List P1} (h : (ps.map (·.name)).Nodup) {p : P1} (hp : p ∈ ps) : ps.find? (fun q => q.name == p.name) = some p := by
  cases hf : ps.find? (fun q => q.name == p.name) with
  | none => exact (List.find?_eq_none.mp hf p hp (by simp)).elim
  | some q =>
    obtain ⟨h1, h2⟩ := find_name hf
    rw [nodup_eq h h1 hp h2]
theorem touched_ok {ps : List P1} {S : Str → Str → Prop} {mu : List MO} (O : CoreOk ps) (hS : ∀ tb, Inv ps S tb → ∀ p ∈ ps, ∀ y ∈ pt tb ps p, S p.name y) (hS0 : ∀ p ∈ ps, ∀ y ∈ ch p, S p.name y) (hc : CloH mu) :
    ∃ tb : Tb, Inv ps S tb ∧ (∀ p ∈ ps, ∀ x ∈ ch p, x ∈ tb p.name) ∧ (∀ q ∈ ps, ∀ x ∈ pt tb ps q, x ∈ tb q.name) ∧ ∀ p ∈ ps, touchD [coreD ps, .str p.name] mu = .ok (.vl (.tup ((ansT (tb p.name) p).map D.str))) mu := by
  obtain ⟨tb, e, i1, i2, i3⟩ := table_ok O hS hS0 hc
  refine ⟨tb, i1, i2, i3, fun p hp => noX_ok ?_⟩
  have pn := fun m => proc_named_ok (mu := m) (find_self O.nd hp)
  have pi := fun m => procD_items (p := p) (mu := m)
  have hget : ∀ m, gDget (.fd (ps.map fun p => Sum.inr p.name) (ps.map fun p => fls (tb p.name))) (.str p.name) m = .ok (fls (tb p.name)) m := fun m => by
    refine gDget_at (kvs := ps.map fun p => (Sum.inr p.name, fls (tb p.name))) ?_ ?_
    · rw [rdD_fd, List.zip_map']
    · have go : ∀ qs : List P1, p.name ∈ qs.map (·.name) → valD (qs.map fun p => ((Sum.inr p.name : Key), fls (tb p.name))) (.inr p.name) = some (fls (tb p.name)) := fun qs => by
        induction qs with
        | nil => intro h; cases h
        | cons q qs ih =>
          intro h
          unfold valD
          rw [List.map_cons, List.find?_cons]
          by_cases e : q.name = p.name
          · simp [e]
          · have : decide ((Sum.inr q.name : Key) = .inr p.name) = false := decide_eq_false fun z => e (Sum.inr.inj z)
            simp only [this]
            exact ih (by simpa [Ne.symm e] using h)
      exact go ps (List.mem_map_of_mem hp)
  have hin : ∀ (y : Str) m, gIn false (.str y) (fls (tb p.name)) m = .ok (.bl ((tb p.name).contains y)) m := fun y m => by
    rw [gIn_names (ns := tb p.name) rfl (fun z e => by cases e)]
    cases (tb p.name).contains y <;> rfl
  have hl : loopC (asgN 4) (bAnd (eB (eBin (gEq false) (eBin gIx (eVar 4) (eC (.int 0))) (eC (.str "array")))) (eB (eBin (gIn false) (eBin gIx (eVar 4) (eC (.int 1))) (eBin gDget (eVar 2) (eVar 1))))) (eBin gIx (eVar 4) (eC (.int 1))) [] (p.items.map itemD) [some (coreD ps), some (.str p.name), some (.fd (ps.map fun p => Sum.inr p.name) (ps.map fun p => fls (tb p.name))), some (.tup (p.items.map itemD)), none] mu = .ok ((ansT (tb p.name) p).map D.str) mu := by
    have := loopC_filter' (asg := asgN 4) (t := bAnd (eB (eBin (gEq false) (eBin gIx (eVar 4) (eC (.int 0))) (eC (.str "array")))) (eB (eBin (gIn false) (eBin gIx (eVar 4) (eC (.int 1))) (eBin gDget (eVar 2) (eVar 1))))) (r := eBin gIx (eVar 4) (eC (.int 1))) (env := [some (coreD ps), some (.str p.name), some (.fd (ps.map fun p => Sum.inr p.name) (ps.map fun p => fls (tb p.name))), some (.tup (p.items.map itemD)), none]) (mu := mu) (g := itemD) (f := fun it : Bool × Str => D.str it.2) (p := fun it => it.1 && (tb p.name).contains it.2) (xs := p.items) fun it hit => ⟨_, rfl, ?_, fun _ => ?_⟩
    · rw [this]
      unfold ansT
      rw [List.map_map]; rfl
    · obtain ⟨b, y⟩ := it
      have k0 : gIx (itemD (b, y)) (.int 0) mu = .ok (.str (kindS b)) mu := by simp [itemD]
      have k1 : gIx (itemD (b, y)) (.int 1) mu = .ok (.str y) mu := by simp [itemD]
      have hg := hget mu
      have hi := hin y mu
      generalize coreD ps = CO
      generalize D.fd (ps.map fun p => Sum.inr p.name) (ps.map fun p => fls (tb p.name)) = FD at hg ⊢
      generalize p.items.map itemD = IT
      cases b with
      | false => simp [k0, gEq_strs, kind_arr]
      | true => simp [k0, k1, gEq_strs, kind_arr, hg, hi]
    · obtain ⟨b, y⟩ := it
      simp [itemD]
  have hl := noX_ok hl
  generalize (ansT (tb p.name) p).map D.str = AN at hl ⊢
  generalize coreD ps = CO at *
  generalize D.fd (ps.map fun p => Sum.inr p.name) (ps.map fun p => fls (tb p.name)) = FD at *
  generalize p.items.map itemD = IT at *
  generalize procD p = PD at *
  simp [r_touched_of, startE, e, pn, pi, hl]
end K01
namespace MP
open PySem L2 PyProof.Rows
theorem rng_eq (n : Nat) : rngD 0 n = (List.range' 0 n).map fun (i : Nat) => D.int (i : Int) := by
  show ((List.range n).map fun (i : Nat) => D.int (0 + (i : Int))) = _
  rw [List.range_eq_range']
  apply List.map_congr_left
  intro i _
  rw [Int.zero_add]
end MP
namespace K01
open PySem L2 PyProof.Rows MP
abbrev Pt := Str × Str
abbrev Lk := Pt × Pt
def prD (p : Pt) : D := .tup [.str p.1, .str p.2]
def lkD (l : Lk) : D := .tup [prD l.1, prD l.2]
def lk1 (nm c : Str) (z : (Bool × Str) × Option Str) : List Lk := match z.2 with
  | some x => [((c, z.1.2), (nm, x))]
  | none => []
def linksB (ps : List P1) (nm : Str) : Sb → List Lk
  | .call c as => ((itemsOf ps c).zip as).flatMap (lk1 nm c)
  | _ => []
def linksP (ps : List P1) (p : P1) : List Lk := p.body.flatMap fun t => linksB ps p.name t.2
def links (ps : List P1) : List Lk := ps.flatMap (linksP ps)
theorem lk_len (nm c : Str) : ∀ (zs : List ((Bool × Str) × Option Str)), (zs.flatMap (lk1 nm c)).length ≤ zs.length
  | [] => by simp
  | z :: zs => by
    have := lk_len nm c zs
    rw [List.flatMap_cons, List.length_append, List.length_cons]
    have h1 : (lk1 nm c z).length ≤ 1 := by
      unfold lk1
      split <;> simp
    omega
noncomputable def lkIn : MP.Env → M Fl := (eIf (eB (eBin (gEq false) (eBin gIx (eBin gIx (eBin gIx (eVar 3) (eC (.int 2))) (eVar 5)) (eC (.int 0))) (eC (.str "array"))))
  (sExpr (eMeth lstK gAppend (eVar 1) (aCons (aThen gTup (aCons (aThen gTup (aCons (eBin gIx (eVar 4) (eC (.int 0))) (aCons (eBin gIx (eBin gIx (eBin gIx (eVar 4) (eC (.int 1))) (eVar 5)) (eC (.int 1))) aNil))) (aCons (aThen gTup (aCons (eBin gIx (eVar 2) (eC (.int 0))) (aCons (eBin gIx (eBin gIx (eBin gIx (eVar 3) (eC (.int 2))) (eVar 5)) (eC (.int 1))) aNil))) aNil))) aNil)))
  sNext)
theorem lk_inner {core : D} {m : Nat} {p q : P1} {c : Str} {as : List (Option Str)} {h : List MO} (hm : m = h.length) (hqn : q.name = c) : ∀ (zs : List ((Bool × Str) × Option Str)) (k : Nat) (acc : List Lk) (o5 : Option D), (q.items.zip as).drop k = zs → acc.length + zs.length < 100000 →
    loopF (asgN 5) lkIn [5] [] ((List.range' k zs.length).map fun (i : Nat) => D.int (i : Int)) [some core, some (.ref m), some (procD p), some (sbD (.call c as)), some (procD q), o5, none] (h ++ [.lst (acc.map lkD)])
      = .ok (.nx [some core, some (.ref m), some (procD p), some (sbD (.call c as)), some (procD q), none, none]) (h ++ [.lst ((acc ++ zs.flatMap (lk1 p.name c)).map lkD)])
  | [], k, acc, o5, _, _ => by
    show loopF _ _ _ [] [] _ _ = _
    rw [loopF_nil]; simp
  | z :: zs, k, acc, o5, hd, hl => by
    rw [List.length_cons] at hl
    have hk : (q.items.zip as)[k]? = some z := by
      have := congrArg List.head? hd
      rw [List.head?_drop] at this
      exact this
    have hd' : (q.items.zip as).drop (k + 1) = zs := by rw [← List.tail_drop, hd]; rfl
    obtain ⟨it, a⟩ := z
    obtain ⟨h1, h2⟩ := List.getElem?_zip_eq_some.mp hk
    have s2 : (2 : Nat) ≤ sizeLine := by decide
    have i1 : ∀ m', gIx (.tup (q.items.map itemD)) (.int (k : Int)) m' = .ok (itemD it) m' := fun m' => by rw [gIx_tup]; exact ixD_nat (by rw [List.getElem?_map, h1]; rfl)
    have i2 : ∀ m', gIx (.tup (as.map argD)) (.int (k : Int)) m' = .ok (argD a) m' := fun m' => by rw [gIx_tup]; exact ixD_nat (by rw [List.getElem?_map, h2]; rfl)
    have b2 : ∀ m', gIx (sbD (.call c as)) (.int 2) m' = .ok (.tup (as.map argD)) m' := fun m' => by simp [sbD]
    have q0 := fun m' => procD_name (p := q) (mu := m')
    have q1 := fun m' => procD_items (p := q) (mu := m')
    have p0 := fun m' => procD_name (p := p) (mu := m')
    have k1 : ∀ m', gIx (itemD it) (.int 1) m' = .ok (.str it.2) m' := fun m' => by simp [itemD]
    have hg := get_last (x := .lst (acc.map lkD)) (mu1 := h) hm
    have key : ∀ xs : List Lk, xs.length ≤ 1 → lkIn [some core, some (.ref m), some (procD p), some (sbD (.call c as)), some (procD q), some (.int (k : Int)), none] (h ++ [.lst (acc.map lkD)]) = .ok (.nx [some core, some (.ref m), some (procD p), some (sbD (.call c as)), some (procD q), some (.int (k : Int)), none]) (h ++ [.lst ((acc ++ xs).map lkD)]) → lk1 p.name c (it, a) = xs →
        loopF (asgN 5) lkIn [5] [] ((List.range' k (zs.length + 1)).map fun (i : Nat) => D.int (i : Int)) [some core, some (.ref m), some (procD p), some (sbD (.call c as)), some (procD q), o5, none] (h ++ [.lst (acc.map lkD)]) = .ok (.nx [some core, some (.ref m), some (procD p), some (sbD (.call c as)), some (procD q), none, none]) (h ++ [.lst ((acc ++ ((it, a) :: zs).flatMap (lk1 p.name c)).map lkD)]) := fun xs hx st e => by
      have ih := lk_inner (core := core) (p := p) (as := as) hm hqn zs (k + 1) (acc ++ xs) (some (.int (k : Int))) hd' (by rw [List.length_append]; omega)
      rw [List.range'_succ, List.map_cons, List.flatMap_cons, e, ← List.append_assoc]
      exact (loopF_step rfl st).trans ih
    cases a with
    | none =>
      refine key [] (by simp) ?_ rfl
      have a0 : ∀ m', gIx (argD none) (.int 0) m' = .ok (.str "number") m' := fun m' => by simp [argD, numD]
      have hne : (Str.ofString "number" == Str.ofString "array") = false := by decide +kernel
      rw [List.append_nil]
      generalize acc.map lkD = A
      generalize sbD (.call c as) = SB at *
      generalize argD none = AD at *
      generalize as.map argD = AS at *
      simp [lkIn, b2, i2, a0, gEq_strs, hne]
    | some x =>
      refine key [((c, it.2), (p.name, x))] (by simp) ?_ rfl
      have a0 : ∀ m', gIx (argD (some x)) (.int 0) m' = .ok (.str "array") m' := fun m' => by simp [argD]
      have a1 : ∀ m', gIx (argD (some x)) (.int 1) m' = .ok (.str x) m' := fun m' => by simp [argD]
      have ha : gAppend (.ref m) [.tup [.tup [.str c, .str it.2], .tup [.str p.name, .str x]]] (h ++ [.lst (acc.map lkD)]) = .ok .non (h ++ [.lst ((acc ++ [((c, it.2), (p.name, x))]).map lkD)]) := by
        rw [append_ok hg (by rw [List.length_map, sizeLine_eq]; omega), set_last hm, List.map_append]; rfl
      rw [hqn] at q0
      generalize (acc ++ [((c, it.2), (p.name, x))]).map lkD = A2 at *
      generalize acc.map lkD = A at *
      generalize sbD (.call c as) = SB at *
      generalize argD (some x) = AD at *
      generalize as.map argD = AS at *
      generalize q.items.map itemD = QI at *
      generalize itemD it = IT at *
      simp [lkIn, b2, i2, a0, a1, gEq_strs, q0, q1, i1, k1, p0, gTup_ok, s2, lstK_ref hg, ha]
noncomputable def lkS : MP.Env → M Fl := (eIf (eB (eBin (gEq false) (eBin gIx (eVar 3) (eC (.int 0))) (eC (.str "call"))))
  (sSeq (sSet 4 (eBin gIx (eFl (fComp (eWalk (eVar 0)) (asgN 6) (eB (eBin (gEq false) (eBin gIx (eVar 6) (eC (.int 0))) (eBin gIx (eVar 3) (eC (.int 1))))) (eVar 6) [6])) (eC (.int 0))))
  (sFor (wThen wRng1 (aCons (aThen (MP.g1 gLen) (aCons (eBin gIx (eVar 3) (eC (.int 2))) aNil)) aNil)) (asgN 5) lkIn [5]))
  sNext)
noncomputable def lkP : MP.Env → M Fl := sFor (eWalk (eCall (lenD 1 (lstmtL 4)) (aCons (eBin gIx (eVar 2) (eC (.int 8))) aNil))) (asgN 3) lkS [3]
theorem lk_proc {ps : List P1} {p : P1} {h : List MO} {acc : List Lk} {o3 o4 : Option D} (hb : p.body.length < 1000 ∧ ∀ t ∈ p.body, CallOk ps t.2) (hc : CloH (h ++ [.lst (acc.map lkD)])) (ha : acc.length < 20000) :
    ∃ o4', lkP [some (coreD ps), some (.ref h.length), some (procD p), o3, o4, none, none] (h ++ [.lst (acc.map lkD)]) = .ok (.nx [some (coreD ps), some (.ref h.length), some (procD p), none, o4', none, none]) (h ++ [.lst ((acc ++ linksP ps p).map lkD)]) := by
  obtain ⟨e', mu', h1, ⟨o3', o4', rfl, rfl, _⟩⟩ := flat_loop (asg := asgN 3) (body := lkS) (fg := [3]) (f := fun b a => a ++ linksB ps p.name b)
    (I := fun k (acc : List Lk) env m => ∃ o3 o4, env = [some (coreD ps), some (.ref h.length), some (procD p), o3, o4, none, none] ∧ m = h ++ [.lst (acc.map lkD)] ∧ acc.length + 10 * k < 40000)
    p.body acc [some (coreD ps), some (.ref h.length), some (procD p), o3, o4, none, none] (h ++ [.lst (acc.map lkD)])
    (fun t hmem k acc env m ⟨o3, o4, he, hm, hk⟩ => by
      subst he hm
      obtain ⟨w, b⟩ := t
      have hco := hb.2 (w, b) hmem
      cases b with
      | call c as =>
        obtain ⟨q, hq, hql, hq10, hqz⟩ := hco
        obtain ⟨hqm, hqn⟩ := find_name hq
        have hzl : (q.items.zip as).length = as.length := by rw [List.length_zip]; omega
        have hin := lk_inner (core := coreD ps) (p := p) (as := as) (h := h) rfl hqn (q.items.zip as) 0 acc none rfl (by omega)
        rw [hzl, ← rng_eq] at hin
        have hit : itemsOf ps c = q.items := by unfold itemsOf; rw [hq]; rfl
        have hf : acc ++ linksB ps p.name (.call c as) = acc ++ (q.items.zip as).flatMap (lk1 p.name c) := by
          show acc ++ ((itemsOf ps c).zip as).flatMap (lk1 p.name c) = _
          rw [hit]
        have hlen := lk_len p.name c (q.items.zip as)
        refine ⟨_, [some (coreD ps), some (.ref h.length), some (procD p), some (sbD (.call c as)), some (procD q), none, none], h ++ [.lst ((acc ++ linksB ps p.name (.call c as)).map lkD)], rfl, ?_, ⟨_, _, rfl, rfl, by rw [hf, List.length_append]; omega⟩⟩
        rw [hf]
        have hl : loopC (asgN 6) (eB (eBin (gEq false) (eBin gIx (eVar 6) (eC (.int 0))) (eBin gIx (eVar 3) (eC (.int 1))))) (eVar 6) [] (ps.map procD) [some (coreD ps), some (.ref h.length), some (procD p), some (sbD (.call c as)), o4, none, none] (h ++ [.lst (acc.map lkD)]) = .ok ((ps.filter fun q => q.name == c).map procD) (h ++ [.lst (acc.map lkD)]) := by
          refine loopC_filter' fun q hq => ⟨_, rfl, ?_, fun _ => ?_⟩
          · simp [procD, gEq_strs, sbD]
          · simp
        have e : ∃ r, ps.filter (fun q => q.name == c) = q :: r := by
          rw [← List.head?_filter] at hq
          cases hf : ps.filter (fun q => q.name == c) with
          | nil => rw [hf] at hq; cases hq
          | cons q r => rw [hf] at hq; cases hq; exact ⟨r, rfl⟩
        obtain ⟨r, hr⟩ := e
        rw [hr] at hl
        have hl := noX_ok hl
        have i0 : ∀ m, gIx (sbD (.call c as)) (.int 0) m = .ok (.str "call") m := fun m => by simp [sbD]
        have i2 : ∀ m, gIx (sbD (.call c as)) (.int 2) m = .ok (.tup (as.map argD)) m := fun m => by simp [sbD]
        have w : ∀ m, walkD (coreD ps) m = .ok (ps.map procD, []) m := fun _ => rfl
        have hlen2 : (as.map argD).length = as.length := List.length_map ..
        have wr : ∀ m, wRng1 [.int (as.length : Int)] m = .ok (rngD 0 as.length, []) m := fun m => wRng1_ok (n := (as.length : Int)) (by omega)
        generalize (acc ++ (q.items.zip as).flatMap (lk1 p.name c)).map lkD = A2 at hin ⊢
        generalize acc.map lkD = A at hin hl ⊢
        generalize sbD (.call c as) = SB at *
        rw [List.map_cons] at hl
        generalize procD q = QD at *
        generalize r.map procD = RD at *
        generalize ps.map procD = PS at *
        generalize coreD ps = CO at *
        generalize rngD 0 as.length = RN at *
        simp [lkS, i0, i2, gEq_strs, w, hl, wr, hin]
      | store x i =>
        refine ⟨_, [some (coreD ps), some (.ref h.length), some (procD p), some (sbD (.store x i)), o4, none, none], h ++ [.lst (acc.map lkD)], rfl, ?_, ⟨_, _, rfl, by simp [linksB], by simp [linksB]; omega⟩⟩
        have hk : (Str.ofString "store" == Str.ofString "call") = false := by decide +kernel
        generalize acc.map lkD = A
        simp [lkS, sbD, gEq_strs, hk]
      | push i x =>
        refine ⟨_, [some (coreD ps), some (.ref h.length), some (procD p), some (sbD (.push i x)), o4, none, none], h ++ [.lst (acc.map lkD)], rfl, ?_, ⟨_, _, rfl, by simp [linksB], by simp [linksB]; omega⟩⟩
        have hk : (Str.ofString "push" == Str.ofString "call") = false := by decide +kernel
        generalize acc.map lkD = A
        simp [lkS, sbD, gEq_strs, hk]
      | pop x =>
        refine ⟨_, [some (coreD ps), some (.ref h.length), some (procD p), some (sbD (.pop x)), o4, none, none], h ++ [.lst (acc.map lkD)], rfl, ?_, ⟨_, _, rfl, by simp [linksB], by simp [linksB]; omega⟩⟩
        have hk : (Str.ofString "pop" == Str.ofString "call") = false := by decide +kernel
        generalize acc.map lkD = A
        simp [lkS, sbD, gEq_strs, hk])
    (fun d ⟨kk, r, hd, hkk⟩ k acc env m ⟨o3, o4, he, hm, hk⟩ => by
      subst hd he hm
      refine ⟨_, [some (coreD ps), some (.ref h.length), some (procD p), some (.tup (.str kk :: r)), o4, none, none], _, rfl, ?_, ⟨_, _, rfl, rfl, hk⟩⟩
      have hn : (kk == Str.ofString "call") = false := by rcases hkk with rfl | rfl | rfl <;> decide +kernel
      generalize acc.map lkD = A
      simp [lkS, gEq_strs, hn]) ⟨o3, o4, rfl, rfl, by have := hb.1; omega⟩
  rw [foldl_app] at h1
  refine ⟨o4', ?_⟩
  have hst := lstmts_ok (m := 1) (ts := p.body) hb.1 hc
  have b8 := fun m => procD_body (p := p) (mu := m)
  have h1 : loopF (asgN 3) lkS [3] [] (p.body.flatMap flatS) [some (coreD ps), some (.ref h.length), some (procD p), o3, o4, none, none] (h ++ [.lst (acc.map lkD)]) = .ok (.nx [some (coreD ps), some (.ref h.length), some (procD p), none, o4', none, none]) (h ++ [.lst ((acc ++ linksP ps p).map lkD)]) := h1
  generalize (acc ++ linksP ps p).map lkD = A2 at *
  generalize acc.map lkD = A at *
  generalize p.body.flatMap flatS = X at *
  generalize coreD ps = CO at *
  simp [lkP, b8, hst, h1]
end K01
namespace K01
open PySem L2 PyProof.Rows MP
theorem lkD_flat (l : Lk) : flat (lkD l) = true := rfl
theorem lks_flat (ls : List Lk) : flats (ls.map lkD) = true := flats_of fun d hd => by
  obtain ⟨l, _, e⟩ := List.mem_map.mp hd
  rw [← e]; rfl
theorem prs_flat (ls : List Pt) : flats (ls.map prD) = true := flats_of fun d hd => by
  obtain ⟨l, _, e⟩ := List.mem_map.mp hd
  rw [← e]; rfl
theorem lk_procs {ps : List P1} {h : List MO} (hb : ∀ p ∈ ps, p.body.length < 1000 ∧ ∀ t ∈ p.body, CallOk ps t.2) (hc : CloH h) : ∀ (qs : List P1) (acc : List Lk) (o2 o3 o4 : Option D), (∀ q ∈ qs, q ∈ ps) → acc.length + (qs.flatMap (linksP ps)).length < 20000 →
    ∃ o4', loopF (asgN 2) lkP [2, 3] [] (qs.map procD) [some (coreD ps), some (.ref h.length), o2, o3, o4, none, none] (h ++ [.lst (acc.map lkD)]) = .ok (.nx [some (coreD ps), some (.ref h.length), none, none, o4', none, none]) (h ++ [.lst ((acc ++ qs.flatMap (linksP ps)).map lkD)])
  | [], acc, o2, o3, o4, _, _ => ⟨o4, by
    show loopF _ _ _ [] [] _ _ = _
    rw [loopF_nil]; simp⟩
  | q :: qs, acc, o2, o3, o4, hq, hl => by
    rw [List.flatMap_cons, List.length_append] at hl
    obtain ⟨o4', e⟩ := lk_proc (ps := ps) (p := q) (h := h) (acc := acc) (o3 := none) (o4 := o4) (hb q (hq q (by simp))) (hc.snoc_flat (lks_flat _)) (by omega)
    obtain ⟨o4'', ih⟩ := lk_procs hb hc qs (acc ++ linksP ps q) (some (procD q)) none o4' (fun x hx => hq x (by simp [hx])) (by rw [List.length_append]; omega)
    exact ⟨o4'', by rw [List.map_cons, loopF_step rfl e, ih, List.flatMap_cons, List.append_assoc]⟩
noncomputable def linksD : List D → M Rv := fgt (den__law_links (lstmtL 4))
theorem links_ok {ps : List P1} {mu : List MO} (hb : ∀ p ∈ ps, p.body.length < 1000 ∧ ∀ t ∈ p.body, CallOk ps t.2) (hl : (links ps).length < 20000) (hc : CloH mu) : linksD [coreD ps] mu = .ok (.fr ((links ps).map lkD)) mu := by
  obtain ⟨o4, h1⟩ := lk_procs (h := mu) hb hc ps [] none none none (fun q hq => hq) (by rw [List.length_nil, Nat.zero_add]; exact hl)
  rw [List.map_nil, List.nil_append] at h1
  have er : r__law_links (lstmtL 4) = sSeq (sSet 1 (eNew (aList aNil))) (sSeq (sFor (eWalk (eVar 0)) (asgN 2) lkP [2, 3]) (sRet (eVar 1))) := rfl
  have e : den__law_links (lstmtL 4) [coreD ps] mu = .ok (.vl (.ref mu.length)) (mu ++ [.lst ((links ps).map lkD)]) := by
    refine noX_ok ?_
    rw [er]
    have w : ∀ m, walkD (coreD ps) m = .ok (ps.map procD, []) m := fun _ => rfl
    have h1 : loopF (asgN 2) lkP [2, 3] [] (ps.map procD) [some (coreD ps), some (.ref mu.length), none, none, none, none, none] (mu ++ [.lst []]) = .ok (.nx [some (coreD ps), some (.ref mu.length), none, none, o4, none, none]) (mu ++ [.lst ((links ps).map lkD)]) := h1
    generalize (links ps).map lkD = Y at h1 ⊢
    generalize ps.map procD = PS at w h1
    generalize coreD ps = CO at *
    simp [startE, w, h1]
  exact fgt_list e rfl hc (Nat.le_refl _) (get_last rfl) (flats_clo _ (lks_flat _))
/-! ### _law_reached: the changes -/
def base (p : P1) : List Pt := (ch p).map fun x => (p.name, x)
def baseB (nm : Str) (b : Sb) : List Pt := (chB b).map fun x => (nm, x)
noncomputable def rbS : MP.Env → M Fl := (eIf (eB (eBin (gEq false) (eBin gIx (eVar 5) (eC (.int 0))) (eC (.str "store"))))
  (sExpr (eMeth lstK gAppend (eVar 2) (aCons (aThen gTup (aCons (eBin gIx (eVar 3) (eC (.int 0))) (aCons (eBin gIx (eVar 5) (eC (.int 1))) aNil))) aNil)))
  (eIf (bOr (eB (eBin (gEq false) (eBin gIx (eVar 5) (eC (.int 0))) (eC (.str "push")))) (eB (eBin (gEq false) (eBin gIx (eVar 5) (eC (.int 0))) (eC (.str "pop")))))
  (sExpr (eMeth lstK gAppend (eVar 2) (aCons (aThen gTup (aCons (eBin gIx (eVar 3) (eC (.int 0))) (aCons (eBin gIx (eVar 5) (eC (.int 2))) aNil))) aNil)))
  sNext))
noncomputable def rbP : MP.Env → M Fl := sFor (eWalk (eCall (lenD 1 (lstmtL 4)) (aCons (eBin gIx (eVar 3) (eC (.int 8))) aNil))) (asgN 5) rbS [5]
theorem base_eq (p : P1) : base p = p.body.flatMap fun t => baseB p.name t.2 := by
  unfold base ch baseB
  rw [List.map_flatMap]
theorem kinds2 : (Str.ofString "push" == Str.ofString "store") = false ∧ (Str.ofString "pop" == Str.ofString "store") = false ∧ (Str.ofString "pop" == Str.ofString "push") = false ∧ (Str.ofString "call" == Str.ofString "store") = false ∧ (Str.ofString "call" == Str.ofString "push") = false ∧ (Str.ofString "call" == Str.ofString "pop") = false := by decide +kernel
theorem rb_proc {core lks : D} {p : P1} {h : List MO} {acc : List Pt} {o5 : Option D} (hb : p.body.length < 1000) (hc : CloH (h ++ [.lst (acc.map prD)])) (ha : acc.length < 20000) :
    rbP [some core, some lks, some (.ref h.length), some (procD p), none, o5, none, none] (h ++ [.lst (acc.map prD)]) = .ok (.nx [some core, some lks, some (.ref h.length), some (procD p), none, none, none, none]) (h ++ [.lst ((acc ++ base p).map prD)]) := by
  obtain ⟨k1, k2, k3, k4, k5, k6⟩ := kinds2
  have s2 : (2 : Nat) ≤ sizeLine := by decide
  have p0 := fun m' => procD_name (p := p) (mu := m')
  obtain ⟨e', mu', h1, ⟨o5', rfl, rfl, _⟩⟩ := flat_loop (asg := asgN 5) (body := rbS) (fg := [5]) (f := fun b a => a ++ baseB p.name b)
    (I := fun k (acc : List Pt) env m => ∃ o5, env = [some core, some lks, some (.ref h.length), some (procD p), none, o5, none, none] ∧ m = h ++ [.lst (acc.map prD)] ∧ acc.length + k < 40000)
    p.body acc [some core, some lks, some (.ref h.length), some (procD p), none, o5, none, none] (h ++ [.lst (acc.map prD)])
    (fun t hmem k acc env m ⟨o5, he, hm, hk⟩ => by
      subst he hm
      obtain ⟨w, b⟩ := t
      have hg := get_last (x := .lst (acc.map prD)) (mu1 := h) rfl
      have ha : ∀ x : Str, gAppend (.ref h.length) [.tup [.str p.name, .str x]] (h ++ [.lst (acc.map prD)]) = .ok .non (h ++ [.lst ((acc ++ [(p.name, x)]).map prD)]) := fun x => by
        rw [append_ok hg (by rw [List.length_map, sizeLine_eq]; omega), set_last rfl, List.map_append]; rfl
      cases b with
      | store x i =>
        refine ⟨_, [some core, some lks, some (.ref h.length), some (procD p), none, some (sbD (.store x i)), none, none], h ++ [.lst ((acc ++ [(p.name, x)]).map prD)], rfl, ?_, ⟨_, rfl, rfl, by simp [baseB, chB]; omega⟩⟩
        have hax := ha x
        generalize (acc ++ [(p.name, x)]).map prD = A2 at *
        generalize acc.map prD = A at *
        generalize procD p = PD at *
        simp [rbS, sbD, gEq_strs, p0, gTup_ok, s2, lstK_ref hg, hax]
      | push i x =>
        refine ⟨_, [some core, some lks, some (.ref h.length), some (procD p), none, some (sbD (.push i x)), none, none], h ++ [.lst ((acc ++ [(p.name, x)]).map prD)], rfl, ?_, ⟨_, rfl, rfl, by simp [baseB, chB]; omega⟩⟩
        have hax := ha x
        generalize (acc ++ [(p.name, x)]).map prD = A2 at *
        generalize acc.map prD = A at *
        generalize procD p = PD at *
        simp [rbS, sbD, gEq_strs, k1, p0, gTup_ok, s2, lstK_ref hg, hax]
      | pop x =>
        refine ⟨_, [some core, some lks, some (.ref h.length), some (procD p), none, some (sbD (.pop x)), none, none], h ++ [.lst ((acc ++ [(p.name, x)]).map prD)], rfl, ?_, ⟨_, rfl, rfl, by simp [baseB, chB]; omega⟩⟩
        have hax := ha x
        generalize (acc ++ [(p.name, x)]).map prD = A2 at *
        generalize acc.map prD = A at *
        generalize procD p = PD at *
        simp [rbS, sbD, gEq_strs, k2, k3, p0, gTup_ok, s2, lstK_ref hg, hax]
      | call c as =>
        refine ⟨_, [some core, some lks, some (.ref h.length), some (procD p), none, some (sbD (.call c as)), none, none], h ++ [.lst (acc.map prD)], rfl, ?_, ⟨_, rfl, by simp [baseB, chB], by simp [baseB, chB]; omega⟩⟩
        generalize acc.map prD = A
        simp [rbS, sbD, gEq_strs, k4, k5, k6])
    (fun d ⟨kk, r, hd, hkk⟩ k acc env m ⟨o5, he, hm, hk⟩ => by
      subst hd he hm
      refine ⟨_, [some core, some lks, some (.ref h.length), some (procD p), none, some (.tup (.str kk :: r)), none, none], _, rfl, ?_, ⟨_, rfl, rfl, hk⟩⟩
      have hn : (kk == Str.ofString "store") = false ∧ (kk == Str.ofString "push") = false ∧ (kk == Str.ofString "pop") = false := by rcases hkk with rfl | rfl | rfl <;> decide +kernel
      generalize acc.map prD = A
      simp [rbS, gEq_strs, hn]) ⟨o5, rfl, rfl, by omega⟩
  rw [foldl_app, ← base_eq] at h1
  have hst := lstmts_ok (m := 1) (ts := p.body) hb hc
  have b8 := fun m => procD_body (p := p) (mu := m)
  have h1 : loopF (asgN 5) rbS [5] [] (p.body.flatMap flatS) [some core, some lks, some (.ref h.length), some (procD p), none, o5, none, none] (h ++ [.lst (acc.map prD)]) = .ok (.nx [some core, some lks, some (.ref h.length), some (procD p), none, none, none, none]) (h ++ [.lst ((acc ++ base p).map prD)]) := h1
  generalize (acc ++ base p).map prD = A2 at *
  generalize acc.map prD = A at *
  generalize p.body.flatMap flatS = X at *
  generalize procD p = PD at *
  simp [rbP, b8, hst, h1]
theorem rb_procs {core lks : D} {h : List MO} (hc : CloH h) : ∀ (qs : List P1) (acc : List Pt) (o3 o5 : Option D), (∀ q ∈ qs, q.body.length < 1000) → acc.length + (qs.flatMap base).length < 20000 →
    loopF (asgN 3) rbP [3, 5] [] (qs.map procD) [some core, some lks, some (.ref h.length), o3, none, o5, none, none] (h ++ [.lst (acc.map prD)]) = .ok (.nx [some core, some lks, some (.ref h.length), none, none, none, none, none]) (h ++ [.lst ((acc ++ qs.flatMap base).map prD)])
  | [], acc, o3, o5, _, _ => by
    show loopF _ _ _ [] [] _ _ = _
    rw [loopF_nil]; simp
  | q :: qs, acc, o3, o5, hq, hl => by
    rw [List.flatMap_cons, List.length_append] at hl
    have e := rb_proc (core := core) (lks := lks) (p := q) (h := h) (acc := acc) (o5 := none) (hq q (by simp)) (hc.snoc_flat (prs_flat _)) (by omega)
    have ih := rb_procs (core := core) (lks := lks) hc qs (acc ++ base q) (some (procD q)) none (fun x hx => hq x (by simp [hx])) (by rw [List.length_append]; omega)
    rw [List.map_cons, loopF_step rfl e, ih, List.flatMap_cons, List.append_assoc]
/-! ### _law_reached: the work list -/
def add1 (src : Pt) (F : List Pt) (l : Lk) : List Pt := if l.1 = src ∧ ¬ l.2 ∈ F then F ++ [l.2] else F
def addL (src : Pt) (F : List Pt) (ls : List Lk) : List Pt := ls.foldl (add1 src) F
def missF (U : List Lk) (F : List Pt) : Nat := U.countP fun l => !F.contains l.2
theorem add1_sub {src : Pt} {F : List Pt} {l : Lk} : ∀ x ∈ F, x ∈ add1 src F l := fun x hx => by
  unfold add1
  split
  · exact List.mem_append.mpr (.inl hx)
  · exact hx
theorem add1_pre {src : Pt} {F : List Pt} {l : Lk} : ∃ r, add1 src F l = F ++ r := by
  unfold add1
  split
  · exact ⟨_, rfl⟩
  · exact ⟨[], by simp⟩
theorem addL_pre {src : Pt} : ∀ (ls : List Lk) (F : List Pt), ∃ r, addL src F ls = F ++ r
  | [], F => ⟨[], by simp [addL]⟩
  | l :: ls, F => by
    obtain ⟨r, hr⟩ := add1_pre (src := src) (F := F) (l := l)
    obtain ⟨r2, hr2⟩ := addL_pre (src := src) ls (add1 src F l)
    exact ⟨r ++ r2, by show addL src (add1 src F l) ls = _; rw [hr2, hr, List.append_assoc]⟩
theorem addL_has {src : Pt} : ∀ (ls : List Lk) (F : List Pt), ∀ l ∈ ls, l.1 = src → l.2 ∈ addL src F ls
  | [], _, _, hl, _ => by cases hl
  | k :: ls, F, l, hl, e => by
    rcases List.mem_cons.mp hl with rfl | hl
    · obtain ⟨r, hr⟩ := addL_pre (src := src) ls (add1 src F l)
      show l.2 ∈ addL src (add1 src F l) ls
      rw [hr]
      refine List.mem_append.mpr (.inl ?_)
      unfold add1
      by_cases h : l.2 ∈ F
      · rw [if_neg (fun z => z.2 h)]; exact h
      · rw [if_pos ⟨e, h⟩]; simp
    · exact addL_has ls _ l hl e
theorem add1_miss {U : List Lk} {src : Pt} {F : List Pt} {l : Lk} (hl : l ∈ U) : (add1 src F l).length + missF U (add1 src F l) ≤ F.length + missF U F := by
  unfold add1
  split
  · rename_i h
    have : missF U (F ++ [l.2]) < missF U F := by
      unfold missF
      refine countP_lt _ (fun y hy => ?_) ⟨l, hl, by simpa using h.2, by simp⟩
      simp only [Bool.not_eq_true', List.contains_eq_mem, decide_eq_false_iff_not, List.mem_append, not_or] at hy ⊢
      exact hy.1
    rw [List.length_append, List.length_singleton]; omega
  · exact Nat.le_refl _
theorem addL_miss {U : List Lk} {src : Pt} : ∀ (ls : List Lk) (F : List Pt), (∀ l ∈ ls, l ∈ U) → (addL src F ls).length + missF U (addL src F ls) ≤ F.length + missF U F
  | [], F, _ => Nat.le_refl _
  | l :: ls, F, h => Nat.le_trans (addL_miss ls _ fun x hx => h x (by simp [hx])) (add1_miss (h l (by simp)))
end K01
namespace K01
open PySem L2 PyProof.Rows MP
theorem eqD_pr (a b : Pt) : eqD (prD a) (prD b) = decide (a = b) := by
  have e : eqD (prD a) (prD b) = ((a.1 == b.1) && ((a.2 == b.2) && true)) := by simp [prD, eqD, eqDs]
  rw [e]
  obtain ⟨a1, a2⟩ := a
  obtain ⟨b1, b2⟩ := b
  by_cases h1 : a1 = b1 <;> by_cases h2 : a2 = b2 <;> simp [h1, h2]
theorem gEq_pr {a b : Pt} {mu : List MO} : gEq false (prD a) (prD b) mu = .ok (.bl (decide (a = b))) mu := by
  unfold gEq
  have h := eqD_pr a b
  have o1 : okE (prD a) = true := rfl
  have o2 : okE (prD b) = true := rfl
  have d1 : dep (prD a) = 1 := rfl
  have d2 : dep (prD b) = 1 := rfl
  generalize prD a = A at *
  generalize prD b = B at *
  simp [o1, o2, d1, d2, h]
theorem prs_ok : ∀ F : List Pt, okEs (F.map prD) = true ∧ deps (F.map prD) ≤ 1
  | [] => ⟨rfl, by simp [deps]⟩
  | a :: F => by
    obtain ⟨h1, h2⟩ := prs_ok F
    refine ⟨?_, ?_⟩
    · rw [List.map_cons, okEs, h1]; rfl
    · rw [List.map_cons, deps]
      have : dep (prD a) = 1 := rfl
      omega
theorem gIn_prs {neg : Bool} {a : Pt} {F : List Pt} {d : D} {mu : List MO} (hd : rdQ d mu = .ok (F.map prD) mu) (hns : ∀ y, d ≠ .str y) : gIn neg (prD a) d mu = .ok (.bl (decide (a ∈ F) != neg)) mu := by
  have e : gIn neg (prD a) d = (rdQ d >>= fun ys => need (okE (prD a) = true ∧ okEs ys = true ∧ deps ys < 60) >>= fun _ => pure (.bl ((ys.any fun y => eqD y (prD a)) != neg)) : M D) := by
    cases d <;> first | rfl | exact absurd rfl (hns _)
  rw [e]
  obtain ⟨h1, h2⟩ := prs_ok F
  have o1 : okE (prD a) = true := rfl
  have h3 : ((F.map prD).any fun y => eqD y (prD a)) = decide (a ∈ F) := by
    rw [List.any_map]
    rw [Bool.eq_iff_iff, List.any_eq_true, decide_eq_true_eq]
    constructor
    · rintro ⟨x, hx, e⟩
      have e : eqD (prD x) (prD a) = true := e
      rw [eqD_pr, decide_eq_true_eq] at e
      rw [← e]; exact hx
    · intro h
      exact ⟨a, h, by show eqD (prD a) (prD a) = true; rw [eqD_pr, decide_eq_true_eq]⟩
  have h4 : deps (F.map prD) < 60 := by omega
  generalize F.map prD = FD at *
  simp only [bind_ap, hd, need_ap]
  rw [if_pos ⟨o1, h1, h4⟩]
  simp [h3]
noncomputable def wkIn : MP.Env → M Fl := eIf (bAnd (eB (eBin (gEq false) (eVar 6) (eBin gIx (eVar 2) (eVar 4)))) (eB (eBin (gIn true) (eVar 7) (eVar 2))))
  (sExpr (eMeth lstK gAppend (eVar 2) (aCons (eVar 7) aNil)))
  sNext
theorem wk_inner {core lks : D} {h : List MO} {k : Nat} {src : Pt} : ∀ (ls : List Lk) (F : List Pt) (o6 o7 : Option D), F[k]? = some src → F.length + ls.length < 100000 →
    loopF (asgT 2 (asgCons (asgN 6) (asgCons (asgN 7) asgNil))) wkIn [6, 7] [] (ls.map lkD) [some core, some lks, some (.ref h.length), none, some (.int (k : Int)), none, o6, o7] (h ++ [.lst (F.map prD)])
      = .ok (.nx [some core, some lks, some (.ref h.length), none, some (.int (k : Int)), none, none, none]) (h ++ [.lst ((addL src F ls).map prD)])
  | [], F, o6, o7, _, _ => by
    show loopF _ _ _ [] [] _ _ = _
    rw [loopF_nil]; rfl
  | l :: ls, F, o6, o7, hk, hl => by
    rw [List.length_cons] at hl
    obtain ⟨r, hr⟩ := add1_pre (src := src) (F := F) (l := l)
    have hlen : (add1 src F l).length ≤ F.length + 1 := by
      unfold add1
      split <;> simp
    have ih := wk_inner (core := core) (lks := lks) (h := h) (k := k) (src := src) ls (add1 src F l) (some (prD l.1)) (some (prD l.2)) (by rw [hr, List.getElem?_append_left (List.getElem?_eq_some_iff.mp hk).1, hk]) (by omega)
    rw [List.map_cons]
    refine (loopF_step (env1 := [some core, some lks, some (.ref h.length), none, some (.int (k : Int)), none, some (prD l.1), some (prD l.2)]) (e := [some core, some lks, some (.ref h.length), none, some (.int (k : Int)), none, some (prD l.1), some (prD l.2)]) (mu1 := h ++ [.lst ((add1 src F l).map prD)]) ?_ ?_).trans ih
    · unfold lkD
      generalize prD l.1 = A
      generalize prD l.2 = B
      simp
    · have hg := get_last (x := .lst (F.map prD)) (mu1 := h) rfl
      have hix : gIx (.ref h.length) (.int (k : Int)) (h ++ [.lst (F.map prD)]) = .ok (prD src) (h ++ [.lst (F.map prD)]) := by
        rw [gIx_ref, hg, onL_lst]
        exact ixD_nat (by rw [List.getElem?_map, hk]; rfl)
      have hin := gIn_prs (neg := true) (a := l.2) (F := F) (d := .ref h.length) (mu := h ++ [.lst (F.map prD)]) (by rw [rdQ_ref, atL_ap, hg]; rfl) fun z e => by cases e
      have heq := fun m => gEq_pr (a := l.1) (b := src) (mu := m)
      have ha : gAppend (.ref h.length) [prD l.2] (h ++ [.lst (F.map prD)]) = .ok .non (h ++ [.lst ((F ++ [l.2]).map prD)]) := by
        rw [append_ok hg (by rw [List.length_map, sizeLine_eq]; omega), set_last rfl, List.map_append]; rfl
      unfold add1
      by_cases h1 : l.1 = src
      · by_cases h2 : l.2 ∈ F
        · rw [if_neg (fun z => z.2 h2)]
          rw [decide_eq_true h1] at heq
          rw [decide_eq_true h2] at hin
          generalize F.map prD = FD at *
          generalize prD l.1 = A at *
          generalize prD l.2 = B at *
          simp [wkIn, hix, heq, hin]
        · rw [if_pos ⟨h1, h2⟩]
          rw [decide_eq_true h1] at heq
          rw [decide_eq_false h2] at hin
          generalize (F ++ [l.2]).map prD = F2 at *
          generalize F.map prD = FD at *
          generalize prD l.1 = A at *
          generalize prD l.2 = B at *
          simp [wkIn, hix, heq, hin, lstK_ref hg, ha]
      · rw [if_neg (fun z => h1 z.1)]
        rw [decide_eq_false h1] at heq
        generalize F.map prD = FD at *
        generalize prD l.1 = A at *
        generalize prD l.2 = B at *
        simp [wkIn, hix, heq]
theorem addL_sound {S : Pt → Prop} {src : Pt} : ∀ (ls : List Lk) (F : List Pt), (∀ l ∈ ls, S l.1 → S l.2) → S src → (∀ x ∈ F, S x) → ∀ x ∈ addL src F ls, S x
  | [], F, _, _, h => h
  | l :: ls, F, hl, hs, h => addL_sound ls _ (fun k hk => hl k (by simp [hk])) hs fun x hx => by
    unfold add1 at hx
    split at hx
    · rename_i hc
      rcases List.mem_append.mp hx with z | z
      · exact h x z
      · rw [List.mem_singleton.mp z]
        exact hl l (by simp) (by rw [hc.1]; exact hs)
    · exact h x hx
noncomputable def wkOut : MP.Env → M Fl := (sSeq (eIf (eB (eBin gGe (eVar 4) (aThen (MP.g1 gLen) (aCons (eVar 2) aNil))))
  (sRet (eVar 2))
  sNext)
  (sFor (eWalk (eVar 1)) (asgT 2 (asgCons (asgN 6) (asgCons (asgN 7) asgNil))) wkIn [6, 7]))
theorem loopF_ret {asg : D → MP.Env → M MP.Env} {body : MP.Env → M Fl} {fg : List Nat} {d : D} {ds : List D} {env env1 : MP.Env} {mu mu1 : List MO} {rv : Rv} (h1 : asg d (wipeE env fg) mu = .ok env1 mu) (h2 : body env1 mu = .ok (.rt rv) mu1) : loopF asg body fg [] (d :: ds) env mu = .ok (.rt rv) mu1 := by
  rw [loopF_cons]
  simp [h1, h2]
theorem wk_outer {core : D} {h : List MO} {U : List Lk} {S : Pt → Prop} (hS : ∀ l ∈ U, S l.1 → S l.2) (hU : U.length < 50000) : ∀ (j k : Nat) (F : List Pt) (o4 o6 o7 : Option D), k + j = 400 → k ≤ F.length → F.length + missF U F < 400 → (∀ i, i < k → ∀ l ∈ U, F[i]? = some l.1 → l.2 ∈ F) → (∀ x ∈ F, S x) →
    ∃ F', loopF (asgN 4) wkOut [4, 6, 7] [] ((List.range' k j).map fun (i : Nat) => D.int (i : Int)) [some core, some (.fl (U.map lkD)), some (.ref h.length), none, o4, none, o6, o7] (h ++ [.lst (F.map prD)]) = .ok (.rt (.vl (.ref h.length))) (h ++ [.lst (F'.map prD)]) ∧ (∃ r, F' = F ++ r) ∧ (∀ l ∈ U, l.1 ∈ F' → l.2 ∈ F') ∧ ∀ x ∈ F', S x := by
  intro j
  induction j with
  | zero => intro k F _ _ _ h1 h2 h3; omega
  | succ j ih =>
    intro k F o4 o6 o7 hk hkF hm hd hs
    have hg := get_last (x := .lst (F.map prD)) (mu1 := h) rfl
    have hlen := gLen_ref hg
    rw [List.length_map] at hlen
    rw [List.range'_succ, List.map_cons]
    by_cases c : k < F.length
    · have hsrc : F[k]? = some F[k] := List.getElem?_eq_getElem c
      have hin := wk_inner (core := core) (lks := .fl (U.map lkD)) (h := h) (k := k) (src := F[k]) U F none none hsrc (by omega)
      obtain ⟨r, hr⟩ := addL_pre (src := F[k]) U F
      have hmm := addL_miss (U := U) (src := F[k]) U F fun l hl => hl
      obtain ⟨F', e, ⟨r', hr'⟩, hc, hs'⟩ := ih (k + 1) (addL F[k] F U) (some (.int (k : Int))) none none (by omega) (by rw [hr, List.length_append]; omega) (by omega) (fun i hi l hl hg2 => by
        rw [hr] at hg2
        rw [List.getElem?_append_left (by omega)] at hg2
        by_cases e : i = k
        · subst e
          rw [hsrc] at hg2
          exact addL_has U F l hl (Option.some.inj hg2).symm
        · rw [hr]
          exact List.mem_append.mpr (.inl (hd i (by omega) l hl hg2))) (addL_sound U F hS (hs _ (List.getElem_mem c)) hs)
      refine ⟨F', ?_, ⟨r ++ r', by rw [hr', hr, List.append_assoc]⟩, hc, hs'⟩
      refine (loopF_step (e := [some core, some (.fl (U.map lkD)), some (.ref h.length), none, some (.int (k : Int)), none, none, none]) (mu1 := h ++ [.lst ((addL F[k] F U).map prD)]) rfl ?_).trans e
      have hnc : ¬ F.length ≤ k := by omega
      generalize (addL F[k] F U).map prD = A2 at *
      generalize F.map prD = FD at *
      generalize U.map lkD = UD at *
      simp [wkOut, hlen, hnc, hin]
    · have e : k = F.length := by omega
      refine ⟨F, loopF_ret rfl ?_, ⟨[], by simp⟩, fun l hl hm1 => ?_, hs⟩
      · have hnc : (F.length : Int) ≤ (k : Int) := by omega
        generalize F.map prD = FD at *
        generalize U.map lkD = UD at *
        have hc' : F.length ≤ k := by omega
        simp [wkOut, hlen, hc']
      · obtain ⟨i, hi, hg2⟩ := List.getElem_of_mem hm1
        exact hd i (by omega) l hl (by rw [List.getElem?_eq_getElem hi, hg2])
noncomputable def reachD : List D → M Rv := fgt (den__law_reached linksD (lstmtL 4))
theorem reached_ok {ps : List P1} {S : Pt → Prop} {mu : List MO} (hb : ∀ p ∈ ps, p.body.length < 1000 ∧ ∀ t ∈ p.body, CallOk ps t.2) (hl : (ps.flatMap base).length + (links ps).length < 400) (hS : ∀ l ∈ links ps, S l.1 → S l.2) (hS0 : ∀ x ∈ ps.flatMap base, S x) (hc : CloH mu) :
    ∃ F : List Pt, reachD [coreD ps] mu = .ok (.fr (F.map prD)) mu ∧ (∀ x ∈ ps.flatMap base, x ∈ F) ∧ (∀ l ∈ links ps, l.1 ∈ F → l.2 ∈ F) ∧ ∀ x ∈ F, S x := by
  have h0 := fun m (hm : CloH m) => links_ok (mu := m) hb (by omega) hm
  have h1 := rb_procs (core := coreD ps) (lks := .fl ((links ps).map lkD)) hc ps [] none none (fun q hq => (hb q hq).1) (by rw [List.length_nil]; omega)
  rw [List.map_nil, List.nil_append] at h1
  have hmiss : missF (links ps) (ps.flatMap base) ≤ (links ps).length := List.countP_le_length
  obtain ⟨F, h2, ⟨r, hr⟩, hcl, hsd⟩ := wk_outer (core := coreD ps) (h := mu) hS (by omega) 400 0 (ps.flatMap base) none none none rfl (by omega) (by omega) (fun i hi => by omega) hS0
  refine ⟨F, ?_, fun x hx => by rw [hr]; exact List.mem_append.mpr (.inl hx), hcl, hsd⟩
  have er : r__law_reached linksD (lstmtL 4) = sSeq (sSet 1 (eCall (lenD 1 linksD) (aCons (eVar 0) aNil))) (sSeq (sSet 2 (eNew (aList aNil))) (sSeq (sFor (eWalk (eVar 0)) (asgN 3) rbP [3, 5]) (sSeq (sFor (wThen wRng1 (aCons (eC (.int 400)) aNil)) (asgN 4) wkOut [4, 6, 7]) (sRet (eVar 2))))) := rfl
  have e : den__law_reached linksD (lstmtL 4) [coreD ps] mu = .ok (.vl (.ref mu.length)) (mu ++ [.lst (F.map prD)]) := by
    refine noX_ok ?_
    rw [er]
    have w : ∀ m, walkD (coreD ps) m = .ok (ps.map procD, []) m := fun _ => rfl
    have wr : ∀ m, wRng1 [.int 400] m = .ok (rngD 0 400, []) m := fun m => wRng1_ok (n := 400) (by omega)
    have hr0 : rngD 0 400 = (List.range' 0 400).map fun (i : Nat) => D.int (i : Int) := rng_eq 400
    rw [← hr0] at h2
    have h0 := h0 mu hc
    generalize F.map prD = FD at *
    generalize (ps.flatMap base).map prD = BD at *
    generalize (links ps).map lkD = LD at *
    generalize rngD 0 400 = RN at *
    generalize ps.map procD = PS at *
    generalize coreD ps = CO at *
    simp [startE, h0, w, h1, wr, h2]
  exact fgt_list e rfl hc (Nat.le_refl _) (get_last rfl) (flats_clo _ (prs_flat _))
end K01
namespace K01
open PySem L2 PyProof.Rows MP
/-! ### both find the same -/
inductive Rc (ps : List P1) : Pt → Prop where
  | base {p : P1} {x : Str} : p ∈ ps → x ∈ ch p → Rc ps (p.name, x)
  | step {l : Lk} : l ∈ links ps → Rc ps l.1 → Rc ps l.2
theorem link_of {ps : List P1} {l : Lk} (h : l ∈ links ps) : ∃ p ∈ ps, ∃ t ∈ p.body, ∃ c as it x, t.2 = .call c as ∧ (it, some x) ∈ (itemsOf ps c).zip as ∧ l = ((c, it.2), (p.name, x)) := by
  obtain ⟨p, hp, h⟩ := List.mem_flatMap.mp h
  obtain ⟨t, ht, h⟩ := List.mem_flatMap.mp h
  cases hb : t.2 with
  | call c as =>
    rw [hb] at h
    obtain ⟨z, hz, h⟩ := List.mem_flatMap.mp (show l ∈ ((itemsOf ps c).zip as).flatMap (lk1 p.name c) from h)
    obtain ⟨it, a⟩ := z
    cases a with
    | none => cases h
    | some x => exact ⟨p, hp, t, ht, c, as, it, x, hb, hz, List.mem_singleton.mp h⟩
  | store y i => rw [hb] at h; cases h
  | push i y => rw [hb] at h; cases h
  | pop y => rw [hb] at h; cases h
theorem pt_link {ps : List P1} {tb : Tb} {p : P1} (hp : p ∈ ps) {y : Str} (h : y ∈ pt tb ps p) : ∃ c z, ((c, z), (p.name, y)) ∈ links ps ∧ z ∈ tb c := by
  obtain ⟨t, ht, h⟩ := List.mem_flatMap.mp h
  cases hb : t.2 with
  | call c as =>
    rw [hb] at h
    obtain ⟨q, hq, h⟩ := List.mem_flatMap.mp (show y ∈ ((itemsOf ps c).zip as).flatMap (pz1 (tb c)) from h)
    obtain ⟨it, a⟩ := q
    cases a with
    | none => cases h
    | some x =>
      have h : y ∈ if (it.1 && (tb c).contains it.2) = true then [x] else [] := h
      split at h
      · rename_i hc
        have hx := List.mem_singleton.mp h
        rw [Bool.and_eq_true] at hc
        refine ⟨c, it.2, ?_, by simpa using hc.2⟩
        rw [hx]
        refine List.mem_flatMap.mpr ⟨p, hp, List.mem_flatMap.mpr ⟨t, ht, ?_⟩⟩
        rw [hb]
        exact List.mem_flatMap.mpr ⟨(it, some x), hq, List.mem_singleton.mpr rfl⟩
      · cases h
  | store y i => rw [hb] at h; cases h
  | push i y => rw [hb] at h; cases h
  | pop y => rw [hb] at h; cases h
theorem rc_closed {ps : List P1} (O : CoreOk ps) : ∀ tb : Tb, Inv ps (fun z y => Rc ps (z, y)) tb → ∀ p ∈ ps, ∀ y ∈ pt tb ps p, Rc ps (p.name, y) := fun tb hi p hp y hy => by
  obtain ⟨c, z, hl, hz⟩ := pt_link hp hy
  refine Rc.step hl ?_
  have hc : c ∈ ps.map (·.name) := by
    obtain ⟨p2, hp2, t2, ht2, c2, as2, it2, x2, hb2, _, e2⟩ := link_of hl
    have e3 : c = c2 := (Prod.mk.inj (Prod.mk.inj e2).1).1
    have h2 := (O.body p2 hp2).2 t2 ht2
    rw [hb2, ← e3] at h2
    obtain ⟨q, hq, _⟩ := h2
    obtain ⟨h3, h4⟩ := find_name hq
    rw [← h4]; exact List.mem_map_of_mem h3
  obtain ⟨q, hq, rfl⟩ := List.mem_map.mp hc
  exact hi q hq _ hz
theorem tb_complete {ps : List P1} (O : CoreOk ps) {tb : Tb} (h0 : ∀ p ∈ ps, ∀ x ∈ ch p, x ∈ tb p.name) (h1 : ∀ q ∈ ps, ∀ x ∈ pt tb ps q, x ∈ tb q.name) {z : Pt} (h : Rc ps z) : z.2 ∈ tb z.1 := by
  induction h with
  | base hp hx => exact h0 _ hp _ hx
  | @step l hl hr ih =>
    obtain ⟨p, hp, t, ht, c, as, it, x, hb, hzz, rfl⟩ := link_of hl
    refine h1 p hp x (List.mem_flatMap.mpr ⟨t, ht, ?_⟩)
    rw [hb]
    refine List.mem_flatMap.mpr ⟨(it, some x), hzz, ?_⟩
    have hco := (O.body p hp).2 t ht
    rw [hb] at hco
    obtain ⟨q, hq, _, _, hz⟩ := hco
    have hit : itemsOf ps c = q.items := by unfold itemsOf; rw [hq]; rfl
    rw [hit] at hzz
    have h2 : it.1 = true := hz (it, some x) hzz
    show x ∈ if (it.1 && (tb c).contains it.2) = true then [x] else []
    have ih : it.2 ∈ tb c := ih
    rw [if_pos (by rw [h2, Bool.true_and]; simpa using ih)]
    exact List.mem_singleton.mpr rfl
theorem f_complete {ps : List P1} {F : List Pt} (h0 : ∀ x ∈ ps.flatMap base, x ∈ F) (h1 : ∀ l ∈ links ps, l.1 ∈ F → l.2 ∈ F) {z : Pt} (h : Rc ps z) : z ∈ F := by
  induction h with
  | base hp hx => exact h0 _ (List.mem_flatMap.mpr ⟨_, hp, List.mem_map_of_mem hx⟩)
  | step hl _ ih => exact h1 _ hl ih
def dueL (F : List Pt) (p : P1) : List Str := (p.items.filter fun it => it.1 && decide ((p.name, it.2) ∈ F)).map (·.2)
theorem ans_eq {ps : List P1} (O : CoreOk ps) {tb : Tb} {F : List Pt} (i1 : Inv ps (fun z y => Rc ps (z, y)) tb) (i2 : ∀ p ∈ ps, ∀ x ∈ ch p, x ∈ tb p.name) (i3 : ∀ q ∈ ps, ∀ x ∈ pt tb ps q, x ∈ tb q.name) (f1 : ∀ x ∈ ps.flatMap base, x ∈ F) (f2 : ∀ l ∈ links ps, l.1 ∈ F → l.2 ∈ F) (f3 : ∀ x ∈ F, Rc ps x) {p : P1} (hp : p ∈ ps) : ansT (tb p.name) p = dueL F p := by
  unfold ansT dueL
  congr 1
  apply List.filter_congr
  intro it hit
  have : (tb p.name).contains it.2 = decide ((p.name, it.2) ∈ F) := by
    rw [Bool.eq_iff_iff, decide_eq_true_eq, List.contains_iff_mem]
    exact ⟨fun h => f_complete f1 f2 (i1 p hp _ h), fun h => tb_complete O i2 i3 (f3 _ h)⟩
  rw [this]
end K01
namespace MP
open PySem L2 PyProof.Rows
theorem draw_tail {s : Nat} {cs : List Int} {most : Int} {mu ex : List MO} (h : At s cs mu) (hm : 0 < most) (hl : most.natAbs.log2 < 9000) : ∃ d mu', den__law_draw [.ref s, .int most] (mu ++ ex) = .ok (.vl (.int d)) (mu' ++ ex) ∧ Nx s cs mu mu' ∧ 0 ≤ d ∧ d < most := by
  obtain ⟨d, m, e, n, h0, h1⟩ := draw_at (h.app ex) hm hl
  obtain ⟨mu', rfl, nn⟩ := Nx.app h n
  exact ⟨d, mu', e, nn, h0, h1⟩
theorem shuf_tail {s : Nat} {cs : List Int} {xs : List D} {mu ex : List MO} (A : At s cs mu) (hl : xs.length < 1000) (hf : flats xs = true) : ∃ ys mu', shufD [.ref s, .fl xs] (mu ++ ex) = .ok (.fr ys) (mu' ++ ex) ∧ Nx s cs mu mu' ∧ ys.Perm xs := by
  obtain ⟨ys, m, e, n, p⟩ := shufD_ok (d := .fl xs) (A.app ex) rfl hl (flats_clo _ hf)
  obtain ⟨mu', rfl, nn⟩ := Nx.app A n
  exact ⟨ys, mu', e, nn, p⟩
theorem one_tail {s : Nat} {cs : List Int} {xs : List D} {mu ex : List MO} (h : At s cs mu) (h0 : 0 < xs.length) (h1 : xs.length < 1000) : ∃ x mu', den__law_one_of den__law_draw [.ref s, .fl xs] (mu ++ ex) = .ok (.vl x) (mu' ++ ex) ∧ Nx s cs mu mu' ∧ x ∈ xs := by
  obtain ⟨x, m, e, n, hx⟩ := one_of_at (h.app ex) h0 h1
  obtain ⟨mu', rfl, nn⟩ := Nx.app h n
  exact ⟨x, mu', e, nn, hx⟩
theorem unmap {α : Type} {f : α → D} {P : α → Prop} : ∀ {xs : List D}, (∀ x ∈ xs, ∃ a, x = f a ∧ P a) → ∃ as : List α, xs = as.map f ∧ ∀ a ∈ as, P a
  | [], _ => ⟨[], rfl, by simp⟩
  | x :: xs, h => by
    obtain ⟨a, e, ha⟩ := h x (by simp)
    obtain ⟨as, e2, h2⟩ := unmap (f := f) (P := P) (xs := xs) fun y hy => h y (by simp [hy])
    exact ⟨a :: as, by rw [e, e2, List.map_cons], fun b hb => by
      rcases List.mem_cons.mp hb with e3 | e3
      · rw [e3]; exact ha
      · exact h2 b e3⟩
theorem gSl_fl_take {xs : List D} {k : Nat} {mu : List MO} : gSl (.fl xs) none (some (k : Int)) mu = .ok (.fl (xs.take k)) mu := by
  have e : gSl (.fl xs) none (some (k : Int)) mu = .ok (.fl (MP.cutD xs none (some (k : Int)))) mu := rfl
  rw [e, cutD_take]
theorem gSl_fl_drop {xs : List D} {k : Nat} {mu : List MO} : gSl (.fl xs) (some (k : Int)) none mu = .ok (.fl (xs.drop k)) mu := by
  have e : gSl (.fl xs) (some (k : Int)) none mu = .ok (.fl (MP.cutD xs (some (k : Int)) none)) mu := rfl
  rw [e, cutD_drop]
theorem nodup_sub_len {α : Type} [DecidableEq α] : ∀ {l m : List α}, l.Nodup → (∀ x ∈ l, x ∈ m) → l.length ≤ m.length
  | [], _, _, _ => Nat.zero_le _
  | a :: l, m, hn, h => by
    have hn' := List.nodup_cons.mp hn
    have ha := h a (by simp)
    have := nodup_sub_len (l := l) (m := m.erase a) hn'.2 fun x hx => (List.mem_erase_of_ne (fun e => hn'.1 (by rw [← e]; exact hx))).mpr (h x (by simp [hx]))
    rw [List.length_erase_of_mem ha] at this
    have hp := List.length_pos_of_mem ha
    rw [List.length_cons]; omega
end MP
namespace K01
open PySem L2 PyProof.Rows MP
structure Hd where
  name : Str
  items : List (Bool × Str)
  places : List (Bool × Str)
def headD (h : Hd) : D := .tup [.str h.name, .fl (h.items.map itemD), .fl (h.places.map itemD)]
def nArr (l : List (Bool × Str)) : Nat := (l.filter fun it => it.1).length
/-! the inserts -/
noncomputable def insBody : MP.Env → M Fl := (sExpr (eMeth lstK gInsert (eVar 8) (aCons (eCall (lenD 2 den__law_draw) (aCons (eVar 0) (aCons (eBin gAdd (aThen (MP.g1 gLen) (aCons (eVar 8) aNil)) (eC (.int 1))) aNil))) (aCons (aThen gTup (aCons (eC (.str "int")) (aCons (eBin gAdd (eBin gIx (eVar 4) (eBin gAdd (eC (.int 6)) (eVar 9))) (eC (.str "n"))) aNil))) aNil))))
theorem ins_loop {s i : Nat} {cs : List Int} {a1 a2 a3 a5 a6 a7 : D} {ws : List Str} (hw : ws.length = 8) (hg : ∀ w ∈ ws, GoodW w) {ex : List MO} : ∀ (ks : List Nat) (its : List (Bool × Str)) (mu1 : List MO) (o9 o10 o11 o12 : Option D), At s cs mu1 → i = mu1.length + ex.length → (∀ k ∈ ks, k < 2) → its.length + ks.length < 100 →
    ∃ (its' : List (Bool × Str)) (mu2 : List MO), Nx s cs mu1 mu2 ∧ its'.length = its.length + ks.length ∧ nArr its' = nArr its ∧
    loopF (asgN 9) insBody [9] [] (ks.map fun (k : Nat) => D.int (k : Int)) [some (.ref s), some a1, some a2, some a3, some (.fl (ws.map D.str)), some a5, some a6, some a7, some (.ref i), o9, o10, o11, o12, none, none] (mu1 ++ (ex ++ [.lst (its.map itemD)]))
      = .ok (.nx [some (.ref s), some a1, some a2, some a3, some (.fl (ws.map D.str)), some a5, some a6, some a7, some (.ref i), none, o10, o11, o12, none, none]) (mu2 ++ (ex ++ [.lst (its'.map itemD)]))
  | [], its, mu1, o9, o10, o11, o12, A, _, _, _ => ⟨its, mu1, .refl A, rfl, rfl, by
    show loopF _ _ _ [] [] _ _ = _
    rw [loopF_nil]; rfl⟩
  | k :: ks, its, mu1, o9, o10, o11, o12, A, hi, hk, hl => by
    rw [List.length_cons] at hl
    have s2 : (2 : Nat) ≤ sizeLine := by decide
    have hk2 := hk k (by simp)
    have e0 : ∀ (m : List MO) (A0 : List MO) (L : List D), A0 = m ++ ex → m.length = mu1.length → (m ++ (ex ++ [MO.lst L]))[i]? = some (.lst L) := fun m A0 L h1 h2 => by
      rw [← List.append_assoc]; exact get_last (by rw [List.length_append, hi, h2])
    have hg0 := e0 mu1 _ (its.map itemD) rfl rfl
    obtain ⟨d, mu2, e1, n1, d0, d1⟩ := draw_tail (ex := ex ++ [.lst (its.map itemD)]) A (most := (its.length : Int) + 1) (by omega) (log2_small (by omega))
    obtain ⟨d, rfl⟩ := Int.eq_ofNat_of_zero_le d0
    have hg1 := e0 mu2 _ (its.map itemD) rfl n1.len
    obtain ⟨w, hwk⟩ : ∃ w, ws[6 + k]? = some w := ⟨_, List.getElem?_eq_getElem (by omega)⟩
    have hww := hg w (List.mem_of_getElem? hwk)
    have hix : ∀ m, gIx (.fl (ws.map D.str)) (.int (6 + (k : Int))) m = .ok (.str w) m := fun m => by
      rw [gIx_fl, show (6 : Int) + (k : Int) = ((6 + k : Nat) : Int) from by omega]
      exact ixD_nat (by rw [List.getElem?_map, hwk]; rfl)
    have hadd : ∀ m, gAdd (.str w) (.str "n") m = .ok (.str (w ++ "n")) m := fun m => by
      have e : (Str.ofString "n").length = 1 := by decide +kernel
      rw [gAdd_str, if_pos (by rw [e, sizeLine_eq]; have := hww.le; omega)]
    have hins := insert_ok (d := itemD (false, w ++ "n")) (i := (d : Int)) hg1 (by rw [List.length_map, sizeLine_eq]; omega) (by omega) (by omega)
    have hset : (mu2 ++ (ex ++ [MO.lst (its.map itemD)])).set i (.lst ((its.map itemD).take (d : Int).toNat ++ [itemD (false, w ++ "n")] ++ (its.map itemD).drop (d : Int).toNat)) = mu2 ++ (ex ++ [.lst ((its.take d ++ [(false, w ++ "n")] ++ its.drop d).map itemD)]) := by
      rw [← List.append_assoc, set_last (by rw [List.length_append, hi, n1.len]), List.append_assoc]
      simp
    rw [hset] at hins
    let its1 : List (Bool × Str) := its.take d ++ [(false, w ++ "n")] ++ its.drop d
    have hl1 : its1.length = its.length + 1 := by
      show (its.take d ++ [(false, w ++ "n")] ++ its.drop d).length = _
      simp only [List.length_append, List.length_take, List.length_drop, List.length_singleton]; omega
    have hn1 : nArr its1 = nArr its := by
      show ((its.take d ++ [(false, w ++ "n")] ++ its.drop d).filter fun it => it.1).length = (its.filter fun it => it.1).length
      rw [List.filter_append, List.filter_append]
      conv => rhs; rw [← List.take_append_drop d its, List.filter_append]
      simp
    obtain ⟨its', mu3, n3, h1, h2, h3⟩ := ins_loop (i := i) (a1 := a1) (a2 := a2) (a3 := a3) (a5 := a5) (a6 := a6) (a7 := a7) hw hg (ex := ex) ks its1 mu2 (some (.int (k : Int))) o10 o11 o12 (n1.at_ A) (by rw [n1.len]; exact hi) (fun x hx => hk x (by simp [hx])) (by omega)
    refine ⟨its', mu3, n1.trans n3, by rw [h1, hl1, List.length_cons]; omega, by rw [h2, hn1], ?_⟩
    rw [List.map_cons]
    refine (loopF_step (e := [some (.ref s), some a1, some a2, some a3, some (.fl (ws.map D.str)), some a5, some a6, some a7, some (.ref i), some (.int (k : Int)), o10, o11, o12, none, none]) (mu1 := mu2 ++ (ex ++ [.lst (its1.map itemD)])) rfl ?_).trans h3
    have hln := gLen_ref hg0
    rw [List.length_map] at hln
    have hitem : itemD (false, w ++ "n") = .tup [.str "int", .str (w ++ "n")] := rfl
    rw [hitem] at hins
    have hins : gInsert (.ref i) [.int (d : Int), .tup [.str "int", .str (w ++ "n")]] (mu2 ++ (ex ++ [.lst (its.map itemD)])) = .ok .non (mu2 ++ (ex ++ [.lst (its1.map itemD)])) := hins
    have hk0 := lstK_ref hg0
    generalize its1.map itemD = I1 at *
    generalize its.map itemD = I0 at *
    generalize ws.map D.str = WD at *
    generalize w ++ ("n" : Str) = WN at *
    simp [insBody, hk0, hln, e1, hix, hadd, gTup_ok, s2, hins, -gAdd_str]
end K01
namespace MP
open PySem L2 PyProof.Rows
theorem loopC_mapG {γ : Type} {asg : D → Env → M Env} {t : Env → M Bool} {r : Env → M D} {env : Env} {mu : List MO} {gr : List (Nat × List D)} (hgr : chk gr mu = .ok () mu) {g f : γ → D} : ∀ {xs : List γ}, (∀ x ∈ xs, ∃ env1, asg (g x) env mu = .ok env1 mu ∧ t env1 mu = .ok true mu ∧ r env1 mu = .ok (f x) mu) → loopC asg t r gr (xs.map g) env mu = .ok (xs.map f) mu
  | [], _ => by
    show ((chk gr : M Unit) >>= fun _ => (pure [] : M (List D))) mu = _
    rw [bind_ap, hgr]; rfl
  | x :: xs, h => by
    obtain ⟨env1, h1, h2, h3⟩ := h x (by simp)
    have ih := loopC_mapG (xs := xs) hgr fun e he => h e (by simp [he])
    rw [List.map_cons, List.map_cons]
    show ((chk gr : M Unit) >>= fun _ => asg (g x) env >>= fun env1 => t env1 >>= fun b => if b = true then (r env1 >>= fun y => loopC asg t r gr (xs.map g) env >>= fun ys => pure (y :: ys)) else loopC asg t r gr (xs.map g) env) mu = _
    rw [bind_ap, hgr]
    simp [h1, h2, h3, ih]
end MP
namespace K01
open PySem L2 PyProof.Rows MP
/-- what a head is like -/
structure HdOk (ring : Bool) (h : Hd) : Prop where
  il : h.items.length ≤ 6
  ar : nArr h.items ≤ 4
  rg : ring = true → 1 ≤ nArr h.items
  pa : ∀ it ∈ h.places, it.1 = true
  pl : h.places.length ≤ 8
  en : 4 ≤ nArr h.items + h.places.length
/-- heads in the making: their items stand in the heap from b on -/
def hsD : Nat → List Hd → List D
  | _, [] => []
  | b, h :: L => .tup [.str h.name, .ref b, .fl (h.places.map itemD)] :: hsD (b + 1) L
def hsO (L : List Hd) : List MO := L.map fun h => .lst (h.items.map itemD)
theorem hsD_app : ∀ (L : List Hd) (b : Nat) (h : Hd), hsD b (L ++ [h]) = hsD b L ++ [.tup [.str h.name, .ref (b + L.length), .fl (h.places.map itemD)]]
  | [], b, h => rfl
  | x :: L, b, h => by
    show _ :: hsD (b + 1) (L ++ [h]) = _ :: (hsD (b + 1) L ++ _)
    rw [hsD_app L (b + 1) h, List.length_cons, show b + 1 + L.length = b + (L.length + 1) from by omega]
theorem hsD_len : ∀ (L : List Hd) (b : Nat), (hsD b L).length = L.length
  | [], _ => rfl
  | _ :: L, b => by show (hsD (b + 1) L).length + 1 = _; rw [hsD_len L]; rfl
noncomputable def partBody : MP.Env → M Fl := (sSeq (sSet 7 (eCall (lenD 2 den__law_draw) (aCons (eVar 0) (aCons (eC (.int 5)) aNil))))
  (sSeq (eIf (eB (eVar 2))
  (sSet 7 (eBin gAdd (eC (.int 1)) (eCall (lenD 2 den__law_draw) (aCons (eVar 0) (aCons (eC (.int 4)) aNil)))))
  sNext)
  (sSeq (sSet 8 (eNew (fComp (eWalk (eSl (eCall (lenD 2 shufD) (aCons (eVar 0) (aCons (eSl (eVar 4) oNone (oSome (eC (.int 6)))) aNil))) oNone (oSome (eVar 7)))) (asgN 13) tYesM (aThen gTup (aCons (eC (.str "array")) (aCons (eVar 13) aNil))) [13])))
  (sSeq (sFor (wThen wRng1 (aCons (eCall (lenD 2 den__law_draw) (aCons (eVar 0) (aCons (eC (.int 3)) aNil))) aNil)) (asgN 9) insBody [9])
  (sSeq (sSet 10 (eFl (fComp (eWalk (eVar 8)) (asgT 2 (asgCons (asgN 14) (asgCons (asgN 13) asgNil))) tYesM (eVar 13) [13, 14])))
  (sSeq (sSet 11 (eCall (lenD 2 shufD) (aCons (eVar 0) (aCons (eFl (fComp (eWalk (eVar 4)) (asgN 13) (eB (eBin (gIn true) (eVar 13) (eVar 10))) (eVar 13) [13])) aNil))))
  (sSeq (sSet 12 (eFl (fComp (eWalk (eVar 11)) (asgN 13) tYesM (aThen gTup (aCons (eC (.str "array")) (aCons (eVar 13) aNil))) [13])))
  (sExpr (eMeth lstK gAppend (eVar 5) (aCons (aThen gTup (aCons (eVar 6) (aCons (eVar 8) (aCons (eSl (eVar 12) oNone (oSome (aThen (MP.g2 (gII cAny fun i j => .int (if j > i then j else i))) (aCons (eBin gAdd (eC (.int 3)) (eCall (lenD 2 den__law_draw) (aCons (eVar 0) (aCons (eC (.int 2)) aNil)))) (aCons (eBin gSub (eC (.int 4)) (eVar 7)) aNil))))) aNil)))) aNil))))))))))
theorem max_ap {i j : Int} {mu : List MO} : gII cAny (fun i j => D.int (if j > i then j else i)) (.int i) (.int j) mu = .ok (.int (if j > i then j else i)) mu := by rw [gII_ap]; exact if_pos trivial
theorem arr_comp {env : MP.Env} {zs : List Str} {mu : List MO} (he : env.length = 15) : loopC (asgN 13) tYesM (aThen gTup (aCons (eC (.str "array")) (aCons (eVar 13) aNil))) [] (zs.map D.str) env mu = .ok ((zs.map fun z => (true, z)).map itemD) mu := by
  rw [List.map_map]
  refine loopC_map' fun z hz => ⟨env.set 13 (some (.str z)), rfl, rfl, ?_⟩
  have s2 : (2 : Nat) ≤ sizeLine := by decide
  have hg : (env.set 13 (some (D.str z)))[13]? = some (some (.str z)) := List.getElem?_set_self (by omega)
  simp [hg, gTup_ok, s2, itemD, kindS]
theorem part_step {s n : Nat} {cs : List Int} {many nms : D} {nm : Str} {ring : Bool} {ws : List Str} {L : List Hd} {mu1 : List MO} (A : At s cs mu1) (hn : n = mu1.length) (hw : ws.length = 8) (hnd : ws.Nodup) (hg : ∀ w ∈ ws, GoodW w) (hL : L.length < 1000) :
    ∃ (h : Hd) (mu2 : List MO) (o7 o8 o9 o10 o11 o12 : Option D), h.name = nm ∧ HdOk ring h ∧ Nx s cs mu1 mu2 ∧
    partBody [some (.ref s), some many, some (.bl ring), some nms, some (.fl (ws.map D.str)), some (.ref n), some (.str nm), none, none, none, none, none, none, none, none] (mu1 ++ (.lst (hsD (n + 1) L) :: hsO L))
      = .ok (.nx [some (.ref s), some many, some (.bl ring), some nms, some (.fl (ws.map D.str)), some (.ref n), some (.str nm), o7, o8, o9, o10, o11, o12, none, none]) (mu2 ++ (.lst (hsD (n + 1) (L ++ [h])) :: hsO (L ++ [h]))) := by
  have s2 : (2 : Nat) ≤ sizeLine := by decide
  have s3 : (3 : Nat) ≤ sizeLine := by decide
  have hOl : (hsO L).length = L.length := by unfold hsO; simp
  let EX : List MO := .lst (hsD (n + 1) L) :: hsO L
  -- the size
  obtain ⟨d1, m1, e1, n1, d10, d15⟩ := draw_tail (ex := EX) A (most := 5) (by decide) (by decide)
  obtain ⟨d2, m2, e2, n2, d20, d24⟩ := draw_tail (ex := EX) (n1.at_ A) (most := 4) (by decide) (by decide)
  obtain ⟨sz, mz, hsz4, hsz1, hsz0, ez, nz⟩ : ∃ (sz : Nat) (mz : List MO), sz ≤ 4 ∧ (ring = true → 1 ≤ sz) ∧ True ∧ (∀ B : MP.Env → M Fl, (sSeq (sSet 7 (eCall (lenD 2 den__law_draw) (aCons (eVar 0) (aCons (eC (.int 5)) aNil)))) (sSeq (eIf (eB (eVar 2)) (sSet 7 (eBin gAdd (eC (.int 1)) (eCall (lenD 2 den__law_draw) (aCons (eVar 0) (aCons (eC (.int 4)) aNil))))) sNext) B)) [some (.ref s), some many, some (.bl ring), some nms, some (.fl (ws.map D.str)), some (.ref n), some (.str nm), none, none, none, none, none, none, none, none] (mu1 ++ EX) = B [some (.ref s), some many, some (.bl ring), some nms, some (.fl (ws.map D.str)), some (.ref n), some (.str nm), some (.int (sz : Int)), none, none, none, none, none, none, none] (mz ++ EX)) ∧ Nx s cs mu1 mz := by
    cases ring with
    | false =>
      obtain ⟨d1, rfl⟩ := Int.eq_ofNat_of_zero_le d10
      refine ⟨d1, m1, by omega, fun h => absurd h (by decide), trivial, fun B => ?_, n1⟩
      generalize ws.map D.str = WD
      generalize EX = EX at *
      simp [e1]
    | true =>
      obtain ⟨d2, rfl⟩ := Int.eq_ofNat_of_zero_le d20
      refine ⟨1 + d2, m2, by omega, fun _ => by omega, trivial, fun B => ?_, n1.trans n2⟩
      generalize ws.map D.str = WD
      generalize EX = EX at *
      simp [e1, e2]
  have Az := nz.at_ A
  -- the items
  obtain ⟨ys, m3, e3, n3, p3⟩ := shuf_tail (ex := EX) (xs := (ws.take 6).map D.str) Az (by rw [List.length_map, List.length_take]; omega) (strs_flat _)
  obtain ⟨zs, rfl, _⟩ := unmap (f := D.str) (P := fun _ => True) (xs := ys) fun x hx => by
    obtain ⟨z, _, e⟩ := List.mem_map.mp (p3.mem_iff.mp hx)
    exact ⟨z, e.symm, trivial⟩
  have hzl : zs.length = 6 := by have := p3.length_eq; simp only [List.length_map, List.length_take] at this; omega
  have A3 := n3.at_ Az
  let its0 : List (Bool × Str) := (zs.take sz).map fun z => (true, z)
  have hi0 : its0.length = sz := by show (List.map _ _).length = _; rw [List.length_map, List.length_take]; omega
  have hn0 : nArr its0 = sz := by
    rw [← hi0]
    show (its0.filter fun it => it.1).length = its0.length
    rw [List.filter_eq_self.mpr fun it hit => ?_]
    obtain ⟨z, _, e⟩ := List.mem_map.mp (show it ∈ (zs.take sz).map fun z => (true, z) from hit)
    rw [← e]
  obtain ⟨d4, m4, e4, n4, d40, d43⟩ := draw_tail (ex := EX ++ [.lst (its0.map itemD)]) A3 (most := 3) (by decide) (by decide)
  obtain ⟨d4, rfl⟩ := Int.eq_ofNat_of_zero_le d40
  have A4 := n4.at_ A3
  have hm4 : m4.length = mu1.length := by rw [n4.len, n3.len, nz.len]
  obtain ⟨its, m5, n5, hil, hia, e5⟩ := ins_loop (i := m4.length + EX.length) (a1 := many) (a2 := .bl ring) (a3 := nms) (a5 := .ref n) (a6 := .str nm) (a7 := .int (sz : Int)) hw hg (ex := EX) (List.range' 0 d4) its0 m4 none none none none A4 rfl (fun k hk => by have := List.mem_range'_1.mp hk; omega) (by rw [List.length_range', hi0]; omega)
  rw [List.length_range', hi0] at hil
  rw [hn0] at hia
  have A5 := n5.at_ A4
  -- known, free
  let known : List Str := its.map (·.2)
  let fr0 : List Str := ws.filter fun w => !known.contains w
  have hfr0 : 8 - its.length ≤ fr0.length := by
    have h1 : (ws.filter fun w => known.contains w).length ≤ known.length := nodup_sub_len (hnd.filter _) fun x hx => by simpa using (List.mem_filter.mp hx).2
    have h2 : fr0.length + (ws.filter fun w => known.contains w).length = ws.length := by
      have := List.length_eq_countP_add_countP (fun w => known.contains w) (l := ws)
      rw [List.countP_eq_length_filter, List.countP_eq_length_filter] at this
      show (ws.filter fun w => !known.contains w).length + _ = _
      have e : (ws.filter fun w => decide ¬known.contains w = true) = ws.filter fun w => !known.contains w := by
        apply List.filter_congr; intro w _; cases known.contains w <;> rfl
      rw [e] at this; omega
    have h3 : known.length = its.length := List.length_map ..
    omega
  have hfr8 : fr0.length ≤ 8 := by rw [← hw]; exact List.length_filter_le _ _
  obtain ⟨vs, m6, e6, n6, p6⟩ := shuf_tail (ex := EX ++ [.lst (its.map itemD)]) (xs := fr0.map D.str) A5 (by rw [List.length_map]; omega) (strs_flat _)
  obtain ⟨us, rfl, _⟩ := unmap (f := D.str) (P := fun _ => True) (xs := vs) fun x hx => by
    obtain ⟨z, _, e⟩ := List.mem_map.mp (p6.mem_iff.mp hx)
    exact ⟨z, e.symm, trivial⟩
  have hul : us.length = fr0.length := by have := p6.length_eq; simpa using this
  have A6 := n6.at_ A5
  obtain ⟨d7, m7, e7, n7, d70, d72⟩ := draw_tail (ex := EX ++ [.lst (its.map itemD)]) A6 (most := 2) (by decide) (by decide)
  obtain ⟨d7, rfl⟩ := Int.eq_ofNat_of_zero_le d70
  let cut : Nat := if (4 : Int) - (sz : Int) > 3 + (d7 : Int) then 4 - sz else 3 + d7
  have hcut : (if (4 : Int) - (sz : Int) > 3 + (d7 : Int) then (4 : Int) - (sz : Int) else 3 + (d7 : Int)) = (cut : Int) := by
    show _ = ((if (4 : Int) - (sz : Int) > 3 + (d7 : Int) then 4 - sz else 3 + d7 : Nat) : Int)
    split <;> omega
  have hc1 : 3 ≤ cut ∧ 4 - sz ≤ cut ∧ cut ≤ 4 := by
    show 3 ≤ (if (4 : Int) - (sz : Int) > 3 + (d7 : Int) then 4 - sz else 3 + d7) ∧ 4 - sz ≤ (if (4 : Int) - (sz : Int) > 3 + (d7 : Int) then 4 - sz else 3 + d7) ∧ (if (4 : Int) - (sz : Int) > 3 + (d7 : Int) then 4 - sz else 3 + d7) ≤ 4
    split <;> omega
  let places : List (Bool × Str) := (us.map fun z => (true, z)).take cut
  have hpl : places.length = min cut us.length := by show (List.take _ _).length = _; rw [List.length_take, List.length_map]
  let hd : Hd := ⟨nm, its, places⟩
  refine ⟨hd, m7, some (.int (sz : Int)), some (.ref (m4.length + EX.length)), none, some (.fl (known.map D.str)), some (.fl (us.map D.str)), some (.fl ((us.map fun z => (true, z)).map itemD)), rfl, ?_, ((((nz.trans n3).trans n4).trans n5).trans n6).trans n7, ?_⟩
  · refine ⟨by show its.length ≤ 6; omega, by show nArr its ≤ 4; omega, fun h => by show 1 ≤ nArr its; have := hsz1 h; omega, fun it hit => ?_, by show places.length ≤ 8; omega, by show 4 ≤ nArr its + places.length; omega⟩
    have := List.mem_of_mem_take (show it ∈ (us.map fun z => (true, z)).take cut from hit)
    obtain ⟨z, _, rfl⟩ := List.mem_map.mp this
    rfl
  · -- the run
    have er : partBody = sSeq (sSet 7 (eCall (lenD 2 den__law_draw) (aCons (eVar 0) (aCons (eC (.int 5)) aNil)))) (sSeq (eIf (eB (eVar 2)) (sSet 7 (eBin gAdd (eC (.int 1)) (eCall (lenD 2 den__law_draw) (aCons (eVar 0) (aCons (eC (.int 4)) aNil))))) sNext) (sSeq (sSet 8 (eNew (fComp (eWalk (eSl (eCall (lenD 2 shufD) (aCons (eVar 0) (aCons (eSl (eVar 4) oNone (oSome (eC (.int 6)))) aNil))) oNone (oSome (eVar 7)))) (asgN 13) tYesM (aThen gTup (aCons (eC (.str "array")) (aCons (eVar 13) aNil))) [13])))
      (sSeq (sFor (wThen wRng1 (aCons (eCall (lenD 2 den__law_draw) (aCons (eVar 0) (aCons (eC (.int 3)) aNil))) aNil)) (asgN 9) insBody [9])
      (sSeq (sSet 10 (eFl (fComp (eWalk (eVar 8)) (asgT 2 (asgCons (asgN 14) (asgCons (asgN 13) asgNil))) tYesM (eVar 13) [13, 14])))
      (sSeq (sSet 11 (eCall (lenD 2 shufD) (aCons (eVar 0) (aCons (eFl (fComp (eWalk (eVar 4)) (asgN 13) (eB (eBin (gIn true) (eVar 13) (eVar 10))) (eVar 13) [13])) aNil))))
      (sSeq (sSet 12 (eFl (fComp (eWalk (eVar 11)) (asgN 13) tYesM (aThen gTup (aCons (eC (.str "array")) (aCons (eVar 13) aNil))) [13])))
      (sExpr (eMeth lstK gAppend (eVar 5) (aCons (aThen gTup (aCons (eVar 6) (aCons (eVar 8) (aCons (eSl (eVar 12) oNone (oSome (aThen (MP.g2 (gII cAny fun i j => .int (if j > i then j else i))) (aCons (eBin gAdd (eC (.int 3)) (eCall (lenD 2 den__law_draw) (aCons (eVar 0) (aCons (eC (.int 2)) aNil)))) (aCons (eBin gSub (eC (.int 4)) (eVar 7)) aNil))))) aNil)))) aNil)))))))))  := rfl
    rw [er]
    show sSeq _ (sSeq _ _) _ (mu1 ++ EX) = _
    rw [ez]
    have hm3 : (m3 ++ EX).length = m4.length + EX.length := by rw [List.length_append, ← n4.len]
    -- the pieces
    have q1 : ∀ m, gSl (.fl (ws.map D.str)) none (some 6) m = .ok (.fl ((ws.take 6).map D.str)) m := fun m => by rw [show (6 : Int) = ((6 : Nat) : Int) from rfl, gSl_fl_take, List.map_take]
    have q2 : ∀ m, gSl (.fl (zs.map D.str)) none (some (sz : Int)) m = .ok (.fl ((zs.take sz).map D.str)) m := fun m => by rw [gSl_fl_take, List.map_take]
    have q3 := fun (o1 o2 o3 o4 o5 o6 o7 : Option D) => noX_ok (arr_comp (env := [some (.ref s), some many, some (.bl ring), some nms, some (.fl (ws.map D.str)), some (.ref n), some (.str nm), o1, o2, o3, o4, o5, o6, none, o7]) (zs := zs.take sz) (mu := m3 ++ EX) rfl)
    have wr : ∀ m, wRng1 [.int (d4 : Int)] m = .ok (rngD 0 d4, []) m := fun m => wRng1_ok (n := (d4 : Int)) (by omega)
    rw [← rng_eq] at e5
    rw [← hm3] at e5
    have hg5 : (m5 ++ (EX ++ [MO.lst (its.map itemD)]))[(m3 ++ EX).length]? = some (.lst (its.map itemD)) := by
      rw [← List.append_assoc]; exact get_last (by rw [hm3, List.length_append, n5.len])
    have w8 : walkD (.ref (m3 ++ EX).length) (m5 ++ (EX ++ [MO.lst (its.map itemD)])) = .ok (its.map itemD, [((m3 ++ EX).length, its.map itemD)]) (m5 ++ (EX ++ [MO.lst (its.map itemD)])) := by rw [walkD_ref, hg5]; rfl
    have c10 : loopC (asgT 2 (asgCons (asgN 14) (asgCons (asgN 13) asgNil))) tYesM (eVar 13) [((m3 ++ EX).length, its.map itemD)] (its.map itemD) [some (.ref s), some many, some (.bl ring), some nms, some (.fl (ws.map D.str)), some (.ref n), some (.str nm), some (.int (sz : Int)), some (.ref (m3 ++ EX).length), none, none, none, none, none, none] (m5 ++ (EX ++ [MO.lst (its.map itemD)])) = .ok (its.map fun it => D.str it.2) (m5 ++ (EX ++ [MO.lst (its.map itemD)])) := by
      generalize (m3 ++ EX).length = I at hg5
      refine loopC_mapG (chk_one hg5) fun it hit => ⟨[some (.ref s), some many, some (.bl ring), some nms, some (.fl (ws.map D.str)), some (.ref n), some (.str nm), some (.int (sz : Int)), some (.ref I), none, none, none, none, some (.str it.2), some (.str (kindS it.1))], ?_, rfl, ?_⟩
      · generalize ws.map D.str = WD
        simp [itemD]
      · generalize ws.map D.str = WD
        simp
    have c10 := noX_ok c10
    have hkn : (its.map fun it => D.str it.2) = known.map D.str := by show _ = (its.map _).map _; rw [List.map_map]; rfl
    rw [hkn] at c10
    have c11 : loopC (asgN 13) (eB (eBin (gIn true) (eVar 13) (eVar 10))) (eVar 13) [] (ws.map D.str) [some (.ref s), some many, some (.bl ring), some nms, some (.fl (ws.map D.str)), some (.ref n), some (.str nm), some (.int (sz : Int)), some (.ref (m3 ++ EX).length), none, some (.fl (known.map D.str)), none, none, none, none] (m5 ++ (EX ++ [MO.lst (its.map itemD)])) = .ok (fr0.map D.str) (m5 ++ (EX ++ [MO.lst (its.map itemD)])) := by
      refine loopC_filter' (p := fun w => !known.contains w) fun w hw => ⟨_, rfl, ?_, fun _ => ?_⟩
      · have hin : gIn true (.str w) (.fl (known.map D.str)) (m5 ++ (EX ++ [MO.lst (its.map itemD)])) = .ok (.bl (!known.contains w)) (m5 ++ (EX ++ [MO.lst (its.map itemD)])) := by
          rw [gIn_names (ns := known) rfl (fun z e => by cases e)]
          cases known.contains w <;> rfl
        generalize ws.map D.str = WD
        generalize known.map D.str = KN at *
        simp [hin]
      · generalize ws.map D.str = WD
        generalize known.map D.str = KN at *
        simp
    have c11 := noX_ok c11
    have q12 := noX_ok (arr_comp (env := [some (.ref s), some many, some (.bl ring), some nms, some (.fl (ws.map D.str)), some (.ref n), some (.str nm), some (.int (sz : Int)), some (.ref (m3 ++ EX).length), none, some (.fl (known.map D.str)), some (.fl (us.map D.str)), none, none, none]) (zs := us) (mu := m6 ++ (EX ++ [MO.lst (its.map itemD)])) rfl)
    have q13 : ∀ m, gSl (.fl ((us.map fun z => (true, z)).map itemD)) none (some (cut : Int)) m = .ok (.fl (places.map itemD)) m := fun m => by rw [gSl_fl_take]; show _ = R.ok (D.fl ((List.take cut _).map itemD)) m; rw [List.map_take]
    have hlk : ∀ mm : List MO, mm.length = mu1.length → (mm ++ (EX ++ [MO.lst (its.map itemD)]))[n]? = some (.lst (hsD (n + 1) L)) := fun mm h => by
      show (mm ++ (MO.lst (hsD (n + 1) L) :: _))[n]? = _
      rw [List.getElem?_append_right (by omega), hn, h]; simp
    have hm6 : m6.length = mu1.length := by rw [n6.len, n5.len, hm4]
    have hm7 : m7.length = mu1.length := by rw [n7.len, hm6]
    have hk6 := lstK_ref (hlk m6 hm6)
    have hap := append_ok (d := .tup [.str nm, .ref (m3 ++ EX).length, .fl (places.map itemD)]) (hlk m7 hm7) (by rw [hsD_len, sizeLine_eq]; omega)
    have hI : (m3 ++ EX).length = n + 1 + L.length := by
      rw [List.length_append, n3.len, nz.len, hn]
      show _ + (_ :: hsO L).length = _
      rw [List.length_cons, hOl]; omega
    have hset : (m7 ++ (EX ++ [MO.lst (its.map itemD)])).set n (.lst (hsD (n + 1) L ++ [.tup [.str nm, .ref (m3 ++ EX).length, .fl (places.map itemD)]])) = m7 ++ (.lst (hsD (n + 1) (L ++ [hd])) :: hsO (L ++ [hd])) := by
      rw [hsD_app, hI]
      show (m7 ++ (MO.lst (hsD (n + 1) L) :: (hsO L ++ [MO.lst (its.map itemD)]))).set n _ = _
      rw [List.set_append_right _ _ (by omega), show n - m7.length = 0 from by omega, List.set_cons_zero]
      show _ = m7 ++ (_ :: (L ++ [hd]).map _)
      rw [List.map_append]; rfl
    rw [hset] at hap
    have hfin : (.ref (m4.length + EX.length) : D) = .ref (m3 ++ EX).length := by rw [hm3]
    rw [hfin]
    have hx3 := max_ap (i := 3 + (d7 : Int)) (j := 4 - (sz : Int)) (mu := m7 ++ (EX ++ [MO.lst (its.map itemD)]))
    rw [hcut] at hx3
    have hIe : (m3 ++ EX).length = m3.length + EX.length := List.length_append ..
    rw [hIe] at e5 w8 c10 c11 q12 hap hset ⊢
    have q3' : noX (loopC (asgN 13) tYesM (aThen gTup (aCons (eC (.str "array")) (aCons (eVar 13) aNil))) [] ((zs.take sz).map D.str) [some (.ref s), some many, some (.bl ring), some nms, some (.fl (ws.map D.str)), some (.ref n), some (.str nm), some (.int (sz : Int)), none, none, none, none, none, none, none]) (m3 ++ EX) = .ok (its0.map itemD) (m3 ++ EX) := q3 (some (.int (sz : Int))) none none none none none none
    clear q3 er hset hlk hfin hkn ez hg5
    clear_value EX its0 known fr0 cut places hd
    generalize List.map itemD its0 = I0 at *
    generalize ws.map D.str = WD at *
    generalize (ws.take 6).map D.str = W6 at *
    generalize zs.map D.str = ZD at *
    generalize (zs.take sz).map D.str = ZS at *
    generalize known.map D.str = KN at *
    generalize fr0.map D.str = FR at *
    generalize us.map D.str = US at *
    generalize its.map itemD = I1 at *
    generalize rngD 0 d4 = RN at *
    generalize (us.map fun z => (true, z)).map itemD = UI at *
    generalize places.map itemD = PL at *
    generalize (hsD (n + 1) (L ++ [hd])) = HS at *
    generalize hsO (L ++ [hd]) = HO at *
    simp [q1, e3, q2, q3', e4, wr, e5, w8, c10, c11, e6, q12, hk6, e7, hx3, q13, gTup_ok, s3, hap]
end K01
namespace K01
open PySem L2 PyProof.Rows MP
theorem strsOf_map : ∀ (ws : List Str), strsOf (ws.map D.str) = some ws
  | [] => rfl
  | w :: ws => by
    show (strsOf (ws.map D.str)).map (w :: ·) = _
    rw [strsOf_map ws]; rfl
theorem srtD_strs {ws : List Str} {mu : List MO} (h0 : 0 < ws.length) (h : ws.length < 64) : srtD (ws.map D.str) mu = .ok ((srtS ws).map D.str) mu := by
  unfold srtD
  rw [bind_ap, need_ap, if_pos (by rw [List.length_map]; exact h), strsOf_map]
  match ws, h0 with
  | w :: ws, _ => rfl
theorem parts_loop {s n : Nat} {cs : List Int} {many nms : D} {ring : Bool} {ws : List Str} (hw : ws.length = 8) (hnd : ws.Nodup) (hg : ∀ w ∈ ws, GoodW w) : ∀ (ns : List Str) (L : List Hd) (mu1 : List MO) (o6 o7 o8 o9 o10 o11 o12 : Option D), At s cs mu1 → n = mu1.length → L.length + ns.length < 1000 →
    ∃ (L' : List Hd) (mu2 : List MO), L'.map (·.name) = ns ∧ (∀ h ∈ L', HdOk ring h) ∧ Nx s cs mu1 mu2 ∧
    loopF (asgN 6) partBody [6, 7, 8, 9, 10, 11, 12] [] (ns.map D.str) [some (.ref s), some many, some (.bl ring), some nms, some (.fl (ws.map D.str)), some (.ref n), o6, o7, o8, o9, o10, o11, o12, none, none] (mu1 ++ (.lst (hsD (n + 1) L) :: hsO L))
      = .ok (.nx [some (.ref s), some many, some (.bl ring), some nms, some (.fl (ws.map D.str)), some (.ref n), none, none, none, none, none, none, none, none, none]) (mu2 ++ (.lst (hsD (n + 1) (L ++ L')) :: hsO (L ++ L')))
  | [], L, mu1, o6, o7, o8, o9, o10, o11, o12, A, _, _ => ⟨[], mu1, rfl, by simp, .refl A, by
    show loopF _ _ _ [] [] _ _ = _
    rw [loopF_nil, List.append_nil]; rfl⟩
  | nm :: ns, L, mu1, o6, o7, o8, o9, o10, o11, o12, A, hn, hl => by
    rw [List.length_cons] at hl
    obtain ⟨h, mu2, p7, p8, p9, p10, p11, p12, hnm, hok, n2, e⟩ := part_step (many := many) (nms := nms) (nm := nm) (ring := ring) (L := L) A hn hw hnd hg (by omega)
    obtain ⟨L', mu3, h1, h2, n3, e3⟩ := parts_loop (n := n) (many := many) (nms := nms) (ring := ring) hw hnd hg ns (L ++ [h]) mu2 (some (.str nm)) p7 p8 p9 p10 p11 p12 (n2.at_ A) (by rw [n2.len]; exact hn) (by rw [List.length_append, List.length_singleton]; omega)
    refine ⟨h :: L', mu3, by rw [List.map_cons, h1, hnm], fun x hx => ?_, n2.trans n3, ?_⟩
    · rcases List.mem_cons.mp hx with rfl | hx
      · exact hok
      · exact h2 x hx
    · rw [List.map_cons]
      refine (loopF_step rfl e).trans ?_
      rw [e3, List.append_assoc]; rfl
noncomputable abbrev dWords : List D → M Rv := den__law_words den__law_draw
noncomputable def partsD : List D → M Rv := fgt (den__law_parts dWords den__law_draw shufD)
theorem frz_heads {H : List MO} {k n : Nat} (hk : k ≤ n) : ∀ (L : List Hd) (b : Nat), n < b → (∀ i h, L[i]? = some h → H[b + i]? = some (.lst (h.items.map itemD))) → Frzs H k (fun j => j ≠ n) (hsD b L) (L.map headD)
  | [], _, _, _ => .nil
  | h :: L, b, hb, hi => by
    have h0 := hi 0 h rfl
    refine .cons (.tup (.cons (.str _) (.cons (.lst (by omega) (by omega) h0 (flats_clo _ (flats_of fun d hd => ?_) _ _)) (.cons (.fl (flats_clo _ (flats_of fun d hd => ?_) _ _)) .nil)))) (frz_heads hk L (b + 1) (by omega) fun i x hx => ?_)
    · obtain ⟨it, _, e⟩ := List.mem_map.mp hd
      rw [← e]; rfl
    · obtain ⟨it, _, e⟩ := List.mem_map.mp hd
      rw [← e]; rfl
    · have := hi (i + 1) x (by simpa using hx)
      rw [show b + 1 + i = b + (i + 1) from by omega]; exact this
theorem parts_ok {s many : Nat} {cs : List Int} {ring : Bool} {mu : List MO} (A : At s cs mu) (hc : CloH mu) (h0 : 1 ≤ many) (h1 : many ≤ 26) :
    ∃ (L : List Hd) (mu' : List MO), partsD [.ref s, .int (many : Int), .bl ring] mu = .ok (.fr (L.map headD)) mu' ∧ Nx s cs mu mu' ∧ L.length = many ∧ (L.map (·.name)).Nodup ∧ ∀ h ∈ L, HdOk ring h := by
  obtain ⟨ns, m1, e1, n1, hnl, hnn, hng⟩ := words_ok (n := many) A h1
  obtain ⟨ws, m2, e2, n2', hwl, hwn, hwg⟩ := words_ok (n := 8) (n1.at_ A) (by decide)
  have n2 := n1.trans n2'
  have hs := srtD_strs (ws := ns) (mu := m1) (by omega) (by omega)
  obtain ⟨L, m3, hL1, hL2, n3', e3⟩ := parts_loop (n := m2.length) (many := .int (many : Int)) (nms := .fl ((srtS ns).map D.str)) (ring := ring) hwl hwn hwg (srtS ns) [] m2 none none none none none none none (n2.at_ A) rfl (by rw [srtS_len]; simp; omega)
  have n3 := n2.trans n3'
  rw [List.nil_append] at e3
  have er : r__law_parts dWords den__law_draw shufD = (sSeq (sSet 3 (eFl (fSrt (eCall (lenD 2 dWords) (aCons (eVar 0) (aCons (eVar 1) aNil))))))
    (sSeq (sSet 4 (eCall (lenD 2 dWords) (aCons (eVar 0) (aCons (eC (.int 8)) aNil))))
    (sSeq (sSet 5 (eNew (aList aNil)))
    (sSeq (sFor (eWalk (eVar 3)) (asgN 6) partBody [6, 7, 8, 9, 10, 11, 12])
    (sRet (eVar 5)))))) := rfl
  have e : den__law_parts dWords den__law_draw shufD [.ref s, .int (many : Int), .bl ring] mu = .ok (.vl (.ref m2.length)) (m3 ++ (.lst (hsD (m2.length + 1) L) :: hsO L)) := by
    refine noX_ok ?_
    rw [er]
    have e1 : dWords [.ref s, .int (many : Int)] mu = .ok (.fr (ns.map D.str)) m1 := e1
    have e2 : dWords [.ref s, .int 8] m1 = .ok (.fr (ws.map D.str)) m2 := e2
    have e3 : loopF (asgN 6) partBody [6, 7, 8, 9, 10, 11, 12] [] ((srtS ns).map D.str) [some (.ref s), some (.int (many : Int)), some (.bl ring), some (.fl ((srtS ns).map D.str)), some (.fl (ws.map D.str)), some (.ref m2.length), none, none, none, none, none, none, none, none, none] (m2 ++ [.lst []]) = _ := e3
    generalize (srtS ns).map D.str = SN at *
    generalize ns.map D.str = NN at *
    generalize ws.map D.str = WD at *
    simp [startE, e1, hs, e2, e3]
  have hlen : m3.length = mu.length := n3.len
  have hl2 : m2.length = mu.length := n2.len
  refine ⟨L, m3, ?_, n3, ?_, ?_, hL2⟩
  · refine fgt_new e hlen (by omega) (by rw [List.getElem?_append_right (by omega), show m2.length - m3.length = 0 from by omega]; rfl) ((n3.clo hc).frz _) ?_
    refine frz_heads (by omega) L (m2.length + 1) (by omega) fun i h hi => ?_
    rw [List.getElem?_append_right (by omega), show m2.length + 1 + i - m3.length = i + 1 from by omega]
    show (hsO L)[i]? = _
    unfold hsO
    rw [List.getElem?_map, hi]; rfl
  · have := congrArg List.length hL1
    rw [List.length_map, srtS_len, hnl] at this
    exact this
  · rw [hL1]
    exact (List.mergeSort_perm ns leS).nodup_iff.mpr hnn
end K01
namespace MP
open PySem L2 PyProof.Rows
theorem pop_ok {n : Nat} {y : D} {ys : List D} {mu : List MO} (h : mu[n]? = some (.lst (y :: ys))) : gPopAt (.ref n) [.int 0] mu = .ok y (mu.set n (.lst ys)) := by
  show ((toI (.int 0) : M Int) >>= fun i => modL n fun xs => if -(2 ^ 63) ≤ i ∧ i < 2 ^ 63 then match seqIndex? i xs.length with
    | some k => match xs[k]? with
      | some y => some (xs.eraseIdx k, y)
      | none => none
    | none => none else none) mu = _
  rw [bind_ap, toI_int]
  refine modL_at h ?_
  have e : seqIndex? 0 (y :: ys).length = some 0 := by
    unfold seqIndex?
    rw [List.length_cons]
    simp
  rw [if_pos (by decide), e]
  rfl
theorem gAdd_fl {xs ys : List D} {mu : List MO} (h : xs.length + ys.length ≤ sizeLine) : gAdd (.fl xs) (.fl ys) mu = .ok (.fl (xs ++ ys)) mu := by
  show ((rdM (.fl xs) : M (List D)) >>= fun xs => (rdM (.fl ys) : M (List D)) >>= fun ys => (need (xs.length + ys.length ≤ sizeLine) : M Unit) >>= fun _ => (pure (.fl (xs ++ ys)) : M D)) mu = _
  rw [bind_ap, rdM_fl]
  show ((rdM (.fl ys) : M (List D)) >>= fun ys => (need (xs.length + ys.length ≤ sizeLine) : M Unit) >>= fun _ => (pure (.fl (xs ++ ys)) : M D)) mu = _
  rw [bind_ap, rdM_fl]
  show ((need (xs.length + ys.length ≤ sizeLine) : M Unit) >>= fun _ => (pure (.fl (xs ++ ys)) : M D)) mu = _
  rw [bind_ap, need_ap, if_pos h]; rfl
theorem gAdd_tup {xs ys : List D} {mu : List MO} (h : xs.length + ys.length ≤ sizeLine) : gAdd (.tup xs) (.tup ys) mu = .ok (.tup (xs ++ ys)) mu := by
  show ((toT (.tup ys) : M (List D)) >>= fun ys => (need (xs.length + ys.length ≤ sizeLine) : M Unit) >>= fun _ => (pure (.tup (xs ++ ys)) : M D)) mu = _
  rw [bind_ap, toT_tup]
  show ((need (xs.length + ys.length ≤ sizeLine) : M Unit) >>= fun _ => (pure (.tup (xs ++ ys)) : M D)) mu = _
  rw [bind_ap, need_ap, if_pos h]; rfl
end MP
namespace K01
open PySem L2 PyProof.Rows MP
def arrs (h : Hd) : List Str := ((h.items ++ h.places).filter fun it => it.1).map (·.2)
theorem headD_0 {h : Hd} {mu : List MO} : gIx (headD h) (.int 0) mu = .ok (.str h.name) mu := by simp [headD]
theorem headD_1 {h : Hd} {mu : List MO} : gIx (headD h) (.int 1) mu = .ok (.fl (h.items.map itemD)) mu := by simp [headD]
theorem headD_2 {h : Hd} {mu : List MO} : gIx (headD h) (.int 2) mu = .ok (.fl (h.places.map itemD)) mu := by simp [headD]
theorem arrays_ok {h : Hd} {mu : List MO} (h1 : h.items.length ≤ 6) (h2 : h.places.length ≤ 8) : den__law_arrays [headD h] mu = .ok (.fr ((arrs h).map D.str)) mu := by
  have hl : loopC (asgT 2 (asgCons (asgN 1) (asgCons (asgN 2) asgNil))) (eB (eBin (gEq false) (eVar 1) (eC (.str "array")))) (eVar 2) [] ((h.items ++ h.places).map itemD) [some (headD h), none, none] mu = .ok ((arrs h).map D.str) mu := by
    have := loopC_filter' (asg := asgT 2 (asgCons (asgN 1) (asgCons (asgN 2) asgNil))) (t := eB (eBin (gEq false) (eVar 1) (eC (.str "array")))) (r := eVar 2) (env := [some (headD h), none, none]) (mu := mu) (g := itemD) (f := fun it : Bool × Str => D.str it.2) (p := fun it => it.1) (xs := h.items ++ h.places) fun it hit => ⟨[some (headD h), some (.str (kindS it.1)), some (.str it.2)], ?_, ?_, fun _ => ?_⟩
    · rw [this]; unfold arrs; rw [List.map_map]; rfl
    · generalize headD h = HD
      simp [itemD]
    · generalize headD h = HD
      simp [gEq_strs, kind_arr]
    · generalize headD h = HD
      simp
  have hl := noX_ok hl
  have hga : ∀ m, gAdd (.fl (h.items.map itemD)) (.fl (h.places.map itemD)) m = .ok (.fl ((h.items ++ h.places).map itemD)) m := fun m => by
    rw [gAdd_fl (by simp only [List.length_map]; rw [sizeLine_eq]; omega), List.map_append]
  have i1 := fun m => headD_1 (h := h) (mu := m)
  have i2 := fun m => headD_2 (h := h) (mu := m)
  refine noX_ok ?_
  generalize (arrs h).map D.str = AR at *
  generalize (h.items ++ h.places).map itemD = IP at *
  generalize h.items.map itemD = I at *
  generalize h.places.map itemD = P at *
  generalize headD h = HD at *
  simp [r__law_arrays, startE, i1, i2, hga, hl]
/-! ### a call -/
noncomputable def callBody : MP.Env → M Fl := (eIf (eB (eBin (gEq false) (eVar 3) (eC (.str "array"))))
  (sExpr (eMeth lstK gAppend (eVar 2) (aCons (aThen gTup (aCons (eC (.str "array")) (aCons (eMeth lstK gPopAt (eVar 1) (aCons (eC (.int 0)) aNil)) aNil))) aNil)))
  (sExpr (eMeth lstK gAppend (eVar 2) (aCons (aThen gTup (aCons (eC (.str "number")) (aCons (eC (.int 3)) aNil))) aNil))))
theorem call_loop {c : D} {n g : Nat} : ∀ (its : List (Bool × Str)) (ps : List Str) (acc : List (Option Str)) (mu1 : List MO) (o3 o4 : Option D), mu1[n]? = some (.lst (ps.map D.str)) → g = mu1.length → nArr its ≤ ps.length → acc.length + its.length < 1000 →
    ∃ (as : List (Option Str)) (rest : List Str), as.length = its.length ∧ (∀ pr ∈ its.zip as, pr.1.1 = pr.2.isSome) ∧
    loopF (asgT 2 (asgCons (asgN 3) (asgCons (asgN 4) asgNil))) callBody [3, 4] [] (its.map itemD) [some c, some (.ref n), some (.ref g), o3, o4] (mu1 ++ [.lst (acc.map argD)])
      = .ok (.nx [some c, some (.ref n), some (.ref g), none, none]) (mu1.set n (.lst (rest.map D.str)) ++ [.lst ((acc ++ as).map argD)])
  | [], ps, acc, mu1, o3, o4, hp, hg, _, _ => ⟨[], ps, rfl, by simp, by
    show loopF _ _ _ [] [] _ _ = _
    rw [loopF_nil, List.append_nil]
    have : mu1.set n (.lst (ps.map D.str)) = mu1 := by
      obtain ⟨h1, h2⟩ := List.getElem?_eq_some_iff.mp hp
      rw [← h2, List.set_getElem_self]
    rw [this]; rfl⟩
  | it :: its, ps, acc, mu1, o3, o4, hp, hg, hn, hl => by
    rw [List.length_cons] at hl
    have s2 : (2 : Nat) ≤ sizeLine := by decide
    obtain ⟨b, y⟩ := it
    have hgg := get_last (x := .lst (acc.map argD)) (mu1 := mu1) hg
    have hnl := (List.getElem?_eq_some_iff.mp hp).1
    cases b with
    | false =>
      have hn' : nArr its ≤ ps.length := by
        unfold nArr at hn ⊢
        simpa using hn
      obtain ⟨as, rest, h1, h2, h3⟩ := call_loop (c := c) (n := n) (g := g) its ps (acc ++ [none]) mu1 (some (.str "int")) (some (.str y)) hp hg hn' (by rw [List.length_append, List.length_singleton]; omega)
      refine ⟨none :: as, rest, by simp [h1], fun pr hpr => ?_, ?_⟩
      · rcases List.mem_cons.mp hpr with rfl | hpr
        · rfl
        · exact h2 pr hpr
      · have ha : gAppend (.ref g) [.tup [.str "number", .int 3]] (mu1 ++ [.lst (acc.map argD)]) = .ok .non (mu1 ++ [.lst ((acc ++ [none]).map argD)]) := by
          rw [append_ok hgg (by rw [List.length_map, sizeLine_eq]; omega), set_last hg, List.map_append]; rfl
        rw [List.map_cons]
        refine (loopF_step (env1 := [some c, some (.ref n), some (.ref g), some (.str "int"), some (.str y)]) (e := [some c, some (.ref n), some (.ref g), some (.str "int"), some (.str y)]) (mu1 := mu1 ++ [.lst ((acc ++ [none]).map argD)]) ?_ ?_).trans ?_
        · simp [itemD, kindS]
        · have hk : (Str.ofString "int" == Str.ofString "array") = false := by decide +kernel
          have hlk := lstK_ref hgg
          generalize (acc ++ [none]).map argD = A2 at *
          generalize acc.map argD = A at *
          simp [callBody, gEq_strs, hk, gTup_ok, s2, hlk, ha]
        · rw [h3, List.append_assoc]; rfl
    | true =>
      have hn' : nArr its + 1 ≤ ps.length := by
        unfold nArr at hn ⊢
        simpa using hn
      match ps, hp, hn' with
      | [], _, hn' => simp at hn'
      | x :: ps, hp, hn' =>
      have hp' : (mu1.set n (.lst (ps.map D.str)))[n]? = some (.lst (ps.map D.str)) := List.getElem?_set_self hnl
      obtain ⟨as, rest, h1, h2, h3⟩ := call_loop (c := c) (n := n) (g := g) its ps (acc ++ [some x]) (mu1.set n (.lst (ps.map D.str))) (some (.str "array")) (some (.str y)) hp' (by rw [List.length_set]; exact hg) (by simp at hn'; omega) (by rw [List.length_append, List.length_singleton]; omega)
      refine ⟨some x :: as, rest, by simp [h1], fun pr hpr => ?_, ?_⟩
      · rcases List.mem_cons.mp hpr with rfl | hpr
        · rfl
        · exact h2 pr hpr
      · have hpop : gPopAt (.ref n) [.int 0] (mu1 ++ [.lst (acc.map argD)]) = .ok (.str x) (mu1.set n (.lst (ps.map D.str)) ++ [.lst (acc.map argD)]) := by
          rw [pop_ok (y := .str x) (ys := ps.map D.str) (by rw [List.getElem?_append_left hnl]; exact hp), List.set_append_left _ _ hnl]
        have hkn : lstK (.ref n) (mu1 ++ [.lst (acc.map argD)]) = .ok () (mu1 ++ [.lst (acc.map argD)]) := lstK_ref (by rw [List.getElem?_append_left hnl]; exact hp)
        have ha : gAppend (.ref g) [.tup [.str "array", .str x]] (mu1.set n (.lst (ps.map D.str)) ++ [.lst (acc.map argD)]) = .ok .non (mu1.set n (.lst (ps.map D.str)) ++ [.lst ((acc ++ [some x]).map argD)]) := by
          rw [append_ok (get_last (by rw [List.length_set]; exact hg)) (by rw [List.length_map, sizeLine_eq]; omega), set_last (by rw [List.length_set]; exact hg), List.map_append]; rfl
        rw [List.map_cons]
        refine (loopF_step (env1 := [some c, some (.ref n), some (.ref g), some (.str "array"), some (.str y)]) (e := [some c, some (.ref n), some (.ref g), some (.str "array"), some (.str y)]) (mu1 := mu1.set n (.lst (ps.map D.str)) ++ [.lst ((acc ++ [some x]).map argD)]) ?_ ?_).trans ?_
        · simp [itemD, kindS]
        · have hlk := lstK_ref hgg
          generalize (acc ++ [some x]).map argD = A2 at *
          generalize acc.map argD = A at *
          generalize mu1.set n (.lst (ps.map D.str)) = M2 at *
          simp [callBody, gEq_strs, gTup_ok, s2, hlk, hkn, hpop, ha]
        · rw [h3, List.set_set, List.append_assoc]; rfl
noncomputable def callD : List D → M Rv := fgt den__law_call
theorem call_ok {h : Hd} {n : Nat} {ps : List Str} {mu : List MO} (hp : mu[n]? = some (.lst (ps.map D.str))) (hn : nArr h.items ≤ ps.length) (hi : h.items.length ≤ 6) (hc : CloH mu) :
    ∃ (as : List (Option Str)) (rest : List Str), as.length = h.items.length ∧ (∀ pr ∈ h.items.zip as, pr.1.1 = pr.2.isSome) ∧ callD [headD h, .ref n] mu = .ok (.vl (sbD (.call h.name as))) (mu.set n (.lst (rest.map D.str))) := by
  obtain ⟨as, rest, h1, h2, h3⟩ := call_loop (c := headD h) (g := mu.length) h.items ps [] mu none none hp rfl hn (by simp; omega)
  refine ⟨as, rest, h1, h2, ?_⟩
  rw [List.map_nil, List.nil_append] at h3
  have s0 : (0 : Nat) ≤ sizeLine := by decide
  have s4 : (4 : Nat) ≤ sizeLine := by decide
  have i0 := fun m => headD_0 (h := h) (mu := m)
  have i1 := fun m => headD_1 (h := h) (mu := m)
  have er : r__law_call = sSeq (sSet 2 (eNew (aList aNil))) (sSeq (sFor (eWalk (eBin gIx (eVar 0) (eC (.int 1)))) (asgT 2 (asgCons (asgN 3) (asgCons (asgN 4) asgNil))) callBody [3, 4]) (sRet (aThen gTup (aCons (eC (.str "call")) (aCons (eBin gIx (eVar 0) (eC (.int 0))) (aCons (aThen (MP.g1 gTuple) (aCons (eVar 2) aNil)) (aCons (aThen gTup aNil) aNil))))))) := rfl
  have ht : gTuple (.ref mu.length) (mu.set n (.lst (rest.map D.str)) ++ [.lst (as.map argD)]) = .ok (.tup (as.map argD)) (mu.set n (.lst (rest.map D.str)) ++ [.lst (as.map argD)]) := by
    show (rdQ (.ref mu.length) >>= fun xs => (pure (.tup xs) : M D)) _ = _
    have := get_last (x := .lst (as.map argD)) (mu1 := mu.set n (.lst (rest.map D.str))) (k := mu.length) (by rw [List.length_set])
    generalize mu.set n (.lst (rest.map D.str)) = M2 at *
    simp [this]
  refine fgt_val (ex := [.lst (as.map argD)]) (noX_ok ?_) (by rw [List.length_set]) (hc.set (strs_flat _)) (flat_clo _ (sbD_flat _))
  rw [er]
  show _ = R.ok (Rv.vl (D.tup [.str "call", .str h.name, .tup (as.map argD), .tup []])) _
  generalize as.map argD = AS at *
  generalize mu.set n (.lst (rest.map D.str)) = M2 at *
  generalize h.items.map itemD = I at *
  generalize headD h = HD at *
  simp [startE, i0, i1, h3, ht, gTup_ok, s0, s4]
end K01
namespace K01
open PySem L2 PyProof.Rows MP
noncomputable abbrev wrapD : List D → M Rv := den__law_wrapped den__law_draw
noncomputable abbrev changeD : List D → M Rv := den__law_change den__law_draw
noncomputable abbrev oneD : List D → M Rv := den__law_one_of den__law_draw
theorem wrapped_ok {s : Nat} {cs : List Int} {b : Sb} {mu1 ex : List MO} (A : At s cs mu1) : ∃ (w : Wr) (mu2 : List MO), wrapD [.ref s, .tup [sbD b]] (mu1 ++ ex) = .ok (.vl (.tup [topD (w, b)])) (mu2 ++ ex) ∧ Nx s cs mu1 mu2 := by
  have s0 : (0 : Nat) ≤ sizeLine := by decide
  have s1 : (1 : Nat) ≤ sizeLine := by decide
  have s2 : (2 : Nat) ≤ sizeLine := by decide
  have s3 : (3 : Nat) ≤ sizeLine := by decide
  have s4 : (4 : Nat) ≤ sizeLine := by decide
  obtain ⟨k, m1, e1, n1, _, _⟩ := draw_tail (ex := ex) A (most := 2) (by decide) (by decide)
  obtain ⟨d, m2, e2, n2, d0, d5⟩ := draw_tail (ex := ex) (n1.at_ A) (most := 5) (by decide) (by decide)
  obtain ⟨w, hw⟩ : ∃ w, wrapD [.ref s, .tup [sbD b]] (mu1 ++ ex) = .ok (.vl (.tup [topD (w, b)])) (m2 ++ ex) := by
    rcases (by omega : d = 0 ∨ d = 1 ∨ d = 2 ∨ (3 ≤ d ∧ d < 5)) with rfl | rfl | rfl | hd
    · refine ⟨.whl k, noX_ok ?_⟩
      show _ = R.ok (Rv.vl (.tup [.tup [.str "while", .tup [.str "less", .tup [.str "number", .int k], .tup [.str "length", .str "w_w"]], .tup [sbD b]]])) _
      generalize sbD b = SB
      simp [r__law_wrapped, startE, e1, e2, gEq_ints, gTup_ok, s0, s1, s2, s3, s4]
    · refine ⟨.if1 k, noX_ok ?_⟩
      show _ = R.ok (Rv.vl (.tup [.tup [.str "if", .tup [.str "less", .tup [.str "number", .int k], .tup [.str "length", .str "w_w"]], .tup [sbD b], .tup [.tup [.str "pause"]]]])) _
      generalize sbD b = SB
      simp [r__law_wrapped, startE, e1, e2, gEq_ints, gTup_ok, s0, s1, s2, s3, s4]
    · refine ⟨.if2 k, noX_ok ?_⟩
      show _ = R.ok (Rv.vl (.tup [.tup [.str "if", .tup [.str "less", .tup [.str "number", .int k], .tup [.str "length", .str "w_w"]], .tup [], .tup [.tup [.str "while", .tup [.str "less", .tup [.str "number", .int k], .tup [.str "length", .str "w_w"]], .tup [sbD b]]]]])) _
      generalize sbD b = SB
      simp [r__law_wrapped, startE, e1, e2, gEq_ints, gTup_ok, s0, s1, s2, s3, s4]
    · refine ⟨.no, noX_ok ?_⟩
      show _ = R.ok (Rv.vl (.tup [sbD b])) _
      have h0 : ¬ d = 0 := by omega
      have h1 : ¬ d = 1 := by omega
      have h2 : ¬ d = 2 := by omega
      generalize sbD b = SB
      simp [r__law_wrapped, startE, e1, e2, gEq_ints, gTup_ok, s0, s1, s2, s3, s4, h0, h1, h2]
  exact ⟨w, m2, hw, n1.trans n2⟩
theorem change_ok {s : Nat} {cs : List Int} {x : Str} {mu1 ex : List MO} (A : At s cs mu1) : ∃ (b : Sb) (mu2 : List MO), changeD [.ref s, .str x] (mu1 ++ ex) = .ok (.vl (sbD b)) (mu2 ++ ex) ∧ Nx s cs mu1 mu2 ∧ (∀ c as, b ≠ .call c as) ∧ (chB b).length ≤ 1 := by
  have s2 : (2 : Nat) ≤ sizeLine := by decide
  have s3 : (3 : Nat) ≤ sizeLine := by decide
  have s4 : (4 : Nat) ≤ sizeLine := by decide
  obtain ⟨k, m1, e1, n1, _, _⟩ := draw_tail (ex := ex) A (most := 9) (by decide) (by decide)
  obtain ⟨d, m2, e2, n2, d0, d5⟩ := draw_tail (ex := ex) (n1.at_ A) (most := 3) (by decide) (by decide)
  obtain ⟨b, hb, hc, hl⟩ : ∃ b, changeD [.ref s, .str x] (mu1 ++ ex) = .ok (.vl (sbD b)) (m2 ++ ex) ∧ (∀ c as, b ≠ .call c as) ∧ (chB b).length ≤ 1 := by
    rcases (by omega : d = 0 ∨ d = 1 ∨ d = 2) with rfl | rfl | rfl
    · refine ⟨.store x k, noX_ok ?_, fun c as e => (by cases e), (by simp [chB])⟩
      simp [r__law_change, startE, e1, e2, gTup_ok, s2, s3, s4, sbD, numD]
    · refine ⟨.push k x, noX_ok ?_, fun c as e => (by cases e), (by simp [chB])⟩
      simp [r__law_change, startE, e1, e2, gTup_ok, s2, s3, s4, sbD, numD]
    · refine ⟨.pop x, noX_ok ?_, fun c as e => (by cases e), (by simp [chB])⟩
      simp [r__law_change, startE, e1, e2, gTup_ok, s2, s3, s4, sbD, numD]
  exact ⟨b, m2, hb, n1.trans n2, hc, hl⟩
/-- a statement that fits the heads -/
def HC (L : List Hd) : Sb → Prop
  | .call c as => ∃ h ∈ L, h.name = c ∧ as.length = h.items.length ∧ ∀ pr ∈ h.items.zip as, pr.1.1 = pr.2.isSome
  | _ => True
/-- the slots of _law_core_of -/
abbrev EC (s n : Nat) (many : Nat) (ring : Bool) (L : List Hd) (st al : Int) (k : Nat) (h : Hd) (body : List (Wr × Sb)) (o10 o11 o12 o13 o14 o15 : Option D) : MP.Env :=
  [some (.ref s), some (.int (many : Int)), some (.bl ring), some (.fl (L.map headD)), some (.int st), some (.int al), some (.ref n), some (.int (k : Int)), some (headD h), some (.tup (body.map topD)), o10, o11, o12, o13, o14, o15, none, none]
noncomputable def ringB : MP.Env → M Fl := (eIf (eB (eVar 2))
  (sSeq (sSet 12 (eFl (fComp (eWalk (eBin gIx (eVar 8) (eC (.int 1)))) (asgT 2 (asgCons (asgN 16) (asgCons (asgN 17) asgNil))) (eB (eBin (gEq false) (eVar 16) (eC (.str "array")))) (eVar 17) [16, 17])))
  (sSeq (sSet 13 (eNew (fCat (eBin gAdd (eSl (eVar 12) (oSome (eC (.int 1))) oNone) (eSl (eVar 12) oNone (oSome (eC (.int 1))))) (eFl (fComp (eWalk (eBin gIx (eVar 8) (eC (.int 2)))) (asgT 2 (asgCons (asgN 16) (asgCons (asgN 17) asgNil))) tYesM (eVar 17) [16, 17])))))
  (sSet 9 (eCall (lenD 2 wrapD) (aCons (eVar 0) (aCons (aThen gTup (aCons (eCall (lenD 2 callD) (aCons (eBin gIx (eVar 3) (eBin gMod (aThen (MP.g1 gInt) (aCons (eBin gAdd (eVar 7) (eVar 4)) aNil)) (eVar 1))) (aCons (eVar 13) aNil))) aNil)) aNil))))))
  sNext)
theorem call_here {s : Nat} {cs : List Int} {h : Hd} {ring : Bool} {zs : List Str} {mu1 gb : List MO} {c : List D} (hh : HdOk ring h) (hz : 4 ≤ zs.length) (hc1 : CloH mu1) (hcf : flats c = true) (hgb : FlO gb) :
    ∃ (b : Sb) (rest : List Str), callD [headD h, .ref (mu1 ++ (.lst c :: gb)).length] (mu1 ++ (.lst c :: (gb ++ [.lst (zs.map D.str)]))) = .ok (.vl (sbD b)) (mu1 ++ (.lst c :: (gb ++ [.lst (rest.map D.str)]))) ∧ ∃ as, b = .call h.name as ∧ as.length = h.items.length ∧ ∀ pr ∈ h.items.zip as, pr.1.1 = pr.2.isSome := by
  have e : mu1 ++ (MO.lst c :: (gb ++ [.lst (zs.map D.str)])) = (mu1 ++ (.lst c :: gb)) ++ [.lst (zs.map D.str)] := by simp
  have hcl : CloH (mu1 ++ (MO.lst c :: (gb ++ [.lst (zs.map D.str)]))) := hc1.flo (FlO.app (FlO.one hcf) (FlO.app hgb (FlO.one (strs_flat _))))
  have hg := get_last (x := .lst (zs.map D.str)) (mu1 := mu1 ++ (.lst c :: gb)) (k := (mu1 ++ (.lst c :: gb)).length) rfl
  obtain ⟨as, rest, h1, h2, h3⟩ := call_ok (h := h) (n := (mu1 ++ (.lst c :: gb)).length) (ps := zs) (mu := mu1 ++ (.lst c :: (gb ++ [.lst (zs.map D.str)]))) (by rw [e]; exact hg) (by have := hh.ar; omega) hh.il hcl
  refine ⟨.call h.name as, rest, ?_, as, rfl, h1, h2⟩
  rw [h3]
  congr 1
  rw [e, set_last rfl]
  simp
theorem ring_step {s n many k : Nat} {cs : List Int} {ring : Bool} {L : List Hd} {st al : Int} {h : Hd} {o10 o11 o12 o13 o14 o15 : Option D} {mu1 gb : List MO} {c : List D} (A : At s cs mu1) (hh : HdOk ring h) (hL : ∀ x ∈ L, HdOk ring x) (hm : many = L.length) (hm0 : 0 < many) (hc1 : CloH mu1) (hcf : flats c = true) (hgb : FlO gb) :
    ∃ (bd : List (Wr × Sb)) (o12' o13' : Option D) (mu2 gb2 : List MO), ringB (EC s n many ring L st al k h [] o10 o11 o12 o13 o14 o15) (mu1 ++ (.lst c :: gb)) = .ok (.nx (EC s n many ring L st al k h bd o10 o11 o12' o13' o14 o15)) (mu2 ++ (.lst c :: gb2)) ∧ Nx s cs mu1 mu2 ∧ FlO gb2 ∧ bd.length ≤ 1 ∧ ∀ t ∈ bd, HC L t.2 ∧ chB t.2 = [] := by
  cases ring with
  | false =>
    refine ⟨[], o12, o13, mu1, gb, ?_, .refl A, hgb, by simp, by simp⟩
    unfold EC
    generalize L.map headD = LD
    generalize headD h = HD
    simp [ringB]
  | true =>
    let own : List Str := (h.items.filter fun it => it.1).map (·.2)
    let pls : List Str := h.places.map (·.2)
    let zs : List Str := (own.drop 1 ++ own.take 1) ++ pls
    have hol : own.length = nArr h.items := List.length_map ..
    have hpl : pls.length = h.places.length := List.length_map ..
    have hzl : zs.length = own.length + pls.length := by
      show ((own.drop 1 ++ own.take 1) ++ pls).length = _
      simp only [List.length_append, List.length_drop, List.length_take]; omega
    have hz4 : 4 ≤ zs.length := by rw [hzl, hol, hpl]; exact hh.en
    have ha4 := hh.ar
    have hp8 := hh.pl
    -- which head
    have hi0 : 0 ≤ ((k : Int) + st) % (many : Int) := Int.emod_nonneg _ (by omega)
    have hi1 : ((k : Int) + st) % (many : Int) < ((L.map headD).length : Int) := by rw [List.length_map, ← hm]; exact Int.emod_lt_of_pos _ (by omega)
    obtain ⟨x, hx, hat⟩ := atI_of hi0 hi1
    obtain ⟨q, hq, rfl⟩ := List.mem_map.mp hx
    obtain ⟨b, rest, e1, as, rfl, h1, h2⟩ := call_here (s := s) (cs := cs) (hL q hq) hz4 hc1 hcf hgb
    obtain ⟨w, mu2, e2, n2⟩ := wrapped_ok (b := .call q.name as) (ex := .lst c :: (gb ++ [.lst (rest.map D.str)])) A
    refine ⟨[(w, .call q.name as)], some (.fl (own.map D.str)), some (.ref (mu1 ++ (.lst c :: gb)).length), mu2, gb ++ [.lst (rest.map D.str)], ?_, n2, FlO.app hgb (FlO.one (strs_flat _)), by simp, fun t ht => ?_⟩
    · have s1 : (1 : Nat) ≤ sizeLine := by decide
      have i1 := fun m => headD_1 (h := h) (mu := m)
      have i2 := fun m => headD_2 (h := h) (mu := m)
      have c12 := fun m => noX_ok (show loopC (asgT 2 (asgCons (asgN 16) (asgCons (asgN 17) asgNil))) (eB (eBin (gEq false) (eVar 16) (eC (.str "array")))) (eVar 17) [] (h.items.map itemD) (EC s n many true L st al k h [] o10 o11 o12 o13 o14 o15) m = .ok (own.map D.str) m from by
        have := loopC_filter' (asg := asgT 2 (asgCons (asgN 16) (asgCons (asgN 17) asgNil))) (t := eB (eBin (gEq false) (eVar 16) (eC (.str "array")))) (r := eVar 17) (env := EC s n many true L st al k h [] o10 o11 o12 o13 o14 o15) (mu := m) (g := itemD) (f := fun it : Bool × Str => D.str it.2) (p := fun it => it.1) (xs := h.items) fun it hit => ⟨[some (.ref s), some (.int (many : Int)), some (.bl true), some (.fl (L.map headD)), some (.int st), some (.int al), some (.ref n), some (.int (k : Int)), some (headD h), some (.tup []), o10, o11, o12, o13, o14, o15, some (.str (kindS it.1)), some (.str it.2)], ?_, ?_, fun _ => ?_⟩
        · rw [this]; show _ = R.ok ((List.map _ _).map _) m; rw [List.map_map]; rfl
        · unfold EC; generalize L.map headD = LD; generalize headD h = HD; simp [itemD]
        · generalize L.map headD = LD; generalize headD h = HD; simp [gEq_strs, kind_arr]
        · generalize L.map headD = LD; generalize headD h = HD; simp)
      have c13 := fun m => noX_ok (show loopC (asgT 2 (asgCons (asgN 16) (asgCons (asgN 17) asgNil))) tYesM (eVar 17) [] (h.places.map itemD) (EC s n many true L st al k h [] o10 o11 (some (.fl (own.map D.str))) o13 o14 o15) m = .ok (pls.map D.str) m from by
        have := loopC_map' (asg := asgT 2 (asgCons (asgN 16) (asgCons (asgN 17) asgNil))) (t := tYesM) (r := eVar 17) (env := EC s n many true L st al k h [] o10 o11 (some (.fl (own.map D.str))) o13 o14 o15) (mu := m) (g := itemD) (f := fun it : Bool × Str => D.str it.2) (xs := h.places) fun it hit => ⟨[some (.ref s), some (.int (many : Int)), some (.bl true), some (.fl (L.map headD)), some (.int st), some (.int al), some (.ref n), some (.int (k : Int)), some (headD h), some (.tup []), o10, o11, some (.fl (own.map D.str)), o13, o14, o15, some (.str (kindS it.1)), some (.str it.2)], ?_, rfl, ?_⟩
        · rw [this]; show _ = R.ok ((List.map _ _).map _) m; rw [List.map_map]; rfl
        · unfold EC; generalize L.map headD = LD; generalize headD h = HD; generalize own.map D.str = OW; simp [itemD]
        · generalize L.map headD = LD; generalize headD h = HD; generalize own.map D.str = OW; simp)
      have t1 : ∀ m, gSl (.fl (own.map D.str)) (some 1) none m = .ok (.fl ((own.drop 1).map D.str)) m := fun m => by rw [show (1 : Int) = ((1 : Nat) : Int) from rfl, gSl_fl_drop, List.map_drop]
      have t2 : ∀ m, gSl (.fl (own.map D.str)) none (some 1) m = .ok (.fl ((own.take 1).map D.str)) m := fun m => by rw [show (1 : Int) = ((1 : Nat) : Int) from rfl, gSl_fl_take, List.map_take]
      have t3 : ∀ m, gAdd (.fl ((own.drop 1).map D.str)) (.fl ((own.take 1).map D.str)) m = .ok (.fl ((own.drop 1 ++ own.take 1).map D.str)) m := fun m => by
        rw [gAdd_fl (by simp only [List.length_map, List.length_drop, List.length_take]; rw [sizeLine_eq]; omega), List.map_append]
      have t4 : ((own.drop 1 ++ own.take 1).map D.str).length + (pls.map D.str).length ≤ sizeLine := by
        simp only [List.length_map, List.length_append, List.length_drop, List.length_take]; rw [sizeLine_eq]; omega
      have t5 : (own.drop 1 ++ own.take 1).map D.str ++ pls.map D.str = zs.map D.str := by show _ = (_ ++ _ : List Str).map D.str; rw [List.map_append (l₂ := pls)]
      have hmm : ∀ m, gMod (.int ((k : Int) + st)) (.int (many : Int)) m = .ok (.int (((k : Int) + st) % (many : Int))) m := fun m => by rw [gMod_int, if_pos (by omega)]
      have hix : ∀ m, gIx (.fl (L.map headD)) (.int (((k : Int) + st) % (many : Int))) m = .ok (headD q) m := fun m => by rw [gIx_fl]; exact ixD_at hat
      have hIe : (mu1 ++ (MO.lst c :: gb)).length = mu1.length + (gb.length + 1) := by simp
      rw [hIe] at e1 ⊢
      show _ = R.ok (Fl.nx [some (.ref s), some (.int (many : Int)), some (.bl true), some (.fl (L.map headD)), some (.int st), some (.int al), some (.ref n), some (.int (k : Int)), some (headD h), some (.tup [topD (w, .call q.name as)]), o10, o11, some (.fl (own.map D.str)), some (.ref (mu1.length + (gb.length + 1))), o14, o15, none, none]) _
      unfold EC at c12 c13 ⊢
      rw [List.map_nil] at c12 c13 ⊢
      clear_value own pls zs
      generalize ((k : Int) + st) % (many : Int) = IX at *
      generalize L.map headD = LD at *
      generalize headD h = HD at *
      generalize headD q = QD at *
      generalize h.items.map itemD = HI at *
      generalize h.places.map itemD = HP at *
      generalize (own.drop 1 ++ own.take 1).map D.str = OA at *
      generalize (own.drop 1).map D.str = OD at *
      generalize (own.take 1).map D.str = OT at *
      generalize own.map D.str = OW at *
      generalize pls.map D.str = PW at *
      generalize topD (w, .call q.name as) = TD at *
      generalize sbD (.call q.name as) = SB at *
      generalize zs.map D.str = ZD at *
      simp [ringB, i1, i2, c12, t1, t2, t3, c13, t4, t5, hmm, hix, e1, gTup_ok, s1, e2]
    · rw [List.mem_singleton.mp ht]
      exact ⟨⟨q, hq, rfl, h1, h2⟩, rfl⟩
end K01
namespace K01
open PySem L2 PyProof.Rows MP
theorem arrs_len {ring : Bool} {h : Hd} (hh : HdOk ring h) : 4 ≤ (arrs h).length ∧ (arrs h).length ≤ 14 := by
  have h1 : (arrs h).length = nArr h.items + h.places.length := by
    unfold arrs nArr
    rw [List.length_map, List.filter_append, List.length_append, List.filter_eq_self.mpr hh.pa]
  have h2 := hh.en
  have h3 := hh.ar
  have h4 := hh.pl
  rw [h1]; omega
noncomputable def jB : MP.Env → M Fl := (sSeq (sSet 14 (eCall (lenD 2 callD) (aCons (eCall (lenD 2 oneD) (aCons (eVar 0) (aCons (eVar 3) aNil))) (aCons (eNew (fCall (lenD 2 shufD) (aCons (eVar 0) (aCons (eCall (lenD 1 den__law_arrays) (aCons (eVar 8) aNil)) aNil)))) aNil))))
  (sSet 9 (eBin gAdd (eVar 9) (eCall (lenD 2 wrapD) (aCons (eVar 0) (aCons (aThen gTup (aCons (eVar 14) aNil)) aNil))))))
section
variable {s n many k : Nat} {cs : List Int} {ring : Bool} {L : List Hd} {st al : Int} {h : Hd}
theorem j_turn {bd : List (Wr × Sb)} {o10 o11 o12 o13 o14 o15 : Option D} {mu1 gb : List MO} {c : List D} (A : At s cs mu1) (hh : HdOk ring h) (hL : ∀ x ∈ L, HdOk ring x) (hL0 : 0 < L.length) (hL1 : L.length < 1000) (hc1 : CloH mu1) (hcf : flats c = true) (hgb : FlO gb) (hb : bd.length < 1000) :
    ∃ (t : Wr × Sb) (o14' : Option D) (mu2 gb2 : List MO), jB (EC s n many ring L st al k h bd o10 o11 o12 o13 o14 o15) (mu1 ++ (.lst c :: gb)) = .ok (.nx (EC s n many ring L st al k h (bd ++ [t]) o10 o11 o12 o13 o14' o15)) (mu2 ++ (.lst c :: gb2)) ∧ Nx s cs mu1 mu2 ∧ FlO gb2 ∧ HC L t.2 ∧ chB t.2 = [] := by
  have s1 : (1 : Nat) ≤ sizeLine := by decide
  obtain ⟨x, m1, e1, n1, hx⟩ := one_tail (ex := .lst c :: gb) (xs := L.map headD) A (by rw [List.length_map]; exact hL0) (by rw [List.length_map]; exact hL1)
  obtain ⟨q, hq, rfl⟩ := List.mem_map.mp hx
  have hal := arrs_len hh
  obtain ⟨ys, m2, e2, n2, p2⟩ := shuf_tail (ex := .lst c :: gb) (xs := (arrs h).map D.str) (n1.at_ A) (by rw [List.length_map]; omega) (strs_flat _)
  obtain ⟨zs, rfl, _⟩ := unmap (f := D.str) (P := fun _ => True) (xs := ys) fun x hx => by
    obtain ⟨z, _, e⟩ := List.mem_map.mp (p2.mem_iff.mp hx)
    exact ⟨z, e.symm, trivial⟩
  have hzl : zs.length = (arrs h).length := by have := p2.length_eq; simpa using this
  have n12 := n1.trans n2
  obtain ⟨b, rest, e3, as, rfl, h1, h2⟩ := call_here (s := s) (cs := cs) (hL q hq) (zs := zs) (by omega) (n12.clo hc1) hcf hgb
  obtain ⟨w, mu3, e4, n4⟩ := wrapped_ok (b := .call q.name as) (ex := .lst c :: (gb ++ [.lst (rest.map D.str)])) (n12.at_ A)
  refine ⟨(w, .call q.name as), some (sbD (.call q.name as)), mu3, gb ++ [.lst (rest.map D.str)], ?_, n12.trans n4, FlO.app hgb (FlO.one (strs_flat _)), ⟨q, hq, rfl, h1, h2⟩, rfl⟩
  have ar := fun m => arrays_ok (h := h) (mu := m) hh.il hh.pl
  have ga : ∀ m, gAdd (.tup (bd.map topD)) (.tup [topD (w, Sb.call q.name as)]) m = .ok (.tup ((bd ++ [(w, Sb.call q.name as)]).map topD)) m := fun m => by
    rw [gAdd_tup (by rw [List.length_map, sizeLine_eq, List.length_singleton]; omega), List.map_append]; rfl
  have hIe : (m2 ++ (MO.lst c :: gb)).length = m2.length + (gb.length + 1) := by simp
  rw [hIe] at e3
  unfold EC
  generalize (bd ++ [(w, Sb.call q.name as)]).map topD = B2 at *
  generalize bd.map topD = B1 at *
  generalize topD (w, Sb.call q.name as) = TD at *
  generalize sbD (.call q.name as) = SB at *
  generalize L.map headD = LD at *
  generalize (arrs h).map D.str = AR at *
  generalize headD h = HD at *
  generalize headD q = QD at *
  generalize zs.map D.str = ZD at *
  simp [jB, e1, ar, e2, e3, gTup_ok, s1, e4, ga]
theorem j_loop {o11 o12 o13 o15 : Option D} {c : List D} (hh : HdOk ring h) (hL : ∀ x ∈ L, HdOk ring x) (hL0 : 0 < L.length) (hL1 : L.length < 1000) (hcf : flats c = true) : ∀ (ts : List D) (bd : List (Wr × Sb)) (o10 o14 : Option D) (mu1 gb : List MO), At s cs mu1 → CloH mu1 → FlO gb → bd.length + ts.length < 1000 → (∀ t ∈ bd, HC L t.2 ∧ chB t.2 = []) →
    ∃ (bd' : List (Wr × Sb)) (mu2 gb2 : List MO), loopF (asgN 10) jB [10, 14] [] ts (EC s n many ring L st al k h bd o10 o11 o12 o13 o14 o15) (mu1 ++ (.lst c :: gb)) = .ok (.nx (EC s n many ring L st al k h bd' none o11 o12 o13 none o15)) (mu2 ++ (.lst c :: gb2)) ∧ Nx s cs mu1 mu2 ∧ FlO gb2 ∧ bd'.length = bd.length + ts.length ∧ ∀ t ∈ bd', HC L t.2 ∧ chB t.2 = []
  | [], bd, o10, o14, mu1, gb, A, _, hg, _, hb => ⟨bd, mu1, gb, by
    show loopF _ _ _ [] [] _ _ = _
    rw [loopF_nil]; rfl, .refl A, hg, rfl, hb⟩
  | t :: ts, bd, o10, o14, mu1, gb, A, hc, hg, hl, hb => by
    rw [List.length_cons] at hl
    obtain ⟨t1, o14', mu2, gb2, e1, n1, g1, c1, c2⟩ := j_turn (n := n) (many := many) (k := k) (st := st) (al := al) (o10 := some t) (o11 := o11) (o12 := o12) (o13 := o13) (o14 := none) (o15 := o15) A hh hL hL0 hL1 hc hcf hg (by omega : bd.length < 1000)
    obtain ⟨bd', mu3, gb3, e2, n2, g2, l2, b2⟩ := j_loop (o11 := o11) (o12 := o12) (o13 := o13) (o15 := o15) hh hL hL0 hL1 hcf ts (bd ++ [t1]) (some t) o14' mu2 gb2 (n1.at_ A) (n1.clo hc) g1 (by rw [List.length_append, List.length_singleton]; omega) (fun x hx => by
      rcases List.mem_append.mp hx with z | z
      · exact hb x z
      · rw [List.mem_singleton.mp z]; exact ⟨c1, c2⟩)
    exact ⟨bd', mu3, gb3, (loopF_step rfl e1).trans e2, n1.trans n2, g2, by rw [l2, List.length_append, List.length_singleton, List.length_cons]; omega, b2⟩
noncomputable def chgB : MP.Env → M Fl := (eIf (bOr (eB (eBin (gEq false) (eVar 5) (eBin gAdd (eVar 7) (eC (.int 1))))) (bAnd (eB (eBin (gEq false) (eVar 5) (eC (.int 0)))) (eB (eBin (gEq false) (eCall (lenD 2 den__law_draw) (aCons (eVar 0) (aCons (eC (.int 4)) aNil))) (eC (.int 0))))))
  (sSeq (sSet 15 (eCall (lenD 2 wrapD) (aCons (eVar 0) (aCons (aThen gTup (aCons (eCall (lenD 2 changeD) (aCons (eVar 0) (aCons (eCall (lenD 2 oneD) (aCons (eVar 0) (aCons (eCall (lenD 1 den__law_arrays) (aCons (eVar 8) aNil)) aNil))) aNil))) aNil)) aNil))))
  (sSet 9 (eBin gIx (eFl (aList (aCons (eBin gAdd (eVar 15) (eVar 9)) (aCons (eBin gAdd (eVar 9) (eVar 15)) aNil)))) (eCall (lenD 2 den__law_draw) (aCons (eVar 0) (aCons (eC (.int 2)) aNil))))))
  sNext)
noncomputable def chgT : MP.Env → M Fl := (sSeq (sSet 15 (eCall (lenD 2 wrapD) (aCons (eVar 0) (aCons (aThen gTup (aCons (eCall (lenD 2 changeD) (aCons (eVar 0) (aCons (eCall (lenD 2 oneD) (aCons (eVar 0) (aCons (eCall (lenD 1 den__law_arrays) (aCons (eVar 8) aNil)) aNil))) aNil))) aNil)) aNil))))
  (sSet 9 (eBin gIx (eFl (aList (aCons (eBin gAdd (eVar 15) (eVar 9)) (aCons (eBin gAdd (eVar 9) (eVar 15)) aNil)))) (eCall (lenD 2 den__law_draw) (aCons (eVar 0) (aCons (eC (.int 2)) aNil))))))
theorem chg_yes {bd : List (Wr × Sb)} {o10 o11 o12 o13 o14 o15 : Option D} {mu1 ex : List MO} (A : At s cs mu1) (hh : HdOk ring h) (hb : bd.length < 1000) (hbd : ∀ t ∈ bd, HC L t.2 ∧ chB t.2 = []) :
    ∃ (bd' : List (Wr × Sb)) (o15' : Option D) (mu2 : List MO), chgT (EC s n many ring L st al k h bd o10 o11 o12 o13 o14 o15) (mu1 ++ ex) = .ok (.nx (EC s n many ring L st al k h bd' o10 o11 o12 o13 o14 o15')) (mu2 ++ ex) ∧ Nx s cs mu1 mu2 ∧ bd'.length = bd.length + 1 ∧ (∀ t ∈ bd', HC L t.2) ∧ (bd'.flatMap fun t => chB t.2).length ≤ 1 := by
  have s1 : (1 : Nat) ≤ sizeLine := by decide
  have s2 : (2 : Nat) ≤ sizeLine := by decide
  have hal := arrs_len hh
  obtain ⟨x, m1, e1, n1, hx⟩ := one_tail (ex := ex) (xs := (arrs h).map D.str) A (by rw [List.length_map]; omega) (by rw [List.length_map]; omega)
  obtain ⟨z, hz, rfl⟩ := List.mem_map.mp hx
  obtain ⟨b, m2, e2, n2, hnc, hcl⟩ := change_ok (x := z) (ex := ex) (n1.at_ A)
  obtain ⟨w, m3, e3, n3⟩ := wrapped_ok (b := b) (ex := ex) ((n1.trans n2).at_ A)
  obtain ⟨d, m4, e4, n4, d0, d2⟩ := draw_tail (ex := ex) (((n1.trans n2).trans n3).at_ A) (most := 2) (by decide) (by decide)
  have hcz : (bd.flatMap fun t => chB t.2) = [] := by
    rw [List.flatMap_eq_nil_iff]
    exact fun t ht => (hbd t ht).2
  have hHC : HC L b := by cases b with
    | call c as => exact (hnc c as rfl).elim
    | _ => trivial
  have ar := fun m => arrays_ok (h := h) (mu := m) hh.il hh.pl
  have g1 : ∀ m, gAdd (.tup [topD (w, b)]) (.tup (bd.map topD)) m = .ok (.tup (((w, b) :: bd).map topD)) m := fun m => by
    rw [gAdd_tup (by rw [List.length_map, sizeLine_eq, List.length_singleton]; omega)]; rfl
  have g2 : ∀ m, gAdd (.tup (bd.map topD)) (.tup [topD (w, b)]) m = .ok (.tup ((bd ++ [(w, b)]).map topD)) m := fun m => by
    rw [gAdd_tup (by rw [List.length_map, sizeLine_eq, List.length_singleton]; omega), List.map_append]; rfl
  rcases (by omega : d = 0 ∨ d = 1) with rfl | rfl
  · refine ⟨(w, b) :: bd, some (.tup [topD (w, b)]), m4, ?_, ((n1.trans n2).trans n3).trans n4, by simp, fun t ht => ?_, ?_⟩
    · unfold EC
      generalize ((w, b) :: bd).map topD = B2 at *
      generalize (bd ++ [(w, b)]).map topD = B3 at *
      generalize bd.map topD = B1 at *
      generalize topD (w, b) = TD at *
      generalize sbD b = SB at *
      generalize L.map headD = LD at *
      generalize (arrs h).map D.str = AR at *
      generalize headD h = HD at *
      simp [chgT, ar, e1, e2, gTup_ok, s1, s2, e3, g1, g2, e4]
    · rcases List.mem_cons.mp ht with rfl | ht
      · exact hHC
      · exact (hbd t ht).1
    · rw [List.flatMap_cons, hcz, List.append_nil]; exact hcl
  · refine ⟨bd ++ [(w, b)], some (.tup [topD (w, b)]), m4, ?_, ((n1.trans n2).trans n3).trans n4, by simp, fun t ht => ?_, ?_⟩
    · unfold EC
      generalize ((w, b) :: bd).map topD = B2 at *
      generalize (bd ++ [(w, b)]).map topD = B3 at *
      generalize bd.map topD = B1 at *
      generalize topD (w, b) = TD at *
      generalize sbD b = SB at *
      generalize L.map headD = LD at *
      generalize (arrs h).map D.str = AR at *
      generalize headD h = HD at *
      simp [chgT, ar, e1, e2, gTup_ok, s1, s2, e3, g1, g2, e4]
    · rcases List.mem_append.mp ht with ht | ht
      · exact (hbd t ht).1
      · rw [List.mem_singleton.mp ht]; exact hHC
    · rw [List.flatMap_append, hcz, List.nil_append]
      simpa using hcl
theorem chg_step {bd : List (Wr × Sb)} {o10 o11 o12 o13 o14 o15 : Option D} {mu1 ex : List MO} (A : At s cs mu1) (hh : HdOk ring h) (hb : bd.length < 1000) (hbd : ∀ t ∈ bd, HC L t.2 ∧ chB t.2 = []) :
    ∃ (bd' : List (Wr × Sb)) (o15' : Option D) (mu2 : List MO), chgB (EC s n many ring L st al k h bd o10 o11 o12 o13 o14 o15) (mu1 ++ ex) = .ok (.nx (EC s n many ring L st al k h bd' o10 o11 o12 o13 o14 o15')) (mu2 ++ ex) ∧ Nx s cs mu1 mu2 ∧ bd'.length ≤ bd.length + 1 ∧ (∀ t ∈ bd', HC L t.2) ∧ (bd'.flatMap fun t => chB t.2).length ≤ 1 := by
  have hcz : (bd.flatMap fun t => chB t.2) = [] := by
    rw [List.flatMap_eq_nil_iff]
    exact fun t ht => (hbd t ht).2
  have er : chgB = eIf (bOr (eB (eBin (gEq false) (eVar 5) (eBin gAdd (eVar 7) (eC (.int 1))))) (bAnd (eB (eBin (gEq false) (eVar 5) (eC (.int 0)))) (eB (eBin (gEq false) (eCall (lenD 2 den__law_draw) (aCons (eVar 0) (aCons (eC (.int 4)) aNil))) (eC (.int 0)))))) chgT sNext := rfl
  by_cases c1 : al = (k : Int) + 1
  · obtain ⟨bd', o15', mu2, e, n1, l1, h1, h2⟩ := chg_yes (n := n) (many := many) (L := L) (st := st) (al := al) (k := k) (o10 := o10) (o11 := o11) (o12 := o12) (o13 := o13) (o14 := o14) (o15 := o15) (ex := ex) A hh hb hbd
    refine ⟨bd', o15', mu2, ?_, n1, by omega, h1, h2⟩
    rw [er, ← e]
    unfold EC
    generalize bd.map topD = B1
    generalize L.map headD = LD
    generalize headD h = HD
    generalize chgT = CT
    simp [gEq_ints, c1]
  · by_cases c0 : al = 0
    · subst c0
      obtain ⟨d, m1, e1, n1, d0, d4⟩ := draw_tail (ex := ex) A (most := 4) (by decide) (by decide)
      by_cases cd : d = 0
      · obtain ⟨bd', o15', mu2, e, n2, l1, h1, h2⟩ := chg_yes (n := n) (many := many) (L := L) (st := st) (al := 0) (k := k) (o10 := o10) (o11 := o11) (o12 := o12) (o13 := o13) (o14 := o14) (o15 := o15) (ex := ex) (n1.at_ A) hh hb hbd
        refine ⟨bd', o15', mu2, ?_, n1.trans n2, by omega, h1, h2⟩
        rw [er, ← e]
        unfold EC
        generalize bd.map topD = B1
        generalize L.map headD = LD
        generalize headD h = HD
        generalize chgT = CT
        simp [gEq_ints, c1, e1, cd]
      · refine ⟨bd, o15, m1, ?_, n1, by omega, fun t ht => (hbd t ht).1, by rw [hcz]; simp⟩
        rw [er]
        unfold EC
        generalize bd.map topD = B1
        generalize L.map headD = LD
        generalize headD h = HD
        generalize chgT = CT
        simp [gEq_ints, c1, e1, cd]
    · refine ⟨bd, o15, mu1, ?_, .refl A, by omega, fun t ht => (hbd t ht).1, by rw [hcz]; simp⟩
      rw [er]
      unfold EC
      generalize bd.map topD = B1
      generalize L.map headD = LD
      generalize headD h = HD
      generalize chgT = CT
      simp [gEq_ints, c1, c0]
end
end K01
namespace K01
open PySem L2 PyProof.Rows MP
theorem items_flat (l : List (Bool × Str)) : flats (l.map itemD) = true := flats_of fun d hd => by
  obtain ⟨it, _, e⟩ := List.mem_map.mp hd
  rw [← e]; rfl
theorem procD_flat (p : P1) : flat (procD p) = true := by
  have h1 := items_flat p.items
  have h2 := items_flat p.places
  have h3 : flats (p.body.map topD) = true := flats_of fun d hd => by
    obtain ⟨t, _, e⟩ := List.mem_map.mp hd
    rw [← e]; exact topD_flat t
  simp [procD, flat, flats, h1, h2, h3]
theorem procs_flat (ps : List P1) : flats (ps.map procD) = true := flats_of fun d hd => by
  obtain ⟨p, _, e⟩ := List.mem_map.mp hd
  rw [← e]; exact procD_flat p
def lastP : List (Bool × Str) := [(false, "z_z"), (true, "w_w")]
def procOf (h : Hd) (bd : List (Wr × Sb)) : P1 := ⟨h.name, h.items, h.places ++ lastP, bd⟩
/-- a drawn procedure -/
structure PrOk (L : List Hd) (p : P1) : Prop where
  len : p.body.length ≤ 5
  hc : ∀ t ∈ p.body, HC L t.2
  ch1 : (ch p).length ≤ 1
noncomputable def coreBody : MP.Env → M Fl := (sSeq (sSet 8 (eBin gIx (eVar 3) (eVar 7)))
  (sSeq (sSet 9 (aThen gTup aNil))
  (sSeq ringB
  (sSeq (sFor (wThen wRng1 (aCons (eCall (lenD 2 den__law_draw) (aCons (eVar 0) (aCons (eC (.int 4)) aNil))) aNil)) (asgN 10) jB [10, 14])
  (sSeq chgB
  (sSeq (sSet 11 (aThen (MP.g1 gTuple) (aCons (eBin gAdd (eBin gIx (eVar 8) (eC (.int 2))) (eFl (aList (aCons (aThen gTup (aCons (eC (.str "int")) (aCons (eC (.str "z_z")) aNil))) (aCons (aThen gTup (aCons (eC (.str "array")) (aCons (eC (.str "w_w")) aNil))) aNil))))) aNil)))
  (sExpr (eMeth lstK gAppend (eVar 6) (aCons (aThen gTup (aCons (eBin gIx (eVar 8) (eC (.int 0))) (aCons (aThen (MP.g1 gTuple) (aCons (eBin gIx (eVar 8) (eC (.int 1))) aNil)) (aCons (aThen gTup aNil) (aCons (eVar 11) (aCons (aThen gTup aNil) (aCons (aThen gTup aNil) (aCons (aThen gTup aNil) (aCons (aThen gTup aNil) (aCons (eVar 9) aNil)))))))))) aNil)))))))))
theorem core_step {s n k : Nat} {cs : List Int} {ring : Bool} {L : List Hd} {st al : Int} {h : Hd} {o12 o13 o14 o15 : Option D} {mu1 gb : List MO} {done : List P1} (A : At s cs mu1) (hn : n = mu1.length) (hk : L[k]? = some h) (hL : ∀ x ∈ L, HdOk ring x) (hL1 : L.length < 1000) (hc1 : CloH mu1) (hgb : FlO gb) (hd : done.length < 1000) :
    ∃ (bd : List (Wr × Sb)) (o10' o11' o12' o13' o14' o15' : Option D) (mu2 gb2 : List MO), coreBody [some (.ref s), some (.int (L.length : Int)), some (.bl ring), some (.fl (L.map headD)), some (.int st), some (.int al), some (.ref n), some (.int (k : Int)), none, none, none, none, o12, o13, o14, o15, none, none] (mu1 ++ (.lst (done.map procD) :: gb))
      = .ok (.nx (EC s n L.length ring L st al k h bd o10' o11' o12' o13' o14' o15')) (mu2 ++ (.lst ((done ++ [procOf h bd]).map procD) :: gb2)) ∧ Nx s cs mu1 mu2 ∧ FlO gb2 ∧ PrOk L (procOf h bd) := by
  have s0 : (0 : Nat) ≤ sizeLine := by decide
  have s2 : (2 : Nat) ≤ sizeLine := by decide
  have s9 : (9 : Nat) ≤ sizeLine := by decide
  have hhm : h ∈ L := List.mem_of_getElem? hk
  have hh := hL h hhm
  have hL0 : 0 < L.length := List.length_pos_of_mem hhm
  obtain ⟨b1, p12, p13, m1, g1, e1, n1, f1, l1, c1⟩ := ring_step (n := n) (many := L.length) (k := k) (st := st) (al := al) (o10 := none) (o11 := none) (o12 := o12) (o13 := o13) (o14 := o14) (o15 := o15) A hh hL rfl hL0 hc1 (procs_flat done) hgb
  obtain ⟨d, m2, e2, n2, d0, d4⟩ := draw_tail (ex := .lst (done.map procD) :: g1) (n1.at_ A) (most := 4) (by decide) (by decide)
  obtain ⟨d, rfl⟩ := Int.eq_ofNat_of_zero_le d0
  have n12 := n1.trans n2
  obtain ⟨b2, m3, g3, e3, n3, f3, l3, c3⟩ := j_loop (n := n) (many := L.length) (k := k) (st := st) (al := al) (o11 := none) (o12 := p12) (o13 := p13) (o15 := o15) hh hL hL0 hL1 (procs_flat done) (rngD 0 d) b1 none o14 m2 g1 (n12.at_ A) (n12.clo hc1) f1 (by rw [rngD_len]; omega) c1
  rw [rngD_len] at l3
  have n13 := n12.trans n3
  obtain ⟨b3, p15, m4, e4, n4, l4, c4, h4⟩ := chg_step (n := n) (many := L.length) (k := k) (st := st) (al := al) (o10 := none) (o11 := none) (o12 := p12) (o13 := p13) (o14 := none) (o15 := o15) (ex := .lst (done.map procD) :: g3) (n13.at_ A) hh (by omega) c3
  have n14 := n13.trans n4
  have hm4 : m4.length = mu1.length := n14.len
  have hg := get_last (x := .lst (done.map procD)) (mu1 := m4) (k := n) (by rw [hm4]; exact hn)
  have hg' : (m4 ++ (MO.lst (done.map procD) :: g3))[n]? = some (.lst (done.map procD)) := by
    rw [List.getElem?_append_right (by omega), show n - m4.length = 0 from by omega]; rfl
  have hap := append_ok (d := procD (procOf h b3)) hg' (by rw [List.length_map, sizeLine_eq]; omega)
  have hset : (m4 ++ (MO.lst (done.map procD) :: g3)).set n (.lst (done.map procD ++ [procD (procOf h b3)])) = m4 ++ (.lst ((done ++ [procOf h b3]).map procD) :: g3) := by
    rw [List.set_append_right _ _ (by omega), show n - m4.length = 0 from by omega, List.set_cons_zero, List.map_append]; rfl
  rw [hset] at hap
  have hlk := lstK_ref hg'
  refine ⟨b3, none, some (.tup ((h.places ++ lastP).map itemD)), p12, p13, none, p15, m4, g3, ?_, n14, f3, ⟨by show b3.length ≤ 5; omega, c4, h4⟩⟩
  have ix : ∀ m, gIx (.fl (L.map headD)) (.int (k : Int)) m = .ok (headD h) m := fun m => by rw [gIx_fl]; exact ixD_nat (by rw [List.getElem?_map, hk]; rfl)
  have i0 := fun m => headD_0 (h := h) (mu := m)
  have i1 := fun m => headD_1 (h := h) (mu := m)
  have i2 := fun m => headD_2 (h := h) (mu := m)
  have ga : ∀ m, gAdd (.fl (h.places.map itemD)) (.fl [.tup [.str "int", .str "z_z"], .tup [.str "array", .str "w_w"]]) m = .ok (.fl ((h.places ++ lastP).map itemD)) m := fun m => by
    rw [gAdd_fl (by rw [List.length_map, sizeLine_eq]; have := hh.pl; simp; omega), List.map_append]; rfl
  have wr : ∀ m, wRng1 [.int (d : Int)] m = .ok (rngD 0 d, []) m := fun m => wRng1_ok (n := (d : Int)) (by omega)
  have hpr : procD (procOf h b3) = .tup [.str h.name, .tup (h.items.map itemD), .tup [], .tup ((h.places ++ lastP).map itemD), .tup [], .tup [], .tup [], .tup [], .tup (b3.map topD)] := rfl
  rw [hpr] at hap
  unfold EC at e1 e3 e4 ⊢
  unfold coreBody
  rw [List.map_nil] at e1
  generalize (done ++ [procOf h b3]).map procD = C2 at *
  generalize done.map procD = C1 at *
  generalize (h.places ++ lastP).map itemD = PL at *
  generalize b3.map topD = T3 at *
  generalize b2.map topD = T2 at *
  generalize b1.map topD = T1 at *
  generalize h.places.map itemD = HP at *
  generalize h.items.map itemD = HI at *
  generalize L.map headD = LD at *
  generalize headD h = HD at *
  generalize rngD 0 d = RN at *
  generalize ringB = RB at *
  generalize chgB = CB at *
  generalize jB = JB at *
  simp [ix, gTup_ok, s0, e1, e2, wr, e3, e4, i0, i1, i2, s2, s9, ga, hlk, hap]
end K01
namespace K01
open PySem L2 PyProof.Rows MP
theorem core_loop {s n : Nat} {cs : List Int} {ring : Bool} {L : List Hd} {st al : Int} (hL : ∀ x ∈ L, HdOk ring x) (hL1 : L.length < 900) : ∀ (rest : List Hd) (k : Nat) (done : List P1) (mu1 gb : List MO) (o7 o8 o9 o10 o11 o12 o13 o14 o15 : Option D), L.drop k = rest → At s cs mu1 → n = mu1.length → CloH mu1 → FlO gb → done.length + rest.length < 1000 →
    ∃ (new : List P1) (mu2 gb2 : List MO) (o12' o13' o14' o15' : Option D), new.map (fun p => (p.name, p.items)) = rest.map (fun h => (h.name, h.items)) ∧ (∀ p ∈ new, PrOk L p) ∧ Nx s cs mu1 mu2 ∧ FlO gb2 ∧
    loopF (asgN 7) coreBody [7, 8, 9, 10, 11] [] ((List.range' k rest.length).map fun (i : Nat) => D.int (i : Int)) [some (.ref s), some (.int (L.length : Int)), some (.bl ring), some (.fl (L.map headD)), some (.int st), some (.int al), some (.ref n), o7, o8, o9, o10, o11, o12, o13, o14, o15, none, none] (mu1 ++ (.lst (done.map procD) :: gb))
      = .ok (.nx [some (.ref s), some (.int (L.length : Int)), some (.bl ring), some (.fl (L.map headD)), some (.int st), some (.int al), some (.ref n), none, none, none, none, none, o12', o13', o14', o15', none, none]) (mu2 ++ (.lst ((done ++ new).map procD) :: gb2))
  | [], k, done, mu1, gb, o7, o8, o9, o10, o11, o12, o13, o14, o15, _, A, _, _, hg, _ => ⟨[], mu1, gb, o12, o13, o14, o15, rfl, by simp, .refl A, hg, by
    show loopF _ _ _ [] [] _ _ = _
    rw [loopF_nil, List.append_nil]; rfl⟩
  | h :: rest, k, done, mu1, gb, o7, o8, o9, o10, o11, o12, o13, o14, o15, hd, A, hn, hc, hg, hl => by
    rw [List.length_cons] at hl
    have hk : L[k]? = some h := by
      have := congrArg List.head? hd
      rw [List.head?_drop] at this
      exact this
    have hd' : L.drop (k + 1) = rest := by rw [← List.tail_drop, hd]; rfl
    obtain ⟨bd, p10, p11, p12, p13, p14, p15, mu2, gb2, e, n2, g2, ok⟩ := core_step (n := n) (st := st) (al := al) (o12 := o12) (o13 := o13) (o14 := o14) (o15 := o15) (done := done) A hn hk hL (by omega) hc hg (by omega)
    obtain ⟨new, mu3, gb3, q12, q13, q14, q15, h1, h2, n3, g3, e3⟩ := core_loop (n := n) (st := st) (al := al) hL hL1 rest (k + 1) (done ++ [procOf h bd]) mu2 gb2 (some (.int (k : Int))) (some (headD h)) (some (.tup (bd.map topD))) p10 p11 p12 p13 p14 p15 hd' (n2.at_ A) (by rw [n2.len]; exact hn) (n2.clo hc) g2 (by rw [List.length_append, List.length_singleton]; omega)
    refine ⟨procOf h bd :: new, mu3, gb3, q12, q13, q14, q15, by rw [List.map_cons, h1]; rfl, fun p hp => ?_, n2.trans n3, g3, ?_⟩
    · rcases List.mem_cons.mp hp with rfl | hp
      · exact ok
      · exact h2 p hp
    · rw [List.length_cons, List.range'_succ, List.map_cons]
      refine (loopF_step rfl e).trans ?_
      rw [e3, List.append_assoc]; rfl
theorem fm_len {α β : Type} {f : α → List β} {k : Nat} : ∀ (xs : List α), (∀ x ∈ xs, (f x).length ≤ k) → (xs.flatMap f).length ≤ k * xs.length
  | [], _ => by simp
  | x :: xs, h => by
    have h1 := h x (by simp)
    have h2 := fm_len (f := f) xs fun y hy => h y (by simp [hy])
    rw [List.flatMap_cons, List.length_append, List.length_cons, Nat.mul_add]
    omega
/-- all that is asked of the drawn procedures -/
structure Drawn (ps : List P1) : Prop where
  ok : CoreOk ps
  lk : (ps.flatMap base).length + (links ps).length < 400
  il : ∀ p ∈ ps, p.items.length ≤ 6
theorem drawn_of {ring : Bool} {L : List Hd} {ps : List P1} (hL : ∀ x ∈ L, HdOk ring x) (hn : (L.map (·.name)).Nodup) (hl : L.length ≤ 12) (he : ps.map (fun p => (p.name, p.items)) = L.map (fun h => (h.name, h.items))) (hp : ∀ p ∈ ps, PrOk L p) : Drawn ps := by
  have hnames : ps.map (·.name) = L.map (·.name) := by
    have := congrArg (List.map Prod.fst) he
    rw [List.map_map, List.map_map] at this
    exact this
  have hnd : (ps.map (·.name)).Nodup := by rw [hnames]; exact hn
  have hlen : ps.length = L.length := by
    have := congrArg List.length he
    simpa using this
  have hq : ∀ h ∈ L, ∃ q ∈ ps, q.name = h.name ∧ q.items = h.items := fun h hh => by
    have : (h.name, h.items) ∈ ps.map (fun p => (p.name, p.items)) := by rw [he]; exact List.mem_map_of_mem hh
    obtain ⟨q, hq, e⟩ := List.mem_map.mp this
    exact ⟨q, hq, (Prod.mk.inj e).1, (Prod.mk.inj e).2⟩
  have hit : ∀ p ∈ ps, p.items.length ≤ 6 := fun p hpm => by
    have : (p.name, p.items) ∈ L.map (fun h => (h.name, h.items)) := by rw [← he]; exact List.mem_map_of_mem hpm
    obtain ⟨h, hh, e⟩ := List.mem_map.mp this
    rw [← (Prod.mk.inj e).2]
    exact (hL h hh).il
  have hcall : ∀ p ∈ ps, ∀ t ∈ p.body, CallOk ps t.2 := fun p hpm t ht => by
    have := (hp p hpm).hc t ht
    cases hb : t.2 with
    | call c as =>
      rw [hb] at this
      obtain ⟨h, hh, e1, e2, e3⟩ := this
      obtain ⟨q, hqm, f1, f2⟩ := hq h hh
      refine ⟨q, ?_, by rw [f2]; exact e2, by have := hit q hqm; omega, by rw [f2]; exact e3⟩
      rw [← e1, ← f1]
      exact find_self hnd hqm
    | _ => trivial
  have hargs : ∀ p ∈ ps, ∀ t ∈ p.body, ∀ c as, t.2 = .call c as → as.length ≤ 6 := fun p hpm t ht c as e => by
    have := hcall p hpm t ht
    rw [e] at this
    obtain ⟨q, hqf, e1, _, _⟩ := this
    have := hit q (find_name hqf).1
    omega
  have hal : ∀ p ∈ ps, (al p).length ≤ 30 := fun p hpm => by
    have h1 := fm_len (f := fun t : Wr × Sb => alB t.2) (k := 6) p.body fun t ht => by
      cases hb : t.2 with
      | call c as => exact Nat.le_trans (List.length_filterMap_le _ _) (hargs p hpm t ht c as hb)
      | _ => exact Nat.zero_le _
    have h2 := (hp p hpm).len
    show (p.body.flatMap _).length ≤ 30
    omega
  have hlkp : ∀ p ∈ ps, (linksP ps p).length ≤ 30 := fun p hpm => by
    have h1 := fm_len (f := fun t : Wr × Sb => linksB ps p.name t.2) (k := 6) p.body fun t ht => by
      cases hb : t.2 with
      | call c as =>
        have := lk_len p.name c ((itemsOf ps c).zip as)
        have h3 := hargs p hpm t ht c as hb
        rw [List.length_zip] at this
        show (((itemsOf ps c).zip as).flatMap (lk1 p.name c)).length ≤ 6
        omega
      | _ => exact Nat.zero_le _
    have h2 := (hp p hpm).len
    show (p.body.flatMap _).length ≤ 30
    omega
  have hlk : (links ps).length ≤ 30 * ps.length := fm_len ps hlkp
  have hbs : (ps.flatMap base).length ≤ 1 * ps.length := fm_len ps fun p hpm => by
    unfold base
    rw [List.length_map]
    exact (hp p hpm).ch1
  refine ⟨⟨hnd, fun p hpm => ⟨by have := (hp p hpm).len; omega, hcall p hpm⟩, fun p hpm => ?_, by omega⟩, by omega, hit⟩
  have h1 := hal p hpm
  have h2 := (hp p hpm).ch1
  omega
noncomputable abbrev coreOfD0 : List D → M Rv := den__law_core_of den__law_draw partsD wrapD callD shufD den__law_arrays oneD changeD
noncomputable def coreOfD : List D → M Rv := fgt coreOfD0
theorem core_of_ok {s : Nat} {cs : List Int} {mu : List MO} (A : At s cs mu) (hc : CloH mu) : ∃ (ps : List P1) (mu' : List MO), coreOfD [.ref s] mu = .ok (.vl (coreD ps)) mu' ∧ Nx s cs mu mu' ∧ Drawn ps := by
  have s2 : (2 : Nat) ≤ sizeLine := by decide
  have s3 : (3 : Nat) ≤ sizeLine := by decide
  obtain ⟨d1, m1, e1, n1, d10, d13⟩ := draw_at (most := 3) A (by decide) (by decide)
  obtain ⟨mt, hmt, hix⟩ : ∃ mt : Nat, (mt = 3 ∨ mt = 6 ∨ mt = 12) ∧ ∀ m, gIx (.fl [.int 3, .int 6, .int 12]) (.int d1) m = .ok (.int (mt : Int)) m := by
    rcases (by omega : d1 = 0 ∨ d1 = 1 ∨ d1 = 2) with rfl | rfl | rfl
    · exact ⟨3, .inl rfl, fun m => by simp⟩
    · exact ⟨6, .inr (.inl rfl), fun m => by simp⟩
    · exact ⟨12, .inr (.inr rfl), fun m => by simp⟩
  obtain ⟨d2, m2, e2, n2', d20, d2m⟩ := draw_at (most := (mt : Int)) (n1.at_ A) (by omega) (log2_small (by omega))
  obtain ⟨d2, rfl⟩ := Int.eq_ofNat_of_zero_le d20
  have n2 := n1.trans n2'
  obtain ⟨d3, m3, e3, n3', _, _⟩ := draw_at (most := 3) (n2.at_ A) (by decide) (by decide)
  have n3 := n2.trans n3'
  obtain ⟨L, m4, e4, n4', hLl, hLn, hLo⟩ := parts_ok (many := 1 + d2) (ring := d3 == 0) (n3.at_ A) (n3.clo hc) (by omega) (by omega)
  have n4 := n3.trans n4'
  obtain ⟨d5, m5, e5, n5', d50, d52⟩ := draw_at (most := 2) (n4.at_ A) (by decide) (by decide)
  have n5 := n4.trans n5'
  obtain ⟨st, hst⟩ : ∃ st : Int, ∀ m, gIx (.fl [.int 1, .int ((1 + (d2 : Int)) - 1)]) (.int d5) m = .ok (.int st) m := by
    rcases (by omega : d5 = 0 ∨ d5 = 1) with rfl | rfl
    · exact ⟨1, fun m => by simp⟩
    · exact ⟨(1 + (d2 : Int)) - 1, fun m => by simp⟩
  obtain ⟨d6, m6, e6, n6', d60, d62⟩ := draw_at (most := 2) (n5.at_ A) (by decide) (by decide)
  have n6 := n5.trans n6'
  obtain ⟨d7, m7, e7, n7', d70, d7m⟩ := draw_at (most := 1 + (d2 : Int)) (n6.at_ A) (by omega) (log2_small (by omega))
  have n7 := n6.trans n7'
  have hmul : ∀ m, gMul (.int d6) (.int (1 + d7)) m = .ok (.int (d6 * (1 + d7))) m := fun m => gMul_small ⟨by omega, by omega⟩
  obtain ⟨ps, m8, gb, q12, q13, q14, q15, h1, h2, n8', hg, e8⟩ := core_loop (n := m7.length) (st := st) (al := d6 * (1 + d7)) hLo (by omega) L 0 [] m7 [] none none none none none none none none none rfl (n7.at_ A) rfl (n7.clo hc) FlO.nil (by simp; omega)
  have n8 := n7.trans n8'
  rw [List.nil_append, ← rng_eq] at e8
  have hgl : (m8 ++ (MO.lst (ps.map procD) :: gb))[m7.length]? = some (.lst (ps.map procD)) := by
    rw [List.getElem?_append_right (by rw [n8'.len]; exact Nat.le_refl _), n8'.len, Nat.sub_self]; rfl
  have ht : gTuple (.ref m7.length) (m8 ++ (MO.lst (ps.map procD) :: gb)) = .ok (.tup (ps.map procD)) (m8 ++ (MO.lst (ps.map procD) :: gb)) := by
    show (rdQ (.ref m7.length) >>= fun xs => (pure (.tup xs) : M D)) _ = _
    generalize ps.map procD = PS at *
    simp [hgl]
  refine ⟨ps, m8, ?_, n8, drawn_of hLo hLn (by omega) h1 h2⟩
  have er : r__law_core_of den__law_draw partsD wrapD callD shufD den__law_arrays oneD changeD = (sSeq (sSet 1 (eBin gAdd (eC (.int 1)) (eCall (lenD 2 den__law_draw) (aCons (eVar 0) (aCons (eBin gIx (eFl (aList (aCons (eC (.int 3)) (aCons (eC (.int 6)) (aCons (eC (.int 12)) aNil))))) (eCall (lenD 2 den__law_draw) (aCons (eVar 0) (aCons (eC (.int 3)) aNil)))) aNil)))))
    (sSeq (sSet 2 (eBin (gEq false) (eCall (lenD 2 den__law_draw) (aCons (eVar 0) (aCons (eC (.int 3)) aNil))) (eC (.int 0))))
    (sSeq (sSet 3 (eCall (lenD 3 partsD) (aCons (eVar 0) (aCons (eVar 1) (aCons (eVar 2) aNil)))))
    (sSeq (sSet 4 (eBin gIx (eFl (aList (aCons (eC (.int 1)) (aCons (eBin gSub (eVar 1) (eC (.int 1))) aNil)))) (eCall (lenD 2 den__law_draw) (aCons (eVar 0) (aCons (eC (.int 2)) aNil)))))
    (sSeq (sSet 5 (eBin gMul (eCall (lenD 2 den__law_draw) (aCons (eVar 0) (aCons (eC (.int 2)) aNil))) (eBin gAdd (eC (.int 1)) (eCall (lenD 2 den__law_draw) (aCons (eVar 0) (aCons (eVar 1) aNil))))))
    (sSeq (sSet 6 (eNew (aList aNil)))
    (sSeq (sFor (wThen wRng1 (aCons (eVar 1) aNil)) (asgN 7) coreBody [7, 8, 9, 10, 11])
    (sRet (aThen (MP.g1 gTuple) (aCons (eVar 6) aNil)))))))))) := rfl
  refine fgt_val (ex := .lst (ps.map procD) :: gb) (noX_ok ?_) n8.len (n8.clo hc) (flat_clo _ ?_)
  · rw [er]
    have hm : ((1 + d2 : Nat) : Int) = 1 + (d2 : Int) := by omega
    have hLi : (L.length : Int) = 1 + (d2 : Int) := by omega
    rw [hm] at e4
    rw [hLi] at e8
    have wr : ∀ m, wRng1 [.int (1 + (d2 : Int))] m = .ok (rngD 0 L.length, []) m := fun m => by
      rw [wRng1_ok (n := 1 + (d2 : Int)) (by omega)]
      rw [show (1 + (d2 : Int)).toNat = L.length from by omega]
    have hq0 : ∀ m, gEq false (.int d3) (.int 0) m = .ok (.bl (d3 == 0)) m := fun m => by
      rw [gEq_ints]; cases (d3 == 0) <;> rfl
    show _ = R.ok (Rv.vl (.tup (ps.map procD))) _
    have e8 : loopF (asgN 7) coreBody [7, 8, 9, 10, 11] [] (rngD 0 L.length) [some (.ref s), some (.int (1 + (d2 : Int))), some (.bl (d3 == 0)), some (.fl (L.map headD)), some (.int st), some (.int (d6 * (1 + d7))), some (.ref m7.length), none, none, none, none, none, none, none, none, none, none, none] (m7 ++ [.lst []]) = _ := e8
    generalize d6 * (1 + d7) = AL at *
    have hst2 : ∀ m, gIx (.fl [.int 1, .int (d2 : Int)]) (.int d5) m = .ok (.int st) m := fun m => by
      have := hst m
      rw [show (1 + (d2 : Int)) - 1 = (d2 : Int) from by omega] at this
      exact this
    generalize hRG : (d3 == 0) = RG at *
    generalize ps.map procD = PS at *
    generalize rngD 0 L.length = RN at *
    generalize L.map headD = LD at *
    generalize coreBody = CB at *
    simp [startE, e1, s3, hix, e2, e3, hq0, e4, e5, s2, hst, hst2, e6, e7, hmul, wr, e8, ht]
  · exact procs_flat ps
end K01
namespace K01
open PySem L2 PyProof.Rows MP
noncomputable abbrev dLaw : List D → M Rv := den_law den__law_start coreOfD reachD (sameL 4) touchD
noncomputable def askBody : MP.Env → M Fl := (sSeq (sSet 5 (aThen (MP.g1 gTuple) (aCons (eFl (fComp (eWalk (eBin gIx (eVar 4) (eC (.int 1)))) (asgT 2 (asgCons (asgN 6) (asgCons (asgN 7) asgNil))) (bAnd (eB (eBin (gEq false) (eVar 6) (eC (.str "array")))) (eB (eBin (gIn false) (aThen gTup (aCons (eBin gIx (eVar 4) (eC (.int 0))) (aCons (eVar 7) aNil))) (eVar 3)))) (eVar 7) [6, 7])) aNil)))
  (eIf (bNot (eB (eCall (lenD 2 (sameL 4)) (aCons (eCall (lenD 2 touchD) (aCons (eVar 2) (aCons (eBin gIx (eVar 4) (eC (.int 0))) aNil))) (aCons (eVar 5) aNil)))))
  (sRet (eC (.bl false)))
  sNext))
theorem plain_strs : ∀ (ns : List Str), plainDs 2 (ns.map D.str) = true
  | [] => rfl
  | n :: ns => by
    rw [List.map_cons, plainDs, plain_strs ns]
    rfl
theorem ask_loop {sc S : D} {ps : List P1} {F : List Pt} {mu : List MO} (hq : ∀ p ∈ ps, touchD [coreD ps, .str p.name] mu = .ok (.vl (.tup ((dueL F p).map D.str))) mu) (hil : ∀ p ∈ ps, p.items.length ≤ 6) : ∀ (qs : List P1) (o4 o5 : Option D), (∀ q ∈ qs, q ∈ ps) →
    loopF (asgN 4) askBody [4, 5] [] (qs.map procD) [some sc, some S, some (coreD ps), some (.fl (F.map prD)), o4, o5, none, none] mu = .ok (.nx [some sc, some S, some (coreD ps), some (.fl (F.map prD)), none, none, none, none]) mu
  | [], o4, o5, _ => by
    show loopF _ _ _ [] [] _ _ = _
    rw [loopF_nil]; rfl
  | p :: qs, o4, o5, hm => by
    have hp := hm p (by simp)
    have ih := ask_loop (sc := sc) (S := S) hq hil qs (some (procD p)) (some (.tup ((dueL F p).map D.str))) fun x hx => hm x (by simp [hx])
    have s2 : (2 : Nat) ≤ sizeLine := by decide
    rw [List.map_cons]
    refine (loopF_step (e := [some sc, some S, some (coreD ps), some (.fl (F.map prD)), some (procD p), some (.tup ((dueL F p).map D.str)), none, none]) rfl ?_).trans ih
    have i0 := fun m => procD_name (p := p) (mu := m)
    have i1 := fun m => procD_items (p := p) (mu := m)
    have hl : loopC (asgT 2 (asgCons (asgN 6) (asgCons (asgN 7) asgNil))) (bAnd (eB (eBin (gEq false) (eVar 6) (eC (.str "array")))) (eB (eBin (gIn false) (aThen gTup (aCons (eBin gIx (eVar 4) (eC (.int 0))) (aCons (eVar 7) aNil))) (eVar 3)))) (eVar 7) [] (p.items.map itemD) [some sc, some S, some (coreD ps), some (.fl (F.map prD)), some (procD p), none, none, none] mu = .ok ((dueL F p).map D.str) mu := by
      have := loopC_filter' (asg := asgT 2 (asgCons (asgN 6) (asgCons (asgN 7) asgNil))) (t := bAnd (eB (eBin (gEq false) (eVar 6) (eC (.str "array")))) (eB (eBin (gIn false) (aThen gTup (aCons (eBin gIx (eVar 4) (eC (.int 0))) (aCons (eVar 7) aNil))) (eVar 3)))) (r := eVar 7) (env := [some sc, some S, some (coreD ps), some (.fl (F.map prD)), some (procD p), none, none, none]) (mu := mu) (g := itemD) (f := fun it : Bool × Str => D.str it.2) (p := fun it => it.1 && decide ((p.name, it.2) ∈ F)) (xs := p.items) fun it hit => ⟨[some sc, some S, some (coreD ps), some (.fl (F.map prD)), some (procD p), none, some (.str (kindS it.1)), some (.str it.2)], ?_, ?_, fun _ => ?_⟩
      · rw [this]; unfold dueL; rw [List.map_map]; rfl
      · generalize procD p = PD
        generalize coreD ps = CO
        generalize F.map prD = FD
        simp [itemD]
      · have hin : gIn false (.tup [.str p.name, .str it.2]) (.fl (F.map prD)) mu = .ok (.bl (decide ((p.name, it.2) ∈ F))) mu := by
          have := gIn_prs (neg := false) (a := (p.name, it.2)) (F := F) (d := .fl (F.map prD)) (mu := mu) rfl fun z e => by cases e
          rw [show (.tup [.str p.name, .str it.2] : D) = prD (p.name, it.2) from rfl, this]
          cases decide ((p.name, it.2) ∈ F) <;> rfl
        generalize procD p = PD at *
        generalize coreD ps = CO at *
        generalize F.map prD = FD at *
        generalize decide ((p.name, it.2) ∈ F) = DB at *
        cases hb : it.1 with
        | false => simp [gEq_strs, kind_arr]
        | true => simp [gEq_strs, kind_arr, i0, gTup_ok, s2, hin]
      · generalize procD p = PD
        generalize coreD ps = CO
        generalize F.map prD = FD
        simp
    have hl := noX_ok hl
    have ht := hq p hp
    have hdl : (dueL F p).length ≤ 6 := by
      unfold dueL
      rw [List.length_map]
      exact Nat.le_trans (List.length_filter_le _ _) (hil p hp)
    have hs := same_ok 3 (.tup ((dueL F p).map D.str)) mu (by
      show (decide (((dueL F p).map D.str).length ≤ 1000) && plainDs 2 ((dueL F p).map D.str)) = true
      rw [plain_strs, List.length_map, Bool.and_true, decide_eq_true_eq]; omega)
    generalize (dueL F p).map D.str = DL at *
    generalize p.items.map itemD = IT at *
    generalize procD p = PD at *
    generalize F.map prD = FD at *
    generalize coreD ps = CO at *
    simp [askBody, i0, i1, hl, ht, hs]
theorem law_ok {cs : List Int} (h : cs.length ≤ 63) : ∃ mu', dLaw [.ro (cs.map .int)] [] = .ok (.vl (.bl true)) mu' := by
  have e0 := start_ok (mu := []) h
  generalize hm1 : ([MP.st cs 0 0 0] : List MO) = m1
  have A1 : At 0 cs m1 := ⟨0, 0, 0, by rw [← hm1]; rfl⟩
  have c1 : CloH m1 := fun o ho => by
    rw [← hm1] at ho
    rw [List.mem_singleton.mp ho]
    exact st_clo
  obtain ⟨ps, m2, e2, n2, Dr⟩ := core_of_ok A1 c1
  have c2 := n2.clo c1
  obtain ⟨F, e3, f1, f2, f3⟩ := reached_ok (S := Rc ps) Dr.ok.body Dr.lk (fun l hl hr => Rc.step hl hr) (fun x hx => by
    obtain ⟨p, hp, hx⟩ := List.mem_flatMap.mp hx
    obtain ⟨y, hy, rfl⟩ := List.mem_map.mp hx
    exact Rc.base hp hy) c2
  obtain ⟨tb, t1, t2, t3, t4⟩ := touched_ok (S := fun z y => Rc ps (z, y)) Dr.ok (rc_closed Dr.ok) (fun p hp y hy => Rc.base hp hy) c2
  have hq : ∀ p ∈ ps, touchD [coreD ps, .str p.name] m2 = .ok (.vl (.tup ((dueL F p).map D.str))) m2 := fun p hp => by
    rw [t4 p hp, ans_eq Dr.ok t1 t2 t3 f1 f2 f3 hp]
  have hloop := ask_loop (sc := .ro (cs.map .int)) (S := .ref 0) hq Dr.il ps none none fun q hq => hq
  refine ⟨m2, noX_ok ?_⟩
  have er : r_law den__law_start coreOfD reachD (sameL 4) touchD = (sSeq (sSet 1 (eNew (fCall (lenD 1 den__law_start) (aCons (eVar 0) aNil))))
    (sSeq (sSet 2 (eCall (lenD 1 coreOfD) (aCons (eVar 1) aNil)))
    (sSeq (sSet 3 (eCall (lenD 1 reachD) (aCons (eVar 2) aNil)))
    (sSeq (sFor (eWalk (eVar 2)) (asgN 4) askBody [4, 5])
    (sRet (eC (.bl true))))))) := rfl
  rw [er]
  have w : ∀ m, walkD (coreD ps) m = .ok (ps.map procD, []) m := fun _ => rfl
  unfold MP.st at hm1
  generalize F.map prD = FD at *
  generalize ps.map procD = PS at *
  generalize coreD ps = CO at *
  generalize cs.map D.int = CS at *
  generalize askBody = AB at *
  simp [startE, e0, hm1, e2, e3, w, hloop]
end K01
namespace K01
open PySem L2 PyProof.Rows MP
theorem all_mk {l : PySem.W.OpenLaw} {w : World} {K : PySem.W.Frag} {h : Heap} {mg : Str → Option Value} {fa f0 f1 f2 f3 f4 f5 f6 f7 f8 f9 f10 f11 f12 f13 f14 f15 f16 f17 f18 f19 f20 f21 f22 : Addr} (X : K.In h) (G : h.Ns mainGlobals mg) (hfa : mg "law" = some (.ref fa))
    {od0 an0 : Option Addr} {sl0 : Array (Option Value)} {oc0 kV0 dc0 pm0 cd0 ct0 : Value}
    {od1 an1 : Option Addr} {sl1 : Array (Option Value)} {oc1 kV1 dc1 pm1 cd1 ct1 : Value}
    {od2 an2 : Option Addr} {sl2 : Array (Option Value)} {oc2 kV2 dc2 pm2 cd2 ct2 : Value}
    {od3 an3 : Option Addr} {sl3 : Array (Option Value)} {oc3 kV3 dc3 pm3 cd3 ct3 : Value}
    {od4 an4 : Option Addr} {sl4 : Array (Option Value)} {oc4 kV4 dc4 pm4 cd4 ct4 : Value}
    {od5 an5 : Option Addr} {sl5 : Array (Option Value)} {oc5 kV5 dc5 pm5 cd5 ct5 : Value}
    {od6 an6 : Option Addr} {sl6 : Array (Option Value)} {oc6 kV6 dc6 pm6 cd6 ct6 : Value}
    {od7 an7 : Option Addr} {sl7 : Array (Option Value)} {oc7 kV7 dc7 pm7 cd7 ct7 : Value}
    {od8 an8 : Option Addr} {sl8 : Array (Option Value)} {oc8 kV8 dc8 pm8 cd8 ct8 : Value}
    {od9 an9 : Option Addr} {sl9 : Array (Option Value)} {oc9 kV9 dc9 pm9 cd9 ct9 : Value}
    {od10 an10 : Option Addr} {sl10 : Array (Option Value)} {oc10 kV10 dc10 pm10 cd10 ct10 : Value}
    {od11 an11 : Option Addr} {sl11 : Array (Option Value)} {oc11 kV11 dc11 pm11 cd11 ct11 : Value}
    {od12 an12 : Option Addr} {sl12 : Array (Option Value)} {oc12 kV12 dc12 pm12 cd12 ct12 : Value}
    {od13 an13 : Option Addr} {sl13 : Array (Option Value)} {oc13 kV13 dc13 pm13 cd13 ct13 : Value}
    {od14 an14 : Option Addr} {sl14 : Array (Option Value)} {oc14 kV14 dc14 pm14 cd14 ct14 : Value}
    {od15 an15 : Option Addr} {sl15 : Array (Option Value)} {oc15 kV15 dc15 pm15 cd15 ct15 : Value}
    {od16 an16 : Option Addr} {sl16 : Array (Option Value)} {oc16 kV16 dc16 pm16 cd16 ct16 : Value}
    {od17 an17 : Option Addr} {sl17 : Array (Option Value)} {oc17 kV17 dc17 pm17 cd17 ct17 : Value}
    {od18 an18 : Option Addr} {sl18 : Array (Option Value)} {oc18 kV18 dc18 pm18 cd18 ct18 : Value}
    {od19 an19 : Option Addr} {sl19 : Array (Option Value)} {oc19 kV19 dc19 pm19 cd19 ct19 : Value}
    {od20 an20 : Option Addr} {sl20 : Array (Option Value)} {oc20 kV20 dc20 pm20 cd20 ct20 : Value}
    {od21 an21 : Option Addr} {sl21 : Array (Option Value)} {oc21 kV21 dc21 pm21 cd21 ct21 : Value}
    {od22 an22 : Option Addr} {sl22 : Array (Option Value)} {oc22 kV22 dc22 pm22 cd22 ct22 : Value}
    (a0 : PySem.W.nsIn K mainGlobals "_law_start" = some (some (.ref f0))) (l0 : K.lookup f0 = some ⟨oc0, od0, .func (PySem.W.fnOf "_law_start" "_law_start" (defArgs st__law_start) (defBody st__law_start) (defScope st__law_start) .none kV0 dc0 pm0 an0 cd0 ct0), sl0⟩) (c0 : PySem.W.codeIn K cd0 "_law_start" = true) (k0 : PySem.W.keepIn K (.ref f0) = true)
    (a1 : PySem.W.nsIn K mainGlobals "_law_draw" = some (some (.ref f1))) (l1 : K.lookup f1 = some ⟨oc1, od1, .func (PySem.W.fnOf "_law_draw" "_law_draw" (defArgs st__law_draw) (defBody st__law_draw) (defScope st__law_draw) .none kV1 dc1 pm1 an1 cd1 ct1), sl1⟩) (c1 : PySem.W.codeIn K cd1 "_law_draw" = true) (k1 : PySem.W.keepIn K (.ref f1) = true)
    (a2 : PySem.W.nsIn K mainGlobals "_law_words" = some (some (.ref f2))) (l2 : K.lookup f2 = some ⟨oc2, od2, .func (PySem.W.fnOf "_law_words" "_law_words" (defArgs st__law_words) (defBody st__law_words) (defScope st__law_words) .none kV2 dc2 pm2 an2 cd2 ct2), sl2⟩) (c2 : PySem.W.codeIn K cd2 "_law_words" = true) (k2 : PySem.W.keepIn K (.ref f2) = true)
    (a3 : PySem.W.nsIn K mainGlobals "_law_shuffled" = some (some (.ref f3))) (l3 : K.lookup f3 = some ⟨oc3, od3, .func (PySem.W.fnOf "_law_shuffled" "_law_shuffled" (defArgs st__law_shuffled) (defBody st__law_shuffled) (defScope st__law_shuffled) .none kV3 dc3 pm3 an3 cd3 ct3), sl3⟩) (c3 : PySem.W.codeIn K cd3 "_law_shuffled" = true) (k3 : PySem.W.keepIn K (.ref f3) = true)
    (a4 : PySem.W.nsIn K mainGlobals "_law_parts" = some (some (.ref f4))) (l4 : K.lookup f4 = some ⟨oc4, od4, .func (PySem.W.fnOf "_law_parts" "_law_parts" (defArgs st__law_parts) (defBody st__law_parts) (defScope st__law_parts) .none kV4 dc4 pm4 an4 cd4 ct4), sl4⟩) (c4 : PySem.W.codeIn K cd4 "_law_parts" = true) (k4 : PySem.W.keepIn K (.ref f4) = true)
    (a5 : PySem.W.nsIn K mainGlobals "_law_wrapped" = some (some (.ref f5))) (l5 : K.lookup f5 = some ⟨oc5, od5, .func (PySem.W.fnOf "_law_wrapped" "_law_wrapped" (defArgs st__law_wrapped) (defBody st__law_wrapped) (defScope st__law_wrapped) .none kV5 dc5 pm5 an5 cd5 ct5), sl5⟩) (c5 : PySem.W.codeIn K cd5 "_law_wrapped" = true) (k5 : PySem.W.keepIn K (.ref f5) = true)
    (a6 : PySem.W.nsIn K mainGlobals "_law_call" = some (some (.ref f6))) (l6 : K.lookup f6 = some ⟨oc6, od6, .func (PySem.W.fnOf "_law_call" "_law_call" (defArgs st__law_call) (defBody st__law_call) (defScope st__law_call) .none kV6 dc6 pm6 an6 cd6 ct6), sl6⟩) (c6 : PySem.W.codeIn K cd6 "_law_call" = true) (k6 : PySem.W.keepIn K (.ref f6) = true)
    (a7 : PySem.W.nsIn K mainGlobals "_law_arrays" = some (some (.ref f7))) (l7 : K.lookup f7 = some ⟨oc7, od7, .func (PySem.W.fnOf "_law_arrays" "_law_arrays" (defArgs st__law_arrays) (defBody st__law_arrays) (defScope st__law_arrays) .none kV7 dc7 pm7 an7 cd7 ct7), sl7⟩) (c7 : PySem.W.codeIn K cd7 "_law_arrays" = true) (k7 : PySem.W.keepIn K (.ref f7) = true)
    (a8 : PySem.W.nsIn K mainGlobals "_law_one_of" = some (some (.ref f8))) (l8 : K.lookup f8 = some ⟨oc8, od8, .func (PySem.W.fnOf "_law_one_of" "_law_one_of" (defArgs st__law_one_of) (defBody st__law_one_of) (defScope st__law_one_of) .none kV8 dc8 pm8 an8 cd8 ct8), sl8⟩) (c8 : PySem.W.codeIn K cd8 "_law_one_of" = true) (k8 : PySem.W.keepIn K (.ref f8) = true)
    (a9 : PySem.W.nsIn K mainGlobals "_law_change" = some (some (.ref f9))) (l9 : K.lookup f9 = some ⟨oc9, od9, .func (PySem.W.fnOf "_law_change" "_law_change" (defArgs st__law_change) (defBody st__law_change) (defScope st__law_change) .none kV9 dc9 pm9 an9 cd9 ct9), sl9⟩) (c9 : PySem.W.codeIn K cd9 "_law_change" = true) (k9 : PySem.W.keepIn K (.ref f9) = true)
    (a10 : PySem.W.nsIn K mainGlobals "_law_core_of" = some (some (.ref f10))) (l10 : K.lookup f10 = some ⟨oc10, od10, .func (PySem.W.fnOf "_law_core_of" "_law_core_of" (defArgs st__law_core_of) (defBody st__law_core_of) (defScope st__law_core_of) .none kV10 dc10 pm10 an10 cd10 ct10), sl10⟩) (c10 : PySem.W.codeIn K cd10 "_law_core_of" = true) (k10 : PySem.W.keepIn K (.ref f10) = true)
    (a11 : PySem.W.nsIn K mainGlobals "_law_statements" = some (some (.ref f11))) (l11 : K.lookup f11 = some ⟨oc11, od11, .func (PySem.W.fnOf "_law_statements" "_law_statements" (defArgs st__law_statements) (defBody st__law_statements) (defScope st__law_statements) .none kV11 dc11 pm11 an11 cd11 ct11), sl11⟩) (c11 : PySem.W.codeIn K cd11 "_law_statements" = true) (k11 : PySem.W.keepIn K (.ref f11) = true)
    (a12 : PySem.W.nsIn K mainGlobals "_law_links" = some (some (.ref f12))) (l12 : K.lookup f12 = some ⟨oc12, od12, .func (PySem.W.fnOf "_law_links" "_law_links" (defArgs st__law_links) (defBody st__law_links) (defScope st__law_links) .none kV12 dc12 pm12 an12 cd12 ct12), sl12⟩) (c12 : PySem.W.codeIn K cd12 "_law_links" = true) (k12 : PySem.W.keepIn K (.ref f12) = true)
    (a13 : PySem.W.nsIn K mainGlobals "_law_reached" = some (some (.ref f13))) (l13 : K.lookup f13 = some ⟨oc13, od13, .func (PySem.W.fnOf "_law_reached" "_law_reached" (defArgs st__law_reached) (defBody st__law_reached) (defScope st__law_reached) .none kV13 dc13 pm13 an13 cd13 ct13), sl13⟩) (c13 : PySem.W.codeIn K cd13 "_law_reached" = true) (k13 : PySem.W.keepIn K (.ref f13) = true)
    (a14 : PySem.W.nsIn K mainGlobals "_law_is_int" = some (some (.ref f14))) (l14 : K.lookup f14 = some ⟨oc14, od14, .func (PySem.W.fnOf "_law_is_int" "_law_is_int" (defArgs st__law_is_int) (defBody st__law_is_int) (defScope st__law_is_int) .none kV14 dc14 pm14 an14 cd14 ct14), sl14⟩) (c14 : PySem.W.codeIn K cd14 "_law_is_int" = true) (k14 : PySem.W.keepIn K (.ref f14) = true)
    (a15 : PySem.W.nsIn K mainGlobals "_law_same" = some (some (.ref f15))) (l15 : K.lookup f15 = some ⟨oc15, od15, .func (PySem.W.fnOf "_law_same" "_law_same" (defArgs st__law_same) (defBody st__law_same) (defScope st__law_same) .none kV15 dc15 pm15 an15 cd15 ct15), sl15⟩) (c15 : PySem.W.codeIn K cd15 "_law_same" = true) (k15 : PySem.W.keepIn K (.ref f15) = true)
    (a16 : PySem.W.nsIn K mainGlobals "statements_in" = some (some (.ref f16))) (l16 : K.lookup f16 = some ⟨oc16, od16, .func (PySem.W.fnOf "statements_in" "statements_in" (defArgs st_statements_in) (defBody st_statements_in) (defScope st_statements_in) .none kV16 dc16 pm16 an16 cd16 ct16), sl16⟩) (c16 : PySem.W.codeIn K cd16 "statements_in" = true) (k16 : PySem.W.keepIn K (.ref f16) = true)
    (a17 : PySem.W.nsIn K mainGlobals "changed_in" = some (some (.ref f17))) (l17 : K.lookup f17 = some ⟨oc17, od17, .func (PySem.W.fnOf "changed_in" "changed_in" (defArgs st_changed_in) (defBody st_changed_in) (defScope st_changed_in) .none kV17 dc17 pm17 an17 cd17 ct17), sl17⟩) (c17 : PySem.W.codeIn K cd17 "changed_in" = true) (k17 : PySem.W.keepIn K (.ref f17) = true)
    (a18 : PySem.W.nsIn K mainGlobals "proc_named" = some (some (.ref f18))) (l18 : K.lookup f18 = some ⟨oc18, od18, .func (PySem.W.fnOf "proc_named" "proc_named" (defArgs st_proc_named) (defBody st_proc_named) (defScope st_proc_named) .none kV18 dc18 pm18 an18 cd18 ct18), sl18⟩) (c18 : PySem.W.codeIn K cd18 "proc_named" = true) (k18 : PySem.W.keepIn K (.ref f18) = true)
    (a19 : PySem.W.nsIn K mainGlobals "passed_to" = some (some (.ref f19))) (l19 : K.lookup f19 = some ⟨oc19, od19, .func (PySem.W.fnOf "passed_to" "passed_to" (defArgs st_passed_to) (defBody st_passed_to) (defScope st_passed_to) .none kV19 dc19 pm19 an19 cd19 ct19), sl19⟩) (c19 : PySem.W.codeIn K cd19 "passed_to" = true) (k19 : PySem.W.keepIn K (.ref f19) = true)
    (a20 : PySem.W.nsIn K mainGlobals "touched_table" = some (some (.ref f20))) (l20 : K.lookup f20 = some ⟨oc20, od20, .func (PySem.W.fnOf "touched_table" "touched_table" (defArgs st_touched_table) (defBody st_touched_table) (defScope st_touched_table) .none kV20 dc20 pm20 an20 cd20 ct20), sl20⟩) (c20 : PySem.W.codeIn K cd20 "touched_table" = true) (k20 : PySem.W.keepIn K (.ref f20) = true)
    (a21 : PySem.W.nsIn K mainGlobals "touched_of" = some (some (.ref f21))) (l21 : K.lookup f21 = some ⟨oc21, od21, .func (PySem.W.fnOf "touched_of" "touched_of" (defArgs st_touched_of) (defBody st_touched_of) (defScope st_touched_of) .none kV21 dc21 pm21 an21 cd21 ct21), sl21⟩) (c21 : PySem.W.codeIn K cd21 "touched_of" = true) (k21 : PySem.W.keepIn K (.ref f21) = true)
    (a22 : PySem.W.nsIn K mainGlobals "law" = some (some (.ref f22))) (l22 : K.lookup f22 = some ⟨oc22, od22, .func (PySem.W.fnOf "law" "law" (defArgs st_law) (defBody st_law) (defScope st_law) .none kV22 dc22 pm22 an22 cd22 ct22), sl22⟩) (c22 : PySem.W.codeIn K cd22 "law" = true) (k22 : PySem.W.keepIn K (.ref f22) = true)
    {a_CHANGING : Addr} {u_CHANGING_0 u_CHANGING_1 u_CHANGING_2 r_CHANGING_0 r_CHANGING_1 r_CHANGING_2 : Tok} (x_CHANGING : PySem.W.nsIn K mainGlobals "CHANGING" = some (some (.ref a_CHANGING))) {n_CHANGING : Nat} (w_CHANGING : K.lookup a_CHANGING = some ⟨.type "dict", none, .dict #[⟨PyData.keyHash w.params "store", .str "store" r_CHANGING_0, .int 1 u_CHANGING_0⟩, ⟨PyData.keyHash w.params "push", .str "push" r_CHANGING_1, .int 2 u_CHANGING_1⟩, ⟨PyData.keyHash w.params "pop", .str "pop" r_CHANGING_2, .int 2 u_CHANGING_2⟩] n_CHANGING, #[]⟩) (s_CHANGING : (a_CHANGING == sysModules) = false) (v_CHANGING_0 : PySem.W.nsIn K a_CHANGING "store" = some (some (.int 1 u_CHANGING_0))) (v_CHANGING_1 : PySem.W.nsIn K a_CHANGING "push" = some (some (.int 2 u_CHANGING_1))) (v_CHANGING_2 : PySem.W.nsIn K a_CHANGING "pop" = some (some (.int 2 u_CHANGING_2)))
    (y_list : PySem.W.nsIn K mainGlobals "list" = some none) (y_int : PySem.W.nsIn K mainGlobals "int" = some none) (y_len : PySem.W.nsIn K mainGlobals "len" = some none) (y_abs : PySem.W.nsIn K mainGlobals "abs" = some none) (y_range : PySem.W.nsIn K mainGlobals "range" = some none) (y_sorted : PySem.W.nsIn K mainGlobals "sorted" = some none) (y_max : PySem.W.nsIn K mainGlobals "max" = some none) (y_tuple : PySem.W.nsIn K mainGlobals "tuple" = some none) (y_isinstance : PySem.W.nsIn K mainGlobals "isinstance" = some none) (y_bool : PySem.W.nsIn K mainGlobals "bool" = some none) (y_all : PySem.W.nsIn K mainGlobals "all" = some none) (y_str : PySem.W.nsIn K mainGlobals "str" = some none) (y_zip : PySem.W.nsIn K mainGlobals "zip" = some none) :
    ∃ fd : FuncData, (∀ (s : Shared) (v : Value), BindsTo s fd ⟨[v], []⟩ [("script", v)]) ∧ ∀ base : Heap, K.In base → base.Ns mainGlobals mg → FnOk l.prog w K mg base CX0 9 fa fd ["script"] (spLaw K 63) := by
  have e := hfa.symm.trans (PySem.W.mg_of X G a22)
  cases e
  have U0 := fun_mk (st := st__law_start) l0 c0 k0
  have T__law_start : FnI K mg "_law_start" st__law_start _ _ ["script"] := ⟨U0, PySem.W.mg_of X G a0, U0.binds (ps := ["script"]) fun _ _ _ _ _ _ us hl => match us, hl with | [_], _ => rfl⟩
  have U1 := fun_mk (st := st__law_draw) l1 c1 k1
  have T__law_draw : FnI K mg "_law_draw" st__law_draw _ _ ["state", "most"] := ⟨U1, PySem.W.mg_of X G a1, U1.binds (ps := ["state", "most"]) fun _ _ _ _ _ _ us hl => match us, hl with | [_, _], _ => rfl⟩
  have U2 := fun_mk (st := st__law_words) l2 c2 k2
  have T__law_words : FnI K mg "_law_words" st__law_words _ _ ["state", "many"] := ⟨U2, PySem.W.mg_of X G a2, U2.binds (ps := ["state", "many"]) fun _ _ _ _ _ _ us hl => match us, hl with | [_, _], _ => rfl⟩
  have U3 := fun_mk (st := st__law_shuffled) l3 c3 k3
  have T__law_shuffled : FnI K mg "_law_shuffled" st__law_shuffled _ _ ["state", "items"] := ⟨U3, PySem.W.mg_of X G a3, U3.binds (ps := ["state", "items"]) fun _ _ _ _ _ _ us hl => match us, hl with | [_, _], _ => rfl⟩
  have U4 := fun_mk (st := st__law_parts) l4 c4 k4
  have T__law_parts : FnI K mg "_law_parts" st__law_parts _ _ ["state", "many", "ring"] := ⟨U4, PySem.W.mg_of X G a4, U4.binds (ps := ["state", "many", "ring"]) fun _ _ _ _ _ _ us hl => match us, hl with | [_, _, _], _ => rfl⟩
  have U5 := fun_mk (st := st__law_wrapped) l5 c5 k5
  have T__law_wrapped : FnI K mg "_law_wrapped" st__law_wrapped _ _ ["state", "statements"] := ⟨U5, PySem.W.mg_of X G a5, U5.binds (ps := ["state", "statements"]) fun _ _ _ _ _ _ us hl => match us, hl with | [_, _], _ => rfl⟩
  have U6 := fun_mk (st := st__law_call) l6 c6 k6
  have T__law_call : FnI K mg "_law_call" st__law_call _ _ ["callee", "passed"] := ⟨U6, PySem.W.mg_of X G a6, U6.binds (ps := ["callee", "passed"]) fun _ _ _ _ _ _ us hl => match us, hl with | [_, _], _ => rfl⟩
  have U7 := fun_mk (st := st__law_arrays) l7 c7 k7
  have T__law_arrays : FnI K mg "_law_arrays" st__law_arrays _ _ ["head"] := ⟨U7, PySem.W.mg_of X G a7, U7.binds (ps := ["head"]) fun _ _ _ _ _ _ us hl => match us, hl with | [_], _ => rfl⟩
  have U8 := fun_mk (st := st__law_one_of) l8 c8 k8
  have T__law_one_of : FnI K mg "_law_one_of" st__law_one_of _ _ ["state", "items"] := ⟨U8, PySem.W.mg_of X G a8, U8.binds (ps := ["state", "items"]) fun _ _ _ _ _ _ us hl => match us, hl with | [_, _], _ => rfl⟩
  have U9 := fun_mk (st := st__law_change) l9 c9 k9
  have T__law_change : FnI K mg "_law_change" st__law_change _ _ ["state", "x"] := ⟨U9, PySem.W.mg_of X G a9, U9.binds (ps := ["state", "x"]) fun _ _ _ _ _ _ us hl => match us, hl with | [_, _], _ => rfl⟩
  have U10 := fun_mk (st := st__law_core_of) l10 c10 k10
  have T__law_core_of : FnI K mg "_law_core_of" st__law_core_of _ _ ["state"] := ⟨U10, PySem.W.mg_of X G a10, U10.binds (ps := ["state"]) fun _ _ _ _ _ _ us hl => match us, hl with | [_], _ => rfl⟩
  have U11 := fun_mk (st := st__law_statements) l11 c11 k11
  have T__law_statements : FnI K mg "_law_statements" st__law_statements _ _ ["body"] := ⟨U11, PySem.W.mg_of X G a11, U11.binds (ps := ["body"]) fun _ _ _ _ _ _ us hl => match us, hl with | [_], _ => rfl⟩
  have U12 := fun_mk (st := st__law_links) l12 c12 k12
  have T__law_links : FnI K mg "_law_links" st__law_links _ _ ["core"] := ⟨U12, PySem.W.mg_of X G a12, U12.binds (ps := ["core"]) fun _ _ _ _ _ _ us hl => match us, hl with | [_], _ => rfl⟩
  have U13 := fun_mk (st := st__law_reached) l13 c13 k13
  have T__law_reached : FnI K mg "_law_reached" st__law_reached _ _ ["core"] := ⟨U13, PySem.W.mg_of X G a13, U13.binds (ps := ["core"]) fun _ _ _ _ _ _ us hl => match us, hl with | [_], _ => rfl⟩
  have U14 := fun_mk (st := st__law_is_int) l14 c14 k14
  have T__law_is_int : FnI K mg "_law_is_int" st__law_is_int _ _ ["x"] := ⟨U14, PySem.W.mg_of X G a14, U14.binds (ps := ["x"]) fun _ _ _ _ _ _ us hl => match us, hl with | [_], _ => rfl⟩
  have U15 := fun_mk (st := st__law_same) l15 c15 k15
  have T__law_same : FnI K mg "_law_same" st__law_same _ _ ["x", "y"] := ⟨U15, PySem.W.mg_of X G a15, U15.binds (ps := ["x", "y"]) fun _ _ _ _ _ _ us hl => match us, hl with | [_, _], _ => rfl⟩
  have U16 := fun_mk (st := st_statements_in) l16 c16 k16
  have T_statements_in : FnI K mg "statements_in" st_statements_in _ _ ["body"] := ⟨U16, PySem.W.mg_of X G a16, U16.binds (ps := ["body"]) fun _ _ _ _ _ _ us hl => match us, hl with | [_], _ => rfl⟩
  have U17 := fun_mk (st := st_changed_in) l17 c17 k17
  have T_changed_in : FnI K mg "changed_in" st_changed_in _ _ ["proc"] := ⟨U17, PySem.W.mg_of X G a17, U17.binds (ps := ["proc"]) fun _ _ _ _ _ _ us hl => match us, hl with | [_], _ => rfl⟩
  have U18 := fun_mk (st := st_proc_named) l18 c18 k18
  have T_proc_named : FnI K mg "proc_named" st_proc_named _ _ ["core", "name"] := ⟨U18, PySem.W.mg_of X G a18, U18.binds (ps := ["core", "name"]) fun _ _ _ _ _ _ us hl => match us, hl with | [_, _], _ => rfl⟩
  have U19 := fun_mk (st := st_passed_to) l19 c19 k19
  have T_passed_to : FnI K mg "passed_to" st_passed_to _ _ ["core", "table", "proc"] := ⟨U19, PySem.W.mg_of X G a19, U19.binds (ps := ["core", "table", "proc"]) fun _ _ _ _ _ _ us hl => match us, hl with | [_, _, _], _ => rfl⟩
  have U20 := fun_mk (st := st_touched_table) l20 c20 k20
  have T_touched_table : FnI K mg "touched_table" st_touched_table _ _ ["core"] := ⟨U20, PySem.W.mg_of X G a20, U20.binds (ps := ["core"]) fun _ _ _ _ _ _ us hl => match us, hl with | [_], _ => rfl⟩
  have U21 := fun_mk (st := st_touched_of) l21 c21 k21
  have T_touched_of : FnI K mg "touched_of" st_touched_of _ _ ["core", "name"] := ⟨U21, PySem.W.mg_of X G a21, U21.binds (ps := ["core", "name"]) fun _ _ _ _ _ _ us hl => match us, hl with | [_, _], _ => rfl⟩
  have U22 := fun_mk (st := st_law) l22 c22 k22
  have T_law : FnI K mg "law" st_law _ _ ["script"] := ⟨U22, PySem.W.mg_of X G a22, U22.binds (ps := ["script"]) fun _ _ _ _ _ _ us hl => match us, hl with | [_], _ => rfl⟩
  have z_list := PySem.W.mg_none_of X G y_list
  have z_int := PySem.W.mg_none_of X G y_int
  have z_len := PySem.W.mg_none_of X G y_len
  have z_abs := PySem.W.mg_none_of X G y_abs
  have z_range := PySem.W.mg_none_of X G y_range
  have z_sorted := PySem.W.mg_none_of X G y_sorted
  have z_max := PySem.W.mg_none_of X G y_max
  have z_tuple := PySem.W.mg_none_of X G y_tuple
  have z_isinstance := PySem.W.mg_none_of X G y_isinstance
  have z_bool := PySem.W.mg_none_of X G y_bool
  have z_all := PySem.W.mg_none_of X G y_all
  have z_str := PySem.W.mg_none_of X G y_str
  have z_zip := PySem.W.mg_none_of X G y_zip
  have g_CHANGING := PySem.W.mg_of X G x_CHANGING
  have K_CHANGING : KTab K w a_CHANGING tab_CHANGING := ktab_of (by unfold He.dicW; rw [w_CHANGING]; simp only [s_CHANGING]; rfl) fun p hp => by
    simp only [tab_CHANGING, List.mem_cons, List.not_mem_nil, or_false] at hp
    rcases hp with rfl | rfl | rfl
    · exact ⟨_, .int 1, v_CHANGING_0, ⟨_, rfl⟩, fun m H => by simp only [Rep]⟩
    · exact ⟨_, .int 2, v_CHANGING_1, ⟨_, rfl⟩, fun m H => by simp only [Rep]⟩
    · exact ⟨_, .int 2, v_CHANGING_2, ⟨_, rfl⟩, fun m H => by simp only [Rep]⟩
  refine ⟨PySem.W.fnOf "law" "law" (defArgs st_law) (defBody st_law) (defScope st_law) .none kV22 dc22 pm22 an22 cd22 ct22, fun s v => .of_eq rfl, fun base _ _ => ?_⟩
  have F__law_start := mp__law_start (P := l.prog) (mg := mg) (w := w) (base := base) (k := 0) T__law_start.fn z_list
  have F__law_draw := mp__law_draw (P := l.prog) (mg := mg) (w := w) (base := base) (k := 0) T__law_draw.fn z_int z_len z_abs
  have F__law_words := mp__law_words (P := l.prog) (mg := mg) (w := w) (base := base) (k := 1) T__law_words.fn T__law_draw (F__law_draw.mono (by decide)) z_range z_int
  have F0__law_shuffled := mp__law_shuffled (P := l.prog) (mg := mg) (w := w) (base := base) (k := 1) T__law_shuffled.fn T__law_draw (F__law_draw.mono (by decide)) z_len
  have F__law_shuffled := sp_gc F0__law_shuffled gc_shuf
  have F0__law_parts := mp__law_parts (P := l.prog) (mg := mg) (w := w) (base := base) (k := 2) T__law_parts.fn T__law_words (F__law_words.mono (by decide)) T__law_draw (F__law_draw.mono (by decide)) T__law_shuffled (F__law_shuffled.mono (by decide)) z_sorted z_range z_len z_max
  have F__law_parts := sp_gc F0__law_parts gc_fgt
  have F__law_wrapped := mp__law_wrapped (P := l.prog) (mg := mg) (w := w) (base := base) (k := 1) T__law_wrapped.fn T__law_draw (F__law_draw.mono (by decide))
  have F0__law_call := mp__law_call (P := l.prog) (mg := mg) (w := w) (base := base) (k := 0) T__law_call.fn z_tuple
  have F__law_call := sp_gc F0__law_call gc_fgt
  have F__law_arrays := mp__law_arrays (P := l.prog) (mg := mg) (w := w) (base := base) (k := 0) T__law_arrays.fn
  have F__law_one_of := mp__law_one_of (P := l.prog) (mg := mg) (w := w) (base := base) (k := 1) T__law_one_of.fn T__law_draw (F__law_draw.mono (by decide)) z_len
  have F__law_change := mp__law_change (P := l.prog) (mg := mg) (w := w) (base := base) (k := 1) T__law_change.fn T__law_draw (F__law_draw.mono (by decide))
  have F0__law_core_of := mp__law_core_of (P := l.prog) (mg := mg) (w := w) (base := base) (k := 3) T__law_core_of.fn T__law_draw (F__law_draw.mono (by decide)) T__law_parts (F__law_parts.mono (by decide)) T__law_wrapped (F__law_wrapped.mono (by decide)) T__law_call (F__law_call.mono (by decide)) T__law_shuffled (F__law_shuffled.mono (by decide)) T__law_arrays (F__law_arrays.mono (by decide)) T__law_one_of (F__law_one_of.mono (by decide)) T__law_change (F__law_change.mono (by decide)) z_range z_int z_tuple
  have F__law_core_of := sp_gc F0__law_core_of gc_fgt
  have FR__law_statements : ∀ n : Nat, FnOk l.prog w K mg base CX0 (n + 1) f11 _ ["body"] (sp K mg 1 (lstmtL n)) := fun n => by
    induction n with
    | zero => exact fn_bad
    | succ n ih => exact sp_gc (mp__law_statements T__law_statements ih) gc_fgt
  have F__law_statements := FR__law_statements 4
  have F0__law_links := mp__law_links (P := l.prog) (mg := mg) (w := w) (base := base) (k := 5) T__law_links.fn T__law_statements (F__law_statements.mono (by decide)) z_range z_len
  have F__law_links := sp_gc F0__law_links gc_fgt
  have F0__law_reached := mp__law_reached (P := l.prog) (mg := mg) (w := w) (base := base) (k := 6) T__law_reached.fn T__law_links (F__law_links.mono (by decide)) T__law_statements (F__law_statements.mono (by decide)) z_range z_len
  have F__law_reached := sp_gc F0__law_reached gc_fgt
  have F__law_is_int := mp__law_is_int (P := l.prog) (mg := mg) (w := w) (base := base) (k := 0) T__law_is_int.fn z_isinstance z_int z_bool
  have FR__law_same : ∀ n : Nat, FnOk l.prog w K mg base CX0 (n + 2) f15 _ ["x", "y"] (sp K mg 2 (sameL n)) := fun n => by
    induction n with
    | zero => exact fn_bad
    | succ n ih => exact mp__law_same T__law_same ih T__law_is_int (F__law_is_int.mono (by omega)) z_isinstance z_tuple z_len z_range z_all z_str
  have F__law_same := FR__law_same 4
  have FR_statements_in : ∀ n : Nat, FnOk l.prog w K mg base CX0 (n + 1) f16 _ ["body"] (sp K mg 1 (stmtL n)) := fun n => by
    induction n with
    | zero => exact fn_bad
    | succ n ih => exact sp_gc (mp_statements_in T_statements_in ih) gc_fgt
  have F_statements_in := FR_statements_in 4
  have F0_changed_in := mp_changed_in (P := l.prog) (mg := mg) (w := w) (base := base) (k := 5) T_changed_in.fn T_statements_in (F_statements_in.mono (by decide)) K_CHANGING g_CHANGING
  have F_changed_in := sp_gc F0_changed_in gc_fgt
  have F_proc_named := mp_proc_named (P := l.prog) (mg := mg) (w := w) (base := base) (k := 0) T_proc_named.fn
  have F0_passed_to := mp_passed_to (P := l.prog) (mg := mg) (w := w) (base := base) (k := 5) T_passed_to.fn T_statements_in (F_statements_in.mono (by decide)) T_proc_named (F_proc_named.mono (by decide)) z_zip
  have F_passed_to := sp_gc F0_passed_to gc_fgt
  have F0_touched_table := mp_touched_table (P := l.prog) (mg := mg) (w := w) (base := base) (k := 6) T_touched_table.fn T_changed_in (F_changed_in.mono (by decide)) T_passed_to (F_passed_to.mono (by decide))
  have F_touched_table := sp_gc F0_touched_table gc_fgt
  have F_touched_of := mp_touched_of (P := l.prog) (mg := mg) (w := w) (base := base) (k := 7) T_touched_of.fn T_touched_table (F_touched_table.mono (by decide)) T_proc_named (F_proc_named.mono (by decide)) z_tuple
  have F_law := mp_law (P := l.prog) (mg := mg) (w := w) (base := base) (k := 8) T_law.fn T__law_start (F__law_start.mono (by decide)) T__law_core_of (F__law_core_of.mono (by decide)) T__law_reached (F__law_reached.mono (by decide)) T__law_same (F__law_same.mono (by decide)) T_touched_of (F_touched_of.mono (by decide)) z_tuple
  exact law_of F_law fun cs hc => law_ok hc
end K01
open PySem PySem.W PyProof.Rows
set_option maxRecDepth 100000 in
set_option maxHeartbeats 0 in
theorem PySem.Challenge.cw_differwithin_k01_touched_of_holds : PySem.Challenge.rw_differwithin_k01_touched_of.Holds := by
  w_on; o_law; k_head; (case hw => w_witness2)
  k_fill
  refine MP.walkM (l := PySem.Challenge.rw_differwithin_k01_touched_of) (n := 63) (k := 9) rfl (by decide) rfl ⟨rfl, by decide, by decide⟩ (fun w h Y => PySem.W.kIn_of Y) ?F
  case F =>
    intro w mg fa h KX G hmg
    refine' K01.all_mk KX G hmg ?a0 ?l0 ?c0 ?k0 ?a1 ?l1 ?c1 ?k1 ?a2 ?l2 ?c2 ?k2 ?a3 ?l3 ?c3 ?k3 ?a4 ?l4 ?c4 ?k4 ?a5 ?l5 ?c5 ?k5 ?a6 ?l6 ?c6 ?k6 ?a7 ?l7 ?c7 ?k7 ?a8 ?l8 ?c8 ?k8 ?a9 ?l9 ?c9 ?k9 ?a10 ?l10 ?c10 ?k10 ?a11 ?l11 ?c11 ?k11 ?a12 ?l12 ?c12 ?k12 ?a13 ?l13 ?c13 ?k13 ?a14 ?l14 ?c14 ?k14 ?a15 ?l15 ?c15 ?k15 ?a16 ?l16 ?c16 ?k16 ?a17 ?l17 ?c17 ?k17 ?a18 ?l18 ?c18 ?k18 ?a19 ?l19 ?c19 ?k19 ?a20 ?l20 ?c20 ?k20 ?a21 ?l21 ?c21 ?k21 ?a22 ?l22 ?c22 ?k22 ?x_CHANGING ?w_CHANGING ?s_CHANGING ?v_CHANGING_0 ?v_CHANGING_1 ?v_CHANGING_2 ?y_list ?y_int ?y_len ?y_abs ?y_range ?y_sorted ?y_max ?y_tuple ?y_isinstance ?y_bool ?y_all ?y_str ?y_zip
    (case a0 => k_is); (case l0 => k_is); (case c0 => k_is); (case k0 => k_is)
    (case a1 => k_is); (case l1 => k_is); (case c1 => k_is); (case k1 => k_is)
    (case a2 => k_is); (case l2 => k_is); (case c2 => k_is); (case k2 => k_is)
    (case a3 => k_is); (case l3 => k_is); (case c3 => k_is); (case k3 => k_is)
    (case a4 => k_is); (case l4 => k_is); (case c4 => k_is); (case k4 => k_is)
    (case a5 => k_is); (case l5 => k_is); (case c5 => k_is); (case k5 => k_is)
    (case a6 => k_is); (case l6 => k_is); (case c6 => k_is); (case k6 => k_is)
    (case a7 => k_is); (case l7 => k_is); (case c7 => k_is); (case k7 => k_is)
    (case a8 => k_is); (case l8 => k_is); (case c8 => k_is); (case k8 => k_is)
    (case a9 => k_is); (case l9 => k_is); (case c9 => k_is); (case k9 => k_is)
    (case a10 => k_is); (case l10 => k_is); (case c10 => k_is); (case k10 => k_is)
    (case a11 => k_is); (case l11 => k_is); (case c11 => k_is); (case k11 => k_is)
    (case a12 => k_is); (case l12 => k_is); (case c12 => k_is); (case k12 => k_is)
    (case a13 => k_is); (case l13 => k_is); (case c13 => k_is); (case k13 => k_is)
    (case a14 => k_is); (case l14 => k_is); (case c14 => k_is); (case k14 => k_is)
    (case a15 => k_is); (case l15 => k_is); (case c15 => k_is); (case k15 => k_is)
    (case a16 => k_is); (case l16 => k_is); (case c16 => k_is); (case k16 => k_is)
    (case a17 => k_is); (case l17 => k_is); (case c17 => k_is); (case k17 => k_is)
    (case a18 => k_is); (case l18 => k_is); (case c18 => k_is); (case k18 => k_is)
    (case a19 => k_is); (case l19 => k_is); (case c19 => k_is); (case k19 => k_is)
    (case a20 => k_is); (case l20 => k_is); (case c20 => k_is); (case k20 => k_is)
    (case a21 => k_is); (case l21 => k_is); (case c21 => k_is); (case k21 => k_is)
    (case a22 => k_is); (case l22 => k_is); (case c22 => k_is); (case k22 => k_is)
    (case x_CHANGING => k_is); (case w_CHANGING => k_is); (case v_CHANGING_0 => k_is); (case v_CHANGING_1 => k_is); (case v_CHANGING_2 => k_is); (case s_CHANGING => first | rfl | decide)
    (case y_list => k_is); (case y_int => k_is); (case y_len => k_is); (case y_abs => k_is); (case y_range => k_is); (case y_sorted => k_is); (case y_max => k_is); (case y_tuple => k_is); (case y_isinstance => k_is); (case y_bool => k_is); (case y_all => k_is); (case y_str => k_is); (case y_zip => k_is)
