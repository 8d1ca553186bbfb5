import PyProof.Rows.All
import Wide.All
import OpenK.AllK
import Wide.FinOn
import PyProof.EqAt
import PyProof.EqKinds
import PyProof.TupleCall
import HandS.ForMost
import HandS.ForExc
import HandS.Deep
import HandS.TupAny
import HandS.AnyAll
import HandS.IsInst
import HandS.ReplaceLit
import PyProof.GenQ
import HandS.GenOver
import HandS.HeadHook4
import HandS.HeadWalk
import HandS.ReplaceList
import PySem.Challenge.RW_tokenworks_k90_trees_as_texts
import HandS.Head2
import HandS.HeadEnd
set_option Elab.async false
set_option linter.all false
set_option maxRecDepth 100000
set_option maxHeartbeats 2000000
/-! A layer over HandS: values as plain data (D), defs as plain functions over data. -/
namespace Dl
open PySem PySem.Spec PyProof.Rows L2

/-! ### data -/
inductive D where
  | non
  | bl (b : Bool)
  | int (i : Int)
  | str (x : Str)
  | tup (xs : List D)
  | lst (xs : List D)
  deriving Inhabited

mutual
def D.beq : D → D → Bool
  | .non, .non => true
  | .bl a, .bl b => a == b
  | .int a, .int b => a == b
  | .str a, .str b => a == b
  | .tup a, .tup b => D.beqs a b
  | .lst a, .lst b => D.beqs a b
  | .non, .bl _ | .non, .int _ | .non, .str _ | .non, .tup _ | .non, .lst _ => false
  | .bl _, .non | .bl _, .int _ | .bl _, .str _ | .bl _, .tup _ | .bl _, .lst _ => false
  | .int _, .non | .int _, .bl _ | .int _, .str _ | .int _, .tup _ | .int _, .lst _ => false
  | .str _, .non | .str _, .bl _ | .str _, .int _ | .str _, .tup _ | .str _, .lst _ => false
  | .tup _, .non | .tup _, .bl _ | .tup _, .int _ | .tup _, .str _ | .tup _, .lst _ => false
  | .lst _, .non | .lst _, .bl _ | .lst _, .int _ | .lst _, .str _ | .lst _, .tup _ => false
def D.beqs : List D → List D → Bool
  | [], [] => true
  | x :: xs, y :: ys => D.beq x y && D.beqs xs ys
  | [], _ :: _ => false
  | _ :: _, [] => false
end
mutual
theorem D.beq_iff : ∀ a b : D, D.beq a b = true ↔ a = b := by
  intro a b
  cases a <;> cases b <;> simp [D.beq, D.beqs_iff]
theorem D.beqs_iff : ∀ a b : List D, D.beqs a b = true ↔ a = b
  | [], [] => by simp [D.beqs]
  | x :: xs, y :: ys => by simp [D.beqs, D.beq_iff x y, D.beqs_iff xs ys]
  | [], _ :: _ => by simp [D.beqs]
  | _ :: _, [] => by simp [D.beqs]
end
instance : DecidableEq D := fun a b => decidable_of_iff (D.beq a b = true) (D.beq_iff a b)

/-- a result: a value, an exception of a class, or what this layer does not speak of -/
inductive R (α : Type) where
  | ok (a : α)
  | exc (c : String)
  | bad
def R.bind {α β : Type} (r : R α) (f : α → R β) : R β := match r with
  | .ok a => f a
  | .exc c => .exc c
  | .bad => .bad
instance : Monad R where
  pure := R.ok
  bind := R.bind
theorem R.bind_ok {α β : Type} (a : α) (f : α → R β) : (R.ok a >>= f) = f a := rfl
theorem R.bind_exc {α β : Type} (c : String) (f : α → R β) : ((R.exc c : R α) >>= f) = R.exc c := rfl
theorem R.bind_bad {α β : Type} (f : α → R β) : ((R.bad : R α) >>= f) = R.bad := rfl
theorem R.pure_eq {α : Type} (a : α) : (pure a : R α) = R.ok a := rfl

/-! ### data in the heap -/
mutual
def Rep (K : PySem.W.Frag) (H : Hp) : D → V → Prop
  | .non, v => v = .non
  | .bl b, v => v = .bl b
  | .int i, v => v = .int i
  | .str x, v => v = .str x
  | .tup ds, v => ∃ a vs, v = .ref a ∧ SqT K H a vs ∧ Reps K H ds vs
  | .lst ds, v => ∃ a vs, v = .ref a ∧ SqL K H a vs ∧ Reps K H ds vs
def Reps (K : PySem.W.Frag) (H : Hp) : List D → List V → Prop
  | [], vs => vs = []
  | d :: ds, vs => ∃ v r, vs = v :: r ∧ Rep K H d v ∧ Reps K H ds r
end

/-- all that is tracked stays -/
def Le (H H' : Hp) : Prop := ∀ a o, H a = some o → H' a = some o
theorem Le.refl {H : Hp} : Le H H := fun _ _ h => h
theorem Le.trans {H H1 H2 : Hp} (a : Le H H1) (b : Le H1 H2) : Le H H2 := fun x o h => b x o (a x o h)
theorem Le.rd {H H' : Hp} (l : Le H H') {a : Addr} {u : HO} (r : Rd H a u) : Rd H' a u := by
  rcases r with r | ⟨o, r⟩
  · exact .inl (l _ _ r)
  · exact .inr ⟨o, l _ _ r⟩
section
variable {K : PySem.W.Frag} {G G' H H' : Hp}
theorem Le.sqL (l : Le H H') {a : Addr} {xs : List V} (h : SqL K H a xs) : SqL K H' a xs := h.imp l.rd id
theorem Le.sqT (l : Le H H') {a : Addr} {xs : List V} (h : SqT K H a xs) : SqT K H' a xs := h.imp l.rd id
mutual
theorem Rep.mono (l : Le H H') : ∀ (d : D) (v : V), Rep K H d v → Rep K H' d v
  | .non, _, h => h
  | .bl _, _, h => h
  | .int _, _, h => h
  | .str _, _, h => h
  | .tup ds, _, ⟨a, vs, e, s, r⟩ => ⟨a, vs, e, l.sqT s, Reps.mono l ds vs r⟩
  | .lst ds, _, ⟨a, vs, e, s, r⟩ => ⟨a, vs, e, l.sqL s, Reps.mono l ds vs r⟩
theorem Reps.mono (l : Le H H') : ∀ (ds : List D) (vs : List V), Reps K H ds vs → Reps K H' ds vs
  | [], _, h => h
  | d :: ds, _, ⟨v, r, e, h1, h2⟩ => ⟨v, r, e, Rep.mono l d v h1, Reps.mono l ds r h2⟩
end
theorem Reps.length : ∀ {ds : List D} {vs : List V}, Reps K H ds vs → vs.length = ds.length
  | [], _, h => by cases h; rfl
  | d :: ds, _, ⟨v, r, e, _, h⟩ => by rw [e, List.length_cons, List.length_cons, Reps.length h]
theorem Reps.append : ∀ {ds es : List D} {vs ws : List V}, Reps K H ds vs → Reps K H es ws → Reps K H (ds ++ es) (vs ++ ws)
  | [], _, _, _, h, g => by cases h; exact g
  | d :: ds, _, _, _, ⟨v, r, e, h1, h2⟩, g => by rw [e]; exact ⟨v, _, rfl, h1, Reps.append h2 g⟩
theorem Reps.get : ∀ {ds : List D} {vs : List V} {i : Nat} {d : D}, Reps K H ds vs → ds[i]? = some d → ∃ v, vs[i]? = some v ∧ Rep K H d v
  | [], _, _, _, _, h => by simp at h
  | d :: ds, _, 0, _, ⟨v, r, e, h1, h2⟩, h => by rw [e]; simp at h; subst h; exact ⟨v, rfl, h1⟩
  | d :: ds, _, i + 1, _, ⟨v, r, e, h1, h2⟩, h => by
    rw [e]
    obtain ⟨w, e', h'⟩ := Reps.get (i := i) h2 (by simpa using h)
    exact ⟨w, by simpa using e', h'⟩
theorem Reps.take : ∀ {ds : List D} {vs : List V} (n : Nat), Reps K H ds vs → Reps K H (ds.take n) (vs.take n)
  | _, _, 0, _ => by rw [List.take_zero, List.take_zero]; exact rfl
  | [], _, n + 1, h => by cases h; exact rfl
  | d :: ds, _, n + 1, ⟨v, r, e, h1, h2⟩ => by rw [e]; exact ⟨v, _, rfl, h1, Reps.take n h2⟩
theorem Reps.drop : ∀ {ds : List D} {vs : List V} (n : Nat), Reps K H ds vs → Reps K H (ds.drop n) (vs.drop n)
  | _, _, 0, h => h
  | [], _, n + 1, h => by cases h; exact rfl
  | d :: ds, _, n + 1, ⟨v, r, e, h1, h2⟩ => by rw [e]; exact Reps.drop n h2
theorem Reps.set : ∀ {ds : List D} {vs : List V} (n : Nat) {d : D} {v : V}, Reps K H ds vs → Rep K H d v → Reps K H (ds.set n d) (vs.set n v)
  | [], _, _, _, _, h, _ => by cases h; exact rfl
  | d :: ds, _, 0, _, _, ⟨v, r, e, h1, h2⟩, g => by rw [e]; exact ⟨_, _, rfl, g, h2⟩
  | d :: ds, _, n + 1, _, _, ⟨v, r, e, h1, h2⟩, g => by rw [e]; exact ⟨_, _, rfl, h1, Reps.set n h2 g⟩
theorem Reps.one {d : D} {v : V} (h : Rep K H d v) : Reps K H [d] [v] := ⟨v, [], rfl, h, rfl⟩
theorem Reps.reverse : ∀ {ds : List D} {vs : List V}, Reps K H ds vs → Reps K H ds.reverse vs.reverse
  | [], _, h => by cases h; exact rfl
  | d :: ds, _, ⟨v, r, e, h1, h2⟩ => by
    rw [e, List.reverse_cons, List.reverse_cons]
    exact (Reps.reverse h2).append (.one h1)

/-- what is frozen grows, what others own stays; tables of code objects (tp) grow -/
def Tr (tp : Addr → Prop) (G H G' H' : Hp) : Prop := Le G G' ∧ Le G' H' ∧ (∀ a o, G a = none → ¬ tp a → H a = some o → H' a = some o ∧ G' a = none) ∧ ∀ a, tp a → G a = none → GxR.TabG H a → GxR.TabG H' a ∧ G' a = none
theorem Tr.refl {tp : Addr → Prop} (l : Le G H) : Tr tp G H G H := ⟨.refl, l, fun _ _ n _ h => ⟨h, n⟩, fun _ _ n h => ⟨h, n⟩⟩
theorem Tr.trans {tp : Addr → Prop} {G1 H1 G2 H2 : Hp} (a : Tr tp G H G1 H1) (b : Tr tp G1 H1 G2 H2) : Tr tp G H G2 H2 :=
  ⟨a.1.trans b.1, b.2.1, fun x o n nt h => let ⟨h1, n1⟩ := a.2.2.1 x o n nt h; b.2.2.1 x o n1 nt h1, fun x t n h => let ⟨h1, n1⟩ := a.2.2.2 x t n h; b.2.2.2 x t n1 h1⟩
theorem none_of_le (l : Le G H) {p : Addr} (n : H p = none) : G p = none := by
  cases e : G p with
  | none => rfl
  | some u => rw [l p u e] at n; cases n
theorem Le.up (l : Le G H) (p : Addr) (o : HO) : Le (upd G p o) (upd H p o) := fun a u h => by
  by_cases e : a = p
  · subst e; rw [upd_same] at h ⊢; exact h
  · rw [upd_ne e] at h ⊢; exact l a u h
theorem Le.new {p : Addr} {o : HO} (n : H p = none) : Le H (upd H p o) := fun a u h => by
  rw [upd_ne (ne_of_none h n)]; exact h
theorem tab_new {p a : Addr} {o : HO} (n : H p = none) (h : GxR.TabG H a) : a ≠ p ∧ GxR.TabG (upd H p o) a := by
  obtain ⟨ps, e, t⟩ := h
  have z : a ≠ p := ne_of_none e n
  exact ⟨z, ps, by rw [upd_ne z]; exact e, t⟩
/-- a new object, frozen at once -/
theorem Tr.new {tp : Addr → Prop} (l : Le G H) {p : Addr} {o : HO} (n : H p = none) : Tr tp G H (upd G p o) (upd H p o) :=
  ⟨Le.new (none_of_le l n), l.up p o, fun a u e _ h => by
    have z : a ≠ p := ne_of_none h n
    rw [upd_ne z, upd_ne z]; exact ⟨h, e⟩, fun a _ e h => by
    obtain ⟨z, t⟩ := tab_new (o := o) n h
    rw [upd_ne z]; exact ⟨t, e⟩⟩
/-- a new object that is not spoken of -/
theorem Tr.junk {tp : Addr → Prop} (l : Le G H) {p : Addr} {o : HO} (n : H p = none) : Tr tp G H G (upd H p o) :=
  ⟨.refl, fun a u h => (by rw [upd_ne (ne_of_none (l a u h) n)]; exact l a u h), fun a u e _ h => ⟨by rw [upd_ne (ne_of_none h n)]; exact h, e⟩, fun a _ e h => ⟨(tab_new n h).2, e⟩⟩
end

/-! ### slots -/
inductive S where
  | no
  | val (d : D)
  | own (ds : List D)
  deriving Inhabited
abbrev Env := List S

structure ER (K : PySem.W.Frag) (tp : Addr → Prop) (Fo G H : Hp) (δ : Env) (σ : L2.St) : Prop where
  gh : Le G H
  fh : Le Fo H
  fg : ∀ a o, Fo a = some o → G a = none ∧ ¬ tp a
  tb : ∀ a, tp a → GxR.TabG H a ∧ G a = none
  len : δ.length = σ.length
  val : ∀ (i : Nat) (d : D), δ[i]? = some (.val d) → ∃ v : V, σ[i]? = some (some v) ∧ Rep K G d v
  own : ∀ (i : Nat) (ds : List D), δ[i]? = some (.own ds) → ∃ (p : Addr) (vs : List V), σ[i]? = some (some (.ref p)) ∧ G p = none ∧ Fo p = none ∧ H p = some (.lst vs) ∧ Reps K G ds vs
  sep : ∀ (i j : Nat) (ds es : List D), δ[i]? = some (.own ds) → δ[j]? = some (.own es) → i ≠ j → σ[i]? ≠ σ[j]?
section
variable {K : PySem.W.Frag} {tp : Addr → Prop} {Fo G H G' H' : Hp} {δ : Env} {σ : L2.St}
theorem ER.not_tp (e : ER K tp Fo G H δ σ) {p : Addr} {vs : List V} (h : H p = some (.lst vs)) : ¬ tp p := fun t => by
  obtain ⟨⟨ps, q, _⟩, _⟩ := e.tb p t
  rw [h] at q; cases q
theorem ER.tr (e : ER K tp Fo G H δ σ) (t : Tr tp G H G' H') : ER K tp Fo G' H' δ σ where
  gh := t.2.1
  fh := fun a o h => (t.2.2.1 a o (e.fg a o h).1 (e.fg a o h).2 (e.fh a o h)).1
  fg := fun a o h => ⟨(t.2.2.1 a o (e.fg a o h).1 (e.fg a o h).2 (e.fh a o h)).2, (e.fg a o h).2⟩
  tb := fun a h => t.2.2.2 a h (e.tb a h).2 (e.tb a h).1
  len := e.len
  val := fun i d h => let ⟨v, h1, h2⟩ := e.val i d h; ⟨v, h1, Rep.mono t.1 d v h2⟩
  own := fun i ds h => let ⟨p, vs, h1, h2, h3, h4, h5⟩ := e.own i ds h
    let ⟨q1, q2⟩ := t.2.2.1 p _ h2 (e.not_tp h4) h4; ⟨p, vs, h1, q2, h3, q1, Reps.mono t.1 ds vs h5⟩
  sep := e.sep
theorem get_set_cases {α : Type} {l : List α} {i j : Nat} {a b : α} (h : (l.set i a)[j]? = some b) : (j = i ∧ b = a ∧ i < l.length) ∨ (j ≠ i ∧ l[j]? = some b) := by
  by_cases e : j = i
  · subst e
    rw [List.getElem?_set] at h
    simp at h
    by_cases q : j < l.length
    · simp [q] at h; exact .inl ⟨rfl, h.symm, q⟩
    · simp [q] at h
  · rw [List.getElem?_set_ne (Ne.symm e)] at h
    exact .inr ⟨e, h⟩
/-- a slot gets a frozen value -/
theorem ER.setVal (e : ER K tp Fo G H δ σ) (i : Nat) {d : D} {v : V} (r : Rep K G d v) : ER K tp Fo G H (δ.set i (.val d)) (σ.set i (some v)) where
  gh := e.gh
  fh := e.fh
  fg := e.fg
  tb := e.tb
  len := by rw [List.length_set, List.length_set]; exact e.len
  val := fun j c h => by
    rcases get_set_cases h with ⟨rfl, q, l⟩ | ⟨n, h⟩
    · cases q
      exact ⟨v, by rw [List.getElem?_set_self (by rw [← e.len]; exact l)], r⟩
    · obtain ⟨w, h1, h2⟩ := e.val j c h
      exact ⟨w, by rw [List.getElem?_set_ne (Ne.symm n)]; exact h1, h2⟩
  own := fun j c h => by
    rcases get_set_cases h with ⟨_, q, _⟩ | ⟨n, h⟩
    · cases q
    · obtain ⟨p, vs, h1, h2⟩ := e.own j c h
      exact ⟨p, vs, by rw [List.getElem?_set_ne (Ne.symm n)]; exact h1, h2⟩
  sep := fun j k c d h g ne => by
    rcases get_set_cases h with ⟨_, q, _⟩ | ⟨n, h⟩
    · cases q
    · rcases get_set_cases g with ⟨_, q, _⟩ | ⟨m, g⟩
      · cases q
      · rw [List.getElem?_set_ne (Ne.symm n), List.getElem?_set_ne (Ne.symm m)]
        exact e.sep j k c d h g ne
/-- a slot is forgotten -/
theorem ER.setNo (e : ER K tp Fo G H δ σ) (i : Nat) (x : Option V) : ER K tp Fo G H (δ.set i .no) (σ.set i x) where
  gh := e.gh
  fh := e.fh
  fg := e.fg
  tb := e.tb
  len := by rw [List.length_set, List.length_set]; exact e.len
  val := fun j c h => by
    rcases get_set_cases h with ⟨_, q, _⟩ | ⟨n, h⟩
    · cases q
    · obtain ⟨w, h1, h2⟩ := e.val j c h
      exact ⟨w, by rw [List.getElem?_set_ne (Ne.symm n)]; exact h1, h2⟩
  own := fun j c h => by
    rcases get_set_cases h with ⟨_, q, _⟩ | ⟨n, h⟩
    · cases q
    · obtain ⟨p, vs, h1, h2⟩ := e.own j c h
      exact ⟨p, vs, by rw [List.getElem?_set_ne (Ne.symm n)]; exact h1, h2⟩
  sep := fun j k c d h g ne => by
    rcases get_set_cases h with ⟨_, q, _⟩ | ⟨n, h⟩
    · cases q
    · rcases get_set_cases g with ⟨_, q, _⟩ | ⟨m, g⟩
      · cases q
      · rw [List.getElem?_set_ne (Ne.symm n), List.getElem?_set_ne (Ne.symm m)]
        exact e.sep j k c d h g ne
/-- a slot gets a new list of its own, at p -/
theorem ER.setOwn (e : ER K tp Fo G H δ σ) (i : Nat) {p : Addr} {ds : List D} {vs : List V} (n : H p = none) (r : Reps K G ds vs) :
    ER K tp Fo G (upd H p (.lst vs)) (δ.set i (.own ds)) (σ.set i (some (.ref p))) where
  gh := fun a o h => by rw [upd_ne (ne_of_none (e.gh a o h) n)]; exact e.gh a o h
  fh := fun a o h => by rw [upd_ne (ne_of_none (e.fh a o h) n)]; exact e.fh a o h
  fg := e.fg
  tb := fun a t => ⟨(tab_new n (e.tb a t).1).2, (e.tb a t).2⟩
  len := by rw [List.length_set, List.length_set]; exact e.len
  val := fun j c h => by
    rcases get_set_cases h with ⟨_, q, _⟩ | ⟨m, h⟩
    · cases q
    · obtain ⟨w, h1, h2⟩ := e.val j c h
      exact ⟨w, by rw [List.getElem?_set_ne (Ne.symm m)]; exact h1, h2⟩
  own := fun j c h => by
    rcases get_set_cases h with ⟨rfl, q, l⟩ | ⟨m, h⟩
    · cases q
      exact ⟨p, vs, by rw [List.getElem?_set_self (by rw [← e.len]; exact l)], none_of_le e.gh n, none_of_le e.fh n, upd_same, r⟩
    · obtain ⟨q, ws, h1, h2, h3, h4, h5⟩ := e.own j c h
      exact ⟨q, ws, by rw [List.getElem?_set_ne (Ne.symm m)]; exact h1, h2, h3, by rw [upd_ne (ne_of_none h4 n)]; exact h4, h5⟩
  sep := fun j k c d h g ne => by
    have lt : ∀ (j : Nat) (c : List D), i < δ.length → j ≠ i → δ[j]? = some (.own c) → σ[j]? ≠ (σ.set i (some (V.ref p)))[i]? := fun j c l m h z => by
      obtain ⟨q, ws, h1, h2, h3, h4, h5⟩ := e.own j c h
      rw [List.getElem?_set_self (by rw [← e.len]; exact l), h1] at z
      cases z
      rw [n] at h4; cases h4
    rcases get_set_cases h with ⟨ej, q, l⟩ | ⟨m, h'⟩
    · rcases get_set_cases g with ⟨ek, q, _⟩ | ⟨m', g'⟩
      · exact absurd (ej.trans ek.symm) ne
      · rw [ej, List.getElem?_set_ne (Ne.symm m')]
        exact (lt k d l m' g').symm
    · rcases get_set_cases g with ⟨ek, q, l⟩ | ⟨m', g'⟩
      · rw [ek, List.getElem?_set_ne (Ne.symm m)]
        exact lt j c l m h'
      · rw [List.getElem?_set_ne (Ne.symm m), List.getElem?_set_ne (Ne.symm m')]
        exact e.sep j k c d h' g' ne
/-- an own list is changed in its place -/
theorem ER.chgOwn (e : ER K tp Fo G H δ σ) (i : Nat) {p : Addr} {ds es : List D} {ws : List V} (h : δ[i]? = some (.own ds)) (hp : σ[i]? = some (some (.ref p))) (r : Reps K G es ws) :
    ER K tp Fo G (upd H p (.lst ws)) (δ.set i (.own es)) σ where
  gh := fun a o q => by
    obtain ⟨p', vs, h1, h2, h3, h4, h5⟩ := e.own i ds h
    rw [hp] at h1; cases h1
    rw [upd_ne (ne_of_none q h2)]; exact e.gh a o q
  fh := fun a o q => by
    obtain ⟨p', vs, h1, h2, h3, h4, h5⟩ := e.own i ds h
    rw [hp] at h1; cases h1
    rw [upd_ne (ne_of_none q h3)]; exact e.fh a o q
  fg := e.fg
  tb := fun a t => by
    obtain ⟨p', vs, h1, h2, h3, h4, h5⟩ := e.own i ds h
    rw [hp] at h1; cases h1
    obtain ⟨⟨ps, q, q2⟩, q3⟩ := e.tb a t
    have z : a ≠ p := fun z => e.not_tp h4 (z ▸ t)
    exact ⟨⟨ps, by rw [upd_ne z]; exact q, q2⟩, q3⟩
  len := by rw [List.length_set]; exact e.len
  val := fun j c g => by
    rcases get_set_cases g with ⟨_, q, _⟩ | ⟨m, g⟩
    · cases q
    · exact e.val j c g
  own := fun j c g => by
    obtain ⟨p', vs, h1, h2, h3, h4, h5⟩ := e.own i ds h
    rw [hp] at h1; cases h1
    rcases get_set_cases g with ⟨rfl, q, l⟩ | ⟨m, g⟩
    · cases q
      exact ⟨p, ws, hp, h2, h3, upd_same, r⟩
    · obtain ⟨q, us, g1, g2, g3, g4, g5⟩ := e.own j c g
      refine ⟨q, us, g1, g2, g3, ?_, g5⟩
      rw [upd_ne ?_]
      · exact g4
      · rintro rfl
        exact e.sep j i c ds g h m (g1.trans hp.symm)
  sep := fun j k c d g f ne => by
    have at_ : ∀ (j : Nat) (c : List D), (δ.set i (.own es))[j]? = some (.own c) → ∃ c', δ[j]? = some (.own c') := fun j c g => by
      rcases get_set_cases g with ⟨rfl, _, _⟩ | ⟨_, g⟩
      · exact ⟨_, h⟩
      · exact ⟨_, g⟩
    obtain ⟨c', g'⟩ := at_ j c g
    obtain ⟨d', f'⟩ := at_ k d f
    exact e.sep j k c' d' g' f' ne
/-- an own list is frozen -/
def frz (i : Nat) (δ : Env) : Env := match δ[i]? with
  | some (.own ds) => δ.set i (.val (.lst ds))
  | _ => δ
theorem ER.frz (e : ER K tp Fo G H δ σ) (i : Nat) : ∃ G', Le G G' ∧ ER K tp Fo G' H (frz i δ) σ ∧ ((G' = G ∧ Dl.frz i δ = δ) ∨ ∃ p vs, G p = none ∧ H p = some (.lst vs) ∧ G' = upd G p (.lst vs)) := by
  unfold Dl.frz
  split
  · rename_i ds h
    obtain ⟨p, vs, h1, h2, h3, h4, h5⟩ := e.own i ds h
    have lg : Le G (upd G p (.lst vs)) := Le.new h2
    refine ⟨upd G p (.lst vs), lg, ⟨?_, e.fh, ?_, ?_, by rw [List.length_set]; exact e.len, ?_, ?_, ?_⟩, ?_⟩
    · intro a o q
      by_cases z : a = p
      · subst z; rw [upd_same] at q; cases q; exact h4
      · rw [upd_ne z] at q; exact e.gh a o q
    · intro a o q
      rw [upd_ne (ne_of_none q h3)]; exact e.fg a o q
    · intro a t
      rw [upd_ne (fun z : a = p => e.not_tp h4 (z ▸ t))]; exact e.tb a t
    · intro j c g
      rcases get_set_cases g with ⟨rfl, q, l⟩ | ⟨m, g⟩
      · cases q
        exact ⟨_, h1, p, vs, rfl, SqL.of upd_same, Reps.mono lg ds vs h5⟩
      · obtain ⟨w, g1, g2⟩ := e.val j c g
        exact ⟨w, g1, Rep.mono lg _ _ g2⟩
    · intro j c g
      rcases get_set_cases g with ⟨_, q, _⟩ | ⟨m, g⟩
      · cases q
      · obtain ⟨q, us, g1, g2, g3, g4, g5⟩ := e.own j c g
        refine ⟨q, us, g1, ?_, g3, g4, Reps.mono lg _ _ g5⟩
        rw [upd_ne ?_]
        · exact g2
        · rintro rfl
          exact e.sep j i c ds g h m (g1.trans h1.symm)
    · intro j k c d g f ne
      rcases get_set_cases g with ⟨_, q, _⟩ | ⟨m, g⟩
      · cases q
      · rcases get_set_cases f with ⟨_, q, _⟩ | ⟨m', f⟩
        · cases q
        · exact e.sep j k c d g f ne
    · exact .inr ⟨p, vs, h2, h4, rfl⟩
  · exact ⟨G, .refl, e, .inl ⟨rfl, rfl⟩⟩
end
end Dl

set_option Elab.async false
set_option linter.all false
set_option maxRecDepth 100000
set_option maxHeartbeats 2000000
/-! Expressions over data. -/
namespace Dl
open PySem PySem.Spec PyProof.Rows L2

/-- the program's own: its exceptions' classes by name, the tables of code objects of defs with generator expressions -/
structure Mo where
  ec : String → Value
  tp : Addr → Prop
def PX {α : Type} (M : Mo) (W : WX) (σ : L2.St) (G H : Hp) (r : R α) (k : Hp → Hp → α → Prop) : Prop := match r with
  | .ok a => ∀ G' H', Tr M.tp G H G' H' → k G' H' a
  | .exc c => ∀ G' H', Tr M.tp G H G' H' → W (M.ec c) none σ H'
  | .bad => False
section
variable {α β : Type} {M : Mo} {W : WX} {σ : L2.St} {G H : Hp}
theorem PX.bind {r : R α} {g : α → R β} {k : Hp → Hp → β → Prop} (h : PX M W σ G H (r >>= g) k) : PX M W σ G H r fun G' H' a => PX M W σ G' H' (g a) k := by
  cases r with
  | ok a =>
    intro G1 H1 t1
    have h' : PX M W σ G H (g a) k := h
    show PX M W σ G1 H1 (g a) k
    cases e : g a with
    | ok b => rw [e] at h'; intro G2 H2 t2; exact h' G2 H2 (t1.trans t2)
    | exc c => rw [e] at h'; intro G2 H2 t2; exact h' G2 H2 (t1.trans t2)
    | bad => rw [e] at h'; exact h'
  | exc c => exact h
  | bad => exact h
theorem PX.mono {r : R α} {k k' : Hp → Hp → α → Prop} (h : PX M W σ G H r k) (i : ∀ G' H' a, Tr M.tp G H G' H' → k G' H' a → k' G' H' a) : PX M W σ G H r k' := by
  cases r with
  | ok a => exact fun G' H' t => i G' H' a t (h G' H' t)
  | exc c => exact h
  | bad => exact h
end
def ofO {α : Type} : Option α → R α
  | some a => .ok a
  | none => .bad
theorem ofO_some {α : Type} (a : α) : ofO (some a) = R.ok a := rfl
theorem ofO_none {α : Type} : ofO (none : Option α) = R.bad := rfl
/-- what a built-in operation must bring -/
def QX (K : PySem.W.Frag) (tp : Addr → Prop) (G H : Hp) (r : Option D) (Q : VK) : Prop := match r with
  | some z => ∀ G' H', Tr tp G H G' H' → ∀ u, Rep K G' z u → Q u H'
  | none => False
section
variable {K : PySem.W.Frag} {M : Mo} {tp : Addr → Prop} {W : WX} {σ : L2.St} {G H : Hp} {Q : VK}
theorem PX.qx {r : Option D} (h : PX M W σ G H (ofO r) fun G' H' z => ∀ u, Rep K G' z u → Q u H') : QX K M.tp G H r Q := by
  cases r with
  | none => exact h
  | some z => exact h
theorem QX.at {z : D} {u : V} (h : QX K tp G H (some z) Q) (l : Le G H) (r : Rep K G z u) : Q u H := h G H (.refl l) u r
theorem QX.newTup {ds : List D} {vs : List V} (h : QX K tp G H (some (.tup ds)) Q) (l : Le G H) (r : Reps K G ds vs) {p : Addr} (n : H p = none) : Q (.ref p) (upd H p (.tup vs)) :=
  h _ _ (Tr.new l n) _ ⟨p, vs, rfl, SqT.of upd_same, Reps.mono (Le.new (none_of_le l n)) ds vs r⟩
theorem QX.newLst {ds : List D} {vs : List V} (h : QX K tp G H (some (.lst ds)) Q) (l : Le G H) (r : Reps K G ds vs) {p : Addr} (n : H p = none) : Q (.ref p) (upd H p (.lst vs)) :=
  h _ _ (Tr.new l n) _ ⟨p, vs, rfl, SqL.of upd_same, Reps.mono (Le.new (none_of_le l n)) ds vs r⟩
end

/-! ### readings -/
def tE (K : PySem.W.Frag) (M : Mo) (W : WX) (f : Env → R D) : TE := fun σ H Q => ∃ Fo G δ, ER K M.tp Fo G H δ σ ∧ PX M W σ G H (f δ) fun G' H' d => ∀ v, Rep K G' d v → Q v H'
def tT (K : PySem.W.Frag) (M : Mo) (W : WX) (f : Env → R Bool) : TT := fun σ H Q => ∃ Fo G δ, ER K M.tp Fo G H δ σ ∧ PX M W σ G H (f δ) fun _ H' b => Q b H'
def tA (K : PySem.W.Frag) (M : Mo) (W : WX) (f : Env → R (List D)) : TA := fun σ H Q => ∃ Fo G δ, ER K M.tp Fo G H δ σ ∧ PX M W σ G H (f δ) fun G' H' ds => ∀ vs, Reps K G' ds vs → Q vs H'
def tO (K : PySem.W.Frag) (M : Mo) (W : WX) (f : Env → R (Option Int)) : TO := fun σ H Q => ∃ Fo G δ, ER K M.tp Fo G H δ σ ∧ PX M W σ G H (f δ) fun _ H' b => Q b H'

/-! ### the data functions' words -/
abbrev Ev := Env → R D
def eV (i : Nat) : Ev := fun δ => match δ[i]? with
  | some (.val d) => .ok d
  | _ => .bad
def eC (d : D) : Ev := fun _ => .ok d
def e1 (h : D → Option D) (f : Ev) : Ev := fun δ => f δ >>= fun x => ofO (h x)
def e2 (h : D → D → Option D) (f g : Ev) : Ev := fun δ => f δ >>= fun x => g δ >>= fun y => ofO (h x y)
def eAnd (f g : Ev) : Ev := fun δ => f δ >>= fun x => match x with
  | .bl true => g δ
  | .bl false => .ok (.bl false)
  | _ => .bad
def eOr (f g : Ev) : Ev := fun δ => f δ >>= fun x => match x with
  | .bl true => .ok (.bl true)
  | .bl false => g δ
  | _ => .bad
def eNot (f : Ev) : Ev := fun δ => f δ >>= fun x => match x with
  | .bl b => .ok (.bl !b)
  | _ => .bad
abbrev Tv := Env → R Bool
def tB1 (f : Ev) : Tv := fun δ => f δ >>= fun x => match x with
  | .bl b => .ok b
  | _ => .bad
def tAnd' (f g : Tv) : Tv := fun δ => f δ >>= fun x => match x with
  | true => g δ
  | false => .ok false
def tOr' (f g : Tv) : Tv := fun δ => f δ >>= fun x => match x with
  | true => .ok true
  | false => g δ
def tNot' (f : Tv) : Tv := fun δ => f δ >>= fun x => .ok !x
def eIf (c : Tv) (f g : Ev) : Ev := fun δ => c δ >>= fun x => match x with
  | true => f δ
  | false => g δ
def aNil : Env → R (List D) := fun _ => .ok []
def aCons (f : Ev) (g : Env → R (List D)) : Env → R (List D) := fun δ => f δ >>= fun x => g δ >>= fun xs => .ok (x :: xs)
def eTup (g : Env → R (List D)) : Ev := fun δ => g δ >>= fun xs => ofO (if xs.length ≤ sizeLine then some (.tup xs) else none)
def eLst (g : Env → R (List D)) : Ev := fun δ => g δ >>= fun xs => ofO (if xs.length ≤ sizeLine then some (.lst xs) else none)
def eCall (m : List D → R D) (g : Env → R (List D)) : Ev := fun δ => g δ >>= fun xs => m xs
def eB (m : List D → Option D) (g : Env → R (List D)) : Ev := fun δ => g δ >>= fun xs => ofO (m xs)

section
variable {X : Cx} {M : Mo} {W : WX} {a b c e : Expr} {es rest : List Expr} {pos : Pos} {f g : Ev} {fs : Env → R (List D)} {t u : Tv}
theorem PE.imp {t t' : TE} (h : PE X e t) (i : ∀ σ H Q, t' σ H Q → t σ H Q) : PE X e t' := ⟨fun pins s σ H Q I q => h.run pins s σ H Q I (i σ H Q q)⟩
theorem PT.imp {t t' : TT} (h : PT X e t) (i : ∀ σ H Q, t' σ H Q → t σ H Q) : PT X e t' := ⟨fun pins s σ H Q I q => h.run pins s σ H Q I (i σ H Q q)⟩
theorem PW.imp {t t' : TT} (h : PW X e t) (i : ∀ σ H Q, t' σ H Q → t σ H Q) : PW X e t' := ⟨fun wh pins s σ H Q I q => h.run wh pins s σ H Q I (i σ H Q q)⟩
theorem PA.imp {t t' : TA} (h : PA X es t) (i : ∀ σ H Q, t' σ H Q → t σ H Q) : PA X es t' := ⟨fun pos pins s σ H Q I q => h.run pos pins s σ H Q I (i σ H Q q)⟩

theorem de_var {i : Nat} {x : Str} (hN : X.N[i]? = some x) (hv : Vis X.env.scope x) (hd : (x == ("__debug__" : Str)) = false := by decide) (hcd : (x == ("__classdict__" : Str)) = false := by decide) : PE X (.Name x pos) (tE X.K M W (eV i)) := by
  refine PE.imp (pe_var hN hv hd hcd) fun σ H Q ⟨Fo, G, δ, er, h⟩ => ?_
  unfold eV at h
  cases q : δ[i]? with
  | none => rw [q] at h; exact False.elim h
  | some z =>
    rw [q] at h
    cases z with
    | val d =>
      obtain ⟨v, e1, r⟩ := er.val i d q
      exact ⟨v, e1, h G H (.refl er.gh) v r⟩
    | no => exact False.elim h
    | own ds => exact False.elim h
theorem de_const {d : D} {v : V} (h : PE X e (tC v)) (r : ∀ G, Rep X.K G d v) : PE X e (tE X.K M W (eC d)) :=
  PE.imp h fun σ H Q ⟨Fo, G, δ, er, h⟩ => h G H (.refl er.gh) v (r G)
theorem de_int {i j} : PE X (.Constant (.int i) j pos) (tE X.K M W (eC (.int i))) := de_const pe_int fun _ => rfl
theorem de_bl {x j} : PE X (.Constant (.bool x) j pos) (tE X.K M W (eC (.bl x))) := de_const pe_bl fun _ => rfl
theorem de_non {j} : PE X (.Constant .none j pos) (tE X.K M W (eC .non)) := de_const pe_non fun _ => rfl
theorem de_str {x j} : PE X (.Constant (.str x) j pos) (tE X.K M W (eC (.str x))) := de_const pe_str fun _ => rfl
theorem de_glob {x : Str} {d : D} {v : V} {u : Value} (hg : Gl X x) (hm : X.mg x = some u) (r : RelV v u) (hr : ∀ G, Rep X.K G d v) (hd : (x == ("__debug__" : Str)) = false := by decide) : PE X (.Name x pos) (tE X.K M W (eC d)) :=
  de_const (pe_glob hg hm r hd) hr

/-- an operation of two values, over data -/
def OpS (K : PySem.W.Frag) (r : R2) (h : D → D → Option D) : Prop := ∀ (tp : Addr → Prop) (G H : Hp) (d e : D) (v w : V) (Q : VK), Le G H → Rep K G d v → Rep K G e w → QX K tp G H (h d e) Q → r v w H Q
theorem op_gen {r : R2} {h : D → D → Option D} (hs : OpS X.K r h) {σ : L2.St} {H : Hp} {Q : VK} (q : tE X.K M W (e2 h f g) σ H Q) : tOp r (tE X.K M W f) (tE X.K M W g) σ H Q := by
  obtain ⟨Fo, G, δ, er, q⟩ := q
  refine ⟨Fo, G, δ, er, PX.mono (PX.bind q) fun G1 H1 x t1 q1 v rv => ?_⟩
  refine ⟨Fo, G1, δ, er.tr t1, PX.mono (PX.bind q1) fun G2 H2 y t2 q2 w rw => ?_⟩
  exact hs M.tp G2 H2 x y v w Q t2.2.1 (Rep.mono t2.1 _ _ rv) rw (PX.qx q2)
theorem de_op {op : Operator} {r : R2} {h : D → D → Option D} (ho : OpR X (binaryOp op) r) (hs : OpS X.K r h) (ha : PE X a (tE X.K M W f)) (hb : PE X b (tE X.K M W g)) : PE X (.BinOp a op b pos) (tE X.K M W (e2 h f g)) :=
  PE.imp (pe_op ho ha hb) fun _ _ _ q => op_gen hs q
theorem de_cmp {op : CmpOp} {r : R2} {h : D → D → Option D} (ho : OpR X (compareOp op) r) (hs : OpS X.K r h) (ha : PE X a (tE X.K M W f)) (hb : PE X b (tE X.K M W g)) (hm : behindInMarks op b = false := by first | exact nomark _ | rfl) : PE X (.Compare a [op] [b] pos) (tE X.K M W (e2 h f g)) :=
  PE.imp (pe_cmpR ho ha hb hm) fun _ _ _ q => op_gen hs q

/-! ### tests -/
theorem test_gen {σ : L2.St} {H : Hp} {Q : Bool → Hp → Prop} {Q' : VK} (i : ∀ b H, Q b H → Q' (.bl b) H) (q : tT X.K M W (tB1 f) σ H Q) : tE X.K M W f σ H fun v H1 => ∃ b, v = .bl b ∧ Q b H1 := by
  obtain ⟨Fo, G, δ, er, q⟩ := q
  refine ⟨Fo, G, δ, er, PX.mono (PX.bind q) fun G1 H1 x t1 q1 v rv => ?_⟩
  cases x with
  | bl y => exact ⟨y, rv, q1 G1 H1 (.refl t1.2.1)⟩
  | non => exact False.elim q1
  | int _ => exact False.elim q1
  | str _ => exact False.elim q1
  | tup _ => exact False.elim q1
  | lst _ => exact False.elim q1
theorem dt_val (h : PE X e (tE X.K M W f)) (he : ∀ whole, isTrue e X.env whole = (do let v ← whole; standAt e.pos; holding [v] (truthy v)) := by intro _; rfl) : PT X e (tT X.K M W (tB1 f)) := by
  refine PT.imp (pt_val h he) fun σ H Q q => ?_
  exact test_gen (Q' := fun v H => ∃ b, v = .bl b ∧ Q b H) (fun b H q => ⟨b, rfl, q⟩) q
theorem dt_cmp {op : CmpOp} {r : R2} {h : D → D → Option D} (ho : OpR X (compareOp op) r) (hs : OpS X.K r h) (ha : PE X a (tE X.K M W f)) (hb : PE X b (tE X.K M W g)) (hm : behindInMarks op b = false := by first | exact nomark _ | rfl) : PT X (.Compare a [op] [b] pos) (tT X.K M W (tB1 (e2 h f g))) := by
  refine PT.imp (pt_cmpR ho ha hb hm) fun σ H Q q => ?_
  have z := test_gen (X := X) (Q' := fun v H => ∃ b, v = .bl b ∧ Q b H) (fun b H q => ⟨b, rfl, q⟩) q
  exact op_gen hs z
theorem dw_and1 (h : PT X a (tT X.K M W t)) : PW X (.BoolOp .And [a] pos) (tT X.K M W t) := pw_and1 h
theorem dw_or1 (h : PT X a (tT X.K M W t)) : PW X (.BoolOp .Or [a] pos) (tT X.K M W t) := pw_or1 h
theorem dw_and (h : PT X a (tT X.K M W t)) (hb : PW X (.BoolOp .And (b :: rest) pos) (tT X.K M W u)) : PW X (.BoolOp .And (a :: b :: rest) pos) (tT X.K M W (tAnd' t u)) := by
  refine PW.imp (pw_and h hb) fun σ H Q q => ?_
  obtain ⟨Fo, G, δ, er, q⟩ := q
  refine ⟨Fo, G, δ, er, PX.mono (PX.bind q) fun G1 H1 x t1 q1 => ?_⟩
  cases x with
  | true => exact ⟨Fo, G1, δ, er.tr t1, q1⟩
  | false => exact q1 G1 H1 (.refl t1.2.1)
theorem dw_or (h : PT X a (tT X.K M W t)) (hb : PW X (.BoolOp .Or (b :: rest) pos) (tT X.K M W u)) : PW X (.BoolOp .Or (a :: b :: rest) pos) (tT X.K M W (tOr' t u)) := by
  refine PW.imp (pw_or h hb) fun σ H Q q => ?_
  obtain ⟨Fo, G, δ, er, q⟩ := q
  refine ⟨Fo, G, δ, er, PX.mono (PX.bind q) fun G1 H1 x t1 q1 => ?_⟩
  cases x with
  | true => exact q1 G1 H1 (.refl t1.2.1)
  | false => exact ⟨Fo, G1, δ, er.tr t1, q1⟩
theorem dt_w (h : PW X e (tT X.K M W t)) : PT X e (tT X.K M W t) := h.pt
theorem dt_not (h : PT X a (tT X.K M W t)) : PT X (.UnaryOp .Not a pos) (tT X.K M W (tNot' t)) := by
  refine PT.imp (pt_not h) fun σ H Q q => ?_
  obtain ⟨Fo, G, δ, er, q⟩ := q
  exact ⟨Fo, G, δ, er, PX.mono (PX.bind q) fun G1 H1 x t1 q1 => q1 G1 H1 (.refl t1.2.1)⟩

/-! ### and, or, not as values -/
theorem de_one {op} (h : PE X a (tE X.K M W f)) : PE X (.BoolOp op [a] pos) (tE X.K M W f) := pe_one h
theorem de_and (ha : PE X a (tE X.K M W f)) (hb : PE X (.BoolOp .And (b :: rest) pos) (tE X.K M W g)) : PE X (.BoolOp .And (a :: b :: rest) pos) (tE X.K M W (eAnd f g)) := by
  refine PE.imp (pe_and ha hb) fun σ H Q q => ?_
  obtain ⟨Fo, G, δ, er, q⟩ := q
  refine ⟨Fo, G, δ, er, PX.mono (PX.bind q) fun G1 H1 x t1 q1 v rv => ?_⟩
  cases x with
  | bl y =>
    refine ⟨y, rv, ?_⟩
    cases y with
    | true => exact ⟨Fo, G1, δ, er.tr t1, q1⟩
    | false => exact q1 G1 H1 (.refl t1.2.1) _ rfl
  | non => exact False.elim q1
  | int _ => exact False.elim q1
  | str _ => exact False.elim q1
  | tup _ => exact False.elim q1
  | lst _ => exact False.elim q1
theorem de_or (ha : PE X a (tE X.K M W f)) (hb : PE X (.BoolOp .Or (b :: rest) pos) (tE X.K M W g)) : PE X (.BoolOp .Or (a :: b :: rest) pos) (tE X.K M W (eOr f g)) := by
  refine PE.imp (pe_or ha hb) fun σ H Q q => ?_
  obtain ⟨Fo, G, δ, er, q⟩ := q
  refine ⟨Fo, G, δ, er, PX.mono (PX.bind q) fun G1 H1 x t1 q1 v rv => ?_⟩
  cases x with
  | bl y =>
    refine ⟨y, rv, ?_⟩
    cases y with
    | true => exact q1 G1 H1 (.refl t1.2.1) _ rfl
    | false => exact ⟨Fo, G1, δ, er.tr t1, q1⟩
  | non => exact False.elim q1
  | int _ => exact False.elim q1
  | str _ => exact False.elim q1
  | tup _ => exact False.elim q1
  | lst _ => exact False.elim q1
theorem de_not (ha : PE X a (tE X.K M W f)) : PE X (.UnaryOp .Not a pos) (tE X.K M W (eNot f)) := by
  refine PE.imp (pe_not ha) fun σ H Q q => ?_
  obtain ⟨Fo, G, δ, er, q⟩ := q
  refine ⟨Fo, G, δ, er, PX.mono (PX.bind q) fun G1 H1 x t1 q1 v rv => ?_⟩
  cases x with
  | bl y => exact ⟨y, rv, q1 G1 H1 (.refl t1.2.1) _ rfl⟩
  | non => exact False.elim q1
  | int _ => exact False.elim q1
  | str _ => exact False.elim q1
  | tup _ => exact False.elim q1
  | lst _ => exact False.elim q1
theorem de_if (hc : PT X c (tT X.K M W t)) (ha : PE X a (tE X.K M W f)) (hb : PE X b (tE X.K M W g)) : PE X (.IfExp c a b pos) (tE X.K M W (eIf t f g)) := by
  refine PE.imp (pe_ifExp hc ha hb) fun σ H Q q => ?_
  obtain ⟨Fo, G, δ, er, q⟩ := q
  refine ⟨Fo, G, δ, er, PX.mono (PX.bind q) fun G1 H1 x t1 q1 => ?_⟩
  cases x with
  | true => exact ⟨Fo, G1, δ, er.tr t1, q1⟩
  | false => exact ⟨Fo, G1, δ, er.tr t1, q1⟩

/-! ### arguments, displays, calls -/
theorem da_nil : PA X [] (tA X.K M W aNil) := PA.imp pa_nil fun σ H Q ⟨Fo, G, δ, er, q⟩ => q G H (.refl er.gh) _ rfl
theorem da_cons (ha : PE X e (tE X.K M W f)) (hr : PA X es (tA X.K M W fs)) (hs : starEach (e :: es) X.env = (false, eval e X.env) :: starEach es X.env := by rfl) : PA X (e :: es) (tA X.K M W (aCons f fs)) := by
  refine PA.imp (pa_cons ha hr hs) fun σ H Q q => ?_
  obtain ⟨Fo, G, δ, er, q⟩ := q
  refine ⟨Fo, G, δ, er, PX.mono (PX.bind q) fun G1 H1 x t1 q1 v rv => ?_⟩
  refine ⟨Fo, G1, δ, er.tr t1, PX.mono (PX.bind q1) fun G2 H2 xs t2 q2 vs rvs => ?_⟩
  exact q2 G2 H2 (.refl t2.2.1) _ ⟨v, vs, rfl, Rep.mono t2.1 _ _ rv, rvs⟩
theorem de_tup {x1} (h : PA X es (tA X.K M W fs)) : PE X (.Tuple es x1 pos) (tE X.K M W (eTup fs)) := by
  refine PE.imp (pe_tup h) fun σ H Q q => ?_
  obtain ⟨Fo, G, δ, er, q⟩ := q
  refine ⟨Fo, G, δ, er, PX.mono (PX.bind q) fun G1 H1 xs t1 q1 vs rvs => ?_⟩
  have q2 := PX.qx q1
  by_cases z : xs.length ≤ sizeLine
  · rw [if_pos z] at q2
    exact ⟨by rw [rvs.length]; exact z, fun p n => q2.newTup t1.2.1 rvs n⟩
  · rw [if_neg z] at q2; exact False.elim q2
theorem de_lst (h : PA X es (tA X.K M W fs)) : PE X (.List es pos) (tE X.K M W (eLst fs)) := by
  refine PE.imp (pe_lst h) fun σ H Q q => ?_
  obtain ⟨Fo, G, δ, er, q⟩ := q
  refine ⟨Fo, G, δ, er, PX.mono (PX.bind q) fun G1 H1 xs t1 q1 vs rvs => ?_⟩
  have q2 := PX.qx q1
  by_cases z : xs.length ≤ sizeLine
  · rw [if_pos z] at q2
    exact ⟨by rw [rvs.length]; exact z, fun p n => q2.newLst t1.2.1 rvs n⟩
  · rw [if_neg z] at q2; exact False.elim q2
/-- a def's promise by a function over data -/
def spD (K : PySem.W.Frag) (M : Mo) (n : Nat) (m : List D → R D) : Sp := fun vs H Q E => ∃ G ds, Le G H ∧ (∀ a, M.tp a → GxR.TabG H a ∧ G a = none) ∧ Reps K G ds vs ∧ ds.length = n ∧ match m ds with
  | .ok d => ∀ G' H', Tr M.tp G H G' H' → ∀ v, Rep K G' d v → Q v H'
  | .exc c => ∀ G' H', Tr M.tp G H G' H' → E (M.ec c) none H'
  | .bad => False
theorem de_call {k : Nat} {F : Addr} {fd : FuncData} {ps : List Str} {n : Nat} {m : List D → R D} {x : Str} {p : Pos} (Fn : FnOk X.prog X.w X.K X.mg X.base (L2.CX X.prog X.w) k F fd ps (spD X.K M n m)) (hr : Room k X.A) (hg : Gl X x) (hm : X.mg x = some (.ref F)) (hk : PySem.W.keepIn X.K (.ref F) = true) (hb : Binds X.K fd ps []) (tk : Takes X W)
    (ha : PA X (e :: es) (tA X.K M W fs)) (hl : (e :: es).length = n := by rfl) (hdb : (x == ("__debug__" : Str)) = false := by decide) (he : starEach (e :: es) X.env = (false, eval e X.env) :: starEach es X.env := by rfl) (hpl : (backTo pos (starEach es X.env)).any (·.1) = false := by rfl)
    (hn : ∀ δ ds, fs δ = .ok ds → ds.length = n) :
    PE X (.Call (.Name x p) (e :: es) [] pos) (tE X.K M W (eCall m fs)) := by
  refine PE.imp (pe_callS Fn hr hg hm hk hb (fun σ => passAt tk σ) ha hdb he hpl) fun σ H Q q => ?_
  obtain ⟨Fo, G, δ, er, q⟩ := q
  cases z : fs δ with
  | bad => unfold eCall at q; rw [z] at q; exact False.elim q
  | exc c => exact ⟨Fo, G, δ, er, by unfold eCall at q; rw [z] at q ⊢; exact q⟩
  | ok ds0 =>
    refine ⟨Fo, G, δ, er, PX.mono (k := fun G1 H1 xs => xs = ds0 ∧ PX M W σ G1 H1 (m xs) fun G' H' d => ∀ v, Rep X.K G' d v → Q v H') ?_ fun G1 H1 xs t1 ⟨ex, q1⟩ vs rvs => ?_⟩
    · rw [z]
      have q' := PX.bind q
      rw [z] at q'
      intro G1 H1 t1
      exact ⟨rfl, q' G1 H1 t1⟩
    · subst ex
      refine ⟨G1, xs, t1.2.1, (er.tr t1).tb, rvs, hn δ xs z, ?_⟩
      cases e : m xs with
      | ok d => rw [e] at q1; exact q1
      | exc c => rw [e] at q1; exact q1
      | bad => rw [e] at q1; exact q1
theorem hn_nil : ∀ δ ds, aNil δ = .ok ds → ds.length = 0 := fun δ ds h => by cases h; rfl
theorem hn_cons {n : Nat} (h : ∀ δ ds, fs δ = .ok ds → ds.length = n) : ∀ δ ds, aCons f fs δ = .ok ds → ds.length = n + 1 := fun δ ds q => by
  unfold aCons at q
  cases e : f δ with
  | ok x =>
    rw [e] at q
    cases e' : fs δ with
    | ok xs =>
      have q' : R.ok (x :: xs) = R.ok ds := by simpa [e', R.bind_ok] using q
      cases q'
      rw [List.length_cons, h δ xs e']
    | exc c => rw [e', R.bind_ok, R.bind_exc] at q; cases q
    | bad => rw [e', R.bind_ok, R.bind_bad] at q; cases q
  | exc c => rw [e, R.bind_exc] at q; cases q
  | bad => rw [e, R.bind_bad] at q; cases q

/-- a call of a built-in by values, over data -/
def CallS (K : PySem.W.Frag) (r : List V → Hp → VK → Prop) (m : List D → Option D) : Prop := ∀ (tp : Addr → Prop) (G H : Hp) (ds : List D) (vs : List V) (Q : VK), Le G H → Reps K G ds vs → QX K tp G H (m ds) Q → r vs H Q
theorem callB_gen {r : List V → Hp → VK → Prop} {m : List D → Option D} (hs : CallS X.K r m) {σ : L2.St} {H : Hp} {Q : VK} (q : tE X.K M W (eB m fs) σ H Q) : tCB r (tA X.K M W fs) σ H Q := by
  obtain ⟨Fo, G, δ, er, q⟩ := q
  exact ⟨Fo, G, δ, er, PX.mono (PX.bind q) fun G1 H1 xs t1 q1 vs rvs => hs M.tp G1 H1 xs vs Q t1.2.1 rvs (PX.qx q1)⟩
theorem de_callB {id : String} {x : Str} {p : Pos} {r : List V → Hp → VK → Prop} {m : List D → Option D} (hc : CallR X (.builtin id) r) (hs : CallS X.K r m) (hg : Gl X x) (hm : X.mg x = none) (hv : bootBuiltins x = some (.builtin id)) (ha : PA X (e :: es) (tA X.K M W fs)) (hn : x ≠ "__name__" := by decide) (hdb : (x == ("__debug__" : Str)) = false := by decide)
    (he : starEach (e :: es) X.env = (false, eval e X.env) :: starEach es X.env := by rfl) (hpl : (backTo pos (starEach es X.env)).any (·.1) = false := by rfl) : PE X (.Call (.Name x p) (e :: es) [] pos) (tE X.K M W (eB m fs)) :=
  PE.imp (pe_callB hc hg hm hv ha hn hdb he hpl) fun _ _ _ q => callB_gen hs q
theorem de_callTy {T : String} {x : Str} {p : Pos} {r : List V → Hp → VK → Prop} {m : List D → Option D} (hc : CallR X (.type T) r) (hs : CallS X.K r m) (hg : Gl X x) (hm : X.mg x = none) (hv : bootBuiltins x = some (.type T)) (ha : PA X (e :: es) (tA X.K M W fs)) (hn : x ≠ "__name__" := by decide) (hdb : (x == ("__debug__" : Str)) = false := by decide)
    (he : starEach (e :: es) X.env = (false, eval e X.env) :: starEach es X.env := by rfl) (hpl : (backTo pos (starEach es X.env)).any (·.1) = false := by rfl) : PE X (.Call (.Name x p) (e :: es) [] pos) (tE X.K M W (eB m fs)) :=
  PE.imp (pe_callTy hc hg hm hv ha hn hdb he hpl) fun _ _ _ q => callB_gen hs q
end
end Dl

set_option Elab.async false
set_option linter.all false
set_option maxRecDepth 100000
set_option maxHeartbeats 2000000
/-! Operations over data. -/
namespace Dl
open PySem PySem.Spec PyProof.Rows L2

mutual
def D.py : D → PyData
  | .non => .none
  | .bl b => .bool b
  | .int i => .int i
  | .str x => .str x
  | .tup xs => .tuple (D.pys xs)
  | .lst xs => .list (D.pys xs)
def D.pys : List D → List PyData
  | [] => []
  | x :: xs => D.py x :: D.pys xs
end
theorem D.pys_eq : ∀ xs : List D, D.pys xs = xs.map D.py
  | [] => rfl
  | x :: xs => by rw [D.pys, D.pys_eq xs, List.map_cons]
section
variable {K : PySem.W.Frag} {H : Hp}
mutual
theorem Rep.dp : ∀ (d : D) (v : V), Rep K H d v → Dp K H v d.py
  | .non, _, h => by cases h; exact .non
  | .bl b, _, h => by cases h; exact .bl b
  | .int i, _, h => by cases h; exact .int i
  | .str x, _, h => by cases h; exact .str x
  | .tup ds, _, ⟨a, vs, e, s, r⟩ => by subst e; exact .tup s (Reps.dp ds vs r)
  | .lst ds, _, ⟨a, vs, e, s, r⟩ => by subst e; exact .lst s (Reps.dp ds vs r)
theorem Reps.dp : ∀ (ds : List D) (vs : List V), Reps K H ds vs → DpAll K H vs (D.pys ds)
  | [], _, h => by cases h; exact .nil
  | d :: ds, _, ⟨v, r, e, h1, h2⟩ => by subst e; exact .cons (Rep.dp d v h1) (Reps.dp ds r h2)
end
end
/-- == of data without truth values beside ints -/
def sh (d : D) : Bool := SeqAt.shaped d.py
def eqv (d e : D) : Bool := PyData.eqv d.py e.py
def isRefD : D → Bool
  | .tup _ => true
  | .lst _ => true
  | _ => false
def eqD (d e : D) : Option D := if sh d && sh e then some (.bl (eqv d e)) else none
def neD (d e : D) : Option D := if sh d && sh e then some (.bl (!eqv d e)) else none
section
variable {X : Cx}
theorem os_eq : OpS X.K (rEqD X.K) eqD := fun tp G H d e v w Q l rv rw q => by
  unfold eqD at q
  by_cases z : (sh d && sh e) = true
  · rw [if_pos z] at q
    rw [Bool.and_eq_true] at z
    exact ⟨d.py, e.py, Rep.dp d v (Rep.mono l _ _ rv), Rep.dp e w (Rep.mono l _ _ rw), z.1, z.2, q.at l rfl⟩
  · rw [if_neg z] at q; exact False.elim q
theorem os_ne : OpS X.K (rNeD X.K) neD := fun tp G H d e v w Q l rv rw q => by
  unfold neD at q
  by_cases z : (sh d && sh e) = true
  · rw [if_pos z] at q
    rw [Bool.and_eq_true] at z
    exact ⟨d.py, e.py, Rep.dp d v (Rep.mono l _ _ rv), Rep.dp e w (Rep.mono l _ _ rw), z.1, z.2, q.at l rfl⟩
  · rw [if_neg z] at q; exact False.elim q

/-! ### + - * // % ** -/
/-- list + list, any lists that are read -/
def rCatL (K : PySem.W.Frag) : R2 := fun x y H Q => ∃ l b xs zs, x = .ref l ∧ y = .ref b ∧ SqL K H l xs ∧ SqL K H b zs ∧ xs.length + zs.length ≤ sizeLine ∧ ∀ p, H p = none → Q (.ref p) (upd H p (.lst (xs ++ zs)))
theorem op_catL : OpR X (binaryOp .Add) (rCatL X.K) := by
  intro pins s σ H x y v u Q I rx ry h
  obtain ⟨l, b, xs, zs, rfl, rfl, hH, hB, hz, q⟩ := h
  cases rx
  cases ry
  obtain ⟨its, r, p1, _⟩ := I.list hH
  obtain ⟨its2, r2, p2, _⟩ := I.list hB
  obtain ⟨⟨cls, dd, data, sl⟩, ho, hc, n, hd⟩ := id p1.isList
  obtain ⟨⟨cls2, dd2, data2, sl2⟩, ho2, hc2, n2, hd2⟩ := id p2.isList
  simp only at hc hd hc2 hd2
  subst hc hd hc2 hd2
  have e : its.toArray ++ its2.toArray = (its ++ its2).toArray := by simp
  refine concat_meets ⟨_, ho, rfl⟩ ⟨_, ho2, rfl⟩ noFill_list_add seq_list_add PySem.F.slot_list_add PySem.F.entry_list_add (PySem.F.args_list_add_2 _ _)
    (list_addW l b its.toArray its2.toArray n n2 dd dd2 sl sl2 (by rw [List.size_toArray, List.size_toArray, ← r.length, ← r2.length]; exact hz)) ⟨ho, ho2, ?_⟩
  rw [e]
  exact ⟨.ref _, _, I.lnew (t' := s.toks) (r.append r2) (by rw [List.length_append]; exact hz), rfl, q _ I.fresh⟩
def addD : D → D → Option D
  | .int i, .int j => some (.int (i + j))
  | .str a, .str b => if a.length + b.length ≤ sizeLine then some (.str (a ++ b)) else none
  | .lst a, .lst b => if a.length + b.length ≤ sizeLine then some (.lst (a ++ b)) else none
  | .tup a, .tup b => if a.length + b.length ≤ sizeLine then some (.tup (a ++ b)) else none
  | _, _ => none
def rAdd (K : PySem.W.Frag) : R2 := fun x y H Q => rI0 (fun i j => .int (i + j)) x y H Q ∨ (∃ i j, x = .str i ∧ y = .str j ∧ i.length + j.length ≤ sizeLine ∧ Q (.str (i ++ j)) H) ∨ rCatL K x y H Q ∨ rCatA K x y H Q
theorem op_addD : OpR X (binaryOp .Add) (rAdd X.K) := op_add.or (op_add_str.or (op_catL.or op_catA))
theorem os_add : OpS X.K (rAdd X.K) addD := fun tp G H d e v w Q l rv rw q => by
  cases d with
  | int i =>
    cases e with
    | int j => exact .inl ⟨i, j, rv, rw, q.at l rfl⟩
    | _ => exact False.elim q
  | str a =>
    cases e with
    | str b =>
      replace q : QX X.K tp G H (if a.length + b.length ≤ sizeLine then some (.str (a ++ b)) else none) Q := q
      split at q
      · rename_i z
        exact .inr (.inl ⟨a, b, rv, rw, z, q.at l rfl⟩)
      · exact False.elim q
    | _ => exact False.elim q
  | lst a =>
    cases e with
    | lst b =>
      replace q : QX X.K tp G H (if a.length + b.length ≤ sizeLine then some (.lst (a ++ b)) else none) Q := q
      split at q
      · rename_i z
        obtain ⟨p, vs, ev, sv, rvs⟩ := rv
        obtain ⟨p', ws, ew, sw, rws⟩ := rw
        exact .inr (.inr (.inl ⟨p, p', vs, ws, ev, ew, l.sqL sv, l.sqL sw, by rw [rvs.length, rws.length]; exact z, fun t n => q.newLst l (rvs.append rws) n⟩))
      · exact False.elim q
    | _ => exact False.elim q
  | tup a =>
    cases e with
    | tup b =>
      replace q : QX X.K tp G H (if a.length + b.length ≤ sizeLine then some (.tup (a ++ b)) else none) Q := q
      split at q
      · rename_i z
        obtain ⟨p, vs, ev, sv, rvs⟩ := rv
        obtain ⟨p', ws, ew, sw, rws⟩ := rw
        refine .inr (.inr (.inr ⟨p, p', vs, ws, ev, ew, l.sqT sv, l.sqT sw, by rw [rvs.length, rws.length]; exact z, fun e1 => ?_, fun _ e2 => ?_, fun _ _ t n => q.newTup l (rvs.append rws) n⟩))
        · subst e1
          have : a = [] := List.eq_nil_of_length_eq_zero rvs.length.symm
          subst this
          exact q.at l ⟨p', ws, rfl, sw, rws⟩
        · subst e2
          have : b = [] := List.eq_nil_of_length_eq_zero rws.length.symm
          subst this
          rw [List.append_nil] at q
          exact q.at l ⟨p, vs, rfl, sv, rvs⟩
      · exact False.elim q
    | _ => exact False.elim q
  | _ => exact False.elim q
def iOp (C : Int → Int → Bool) (g : Int → Int → D) : D → D → Option D
  | .int i, .int j => if C i j then some (g i j) else none
  | _, _ => none
/-- the number has at most k digits in base 2; stuck where it is not written -/
def lg (i : Int) (k : Nat) : Bool := decide (i.natAbs.log2 < k)
theorem lg_nat {i : Int} {k : Nat} : lg i k = true → 0 < k → i.natAbs < 2 ^ k := fun h hk => by
  unfold lg at h
  rw [decide_eq_true_eq] at h
  by_cases z : i.natAbs = 0
  · rw [z]; exact Nat.two_pow_pos k
  · exact (Nat.log2_lt z).mp h
theorem lg_of {i : Int} {k : Nat} (h : i.natAbs < 2 ^ k) (hk : 0 < k) : lg i k = true := by
  unfold lg
  rw [decide_eq_true_eq]
  by_cases z : i.natAbs = 0
  · rw [z, Nat.log2_zero]; exact hk
  · exact (Nat.log2_lt z).mpr h
theorem lg_lt {i : Int} {k : Nat} (h : lg i k = true) (hk : 0 < k) : -(2 ^ k) < i ∧ i < 2 ^ k := by
  have h' := lg_nat h hk
  have e : ((2 ^ k : Nat) : Int) = (2 : Int) ^ k := by simp
  generalize (2 : Int) ^ k = z at e ⊢
  omega
def subD : D → D → Option D := iOp (fun _ _ => true) fun i j => .int (i - j)
def mulD : D → D → Option D := iOp (fun i j => lg i 64 || lg j 64) fun i j => .int (i * j)
def fdivD : D → D → Option D := iOp (fun _ j => decide (0 < j) && lg j 30) fun i j => .int (i / j)
def modD : D → D → Option D := iOp (fun _ j => decide (0 < j)) fun i j => .int (i % j)
def powD : D → D → Option D := iOp (fun i j => decide (0 ≤ j) && lg j 19 && lg i 64) fun i j => .int (i ^ j.toNat)
def ltD : D → D → Option D := iOp (fun _ _ => true) fun i j => .bl (decide (i < j))
def leD : D → D → Option D := iOp (fun _ _ => true) fun i j => .bl (decide (i ≤ j))
def gtD : D → D → Option D := iOp (fun _ _ => true) fun i j => .bl (decide (j < i))
def geD : D → D → Option D := iOp (fun _ _ => true) fun i j => .bl (decide (j ≤ i))
theorem iOp_r {C : Int → Int → Bool} {g : Int → Int → D} {tp : Addr → Prop} {G H : Hp} {d e : D} {v w : V} {Q : VK} {P : Int → Int → V → Prop} (l : Le G H) (rv : Rep X.K G d v) (rw : Rep X.K G e w) (q : QX X.K tp G H (iOp C g d e) Q) :
    ∃ i j, v = .int i ∧ w = .int j ∧ C i j = true ∧ ∀ u, Rep X.K G (g i j) u → Q u H := by
  cases d with
  | int i =>
    cases e with
    | int j =>
      replace q : QX X.K tp G H (if C i j = true then some (g i j) else none) Q := q
      by_cases z : C i j = true
      · rw [if_pos z] at q
        exact ⟨i, j, rv, rw, z, fun u r => q.at l r⟩
      · rw [if_neg z] at q; exact False.elim q
    | _ => exact False.elim q
  | _ => exact False.elim q
theorem os_int0 {g : Int → Int → V} {h : Int → Int → D} (hg : ∀ G i j, Rep X.K G (h i j) (g i j)) : OpS X.K (rI0 g) (iOp (fun _ _ => true) h) := fun tp G H d e v w Q l rv rw q => by
  obtain ⟨i, j, e1, e2, _, k⟩ := iOp_r (P := fun _ _ _ => True) l rv rw q
  exact ⟨i, j, e1, e2, k _ (hg G i j)⟩
theorem os_int {C : Int → Int → Prop} {C' : Int → Int → Bool} {g : Int → Int → V} {h : Int → Int → D} (hc : ∀ i j, C' i j = true → C i j) (hg : ∀ G i j, Rep X.K G (h i j) (g i j)) : OpS X.K (rI C g) (iOp C' h) := fun tp G H d e v w Q l rv rw q => by
  obtain ⟨i, j, e1, e2, c, k⟩ := iOp_r (P := fun _ _ _ => True) l rv rw q
  exact ⟨i, j, e1, e2, hc i j c, k _ (hg G i j)⟩
theorem os_sub : OpS X.K (rI0 fun i j => .int (i - j)) subD := os_int0 fun _ _ _ => rfl
theorem os_mul : OpS X.K (rI CMul fun i j => .int (i * j)) mulD := os_int (fun _ _ h => by rw [Bool.or_eq_true] at h; exact h.imp (fun h => lg_lt h (by decide)) (fun h => lg_lt h (by decide))) fun _ _ _ => rfl
theorem os_fdiv : OpS X.K (rI CDiv fun i j => .int (i / j)) fdivD := os_int (fun _ _ h => by rw [Bool.and_eq_true, decide_eq_true_eq] at h; have := (lg_lt h.2 (by decide)).2; exact ⟨h.1, this⟩) fun _ _ _ => rfl
theorem os_mod : OpS X.K (rI (fun _ j => 0 < j) fun i j => .int (i % j)) modD := os_int (fun _ _ h => of_decide_eq_true h) fun _ _ _ => rfl
theorem os_pow : OpS X.K (rI CPow fun i j => .int (i ^ j.toNat)) powD := os_int (fun _ _ h => by simp only [Bool.and_eq_true, decide_eq_true_eq] at h; have h2 := (lg_lt h.1.2 (by decide)).2; have h3 := lg_nat h.2 (by decide); exact ⟨h.1.1, by omega, h3⟩) fun _ _ _ => rfl
theorem os_lt : OpS X.K (rI0 fun i j => .bl (decide (i < j))) ltD := os_int0 fun _ _ _ => rfl
theorem os_le : OpS X.K (rI0 fun i j => .bl (decide (i ≤ j))) leD := os_int0 fun _ _ _ => rfl
theorem os_gt : OpS X.K (rI0 fun i j => .bl (decide (j < i))) gtD := os_int0 fun _ _ _ => rfl
theorem os_ge : OpS X.K (rI0 fun i j => .bl (decide (j ≤ i))) geD := os_int0 fun _ _ _ => rfl

/-! ### is None -/
def isND (d e : D) : Option D := if e = .non then some (.bl (decide (d = .non))) else none
def notND (d e : D) : Option D := if e = .non then some (.bl (!decide (d = .non))) else none
theorem rep_non {K : PySem.W.Frag} {G : Hp} {d : D} {v : V} (r : Rep K G d v) : decide (v = .non) = decide (d = .non) := by
  cases d with
  | non => cases r; simp
  | bl _ => cases r; simp
  | int _ => cases r; simp
  | str _ => cases r; simp
  | tup _ => obtain ⟨a, vs, e, _⟩ := r; subst e; simp
  | lst _ => obtain ⟨a, vs, e, _⟩ := r; subst e; simp
theorem os_isN : OpS X.K (fun x y H Q => y = .non ∧ Q (.bl (decide (x = .non))) H) isND := fun tp G H d e v w Q l rv rw q => by
  unfold isND at q
  split at q
  · rename_i z
    subst z
    exact ⟨rw, by rw [rep_non rv]; exact q.at l rfl⟩
  · exact False.elim q
theorem os_notN : OpS X.K (fun x y H Q => y = .non ∧ Q (.bl (!decide (x = .non))) H) notND := fun tp G H d e v w Q l rv rw q => by
  unfold notND at q
  split at q
  · rename_i z
    subst z
    exact ⟨rw, by rw [rep_non rv]; exact q.at l rfl⟩
  · exact False.elim q

/-! ### in -/
def inS (x y : Str) : Bool := match x.cps.toList with
  | [c] => decide (c ∈ y.cps.toList)
  | _ => !(Builtin.Str.occurrences y x 0 y.length 1).isEmpty
def inD : D → D → Option D
  | .str x, .str y => some (.bl (inS x y))
  | x, .lst ys => if sh x && sh (.lst ys) then some (.bl (ys.any fun z => eqv z x)) else none
  | x, .tup ys => if sh x && sh (.tup ys) then some (.bl (ys.any fun z => eqv z x)) else none
  | _, _ => none
def ninD (x y : D) : Option D := match inD x y with
  | some (.bl b) => some (.bl !b)
  | _ => none
def rInT (K : PySem.W.Frag) : R2 := fun x y H Q => ∃ d ds, Dp K H x d ∧ Dp K H y (.tuple ds) ∧ SeqAt.shaped d = true ∧ SeqAt.shaped (.tuple ds) = true ∧ Q (.bl (ds.any fun z => PyData.eqv z d)) H
def rNotInT (K : PySem.W.Frag) : R2 := fun x y H Q => ∃ d ds, Dp K H x d ∧ Dp K H y (.tuple ds) ∧ SeqAt.shaped d = true ∧ SeqAt.shaped (.tuple ds) = true ∧ Q (.bl (!ds.any fun z => PyData.eqv z d)) H
theorem room_in_shapedT {A : Around} {d : PyData} {ds : List PyData} (h : SeqAt.shaped d = true) (hu : A.units + 65 < cLine) : A.units + 1 + min (PyData.depthAll ds) d.depth < cLine := by
  have h1 := SeqAt.depth_of_shaped h
  have h2 : min (PyData.depthAll ds) d.depth ≤ d.depth := Nat.min_le_right _ _
  omega
theorem op_inT (hu : X.A.units + 65 < cLine) : OpR X (compareOp .In) (rInT X.K) := by
  intro pins s σ H x y v u Q I rx ry h
  obtain ⟨d, ds, hd, he, sd, se, q⟩ := h
  obtain ⟨as, r1⟩ := Dp.reads I d x v hd rx
  obtain ⟨bs, r2⟩ := Dp.reads I (.tuple ds) y u he ry
  exact SeqAt.in_tuple_reads r2 r1 (SeqAt.canLay_of_shaped se) (SeqAt.canLay_of_shaped sd) (room_in_shapedT sd hu) ⟨.bl _, H, I, rfl, q⟩
theorem op_notInT (hu : X.A.units + 65 < cLine) : OpR X (compareOp .NotIn) (rNotInT X.K) := by
  intro pins s σ H x y v u Q I rx ry h
  obtain ⟨d, ds, hd, he, sd, se, q⟩ := h
  obtain ⟨as, r1⟩ := Dp.reads I d x v hd rx
  obtain ⟨bs, r2⟩ := Dp.reads I (.tuple ds) y u he ry
  exact SeqAt.notIn_tuple_reads r2 r1 (SeqAt.canLay_of_shaped se) (SeqAt.canLay_of_shaped sd) (room_in_shapedT sd hu) ⟨.bl _, H, I, rfl, q⟩
def rInSg : R2 := fun x y H Q => ∃ (c : Nat) (z : Str), x = .str ⟨#[c]⟩ ∧ y = .str z ∧ Q (.bl (decide (c ∈ z.cps.toList))) H
def rInSs : R2 := fun x y H Q => ∃ i j, x = .str i ∧ y = .str j ∧ Q (.bl (!(Builtin.Str.occurrences j i 0 j.length 1).isEmpty)) H
def rNinSg : R2 := fun x y H Q => ∃ (c : Nat) (z : Str), x = .str ⟨#[c]⟩ ∧ y = .str z ∧ Q (.bl (!decide (c ∈ z.cps.toList))) H
def rNinSs : R2 := fun x y H Q => ∃ i j, x = .str i ∧ y = .str j ∧ Q (.bl (!(!(Builtin.Str.occurrences j i 0 j.length 1).isEmpty))) H
def rInAll (K : PySem.W.Frag) : R2 := fun x y H Q => rInSg x y H Q ∨ rInSs x y H Q ∨ rInD K x y H Q ∨ rInT K x y H Q
def rNinAll (K : PySem.W.Frag) : R2 := fun x y H Q => rNinSg x y H Q ∨ rNinSs x y H Q ∨ rNotInD K x y H Q ∨ rNotInT K x y H Q
theorem op_inAll (hu : X.A.units + 65 < cLine) : OpR X (compareOp .In) (rInAll X.K) := OpR.or (r := rInSg) op_in_sign (OpR.or (r := rInSs) op_in_str ((op_inD hu).or (op_inT hu)))
theorem op_ninAll (hu : X.A.units + 65 < cLine) : OpR X (compareOp .NotIn) (rNinAll X.K) := OpR.or (r := rNinSg) op_notIn_sign (OpR.or (r := rNinSs) op_notIn_str ((op_notInD hu).or (op_notInT hu)))
theorem str_one {x : Str} {c : Nat} (e : x.cps.toList = [c]) : x = ⟨#[c]⟩ := by
  obtain ⟨⟨l⟩⟩ := x
  simp only at e
  subst e
  rfl
theorem any_py (ys : List D) (x : D) : ((D.pys ys).any fun z => PyData.eqv z x.py) = ys.any fun z => eqv z x := by
  rw [D.pys_eq, List.any_map]
  rfl
theorem inD_seq {x : D} {ys : List D} {z : D} : (inD x (.lst ys) = some z → sh x = true ∧ sh (.lst ys) = true ∧ z = .bl (ys.any fun z => eqv z x)) ∧ (inD x (.tup ys) = some z → sh x = true ∧ sh (.tup ys) = true ∧ z = .bl (ys.any fun z => eqv z x)) := by
  constructor
  · intro h
    have h' : (if (sh x && sh (.lst ys)) = true then some (D.bl (ys.any fun z => eqv z x)) else none) = some z := by
      cases x <;> exact h
    split at h'
    · rename_i c
      rw [Bool.and_eq_true] at c
      cases h'
      exact ⟨c.1, c.2, rfl⟩
    · cases h'
  · intro h
    have h' : (if (sh x && sh (.tup ys)) = true then some (D.bl (ys.any fun z => eqv z x)) else none) = some z := by
      cases x <;> exact h
    split at h'
    · rename_i c
      rw [Bool.and_eq_true] at c
      cases h'
      exact ⟨c.1, c.2, rfl⟩
    · cases h'
theorem QX.some_of {K : PySem.W.Frag} {tp : Addr → Prop} {G H : Hp} {r : Option D} {Q : VK} (q : QX K tp G H r Q) : ∃ z, r = some z := by
  cases r with
  | none => exact False.elim q
  | some z => exact ⟨z, rfl⟩
theorem os_in : OpS X.K (rInAll X.K) inD := fun tp G H d e v w Q l rv rw q => by
  obtain ⟨z, ez⟩ := q.some_of
  rw [ez] at q
  cases e with
  | str y =>
    cases d with
    | str x =>
      cases ez
      have e1 : v = .str x := rv
      have e2 : w = .str y := rw
      have q' := q.at l (show Rep X.K G (.bl (inS x y)) (.bl (inS x y)) from rfl)
      unfold inS at q'
      split at q'
      · rename_i c hc
        exact .inl ⟨c, y, by rw [e1, str_one hc], e2, q'⟩
      · exact .inr (.inl ⟨x, y, e1, e2, q'⟩)
    | _ => cases ez
  | lst ys =>
    obtain ⟨s1, s2, rfl⟩ := inD_seq.1 ez
    exact .inr (.inr (.inl ⟨d.py, D.pys ys, Rep.dp d v (Rep.mono l _ _ rv), Rep.dp (.lst ys) w (Rep.mono l _ _ rw), s1, s2, by rw [any_py]; exact q.at l rfl⟩))
  | tup ys =>
    obtain ⟨s1, s2, rfl⟩ := inD_seq.2 ez
    exact .inr (.inr (.inr ⟨d.py, D.pys ys, Rep.dp d v (Rep.mono l _ _ rv), Rep.dp (.tup ys) w (Rep.mono l _ _ rw), s1, s2, by rw [any_py]; exact q.at l rfl⟩))
  | non => cases d <;> cases ez
  | bl _ => cases d <;> cases ez
  | int _ => cases d <;> cases ez
theorem os_nin : OpS X.K (rNinAll X.K) ninD := fun tp G H d e v w Q l rv rw q => by
  unfold ninD at q
  split at q
  · rename_i b ez
    cases e with
    | str y =>
      cases d with
      | str x =>
        cases ez
        have e1 : v = .str x := rv
        have e2 : w = .str y := rw
        have q' := q.at l (show Rep X.K G (.bl (!inS x y)) (.bl (!inS x y)) from rfl)
        unfold inS at q'
        split at q'
        · rename_i c hc
          exact .inl ⟨c, y, by rw [e1, str_one hc], e2, q'⟩
        · exact .inr (.inl ⟨x, y, e1, e2, q'⟩)
      | _ => cases ez
    | lst ys =>
      obtain ⟨s1, s2, hb⟩ := inD_seq.1 ez
      cases hb
      exact .inr (.inr (.inl ⟨d.py, D.pys ys, Rep.dp d v (Rep.mono l _ _ rv), Rep.dp (.lst ys) w (Rep.mono l _ _ rw), s1, s2, by rw [any_py]; exact q.at l rfl⟩))
    | tup ys =>
      obtain ⟨s1, s2, hb⟩ := inD_seq.2 ez
      cases hb
      exact .inr (.inr (.inr ⟨d.py, D.pys ys, Rep.dp d v (Rep.mono l _ _ rv), Rep.dp (.tup ys) w (Rep.mono l _ _ rw), s1, s2, by rw [any_py]; exact q.at l rfl⟩))
    | non => cases d <;> cases ez
    | bl _ => cases d <;> cases ez
    | int _ => cases d <;> cases ez
  · exact False.elim q

/-! ### x[i], x[lo:hi] -/
def ixD : D → D → Option D
  | .lst xs, .int i => atI xs i
  | .tup xs, .int i => atI xs i
  | .str z, .int i => if z.length ≤ sizeLine then (atI z.cps.toList i).map fun c => .str ⟨#[c]⟩ else none
  | _, _ => none
theorem Reps.atI {K : PySem.W.Frag} {G : Hp} {ds : List D} {vs : List V} {i : Int} {d : D} (r : Reps K G ds vs) (h : L2.atI ds i = some d) : ∃ v, L2.atI vs i = some v ∧ Rep K G d v := by
  unfold L2.atI at h ⊢
  rw [r.length]
  cases e : ixN ds.length i with
  | none => rw [e] at h; cases h
  | some j =>
    rw [e] at h
    exact r.get h
theorem os_ix : OpS X.K (rIx X.K) ixD := fun tp G H d e v w Q l rv rw q => by
  obtain ⟨z, ez⟩ := q.some_of
  rw [ez] at q
  cases d with
  | lst xs =>
    cases e with
    | int i =>
      obtain ⟨p, vs, ev, sv, rvs⟩ := rv
      obtain ⟨u, eu, ru⟩ := rvs.atI (show atI xs i = some z from ez)
      exact .inl ⟨p, vs, i, u, ev, rw, l.sqL sv, eu, q.at l ru⟩
    | _ => cases ez
  | tup xs =>
    cases e with
    | int i =>
      obtain ⟨p, vs, ev, sv, rvs⟩ := rv
      obtain ⟨u, eu, ru⟩ := rvs.atI (show atI xs i = some z from ez)
      exact .inr (.inl ⟨p, vs, i, u, ev, rw, l.sqT sv, eu, q.at l ru⟩)
    | _ => cases ez
  | str x =>
    cases e with
    | int i =>
      have ez' : (if x.length ≤ sizeLine then (atI x.cps.toList i).map fun c => D.str ⟨#[c]⟩ else none) = some z := ez
      split at ez'
      · rename_i hz
        cases hc : atI x.cps.toList i with
        | none => rw [hc] at ez'; cases ez'
        | some c =>
          rw [hc] at ez'
          cases ez'
          exact .inr (.inr ⟨x, i, c, rv, rw, hz, hc, q.at l rfl⟩)
      · cases ez'
    | _ => cases ez
  | _ => cases e <;> cases ez
theorem de_ix {M : Mo} {W : WX} {a b : Expr} {f g : Ev} {pos : Pos} (ha : PE X a (tE X.K M W f)) (hb : PE X b (tE X.K M W g)) (hs : PlainIx b := by exact fun _ _ => rfl) : PE X (.Subscript a b pos) (tE X.K M W (e2 ixD f g)) :=
  PE.imp (pe_ix ix_seq ha hb hs) fun _ _ _ q => op_gen os_ix q
def oNone : Env → R (Option Int) := fun _ => .ok none
def oSome (f : Ev) : Env → R (Option Int) := fun δ => f δ >>= fun x => match x with
  | .int i => .ok (some i)
  | _ => .bad
theorem do_none {M : Mo} {W : WX} : PO X none (tO X.K M W oNone) := by
  refine ⟨fun pins s σ H Q I h => ?_⟩
  obtain ⟨Fo, G, δ, er, q⟩ := h
  exact po_none.run pins s σ H Q I (q G H (.refl er.gh))
theorem do_some {M : Mo} {W : WX} {e : Expr} {f : Ev} (h : PE X e (tE X.K M W f)) : PO X (some e) (tO X.K M W (oSome f)) := by
  refine ⟨fun pins s σ H Q I hw => ?_⟩
  refine (po_some h).run pins s σ H Q I ?_
  obtain ⟨Fo, G, δ, er, q⟩ := hw
  refine ⟨Fo, G, δ, er, PX.mono (PX.bind q) fun G1 H1 x t1 q1 v rv => ?_⟩
  cases x with
  | int i => exact ⟨i, rv, q1 G1 H1 (.refl t1.2.1)⟩
  | _ => exact False.elim q1
def cutD {α : Type} (xs : List α) (lo hi : Option Int) : List α := (xs.drop (HT.sIx xs.length 0 lo)).take (HT.sIx xs.length xs.length hi - HT.sIx xs.length 0 lo)
def slD : D → Option Int → Option Int → Option D
  | .lst xs, lo, hi => some (.lst (cutD xs lo hi))
  | .tup xs, lo, hi => some (.tup (cutD xs lo hi))
  | .str z, lo, hi => if z.length ≤ sizeLine then some (.str (cutS z lo hi)) else none
  | _, _, _ => none
def eSl (f : Ev) (l h : Env → R (Option Int)) : Ev := fun δ => f δ >>= fun x => l δ >>= fun a => h δ >>= fun b => ofO (slD x a b)
def rSlAll (K : PySem.W.Frag) : V → Option Int → Option Int → Hp → VK → Prop := fun x lo hi H Q => rSlL K x lo hi H Q ∨ rSlA K x lo hi H Q ∨ rSlS x lo hi H Q
theorem sl_all : SlR X (rSlAll X.K) := sl_list.or (sl_tupA.or sl_str)
theorem de_slice {M : Mo} {W : WX} {e : Expr} {lo hi : Option Expr} {f : Ev} {l h : Env → R (Option Int)} {pos p2 : Pos} (he : PE X e (tE X.K M W f)) (hl : PO X lo (tO X.K M W l)) (hh : PO X hi (tO X.K M W h)) : PE X (.Subscript e (.Slice lo hi none p2) pos) (tE X.K M W (eSl f l h)) := by
  refine PE.imp (pe_slice sl_all he hl hh) fun σ H Q q => ?_
  obtain ⟨Fo, G, δ, er, q⟩ := q
  refine ⟨Fo, G, δ, er, PX.mono (PX.bind q) fun G1 H1 x t1 q1 v rv => ?_⟩
  refine ⟨Fo, G1, δ, er.tr t1, PX.mono (PX.bind q1) fun G2 H2 a t2 q2 => ?_⟩
  refine ⟨Fo, G2, δ, (er.tr t1).tr t2, PX.mono (PX.bind q2) fun G3 H3 b t3 q3 => ?_⟩
  have q4 := PX.qx q3
  have l3 := t3.2.1
  have rv3 := Rep.mono t3.1 _ _ (Rep.mono t2.1 _ _ rv)
  cases x with
  | lst xs =>
    obtain ⟨p, vs, ev, sv, rvs⟩ := rv3
    refine .inl ⟨p, vs, ev, l3.sqL sv, fun p' n => ?_⟩
    have r2 : Reps X.K G3 (cutD xs a b) (cutV vs a b) := by
      unfold cutD cutV
      rw [rvs.length]
      exact (rvs.drop _).take _
    exact QX.newLst q4 l3 r2 n
  | tup xs =>
    obtain ⟨p, vs, ev, sv, rvs⟩ := rv3
    refine .inr (.inl ⟨p, vs, ev, l3.sqT sv, fun hw => ?_, fun hw p' n => ?_⟩)
    · rw [rvs.length] at hw
      have e5 : cutD xs a b = xs := by
        unfold cutD
        rw [hw.1, hw.2, List.drop_zero, Nat.sub_zero, List.take_length]
      have q5 : QX X.K M.tp G3 H3 (some (.tup (cutD xs a b))) Q := q4
      rw [e5] at q5
      exact q5.at l3 ⟨p, vs, rfl, sv, rvs⟩
    · have r2 : Reps X.K G3 (cutD xs a b) (cutV vs a b) := by
        unfold cutD cutV
        rw [rvs.length]
        exact (rvs.drop _).take _
      exact QX.newTup q4 l3 r2 n
  | str z =>
    have q5 : QX X.K M.tp G3 H3 (if z.length ≤ sizeLine then some (.str (cutS z a b)) else none) Q := q4
    split at q5
    · rename_i hz
      exact .inr (.inr ⟨z, rv3, hz, q5.at l3 rfl⟩)
    · exact False.elim q5
  | _ => exact False.elim q4

/-! ### len, isinstance, tuple, list, int, join, replace -/
def lenD : List D → Option D
  | [.str z] => if z.length ≤ sizeLine then some (.int z.length) else none
  | [.lst xs] => some (.int xs.length)
  | [.tup xs] => some (.int xs.length)
  | _ => none
theorem cs_len : CallS X.K (fun xs H Q => ∃ x n, xs = [x] ∧ LenV X.K x H n ∧ Q (.int n) H) lenD := fun tp G H ds vs Q l r q => by
  cases ds with
  | nil => exact False.elim q
  | cons d t =>
    cases t with
    | cons _ _ => cases d <;> exact False.elim q
    | nil =>
      obtain ⟨v, rr, e, rv, er⟩ := r
      cases er
      cases d with
      | str z =>
        have q5 : QX X.K tp G H (if z.length ≤ sizeLine then some (.int z.length) else none) Q := q
        split at q5
        · rename_i hz
          cases rv
          exact ⟨_, z.length, e, ⟨hz, rfl⟩, q5.at l rfl⟩
        · exact False.elim q5
      | lst xs =>
        obtain ⟨p, vs', ev, sv, rvs⟩ := rv
        subst ev
        exact ⟨_, xs.length, e, .inl ⟨vs', l.sqL sv, rvs.length.symm⟩, QX.at q l rfl⟩
      | tup xs =>
        obtain ⟨p, vs', ev, sv, rvs⟩ := rv
        subst ev
        exact ⟨_, xs.length, e, .inr ⟨vs', l.sqT sv, rvs.length.symm⟩, QX.at q l rfl⟩
      | _ => exact False.elim q
/-- the built-in type of data -/
def tyN : D → String
  | .non => "NoneType"
  | .bl _ => "bool"
  | .int _ => "int"
  | .str _ => "str"
  | .tup _ => "tuple"
  | .lst _ => "list"
theorem Rep.ty {G H : Hp} {d : D} {v : V} (l : Le G H) (r : Rep X.K G d v) : TyX X.K H v (.type (tyN d)) := by
  cases d with
  | non => cases r; exact .base .non
  | bl b => cases r; exact .base (.bl b)
  | int i => cases r; exact .base (.int i)
  | str x => cases r; exact .base (.str x)
  | tup ds =>
    obtain ⟨a, vs, e, s, _⟩ := r
    subst e
    rcases s with (s | ⟨o, s⟩) | ⟨o, its, n, k, c, _⟩
    · exact .base (.tup (l _ _ s))
    · exact .fTuple (l _ _ s)
    · exact .kTuple k c
  | lst ds =>
    obtain ⟨a, vs, e, s, _⟩ := r
    subst e
    rcases s with (s | ⟨o, s⟩) | ⟨o, its, n, k, c, _⟩
    · exact .base (.lst (l _ _ s))
    · exact .base (.frz (l _ _ s))
    · exact .kList k c
/-- isinstance(x, T), T a built-in type by name -/
def eIsi (T : String) (f : Ev) : Ev := e1 (fun d => (kitB (tyN d) T).map .bl) f
def boot_ty (x T : String) : Prop := bootBuiltins (Str.ofString x) = some (.type T)
theorem de_isi {M : Mo} {W : WX} {x T : Str} {T' : String} {p p' pos : Pos} {e : Expr} {f : Ev} (hg : Gl X x) (hm : X.mg x = none) (hv : bootBuiltins x = some (.builtin "isinstance")) (hg2 : Gl X T) (hm2 : X.mg T = none) (hv2 : bootBuiltins T = some (.type T')) (ha : PE X e (tE X.K M W f))
    (hn : x ≠ "__name__" := by decide) (hdb : (x == ("__debug__" : Str)) = false := by decide) (hn2 : T ≠ "__name__" := by decide) (hdb2 : (T == ("__debug__" : Str)) = false := by decide)
    (he : starEach [e, .Name T p'] X.env = (false, eval e X.env) :: starEach [.Name T p'] X.env := by rfl) (he2 : starEach [.Name T p'] X.env = (false, eval (.Name T p') X.env) :: starEach [] X.env := by rfl) (hpl : (backTo pos (starEach [.Name T p'] X.env)).any (·.1) = false := by rfl) :
    PE X (.Call (.Name x p) [e, .Name T p'] [] pos) (tE X.K M W (eIsi T' f)) := by
  have hT : PE X (.Name T p') (tC (.ty T')) := pe_bltn hg2 hm2 hv2 rfl hn2 hdb2
  refine PE.imp (pe_callB call_isi hg hm hv (pa_cons ha (pa_cons hT pa_nil he2) he) hn hdb he hpl) fun σ H Q q => ?_
  obtain ⟨Fo, G, δ, er, q⟩ := q
  refine ⟨Fo, G, δ, er, PX.mono (PX.bind q) fun G1 H1 d t1 q1 v rv => ?_⟩
  have q2 := PX.qx q1
  obtain ⟨z, ez⟩ := q2.some_of
  rw [ez] at q2
  replace ez : Option.map D.bl (kitB (tyN d) T') = some z := ez
  cases hk : kitB (tyN d) T' with
  | none => rw [hk] at ez; cases ez
  | some b =>
    rw [hk] at ez
    cases ez
    exact ⟨v, .ty T', .type (tyN d), .type T', b, rfl, .ty T', rv.ty t1.2.1, kit_ty hk, q2.at t1.2.1 rfl⟩
def tupleD : List D → Option D
  | [.lst xs] => some (.tup xs)
  | [.tup xs] => some (.tup xs)
  | _ => none
theorem cs_tuple : CallS X.K (fun xs H Q => ∃ p ys, xs = [.ref p] ∧ ((SqL X.K H p ys ∧ ∀ l, H l = none → Q (.ref l) (upd H l (.tup ys))) ∨ (SqT X.K H p ys ∧ Q (.ref p) H))) tupleD := fun tp G H ds vs Q l r q => by
  cases ds with
  | nil => exact False.elim q
  | cons d t =>
    cases t with
    | cons _ _ => cases d <;> exact False.elim q
    | nil =>
      obtain ⟨v, rr, e, rv, er⟩ := r
      cases er
      cases d with
      | lst xs =>
        obtain ⟨p, vs', ev, sv, rvs⟩ := rv
        subst ev
        exact ⟨p, vs', e, .inl ⟨l.sqL sv, fun a n => QX.newTup q l rvs n⟩⟩
      | tup xs =>
        obtain ⟨p, vs', ev, sv, rvs⟩ := rv
        subst ev
        exact ⟨p, vs', e, .inr ⟨l.sqT sv, QX.at q l ⟨p, vs', rfl, sv, rvs⟩⟩⟩
      | _ => exact False.elim q
def listD : List D → Option D
  | [.lst xs] => some (.lst xs)
  | [.tup xs] => some (.lst xs)
  | _ => none
theorem cs_list : CallS X.K (fun xs H Q => ∃ p ys, xs = [.ref p] ∧ (SqL X.K H p ys ∨ SqT X.K H p ys) ∧ ∀ l, H l = none → Q (.ref l) (upd H l (.lst ys))) listD := fun tp G H ds vs Q l r q => by
  cases ds with
  | nil => exact False.elim q
  | cons d t =>
    cases t with
    | cons _ _ => cases d <;> exact False.elim q
    | nil =>
      obtain ⟨v, rr, e, rv, er⟩ := r
      cases er
      cases d with
      | lst xs =>
        obtain ⟨p, vs', ev, sv, rvs⟩ := rv
        subst ev
        exact ⟨p, vs', e, .inl (l.sqL sv), fun a n => QX.newLst q l rvs n⟩
      | tup xs =>
        obtain ⟨p, vs', ev, sv, rvs⟩ := rv
        subst ev
        exact ⟨p, vs', e, .inr (l.sqT sv), fun a n => QX.newLst q l rvs n⟩
      | _ => exact False.elim q
def intD : List D → Option D
  | [.int i] => some (.int i)
  | [.bl k] => some (.int (if k then 1 else 0))
  | _ => none
theorem cs_int : CallS X.K (fun xs H Q => (∃ i, xs = [.int i] ∧ Q (.int i) H) ∨ ∃ k, xs = [.bl k] ∧ Q (.int (if k then 1 else 0)) H) intD := fun tp G H ds vs Q l r q => by
  cases ds with
  | nil => exact False.elim q
  | cons d t =>
    cases t with
    | cons _ _ => cases d <;> exact False.elim q
    | nil =>
      obtain ⟨v, rr, e, rv, er⟩ := r
      cases er
      cases d with
      | int i => cases rv; exact .inl ⟨i, e, QX.at q l rfl⟩
      | bl k => cases rv; exact .inr ⟨k, e, QX.at q l rfl⟩
      | _ => exact False.elim q
end
end Dl

set_option Elab.async false
set_option linter.all false
set_option maxRecDepth 100000
set_option maxHeartbeats 2000000
/-! Statements over data. -/
namespace Dl
open PySem PySem.Spec PyProof.Rows L2

inductive Fl where
  | next (δ : Env)
  | brk (δ : Env)
  | cont (δ : Env)
  | ret (d : D)
  | exc (c : String) (δ : Env)
  | bad
abbrev Sv := Env → Fl
def bindF {α : Type} (r : R α) (δ : Env) (k : α → Fl) : Fl := match r with
  | .ok a => k a
  | .exc c => .exc c δ
  | .bad => .bad
theorem bindF_ok {α : Type} (a : α) (δ : Env) (k : α → Fl) : bindF (.ok a) δ k = k a := rfl
theorem bindF_exc {α : Type} (c : String) (δ : Env) (k : α → Fl) : bindF (.exc c) δ k = .exc c δ := rfl
theorem bindF_bad {α : Type} (δ : Env) (k : α → Fl) : bindF .bad δ k = .bad := rfl

def PF (K : PySem.W.Frag) (M : Mo) (W : WX) (Fo G : Hp) (r : Fl) (D : Ends) : Prop := match r with
  | .next δ => ∀ G' σ' H', Le G G' → ER K M.tp Fo G' H' δ σ' → D.nx σ' H'
  | .brk δ => ∀ G' σ' H', Le G G' → ER K M.tp Fo G' H' δ σ' → D.bk σ' H'
  | .cont δ => ∀ G' σ' H', Le G G' → ER K M.tp Fo G' H' δ σ' → D.ct σ' H'
  | .ret d => ∀ G' H', Le G G' → (∃ σ', ER K M.tp Fo G' H' [] σ') → ∀ v, Rep K G' d v → D.rt v H'
  | .exc c δ => ∀ G' σ' H', Le G G' → ER K M.tp Fo G' H' δ σ' → W (M.ec c) none σ' H'
  | .bad => False
section
variable {K : PySem.W.Frag} {M : Mo} {W : WX} {Fo G G' H : Hp} {D : Ends} {δ : Env} {σ : L2.St}
theorem PF.mono (l : Le G G') {r : Fl} (h : PF K M W Fo G r D) : PF K M W Fo G' r D := by
  cases r with
  | next δ => exact fun G2 σ2 H2 l2 e => h G2 σ2 H2 (l.trans l2) e
  | brk δ => exact fun G2 σ2 H2 l2 e => h G2 σ2 H2 (l.trans l2) e
  | cont δ => exact fun G2 σ2 H2 l2 e => h G2 σ2 H2 (l.trans l2) e
  | ret d => exact fun G2 H2 l2 e => h G2 H2 (l.trans l2) e
  | exc c δ => exact fun G2 σ2 H2 l2 e => h G2 σ2 H2 (l.trans l2) e
  | bad => exact h
theorem ER.nil (e : ER K M.tp Fo G H δ σ) : ER K M.tp Fo G H [] [] :=
  ⟨e.gh, e.fh, e.fg, e.tb, rfl, fun i d h => by simp at h, fun i d h => by simp at h, fun i j c d h => by simp at h⟩
theorem PF.bind {α : Type} {r : R α} {k : α → Fl} (er : ER K M.tp Fo G H δ σ) (h : PF K M W Fo G (bindF r δ k) D) : PX M W σ G H r fun G' H' a => ER K M.tp Fo G' H' δ σ ∧ PF K M W Fo G' (k a) D := by
  cases r with
  | ok a => exact fun G2 H2 t => ⟨er.tr t, PF.mono t.1 (r := k a) h⟩
  | exc c => exact fun G2 H2 t => h G2 σ H2 t.1 (er.tr t)
  | bad => exact h
end
def tS (K : PySem.W.Frag) (M : Mo) (W : WX) (f : Sv) : TS := fun D σ H => ∃ Fo G δ, ER K M.tp Fo G H δ σ ∧ PF K M W Fo G (f δ) D

/-! ### the data functions' words -/
def sNext : Sv := fun δ => .next δ
def sSeq (f g : Sv) : Sv := fun δ => match f δ with
  | .next δ' => g δ'
  | .brk δ' => .brk δ'
  | .cont δ' => .cont δ'
  | .ret d => .ret d
  | .exc c δ' => .exc c δ'
  | .bad => .bad
def sIf (c : Tv) (f g : Sv) : Sv := fun δ => bindF (c δ) δ fun b => match b with
  | true => f δ
  | false => g δ
def sSet (i : Nat) (f : Ev) : Sv := fun δ => bindF (f δ) δ fun d => .next (δ.set i (.val d))
def sOwn (i : Nat) (f : Env → R (List D)) : Sv := fun δ => bindF (f δ) δ fun ds => .next (δ.set i (.own ds))
def sRet (f : Ev) : Sv := fun δ => bindF (f δ) δ fun d => .ret d
def sDrop (f : Ev) : Sv := fun δ => bindF (f δ) δ fun _ => .next δ
def sRaise (c : String) : Sv := fun δ => .exc c δ
def sFrz (i : Nat) (f : Sv) : Sv := fun δ => f (frz i δ)
def sApp (i : Nat) (f : Ev) : Sv := fun δ => match δ[i]? with
  | some (.own ds) => bindF (f δ) δ fun d => if ds.length < sizeLine then .next (δ.set i (.own (ds ++ [d]))) else .bad
  | _ => .bad
def sPut (i : Nat) (g f : Ev) : Sv := fun δ => match δ[i]? with
  | some (.own ds) => bindF (f δ) δ fun d => bindF (g δ) δ fun k => match k with
    | .int k => match ixN ds.length k with
      | some j => .next (δ.set i (.own (ds.set j d)))
      | none => .bad
    | _ => .bad
  | _ => .bad
def sAug (i : Nat) (h : D → D → Option D) (f : Ev) : Sv := fun δ => match δ[i]? with
  | some (.val x) => bindF (f δ) δ fun y => bindF (ofO (h x y)) δ fun z => .next (δ.set i (.val z))
  | _ => .bad
def setAll : List Nat → List D → Env → Env
  | i :: is, d :: ds, δ => setAll is ds (δ.set i (.val d))
  | _, _, δ => δ
/-- a target: a name, or a tuple of names -/
inductive Tg where
  | one (i : Nat)
  | all (is : List Nat)
def Tg.put : Tg → D → Env → Option Env
  | .one i, d, δ => some (δ.set i (.val d))
  | .all is, .tup ds, δ => if ds.length = is.length then some (setAll is ds δ) else none
  | .all _, _, _ => none
def sUnp (t : Tg) (f : Ev) : Sv := fun δ => bindF (f δ) δ fun d => match t.put d δ with
  | some δ' => .next δ'
  | none => .bad
def whileF : Nat → Tv → Sv → Sv
  | 0, _, _ => fun _ => .bad
  | n + 1, c, f => fun δ => bindF (c δ) δ fun b => match b with
    | false => .next δ
    | true => match f δ with
      | .next δ' => whileF n c f δ'
      | .cont δ' => whileF n c f δ'
      | .brk δ' => .next δ'
      | .ret d => .ret d
      | .exc c δ' => .exc c δ'
      | .bad => .bad
def forF (t : Tg) (f : Sv) : List D → Sv
  | [] => fun δ => .next δ
  | d :: ds => fun δ => match t.put d δ with
    | none => .bad
    | some δ1 => match f δ1 with
      | .next δ' => forF t f ds δ'
      | .cont δ' => forF t f ds δ'
      | .brk δ' => .next δ'
      | .ret d => .ret d
      | .exc c δ' => .exc c δ'
      | .bad => .bad
def sFor (t : Tg) (it : Env → R (List D)) (f : Sv) : Sv := fun δ => bindF (it δ) δ fun ds => forF t f ds δ
def noX : Fl → Fl
  | .exc _ _ => .bad
  | r => r
def sTry (sub : String → Option Bool) (f g : Sv) : Sv := fun δ => match f δ with
  | .exc c δ' => match sub c with
    | some true => noX (g δ')
    | some false => .exc c δ'
    | none => .bad
  | .next δ' => .next δ'
  | .brk δ' => .brk δ'
  | .cont δ' => .cont δ'
  | .ret d => .ret d
  | .bad => .bad

section
variable {X : Cx} {M : Mo} {W : WX} {st : Stmt} {sts rest body : List Stmt} {pos : Pos} {f g : Sv} {e : Expr} {fe : Ev}
theorem PS.imp {t t' : TS} (h : PS X st t) (i : ∀ D σ H, t' D σ H → t D σ H) : PS X st t' := ⟨fun pins s σ H D I q => h.run pins s σ H D I (i D σ H q)⟩
theorem PSs.imp {t t' : TS} (h : PSs X sts t) (i : ∀ D σ H, t' D σ H → t D σ H) : PSs X sts t' := ⟨fun pins s σ H D I q => h.run pins s σ H D I (i D σ H q)⟩

theorem dss_nil : PSs X [] (tS X.K M W sNext) := PSs.imp pss_nil fun D σ H ⟨Fo, G, δ, er, q⟩ => q G σ H .refl er
theorem dss_cons (h1 : PS X st (tS X.K M W f)) (h2 : PSs X rest (tS X.K M W g)) : PSs X (st :: rest) (tS X.K M W (sSeq f g)) := by
  refine PSs.imp (pss_cons h1 h2) fun D σ H ⟨Fo, G, δ, er, q⟩ => ⟨Fo, G, δ, er, ?_⟩
  unfold sSeq at q
  cases z : f δ with
  | next δ1 =>
    rw [z] at q
    exact fun G2 σ2 H2 l2 e2 => ⟨Fo, G2, δ1, e2, PF.mono l2 q⟩
  | brk δ1 => rw [z] at q; exact q
  | cont δ1 => rw [z] at q; exact q
  | ret d => rw [z] at q; exact q
  | exc c δ1 => rw [z] at q; exact q
  | bad => rw [z] at q; exact q
theorem dss_one (h1 : PS X st (tS X.K M W f)) : PSs X [st] (tS X.K M W f) := pss_one h1
theorem dss_frz (i : Nat) (h : PSs X sts (tS X.K M W f)) : PSs X sts (tS X.K M W (sFrz i f)) := by
  refine PSs.imp h fun D σ H ⟨Fo, G, δ, er, q⟩ => ?_
  obtain ⟨G', l, er', _⟩ := er.frz i
  exact ⟨Fo, G', frz i δ, er', PF.mono l q⟩
theorem ds_frz (i : Nat) (h : PS X st (tS X.K M W f)) : PS X st (tS X.K M W (sFrz i f)) := by
  refine PS.imp h fun D σ H ⟨Fo, G, δ, er, q⟩ => ?_
  obtain ⟨G', l, er', _⟩ := er.frz i
  exact ⟨Fo, G', frz i δ, er', PF.mono l q⟩
theorem ds_pass : PS X (.Pass pos) (tS X.K M W sNext) := PS.imp ps_pass fun D σ H ⟨Fo, G, δ, er, q⟩ => q G σ H .refl er
theorem ds_break : PS X (.Break pos) (tS X.K M W fun δ => .brk δ) := PS.imp ps_break fun D σ H ⟨Fo, G, δ, er, q⟩ => q G σ H .refl er
theorem ds_continue : PS X (.Continue pos) (tS X.K M W fun δ => .cont δ) := PS.imp ps_continue fun D σ H ⟨Fo, G, δ, er, q⟩ => q G σ H .refl er
theorem ds_ret (he : PE X e (tE X.K M W fe)) : PS X (.Return (some e) pos) (tS X.K M W (sRet fe)) := by
  refine PS.imp (ps_ret he) fun D σ H ⟨Fo, G, δ, er, q⟩ => ⟨Fo, G, δ, er, ?_⟩
  refine PX.mono (PF.bind er q) fun G1 H1 d t1 ⟨er1, q1⟩ v rv => ?_
  exact q1 G1 H1 .refl ⟨[], er1.nil⟩ v rv
theorem ds_retN : PS X (.Return none pos) (tS X.K M W (sRet (eC .non))) := by
  refine PS.imp ps_retN fun D σ H ⟨Fo, G, δ, er, q⟩ => ?_
  exact q G H .refl ⟨[], er.nil⟩ _ rfl
theorem ds_if {c : Expr} {tc : Tv} {a b : List Stmt} (hc : PT X c (tT X.K M W tc)) (ha : PSs X a (tS X.K M W f)) (hb : PSs X b (tS X.K M W g)) : PS X (.If c a b pos) (tS X.K M W (sIf tc f g)) := by
  refine PS.imp (ps_if hc ha hb) fun D σ H ⟨Fo, G, δ, er, q⟩ => ⟨Fo, G, δ, er, ?_⟩
  refine PX.mono (PF.bind er q) fun G1 H1 b t1 ⟨er1, q1⟩ => ?_
  cases b with
  | true => exact ⟨Fo, G1, δ, er1, q1⟩
  | false => exact ⟨Fo, G1, δ, er1, q1⟩
theorem ds_drop (he : PE X e (tE X.K M W fe)) (hs : swapsWith e none pos.line X.env = pure false := by rfl) : PS X (.Expr e pos) (tS X.K M W (sDrop fe)) := by
  refine PS.imp (ps_expr he hs) fun D σ H ⟨Fo, G, δ, er, q⟩ => ⟨Fo, G, δ, er, ?_⟩
  exact PX.mono (PF.bind er q) fun G1 H1 b t1 ⟨er1, q1⟩ v _ => q1 G1 σ H1 .refl er1
/-- x = e, frozen at once -/
theorem ds_set (i : Nat) {x : Str} {pos' : Pos} (hN : X.N.Nodup) (he : PE X e (tE X.K M W fe)) (hi : X.N[i]? = some x := by rfl) (hx : Loc X.env.scope x := by first | exact Or.inl rfl | exact Or.inr rfl) (hs : swapsWith e (some (.Name x pos')) pos.line X.env = pure false := by rfl) (hf : X.fn x = true ∨ X.env.scope.names.lookup x = some .local := by first | exact .inl rfl | exact .inr rfl | assumption) :
    PS X (.Assign [.Name x pos'] e pos) (tS X.K M W (sSet i fe)) := by
  refine PS.imp (ps_set hN hi hx he hs hf) fun D σ H ⟨Fo, G, δ, er, q⟩ => ⟨Fo, G, δ, er, ?_⟩
  exact PX.mono (PF.bind er q) fun G1 H1 d t1 ⟨er1, q1⟩ v rv => q1 G1 _ H1 .refl (er1.setVal i rv)

/-! ### new lists of one's own -/
def tN (K : PySem.W.Frag) (M : Mo) (W : WX) (f : Env → R (List D)) : TE := fun σ H Q => ∃ Fo G δ, ER K M.tp Fo G H δ σ ∧ PX M W σ G H (f δ) fun G' H' ds => ∀ p vs, H' p = none → Reps K G' ds vs → Q (.ref p) (upd H' p (.lst vs))
def nLst (g : Env → R (List D)) : Env → R (List D) := fun δ => g δ >>= fun xs => ofO (if xs.length ≤ sizeLine then some xs else none)
theorem dn_lst {es : List Expr} {fs : Env → R (List D)} (h : PA X es (tA X.K M W fs)) : PE X (.List es pos) (tN X.K M W (nLst fs)) := by
  refine PE.imp (pe_lst h) fun σ H Q q => ?_
  obtain ⟨Fo, G, δ, er, q⟩ := q
  refine ⟨Fo, G, δ, er, PX.mono (PX.bind q) fun G1 H1 xs t1 q1 vs rvs => ?_⟩
  by_cases z : xs.length ≤ sizeLine
  · rw [if_pos z] at q1
    exact ⟨by rw [rvs.length]; exact z, fun p n => q1 G1 H1 (.refl t1.2.1) p vs n rvs⟩
  · rw [if_neg z] at q1; exact False.elim q1
theorem ds_own (i : Nat) {x : Str} {pos' : Pos} {fn : Env → R (List D)} (hN : X.N.Nodup) (he : PE X e (tN X.K M W fn)) (hi : X.N[i]? = some x := by rfl) (hx : Loc X.env.scope x := by first | exact Or.inl rfl | exact Or.inr rfl) (hs : swapsWith e (some (.Name x pos')) pos.line X.env = pure false := by rfl) (hf : X.fn x = true ∨ X.env.scope.names.lookup x = some .local := by first | exact .inl rfl | exact .inr rfl | assumption) :
    PS X (.Assign [.Name x pos'] e pos) (tS X.K M W (sOwn i fn)) := by
  refine PS.imp (ps_set hN hi hx he hs hf) fun D σ H ⟨Fo, G, δ, er, q⟩ => ⟨Fo, G, δ, er, ?_⟩
  exact PX.mono (PF.bind er q) fun G1 H1 ds t1 ⟨er1, q1⟩ p vs n rvs => q1 G1 _ _ .refl (er1.setOwn i n rvs)
theorem frz_ne {K : PySem.W.Frag} {tp : Addr → Prop} {Fo G H : Hp} {δ : Env} {σ : L2.St} {i : Nat} {ds : List D} (er : ER K tp Fo G H δ σ) (h : δ[i]? = some (.own ds)) : ∃ p vs, σ[i]? = some (some (.ref p)) ∧ H p = some (.lst vs) ∧ Reps K G ds vs :=
  let ⟨p, vs, h1, _, _, h4, h5⟩ := er.own i ds h; ⟨p, vs, h1, h4, h5⟩
/-- x.append(e) -/
theorem ds_app (i : Nat) {x : Str} {pn pa pos' : Pos} (he : PE X e (tE X.K M W fe)) (hN : X.N[i]? = some x := by rfl) (hv : Vis X.env.scope x := by first | exact Or.inl rfl | exact Or.inr (Or.inl rfl) | exact Or.inr (Or.inr rfl)) (hd : (x == ("__debug__" : Str)) = false := by decide) (hcd : (x == ("__classdict__" : Str)) = false := by decide)
    (hs : swapsWith (.Call (.Attribute (.Name x pn) "append" pa) [e] [] pos') none pos.line X.env = pure false := by rfl)
    (hst : starEach [e] X.env = (false, eval e X.env) :: starEach [] X.env := by rfl)
    (hfew : (((backTo pos' (starEach [e] X.env)).all fun x => !x.1) && (backToKw pos' (keywordEach [] X.env)).all fun x => x.1.isSome) && decide (([e].length + ([] : List Keyword).length + if ([] : List Keyword).isEmpty then 0 else 1) < 30) = true := by rfl)
    (hbase : attributeBase (.Name x pn) "append" X.env (eval (.Name x pn) X.env) = eval (.Name x pn) X.env := by rfl) (hline : (pa.endLine == pos'.line) = true := by rfl) :
    PS X (.Expr (.Call (.Attribute (.Name x pn) "append" pa) [e] [] pos') pos) (tS X.K M W (sApp i fe)) := by
  refine PS.imp (ps_expr (pe_bm PySem.F.plainAttrs_list PySem.F.slot_list_append PySem.F.type_list_append mt_append (pe_var hN hv hd hcd) (pa_cons he pa_nil hst) (hs := hst) (hfew := hfew) (hbase := hbase) (hline := hline)) hs) fun D σ H ⟨Fo, G, δ, er, q⟩ => ?_
  unfold sApp at q
  split at q
  · rename_i ds z
    obtain ⟨p, vs, h1, h2, h3, h4, h5⟩ := er.own i ds z
    refine ⟨.ref p, h1, .inl ⟨rfl, vs, SqL.of h4⟩, ⟨Fo, G, δ, er, PX.mono (PF.bind er q) fun G1 H1 d t1 ⟨er1, q1⟩ v rv => ?_⟩⟩
    obtain ⟨p', vs', g1, g2, g3, g4, g5⟩ := er1.own i ds z
    rw [h1] at g1; cases g1
    split at q1
    · rename_i hz
      exact ⟨p, vs', v, rfl, rfl, g4, by rw [g5.length]; exact hz, q1 G1 _ _ .refl (er1.chgOwn i z h1 (g5.append (.one rv)))⟩
    · exact False.elim q1
  · exact False.elim q
end
end Dl

set_option Elab.async false
set_option linter.all false
set_option maxRecDepth 100000
set_option maxHeartbeats 2000000
/-! Loops, targets, comprehensions, try, defs. -/
namespace Dl
open PySem PySem.Spec PyProof.Rows L2
section
variable {X : Cx} {M : Mo} {W : WX} {st : Stmt} {sts rest body : List Stmt} {pos : Pos} {f g : Sv} {e : Expr} {fe ge : Ev}

/-! ### targets -/
def Tg.at : Tg → List Nat
  | .one i => [i]
  | .all is => is
/-- the same but at these places -/
def But (is : List Nat) (σ σ' : L2.St) : Prop := σ'.length = σ.length ∧ ∀ j, j ∉ is → σ'[j]? = σ[j]?
def tG (K : PySem.W.Frag) (M : Mo) (t : Tg) : TG := fun v σ H Q => ∃ Fo G δ d δ', ER K M.tp Fo G H δ σ ∧ Rep K G d v ∧ t.put d δ = some δ' ∧ ∀ σ', ER K M.tp Fo G H δ' σ' → But t.at σ σ' → Q σ' H
theorem PG.imp {tg : Expr} {t t' : TG} (h : PG X tg t) (i : ∀ v σ H Q, t' v σ H Q → t v σ H Q) : PG X tg t' := ⟨fun pins s σ H v u Q I r q => h.run pins s σ H v u Q I r (i v σ H Q q)⟩
theorem dg_one (i : Nat) {x : Str} (hN : X.N.Nodup) (hi : X.N[i]? = some x := by rfl) (hx : Loc X.env.scope x := by first | exact Or.inl rfl | exact Or.inr rfl) (hf : X.fn x = true ∨ X.env.scope.names.lookup x = some .local := by first | exact .inl rfl | exact .inr rfl | assumption) : PG X (.Name x pos) (tG X.K M (.one i)) := by
  refine PG.imp (pg_name hN hi hx hf) fun v σ H Q ⟨Fo, G, δ, d, δ', er, r, p, q⟩ => ?_
  cases p
  exact q _ (er.setVal i r) ⟨by rw [List.length_set], fun j hj => by rw [List.getElem?_set_ne (fun z => hj (by rw [z]; exact List.mem_cons_self))]⟩
inductive Names' (X : Cx) : List Expr → List Nat → Prop
  | nil : Names' X [] []
  | cons {x : Str} {p : Pos} {i : Nat} {es : List Expr} {is : List Nat} (hi : X.N[i]? = some x) (hx : Loc X.env.scope x) (hf : X.fn x = true ∨ X.env.scope.names.lookup x = some .local)
      (hs : (assignEach (.Name x p :: es) X.env).map (·.2) = assign (.Name x p) X.env :: (assignEach es X.env).map (·.2)) (h : Names' X es is) : Names' X (.Name x p :: es) (i :: is)
theorem nm_cons (i : Nat) {x : Str} {p : Pos} {es : List Expr} {is : List Nat} (h : Names' X es is) (hi : X.N[i]? = some x := by rfl) (hx : Loc X.env.scope x := by first | exact Or.inl rfl | exact Or.inr rfl) (hf : X.fn x = true ∨ X.env.scope.names.lookup x = some .local := by first | exact .inl rfl | exact .inr rfl | assumption)
      (hs : (assignEach (.Name x p :: es) X.env).map (·.2) = assign (.Name x p) X.env :: (assignEach es X.env).map (·.2) := by rfl) : Names' X (.Name x p :: es) (i :: is) := .cons hi hx hf hs h
theorem dg_names (hN : X.N.Nodup) {es : List Expr} {is : List Nat} (h : Names' X es is) : PGs X es (fun vs σ H Q => ∃ Fo G δ ds, ER X.K M.tp Fo G H δ σ ∧ Reps X.K G ds vs ∧ ds.length = is.length ∧ ∀ σ', ER X.K M.tp Fo G H (setAll is ds δ) σ' → But is σ σ' → Q σ' H) := by
  induction h with
  | nil =>
    refine ⟨fun pins s σ H vs us Q I r ⟨Fo, G, δ, ds, er, rr, hl, q⟩ => ?_⟩
    have : ds = [] := List.eq_nil_of_length_eq_zero hl
    subst this
    exact pgs_nil.run pins s σ H vs us Q I r ⟨rr, q _ er ⟨rfl, fun _ _ => rfl⟩⟩
  | @cons x p i es is hi hx hf hs h ih =>
    refine ⟨fun pins s σ H vs us Q I r ⟨Fo, G, δ, ds, er, rr, hl, q⟩ => ?_⟩
    cases ds with
    | nil => simp at hl
    | cons d ds =>
      obtain ⟨v, vr, ev, r1, r2⟩ := rr
      refine (pgs_cons (pg_name hN hi hx hf) ih hs).run pins s σ H vs us Q I r ⟨v, vr, ev, ?_⟩
      exact ⟨Fo, G, δ.set i (.val d), ds, er.setVal i r1, r2, by simpa using hl, fun σ' er' b => q σ' er' ⟨b.1.trans (by rw [List.length_set]), fun j hj => by
        rw [b.2 j (fun z => hj (List.mem_cons_of_mem _ z)), List.getElem?_set_ne (fun z => hj (by rw [z]; exact List.mem_cons_self))]⟩⟩
theorem dg_all {es : List Expr} {k : Nat} {is : List Nat} (hc : X.calm = true) (hN : X.N.Nodup) (h : Names' X es is) (hn : (assignEach es X.env).length = is.length := by rfl) (hst : (assignEach es X.env).findIdx? (·.1) = none := by rfl) : PG X (.Tuple es k pos) (tG X.K M (.all is)) := by
  refine PG.imp (pg_tup (n := is.length) hc (dg_names (M := M) hN h) hn hst) fun v σ H Q ⟨Fo, G, δ, d, δ', er, r, p, q⟩ => ?_
  cases d with
  | tup ds =>
    have p' : (if ds.length = is.length then some (setAll is ds δ) else none) = some δ' := p
    split at p'
    · rename_i hl
      cases p'
      obtain ⟨a, vs, ev, sv, rvs⟩ := r
      exact ⟨a, vs, ev, er.gh |>.sqT sv, by rw [rvs.length]; exact hl, Fo, G, δ, ds, er, rvs, hl, q⟩
    · cases p'
  | _ => cases p
theorem ds_unp {tg : Expr} {t : Tg} (he : PE X e (tE X.K M W fe)) (hg : PG X tg (tG X.K M t)) (hs : swapsWithSole [tg] e pos.line X.env = pure false := by rfl) (hw : swappedStores [tg] e X.env = pure none := by rfl)
    (h1 : (assignEach [tg] X.env).map (·.2) = [assign tg X.env] := by rfl) : PS X (.Assign [tg] e pos) (tS X.K M W (sUnp t fe)) := by
  refine PS.imp (ps_asg he hg hs hw h1) fun D σ H ⟨Fo, G, δ, er, q⟩ => ⟨Fo, G, δ, er, ?_⟩
  refine PX.mono (PF.bind er q) fun G1 H1 d t1 ⟨er1, q1⟩ v rv => ?_
  cases z : t.put d δ with
  | none => rw [z] at q1; exact False.elim q1
  | some δ' =>
    rw [z] at q1
    exact ⟨Fo, G1, δ, d, δ', er1, rv, z, fun σ' er' _ => q1 G1 σ' H1 .refl er'⟩
/-- x op= e -/
theorem ds_aug (i : Nat) {x : Str} {pos' : Pos} {op : Operator} {r : R2} {h : D → D → Option D} (ho : OpR X (inplaceOp op) r) (hs : OpS X.K r h) (hN : X.N.Nodup) (he : PE X e (tE X.K M W fe)) (hi : X.N[i]? = some x := by rfl) (hx : Loc X.env.scope x := by first | exact Or.inl rfl | exact Or.inr rfl) (hf : X.fn x = true ∨ X.env.scope.names.lookup x = some .local := by first | exact .inl rfl | exact .inr rfl | assumption) :
    PS X (.AugAssign (.Name x pos') op e pos) (tS X.K M W (sAug i h fe)) := by
  have hp : PIp X op r := fun pins s σ H x y v u Q I r1 r2 q => ho pins s σ H x y v u Q I r1 r2 q
  refine PS.imp (ps_aug hN hi hx he hp hf) fun D σ H ⟨Fo, G, δ, er, q⟩ => ?_
  unfold sAug at q
  split at q
  · rename_i d z
    obtain ⟨v, ev, rv⟩ := er.val i d z
    refine ⟨v, ev, Fo, G, δ, er, PX.mono (PF.bind er q) fun G1 H1 y t1 ⟨er1, q1⟩ w rw => ?_⟩
    refine hs M.tp G1 H1 d y v w _ t1.2.1 (Rep.mono t1.1 _ _ rv) rw ?_
    have q2 := PF.bind er1 q1
    refine PX.qx (PX.mono q2 fun G2 H2 z2 t2 ⟨er2, q3⟩ u ru => ?_)
    exact q3 G2 _ H2 .refl (er2.setVal i ru)
  · exact False.elim q
/-- x[k] = e, x an own list -/
theorem ds_put (i : Nat) {x : Str} {px pt : Pos} {ek : Expr} (he : PE X e (tE X.K M W fe)) (hk : PE X ek (tE X.K M W ge)) (hN : X.N[i]? = some x := by rfl) (hv : Vis X.env.scope x := by first | exact Or.inl rfl | exact Or.inr (Or.inl rfl) | exact Or.inr (Or.inr rfl)) (hd : (x == ("__debug__" : Str)) = false := by decide) (hcd : (x == ("__classdict__" : Str)) = false := by decide)
    (ha : ∀ v, assign (.Subscript (.Name x px) ek pt) X.env v = (do
      let ov ← holding [v] (eval (.Name x px) X.env)
      let iv ← holding [v, ov] (eval ek X.env)
      standAt pt
      holding [v, ov, iv] (setItem ov iv v)
      release [v, ov, iv] []) := by intro _; rfl)
    (hs : swapsWithSole [.Subscript (.Name x px) ek pt] e pos.line X.env = pure false := by rfl) (hw : swappedStores [.Subscript (.Name x px) ek pt] e X.env = pure none := by rfl)
    (h1 : (assignEach [.Subscript (.Name x px) ek pt] X.env).map (·.2) = [assign (.Subscript (.Name x px) ek pt) X.env] := by rfl) :
    PS X (.Assign [.Subscript (.Name x px) ek pt] e pos) (tS X.K M W (sPut i ge fe)) := by
  refine PS.imp (ps_asg he (pg_sub (pe_var hN hv hd hcd) hk set_list ha) hs hw h1) fun D σ H ⟨Fo, G, δ, er, q⟩ => ?_
  unfold sPut at q
  split at q
  · rename_i ds z
    refine ⟨Fo, G, δ, er, PX.mono (PF.bind er q) fun G1 H1 d t1 ⟨er1, q1⟩ v rv => ?_⟩
    obtain ⟨p, vs, h1, h2, h3, h4, h5⟩ := er1.own i ds z
    refine ⟨.ref p, h1, Fo, G1, δ, er1, PX.mono (PF.bind er1 q1) fun G2 H2 k t2 ⟨er2, q2⟩ w rw => ?_⟩
    obtain ⟨p', vs', g1, g2, g3, g4, g5⟩ := er2.own i ds z
    rw [h1] at g1; cases g1
    cases k with
    | int k =>
      cases y : ixN ds.length k with
      | none => have q3 : PF X.K M W Fo G2 (match ixN ds.length k with | some j => .next (δ.set i (.own (ds.set j d))) | none => .bad) D := q2; rw [y] at q3; exact False.elim q3
      | some j =>
        have q3 : PF X.K M W Fo G2 (match ixN ds.length k with | some j => .next (δ.set i (.own (ds.set j d))) | none => .bad) D := q2
        rw [y] at q3
        exact ⟨p, vs', k, j, rfl, rw, g4, by rw [g5.length]; exact y, q3 G2 _ _ .refl (er2.chgOwn i z h1 (g5.set j (Rep.mono t2.1 _ _ rv)))⟩
    | _ => exact False.elim q2
  · exact False.elim q

/-! ### loops -/
theorem ds_while {c : Expr} {tc : Tv} (n : Nat) (hp : PassesOwn (model X.prog X.w) X.A X.env X.xe) (hc : PT X c (tT X.K M W tc)) (hb : PSs X body (tS X.K M W f)) : PS X (.While c body [] pos) (tS X.K M W (whileF n tc f)) := by
  refine PS.imp (ps_while hp hc hb) fun D σ H ⟨Fo, G, δ, er, q⟩ => ?_
  refine ⟨fun m σ H => ∃ G δ, ER X.K M.tp Fo G H δ σ ∧ PF X.K M W Fo G (whileF m tc f δ) D, ⟨n, G, δ, er, q⟩, ?_⟩
  rintro m σ H ⟨G, δ, er, q⟩
  cases m with
  | zero => exact False.elim q
  | succ m =>
    unfold whileF at q
    refine ⟨Fo, G, δ, er, PX.mono (PF.bind er q) fun G1 H1 b t1 ⟨er1, q1⟩ => ?_⟩
    cases b with
    | false => exact q1 G1 σ H1 .refl er1
    | true =>
      refine ⟨fun σ' H' => ∃ G δ, ER X.K M.tp Fo G H' δ σ' ∧ PF X.K M W Fo G (whileF m tc f δ) D, fun σ' H' z => ⟨m, Nat.lt_succ_self m, z⟩, Fo, G1, δ, er1, ?_⟩
      cases z : f δ with
      | next δ1 => simp only [z] at q1; exact fun G2 σ2 H2 l2 e2 => ⟨G2, δ1, e2, PF.mono l2 q1⟩
      | cont δ1 => simp only [z] at q1; exact fun G2 σ2 H2 l2 e2 => ⟨G2, δ1, e2, PF.mono l2 q1⟩
      | brk δ1 => simp only [z] at q1; exact q1
      | ret d => simp only [z] at q1; exact q1
      | exc c δ1 => simp only [z] at q1; exact q1
      | bad => simp only [z] at q1; exact False.elim q1
/-- the iterator J walks the data ds -/
def Wk (K : PySem.W.Frag) (tp : Addr → Prop) (G : Hp) (J : It) (ds : List D) : Prop := ∀ (i : Nat) (G1 H1 : Hp), Le G G1 → Le G1 H1 →
  (ds.length ≤ i → J.stop i H1) ∧ ∀ d, ds[i]? = some d → J.go i H1 ∧ ∀ x H2, J.yld i H1 x H2 → ∃ G2, Tr tp G1 H1 G2 H2 ∧ Rep K G2 d x
def tI (K : PySem.W.Frag) (M : Mo) (W : WX) (it : Env → R (List D)) : TI := fun σ H R => ∃ Fo G δ, ER K M.tp Fo G H δ σ ∧ PX M W σ G H (it δ) fun G' H' ds => ∀ J, Wk K M.tp G' J ds → R J H'
theorem ds_for {tg iter : Expr} {t : Tg} {it : Env → R (List D)} (hp : PassesOwn (model X.prog X.w) X.A X.env X.xe) (hc : X.calm = true) (hi : PI X tg iter (tI X.K M W it)) (hg : PG X tg (tG X.K M t)) (hb : PSs X body (tS X.K M W f))
    (hs : ∀ x, foldedSetIterable iter X.env x = pure x := by intro _; rfl) : PS X (.For tg iter body [] pos) (tS X.K M W (sFor t it f)) := by
  refine PS.imp (ps_for hp hc hi hg hb hs) fun D σ H ⟨Fo, G, δ, er, q⟩ => ?_
  refine ⟨Fo, G, δ, er, PX.mono (PF.bind er q) fun G1 H1 ds t1 ⟨er1, q1⟩ J wk => ?_⟩
  refine ⟨fun i m σ H => m = ds.length - i ∧ i ≤ ds.length ∧ ∃ G2 δ2, Le G1 G2 ∧ ER X.K M.tp Fo G2 H δ2 σ ∧ PF X.K M W Fo G2 (forF t f (ds.drop i) δ2) D, ⟨ds.length, by simp, Nat.zero_le _, G1, δ, .refl, er1, q1⟩, ?_⟩
  rintro i m σ H ⟨rfl, hi', G2, δ2, l2, er2, q2⟩
  obtain ⟨w1, w2⟩ := wk i G2 H l2 er2.gh
  by_cases hlt : i < ds.length
  · rw [List.drop_eq_getElem_cons hlt] at q2
    obtain ⟨go, yl⟩ := w2 ds[i] (List.getElem?_eq_getElem hlt)
    refine .inr ⟨go, fun σ' H' => ∃ G3 δ3, Le G1 G3 ∧ ER X.K M.tp Fo G3 H' δ3 σ' ∧ PF X.K M W Fo G3 (forF t f (ds.drop (i + 1)) δ3) D, fun σ' H' z => ⟨ds.length - (i + 1), by omega, rfl, hlt, z⟩, fun x H3 y => ?_⟩
    obtain ⟨G3, t3, rx⟩ := yl x H3 y
    unfold forF at q2
    cases z : t.put ds[i] δ2 with
    | none => simp only [z] at q2; exact False.elim q2
    | some δ3 =>
      simp only [z] at q2
      refine ⟨Fo, G3, δ2, ds[i], δ3, er2.tr t3, rx, z, fun σ' er' _ => ⟨Fo, G3, δ3, er', ?_⟩⟩
      have q3 := PF.mono t3.1 q2
      have l3 := l2.trans t3.1
      cases zf : f δ3 with
      | next δ4 => simp only [zf] at q3; exact fun G5 σ5 H5 l5 e5 => ⟨G5, δ4, l3.trans l5, e5, PF.mono l5 q3⟩
      | cont δ4 => simp only [zf] at q3; exact fun G5 σ5 H5 l5 e5 => ⟨G5, δ4, l3.trans l5, e5, PF.mono l5 q3⟩
      | brk δ4 => simp only [zf] at q3; exact q3
      | ret d => simp only [zf] at q3; exact q3
      | exc c δ4 => simp only [zf] at q3; exact q3
      | bad => simp only [zf] at q3; exact False.elim q3
  · have e : ds.drop i = [] := List.drop_eq_nil_of_le (by omega)
    rw [e] at q2
    exact .inl ⟨w1 (by omega), q2 G2 σ H .refl er2⟩

/-! ### what is walked -/
def itD : D → Option (List D)
  | .lst xs => some xs
  | .tup xs => some xs
  | .str z => some (z.cps.toList.map fun c => .str ⟨#[c]⟩)
  | _ => none
def iSeq (f : Ev) : Env → R (List D) := fun δ => f δ >>= fun d => ofO (itD d)
theorem Wk.list {K : PySem.W.Frag} {tp : Addr → Prop} {G : Hp} {a : Addr} {ds : List D} {vs : List V} (s : SqL K G a vs) (r : Reps K G ds vs) : Wk K tp G (Itl K a) ds := fun i G1 H1 l l1 =>
  ⟨fun h => ⟨vs, l1.sqL (l.sqL s), by rw [r.length]; exact h⟩, fun d h => by
    obtain ⟨v, ev, rv⟩ := r.get h
    refine ⟨⟨vs, v, l1.sqL (l.sqL s), ev⟩, fun x H2 y => ?_⟩
    obtain ⟨e, y⟩ := y
    subst e
    have e2 := y vs (l1.sqL (l.sqL s))
    rw [ev] at e2; cases e2
    exact ⟨G1, .refl l1, Rep.mono l _ _ rv⟩⟩
theorem Wk.tuple {K : PySem.W.Frag} {tp : Addr → Prop} {G : Hp} {a : Addr} {ds : List D} {vs : List V} (s : SqT K G a vs) (r : Reps K G ds vs) : Wk K tp G (Itt K a) ds := fun i G1 H1 l l1 =>
  ⟨fun h => ⟨vs, l1.sqT (l.sqT s), by rw [r.length]; exact h⟩, fun d h => by
    obtain ⟨v, ev, rv⟩ := r.get h
    refine ⟨⟨vs, v, l1.sqT (l.sqT s), ev⟩, fun x H2 y => ?_⟩
    obtain ⟨e, y⟩ := y
    subst e
    have e2 := y vs (l1.sqT (l.sqT s))
    rw [ev] at e2; cases e2
    exact ⟨G1, .refl l1, Rep.mono l _ _ rv⟩⟩
theorem Wk.str {K : PySem.W.Frag} {tp : Addr → Prop} {G : Hp} {z : Str} : Wk K tp G (Its z) (z.cps.toList.map fun c => .str ⟨#[c]⟩) := fun i G1 H1 l l1 =>
  ⟨fun h => by simpa [Its] using h, fun d h => by
    rw [List.getElem?_map] at h
    cases hc : z.cps.toList[i]? with
    | none => rw [hc] at h; cases h
    | some c =>
      rw [hc] at h
      cases h
      have hc' : z.cps[i]? = some c := by rw [← Array.getElem?_toList]; exact hc
      refine ⟨(Array.getElem?_eq_some_iff.mp hc').1, fun x H2 y => ?_⟩
      obtain ⟨e, c2, e2, ex⟩ := y
      subst e
      rw [hc'] at e2; cases e2
      exact ⟨G1, .refl l1, ex⟩⟩
theorem di_seq {tg iter : Expr} (he : PE X iter (tE X.K M W fe)) : PI X tg iter (tI X.K M W (iSeq fe)) := by
  refine ⟨fun pins s σ H R I h => ?_⟩
  obtain ⟨Fo, G, δ, er, q⟩ := h
  have q' := PX.bind q
  refine thn (he.run pins s σ H (fun v H1 => ∃ G1 d, Rep X.K G1 d v ∧ Le G1 H1 ∧ PX M W σ G1 H1 (ofO (itD d)) fun G' H' ds => ∀ J, Wk X.K M.tp G' J ds → R J H') I ⟨Fo, G, δ, er, PX.mono q' fun G1 H1 d t1 q1 v rv => ⟨G1, d, rv, t1.2.1, q1⟩⟩) fun v s1 ⟨x, H1, I1, r1, G1, d, rv, l1, q1⟩ => ?_
  cases d with
  | lst ds =>
    obtain ⟨a, vs, ev, sv, rvs⟩ := rv
    subst ev
    cases r1
    have q2 : ∀ G' H', Tr M.tp G1 H1 G' H' → ∀ J, Wk X.K M.tp G' J ds → R J H' := q1
    obtain ⟨its, rv', p, hz⟩ := I1.list (l1.sqL sv)
    refine wpAny_pyIter_list p.isList ?_
    refine ⟨s1.heap.objs.size, [s1.heap.objs.size], _, _, H1, rfl, I1.kept (t' := s1.toks) fun b o e => Heap.get?_push_of_some _ e, turn_list a _, ⟨_, Heap.get?_push_size _ rfl, rfl, rfl⟩, fun b hb => ?_, q2 G1 H1 (.refl l1) _ (Wk.list sv rvs)⟩
    have e : b = s1.heap.objs.size := by simpa using hb
    subst e
    exact I1.fpOk (Nat.le_refl _) (I1.hok.fresh (Nat.le_refl _))
  | tup ds =>
    obtain ⟨a, vs, ev, sv, rvs⟩ := rv
    subst ev
    cases r1
    have q2 : ∀ G' H', Tr M.tp G1 H1 G' H' → ∀ J, Wk X.K M.tp G' J ds → R J H' := q1
    obtain ⟨its, rv', p, hz⟩ := I1.tuple (l1.sqT sv)
    refine wpAny_pyIter_tuple (show s1.heap.IsTuple a its.toArray from p) ?_
    refine ⟨s1.heap.objs.size, [s1.heap.objs.size], _, _, H1, rfl, I1.kept (t' := s1.toks) fun b o e => Heap.get?_push_of_some _ e, turn_tuple a _, ⟨_, Heap.get?_push_size _ rfl, rfl, rfl⟩, fun b hb => ?_, q2 G1 H1 (.refl l1) _ (Wk.tuple sv rvs)⟩
    have e : b = s1.heap.objs.size := by simpa using hb
    subst e
    exact I1.fpOk (Nat.le_refl _) (I1.hok.fresh (Nat.le_refl _))
  | str z =>
    have ev : x = .str z := rv
    subst ev
    obtain ⟨t, rfl⟩ := r1
    have q2 : ∀ G' H', Tr M.tp G1 H1 G' H' → ∀ J, Wk X.K M.tp G' J _ → R J H' := q1
    have q3 := q2 G1 H1 (.refl l1) _ Wk.str
    cases ha : z.cps.all (· < 128)
    · exact wpAny_pyIter_wide ha (pi_one (tk := s1.toks) I1 _ (turn_str _ z t "str_iterator" (.inr rfl)) ⟨_, Heap.get?_push_size _ rfl, rfl, rfl⟩ q3)
    · exact wpAny_pyIter_ascii ha (pi_one (tk := s1.toks) I1 _ (turn_str _ z t "str_ascii_iterator" (.inl rfl)) ⟨_, Heap.get?_push_size _ rfl, rfl, rfl⟩ q3)
  | _ => exact False.elim q1
/-- range(n), range(a, b) -/
def rngD : List D → Option (List D)
  | [.int j] => if lg j 62 = true then some ((List.range j.toNat).map fun (k : Nat) => .int k) else none
  | [.int i, .int j] => if lg i 62 = true ∧ lg j 62 = true then some ((List.range (j - i).toNat).map fun (k : Nat) => .int (i + k)) else none
  | _ => none
def iRng (fs : Env → R (List D)) : Env → R (List D) := fun δ => fs δ >>= fun ds => ofO (rngD ds)
theorem Wk.range {K : PySem.W.Frag} {tp : Addr → Prop} {G : Hp} {lo : Int} {n : Nat} : Wk K tp G (Itr lo n) ((List.range n).map fun (k : Nat) => .int (lo + k)) := fun i G1 H1 l l1 =>
  ⟨fun h => by simpa [Itr] using h, fun d h => by
    rw [List.getElem?_map] at h
    by_cases hi : i < n
    · rw [List.getElem?_range hi] at h
      cases h
      refine ⟨hi, fun x H2 y => ?_⟩
      obtain ⟨e, ex⟩ := y
      subst e
      exact ⟨G1, .refl l1, ex⟩
    · rw [List.getElem?_eq_none (by simpa using Nat.le_of_not_lt hi)] at h; cases h⟩
theorem di_range1 {tg a : Expr} {fs : Env → R (List D)} {p : Pos} (hg : Gl X "range") (hm : X.mg "range" = none) (ha : PA X [a] (tA X.K M W fs)) (hs : starEach [a] X.env = [(false, eval a X.env)] := by rfl) (h1 : ∀ δ ds, fs δ = .ok ds → ds.length = 1) : PI X tg (.Call (.Name "range" p) [a] [] pos) (tI X.K M W (iRng fs)) := by
  refine ⟨fun pins s σ H R I h => (pi_range1 hg hm ha hs).run pins s σ H R I ?_⟩
  obtain ⟨Fo, G, δ, er, q⟩ := h
  cases z : fs δ with
  | bad => unfold iRng at q; rw [z] at q; exact False.elim q
  | exc c => exact ⟨Fo, G, δ, er, by unfold iRng at q; rw [z] at q ⊢; exact q⟩
  | ok ds0 =>
    have q' := PX.bind q
    rw [z] at q'
    refine ⟨Fo, G, δ, er, ?_⟩
    rw [z]
    intro G1 H1 t1 vs rvs
    have hl := h1 δ ds0 z
    have q1 := q' G1 H1 t1
    match ds0, hl, rvs, q1 with
    | [d], _, ⟨v, r, e, rv, er'⟩, q1 =>
      cases er'
      cases d with
      | int j =>
        have q2 : PX M W σ G1 H1 (ofO (if lg j 62 = true then some ((List.range j.toNat).map fun (k : Nat) => D.int k) else none)) fun G' H' ds => ∀ J, Wk X.K M.tp G' J ds → R J H' := q1
        split at q2
        · rename_i hz
          subst e
          cases rv
          obtain ⟨hz1, hz2⟩ := lg_lt hz (by decide)
          refine ⟨j, rfl, Int.le_of_lt hz1, hz2, q2 G1 H1 (.refl t1.2.1) _ ?_⟩
          have := Wk.range (K := X.K) (tp := M.tp) (G := G1) (lo := 0) (n := j.toNat)
          simpa using this
        · exact False.elim q2
      | _ => exact False.elim q1
theorem di_range2 {tg a b : Expr} {fs : Env → R (List D)} {p : Pos} (hg : Gl X "range") (hm : X.mg "range" = none) (ha : PA X [a, b] (tA X.K M W fs)) (hs : starEach [a, b] X.env = [(false, eval a X.env), (false, eval b X.env)] := by rfl) (hs2 : starEach [b] X.env = [(false, eval b X.env)] := by rfl) (h1 : ∀ δ ds, fs δ = .ok ds → ds.length = 2) : PI X tg (.Call (.Name "range" p) [a, b] [] pos) (tI X.K M W (iRng fs)) := by
  refine ⟨fun pins s σ H R I h => (pi_range2 hg hm ha hs hs2).run pins s σ H R I ?_⟩
  obtain ⟨Fo, G, δ, er, q⟩ := h
  cases z : fs δ with
  | bad => unfold iRng at q; rw [z] at q; exact False.elim q
  | exc c => exact ⟨Fo, G, δ, er, by unfold iRng at q; rw [z] at q ⊢; exact q⟩
  | ok ds0 =>
    have q' := PX.bind q
    rw [z] at q'
    refine ⟨Fo, G, δ, er, ?_⟩
    rw [z]
    intro G1 H1 t1 vs rvs
    have hl := h1 δ ds0 z
    have q1 := q' G1 H1 t1
    match ds0, hl, rvs, q1 with
    | [d, d'], _, ⟨v, r, e, rv, v', r', e', rv', er'⟩, q1 =>
      cases er'
      cases d with
      | int i =>
        cases d' with
        | int j =>
          have q2 : PX M W σ G1 H1 (ofO (if lg i 62 = true ∧ lg j 62 = true then some ((List.range (j - i).toNat).map fun (k : Nat) => D.int (i + k)) else none)) fun G' H' ds => ∀ J, Wk X.K M.tp G' J ds → R J H' := q1
          split at q2
          · rename_i hz
            subst e
            subst e'
            cases rv
            cases rv'
            obtain ⟨ha1, ha2⟩ := lg_lt hz.1 (by decide)
            obtain ⟨hb1, hb2⟩ := lg_lt hz.2 (by decide)
            exact ⟨i, j, rfl, ⟨Int.le_of_lt ha1, ha2, Int.le_of_lt hb1, hb2⟩, q2 G1 H1 (.refl t1.2.1) _ Wk.range⟩
          · exact False.elim q2
        | _ => exact False.elim q1
      | _ => cases d' <;> exact False.elim q1

/-! ### list comprehensions -/
def wipeE (δ : Env) : List Nat → Env
  | [] => δ
  | v :: vs => (wipeE δ vs).set v .no
def mapF (t : Tg) (c : Tv) (f : Ev) (δ : Env) : List D → R (List D)
  | [] => .ok []
  | d :: ds => match t.put d δ with
    | none => .bad
    | some δ1 => match c δ1 with
      | .ok true => match f δ1 with
        | .ok y => mapF t c f δ ds >>= fun ys => .ok (y :: ys)
        | _ => .bad
      | .ok false => mapF t c f δ ds
      | _ => .bad
def tYesD : Tv := fun _ => .ok true
/-- the new list of a comprehension -/
def nLc (vs : List Nat) (t : Tg) (it : Env → R (List D)) (c : Tv) (f : Ev) : Env → R (List D) := fun δ => it δ >>= fun ds => mapF t c f (wipeE δ vs) ds >>= fun ys => ofO (if ys.length ≤ sizeLine then some ys else none)
def eN (f : Env → R (List D)) : Ev := fun δ => f δ >>= fun xs => .ok (.lst xs)
end
end Dl

set_option Elab.async false
set_option linter.all false
set_option maxRecDepth 100000
set_option maxHeartbeats 2000000
/-! List comprehensions, raise, try, defs. -/
namespace Dl
open PySem PySem.Spec PyProof.Rows L2
abbrev W0 : WX := fun _ _ _ _ => False
section
variable {K : PySem.W.Frag} {tp : Addr → Prop} {Fo G H G' H' : Hp} {δ : Env} {σ : L2.St}
theorem ER.wipe (e : ER K tp Fo G H δ σ) : ∀ vs : List Nat, ER K tp Fo G H (wipeE δ vs) (L2.wipe σ vs)
  | [] => e
  | v :: vs => (ER.wipe e vs).setNo v none
def del (H : Hp) (D : Addr) : Hp := fun a => if a = D then none else H a
theorem del_at {D : Addr} : del H D D = none := if_pos rfl
theorem del_ne {D a : Addr} (h : a ≠ D) : del H D a = H a := if_neg h
theorem del_upd {D : Addr} {o : HO} (n : H D = none) : del (upd H D o) D = H := by
  funext a
  by_cases z : a = D
  · subst z; rw [del_at, n]
  · rw [del_ne z, upd_ne z]
theorem del_some {D a : Addr} {o : HO} (h : del H D a = some o) : a ≠ D ∧ H a = some o := by
  by_cases z : a = D
  · subst z; rw [del_at] at h; cases h
  · rw [del_ne z] at h; exact ⟨z, h⟩
/-- one more thing that is not ours -/
theorem ER.alien {D : Addr} (e : ER K tp Fo G (del H D) δ σ) {xs : List V} (h : H D = some (.lst xs)) (n : G D = none) : ER K tp (upd Fo D (.lst xs)) G H δ σ where
  gh := fun a o q => (del_some (e.gh a o q)).2
  fh := fun a o q => by
    by_cases z : a = D
    · subst z; rw [upd_same] at q; cases q; exact h
    · rw [upd_ne z] at q; exact (del_some (e.fh a o q)).2
  fg := fun a o q => by
    by_cases z : a = D
    · subst z
      refine ⟨n, fun t => ?_⟩
      obtain ⟨⟨ps, q2, _⟩, _⟩ := e.tb a t
      exact (del_some q2).1 rfl
    · rw [upd_ne z] at q; exact e.fg a o q
  tb := fun a t => by
    obtain ⟨⟨ps, q, r⟩, g⟩ := e.tb a t
    exact ⟨⟨ps, (del_some q).2, r⟩, g⟩
  len := e.len
  val := e.val
  own := fun i ds q => by
    obtain ⟨p, vs, h1, h2, h3, h4, h5⟩ := e.own i ds q
    obtain ⟨z, h4'⟩ := del_some h4
    exact ⟨p, vs, h1, h2, by rw [upd_ne z]; exact h3, h4', h5⟩
  sep := e.sep
/-- behind a step the thing at D is left out again -/
theorem Tr.del {tp : Addr → Prop} {D : Addr} {xs : List V} (t : Tr tp G H G' H') (h : H D = some (.lst xs)) (n : G D = none) (nt : ¬ tp D) (l : Le G (del H D)) : Tr tp G (del H D) G' (del H' D) ∧ H' D = some (.lst xs) ∧ G' D = none := by
  obtain ⟨h1, n1⟩ := t.2.2.1 D _ n nt h
  refine ⟨⟨t.1, fun a o q => ?_, fun a o g nt q => ?_, fun a ta g q => ?_⟩, h1, n1⟩
  · have z : a ≠ D := ne_of_none q n1
    rw [del_ne z]; exact t.2.1 a o q
  · obtain ⟨z, q'⟩ := del_some q
    obtain ⟨r1, r2⟩ := t.2.2.1 a o g nt q'
    exact ⟨by rw [del_ne z]; exact r1, r2⟩
  · obtain ⟨ps, q1, q2⟩ := q
    obtain ⟨z, q'⟩ := del_some q1
    obtain ⟨⟨ps', r1, r3⟩, r2⟩ := t.2.2.2 a ta g ⟨ps, q', q2⟩
    exact ⟨⟨ps', by rw [del_ne z]; exact r1, r3⟩, r2⟩
theorem wipe_get (σ : L2.St) (j : Nat) : ∀ vs : List Nat, (L2.wipe σ vs)[j]? = if j ∈ vs ∧ j < σ.length then some none else σ[j]?
  | [] => by simp [L2.wipe]
  | v :: vs => by
    unfold L2.wipe
    rw [List.getElem?_set, wipe_get σ j vs, wipe_length]
    by_cases h : v = j
    · subst h
      by_cases l : v < σ.length
      · simp [l]
      · simp [l]
    · have : ¬ j = v := fun z => h z.symm
      simp [h, this]
theorem wipe_but {is vs : List Nat} {σ2 : L2.St} (hs : ∀ i ∈ is, i ∈ vs) (b : But is (L2.wipe σ vs) σ2) : L2.wipe σ2 vs = L2.wipe σ vs := by
  have hl : σ2.length = σ.length := b.1.trans (wipe_length σ vs)
  apply List.ext_getElem?
  intro j
  rw [wipe_get, wipe_get, hl]
  by_cases h : j ∈ vs
  · by_cases l : j < σ.length
    · simp [h, l]
    · have h1 : σ2[j]? = none := List.getElem?_eq_none (by omega)
      have h2 : σ[j]? = none := List.getElem?_eq_none (by omega)
      simp [l, h1, h2]
  · have q := b.2 j fun z => h (hs j z)
    rw [wipe_get] at q
    simp [h] at q ⊢
    exact q
end
section
variable {X : Cx} {M : Mo} {W : WX} {pos : Pos}
theorem PTs.imp {ifs : List Expr} {t t' : TT} (h : PTs X ifs t) (i : ∀ σ H Q, t' σ H Q → t σ H Q) : PTs X ifs t' := ⟨fun pins s σ H Q I q => h.run pins s σ H Q I (i σ H Q q)⟩
theorem dts_nil : PTs X [] (tT X.K M W tYesD) := PTs.imp pts_nil fun σ H Q ⟨Fo, G, δ, er, q⟩ => q G H (.refl er.gh)
theorem dts_one {c : Expr} {tc : Tv} (h : PT X c (tT X.K M W tc)) : PTs X [c] (tT X.K M W tc) := pts_one h
theorem dn_lc {elt tg iter : Expr} {ifs : List Expr} {scope : Scope} (own : List (Str × Nat)) {t : Tg} {it : Env → R (List D)} {c : Tv} {f : Ev} (hc : X.calm = true) (hN : X.N.Nodup) (hi : PI X tg iter (tI X.K M W it)) (ok : BlkOk X.N X.env.scope scope own) (hat : ∀ i ∈ t.at, i ∈ own.map (·.2))
    (hg : ∀ (s : Shared) (H : Hp) (C : Addr) (cl : List (Str × Addr)) (fp : List Addr), PG (X.blk s H scope (compEnvC scope cl C X.env) fp) tg (tG X.K M t)) (ht : ∀ (s : Shared) (H : Hp) (C : Addr) (cl : List (Str × Addr)) (fp : List Addr), PTs (X.blk s H scope (compEnvC scope cl C X.env) fp) ifs (tT X.K M W0 c))
    (he : ∀ (s : Shared) (H : Hp) (C : Addr) (cl : List (Str × Addr)) (fp : List Addr), PE (X.blk s H scope (compEnvC scope cl C X.env) fp) elt (tE X.K M W0 f)) (hs : ∀ x, foldedSetIterable iter X.env x = pure x := by intro _; rfl) :
    PE X (.ListComp elt [⟨tg, iter, ifs, 0⟩] scope pos) (tN X.K M W (nLc (own.map (·.2)) t it c f)) := by
  refine PE.imp (pe_lc hc hN hi ok hg ht he hs) fun σ H Q ⟨Fo, G, δ, er, q⟩ => ⟨Fo, G, δ, er, ?_⟩
  refine PX.mono (PX.bind q) fun G1 H1 ds t1 q1 J wk D nD => ?_
  have er1 := er.tr t1
  generalize hvs : own.map (·.2) = vs at *
  cases hm : mapF t c f (wipeE δ vs) ds with
  | bad => rw [hm] at q1; exact False.elim q1
  | exc x =>
    exfalso
    -- mapF never raises
    have : ∀ ds : List Dl.D, mapF t c f (wipeE δ vs) ds ≠ .exc x := by
      intro ds
      induction ds with
      | nil => intro h; cases h
      | cons d ds ih =>
        intro h
        unfold mapF at h
        split at h
        · cases h
        · split at h
          · split at h
            · cases h2 : mapF t c f (wipeE δ vs) ds with
              | ok ys => rw [h2] at h; cases h
              | exc y => rw [h2] at h; cases h; exact ih h2
              | bad => rw [h2] at h; cases h
            · cases h
          · exact ih h
          · cases h
    exact this ds hm
  | ok tot =>
    rw [hm] at q1
    have q2 : PX M W σ G1 H1 (ofO (if tot.length ≤ sizeLine then some tot else none)) fun G' H' ds => ∀ p vs, H' p = none → Reps X.K G' ds vs → Q (.ref p) (upd H' p (.lst vs)) := q1
    by_cases hz : tot.length ≤ sizeLine
    · rw [if_pos hz] at q2
      have q3 : ∀ G' H', Tr M.tp G1 H1 G' H' → ∀ p vs, H' p = none → Reps X.K G' tot vs → Q (.ref p) (upd H' p (.lst vs)) := q2
      have ntD : ¬ M.tp D := fun z => by
        obtain ⟨⟨ps, e, _⟩, _⟩ := er1.tb D z
        rw [nD] at e; cases e
      -- the invariant
      let Iv : Nat → Hp → Prop := fun i H => ∃ G2 acc vacc ys, H D = some (.lst vacc) ∧ G2 D = none ∧ Tr M.tp G1 H1 G2 (Dl.del H D) ∧ Reps X.K G2 acc vacc ∧ mapF t c f (wipeE δ vs) (ds.drop i) = .ok ys ∧ acc ++ ys = tot
      refine ⟨fun i m H => m = ds.length - i ∧ i ≤ ds.length ∧ Iv i H, ⟨ds.length, by simp, Nat.zero_le _, G1, [], [], tot, upd_same, none_of_le er1.gh nD, by rw [del_upd nD]; exact .refl er1.gh, rfl, hm, rfl⟩, ?_⟩
      rintro i m H2 ⟨rfl, hle, G2, acc, vacc, ys, hD, gD, t2, racc, hys, htot⟩
      have l2 : Le G2 H2 := fun a o q => (del_some (t2.2.1 a o q)).2
      obtain ⟨w1, w2⟩ := wk i G2 H2 t2.1 l2
      by_cases hlt : i < ds.length
      · rw [List.drop_eq_getElem_cons hlt] at hys
        obtain ⟨go, yl⟩ := w2 ds[i] (List.getElem?_eq_getElem hlt)
        refine .inr ⟨go, Iv (i + 1), fun H' z => ⟨ds.length - (i + 1), by omega, rfl, hlt, z⟩, fun x H3 y => ?_⟩
        obtain ⟨G3, t3, rx⟩ := yl x H3 y
        obtain ⟨t3', hD3, gD3⟩ := t3.del hD gD ntD t2.2.1
        have t13 := t2.trans t3'
        unfold mapF at hys
        cases zp : t.put ds[i] (wipeE δ vs) with
        | none => rw [zp] at hys; cases hys
        | some δ1 =>
          rw [zp] at hys
          have er3 : ER X.K M.tp (upd Fo D (.lst vacc)) G3 H3 (wipeE δ vs) (L2.wipe σ vs) := ((er1.tr t13).alien hD3 gD3).wipe vs
          refine ⟨upd Fo D (.lst vacc), G3, wipeE δ vs, ds[i], δ1, er3, rx, zp, fun σ' er' bt => ⟨wipe_but hat bt, ?_⟩⟩
          refine ⟨upd Fo D (.lst vacc), G3, δ1, er', ?_⟩
          cases zc : c δ1 with
          | bad => simp only [zc] at hys; cases hys
          | exc _ => simp only [zc] at hys; cases hys
          | ok b =>
            intro G4 H4 t4
            obtain ⟨t4', hD4, gD4⟩ := t4.del hD3 gD3 ntD t3'.2.1
            cases b with
            | false =>
              simp only [zc] at hys
              show Iv (i + 1) H4
              exact ⟨G4, acc, vacc, ys, hD4, gD4, t13.trans t4', Reps.mono (t3.1.trans t4.1) _ _ racc, hys, htot⟩
            | true =>
              simp only [zc] at hys
              refine ⟨upd Fo D (.lst vacc), G4, δ1, er'.tr t4, ?_⟩
              cases zf : f δ1 with
              | bad => simp only [zf] at hys; cases hys
              | exc _ => simp only [zf] at hys; cases hys
              | ok y =>
                simp only [zf] at hys
                intro G5 H5 t5 v rv
                obtain ⟨t5', hD5, gD5⟩ := t5.del hD4 gD4 ntD t4'.2.1
                cases zr : mapF t c f (wipeE δ vs) (ds.drop (i + 1)) with
                | bad => rw [zr] at hys; cases hys
                | exc _ => rw [zr] at hys; cases hys
                | ok zs =>
                  rw [zr] at hys
                  have hys' : y :: zs = ys := by
                    have := hys
                    simp only [R.bind_ok] at this
                    cases this
                    rfl
                  have htot2 : (acc ++ [y]) ++ zs = tot := by rw [List.append_assoc, ← htot, ← hys']; rfl
                  have hlen : acc.length + 1 ≤ tot.length := by rw [← htot2]; simp
                  have racc5 := Reps.mono ((t3.1.trans t4.1).trans t5.1) _ _ racc
                  refine ⟨vacc, hD5, by rw [racc.length]; omega, ?_⟩
                  show Iv (i + 1) (upd H5 D (.lst (vacc ++ [v])))
                  refine ⟨G5, acc ++ [y], vacc ++ [v], zs, upd_same, gD5, ?_, racc5.append (.one rv), zr, htot2⟩
                  have e5 : Dl.del (upd H5 D (.lst (vacc ++ [v]))) D = Dl.del H5 D := by
                    funext a
                    by_cases z : a = D
                    · subst z; rw [del_at, del_at]
                    · rw [del_ne z, del_ne z, upd_ne z]
                  rw [e5]
                  exact (t13.trans t4').trans t5'
      · have e : ds.drop i = [] := List.drop_eq_nil_of_le (by omega)
        rw [e] at hys
        have hys0 : ys = [] := by
          have : (R.ok [] : R (List Dl.D)) = .ok ys := hys
          cases this
          rfl
        subst hys0
        rw [List.append_nil] at htot
        subst htot
        refine .inl ⟨w1 (by omega), ?_⟩
        have eH : upd (Dl.del H2 D) D (.lst vacc) = H2 := by
          funext a
          by_cases z : a = D
          · subst z; rw [upd_same, hD]
          · rw [upd_ne z, del_ne z]
        rw [← eH]
        exact q3 G2 (Dl.del H2 D) t2 D vacc del_at racc
    · rw [if_neg hz] at q2; exact False.elim q2
/-- a new list, frozen at once -/
theorem de_n {e : Expr} {fn : Env → R (List D)} (h : PE X e (tN X.K M W fn)) : PE X e (tE X.K M W (eN fn)) := by
  refine PE.imp h fun σ H Q ⟨Fo, G, δ, er, q⟩ => ⟨Fo, G, δ, er, PX.mono (PX.bind q) fun G1 H1 ds t1 q1 p vs n rvs => ?_⟩
  exact q1 _ _ (Tr.new t1.2.1 n) _ ⟨p, vs, rfl, SqL.of upd_same, Reps.mono (Le.new (none_of_le t1.2.1 n)) _ _ rvs⟩
end
end Dl

set_option Elab.async false
set_option linter.all false
set_option maxRecDepth 100000
set_option maxHeartbeats 2000000
/-! raise, try, defs, lent lists, texts. -/
namespace Dl
open PySem PySem.Spec PyProof.Rows L2

/-! ### lent lists -/
mutual
def D.pure : D → Bool
  | .lst _ => false
  | .tup xs => D.pures xs
  | _ => true
def D.pures : List D → Bool
  | [] => true
  | x :: xs => D.pure x && D.pures xs
end
section
variable {K : PySem.W.Frag} {tp : Addr → Prop} {Fo G H G' H' : Hp} {δ : Env} {σ : L2.St} {p : Addr} {ws : List V}
theorem SqT.del {a : Addr} {vs : List V} (h : G p = some (.lst ws)) (s : SqT K G a vs) : SqT K (del G p) a vs := by
  rcases s with (s | ⟨o, s⟩) | s
  · exact .inl (.inl (by rw [del_ne (fun z => by rw [z, h] at s; cases s)]; exact s))
  · exact .inl (.inr ⟨o, by rw [del_ne (fun z => by rw [z, h] at s; cases s)]; exact s⟩)
  · exact .inr s
mutual
theorem Rep.del (h : G p = some (.lst ws)) : ∀ (d : D) (v : V), d.pure = true → Rep K G d v → Rep K (del G p) d v
  | .non, _, _, r => r
  | .bl _, _, _, r => r
  | .int _, _, _, r => r
  | .str _, _, _, r => r
  | .tup ds, _, hp, ⟨a, vs, e, s, r⟩ => ⟨a, vs, e, SqT.del h s, Reps.del h ds vs (by simpa [D.pure] using hp) r⟩
  | .lst _, _, hp, _ => by simp [D.pure] at hp
theorem Reps.del (h : G p = some (.lst ws)) : ∀ (ds : List D) (vs : List V), D.pures ds = true → Reps K G ds vs → Reps K (del G p) ds vs
  | [], _, _, r => r
  | d :: ds, _, hp, ⟨v, r, e, h1, h2⟩ => by
    simp only [D.pures, Bool.and_eq_true] at hp
    exact ⟨v, r, e, Rep.del h d v hp.1 h1, Reps.del h ds r hp.2 h2⟩
end
theorem Tr.back (t : Tr tp (upd G p (.lst ws)) H G' H') (n : G p = none) (nt : ¬ tp p) (h : H p = some (.lst ws)) : Tr tp G H (Dl.del G' p) H' ∧ G' p = some (.lst ws) := by
  have hg : G' p = some (.lst ws) := t.1 p _ upd_same
  have hh : H' p = some (.lst ws) := t.2.1 p _ hg
  refine ⟨⟨fun a o q => ?_, fun a o q => t.2.1 a o (del_some q).2, fun a o g nta q => ?_, fun a ta g q => ?_⟩, hg⟩
  · have z : a ≠ p := ne_of_none q n
    rw [del_ne z]; exact t.1 a o (by rw [upd_ne z]; exact q)
  · by_cases z : a = p
    · subst z; rw [h] at q; cases q; exact ⟨hh, del_at⟩
    · rw [del_ne z]; exact t.2.2.1 a o (by rw [upd_ne z]; exact g) nta q
  · have z : a ≠ p := fun z => nt (z ▸ ta)
    rw [del_ne z]; exact t.2.2.2 a ta (by rw [upd_ne z]; exact g) q
end
def eBor (i : Nat) (f : Ev) : Ev := fun δ => f (frz i δ) >>= fun d => if d.pure then .ok d else .bad
section
variable {X : Cx} {M : Mo} {W : WX} {pos : Pos} {e : Expr} {es : List Expr} {f g : Ev}
theorem de_bor (i : Nat) (he : PE X e (tE X.K M W f)) : PE X e (tE X.K M W (eBor i f)) := by
  refine PE.imp he fun σ H Q ⟨Fo, G, δ, er, q⟩ => ?_
  obtain ⟨G1, l1, er1, ⟨e1, e0⟩ | ⟨p, vs, h2, h4, e1⟩⟩ := er.frz i
  · refine ⟨Fo, G, δ, er, ?_⟩
    unfold eBor at q
    rw [e0] at q
    cases y : f δ with
    | bad => rw [y] at q; exact False.elim q
    | exc c => rw [y] at q; exact q
    | ok d =>
      rw [y] at q
      have q' : PX M W σ G H (if d.pure = true then R.ok d else R.bad) fun G' H' d => ∀ v, Rep X.K G' d v → Q v H' := q
      by_cases hp : d.pure = true
      · rw [if_pos hp] at q'; exact q'
      · rw [if_neg hp] at q'; exact False.elim q'
  · subst e1
    refine ⟨Fo, _, frz i δ, er1, ?_⟩
    have nt := er.not_tp h4
    unfold eBor at q
    cases y : f (frz i δ) with
    | bad => rw [y] at q; exact False.elim q
    | exc c =>
      rw [y] at q
      intro G' H' t
      obtain ⟨t', _⟩ := t.back h2 nt h4
      exact q _ H' t'
    | ok d =>
      rw [y] at q
      intro G' H' t v rv
      obtain ⟨t', g'⟩ := t.back h2 nt h4
      have q' : PX M W σ G H (if d.pure = true then R.ok d else R.bad) fun G' H' d => ∀ v, Rep X.K G' d v → Q v H' := q
      by_cases hp : d.pure = true
      · rw [if_pos hp] at q'
        exact q' _ H' t' v (Rep.del g' d v hp rv)
      · rw [if_neg hp] at q'; exact False.elim q'
end
end Dl

set_option Elab.async false
set_option linter.all false
set_option maxRecDepth 100000
set_option maxHeartbeats 2000000
/-! raise, try, defs, texts. -/
namespace Dl
open PySem PySem.Spec PyProof.Rows L2
section
variable {X : Cx} {M : Mo} {W : WX} {pos : Pos} {e : Expr} {es : List Expr} {f g : Ev}
/-- raise X('..') -/
theorem ds_raise {c : String} {C : Addr} {x m : Str} {j : Nat} {p p2 pos2 : Pos} {bmB : List Value} {B newId initId : String} (hc : X.calm = true) (tk : Takes X W) (ec : M.ec c = .ref C) (F : ExcBaseFacts B newId initId bmB) (q : PySem.W.excIn X.K C bmB newId = true) (gC : X.mg x = some (.ref C)) (kC : PySem.W.keepIn X.K (.ref C) = true)
    (r : Raises X (.ref C)) (hg : Gl X x) (hdb : (x == ("__debug__" : Str)) = false := by decide) : PS X (.Raise (some (.Call (.Name x p) [.Constant (.str m) j p2] [] pos)) none pos2) (tS X.K M W (sRaise c)) := by
  refine PS.imp (ps_raise hc tk (pmk_own F q gC kC r hg hdb)) fun D σ H ⟨Fo, G, δ, er, q⟩ => ?_
  have z := q G σ H .refl er
  rw [ec] at z
  exact z
theorem PF.noX {K : PySem.W.Frag} {M : Mo} {W W' : WX} {Fo G : Hp} {r : Fl} {D : Ends} (h : PF K M W Fo G (Dl.noX r) D) : PF K M W' Fo G r D := by
  cases r with
  | exc c δ => exact False.elim h
  | next δ => exact h
  | brk δ => exact h
  | cont δ => exact h
  | ret d => exact h
  | bad => exact h
/-- try: .. except X: .. -/
theorem ds_try {x : Str} {c : Value} {body suite : List Stmt} {b0 : Stmt} {np pos' : Pos} {F1 F2 : Sv} {sub : String → Option Bool} (hs : X.stack = X.env :: X.outer) (hf : X.env.frame = some X.env.locals) (hc : Names X x c) (tk : Takes X W)
    (hsub : ∀ n b, sub n = some b → PySem.W.exmOne X.K (M.ec n) c = some b)
    (hb : ∀ (W' : WX) (pn : List (Addr × Obj)) (xe : Value → Shared → Prop), Takes (X.tr pn xe) W' → PassesOwn (model X.prog X.w) X.A X.env xe → PSs (X.tr pn xe) body (tS X.K M W' F1))
    (hsu : ∀ (a : Addr) (oe : Obj) (pn : List (Addr × Obj)), PSs (X.suite a ((a, oe) :: pn)) (b0 :: suite) (tS X.K M W0 F2)) :
    PS X (.Try body [.ExceptHandler (some (.Name x np)) none (b0 :: suite) pos'] [] [] pos) (tS X.K M W (sTry sub F1 F2)) := by
  refine PS.imp (ps_try_only hs hf hc tk hb (ts := fun _ _ _ => tS X.K M W0 F2) fun a oe cls d pn _ _ => hsu a oe pn) fun D σ H ⟨Fo, G, δ, er, q⟩ => ⟨Fo, G, δ, er, ?_⟩
  unfold sTry at q
  cases z : F1 δ with
  | next δ' => rw [z] at q; exact q
  | brk δ' => rw [z] at q; exact q
  | cont δ' => rw [z] at q; exact q
  | ret d => rw [z] at q; exact q
  | bad => rw [z] at q; exact q
  | exc n δ' =>
    rw [z] at q
    intro G' σ' H' l er'
    show wOnly X.K c _ W D (M.ec n) none σ' H'
    cases y : sub n with
    | none => simp only [y] at q; exact False.elim q
    | some b =>
      simp only [y] at q
      refine ⟨b, hsub n b y, fun eb a na => ?_, fun eb => ?_⟩
      · subst eb
        exact ⟨Fo, G', δ', er', PF.mono l (PF.noX q)⟩
      · subst eb
        exact q G' σ' H' l er'
end

/-! ### defs -/
def initE (n : Nat) (ds : List D) : Env := ds.map S.val ++ List.replicate (n - ds.length) .no
def runF (n : Nat) (B : Sv) (ds : List D) : R D := match B (initE n ds) with
  | .ret d => .ok d
  | .next _ => .ok .non
  | .exc c _ => .exc c
  | _ => .bad
section
variable {P : Program} {w : World} {K : PySem.W.Frag} {mg : Str → Option Value} {base : Heap} {M : Mo}
open Classical in
theorem er_start {N : List Str} {G H : Hp} {ds : List D} {vs : List V} (l : Le G H) (tb : ∀ a, M.tp a → GxR.TabG H a ∧ G a = none) (r : Reps K G ds vs) :
    ∃ Fo, ER K M.tp Fo G H (initE N.length ds) (L2.start N vs) ∧ ∀ a o, G a = none → ¬ M.tp a → H a = some o → Fo a = some o := by
  refine ⟨fun a => if G a = none ∧ ¬ M.tp a then H a else none, ⟨l, fun a o h => ?_, fun a o h => ?_, tb, ?_, fun i d h => ?_, fun i d h => ?_, fun i j c d h => ?_⟩, fun a o g t h => ?_⟩
  · split at h
    · exact h
    · cases h
  · split at h
    · rename_i z; exact z
    · cases h
  · unfold initE L2.start
    rw [List.length_append, List.length_append, List.length_map, List.length_map, List.length_replicate, List.length_replicate, r.length]
  · unfold initE at h
    by_cases z : i < ds.length
    · rw [List.getElem?_append_left (by rw [List.length_map]; exact z), List.getElem?_map, List.getElem?_eq_getElem z] at h
      cases h
      obtain ⟨v, ev, rv⟩ := r.get (List.getElem?_eq_getElem z)
      refine ⟨v, ?_, rv⟩
      unfold L2.start
      rw [List.getElem?_append_left (by rw [List.length_map, r.length]; exact z), List.getElem?_map, ev]
      rfl
    · rw [List.getElem?_append_right (by rw [List.length_map]; omega)] at h
      rw [List.getElem?_replicate] at h
      split at h <;> cases h
  · exfalso
    unfold initE at h
    by_cases z : i < ds.length
    · rw [List.getElem?_append_left (by rw [List.length_map]; exact z), List.getElem?_map, List.getElem?_eq_getElem z] at h
      cases h
    · rw [List.getElem?_append_right (by rw [List.length_map]; omega)] at h
      rw [List.getElem?_replicate] at h
      split at h <;> cases h
  · exfalso
    unfold initE at h
    by_cases z : i < ds.length
    · rw [List.getElem?_append_left (by rw [List.length_map]; exact z), List.getElem?_map, List.getElem?_eq_getElem z] at h
      cases h
    · rw [List.getElem?_append_right (by rw [List.length_map]; omega)] at h
      rw [List.getElem?_replicate] at h
      split at h <;> cases h
  · dsimp only
    rw [if_pos ⟨g, t⟩]; exact h
theorem tr_end {Fo G H G' H' : Hp} {δ : Env} {σ : L2.St} (fo : ∀ a o, G a = none → ¬ M.tp a → H a = some o → Fo a = some o) (l : Le G G') (e : ER K M.tp Fo G' H' δ σ) : Tr M.tp G H G' H' :=
  ⟨l, e.gh, fun a o g t h => ⟨e.fh a o (fo a o g t h), (e.fg a o (fo a o g t h)).1⟩, fun a t _ _ => e.tb a t⟩
theorem fn_mk {x qual : Str} {st : Stmt} {f : Addr} {fd : FuncData} {N ps : List Str} {k : Nat} {B : Sv} (F : Fun K x qual st f fd) (S : FnScope N ps (defScope st))
    (hb : ∀ (cdv : Value) (A : Around) (outer : List PySem.Env) (s : Shared) (H : Hp) (E : XK), Room k (A.deeper (envOfC qual (defScope st) s.heap.objs.size f cdv)) →
      PSs (cxOf (L2.CX P w) P w K mg base N qual (defScope st) f cdv A outer s H E) (defBody st) (tS K M (fun cls d _ H => E cls d H) B)) :
    FnOk P w K mg base (L2.CX P w) (k + 1) f fd ps (spD K M ps.length (runF N.length B)) := by
  refine F.okX S (fun vs H Q E ⟨G, ds, l, tb, r, hl, _⟩ => by rw [r.length, hl]) fun cdv A outer s H vs Q E hr ⟨G, ds, l, tb, r, hl, q⟩ => ?_
  refine ⟨_, hb cdv A outer s H E hr, ?_⟩
  obtain ⟨Fo, er, fo⟩ := er_start (N := N) l tb r
  refine ⟨Fo, G, _, er, ?_⟩
  unfold runF at q
  cases z : B (initE N.length ds) with
  | next δ' => rw [z] at q; exact fun G' σ' H' l' e' => q G' H' (tr_end fo l' e') _ rfl
  | ret d => rw [z] at q; exact fun G' H' l' ⟨σ', e'⟩ v rv => q G' H' (tr_end fo l' e') v rv
  | exc c δ' => rw [z] at q; exact fun G' σ' H' l' e' => q G' H' (tr_end fo l' e')
  | brk _ => rw [z] at q; exact False.elim q
  | cont _ => rw [z] at q; exact False.elim q
  | bad => rw [z] at q; exact False.elim q
/-- a def that is not spoken of -/
theorem fn_bad {f : Addr} {fd : FuncData} {ps : List Str} {k n : Nat} (hn : n = ps.length) : FnOk P w K mg base (L2.CX P w) k f fd ps (spD K M n fun _ => .bad) :=
  ⟨fun vs H Q E ⟨G, ds, l, tb, r, hl, q⟩ => False.elim q, fun A outer s H args us vs Q E hr he hb hv ⟨G, ds, l, tb, r, hl, q⟩ => False.elim q⟩
end

/-! ### all(..), any(..) over a text's signs -/
section
variable {X : Cx} {M : Mo} {W : WX} {pos : Pos} {e : Expr} {es : List Expr} {f g : Ev}
def eAllS (pb : Nat → Bool) (f : Ev) : Ev := e1 (fun d => match d with
  | .str a => some (.bl (a.cps.toList.all pb))
  | _ => none) f
def eAnyS (pb : Nat → Bool) (f : Ev) : Ev := e1 (fun d => match d with
  | .str a => some (.bl (a.cps.toList.any pb))
  | _ => none) f
theorem tabbed_tr {tp : Addr → Prop} {G H H2 : Hp} {P : Addr} (l : Le G H) (tb : ∀ a, tp a → GxR.TabG H a ∧ G a = none) (hP : tp P) (t : GxR.Tabbed P H H2) : Tr tp G H G H2 := by
  obtain ⟨tg, k⟩ := t
  have ne : ∀ a, ¬ tp a → a ≠ P := fun a h z => h (z ▸ hP)
  refine ⟨.refl, fun a o q => ?_, fun a o g nt q => ⟨by rw [k a (ne a nt)]; exact q, g⟩, fun a ta g q => ⟨?_, g⟩⟩
  · have z : a ≠ P := fun z => by
      subst z
      rw [(tb a hP).2] at q; cases q
    rw [k a z]; exact l a o q
  · by_cases z : a = P
    · subst z; exact tg
    · obtain ⟨ps, q1, q2⟩ := q
      exact ⟨ps, by rw [k a z]; exact q1, q2⟩
theorem de_allS {c P : Addr} {elt iter : Expr} {x : Str} {px p gpos : Pos} {scope : Scope} {pb : Nat → Bool} {k : Nat}
    (hr : Room k X.A) (hg : Gl X "all") (hm : X.mg "all" = none) (hb : bootBuiltins "all" = some (.builtin "all")) (TB : GxR.TabB X.base X.mg c P) (hP : M.tp P) (hcode : X.env.code = .ref c) (S : GxR.GenS X.env scope x) (hi : PE X iter (tE X.K M W f)) (hel : GxR.EltP X.prog X.w scope x elt pb)
    (hs : ∀ v, genFold iter X.env v = pure v)
    (he : starEach [.GeneratorExp elt [⟨.Name x px, iter, [], 0⟩] scope gpos] X.env = (false, eval (.GeneratorExp elt [⟨.Name x px, iter, [], 0⟩] scope gpos) X.env) :: starEach [] X.env := by rfl) :
    PE X (.Call (.Name "all" p) [.GeneratorExp elt [⟨.Name x px, iter, [], 0⟩] scope gpos] [] pos) (tE X.K M W (eAllS pb f)) := by
  refine PE.imp (GxR.pe_allS hr hg hm hb TB hcode S hi hel hs he) fun σ H Q ⟨Fo, G, δ, er, q⟩ => ⟨Fo, G, δ, er, ?_⟩
  refine PX.mono (PX.bind q) fun G1 H1 d t1 q1 v rv => ?_
  have er1 := er.tr t1
  cases d with
  | str a =>
    have q2 : QX X.K M.tp G1 H1 (some (.bl (a.cps.toList.all pb))) Q := PX.qx q1
    exact ⟨a, rv, (er1.tb P hP).1, fun H2 tt => q2 G1 H2 (tabbed_tr er1.gh er1.tb hP tt) _ rfl⟩
  | _ => exact False.elim q1
theorem de_anyS {c P : Addr} {elt iter : Expr} {x : Str} {px p gpos : Pos} {scope : Scope} {pb : Nat → Bool} {k : Nat}
    (hr : Room k X.A) (hg : Gl X "any") (hm : X.mg "any" = none) (TB : GxR.TabB X.base X.mg c P) (hP : M.tp P) (hcode : X.env.code = .ref c) (S : GxR.GenS X.env scope x) (hi : PE X iter (tE X.K M W f)) (hel : GxR.EltP X.prog X.w scope x elt pb)
    (hs : ∀ v, genFold iter X.env v = pure v)
    (he : starEach [.GeneratorExp elt [⟨.Name x px, iter, [], 0⟩] scope gpos] X.env = (false, eval (.GeneratorExp elt [⟨.Name x px, iter, [], 0⟩] scope gpos) X.env) :: starEach [] X.env := by rfl) :
    PE X (.Call (.Name "any" p) [.GeneratorExp elt [⟨.Name x px, iter, [], 0⟩] scope gpos] [] pos) (tE X.K M W (eAnyS pb f)) := by
  refine PE.imp (GxR.pe_anyS hr hg hm TB hcode S hi hel hs he) fun σ H Q ⟨Fo, G, δ, er, q⟩ => ⟨Fo, G, δ, er, ?_⟩
  refine PX.mono (PX.bind q) fun G1 H1 d t1 q1 v rv => ?_
  have er1 := er.tr t1
  cases d with
  | str a =>
    have q2 : QX X.K M.tp G1 H1 (some (.bl (a.cps.toList.any pb))) Q := PX.qx q1
    exact ⟨a, rv, (er1.tb P hP).1, fun H2 tt => q2 G1 H2 (tabbed_tr er1.gh er1.tb hP tt) _ rfl⟩
  | _ => exact False.elim q1

/-! ### sep.join(texts) -/
def asStrs : List D → Option (List Str)
  | [] => some []
  | .str x :: r => (asStrs r).map (x :: ·)
  | _ :: _ => none
def joinD (a : Str) : D → Option D
  | .lst xs => match asStrs xs with
    | some ys => if (ys.map (·.length)).sum + ys.length * a.length ≤ 16777216 then some (.str (Txt.join a ys)) else none
    | none => none
  | .tup xs => match asStrs xs with
    | some ys => if (ys.map (·.length)).sum + ys.length * a.length ≤ 16777216 then some (.str (Txt.join a ys)) else none
    | none => none
  | _ => none
def eJoin (f g : Ev) : Ev := fun δ => f δ >>= fun x => match x with
  | .str a => g δ >>= fun y => ofO (joinD a y)
  | _ => .bad
theorem asStrs_rep {K : PySem.W.Frag} {G : Hp} : ∀ {ds : List D} {ys : List Str} {vs : List V}, asStrs ds = some ys → Reps K G ds vs → vs = ys.map V.str
  | [], _, _, h, r => by cases h; cases r; rfl
  | .str x :: ds, ys, _, h, ⟨v, r, e, h1, h2⟩ => by
    unfold asStrs at h
    cases z : asStrs ds with
    | none => rw [z] at h; cases h
    | some zs =>
      rw [z] at h
      cases h
      rw [e, asStrs_rep z h2, List.map_cons]
      cases h1
      rfl
  | .non :: _, _, _, h, _ => by cases h
  | .bl _ :: _, _, _, h, _ => by cases h
  | .int _ :: _, _, _, h, _ => by cases h
  | .tup _ :: _, _, _, h, _ => by cases h
  | .lst _ :: _, _, _, h, _ => by cases h
theorem de_join {o : Expr} {apos : Pos} (ho : PE X o (tE X.K M W f)) (he : PE X e (tE X.K M W g))
    (hbase : attributeBase o "join" X.env (eval o X.env) = eval o X.env := by rfl)
    (hfew : ((backTo pos (starEach (e :: []) X.env)).all (fun x => !x.1) && (backToKw pos (keywordEach [] X.env)).all (fun x => x.1.isSome)
      && decide ((e :: ([] : List Expr)).length + ([] : List Keyword).length + (if ([] : List Keyword).isEmpty then 0 else 1) < 30)) = true := by rfl)
    (hline : (apos.endLine == pos.line) = true := by rfl) (hs : starEach (e :: []) X.env = (false, eval e X.env) :: starEach [] X.env := by rfl) (hplain : (backTo pos (starEach [] X.env)).any (·.1) = false := by rfl) :
    PE X (.Call (.Attribute o "join" apos) [e] [] pos) (tE X.K M W (eJoin f g)) := by
  refine PE.imp (pe_bm PySem.F.plainAttrs_str PySem.F.slot_str_join PySem.F.type_str_join mt_join ho (pa_cons he pa_nil hs) hbase hfew hline hs hplain) fun σ H Q ⟨Fo, G, δ, er, q⟩ => ⟨Fo, G, δ, er, ?_⟩
  refine PX.mono (PX.bind q) fun G1 H1 x t1 q1 v rv => ?_
  cases x with
  | str a =>
    have ev : v = .str a := rv
    subst ev
    refine ⟨rfl, Fo, G1, δ, er.tr t1, PX.mono (PX.bind q1) fun G2 H2 y t2 q2 w rw => ?_⟩
    have q3 := PX.qx q2
    have q4 : QX X.K M.tp G2 H2 (joinD a y) Q := q3
    cases y with
    | lst xs =>
      obtain ⟨p, vs, ew, sw, rws⟩ := rw
      unfold joinD at q4
      simp only at q4
      cases z : asStrs xs with
      | none => rw [z] at q4; exact False.elim q4
      | some ys =>
        rw [z] at q4
        simp only at q4
        split at q4
        · rename_i hz
          refine ⟨a, p, ys, rfl, by rw [ew], .inl ?_, hz, q4.at t2.2.1 rfl⟩
          rw [← asStrs_rep z rws]
          exact t2.2.1.sqL sw
        · exact False.elim q4
    | tup xs =>
      obtain ⟨p, vs, ew, sw, rws⟩ := rw
      unfold joinD at q4
      simp only at q4
      cases z : asStrs xs with
      | none => rw [z] at q4; exact False.elim q4
      | some ys =>
        rw [z] at q4
        simp only at q4
        split at q4
        · rename_i hz
          refine ⟨a, p, ys, rfl, by rw [ew], .inr ?_, hz, q4.at t2.2.1 rfl⟩
          rw [← asStrs_rep z rws]
          exact t2.2.1.sqT sw
        · exact False.elim q4
    | _ => exact False.elim q4
  | _ => exact False.elim q1
end
end Dl

set_option Elab.async false
set_option linter.all false
set_option maxRecDepth 100000
set_option maxHeartbeats 2000000
/-! any(..), all(..) of a generator expression with one clause. -/
namespace Dl
open PySem PySem.Spec PyProof.Rows L2
open Sem (wp)

/-- the context of a generator expression's frame -/
abbrev CxG (X : Cx) (A : Around) (s : Shared) (H : Hp) (cenv : PySem.Env) (fp : List Addr) (pn : List (Addr × Obj)) : Cx := { X with A := A, s_0 := s, H_0 := H, env := cenv, outer := X.stack, stack := cenv :: X.stack, ex := fp, fn := fun _ => false, pn := pn, xe := fun _ _ => False }

/-- a generator expression's scope -/
structure GnOk (N : List Str) (sc scope : Scope) (own : List (Str × Nat)) : Prop where
  blk : BlkOk N sc scope own
  co : scope.isCoroutine = false
  cell : ∀ y ∈ scope.names, y.2 ≠ .cell
  dot : scope.names.lookup (".0" : Str) = some NameKind.local

section
variable {X : Cx} {pins : List (Addr × Obj)} {σ : L2.St} {H : Hp} {s : Shared}
theorem clo_fresh {cells : List (Str × Addr)} {names : List (Str × NameKind)} {n : Str} {c : Addr} (hf : ∀ y ∈ names, y.2 = .free → ∃ c, cells.lookup y.1 = some c) (e : (cloFrom cells names []).lookup n = some c) :
    (n, NameKind.free) ∈ names ∧ cells.lookup n = some c := by
  rcases cloFrom_mem (PySem.mem_of_lookup e) with h | ⟨h1, h2⟩
  · cases h
  · obtain ⟨c', hc⟩ := hf _ h1 rfl
    rw [hc] at h2
    subst h2
    exact ⟨h1, hc⟩
theorem gen_start {scope : Scope} {own : List (Str × Nat)} {fp : List Addr} {A' : Around} {code : Value} {a : Addr} {go : Obj} {m : Str → Option Value} {h' : Heap} {g' : Array GenState} {t' : Nat}
    (I : Inv X pins σ H s) (ok : GnOk X.N X.env.scope scope own) (hN : X.N.Nodup) (hfp : ∀ b ∈ fp, FpOk X pins H b ∧ b < s.heap.objs.size)
    (hA : A'.handled = none) (hfr : A'.frames = some (genEnv scope (cloFrom X.env.cells scope.names []) s.heap.objs.size code builtinsNs X.env :: X.stack))
    (hns : h'.Ns s.heap.objs.size m) (kp : ∀ b o, s.heap.get? b = some o → h'.get? b = some o) (hg : AllBare g')
    (ha : s.heap.objs.size < a) (hgo : h'.get? a = some go) (hgd : ∀ v, go.data ≠ .cell v) :
    Inv (CxG X A' s H (genEnv scope (cloFrom X.env.cells scope.names []) s.heap.objs.size code builtinsNs X.env) fp [(a, go)]) [] (wipe σ (own.map (·.2))) H { s with heap := h', gens := g', toks := t' } := by
  have hfree : ∀ y ∈ scope.names, y.2 = .free → ∃ c, X.env.cells.lookup y.1 = some c := fun y hy e => by
    rcases ok.blk.free y hy e with k | k
    · exact I.ok.has _ (.inl k)
    · exact I.ok.has _ (.inr k)
  generalize hcenv : genEnv scope (cloFrom X.env.cells scope.names []) s.heap.objs.size code builtinsNs X.env = cenv at hfr ⊢
  have hL : cenv.locals = s.heap.objs.size := by rw [← hcenv]; rfl
  have hcl : cenv.cells = cloFrom X.env.cells scope.names [] := by rw [← hcenv]; rfl
  have hsc : cenv.scope = scope := by rw [← hcenv]; rfl
  have mem : ∀ {y c}, cenv.cells.lookup y = some c → (y, NameKind.free) ∈ scope.names ∧ X.env.cells.lookup y = some c := fun {y c} e => by
    rw [hcl] at e; exact clo_fresh hfree e
  have lt : ∀ {y c}, X.env.cells.lookup y = some c → c < s.heap.objs.size := fun {y c} e => let ⟨w, z⟩ := I.cell _ _ e; z.lt
  have has : ∀ {y}, scope.names.lookup y = some .free → ∃ c, cenv.cells.lookup y = some c := fun {y} hl => by
    obtain ⟨c', e'⟩ := mem_lookup (cloFrom_has (cells := X.env.cells) (acc := []) (PySem.mem_of_lookup hl))
    exact ⟨c', by rw [hcl]; exact e'⟩
  have okB : (CxG X A' s H cenv fp [(a, go)]).Ok := by
    refine ⟨I.ok.mod, by show cenv.scope.kind = _; rw [hsc]; exact ok.blk.kind, by show cenv.globals = _; rw [← hcenv]; exact I.ok.glob, by show cenv.builtins = _; rw [← hcenv]; rfl, by show s.heap.objs.size ≤ cenv.locals; rw [hL]; exact Nat.le_refl _,
      fun y z c e1 e2 => ?_, fun y hy => ?_, fun y c z e => (by cases z), fun _ => hA, hfr, .inr ⟨rfl, ?_⟩, fun b hb => ⟨?_, fun y c e z => ?_⟩, I.bs, Nat.le_trans I.ok.bsz I.sz, fun b o e hb => ?_, fun b hb z => ?_, I.stack, I.stkFree⟩
    · exact I.ok.inj y z c (mem e1).2 (mem e2).2
    · have hy : cenv.scope.names.lookup y = some .cell ∨ cenv.scope.names.lookup y = some .free := hy
      rw [hsc] at hy
      rcases hy with hy | hy
      · exact absurd rfl (ok.cell _ (PySem.mem_of_lookup hy))
      · exact has hy
    · show cenv.frame = some cenv.locals
      rw [← hcenv]; rfl
    · show b ≠ cenv.locals
      rw [hL]; exact Nat.ne_of_lt (hfp b hb).2
    · exact (hfp b hb).1.2.2.2.2.1 y c (mem e).2 z
    · rcases (hfp b hb).1.2.2.2.1 with z | z
      · exact I.ok.noex b o e z
      · exact absurd (Nat.lt_of_lt_of_le (Heap.lt_size e) (Nat.le_trans I.ok.bsz z)) (Nat.lt_irrefl _)
    · rcases List.mem_cons.mp (I.stkSub b z) with z | z
      · exact (hfp b hb).1.2.1 z
      · exact (hfp b hb).1.2.2.1 z
  refine ⟨okB, rfl, hg, Un.kept kp, ⟨m, by show Heap.Ns _ cenv.locals _; rw [hL]; exact hns, fun i y av e1 e2 e3 => ?_⟩, fun y c e => ?_, ?_, fun y c e => ?_, fun p hp => ?_, I.hok.kept kp, by rw [wipe_length]; exact I.len⟩
  · obtain ⟨e2, hne⟩ := wipe_some e2
    have e3 : cenv.scope.names.lookup y = some .local ∨ cenv.scope.names.lookup y = some .cell ∨ cenv.scope.names.lookup y = some .free := e3
    rw [hsc] at e3
    have no : ∀ k, (y, k) ∈ scope.names → ¬ (k = .local ∨ k = .cell) := fun k hm hh => by
      rcases ok.blk.own _ hm hh with e' | e'
      · obtain ⟨p, hp, hpy⟩ := List.mem_map.mp e'
        have e4 := ok.blk.ix p hp
        have : p.1 = y := hpy
        rw [this] at e4
        exact hne (List.mem_map.mpr ⟨p, hp, nodup_ix hN e4 e1⟩)
      · exact e' (List.mem_of_getElem? e1)
    have hf : scope.names.lookup y = some .free := by
      rcases e3 with e3 | e3 | e3
      · exact absurd (.inl rfl) (no _ (PySem.mem_of_lookup e3))
      · exact absurd (.inr rfl) (no _ (PySem.mem_of_lookup e3))
      · exact e3
    obtain ⟨m0, hn, hl⟩ := I.loc
    have hk := ok.blk.free _ (PySem.mem_of_lookup hf) rfl
    have hvis : Vis X.env.scope y := hk.elim (fun k => .inr (.inl k)) (fun k => .inr (.inr k))
    obtain ⟨w, r, q⟩ := hl i y av e1 e2 hvis
    obtain ⟨c, hc⟩ := has hf
    refine ⟨w, r, .inr ⟨.inr (by show cenv.scope.names.lookup y = _; rw [hsc]; exact hf), c, hc, ?_⟩⟩
    rcases q with ⟨k, _⟩ | ⟨_, c', e', z⟩
    · have k : X.env.scope.names.lookup y = some .local := k
      rcases hk with k' | k' <;> rw [show X.env.scope.names.lookup y = _ from k'] at k <;> cases k
    · have := (mem hc).2
      rw [this] at e'; cases e'
      exact z.keeps kp
  · obtain ⟨w, z⟩ := I.cell y c (mem e).2
    exact ⟨w, z.keeps kp⟩
  · show H cenv.locals = none
    rw [hL]; exact I.hok.fresh (Nat.le_refl _)
  · exact I.freeC y c (mem e).2
  · have hp : p ∈ [(a, go)] ++ ([] : List (Addr × Obj)) := hp
    rw [List.append_nil, List.mem_singleton] at hp
    subst hp
    refine ⟨hgo, I.hok.fresh (Nat.le_of_lt ha), by show a ≠ cenv.locals; rw [hL]; exact Nat.ne_of_gt ha, fun z => ?_, hgd⟩
    have z : a ∈ frs X.stack := z
    rcases List.mem_cons.mp (I.stkSub a z) with z | z
    · exact absurd (Nat.lt_trans (by rw [z] at ha; exact ha) I.lt) (Nat.lt_irrefl _)
    · exact I.nofs (Nat.le_of_lt ha) z
end

/-! ### what is handed out, and the end -/
def Aft (X : Cx) (pins : List (Addr × Obj)) (σ : L2.St) (Q : Hp → Prop) (s : Shared) : Prop :=
  ∀ (h' : Heap) (g' : Array GenState) (d' : Drawn) (t' : Nat), (∀ b o, s.heap.get? b = some o → h'.get? b = some o) → AllBare g' → ∃ H', Inv X pins σ H' { s with heap := h', gens := g', drawn := d', toks := t' } ∧ Q H'
theorem Inv.aft {X : Cx} {pins : List (Addr × Obj)} {σ : L2.St} {H : Hp} {s : Shared} {Q : Hp → Prop} (I : Inv X pins σ H s) (q : Q H) : Aft X pins σ Q s := fun h' g' d' t' kp hg =>
  ⟨H, I.call' (ch := []) rfl (Un.kept kp) (I.hok.kept kp) hg (fun b hb => absurd hb (by simp)), q⟩
def Alive (a : Addr) (g : Nat) (s : Shared) : Prop := AllBare s.gens ∧ s.heap.IsGen a g ∧ s.heap.NoLimit
def GYb (X : Cx) (pins : List (Addr × Obj)) (σ : L2.St) (stop : Bool) (Q : VK) (a : Addr) (g : Nat) : Protocol := fun _ s₀ v s kap =>
  Alive a g s ∧ s.os = s₀.os ∧ ∃ c, v = .bool c ∧ if c = stop then Aft X pins σ (Q (.bl stop)) s else ∀ s'' : Shared, s''.heap = s.heap → s''.os = s.os → AllBare s''.gens → kap (.send .none) s''
def GEb (X : Cx) (pins : List (Addr × Obj)) (σ : L2.St) (stop : Bool) (Q : VK) (a : Addr) (g : Nat) : Nat → Shared → Shared → Prop := fun _ s₀ s => Alive a g s ∧ Aft X pins σ (Q (.bl (!stop))) s
abbrev GRb (X : Cx) (pins : List (Addr × Obj)) (σ : L2.St) (stop : Bool) (Q : VK) (a : Addr) (g : Nat) : GenEnd := fun n s₀ r s1 => r = .ok .next ∧ GEb X pins σ stop Q a g n s₀ s1
end Dl

set_option Elab.async false
set_option linter.all false
set_option maxRecDepth 100000
set_option maxHeartbeats 2000000
namespace Dl
open PySem PySem.Spec PyProof.Rows L2
open Sem (wp)

theorem bare_set {s : Shared} {g : Nat} {x : GenState} (h : AllBare s.gens) (hx : x.bare = true) : AllBare (s.setGen g x).gens := fun y hy => by
  have hy : y ∈ s.gens.setIfInBounds g x := hy
  rcases Array.mem_or_eq_of_mem_setIfInBounds hy with e | e
  · exact h y e
  · rw [e]; exact hx
theorem alive_set {a : Addr} {g : Nat} {s : Shared} {x : GenState} (h : Alive a g s) (hx : x.bare = true) : Alive a g (s.setGen g x) := ⟨bare_set h.1 hx, h.2.1, h.2.2⟩

/-- what a turn of the loop asks -/
def tGen (P : Addr) (stop : Bool) (wi : TI) (g : TG) (tt : TT) (te : TE) (vs : List Nat) : TE := fun σ H Q => wi σ H fun J H1 => GxR.TabG H1 P ∧ ∀ H2, GxR.Tabbed P H1 H2 → ∃ W : Nat → Nat → Hp → Prop, (∃ m, W 0 m H2) ∧ ∀ i m H, W i m H →
  (J.stop i H ∧ Q (.bl (!stop)) H) ∨ (J.go i H ∧ ∃ Nx : Hp → Prop, (∀ H', Nx H' → ∃ m', m' < m ∧ W (i + 1) m' H') ∧ ∀ x H', J.yld i H x H' → g x (wipe σ vs) H' fun σ2 H2 => wipe σ2 vs = wipe σ vs ∧ tt σ2 H2 fun b H3 =>
    if b = true then te σ2 H3 fun y H4 => ∃ c, y = .bl c ∧ if c = stop then Q (.bl stop) H4 else Nx H4 else Nx H3)

section
variable {X : Cx} {pins : List (Addr × Obj)} {σ : L2.St}
theorem gen_loop {Q : VK} {stop : Bool} {elt tg iter : Expr} {ifs : List Expr} {scope : Scope} {vs : List Nat} {pos : Pos} {g : TG} {tt : TT} {te : TE} {J : It} {W : Nat → Nat → Hp → Prop}
    {A : Around} {s4 : Shared} {H4 : Hp} {cenv : PySem.Env} {it : Addr} {fp : List Addr} {tn : Nat → Heap → Prop} {a : Addr} {go : Obj} {gn : Nat}
    (hc : X.calm = true) (haf : a ∉ fp) (hco : cenv.scope.isCoroutine = false) (T : Turn X.prog X.w X.K tg J fp it tn) (f4 : ∀ b ∈ fp, FpOk X pins H4 b) (I4 : Inv X pins σ H4 s4) (hgen : ∀ h : Heap, h.get? a = some go → h.IsGen a gn)
    (hpg : PG (CxG X (A.over (.compLoop (.GeneratorExp elt [⟨tg, iter, ifs, 0⟩] scope pos) 0 (.ref it) .none cenv) []) s4 H4 cenv fp [(a, go)]) tg g)
    (hpt : PTs (CxG X (A.over (.compLoop (.GeneratorExp elt [⟨tg, iter, ifs, 0⟩] scope pos) 0 (.ref it) .none cenv) []) s4 H4 cenv fp [(a, go)]) ifs tt)
    (hpe : PE (CxG X (A.over (.compLoop (.GeneratorExp elt [⟨tg, iter, ifs, 0⟩] scope pos) 0 (.ref it) .none cenv) []) s4 H4 cenv fp [(a, go)]) elt te)
    (turn : ∀ i m H, W i m H → (J.stop i H ∧ Q (.bl (!stop)) H) ∨ (J.go i H ∧ ∃ Nx : Hp → Prop, (∀ H', Nx H' → ∃ m', m' < m ∧ W (i + 1) m' H') ∧ ∀ x H', J.yld i H x H' → g x (wipe σ vs) H' fun σ2 H2 => wipe σ2 vs = wipe σ vs ∧ tt σ2 H2 fun b H3 =>
      if b = true then te σ2 H3 fun y H4 => ∃ c, y = .bl c ∧ if c = stop then Q (.bl stop) H4 else Nx H4 else Nx H3)) :
    ∀ (m i : Nat) (H : Hp) (s₀ s : Shared) (n : Nat), s₀.os = s4.os → m < n → Inv (CxG X (A.over (.compLoop (.GeneratorExp elt [⟨tg, iter, ifs, 0⟩] scope pos) 0 (.ref it) .none cenv) []) s4 H4 cenv fp [(a, go)]) [] (wipe σ vs) H s → tn i s.heap → (∀ b ∈ fp, H b = none) → W i m H →
      Seg (model X.prog X.w) A (GRb X pins σ stop Q a gn) (GYb X pins σ stop Q a gn) n s₀ (.compLoop (.GeneratorExp elt [⟨tg, iter, ifs, 0⟩] scope pos) 0 (.ref it) .none cenv)
        ((model X.prog X.w).den (.compLoop (.GeneratorExp elt [⟨tg, iter, ifs, 0⟩] scope pos) 0 (.ref it) .none cenv)) [] s := by
  have stat : ∀ {σ' : L2.St} {H' : Hp} {s' : Shared}, Inv (CxG X (A.over (.compLoop (.GeneratorExp elt [⟨tg, iter, ifs, 0⟩] scope pos) 0 (.ref it) .none cenv) []) s4 H4 cenv fp [(a, go)]) [] σ' H' s' → (∀ b ∈ fp, H' b = none) → ∀ b ∈ fp, FpOk (CxG X (A.over (.compLoop (.GeneratorExp elt [⟨tg, iter, ifs, 0⟩] scope pos) 0 (.ref it) .none cenv) []) s4 H4 cenv fp [(a, go)]) [] H' b := fun {σ' H' s'} I' hn b hb => by
    refine ⟨hn b hb, (I'.ok.exf b hb).1, I'.ok.exfs b hb, .inl hb, fun x c e => (I'.ok.exf b hb).2 x c e, fun p hp => ?_⟩
    have hp : p ∈ [(a, go)] ++ ([] : List (Addr × Obj)) := hp
    rw [List.append_nil, List.mem_singleton] at hp
    subst hp
    exact fun z => haf (by have z : a = b := z; rw [z]; exact hb)
  have alive : ∀ {pn : List (Addr × Obj)} {σ' : L2.St} {H' : Hp} {s' : Shared}, Inv (CxG X (A.over (.compLoop (.GeneratorExp elt [⟨tg, iter, ifs, 0⟩] scope pos) 0 (.ref it) .none cenv) []) s4 H4 cenv fp [(a, go)]) pn σ' H' s' → Alive a gn s' := fun {pn σ' H' s'} I' =>
    ⟨I'.bare, hgen _ (I'.pin (a, go) (List.mem_append_left _ (List.mem_singleton.mpr rfl))).1, I'.nolimit⟩
  have aft : ∀ {pn : List (Addr × Obj)} {σ' : L2.St} {H' : Hp} {s' : Shared} {q : Hp → Prop}, Inv (CxG X (A.over (.compLoop (.GeneratorExp elt [⟨tg, iter, ifs, 0⟩] scope pos) 0 (.ref it) .none cenv) []) s4 H4 cenv fp [(a, go)]) pn σ' H' s' → q H' → Aft X pins σ q s' := fun {pn σ' H' s' q} I' hq =>
    Inv.aft (I4.call' (ch := fp) I'.os I'.base I'.hok I'.bare fun b hb => ⟨(f4 b hb).2.2.2.1, (f4 b hb).2.1, (f4 b hb).2.2.2.2.1, (f4 b hb).2.2.2.2.2⟩) hq
  intro m
  induction m using Nat.strongRecOn with
  | _ m ih =>
  intro i H s₀ s n hos hmn I5 st5 n5 w5
  show Seg _ A _ _ _ s₀ _ ((compTurn (.GeneratorExp elt [⟨tg, iter, ifs, 0⟩] scope pos) 0 (.ref it) .none cenv).onRaise (leaving cenv)) [] s
  rw [compTurn_gen, Sem.onRaise_eq_wrap]
  refine seg_bind_wrap (wpAny_standAt ?_)
  rcases turn i m H w5 with ⟨hstop, qq⟩ | ⟨hgo, Nx, hNx, step⟩
  · refine seg_bind_wrap (wpAny_mono (T.done (CxG X (A.over (.compLoop (.GeneratorExp elt [⟨tg, iter, ifs, 0⟩] scope pos) 0 (.ref it) .none cenv) []) s4 H4 cenv fp [(a, go)]) rfl rfl rfl hc i [] s _ H (fun _ _ => False) I5 (stat I5 n5) st5 hstop) (fun r s6 ⟨hr, I6⟩ => ?_) fun _ _ z => False.elim z)
    subst hr
    exact seg_end (.ok .next) ⟨rfl, alive I6, aft I6 qq⟩
  · refine seg_bind_wrap (wpAny_mono (T.item (CxG X (A.over (.compLoop (.GeneratorExp elt [⟨tg, iter, ifs, 0⟩] scope pos) 0 (.ref it) .none cenv) []) s4 H4 cenv fp [(a, go)]) rfl rfl rfl hc i [] s _ H (fun _ _ => False) I5 (stat I5 n5) st5 hgo) (fun r s6 ⟨u, hr, h6⟩ => ?_) fun _ _ z => False.elim z)
    subst hr
    refine seg_bind_wrap (wpAny_mono h6 (fun _ s7 ⟨x, H7, I7, r7, y7, st7, n7⟩ => ?_) fun _ _ z => False.elim z)
    have I7' := I7.pinned (stat I7 n7) (T.obj _ _ st7)
    refine seg_bind_wrap (wpAny_mono (hpg.run _ s7 _ H7 x u _ I7' r7 (step x H7 y7)) (fun _ s8 ⟨σ8, H8, I8, hw8, q8⟩ => ?_) fun _ _ z => False.elim z)
    refine seg_bind_wrap (wpAny_mono (hpt.run _ s8 σ8 H8 _ I8 q8) (fun b s9 ⟨H9, I9, q9⟩ => ?_) fun _ _ z => False.elim z)
    have fin : ∀ {s' : Shared} {H' : Hp}, Inv (CxG X (A.over (.compLoop (.GeneratorExp elt [⟨tg, iter, ifs, 0⟩] scope pos) 0 (.ref it) .none cenv) []) s4 H4 cenv fp [(a, go)]) ([] ++ pinsAt fp s7.heap) σ8 H' s' → Nx H' → ∃ m', m' < m ∧ Inv (CxG X (A.over (.compLoop (.GeneratorExp elt [⟨tg, iter, ifs, 0⟩] scope pos) 0 (.ref it) .none cenv) []) s4 H4 cenv fp [(a, go)]) [] (wipe σ vs) H' s' ∧ tn (i + 1) s'.heap ∧ (∀ b ∈ fp, H' b = none) ∧ W (i + 1) m' H' := fun {s' H'} I' nx => by
      obtain ⟨m', hm, w'⟩ := hNx H' nx
      have pin' : ∀ b ∈ fp, ∀ o, s7.heap.get? b = some o → s'.heap.get? b = some o ∧ H' b = none := fun b hb o e =>
        let z := I'.pin (b, o) (List.mem_append_right _ (List.mem_append_right _ (mem_pinsAt hb e)))
        ⟨z.1, z.2.1⟩
      have hl : (wipe σ vs).length = σ8.length := by rw [← hw8, wipe_length]
      refine ⟨m', hm, (Inv.unpinned (pins := []) I').weak hl (fun j v e => ?_), T.keep _ _ _ st7 fun b hb o e => (pin' b hb o e).1, fun b hb => ?_, w'⟩
      · rw [← hw8] at e
        exact (wipe_some e).1
      · obtain ⟨o, e, _⟩ := T.obj _ _ st7 b hb
        exact (pin' b hb o e).2
    cases b with
    | false =>
      simp only [Bool.false_eq_true, if_false] at q9 ⊢
      obtain ⟨m', hm, I', t', nf, w'⟩ := fin I9 q9
      exact seg_again rfl (ih m' hm (i + 1) H9 s₀ s9 n hos (Nat.lt_trans hm hmn) I' t' nf w')
    | true =>
      simp only [if_true] at q9 ⊢
      have hy : ∀ v, yieldOut cenv v = yieldValue v := fun v => by simp only [yieldOut, hco, Bool.false_eq_true, if_false]
      simp only [hy]
      rw [Sem.bind_eq_wrap', Sem.bind_eq_wrap', Sem.wrap_wrap, Sem.wrap_wrap]
      refine seg_wrap (wpAny_mono (hpe.run _ s9 σ8 H9 _ I9 q9) (fun z s10 ⟨yv, H10, I10, r10, cb, ey, qc⟩ => ?_) fun _ _ z => False.elim z)
      subst ey
      have ez : z = .bool cb := r10
      subst ez
      cases n with
      | zero => exact absurd hmn (Nat.not_lt_zero _)
      | succ n =>
        refine seg_at (seg_yield rfl rfl rfl ⟨alive I10, I10.os.trans hos.symm, cb, rfl, ?_⟩)
        by_cases hcs : cb = stop
        · rw [if_pos hcs] at qc ⊢
          exact aft I10 qc
        · rw [if_neg hcs] at qc ⊢
          intro s'' e1 e2 e3
          obtain ⟨m', hm, I', t', nf, w'⟩ := fin I10 qc
          have I'' : Inv (CxG X (A.over (.compLoop (.GeneratorExp elt [⟨tg, iter, ifs, 0⟩] scope pos) 0 (.ref it) .none cenv) []) s4 H4 cenv fp [(a, go)]) [] (wipe σ vs) H10 s'' := I'.call' (ch := []) e2 (by rw [e1]; exact Un.refl) (by rw [e1]; exact I'.hok) e3 fun b hb => absurd hb (by simp)
          exact seg_again rfl (ih m' hm (i + 1) H10 s'' s'' n (e2.trans I10.os) (by omega) I'' (by rw [e1]; exact t') nf w')
end
end Dl

set_option Elab.async false
set_option linter.all false
set_option maxRecDepth 100000
set_option maxHeartbeats 2000000
namespace Dl
open PySem PySem.Spec PyProof.Rows L2
open Sem (wp)

/-- the generator stands ready -/
def Ready (prog : Program) (w : World) (A : Around) (X : Cx) (pins : List (Addr × Obj)) (σ : L2.St) (stop : Bool) (Q : VK) (a : Addr) (g n : Nat) (s : Shared) : Prop :=
  Alive a g s ∧ ∃ gs, s.gens[g]? = some gs ∧ ∀ s'' : Shared, s''.heap = s.heap → s''.os = s.os → AllBare s''.gens → gs.Goes (model prog w) A.in1 (GRb X pins σ stop Q a g) (GYb X pins σ stop Q a g) n (.send .none) s''
section
variable {prog : Program} {w : World} {A : Around} {X : Cx} {pins : List (Addr × Obj)} {σ : L2.St} {stop : Bool} {Q : VK} {a : Addr} {g : Nat}
/-- one step of a generator that stands ready -/
theorem next_ready {n : Nat} {s : Shared} {Q' : Option Value → Shared → Prop} {E : Value → Shared → Prop} (hh : A.handled = none) (hroom : A.depth < recursionLimit) (h : Ready prog w A X pins σ stop Q a g n s)
    (hs : ∀ s', Alive a g s' → Aft X pins σ (Q (.bl stop)) s' → Q' (some (.bool stop)) s') (hy : ∀ s' m, n = m + 1 → Ready prog w A X pins σ stop Q a g m s' → Q' (some (.bool (!stop))) s')
    (he : ∀ s', AllBare s'.gens → Aft X pins σ (Q (.bl (!stop))) s' → Q' none s') : wpAny (model prog w) A (pyNext (.ref a)) Q' E s := by
  obtain ⟨al, gs, hgs, hgo⟩ := h
  have hlt : g < s.gens.size := by
    by_cases z : g < s.gens.size
    · exact z
    · rw [Array.getElem?_eq_none (by omega)] at hgs; cases hgs
  refine GenW.wpAny_gsz (n := g + 1) hlt ?_
  refine wpAny_pyNext_genexpQ (P := GEb X pins σ stop Q a g) (n := n) hh al.2.2 hroom al.2.1 hgs (hgo _ rfl rfl (bare_set al.1 rfl)) (fun v s₁ gs' hb hv => ?_) (fun s₁ hp h' hk => ?_)
  · obtain ⟨al1, _, c, rfl, hc⟩ := hv
    intro hsz
    by_cases hcs : c = stop
    · rw [if_pos hcs] at hc
      subst hcs
      refine hs _ (alive_set al1 hb) ?_
      intro h' g' d' t' kp hg
      exact hc h' g' d' t' kp hg
    · rw [if_neg hcs] at hc
      have ec : c = !stop := by cases c <;> cases stop <;> simp_all
      subst ec
      cases n with
      | zero => exact False.elim (hc (s₁.setGen g .running) rfl rfl (bare_set al1.1 rfl))
      | succ m =>
        refine hy _ m rfl ⟨alive_set al1 hb, gs', ?_, fun s'' e1 e2 e3 => hc s'' e1 e2 e3⟩
        have hsz : g + 1 ≤ (s₁.setGen g gs').gens.size := hsz
        rw [GenW.setGen_size] at hsz
        have hl : g < s₁.gens.size := hsz
        simp [Shared.setGen, hl]
  · obtain ⟨al1, hq⟩ := hp
    intro _
    refine he _ (bare_set (x := .finished) (g := g) al1.1 rfl) ?_
    intro h'' g' d' t' kp hg
    exact hq h'' g' d' t' (fun b o e => kp b o (hk b o e)) hg

theorem loop_all {R : Result → Shared → Prop} (hh : A.handled = none) (hroom : A.depth < recursionLimit) (hR : ∀ b s', AllBare s'.gens → Aft X pins σ (Q (.bl b)) s' → R (.ok (.ret (.bool b))) s') :
    ∀ (n : Nat) (s : Shared), Ready prog w A.in1 X pins σ false Q a g n s → codeAny (model prog w) A (.builtin "all.loop" ⟨[.ref a], []⟩) R s := by
  intro n
  induction n with
  | zero =>
    intro s h
    refine codeAny_builtin F.entry_all_loop ?_
    rw [Around.under_plainId F.plain_all_loop _]
    show wpAny _ A.in1 (pyNext (.ref a) >>= _) _ _ s
    refine wpAny_bind (next_ready hh hroom h (fun s' al q => ?_) (fun s' m e r => absurd e.symm (Nat.succ_ne_zero _)) fun s' hb q => ?_)
    · refine wpAny_bind (wpAny_holding (wpAny_truthy_bool ?_))
      refine wpAny_bind (wpAny_letGo ?_)
      simp only [Bool.false_eq_true, if_false]
      exact wpAny_bind (wpAny_rule (wpAny_pure (hR false s' al.1 q)))
    · exact wpAny_bind (wpAny_rule (wpAny_pure (hR true s' hb q)))
  | succ n ih =>
    intro s h
    refine codeAny_builtin F.entry_all_loop ?_
    rw [Around.under_plainId F.plain_all_loop _]
    show wpAny _ A.in1 (pyNext (.ref a) >>= _) _ _ s
    refine wpAny_bind (next_ready hh hroom h (fun s' al q => ?_) (fun s' m e r => ?_) fun s' hb q => ?_)
    · refine wpAny_bind (wpAny_holding (wpAny_truthy_bool ?_))
      refine wpAny_bind (wpAny_letGo ?_)
      simp only [Bool.false_eq_true, if_false]
      exact wpAny_bind (wpAny_rule (wpAny_pure (hR false s' al.1 q)))
    · cases e
      refine wpAny_bind (wpAny_holding (wpAny_truthy_bool ?_))
      refine wpAny_bind (wpAny_letGo ?_)
      simp only [Bool.not_false, if_true]
      exact wpAny_pure ⟨plainId_quiet F.plain_all_loop _, ih s' r⟩
    · exact wpAny_bind (wpAny_rule (wpAny_pure (hR true s' hb q)))
theorem loop_any {R : Result → Shared → Prop} (hh : A.handled = none) (hroom : A.depth < recursionLimit) (hR : ∀ b s', AllBare s'.gens → Aft X pins σ (Q (.bl b)) s' → R (.ok (.ret (.bool b))) s') :
    ∀ (n : Nat) (s : Shared), Ready prog w A.in1 X pins σ true Q a g n s → codeAny (model prog w) A (.builtin "any.loop" ⟨[.ref a], []⟩) R s := by
  intro n
  induction n with
  | zero =>
    intro s h
    refine codeAny_builtin F.entry_any_loop ?_
    rw [Around.under_plainId F.plain_any_loop _]
    show wpAny _ A.in1 (pyNext (.ref a) >>= _) _ _ s
    refine wpAny_bind (next_ready hh hroom h (fun s' al q => ?_) (fun s' m e r => absurd e.symm (Nat.succ_ne_zero _)) fun s' hb q => ?_)
    · refine wpAny_bind (wpAny_holding (wpAny_truthy_bool ?_))
      refine wpAny_bind (wpAny_letGo ?_)
      simp only [if_true]
      exact wpAny_bind (wpAny_rule (wpAny_pure (hR true s' al.1 q)))
    · exact wpAny_bind (wpAny_rule (wpAny_pure (hR false s' hb q)))
  | succ n ih =>
    intro s h
    refine codeAny_builtin F.entry_any_loop ?_
    rw [Around.under_plainId F.plain_any_loop _]
    show wpAny _ A.in1 (pyNext (.ref a) >>= _) _ _ s
    refine wpAny_bind (next_ready hh hroom h (fun s' al q => ?_) (fun s' m e r => ?_) fun s' hb q => ?_)
    · refine wpAny_bind (wpAny_holding (wpAny_truthy_bool ?_))
      refine wpAny_bind (wpAny_letGo ?_)
      simp only [if_true]
      exact wpAny_bind (wpAny_rule (wpAny_pure (hR true s' al.1 q)))
    · cases e
      refine wpAny_bind (wpAny_holding (wpAny_truthy_bool ?_))
      refine wpAny_bind (wpAny_letGo ?_)
      simp only [Bool.not_true, Bool.false_eq_true, if_false]
      exact wpAny_pure ⟨plainId_quiet F.plain_any_loop _, ih s' r⟩
    · exact wpAny_bind (wpAny_rule (wpAny_pure (hR false s' hb q)))
end
end Dl

set_option Elab.async false
set_option linter.all false
set_option maxRecDepth 100000
set_option maxHeartbeats 2000000
namespace Dl
open PySem PySem.Spec PyProof.Rows L2
open Sem (wp)

section
variable {prog : Program} {w : World} {A : Around}
theorem seg_start {R : GenEnd} {Y : Protocol} {elt tg iter : Expr} {ifs : List Expr} {scope : Scope} {pos : Pos} {it : Addr} {cenv : PySem.Env} {n : Nat} {s₀ s : Shared}
    (self : ∀ (A : Around) (Q : Value → Shared → Prop) (E : Value → Shared → Prop), Q (.ref it) s → wpAny (model prog w) A (pyIter (.ref it)) Q E s)
    (loop : Seg (model prog w) A R Y n s₀ (.compLoop (.GeneratorExp elt [⟨tg, iter, ifs, 0⟩] scope pos) 0 (.ref it) .none cenv) ((model prog w).den (.compLoop (.GeneratorExp elt [⟨tg, iter, ifs, 0⟩] scope pos) 0 (.ref it) .none cenv)) [] s) :
    Seg (model prog w) A R Y n s₀ (.compStart (.GeneratorExp elt [⟨tg, iter, ifs, 0⟩] scope pos) 0 (.ref it) .none cenv) ((model prog w).den (.compStart (.GeneratorExp elt [⟨tg, iter, ifs, 0⟩] scope pos) 0 (.ref it) .none cenv)) [] s := by
  show Seg _ A _ _ _ s₀ _ ((compStart (.GeneratorExp elt [⟨tg, iter, ifs, 0⟩] scope pos) 0 (.ref it) .none cenv).onRaise (leaving cenv)) [] s
  unfold compStart
  rw [Sem.onRaise_eq_wrap]
  show Seg _ A _ _ _ s₀ _ ((ask >>= _).wrap _ _ _ _) [] s
  refine seg_bind_wrap (wpAny_askSetting ?_)
  split
  · exact seg_again rfl loop
  · refine seg_bind_wrap (wpAny_rule ?_)
    show Seg _ A _ _ _ s₀ _ ((standAt iter.pos >>= _).wrap _ _ _ _) [] s
    exact seg_bind_wrap (wpAny_standAt (seg_bind_wrap (self _ _ _ (seg_again rfl loop))))
theorem over_gen {elt tg iter : Expr} {ifs : List Expr} {scope : Scope} {pos : Pos} {it : Value} {cenv : PySem.Env} {k : Nat} {st : List PySem.Env} (hr : Room (k + 1) A) (hf : A.frames = some st) :
    Room k (A.in1.in1.over (.compLoop (.GeneratorExp elt [⟨tg, iter, ifs, 0⟩] scope pos) 0 it .none cenv) []) ∧ (A.in1.in1.over (.compLoop (.GeneratorExp elt [⟨tg, iter, ifs, 0⟩] scope pos) 0 it .none cenv) []).frames = some (cenv :: st) := by
  refine ⟨⟨hr.hd, ?_, ?_⟩, ?_⟩
  · have := hr.dp
    show A.depth + 0 + 1 + 3 * k + 5 < _
    omega
  · have := hr.un
    show A.units + 1 + 1 + 0 + 3 + 16 * k + 200 < _
    omega
  · show pushEnvs [cenv] (pushEnvs [] A.frames) = _
    rw [hf]; rfl
end
section
variable {X : Cx} {pins : List (Addr × Obj)} {σ : L2.St} {H : Hp} {s : Shared}
theorem gen_make {Q : VK} {stop : Bool} {elt tg iter : Expr} {ifs : List Expr} {scope : Scope} (own : List (Str × Nat)) {gpos : Pos} {wi : TI} {g : TG} {tt : TT} {te : TE} {c P : Addr} {k : Nat} {Q' : Value → Shared → Prop}
    (hr : Room (k + 1) X.A) (TB : GxR.TabB X.base X.mg c P) (hcode : X.env.code = .ref c) (hc : X.calm = true) (hN : X.N.Nodup) (ok : GnOk X.N X.env.scope scope own) (hi : PI X tg iter wi)
    (hpg : ∀ (A' : Around) (s : Shared) (H : Hp) (C : Addr) (cl : List (Str × Addr)) (code : Value) (fp : List Addr) (pn : List (Addr × Obj)), PG (CxG X A' s H (genEnv scope cl C code builtinsNs X.env) fp pn) tg g)
    (hpt : ∀ (A' : Around) (s : Shared) (H : Hp) (C : Addr) (cl : List (Str × Addr)) (code : Value) (fp : List Addr) (pn : List (Addr × Obj)), Room k A' → PTs (CxG X A' s H (genEnv scope cl C code builtinsNs X.env) fp pn) ifs tt)
    (hpe : ∀ (A' : Around) (s : Shared) (H : Hp) (C : Addr) (cl : List (Str × Addr)) (code : Value) (fp : List Addr) (pn : List (Addr × Obj)), Room k A' → PE (CxG X A' s H (genEnv scope cl C code builtinsNs X.env) fp pn) elt te)
    (hs : ∀ v, genFold iter X.env v = pure v) (I : Inv X pins σ H s) (h : tGen P stop wi g tt te (own.map (·.2)) σ H Q)
    (hQ : ∀ a g n s5, Ready X.prog X.w X.A.in1 X pins σ stop Q a g n s5 → Q' (.ref a) s5) :
    wpAny (model X.prog X.w) X.A (eval (.GeneratorExp elt [⟨tg, iter, ifs, 0⟩] scope gpos) X.env) Q' X.xe s := by
  have hfree : ∀ y ∈ scope.names, y.2 = .free → ∃ c, X.env.cells.lookup y.1 = some c := fun y hy e => by
    rcases ok.blk.free y hy e with k | k
    · exact I.ok.has _ (.inl k)
    · exact I.ok.has _ (.inr k)
  refine wpAny_GeneratorExp_make ok.co (closure_ok hfree) ok.cell ok.dot ok.blk.kind (by have := hr.dp; omega) (thn (hi.run pins s σ H _ I h) fun xv s1 h1 => thn h1 fun itv s2 h2 => ?_) hs
  obtain ⟨it, fp, tn, J, H2, e, I2, T, st2, f2, ⟨ps, hP, ht⟩, q⟩ := h2
  subst e
  have hPs : s2.heap.get? P = some { cls := .none, data := .fields ps } := I2.hok P _ hP
  have cd : PySem.W.CodeHd s2.heap c P := TB.code.keeps fun b u e => I2.bk b u e
  have lim2 := I2.nolimit
  have nP : ∀ b ∈ fp, b ≠ P := fun b hb z => by
    have := (f2 b hb).1
    rw [z, hP] at this; cases this
  have sz2 : ∀ b ∈ fp, b < s2.heap.objs.size := fun b hb => by
    obtain ⟨o, e, _⟩ := T.obj _ _ st2 b hb
    exact Heap.lt_size e
  refine ⟨lim2, ?_⟩
  have cont : ∀ (code : Value) (h3 : Heap) (tk : Nat) (ps' : Array Value), Heap.ExtBut P s2.heap h3 → s2.heap.objs.size ≤ h3.objs.size → h3.get? P = some { cls := .none, data := .fields ps' } → (∃ more, ps' = ps ++ more) → TriplesOk ps'.toList →
      wpAny (model X.prog X.w) X.A (builtinsFor X.env.globals X.env.builtins) (fun bi s₄ =>
        ∀ h', h'.Ns s₄.heap.objs.size (fun y => if y = ".0" then some (.ref it) else none) → Heap.SameBut s₄.heap.objs.size (s₄.heap.push { cls := .type "frame", data := .dict #[] }) h' →
          Q' (.ref h'.objs.size) { s₄ with
            gens := s₄.gens.push (.fresh (.compStart (.GeneratorExp elt [⟨tg, iter, ifs, 0⟩] scope gpos) 0 (.ref it) .none (genEnv scope (cloFrom X.env.cells scope.names []) s₄.heap.objs.size code bi X.env))),
            toks := s₄.toks + 1 + 1 + 1,
            heap := h'.push { cls := .type "generator", data := .fields #[.int s₄.gens.size 0, .str "<genexpr>" (s₄.toks + 1), .str (X.env.qual ++ "<genexpr>") (s₄.toks + 1 + 1)] } }) X.xe { s2 with heap := h3, toks := tk } := by
    intro code h3 tk ps' hx hsz hP3 ⟨more, em⟩ ht3
    obtain ⟨bm, ob, e1, e2, e3, e4, e5, e6, e7, e8⟩ := TB.bm
    refine wpAny_builtinsFor (m := X.mg) (by rw [I2.ok.glob]; exact (I2.mod.glob.keeps I2.bk).extBut hx TB.gP) e1 e2 (hx _ _ e4 (I2.bk _ _ e5)) e6 e7 e8 ?_
    have I4 : Inv X pins σ (upd H2 P (.tbl (ps ++ more))) { s2 with heap := h3, toks := tk } :=
      GxR.inv_tab (g' := s2.gens) (d' := s2.drawn) (t' := tk) I2 hP (fun b o hb e => hx b o hb e) (by rw [← em]; exact hP3) I2.bare
    generalize hs4 : ({ s2 with heap := h3, toks := tk } : Shared) = s4 at I4 ⊢
    have h4 : s4.heap = h3 := by rw [← hs4]
    have st4 : tn 0 s4.heap := T.keep _ _ _ st2 fun b hb o e => by rw [h4]; exact hx b o (nP b hb) e
    have f4 : ∀ b ∈ fp, FpOk X pins (upd H2 P (.tbl (ps ++ more))) b ∧ b < s4.heap.objs.size := fun b hb =>
      ⟨⟨by rw [upd_ne (nP b hb)]; exact (f2 b hb).1, (f2 b hb).2⟩, by rw [h4]; exact Nat.lt_of_lt_of_le (sz2 b hb) hsz⟩
    intro h' hn' hs'
    have hsz5 : h'.objs.size = s4.heap.objs.size + 1 := by rw [hs'.1, Heap.size_push]
    have hlt : s4.heap.objs.size < h'.objs.size := by omega
    have kp' : ∀ b o, s4.heap.get? b = some o → h'.get? b = some o := fun b o e => hs'.extBut b o (Nat.ne_of_lt (Heap.lt_size e)) (Heap.get?_push_of_some _ e)
    generalize hgo : ({ cls := .type "generator", data := .fields #[.int s4.gens.size 0, .str "<genexpr>" (s4.toks + 1), .str (X.env.qual ++ "<genexpr>") (s4.toks + 1 + 1)] } : Obj) = go
    have kp5 : ∀ b o, s4.heap.get? b = some o → (h'.push go).get? b = some o := fun b o e => Heap.get?_push_of_some _ (kp' b o e)
    have hgen : ∀ h : Heap, h.get? h'.objs.size = some go → h.IsGen h'.objs.size s4.gens.size := fun h e => ⟨_, _, _, e, by rw [← hgo], by rw [← hgo], by rw [← hgo]⟩
    have hat : (h'.push go).get? h'.objs.size = some go := by
      rw [← hgo]; exact Heap.get?_push_size _ rfl
    have bare5 : AllBare (s4.gens.push (.fresh (.compStart (.GeneratorExp elt [⟨tg, iter, ifs, 0⟩] scope gpos) 0 (.ref it) .none (genEnv scope (cloFrom X.env.cells scope.names []) s4.heap.objs.size code builtinsNs X.env)))) := I4.bare.push rfl
    obtain ⟨W, ⟨m0, w0⟩, turn⟩ := q (upd H2 P (.tbl (ps ++ more))) ⟨⟨ps ++ more, upd_same, by rw [← em]; exact ht3⟩, fun b hb => upd_ne hb⟩
    refine hQ h'.objs.size s4.gens.size (m0 + 1) _ ⟨⟨bare5, hgen _ hat, I4.nolimit.keeps kp5⟩, _, Array.getElem?_push_size .., fun s'' e1 e2 e3 => ⟨rfl, ?_⟩⟩
    obtain ⟨hr', hf'⟩ := over_gen (A := X.A) (elt := elt) (tg := tg) (iter := iter) (ifs := ifs) (scope := scope) (pos := gpos) (it := .ref it) (cenv := genEnv scope (cloFrom X.env.cells scope.names []) s4.heap.objs.size code builtinsNs X.env) hr I4.ok.frames
    have I5 := gen_start (A' := X.A.in1.in1.over (.compLoop (.GeneratorExp elt [⟨tg, iter, ifs, 0⟩] scope gpos) 0 (.ref it) .none (genEnv scope (cloFrom X.env.cells scope.names []) s4.heap.objs.size code builtinsNs X.env)) []) (t' := s4.toks + 1 + 1 + 1) I4 ok hN f4 hr'.hd hf' (hn'.push _) kp5 bare5 hlt hat (by intro v z; rw [← hgo] at z; cases z)
    have e1 : s''.heap = h'.push go := e1
    have e2 : s''.os = s4.os := e2
    have I6 := I5.call' (ch := []) (s' := s'') e2 (by rw [e1]; exact Un.refl) (by rw [e1]; exact I5.hok) e3 fun b hb => absurd hb (by simp)
    have st6 : tn 0 s''.heap := T.keep _ _ _ st4 fun b _ o e => by rw [e1]; exact kp5 b o e
    refine seg_start (A := X.A.in1.in1) (fun A Q E hq => T.self A 0 s'' Q E st6 hq) ?_
    exact gen_loop (A := X.A.in1.in1) (vs := own.map (·.2)) hc (fun hb => Nat.lt_irrefl _ (Nat.lt_trans (f4 _ hb).2 hlt)) (by show (genEnv scope _ _ _ _ _).scope.isCoroutine = false; exact ok.co) T (fun b hb => (f4 b hb).1) I4 hgen (hpg _ _ _ _ _ _ _ _) (hpt _ _ _ _ _ _ _ _ hr') (hpe _ _ _ _ _ _ _ _ hr') turn
      m0 0 _ s'' s'' (m0 + 1) e2 (Nat.lt_succ_self _) I6 st6 (fun b hb => (f4 b hb).1.1) w0
  cases hf : codeAmong gpos ps.toList with
  | none =>
    refine wpAny_genexprCodeX hcode (cd.code hPs ht) (cd.tab hPs) hf fun c' h' tk hx hge hlt hco' _ htab' _ => ?_
    obtain ⟨o1, vs, f1, tf, fl, tg, inF, tx, tt, op, _, _, _, _, _, _, _, _, _, htr, _⟩ := hco'
    exact cont _ h' tk _ hx (Nat.le_trans hge (Nat.le_of_lt hlt)) htab'.2 ⟨_, rfl⟩ htr
  | some cv =>
    refine wpAny_genexprCode_hit hcode (cd.code hPs ht) hf ?_
    exact cont cv s2.heap s2.toks ps (Heap.ExtBut.refl _ _) (Nat.le_refl _) hPs ⟨#[], by simp⟩ ht

theorem pe_allG {elt tg iter : Expr} {ifs : List Expr} {scope : Scope} (own : List (Str × Nat)) {p pos gpos : Pos} {wi : TI} {g : TG} {tt : TT} {te : TE} {c P : Addr} {k : Nat}
    (hr : Room (k + 1) X.A) (hg : Gl X "all") (hm : X.mg "all" = none) (hb : bootBuiltins "all" = some (.builtin "all")) (TB : GxR.TabB X.base X.mg c P) (hcode : X.env.code = .ref c) (hc : X.calm = true) (hN : X.N.Nodup) (ok : GnOk X.N X.env.scope scope own) (hi : PI X tg iter wi)
    (hpg : ∀ (A' : Around) (s : Shared) (H : Hp) (C : Addr) (cl : List (Str × Addr)) (code : Value) (fp : List Addr) (pn : List (Addr × Obj)), PG (CxG X A' s H (genEnv scope cl C code builtinsNs X.env) fp pn) tg g)
    (hpt : ∀ (A' : Around) (s : Shared) (H : Hp) (C : Addr) (cl : List (Str × Addr)) (code : Value) (fp : List Addr) (pn : List (Addr × Obj)), Room k A' → PTs (CxG X A' s H (genEnv scope cl C code builtinsNs X.env) fp pn) ifs tt)
    (hpe : ∀ (A' : Around) (s : Shared) (H : Hp) (C : Addr) (cl : List (Str × Addr)) (code : Value) (fp : List Addr) (pn : List (Addr × Obj)), Room k A' → PE (CxG X A' s H (genEnv scope cl C code builtinsNs X.env) fp pn) elt te)
    (hs : ∀ v, genFold iter X.env v = pure v)
    (he : starEach [.GeneratorExp elt [⟨tg, iter, ifs, 0⟩] scope gpos] X.env = (false, eval (.GeneratorExp elt [⟨tg, iter, ifs, 0⟩] scope gpos) X.env) :: starEach [] X.env := by rfl) :
    PE X (.Call (.Name "all" p) [.GeneratorExp elt [⟨tg, iter, ifs, 0⟩] scope gpos] [] pos) (tGen P false wi g tt te (own.map (·.2))) := by
  refine ⟨fun pins s σ H Q I h => ?_⟩
  refine wpAny_Call_Name_kw (ld_blt I hg hm hb ?_)
  refine PyProof.Rows.callWith_builtin1 ?_ he (by rfl)
  rw [he]
  show wpAny _ _ (spliced ((false, eval (.GeneratorExp elt [⟨tg, iter, ifs, 0⟩] scope gpos) X.env) :: backTo pos (starEach [] X.env))) _ _ s
  refine Calls.spliced_cons (gen_make own hr TB hcode hc hN ok hi hpg hpt hpe hs I h fun a g n s5 hR => ?_)
  refine Calls.spliced_nil ?_
  refine call_function_tree F.kind_all F.plain_all F.entry_all (F.args_all1 _) ?_
  unfold Builtin.«all»
  refine wpAny_bind (m := oneArg "all" _) (wpAny_pure ?_)
  refine wpAny_bind (wpAny_pyIter_gen hR.1.2.1 ?_)
  refine wpAny_pure ⟨plainId_quiet F.plain_all_loop _, loop_all (A := X.A) hr.hd (by have := hr.dp; omega) (fun b s' bb q => ?_) n s5 hR⟩
  obtain ⟨H', J, hq⟩ := q s'.heap s'.gens s'.drawn s'.toks (fun _ _ e => e) bb
  exact ⟨.bl b, H', J, rfl, hq⟩
theorem pe_anyG {elt tg iter : Expr} {ifs : List Expr} {scope : Scope} (own : List (Str × Nat)) {p pos gpos : Pos} {wi : TI} {g : TG} {tt : TT} {te : TE} {c P : Addr} {k : Nat}
    (hr : Room (k + 1) X.A) (hg : Gl X "any") (hm : X.mg "any" = none) (TB : GxR.TabB X.base X.mg c P) (hcode : X.env.code = .ref c) (hc : X.calm = true) (hN : X.N.Nodup) (ok : GnOk X.N X.env.scope scope own) (hi : PI X tg iter wi)
    (hpg : ∀ (A' : Around) (s : Shared) (H : Hp) (C : Addr) (cl : List (Str × Addr)) (code : Value) (fp : List Addr) (pn : List (Addr × Obj)), PG (CxG X A' s H (genEnv scope cl C code builtinsNs X.env) fp pn) tg g)
    (hpt : ∀ (A' : Around) (s : Shared) (H : Hp) (C : Addr) (cl : List (Str × Addr)) (code : Value) (fp : List Addr) (pn : List (Addr × Obj)), Room k A' → PTs (CxG X A' s H (genEnv scope cl C code builtinsNs X.env) fp pn) ifs tt)
    (hpe : ∀ (A' : Around) (s : Shared) (H : Hp) (C : Addr) (cl : List (Str × Addr)) (code : Value) (fp : List Addr) (pn : List (Addr × Obj)), Room k A' → PE (CxG X A' s H (genEnv scope cl C code builtinsNs X.env) fp pn) elt te)
    (hs : ∀ v, genFold iter X.env v = pure v)
    (he : starEach [.GeneratorExp elt [⟨tg, iter, ifs, 0⟩] scope gpos] X.env = (false, eval (.GeneratorExp elt [⟨tg, iter, ifs, 0⟩] scope gpos) X.env) :: starEach [] X.env := by rfl) :
    PE X (.Call (.Name "any" p) [.GeneratorExp elt [⟨tg, iter, ifs, 0⟩] scope gpos] [] pos) (tGen P true wi g tt te (own.map (·.2))) := by
  refine ⟨fun pins s σ H Q I h => ?_⟩
  refine wpAny_Call_Name_kw (ld_blt I hg hm boot_any ?_)
  refine PyProof.Rows.callWith_builtin1 ?_ he (by rfl)
  rw [he]
  show wpAny _ _ (spliced ((false, eval (.GeneratorExp elt [⟨tg, iter, ifs, 0⟩] scope gpos) X.env) :: backTo pos (starEach [] X.env))) _ _ s
  refine Calls.spliced_cons (gen_make own hr TB hcode hc hN ok hi hpg hpt hpe hs I h fun a g n s5 hR => ?_)
  refine Calls.spliced_nil ?_
  refine call_function_tree F.kind_any F.plain_any F.entry_any (F.args_any1 _) ?_
  unfold Builtin.«any»
  refine wpAny_bind (m := oneArg "any" _) (wpAny_pure ?_)
  refine wpAny_bind (wpAny_pyIter_gen hR.1.2.1 ?_)
  refine wpAny_pure ⟨plainId_quiet F.plain_any_loop _, loop_any (A := X.A) hr.hd (by have := hr.dp; omega) (fun b s' bb q => ?_) n s5 hR⟩
  obtain ⟨H', J, hq⟩ := q s'.heap s'.gens s'.drawn s'.toks (fun _ _ e => e) bb
  exact ⟨.bl b, H', J, rfl, hq⟩
end
end Dl

set_option Elab.async false
set_option linter.all false
set_option maxRecDepth 100000
set_option maxHeartbeats 2000000
/-! any, all of a generator expression, over data. -/
namespace Dl
open PySem PySem.Spec PyProof.Rows L2

def genF (stop : Bool) (t : Tg) (c : Tv) (f : Ev) (δ : Env) : List D → R D
  | [] => .ok (.bl (!stop))
  | d :: ds => match t.put d δ with
    | none => .bad
    | some δ1 => match c δ1 with
      | .ok true => match f δ1 with
        | .ok (.bl b) => if b = stop then .ok (.bl stop) else genF stop t c f δ ds
        | _ => .bad
      | .ok false => genF stop t c f δ ds
      | _ => .bad
def eGen (stop : Bool) (vs : List Nat) (t : Tg) (it : Env → R (List D)) (c : Tv) (f : Ev) : Ev := fun δ => it δ >>= fun ds => genF stop t c f (wipeE δ vs) ds
section
variable {X : Cx} {M : Mo} {W : WX} {pos : Pos}
theorem PX.tr {α : Type} {σ : L2.St} {G H G1 H1 : Hp} {r : R α} {k : Hp → Hp → α → Prop} (h : PX M W σ G H r k) (t : Tr M.tp G H G1 H1) : PX M W σ G1 H1 r k := by
  cases r with
  | ok a => exact fun G' H' t' => h G' H' (t.trans t')
  | exc c => exact fun G' H' t' => h G' H' (t.trans t')
  | bad => exact h
theorem gen_data {stop : Bool} {vs : List Nat} {t : Tg} {it : Env → R (List D)} {c : Tv} {f : Ev} {P : Addr} (hP : M.tp P) (hat : ∀ i ∈ t.at, i ∈ vs) {σ : L2.St} {H : Hp} {Q : VK} (q : tE X.K M W (eGen stop vs t it c f) σ H Q) :
    tGen P stop (tI X.K M W it) (tG X.K M t) (tT X.K M W0 c) (tE X.K M W0 f) vs σ H Q := by
  obtain ⟨Fo, G, δ, er, q⟩ := q
  refine ⟨Fo, G, δ, er, PX.mono (PX.bind q) fun G1 H1 ds t1 q1 J wk => ?_⟩
  have er1 := er.tr t1
  refine ⟨(er1.tb P hP).1, fun H2 tt => ?_⟩
  have t2 : Tr M.tp G1 H1 G1 H2 := tabbed_tr er1.gh er1.tb hP tt
  -- what is left
  refine ⟨fun i m H => m = ds.length - i ∧ i ≤ ds.length ∧ ∃ G2, Tr M.tp G1 H1 G2 H ∧ PX M W σ G2 H (genF stop t c f (wipeE δ vs) (ds.drop i)) fun G' H' d => ∀ v, Rep X.K G' d v → Q v H', ⟨ds.length, by simp, Nat.zero_le _, G1, t2, ?_⟩, ?_⟩
  · refine PX.tr ?_ t2
    exact q1
  rintro i m H ⟨rfl, hle, G2, t2, q2⟩
  have l2 : Le G2 H := t2.2.1
  obtain ⟨w1, w2⟩ := wk i G2 H t2.1 l2
  by_cases hlt : i < ds.length
  · rw [List.drop_eq_getElem_cons hlt] at q2
    obtain ⟨go, yl⟩ := w2 ds[i] (List.getElem?_eq_getElem hlt)
    refine .inr ⟨go, fun H => ∃ G2, Tr M.tp G1 H1 G2 H ∧ PX M W σ G2 H (genF stop t c f (wipeE δ vs) (ds.drop (i + 1))) fun G' H' d => ∀ v, Rep X.K G' d v → Q v H', fun H' z => ⟨ds.length - (i + 1), by omega, rfl, hlt, z⟩, fun x H3 y => ?_⟩
    obtain ⟨G3, t3, rx⟩ := yl x H3 y
    have t13 := t2.trans t3
    unfold genF at q2
    cases zp : t.put ds[i] (wipeE δ vs) with
    | none => simp only [zp] at q2; exact False.elim q2
    | some δ1 =>
      simp only [zp] at q2
      have er3 : ER X.K M.tp Fo G3 H3 (wipeE δ vs) (L2.wipe σ vs) := (er1.tr t13).wipe vs
      refine ⟨Fo, G3, wipeE δ vs, ds[i], δ1, er3, rx, zp, fun σ' er' bt => ⟨wipe_but hat bt, ?_⟩⟩
      refine ⟨Fo, G3, δ1, er', ?_⟩
      cases zc : c δ1 with
      | bad => simp only [zc] at q2; exact False.elim q2
      | exc _ => simp only [zc] at q2; exact False.elim q2
      | ok b =>
        intro G4 H4 t4
        cases b with
        | false =>
          simp only [zc] at q2
          exact ⟨G4, t13.trans t4, PX.tr q2 (t3.trans t4)⟩
        | true =>
          simp only [zc] at q2
          refine ⟨Fo, G4, δ1, er'.tr t4, ?_⟩
          cases zf : f δ1 with
          | bad => simp only [zf] at q2; exact False.elim q2
          | exc _ => simp only [zf] at q2; exact False.elim q2
          | ok y =>
            intro G5 H5 t5 v rv
            simp only [zf] at q2
            have t35 := (t3.trans t4).trans t5
            cases y with
            | bl b =>
              refine ⟨b, rv, ?_⟩
              have q2 : PX M W σ G2 H (if b = stop then .ok (.bl stop) else genF stop t c f (wipeE δ vs) (ds.drop (i + 1))) fun G' H' d => ∀ v, Rep X.K G' d v → Q v H' := q2
              by_cases hb : b = stop
              · rw [if_pos hb] at q2 ⊢
                exact q2 G5 H5 t35 _ rfl
              · rw [if_neg hb] at q2 ⊢
                exact ⟨G5, t2.trans t35, PX.tr q2 t35⟩
            | non => exact False.elim q2
            | int _ => exact False.elim q2
            | str _ => exact False.elim q2
            | tup _ => exact False.elim q2
            | lst _ => exact False.elim q2
  · have e : ds.drop i = [] := List.drop_eq_nil_of_le (by omega)
    rw [e] at q2
    exact .inl ⟨w1 (by omega), q2 G2 H (.refl l2) _ rfl⟩
theorem de_allG {c P : Addr} {elt tg iter : Expr} {ifs : List Expr} {scope : Scope} {p gpos : Pos} {k : Nat} {t : Tg} {it : Env → R (List D)} {ct : Tv} {f : Ev} (own : List (Str × Nat))
    (hr : Room (k + 1) X.A) (hg : Gl X "all") (hm : X.mg "all" = none) (hb : bootBuiltins "all" = some (.builtin "all")) (TB : GxR.TabB X.base X.mg c P) (hP : M.tp P) (hcode : X.env.code = .ref c) (hc : X.calm = true) (hN : X.N.Nodup) (ok : GnOk X.N X.env.scope scope own) (hat : ∀ i ∈ t.at, i ∈ own.map (·.2))
    (hi : PI X tg iter (tI X.K M W it))
    (hpg : ∀ (A' : Around) (s : Shared) (H : Hp) (C : Addr) (cl : List (Str × Addr)) (code : Value) (fp : List Addr) (pn : List (Addr × Obj)), PG (CxG X A' s H (genEnv scope cl C code builtinsNs X.env) fp pn) tg (tG X.K M t))
    (hpt : ∀ (A' : Around) (s : Shared) (H : Hp) (C : Addr) (cl : List (Str × Addr)) (code : Value) (fp : List Addr) (pn : List (Addr × Obj)), Room k A' → PTs (CxG X A' s H (genEnv scope cl C code builtinsNs X.env) fp pn) ifs (tT X.K M W0 ct))
    (hpe : ∀ (A' : Around) (s : Shared) (H : Hp) (C : Addr) (cl : List (Str × Addr)) (code : Value) (fp : List Addr) (pn : List (Addr × Obj)), Room k A' → PE (CxG X A' s H (genEnv scope cl C code builtinsNs X.env) fp pn) elt (tE X.K M W0 f))
    (hs : ∀ v, genFold iter X.env v = pure v := by intro _; rfl)
    (he : starEach [.GeneratorExp elt [⟨tg, iter, ifs, 0⟩] scope gpos] X.env = (false, eval (.GeneratorExp elt [⟨tg, iter, ifs, 0⟩] scope gpos) X.env) :: starEach [] X.env := by rfl) :
    PE X (.Call (.Name "all" p) [.GeneratorExp elt [⟨tg, iter, ifs, 0⟩] scope gpos] [] pos) (tE X.K M W (eGen false (own.map (·.2)) t it ct f)) :=
  PE.imp (pe_allG own hr hg hm hb TB hcode hc hN ok hi hpg hpt hpe hs he) fun _ _ _ q => gen_data hP hat q
theorem de_anyG {c P : Addr} {elt tg iter : Expr} {ifs : List Expr} {scope : Scope} {p gpos : Pos} {k : Nat} {t : Tg} {it : Env → R (List D)} {ct : Tv} {f : Ev} (own : List (Str × Nat))
    (hr : Room (k + 1) X.A) (hg : Gl X "any") (hm : X.mg "any" = none) (TB : GxR.TabB X.base X.mg c P) (hP : M.tp P) (hcode : X.env.code = .ref c) (hc : X.calm = true) (hN : X.N.Nodup) (ok : GnOk X.N X.env.scope scope own) (hat : ∀ i ∈ t.at, i ∈ own.map (·.2))
    (hi : PI X tg iter (tI X.K M W it))
    (hpg : ∀ (A' : Around) (s : Shared) (H : Hp) (C : Addr) (cl : List (Str × Addr)) (code : Value) (fp : List Addr) (pn : List (Addr × Obj)), PG (CxG X A' s H (genEnv scope cl C code builtinsNs X.env) fp pn) tg (tG X.K M t))
    (hpt : ∀ (A' : Around) (s : Shared) (H : Hp) (C : Addr) (cl : List (Str × Addr)) (code : Value) (fp : List Addr) (pn : List (Addr × Obj)), Room k A' → PTs (CxG X A' s H (genEnv scope cl C code builtinsNs X.env) fp pn) ifs (tT X.K M W0 ct))
    (hpe : ∀ (A' : Around) (s : Shared) (H : Hp) (C : Addr) (cl : List (Str × Addr)) (code : Value) (fp : List Addr) (pn : List (Addr × Obj)), Room k A' → PE (CxG X A' s H (genEnv scope cl C code builtinsNs X.env) fp pn) elt (tE X.K M W0 f))
    (hs : ∀ v, genFold iter X.env v = pure v := by intro _; rfl)
    (he : starEach [.GeneratorExp elt [⟨tg, iter, ifs, 0⟩] scope gpos] X.env = (false, eval (.GeneratorExp elt [⟨tg, iter, ifs, 0⟩] scope gpos) X.env) :: starEach [] X.env := by rfl) :
    PE X (.Call (.Name "any" p) [.GeneratorExp elt [⟨tg, iter, ifs, 0⟩] scope gpos] [] pos) (tE X.K M W (eGen true (own.map (·.2)) t it ct f)) :=
  PE.imp (pe_anyG own hr hg hm TB hcode hc hN ok hi hpg hpt hpe hs he) fun _ _ _ q => gen_data hP hat q
end
end Dl

set_option Elab.async false
set_option linter.all false
set_option maxRecDepth 100000
set_option maxHeartbeats 2000000
/-! Defs by names; facts of the module; replace. -/
namespace Dl
open PySem PySem.Spec PyProof.Rows L2

/-! ### defs -/
section
variable {P : Program} {w : World} {K : PySem.W.Frag} {mg : Str → Option Value} {base : Heap} {M : Mo}
/-- the def x keeps its promise at the level k: n arguments, the answer m -/
def Can (P : Program) (w : World) (K : PySem.W.Frag) (mg : Str → Option Value) (base : Heap) (M : Mo) (k : Nat) (x : Str) (n : Nat) (m : List D → R D) : Prop :=
  ∃ (fd : FuncData) (ps : List Str), FnOk P w K mg base (L2.CX P w) k (He.ga K x) fd ps (spD K M n m) ∧ Binds K fd ps [] ∧ PySem.W.keepIn K (.ref (He.ga K x)) = true ∧ mg x = some (.ref (He.ga K x))
theorem fn_of_data {x : Str} {st : Stmt} {fd : FuncData} {N ps : List Str} {k : Nat} {B : Sv} {kws : List (Str × V)} (F : FunD K x x (defArgs st) (defBody st) (defScope st) [] kws (He.fAd K (x, none)) fd) (S : FnScope N ps (defScope st))
    (hb : ∀ (A : Around) (outer : List PySem.Env) (s : Shared) (H : Hp) (E : XK), Room k (A.deeper (envOfC x (defScope st) s.heap.objs.size (He.fAd K (x, none)) (.ref (He.codeOf K (x, none))))) →
      PSs (cxOf (L2.CX P w) P w K mg base N x (defScope st) (He.fAd K (x, none)) (.ref (He.codeOf K (x, none))) A outer s H E) (defBody st) (tS K M (fun cls d _ H => E cls d H) B)) :
    FnOk P w K mg base (L2.CX P w) (k + 1) (He.fAd K (x, none)) fd ps (spD K M ps.length (runF N.length B)) := by
  obtain ⟨oc, od, dV, kV, doc, pm, an, cdv, ct, osl, rfl, lk, hcd, _, _⟩ := F.ex
  obtain ⟨c, rfl⟩ := He.codeIn_ref hcd
  have ec := He.codeOf_eq lk (c := c) rfl
  rw [ec] at hb
  refine fn_of lk hcd S (fun vs H Q E ⟨G, ds, l, tb, r, hl, _⟩ => by rw [r.length, hl]) fun A outer s H vs Q E hr ⟨G, ds, l, tb, r, hl, q⟩ => ?_
  refine ⟨_, hb A outer s H E hr, ?_⟩
  obtain ⟨Fo, er, fo⟩ := er_start (N := N) l tb r
  refine ⟨Fo, G, _, er, ?_⟩
  unfold runF at q
  cases z : B (initE N.length ds) with
  | next δ' => rw [z] at q; exact fun G' σ' H' l' e' => q G' H' (tr_end fo l' e') _ rfl
  | ret d => rw [z] at q; exact fun G' H' l' ⟨σ', e'⟩ v rv => q G' H' (tr_end fo l' e') v rv
  | exc c δ' => rw [z] at q; exact fun G' σ' H' l' e' => q G' H' (tr_end fo l' e')
  | brk _ => rw [z] at q; exact False.elim q
  | cont _ => rw [z] at q; exact False.elim q
  | bad => rw [z] at q; exact False.elim q
theorem can_mk {x : Str} {st : Stmt} {N ps : List Str} {k : Nat} {B : Sv} {kws : List (Str × V)} (F : ∃ fd, FunD K x x (defArgs st) (defBody st) (defScope st) [] kws (He.fAd K (x, none)) fd) (g : mg x = some (.ref (He.ga K x))) (S : FnScope N ps (defScope st))
    (hbind : ∀ (kV doc pm : Value) (an : Option Addr) (cdv ct : Value) (us : List Value), us.length = ps.length → bindArgs (PySem.W.fnOf x x (defArgs st) (defBody st) (defScope st) .none kV doc pm an cdv ct) ⟨us, []⟩ = pure (ps.zip us))
    (hb : ∀ (A : Around) (outer : List PySem.Env) (s : Shared) (H : Hp) (E : XK), Room k (A.deeper (envOfC x (defScope st) s.heap.objs.size (He.fAd K (x, none)) (.ref (He.codeOf K (x, none))))) →
      PSs (cxOf (L2.CX P w) P w K mg base N x (defScope st) (He.fAd K (x, none)) (.ref (He.codeOf K (x, none))) A outer s H E) (defBody st) (tS K M (fun cls d _ H => E cls d H) B)) :
    Can P w K mg base M (k + 1) x ps.length (runF N.length B) := by
  obtain ⟨fd, F⟩ := F
  exact ⟨fd, ps, fn_of_data F S hb, F.bindsN hbind, F.kp, g⟩
/-- not spoken of -/
theorem can_bad {x : Str} {st : Stmt} {ps : List Str} {k : Nat} {kws : List (Str × V)} (F : ∃ fd, FunD K x x (defArgs st) (defBody st) (defScope st) [] kws (He.fAd K (x, none)) fd) (g : mg x = some (.ref (He.ga K x)))
    (hbind : ∀ (kV doc pm : Value) (an : Option Addr) (cdv ct : Value) (us : List Value), us.length = ps.length → bindArgs (PySem.W.fnOf x x (defArgs st) (defBody st) (defScope st) .none kV doc pm an cdv ct) ⟨us, []⟩ = pure (ps.zip us)) :
    Can P w K mg base M k x ps.length fun _ => .bad := by
  obtain ⟨fd, F⟩ := F
  exact ⟨fd, ps, fn_bad rfl, F.bindsN hbind, F.kp, g⟩
theorem Can.imp {k n : Nat} {x : Str} {m m' : List D → R D} (h : Can P w K mg base M k x n m) (e : m = m') : Can P w K mg base M k x n m' := e ▸ h
end
section
variable {X : Cx} {M : Mo} {W : WX} {pos : Pos} {e o : Expr} {es : List Expr} {f : Ev} {fs : Env → R (List D)}
theorem takes0 : Takes X W0 := fun u s' ⟨_, _, _, _, _, _, _, _, _, _, _, _, _, _, _, _, w⟩ => False.elim w
theorem de_callC {k n : Nat} {m : List D → R D} {x : Str} {p : Pos} (C : Can X.prog X.w X.K X.mg X.base M k x n m) (hr : Room k X.A) (tk : Takes X W) (hg : Gl X x) (ha : PA X (e :: es) (tA X.K M W fs)) (hn : ∀ δ ds, fs δ = .ok ds → ds.length = n)
    (hl : (e :: es).length = n := by rfl) (hdb : (x == ("__debug__" : Str)) = false := by decide) (he : starEach (e :: es) X.env = (false, eval e X.env) :: starEach es X.env := by rfl) (hpl : (backTo pos (starEach es X.env)).any (·.1) = false := by rfl) :
    PE X (.Call (.Name x p) (e :: es) [] pos) (tE X.K M W (eCall m fs)) := by
  obtain ⟨fd, ps, Fn, hb, hk, hm⟩ := C
  exact de_call Fn hr hg hm hk hb tk ha hl hdb he hpl hn
/-- a name of the function -/
theorem dv (i : Nat) {x : Str} (hN : X.N[i]? = some x := by rfl) (hv : Vis X.env.scope x := by first | exact Or.inl rfl | exact Or.inr (Or.inl rfl) | exact Or.inr (Or.inr rfl)) (hd : (x == ("__debug__" : Str)) = false := by decide)
    (hcd : (x == ("__classdict__" : Str)) = false := by decide) : PE X (.Name x pos) (tE X.K M W (eV i)) := de_var hN hv hd hcd

/-! ### e.replace('..', '..') -/
def PE1 (X : Cx) (e : Expr) (t : TE) : Prop := ∀ (pins : List (Addr × Obj)) (s : Shared) (σ : L2.St) (H : Hp) (Q : VK), Inv X pins σ H s → t σ H Q →
  wpAny (model X.prog X.w) X.A (eval e X.env) (fun u s' => 1 ≤ s'.toks ∧ EP X pins σ Q u s') X.xe s
theorem pe1_str {x : Str} {j : Nat} : PE1 X (.Constant (.str x) j pos) (tC (.str x)) := fun pins s σ H Q I h =>
  Calls.Constant_str ⟨Nat.le_add_left 1 s.toks, .str x, H, I.tok _, ⟨_, rfl⟩, h⟩
theorem pe1_op {a b : Expr} {op : Operator} {r : R2} {t u : TE} (ho : OpR X (binaryOp op) r) (ha : PE1 X a t) (hb : PE X b u) : PE1 X (.BinOp a op b pos) (tOp r t u) := by
  intro pins s σ H Q I h
  refine wpAny_BinOp (thn (ha pins s σ H _ I h) fun v s1 ⟨hk, x, H1, I1, r1, q1⟩ => ?_)
  refine wpAny_mono (PySem.wpAny_toks_of hk (hb.run pins s1 σ H1 _ I1 q1)) (fun u s2 q => ?_) fun _ _ z => z.2
  obtain ⟨hk2, y, H2, I2, r2, q2⟩ := q
  exact wpAny_mono (PySem.wpAny_toks_of hk2 (ho pins s2 σ H2 x y v u Q I2 r1 r2 q2)) (fun _ _ q => q) fun _ _ z => z.2
theorem pa_cons1 {te : TE} {ta : TA} (ha : PE1 X e te) (hr : PAT X es ta) (hs : starEach (e :: es) X.env = (false, eval e X.env) :: starEach es X.env := by rfl) : PA X (e :: es) (tCons te ta) := by
  refine ⟨fun pos pins s σ H Q I h => ?_⟩
  rw [hs]
  show wpAny _ _ (spliced ((false, eval e X.env) :: backTo pos (starEach es X.env))) _ _ s
  refine Calls.spliced_cons (thn (ha pins s σ H _ I h) fun v s1 ⟨hk, x, H1, I1, r1, q1⟩ => ?_)
  exact thn (hr pos pins s1 σ H1 _ hk I1 q1) fun us s2 ⟨xs, H2, I2, r2, q2⟩ => ⟨x :: xs, H2, I2, .cons r1 r2, q2⟩
theorem PET.imp {t t' : TE} (h : PET X e t) (i : ∀ σ H Q, t' σ H Q → t σ H Q) : PET X e t' := fun pins s σ H Q h0 I q => h pins s σ H Q h0 I (i σ H Q q)
theorem PE1.imp {t t' : TE} (h : PE1 X e t) (i : ∀ σ H Q, t' σ H Q → t σ H Q) : PE1 X e t' := fun pins s σ H Q I q => h pins s σ H Q I (i σ H Q q)
theorem PAT.imp {t t' : TA} (h : PAT X es t) (i : ∀ σ H Q, t' σ H Q → t σ H Q) : PAT X es t' := fun pos pins s σ H Q h0 I q => h pos pins s σ H Q h0 I (i σ H Q q)
theorem cons_data {σ : L2.St} {H : Hp} {Q : List V → Hp → Prop} (q : tA X.K M W (aCons f fs) σ H Q) : tCons (tE X.K M W f) (tA X.K M W fs) σ H Q := by
  obtain ⟨Fo, G, δ, er, q⟩ := q
  refine ⟨Fo, G, δ, er, PX.mono (PX.bind q) fun G1 H1 x t1 q1 v rv => ?_⟩
  refine ⟨Fo, G1, δ, er.tr t1, PX.mono (PX.bind q1) fun G2 H2 xs t2 q2 vs rvs => ?_⟩
  exact q2 G2 H2 (.refl t2.2.1) _ ⟨v, vs, rfl, Rep.mono t2.1 _ _ rv, rvs⟩
theorem dat_nil : PAT X [] (tA X.K M W aNil) := PAT.imp pat_nil fun σ H Q ⟨Fo, G, δ, er, q⟩ => q G H (.refl er.gh) _ rfl
theorem dat_cons (ha : PET X e (tE X.K M W f)) (hr : PAT X es (tA X.K M W fs)) (hs : starEach (e :: es) X.env = (false, eval e X.env) :: starEach es X.env := by rfl) : PAT X (e :: es) (tA X.K M W (aCons f fs)) :=
  PAT.imp (pat_cons ha hr hs) fun _ _ _ q => cons_data q
theorem da_cons1 (ha : PE1 X e (tE X.K M W f)) (hr : PAT X es (tA X.K M W fs)) (hs : starEach (e :: es) X.env = (false, eval e X.env) :: starEach es X.env := by rfl) : PA X (e :: es) (tA X.K M W (aCons f fs)) :=
  PA.imp (pa_cons1 ha hr hs) fun _ _ _ q => cons_data q
theorem de1_str {x : Str} {j : Nat} : PE1 X (.Constant (.str x) j pos) (tE X.K M W (eC (.str x))) := PE1.imp pe1_str fun σ H Q ⟨Fo, G, δ, er, h⟩ => h G H (.refl er.gh) _ rfl
theorem de1_op {a b : Expr} {op : Operator} {r : R2} {h : D → D → Option D} {g : Ev} (ho : OpR X (binaryOp op) r) (hs : OpS X.K r h) (ha : PE1 X a (tE X.K M W f)) (hb : PE X b (tE X.K M W g)) : PE1 X (.BinOp a op b pos) (tE X.K M W (e2 h f g)) :=
  PE1.imp (pe1_op ho ha hb) fun _ _ _ q => op_gen hs q
theorem det_of (h : PE X e (tE X.K M W f)) : PET X e (tE X.K M W f) := CwR.PET.of h
/-- e.replace(y, z) -/
def replD (y z : Str) : D → Option D
  | .str x => if x.length + (x.length + 1) * z.length ≤ 16777216 then some (.str (Txt.replace x y z)) else none
  | _ => none
theorem det_repl {y z : Str} {j k : Nat} {c0 c1 apos : Pos} (ho : PE X o (tE X.K M W f)) (hyz : (y == z) = false := by decide)
    (hst : starEach [.Constant (.str y) j c0, .Constant (.str z) k c1] X.env = [(false, eval (.Constant (.str y) j c0) X.env), (false, eval (.Constant (.str z) k c1) X.env)] := by rfl)
    (hbase : attributeBase o "replace" X.env (eval o X.env) = eval o X.env := by rfl) (hline : (apos.endLine == pos.line) = true := by rfl) :
    PET X (.Call (.Attribute o "replace" apos) [.Constant (.str y) j c0, .Constant (.str z) k c1] [] pos) (tE X.K M W (e1 (replD y z) f)) := by
  refine PET.imp (CwR.pet_replC ho hyz hst hbase hline) fun σ H Q ⟨Fo, G, δ, er, q⟩ => ?_
  refine ⟨Fo, G, δ, er, PX.mono (PX.bind q) fun G1 H1 d t1 q1 v rv => ?_⟩
  cases d with
  | str x =>
    have q2 : QX X.K M.tp G1 H1 (if x.length + (x.length + 1) * z.length ≤ 16777216 then some (.str (Txt.replace x y z)) else none) Q := PX.qx q1
    by_cases hb : x.length + (x.length + 1) * z.length ≤ 16777216
    · rw [if_pos hb] at q2
      exact ⟨x, rv, hb, q2.at t1.2.1 rfl⟩
    · rw [if_neg hb] at q2; exact False.elim q2
  | _ => exact False.elim q1
end

/-! ### the module's facts -/
/-- what is known of the module: K holds in the base, the facts fa, the defs fn, one Bool more, the tables of the defs tf -/
structure Wd (fa : List He.Fa) (fn : List He.DefD) (tf : List He.Defn) (ex : PySem.W.Frag → Bool) (K : PySem.W.Frag) (mg : Str → Option Value) (base : Heap) : Prop where
  kin : K.In base
  glob : base.Ns mainGlobals mg
  says : He.SaysD fa fn K
  more : ex K = true
  tabs : ∀ p ∈ tf, LamX.TabB base mg (He.cT K p).1 (He.cT K p).2
def MoD (K : PySem.W.Frag) (tf : List He.Defn) : Mo := ⟨fun c => .ref (He.ga K (Str.ofString c)), fun a => ∃ p ∈ tf, a = (He.cT K p).2⟩
section
variable {fa : List He.Fa} {fn : List He.DefD} {tf : List He.Defn} {ex : PySem.W.Frag → Bool} {K : PySem.W.Frag} {mg : Str → Option Value} {base : Heap}
theorem Wd.glo (E : Wd fa fn tf ex K mg base) (i : Nat) {x : Str} (h : fa[i]? = some (.glo x) := by rfl) : mg x = some (.ref (He.ga K x)) := He.glo_ok E.kin E.glob (E.says.fact i (f := .glo x) h)
theorem Wd.fre (E : Wd fa fn tf ex K mg base) (i : Nat) {x : Str} (h : fa[i]? = some (.free x) := by rfl) : mg x = none := He.free_ok E.kin E.glob (E.says.fact i (f := .free x) h)
theorem Wd.int (E : Wd fa fn tf ex K mg base) (i : Nat) {x : Str} {z : Int} (h : fa[i]? = some (.int x z) := by rfl) : ∃ t, mg x = some (.int z t) := He.int_ok E.kin E.glob (E.says.fact i (f := .int x z) h)
theorem Wd.str (E : Wd fa fn tf ex K mg base) (i : Nat) {x z : Str} (h : fa[i]? = some (.str x z) := by rfl) : ∃ t, mg x = some (.str z t) := He.str_ok E.kin E.glob (E.says.fact i (f := .str x z) h)
theorem Wd.exc (E : Wd fa fn tf ex K mg base) (i : Nat) {x : Str} (h : fa[i]? = some (.exc x) := by rfl) : PySem.W.excIn K (He.ga K x) He.veBase "ValueError.__new__" = true ∧ PySem.W.keepIn K (.ref (He.ga K x)) = true ∧ PySem.W.subIn K (.ref (He.ga K x)) (.type "BaseException") = some true ∧ PySem.W.typeIn K (.ref (He.ga K x)) = some (.type "type") :=
  He.exc_ok (E.says.fact i (f := .exc x) h)
theorem Wd.exm (E : Wd fa fn tf ex K mg base) (i : Nat) {x y : Str} {b : Bool} (h : fa[i]? = some (.exm x y b) := by rfl) : PySem.W.exmOne K (.ref (He.ga K x)) (.ref (He.ga K y)) = some b := He.exm_ok (E.says.fact i (f := .exm x y b) h)
theorem Wd.fun_ (E : Wd fa fn tf ex K mg base) (i : Nat) {d : He.DefD} (h : fn[i]? = some d := by rfl) : ∃ fd, FunD K d.name d.qual d.params d.body d.scope (d.dvs K) (d.kws K) (He.fAd K d.at_) fd := E.says.def_ i h
theorem Wd.tab (E : Wd fa fn tf ex K mg base) {p : He.Defn} (h : p ∈ tf) : GxR.TabB base mg (He.codeOf K p) (He.cT K p).2 := let t := E.tabs p h; ⟨t.code, t.bm, t.gP⟩
end
section
variable {X : Cx} {M : Mo} {W : WX} {pos : Pos}
theorem de_gstr {x z : Str} (h : ∃ t, X.mg x = some (.str z t)) (hg : Gl X x := by rfl) (hd : (x == ("__debug__" : Str)) = false := by decide) : PE X (.Name x pos) (tE X.K M W (eC (.str z))) := by
  obtain ⟨t, h⟩ := h
  exact de_glob (v := .str z) hg h ⟨t, rfl⟩ (fun _ => rfl) hd
theorem de_gint {x : Str} {z : Int} (h : ∃ t, X.mg x = some (.int z t)) (hg : Gl X x := by rfl) (hd : (x == ("__debug__" : Str)) = false := by decide) : PE X (.Name x pos) (tE X.K M W (eC (.int z))) := by
  obtain ⟨t, h⟩ := h
  exact de_glob (v := .int z) hg h ⟨t, rfl⟩ (fun _ => rfl) hd
theorem de_gref {x : Str} {d : D} (h : X.mg x = some (.ref (He.ga X.K x))) (hr : ∀ G, Rep X.K G d (.ref (He.ga X.K x))) (hg : Gl X x := by rfl) (hd : (x == ("__debug__" : Str)) = false := by decide) : PE X (.Name x pos) (tE X.K M W (eC d)) :=
  de_glob (v := .ref (He.ga X.K x)) hg h rfl hr hd
end
end Dl

set_option Elab.async false
set_option linter.all false
set_option maxRecDepth 100000
set_option maxHeartbeats 2000000
/-! Short words for printed terms. -/
namespace Dl
open PySem PySem.Spec PyProof.Rows L2

theorem bt_len : bootBuiltins "len" = some (.builtin "len") := by decide +kernel
theorem bt_isinstance : bootBuiltins "isinstance" = some (.builtin "isinstance") := by decide +kernel
theorem bt_str : bootBuiltins "str" = some (.type "str") := by decide +kernel
theorem bt_int : bootBuiltins "int" = some (.type "int") := by decide +kernel
theorem bt_bool : bootBuiltins "bool" = some (.type "bool") := by decide +kernel
theorem bt_tuple : bootBuiltins "tuple" = some (.type "tuple") := by decide +kernel
theorem bt_list : bootBuiltins "list" = some (.type "list") := by decide +kernel
theorem bt_dict : bootBuiltins "dict" = some (.type "dict") := by decide +kernel
theorem bt_all : bootBuiltins "all" = some (.builtin "all") := by decide +kernel
/-- a block's names, by a look -/
def blkB (N : List Str) (sc scope : Scope) (own : List (Str × Nat)) : Bool := decide (scope.kind = .function) && (scope.names.all fun y => decide (scope.names.lookup y.1 = some y.2)) && (own.all fun p => decide (N[p.2]? = some p.1)) &&
  (scope.names.all fun y => if y.2 = .free then decide (sc.names.lookup y.1 = some .cell ∨ sc.names.lookup y.1 = some .free) else true) && scope.names.all fun y => if y.2 = .local ∨ y.2 = .cell then decide (y.1 ∈ own.map (·.1) ∨ y.1 ∉ N) else true
theorem blk_of {N : List Str} {sc scope : Scope} {own : List (Str × Nat)} (h : blkB N sc scope own = true) : BlkOk N sc scope own := by
  unfold blkB at h
  simp only [Bool.and_eq_true, decide_eq_true_eq, List.all_eq_true] at h
  obtain ⟨⟨⟨⟨h1, h2⟩, h3⟩, h4⟩, h5⟩ := h
  refine ⟨h1, h2, h3, fun y hy e => ?_, fun y hy e => ?_⟩
  · have q := h4 y hy
    rw [if_pos e] at q
    exact of_decide_eq_true q
  · have q := h5 y hy
    rw [if_pos e] at q
    exact of_decide_eq_true q
def gnB (N : List Str) (sc scope : Scope) (own : List (Str × Nat)) : Bool := blkB N sc scope own && !scope.isCoroutine && (scope.names.all fun y => decide (y.2 ≠ .cell)) && decide (scope.names.lookup (".0" : Str) = some NameKind.local)
theorem gn_of {N : List Str} {sc scope : Scope} {own : List (Str × Nat)} (h : gnB N sc scope own = true) : GnOk N sc scope own := by
  unfold gnB at h
  simp only [Bool.and_eq_true, decide_eq_true_eq, List.all_eq_true, Bool.not_eq_true'] at h
  exact ⟨blk_of h.1.1.1, h.1.1.2, h.1.2, h.2⟩
def iaddD : D → D → Option D
  | .int i, .int j => some (.int (i + j))
  | .str a, .str b => if a.length + b.length ≤ sizeLine then some (.str (a ++ b)) else none
  | _, _ => none
section
variable {X : Cx} {M : Mo} {W : WX} {pos : Pos} {a b e : Expr} {f g : Ev} {k : Nat}
theorem u64 (hr : Room k X.A) : X.A.units + 64 < cLine := hr.units
theorem u65 (hr : Room k X.A) : X.A.units + 65 < cLine := by have := hr.un; omega
theorem xAdd (ha : PE X a (tE X.K M W f)) (hb : PE X b (tE X.K M W g)) : PE X (.BinOp a .Add b pos) (tE X.K M W (e2 addD f g)) := de_op op_addD os_add ha hb
theorem xSub (ha : PE X a (tE X.K M W f)) (hb : PE X b (tE X.K M W g)) : PE X (.BinOp a .Sub b pos) (tE X.K M W (e2 subD f g)) := de_op op_sub os_sub ha hb
theorem xMul (ha : PE X a (tE X.K M W f)) (hb : PE X b (tE X.K M W g)) : PE X (.BinOp a .Mult b pos) (tE X.K M W (e2 mulD f g)) := de_op op_mul os_mul ha hb
theorem xFdv (ha : PE X a (tE X.K M W f)) (hb : PE X b (tE X.K M W g)) : PE X (.BinOp a .FloorDiv b pos) (tE X.K M W (e2 fdivD f g)) := de_op op_fdiv os_fdiv ha hb
theorem xMod (ha : PE X a (tE X.K M W f)) (hb : PE X b (tE X.K M W g)) : PE X (.BinOp a .Mod b pos) (tE X.K M W (e2 modD f g)) := de_op op_mod os_mod ha hb
theorem xPow (ha : PE X a (tE X.K M W f)) (hb : PE X b (tE X.K M W g)) : PE X (.BinOp a .Pow b pos) (tE X.K M W (e2 powD f g)) := de_op op_pow os_pow ha hb
theorem cEq (hr : Room k X.A) (ha : PE X a (tE X.K M W f)) (hb : PE X b (tE X.K M W g)) : PE X (.Compare a [.Eq] [b] pos) (tE X.K M W (e2 eqD f g)) := de_cmp (op_eqD (u64 hr)) os_eq ha hb
theorem cNe (hr : Room k X.A) (ha : PE X a (tE X.K M W f)) (hb : PE X b (tE X.K M W g)) : PE X (.Compare a [.NotEq] [b] pos) (tE X.K M W (e2 neD f g)) := de_cmp (op_neD (u64 hr)) os_ne ha hb
theorem cLt (ha : PE X a (tE X.K M W f)) (hb : PE X b (tE X.K M W g)) : PE X (.Compare a [.Lt] [b] pos) (tE X.K M W (e2 ltD f g)) := de_cmp op_lt os_lt ha hb
theorem cLe (ha : PE X a (tE X.K M W f)) (hb : PE X b (tE X.K M W g)) : PE X (.Compare a [.LtE] [b] pos) (tE X.K M W (e2 leD f g)) := de_cmp op_le os_le ha hb
theorem cGt (ha : PE X a (tE X.K M W f)) (hb : PE X b (tE X.K M W g)) : PE X (.Compare a [.Gt] [b] pos) (tE X.K M W (e2 gtD f g)) := de_cmp op_gt os_gt ha hb
theorem cGe (ha : PE X a (tE X.K M W f)) (hb : PE X b (tE X.K M W g)) : PE X (.Compare a [.GtE] [b] pos) (tE X.K M W (e2 geD f g)) := de_cmp op_ge os_ge ha hb
theorem cIn (hr : Room k X.A) (ha : PE X a (tE X.K M W f)) (hb : PE X b (tE X.K M W g)) (hm : behindInMarks .In b = false := by first | exact nomark _ | rfl) : PE X (.Compare a [.In] [b] pos) (tE X.K M W (e2 inD f g)) := de_cmp (op_inAll (u65 hr)) os_in ha hb hm
theorem cNin (hr : Room k X.A) (ha : PE X a (tE X.K M W f)) (hb : PE X b (tE X.K M W g)) (hm : behindInMarks .NotIn b = false := by first | exact nomark _ | rfl) : PE X (.Compare a [.NotIn] [b] pos) (tE X.K M W (e2 ninD f g)) := de_cmp (op_ninAll (u65 hr)) os_nin ha hb hm
theorem cIs (ha : PE X a (tE X.K M W f)) (hb : PE X b (tE X.K M W g)) : PE X (.Compare a [.Is] [b] pos) (tE X.K M W (e2 isND f g)) := de_cmp op_isN os_isN ha hb
theorem cIsn (ha : PE X a (tE X.K M W f)) (hb : PE X b (tE X.K M W g)) : PE X (.Compare a [.IsNot] [b] pos) (tE X.K M W (e2 notND f g)) := de_cmp op_notN os_notN ha hb
theorem tEq (hr : Room k X.A) (ha : PE X a (tE X.K M W f)) (hb : PE X b (tE X.K M W g)) : PT X (.Compare a [.Eq] [b] pos) (tT X.K M W (tB1 (e2 eqD f g))) := dt_cmp (op_eqD (u64 hr)) os_eq ha hb
theorem tNe (hr : Room k X.A) (ha : PE X a (tE X.K M W f)) (hb : PE X b (tE X.K M W g)) : PT X (.Compare a [.NotEq] [b] pos) (tT X.K M W (tB1 (e2 neD f g))) := dt_cmp (op_neD (u64 hr)) os_ne ha hb
theorem tLt (ha : PE X a (tE X.K M W f)) (hb : PE X b (tE X.K M W g)) : PT X (.Compare a [.Lt] [b] pos) (tT X.K M W (tB1 (e2 ltD f g))) := dt_cmp op_lt os_lt ha hb
theorem tLe (ha : PE X a (tE X.K M W f)) (hb : PE X b (tE X.K M W g)) : PT X (.Compare a [.LtE] [b] pos) (tT X.K M W (tB1 (e2 leD f g))) := dt_cmp op_le os_le ha hb
theorem tGt (ha : PE X a (tE X.K M W f)) (hb : PE X b (tE X.K M W g)) : PT X (.Compare a [.Gt] [b] pos) (tT X.K M W (tB1 (e2 gtD f g))) := dt_cmp op_gt os_gt ha hb
theorem tGe (ha : PE X a (tE X.K M W f)) (hb : PE X b (tE X.K M W g)) : PT X (.Compare a [.GtE] [b] pos) (tT X.K M W (tB1 (e2 geD f g))) := dt_cmp op_ge os_ge ha hb
theorem tIn (hr : Room k X.A) (ha : PE X a (tE X.K M W f)) (hb : PE X b (tE X.K M W g)) (hm : behindInMarks .In b = false := by first | exact nomark _ | rfl) : PT X (.Compare a [.In] [b] pos) (tT X.K M W (tB1 (e2 inD f g))) := dt_cmp (op_inAll (u65 hr)) os_in ha hb hm
theorem tNin (hr : Room k X.A) (ha : PE X a (tE X.K M W f)) (hb : PE X b (tE X.K M W g)) (hm : behindInMarks .NotIn b = false := by first | exact nomark _ | rfl) : PT X (.Compare a [.NotIn] [b] pos) (tT X.K M W (tB1 (e2 ninD f g))) := dt_cmp (op_ninAll (u65 hr)) os_nin ha hb hm
theorem tIs (ha : PE X a (tE X.K M W f)) (hb : PE X b (tE X.K M W g)) : PT X (.Compare a [.Is] [b] pos) (tT X.K M W (tB1 (e2 isND f g))) := dt_cmp op_isN os_isN ha hb
theorem tIsn (ha : PE X a (tE X.K M W f)) (hb : PE X b (tE X.K M W g)) : PT X (.Compare a [.IsNot] [b] pos) (tT X.K M W (tB1 (e2 notND f g))) := dt_cmp op_notN os_notN ha hb
theorem bLen {p : Pos} (hm : X.mg "len" = none) (ha : PE X a (tE X.K M W f)) (hg : Gl X "len" := by rfl) (he : starEach [a] X.env = (false, eval a X.env) :: starEach [] X.env := by rfl) : PE X (.Call (.Name "len" p) [a] [] pos) (tE X.K M W (eB lenD (aCons f aNil))) :=
  de_callB call_len cs_len hg hm bt_len (da_cons ha da_nil he) (by decide) (by decide) he
theorem bInt {p : Pos} (hm : X.mg "int" = none) (ha : PE X a (tE X.K M W f)) (hg : Gl X "int" := by rfl) (he : starEach [a] X.env = (false, eval a X.env) :: starEach [] X.env := by rfl) : PE X (.Call (.Name "int" p) [a] [] pos) (tE X.K M W (eB intD (aCons f aNil))) :=
  de_callTy call_int1 cs_int hg hm bt_int (da_cons ha da_nil he) (by decide) (by decide) he
theorem bTuple {p : Pos} (hm : X.mg "tuple" = none) (ha : PE X a (tE X.K M W f)) (hg : Gl X "tuple" := by rfl) (he : starEach [a] X.env = (false, eval a X.env) :: starEach [] X.env := by rfl) : PE X (.Call (.Name "tuple" p) [a] [] pos) (tE X.K M W (eB tupleD (aCons f aNil))) :=
  de_callTy call_tuple_of cs_tuple hg hm bt_tuple (da_cons ha da_nil he) (by decide) (by decide) he
theorem iop_addD : OpR X (inplaceOp .Add) (fun x y H Q => rI0 (fun i j => .int (i + j)) x y H Q ∨ ∃ i j, x = .str i ∧ y = .str j ∧ i.length + j.length ≤ sizeLine ∧ Q (.str (i ++ j)) H) := iop_add.or iop_add_str
theorem os_iadd : OpS X.K (fun x y H Q => rI0 (fun i j => .int (i + j)) x y H Q ∨ ∃ i j, x = .str i ∧ y = .str j ∧ i.length + j.length ≤ sizeLine ∧ Q (.str (i ++ j)) H) iaddD := fun tp G H d e v w Q l rv rw q => by
  cases d with
  | int i =>
    cases e with
    | int j => exact .inl ⟨i, j, rv, rw, q.at l rfl⟩
    | _ => exact False.elim q
  | str a =>
    cases e with
    | str b =>
      replace q : QX X.K tp G H (if a.length + b.length ≤ sizeLine then some (.str (a ++ b)) else none) Q := q
      split at q
      · rename_i z
        exact .inr ⟨a, b, rv, rw, z, q.at l rfl⟩
      · exact False.elim q
    | _ => exact False.elim q
  | _ => exact False.elim q
theorem aAdd (i : Nat) {x : Str} {pos' : Pos} (hN : X.N.Nodup) (he : PE X e (tE X.K M W f)) (hi : X.N[i]? = some x := by rfl) (hx : Loc X.env.scope x := by first | exact Or.inl rfl | exact Or.inr rfl) (hf : X.fn x = true ∨ X.env.scope.names.lookup x = some .local := by first | exact .inl rfl | exact .inr rfl | assumption) :
    PS X (.AugAssign (.Name x pos') .Add e pos) (tS X.K M W (sAug i iaddD f)) := ds_aug i iop_addD os_iadd hN he hi hx hf
theorem aSub (i : Nat) {x : Str} {pos' : Pos} (hN : X.N.Nodup) (he : PE X e (tE X.K M W f)) (hi : X.N[i]? = some x := by rfl) (hx : Loc X.env.scope x := by first | exact Or.inl rfl | exact Or.inr rfl) (hf : X.fn x = true ∨ X.env.scope.names.lookup x = some .local := by first | exact .inl rfl | exact .inr rfl | assumption) :
    PS X (.AugAssign (.Name x pos') .Sub e pos) (tS X.K M W (sAug i subD f)) := ds_aug i iop_sub os_sub hN he hi hx hf
end
section
variable {X : Cx} {M : Mo} {W : WX} {pos : Pos} {e : Expr}
/-- raise X('..'), X by its facts -/
theorem ds_raiseE {c : String} {m : Str} {j : Nat} {p p2 pos2 : Pos} (tk : Takes X W) (gC : X.mg (Str.ofString c) = some (.ref (He.ga X.K (Str.ofString c))))
    (F : PySem.W.excIn X.K (He.ga X.K (Str.ofString c)) He.veBase "ValueError.__new__" = true ∧ PySem.W.keepIn X.K (.ref (He.ga X.K (Str.ofString c))) = true ∧ PySem.W.subIn X.K (.ref (He.ga X.K (Str.ofString c))) (.type "BaseException") = some true ∧ PySem.W.typeIn X.K (.ref (He.ga X.K (Str.ofString c))) = some (.type "type"))
    (ec : M.ec c = .ref (He.ga X.K (Str.ofString c)) := by rfl) (hc : X.calm = true := by rfl) (hg : Gl X (Str.ofString c) := by rfl) (hdb : (Str.ofString c == ("__debug__" : Str)) = false := by decide) :
    PS X (.Raise (some (.Call (.Name (Str.ofString c) p) [.Constant (.str m) j p2] [] pos)) none pos2) (tS X.K M W (sRaise c)) :=
  ds_raise hc tk ec PySem.F.excBase_ValueError F.1 gC F.2.1 (raises_own F.2.2.1 F.2.2.2) hg hdb
def subL (l : List (String × Bool)) (n : String) : Option Bool := l.lookup n
theorem sub_nil {K : PySem.W.Frag} {c : Value} : ∀ n b, subL [] n = some b → PySem.W.exmOne K (M.ec n) c = some b := fun n b h => by cases h
theorem sub_cons {K : PySem.W.Frag} {c : Value} {n0 : String} {b0 : Bool} {l : List (String × Bool)} (h0 : PySem.W.exmOne K (M.ec n0) c = some b0) (hl : ∀ n b, subL l n = some b → PySem.W.exmOne K (M.ec n) c = some b) : ∀ n b, subL ((n0, b0) :: l) n = some b → PySem.W.exmOne K (M.ec n) c = some b := fun n b h => by
  unfold subL at h
  rw [List.lookup_cons] at h
  cases e : n == n0 with
  | true =>
    rw [e] at h
    cases h
    rw [eq_of_beq e]; exact h0
  | false => rw [e] at h; exact hl n b h
end
end Dl

set_option Elab.async false
set_option linter.all false
set_option maxRecDepth 100000
set_option maxHeartbeats 2000000
/-! The law's entry. -/
namespace Dl
open PySem PySem.Spec PyProof.Rows L2
theorem reps_ints {K : PySem.W.Frag} {G : Hp} : ∀ ns : List Int, Reps K G (ns.map D.int) (ns.map V.int)
  | [] => rfl
  | n :: ns => ⟨_, _, rfl, rfl, reps_ints ns⟩
open Classical in
theorem ent_law {K : PySem.W.Frag} {M : Mo} {m : List D → R D} {H : Hp} {a : Addr} {ns : List Int} (h : m [.lst (ns.map D.int)] = .ok (.bl true)) (tb : ∀ a, M.tp a → H a = some (.tbl #[])) (hS : SqL K H a (ns.map V.int)) :
    spD K M 1 m [.ref a] H (fun v _ => v = .bl true) fun _ _ _ => False := by
  refine ⟨fun b => if M.tp b then none else H b, [.lst (ns.map D.int)], fun b o e => ?_, fun b t => ⟨⟨#[], tb b t, trivial⟩, if_pos t⟩, ⟨_, _, rfl, ⟨a, _, rfl, ?_, reps_ints ns⟩, rfl⟩, rfl, ?_⟩
  · dsimp only at e
    split at e
    · cases e
    · exact e
  · rcases hS with (e | ⟨o, e⟩) | e
    · exact .inl (.inl (by dsimp only; rw [if_neg (fun t => by rw [tb a t] at e; cases e)]; exact e))
    · exact .inl (.inr ⟨o, by dsimp only; rw [if_neg (fun t => by rw [tb a t] at e; cases e)]; exact e⟩)
    · exact .inr e
  · rw [h]
    intro G' H' t v rv
    exact rv
end Dl

set_option Elab.async false
set_option linter.all false
set_option maxRecDepth 100000
set_option maxHeartbeats 1000000
/-! Plain facts of the data functions. -/
namespace Dl
open PySem PySem.Spec PyProof.Rows L2

/-! ### equality of data with no truth values -/
mutual
def D.nb : D → Bool
  | .bl _ => false
  | .tup xs => D.nbs xs
  | .lst xs => D.nbs xs
  | _ => true
def D.nbs : List D → Bool
  | [] => true
  | x :: xs => D.nb x && D.nbs xs
end
mutual
theorem eqv_nb : ∀ d e : D, d.nb = true → e.nb = true → (PyData.eqv d.py e.py = true ↔ d = e)
  | .non, e, _, h => by cases e <;> simp_all [D.py, PyData.eqv, D.nb]
  | .int i, e, _, h => by cases e <;> simp_all [D.py, PyData.eqv, D.nb]
  | .str x, e, _, h => by cases e <;> simp_all [D.py, PyData.eqv, D.nb]
  | .bl b, e, h, _ => by simp [D.nb] at h
  | .tup xs, e, h1, h2 => by
    cases e with
    | tup ys => simpa [D.py, PyData.eqv] using eqvs_nb xs ys (by simpa [D.nb] using h1) (by simpa [D.nb] using h2)
    | _ => simp_all [D.py, PyData.eqv, D.nb]
  | .lst xs, e, h1, h2 => by
    cases e with
    | lst ys => simpa [D.py, PyData.eqv] using eqvs_nb xs ys (by simpa [D.nb] using h1) (by simpa [D.nb] using h2)
    | _ => simp_all [D.py, PyData.eqv, D.nb]
theorem eqvs_nb : ∀ xs ys : List D, D.nbs xs = true → D.nbs ys = true → (PyData.eqvAll (D.pys xs) (D.pys ys) = true ↔ xs = ys)
  | [], ys, _, _ => by cases ys <;> simp [D.pys, PyData.eqvAll]
  | x :: xs, [], _, _ => by simp [D.pys, PyData.eqvAll]
  | x :: xs, y :: ys, h1, h2 => by
    simp only [D.nbs, Bool.and_eq_true] at h1 h2
    simp only [D.pys, PyData.eqvAll, Bool.and_eq_true, List.cons.injEq, eqv_nb x y h1.1 h2.1, eqvs_nb xs ys h1.2 h2.2]
end
theorem eqv_dec {d e : D} (h1 : d.nb = true) (h2 : e.nb = true) : eqv d e = decide (d = e) := by
  unfold eqv
  rw [Bool.eq_iff_iff, decide_eq_true_eq]
  exact eqv_nb d e h1 h2
theorem eqD_nb {d e : D} (h1 : d.nb = true) (h2 : e.nb = true) (s1 : sh d = true) (s2 : sh e = true) : eqD d e = some (.bl (decide (d = e))) := by
  unfold eqD
  rw [s1, s2, eqv_dec h1 h2]; rfl
theorem neD_nb {d e : D} (h1 : d.nb = true) (h2 : e.nb = true) (s1 : sh d = true) (s2 : sh e = true) : neD d e = some (.bl (!decide (d = e))) := by
  unfold neD
  rw [s1, s2, eqv_dec h1 h2]; rfl
/-! ### shapes -/
mutual
def D.dep : D → Nat
  | .tup xs => D.deps xs + 1
  | .lst xs => D.deps xs + 1
  | _ => 0
def D.deps : List D → Nat
  | [] => 0
  | x :: xs => max (D.dep x) (D.deps xs)
end
mutual
def D.txt : D → Bool
  | .str x => x.cps.all (· < 0x110000)
  | .tup xs => D.txts xs
  | .lst xs => D.txts xs
  | _ => true
def D.txts : List D → Bool
  | [] => true
  | x :: xs => D.txt x && D.txts xs
end
mutual
theorem can_txt : ∀ d : D, PyData.canLay0 d.py = d.txt
  | .non => rfl
  | .bl _ => rfl
  | .int _ => rfl
  | .str x => rfl
  | .tup xs => by rw [D.py, PyData.canLay0, can_txts xs, D.txt]
  | .lst xs => by rw [D.py, PyData.canLay0, can_txts xs, D.txt]
theorem can_txts : ∀ xs : List D, PyData.canLayAll0 (D.pys xs) = D.txts xs
  | [] => rfl
  | x :: xs => by rw [D.pys, PyData.canLayAll0, can_txt x, can_txts xs, D.txts]
theorem dep_py : ∀ d : D, PyData.depth d.py = d.dep
  | .non => rfl
  | .bl _ => rfl
  | .int _ => rfl
  | .str x => rfl
  | .tup xs => by rw [D.py, PyData.depth, dep_pys xs, D.dep]
  | .lst xs => by rw [D.py, PyData.depth, dep_pys xs, D.dep]
theorem dep_pys : ∀ xs : List D, PyData.depthAll (D.pys xs) = D.deps xs
  | [] => rfl
  | x :: xs => by rw [D.pys, PyData.depthAll, dep_py x, dep_pys xs, D.deps]
end
theorem sh_eq (d : D) : sh d = (d.txt && decide (d.dep ≤ 64)) := by
  unfold sh SeqAt.shaped
  rw [can_txt, dep_py]
theorem sh_of {d : D} (h1 : d.txt = true) (h2 : d.dep ≤ 64) : sh d = true := by rw [sh_eq, h1, decide_eq_true h2]; rfl

/-! ### texts by their signs -/
def Tx (l : List Nat) : Str := ⟨l.toArray⟩
theorem S_list (l : List Nat) : (Tx l).cps.toList = l := rfl
theorem S_eta (x : Str) : Tx x.cps.toList = x := by cases x; rfl
theorem S_len (l : List Nat) : (Tx l).length = l.length := by simp [Tx, Str.length]
theorem S_app (a b : List Nat) : Tx a ++ Tx b = Tx (a ++ b) := by
  show (⟨a.toArray ++ b.toArray⟩ : Str) = ⟨(a ++ b).toArray⟩
  simp
theorem S_inj {a b : List Nat} : Tx a = Tx b ↔ a = b := by simp [Tx]
theorem ofS (x : Str) : ∃ l, x = Tx l := ⟨x.cps.toList, (S_eta x).symm⟩
def Ok1 (l : List Nat) : Prop := ∀ c ∈ l, c < 0x110000
theorem txt_S {l : List Nat} (h : Ok1 l) : (D.str (Tx l)).txt = true := by
  show (Tx l).cps.all (· < 0x110000) = true
  simp [Tx]
  exact h
theorem add_S {a b : List Nat} (h : a.length + b.length ≤ sizeLine) : addD (.str (Tx a)) (.str (Tx b)) = some (.str (Tx (a ++ b))) := by
  show (if (Tx a).length + (Tx b).length ≤ sizeLine then _ else _) = _
  rw [S_len, S_len, if_pos h, S_app]
theorem len_S {a : List Nat} (h : a.length ≤ sizeLine) : lenD [.str (Tx a)] = some (.int a.length) := by
  show (if (Tx a).length ≤ sizeLine then some (D.int ((Tx a).length : Int)) else none) = _
  rw [S_len, if_pos h]
theorem sh_S {l : List Nat} (h : Ok1 l) : sh (.str (Tx l)) = true := sh_of (txt_S h) (Nat.zero_le _)
theorem eq_S {a b : List Nat} (ha : Ok1 a) (hb : Ok1 b) : eqD (.str (Tx a)) (.str (Tx b)) = some (.bl (decide (a = b))) := by
  rw [eqD_nb rfl rfl (sh_S ha) (sh_S hb)]
  simp [S_inj]
theorem ne_S {a b : List Nat} (ha : Ok1 a) (hb : Ok1 b) : neD (.str (Tx a)) (.str (Tx b)) = some (.bl (!decide (a = b))) := by
  rw [neD_nb rfl rfl (sh_S ha) (sh_S hb)]
  simp [S_inj]
theorem sl_S {l : List Nat} (h : l.length ≤ sizeLine) (a b : Nat) : slD (.str (Tx l)) (some (a : Int)) (some (b : Int)) = some (.str (Tx ((l.drop a).take (b - a)))) := by
  show (if (Tx l).length ≤ sizeLine then some (D.str (cutS (Tx l) (some (a : Int)) (some (b : Int)))) else none) = _
  rw [S_len, if_pos h]
  unfold cutS
  rw [S_len, S_list, HT.sIx_nat, HT.sIx_nat]
  congr 2
  show Tx _ = Tx _
  rw [S_inj]
  by_cases ha : a ≤ l.length
  · rw [Nat.min_eq_left ha]
    by_cases hb : b ≤ l.length
    · rw [Nat.min_eq_left hb]
    · rw [Nat.min_eq_right (Nat.le_of_not_le hb), List.take_of_length_le (by simp), List.take_of_length_le (by simp; omega)]
  · have e : min a l.length = l.length := Nat.min_eq_right (Nat.le_of_not_le ha)
    rw [e, List.drop_length, List.drop_eq_nil_of_le (show l.length ≤ a by omega), List.take_nil, List.take_nil]
theorem slFrom_S {l : List Nat} (h : l.length ≤ sizeLine) (a : Nat) : slD (.str (Tx l)) (some (a : Int)) none = some (.str (Tx (l.drop a))) := by
  show (if (Tx l).length ≤ sizeLine then some (D.str (cutS (Tx l) (some (a : Int)) none)) else none) = _
  rw [S_len, if_pos h]
  unfold cutS
  rw [S_len, S_list, HT.sIx_nat, HT.sIx_none]
  congr 2
  show Tx _ = Tx _
  rw [S_inj]
  by_cases ha : a ≤ l.length
  · rw [Nat.min_eq_left ha, List.take_of_length_le (by simp)]
  · rw [Nat.min_eq_right (by omega)]
    simp [List.drop_eq_nil_of_le (show l.length ≤ a by omega)]
theorem slTo_S {l : List Nat} (h : l.length ≤ sizeLine) (b : Nat) : slD (.str (Tx l)) none (some (b : Int)) = some (.str (Tx (l.take b))) := by
  show (if (Tx l).length ≤ sizeLine then some (D.str (cutS (Tx l) none (some (b : Int)))) else none) = _
  rw [S_len, if_pos h]
  unfold cutS
  rw [S_len, S_list, HT.sIx_nat, HT.sIx_none]
  congr 2
  show Tx _ = Tx _
  rw [S_inj, List.drop_zero, Nat.sub_zero]
  by_cases hb : b ≤ l.length
  · rw [Nat.min_eq_left hb]
  · rw [Nat.min_eq_right (by omega), List.take_of_length_le (Nat.le_refl _), List.take_of_length_le (by omega)]
theorem atI_nat {α : Type} (xs : List α) (i : Nat) : atI xs (i : Int) = xs[i]? := by
  unfold atI ixN
  by_cases h : i < xs.length
  · rw [if_pos (by omega), if_pos (by omega)]
    simp
  · rw [if_pos (by omega), if_neg (by omega)]
    simp; omega
theorem ix_S {l : List Nat} (h : l.length ≤ sizeLine) (i : Nat) : ixD (.str (Tx l)) (.int (i : Int)) = l[i]?.map fun c => .str (Tx [c]) := by
  show (if (Tx l).length ≤ sizeLine then (atI (Tx l).cps.toList (i : Int)).map (fun c => D.str ⟨#[c]⟩) else none) = _
  rw [S_len, if_pos h, S_list, atI_nat]
  rfl
theorem ix_tup (xs : List D) (i : Nat) : ixD (.tup xs) (.int (i : Int)) = xs[i]? := atI_nat xs i
theorem ix_lst (xs : List D) (i : Nat) : ixD (.lst xs) (.int (i : Int)) = xs[i]? := atI_nat xs i
theorem in_S1 (c : Nat) (l : List Nat) : inD (.str (Tx [c])) (.str (Tx l)) = some (.bl (decide (c ∈ l))) := rfl
theorem nin_S1 (c : Nat) (l : List Nat) : ninD (.str (Tx [c])) (.str (Tx l)) = some (.bl (!decide (c ∈ l))) := rfl
theorem cut_tup (xs : List D) (a : Nat) : slD (.tup xs) (some (a : Int)) none = some (.tup (xs.drop a)) := by
  show some (D.tup (cutD xs (some (a : Int)) none)) = _
  unfold cutD
  rw [HT.sIx_nat, HT.sIx_none]
  congr 2
  by_cases ha : a ≤ xs.length
  · rw [Nat.min_eq_left ha, List.take_of_length_le (by simp)]
  · rw [Nat.min_eq_right (by omega)]
    simp [List.drop_eq_nil_of_le (show xs.length ≤ a by omega)]

/-! ### evaluation -/
section
variable (f g : Ev) (c t u : Tv) (a b : Sv) (fs : Env → R (List D)) (δ : Env)
@[simp] theorem ev_bind_ok {α β : Type} (a : α) (f : α → R β) : (R.ok a >>= f) = f a := rfl
@[simp] theorem ev_bind_exc {α β : Type} (c : String) (f : α → R β) : ((R.exc c : R α) >>= f) = R.exc c := rfl
@[simp] theorem ev_bindF_ok {α : Type} (a : α) (k : α → Fl) : bindF (.ok a) δ k = k a := rfl
@[simp] theorem ev_bindF_exc {α : Type} (c : String) (k : α → Fl) : bindF (.exc c) δ k = .exc c δ := rfl
@[simp] theorem ev_sNext : sNext δ = .next δ := rfl
@[simp] theorem ev_sSeq : sSeq a b δ = (match a δ with | .next δ' => b δ' | .brk δ' => .brk δ' | .cont δ' => .cont δ' | .ret d => .ret d | .exc c δ' => .exc c δ' | .bad => .bad) := rfl
@[simp] theorem ev_sIf : sIf c a b δ = bindF (c δ) δ fun x => match x with | true => a δ | false => b δ := rfl
@[simp] theorem ev_sRet : sRet f δ = bindF (f δ) δ fun d => .ret d := rfl
@[simp] theorem ev_sSet (i : Nat) : sSet i f δ = bindF (f δ) δ fun d => .next (δ.set i (.val d)) := rfl
@[simp] theorem ev_sOwn (i : Nat) : sOwn i fs δ = bindF (fs δ) δ fun ds => .next (δ.set i (.own ds)) := rfl
@[simp] theorem ev_sDrop : sDrop f δ = bindF (f δ) δ fun _ => .next δ := rfl
@[simp] theorem ev_sRaise (x : String) : sRaise x δ = .exc x δ := rfl
@[simp] theorem ev_sFrz (i : Nat) : sFrz i a δ = a (frz i δ) := rfl
@[simp] theorem ev_sUnp (t : Tg) : sUnp t f δ = bindF (f δ) δ fun d => match t.put d δ with | some δ' => .next δ' | none => .bad := rfl
@[simp] theorem ev_sFor (t : Tg) : sFor t fs a δ = bindF (fs δ) δ fun ds => forF t a ds δ := rfl
@[simp] theorem ev_eC (d : D) : eC d δ = .ok d := rfl
@[simp] theorem ev_e1 (h : D → Option D) : e1 h f δ = (f δ >>= fun x => ofO (h x)) := rfl
@[simp] theorem ev_e2 (h : D → D → Option D) : e2 h f g δ = (f δ >>= fun x => g δ >>= fun y => ofO (h x y)) := rfl
@[simp] theorem ev_eB (m : List D → Option D) : eB m fs δ = (fs δ >>= fun xs => ofO (m xs)) := rfl
@[simp] theorem ev_eCall (m : List D → R D) : eCall m fs δ = (fs δ >>= fun xs => m xs) := rfl
@[simp] theorem ev_eIsi (T : String) : eIsi T f δ = (f δ >>= fun d => ofO ((kitB (tyN d) T).map .bl)) := rfl
@[simp] theorem ev_aNil : aNil δ = .ok [] := rfl
@[simp] theorem ev_aCons : aCons f fs δ = (f δ >>= fun x => fs δ >>= fun xs => .ok (x :: xs)) := rfl
@[simp] theorem ev_eIf : eIf c f g δ = (c δ >>= fun x => match x with | true => f δ | false => g δ) := rfl
@[simp] theorem ev_tB1 : tB1 f δ = (f δ >>= fun x => match x with | .bl b => .ok b | _ => .bad) := rfl
@[simp] theorem ev_tAnd : tAnd' t u δ = (t δ >>= fun x => match x with | true => u δ | false => .ok false) := rfl
@[simp] theorem ev_tOr : tOr' t u δ = (t δ >>= fun x => match x with | true => .ok true | false => u δ) := rfl
@[simp] theorem ev_tNot : tNot' t δ = (t δ >>= fun x => .ok !x) := rfl
@[simp] theorem ev_tYes : tYesD δ = .ok true := rfl
@[simp] theorem ev_oNone : oNone δ = .ok none := rfl
@[simp] theorem ev_oSome : oSome f δ = (f δ >>= fun x => match x with | .int i => .ok (some i) | _ => .bad) := rfl
@[simp] theorem ev_eSl (l h : Env → R (Option Int)) : eSl f l h δ = (f δ >>= fun x => l δ >>= fun a => h δ >>= fun b => ofO (slD x a b)) := rfl
@[simp] theorem ev_iSeq : iSeq f δ = (f δ >>= fun d => ofO (itD d)) := rfl
@[simp] theorem ev_iRng : iRng fs δ = (fs δ >>= fun ds => ofO (rngD ds)) := rfl
@[simp] theorem ev_eN : eN fs δ = (fs δ >>= fun xs => .ok (.lst xs)) := rfl
@[simp] theorem ev_ofO_some {α : Type} (x : α) : ofO (some x) = .ok x := rfl
@[simp] theorem ev_ofO_none {α : Type} : (ofO none : R α) = .bad := rfl
@[simp] theorem ev_eV0 (x : S) (δ : Env) : eV 0 (x :: δ) = (match x with | .val d => .ok d | _ => .bad) := by cases x <;> rfl
@[simp] theorem ev_eVs (i : Nat) (x : S) (δ : Env) : eV (i + 1) (x :: δ) = eV i δ := by unfold eV; simp
theorem ev_eGen (stop : Bool) (vs : List Nat) (t : Tg) : eGen stop vs t fs c f δ = (fs δ >>= fun ds => genF stop t c f (wipeE δ vs) ds) := rfl
theorem ev_eTup : eTup fs δ = (fs δ >>= fun xs => ofO (if xs.length ≤ sizeLine then some (.tup xs) else none)) := rfl
theorem ev_eLst : eLst fs δ = (fs δ >>= fun xs => ofO (if xs.length ≤ sizeLine then some (.lst xs) else none)) := rfl
@[simp] theorem lt_int (i j : Int) : ltD (.int i) (.int j) = some (.bl (decide (i < j))) := rfl
@[simp] theorem le_int (i j : Int) : leD (.int i) (.int j) = some (.bl (decide (i ≤ j))) := rfl
@[simp] theorem gt_int (i j : Int) : gtD (.int i) (.int j) = some (.bl (decide (j < i))) := rfl
@[simp] theorem ge_int (i j : Int) : geD (.int i) (.int j) = some (.bl (decide (j ≤ i))) := rfl
@[simp] theorem add_int (i j : Int) : addD (.int i) (.int j) = some (.int (i + j)) := rfl
@[simp] theorem sub_int (i j : Int) : subD (.int i) (.int j) = some (.int (i - j)) := rfl
@[simp] theorem iadd_int (i j : Int) : iaddD (.int i) (.int j) = some (.int (i + j)) := rfl
@[simp] theorem len_tup (xs : List D) : lenD [.tup xs] = some (.int xs.length) := rfl
@[simp] theorem len_lst (xs : List D) : lenD [.lst xs] = some (.int xs.length) := rfl
theorem eq_int (i j : Int) : eqD (.int i) (.int j) = some (.bl (decide (i = j))) := by
  rw [eqD_nb rfl rfl (sh_of rfl (Nat.zero_le _)) (sh_of rfl (Nat.zero_le _))]; simp
theorem ne_int (i j : Int) : neD (.int i) (.int j) = some (.bl (!decide (i = j))) := by
  rw [neD_nb rfl rfl (sh_of rfl (Nat.zero_le _)) (sh_of rfl (Nat.zero_le _))]; simp
@[simp] theorem itD_tup (xs : List D) : itD (.tup xs) = some xs := rfl
@[simp] theorem itD_lst (xs : List D) : itD (.lst xs) = some xs := rfl
theorem itD_str (l : List Nat) : itD (.str (Tx l)) = some (l.map fun c => .str (Tx [c])) := rfl
@[simp] theorem put_one (i : Nat) (d : D) : (Tg.one i).put d δ = some (δ.set i (.val d)) := rfl
theorem sz_eq : (sizeLine : Nat) = 16777216 := rfl
end
theorem kit_str_str : kitB "str" "str" = some true := by decide +kernel
theorem kit_tuple_tuple : kitB "tuple" "tuple" = some true := by decide +kernel
theorem kit_str_tuple : kitB "str" "tuple" = some false := by decide +kernel
theorem kit_tuple_str : kitB "tuple" "str" = some false := by decide +kernel
theorem kit_none_str : kitB "NoneType" "str" = some false := by decide +kernel
theorem kit_int_str : kitB "int" "str" = some false := by decide +kernel

/-! ### loops -/
theorem genF_all {t : Tg} {c : Tv} {f : Ev} {δ : Env} {p : D → Bool} : ∀ {ds : List D}, (∀ d ∈ ds, ∃ δ1, t.put d δ = some δ1 ∧ c δ1 = .ok true ∧ f δ1 = .ok (.bl (p d))) → genF false t c f δ ds = .ok (.bl (ds.all p))
  | [], _ => rfl
  | d :: ds, h => by
    obtain ⟨δ1, h1, h2, h3⟩ := h d List.mem_cons_self
    unfold genF
    simp only [h1, h2, h3]
    rw [List.all_cons]
    cases hp : p d with
    | false => rfl
    | true =>
      simp only [Bool.true_eq_false, if_false, Bool.true_and]
      exact genF_all fun e he => h e (List.mem_cons_of_mem _ he)
theorem genF_any {t : Tg} {c : Tv} {f : Ev} {δ : Env} {p : D → Bool} : ∀ {ds : List D}, (∀ d ∈ ds, ∃ δ1, t.put d δ = some δ1 ∧ c δ1 = .ok true ∧ f δ1 = .ok (.bl (p d))) → genF true t c f δ ds = .ok (.bl (ds.any p))
  | [], _ => rfl
  | d :: ds, h => by
    obtain ⟨δ1, h1, h2, h3⟩ := h d List.mem_cons_self
    unfold genF
    simp only [h1, h2, h3]
    rw [List.any_cons]
    cases hp : p d with
    | true => rfl
    | false =>
      simp only [Bool.false_eq_true, if_false, Bool.false_or]
      exact genF_any fun e he => h e (List.mem_cons_of_mem _ he)
theorem mapF_map {t : Tg} {c : Tv} {f : Ev} {δ : Env} {g : D → D} : ∀ {ds : List D}, (∀ d ∈ ds, ∃ δ1, t.put d δ = some δ1 ∧ c δ1 = .ok true ∧ f δ1 = .ok (g d)) → mapF t c f δ ds = .ok (ds.map g)
  | [], _ => rfl
  | d :: ds, h => by
    obtain ⟨δ1, h1, h2, h3⟩ := h d List.mem_cons_self
    unfold mapF
    simp only [h1, h2, h3]
    rw [mapF_map fun e he => h e (List.mem_cons_of_mem _ he)]
    rfl
end Dl

set_option Elab.async false
set_option linter.all false
set_option maxRecDepth 100000
set_option maxHeartbeats 1000000
/-! The laws' cells and draws. -/
namespace Dl
open PySem PySem.Spec PyProof.Rows L2
theorem mod_nat (a b : Nat) (h : 0 < b) : modD (.int (a : Int)) (.int (b : Int)) = some (.int ((a % b : Nat) : Int)) := by
  show (if decide ((0 : Int) < (b : Int)) = true then some (D.int ((a : Int) % (b : Int))) else none) = _
  rw [if_pos (by rw [decide_eq_true_eq]; omega), Int.natCast_emod]
theorem mod_pos (i b : Int) (h : 0 < b) : modD (.int i) (.int b) = some (.int (((i % b).toNat : Nat) : Int)) := by
  have : 0 ≤ i % b := Int.emod_nonneg _ (by omega)
  unfold modD iOp
  simp [h, Int.toNat_of_nonneg this]
theorem fdiv_nat (a b : Nat) (h : 0 < b) (h' : b < 2 ^ 30) : fdivD (.int (a : Int)) (.int (b : Int)) = some (.int ((a / b : Nat) : Int)) := by
  have h1 : (0 : Int) < (b : Int) := by omega
  have h2 : lg (b : Int) 30 = true := lg_of (by simpa using h') (by decide)
  unfold fdivD iOp
  simp only [h1, h2, decide_true, Bool.and_self, if_true, Int.natCast_ediv]
theorem mul_r (i j : Int) (h : j.natAbs < 2 ^ 64) : mulD (.int i) (.int j) = some (.int (i * j)) := by
  have h2 : lg j 64 = true := lg_of h (by decide)
  unfold mulD iOp
  simp only [h2, Bool.or_true, if_true]
theorem rng1 (n : Nat) (h : n < 2 ^ 62) : rngD [.int (n : Int)] = some ((List.range n).map fun (k : Nat) => .int (k : Int)) := by
  have h2 : lg (n : Int) 62 = true := lg_of (by simpa using h) (by decide)
  unfold rngD
  simp only [h2, if_true, Int.toNat_natCast]
def ntl (L : List Nat) : List D := L.map fun (x : Nat) => D.int (x : Int)
theorem ntl_len (L : List Nat) : (ntl L).length = L.length := by simp [ntl]
theorem ntl_snoc (L : List Nat) (x : Nat) : ntl (L ++ [x]) = ntl L ++ [.int (x : Int)] := by simp [ntl]
/-- the item at i, the place taken modulo the length -/
def gt (L : List Nat) (i : Nat) : Nat := L.getD (i % L.length) 0
theorem ntl_at {L : List Nat} (h : 0 < L.length) (i : Nat) : ixD (.lst (ntl L)) (.int ((i % L.length : Nat) : Int)) = some (.int ((gt L i : Nat) : Int)) := by
  rw [ix_lst]
  have hl : i % L.length < L.length := Nat.mod_lt _ h
  unfold ntl gt
  rw [List.getElem?_map, List.getElem?_eq_getElem hl, List.getD_eq_getElem?_getD, List.getElem?_eq_getElem hl]
  rfl
theorem ntl_ix {L : List Nat} (i : Nat) (h : i < L.length) : ixD (.lst (ntl L)) (.int (i : Int)) = some (.int ((L.getD i 0 : Nat) : Int)) := by
  rw [ix_lst]
  unfold ntl
  rw [List.getElem?_map, List.getElem?_eq_getElem h, List.getD_eq_getElem?_getD, List.getElem?_eq_getElem h]
  rfl
/-! ### _law_cell -/
abbrev bCell : Sv :=
    (sSeq (sIf (tB1 (e2 ltD (eV 1) (eB lenD (aCons (eV 0) aNil))))
    (sRet (e2 ixD (eV 0) (eV 1)))
    sNext)
    (sRet (eC (.int 0))))
theorem cell_ok (ns : List Int) (k : Nat) : ∃ c : Int, runF 2 bCell [.lst (ns.map D.int), .int (k : Int)] = .ok (.int c) := by
  have hi : ∀ a b, initE 2 [a, b] = [.val a, .val b] := fun _ _ => rfl
  unfold runF
  rw [hi]
  by_cases h : k < ns.length
  · refine ⟨ns[k], ?_⟩
    have e : ixD (.lst (ns.map D.int)) (.int (k : Int)) = some (.int ns[k]) := by
      rw [ix_lst, List.getElem?_map, List.getElem?_eq_getElem h]; rfl
    have h' : (k : Int) < (ns.length : Int) := by omega
    simp [h', e]
  · have h' : ¬ ((k : Int) < (ns.length : Int)) := by omega
    exact ⟨0, by simp [h']⟩
/-! ### _law_draws -/
abbrev bDrawIn : Sv :=
    (sSeq (sSet 5 (e2 modD (eB intD (aCons (e2 addD (e2 addD (e2 mulD (eV 0) (eC (.int 48271))) (e2 mulD (eV 4) (eC (.int 69621)))) (eC (.int 1))) aNil)) (eC (.int 2147483647))))
    (sIf (tB1 (e2 geD (eV 0) (e2 powD (eC (.int 10)) (eC (.int 18)))))
    (sSeq (sApp 2 (e2 modD (eV 3) (eC (.int 1009))))
    (sSet 3 (e2 fdivD (eV 3) (eC (.int 1009)))))
    (sApp 2 (e2 fdivD (e2 modD (eB intD (aCons (e2 addD (e2 mulD (eV 5) (eV 5)) (e2 mulD (eV 5) (eC (.int 40692)))) aNil)) (eC (.int 2147483399))) (eC (.int 7))))))
abbrev bDraws : Sv :=
    (sSeq (sOwn 2 (nLst aNil))
    (sSeq (sSet 3 (eB intD (aCons (eV 0) aNil)))
    (sSeq (sFor (.one 4) (iRng (aCons (eV 1) aNil)) bDrawIn)
    (sFrz 2 (sRet (eV 2))))))
theorem pow18 : powD (.int 10) (.int 18) = some (.int 1000000000000000000) := by decide +kernel
theorem fdiv_pos (i b : Int) (h : 0 < b) (h' : lg b 30 = true) : fdivD (.int i) (.int b) = some (.int (i / b)) := by
  unfold fdivD iOp
  simp only [h, h', decide_true, Bool.and_self, if_true]
theorem int1 (i : Int) : intD [.int i] = some (.int i) := rfl
theorem draw_loop (c : Int) (cnt : D) : ∀ (ks : List Nat) (L : List Nat) (r : Int) (x4 x5 : S), L.length + ks.length ≤ 100000 → (∀ k ∈ ks, k < 100000) → ∃ (L' : List Nat) (r' : Int) (y4 y5 : S), L'.length = L.length + ks.length ∧
    forF (.one 4) bDrawIn (ks.map fun (k : Nat) => D.int (k : Int)) [.val (.int c), .val cnt, .own (ntl L), .val (.int r), x4, x5] = .next [.val (.int c), .val cnt, .own (ntl L'), .val (.int r'), y4, y5]
  | [], L, r, x4, x5, _, _ => ⟨L, r, x4, x5, rfl, rfl⟩
  | k :: ks, L, r, x4, x5, hl, hk => by
    rw [List.length_cons] at hl
    have hk0 := hk k List.mem_cons_self
    have m1 := mul_r c 48271 (by decide)
    have m2 := mul_r (k : Int) 69621 (by decide)
    have md := mod_pos (c * 48271 + (k : Int) * 69621 + 1) 2147483647 (by decide)
    have hxl0 : ((c * 48271 + (k : Int) * 69621 + 1) % 2147483647).toNat < 2147483648 := by
      have h1 : (c * 48271 + (k : Int) * 69621 + 1) % 2147483647 < 2147483647 := Int.emod_lt_of_pos _ (by decide)
      omega
    generalize hx : ((c * 48271 + (k : Int) * 69621 + 1) % 2147483647).toNat = x at md hxl0
    have hxl : (x : Int) < 2147483648 := by omega
    have a3 := mul_r (x : Int) (x : Int) (by omega)
    have a4 := mul_r (x : Int) 40692 (by decide)
    have hap : ∀ (f : Ev) (y : Nat) (δ0 : Env), f [.val (.int c), .val cnt, .own (ntl L), .val (.int r), .val (.int (k : Int)), .val (.int (x : Int))] = .ok (.int (y : Int)) →
        sApp 2 f [.val (.int c), .val cnt, .own (ntl L), .val (.int r), .val (.int (k : Int)), .val (.int (x : Int))] = .next [.val (.int c), .val cnt, .own (ntl (L ++ [y])), .val (.int r), .val (.int (k : Int)), .val (.int (x : Int))] := fun f y δ0 h => by
      rw [ntl_snoc]
      unfold sApp
      simp only [List.getElem?_cons_succ, List.getElem?_cons_zero, h, ev_bindF_ok, List.set_cons_succ, List.set_cons_zero]
      rw [if_pos (by rw [ntl_len, sz_eq]; omega)]
    rw [List.map_cons, forF]
    by_cases hc : c ≥ 1000000000000000000
    · obtain ⟨L', r', y4, y5, h1, h2⟩ := draw_loop c cnt ks (L ++ [(r % 1009).toNat]) (r / 1009) (.val (.int (k : Int))) (.val (.int (x : Int))) (by rw [List.length_append, List.length_singleton]; omega) fun j hj => hk j (List.mem_cons_of_mem _ hj)
      refine ⟨L', r', y4, y5, by rw [h1, List.length_append, List.length_singleton, List.length_cons]; omega, ?_⟩
      have d1 := mod_pos r 1009 (by decide)
      have d2 := fdiv_pos r 1009 (by decide) (by decide)
      have ap := hap (e2 modD (eV 3) (eC (.int 1009))) (r % 1009).toNat [] (by simp only [ev_e2, ev_eVs, ev_eV0, ev_eC, ev_bind_ok, d1, ev_ofO_some])
      simp only [put_one, List.set_cons_succ, List.set_cons_zero, ev_sSeq, ev_sSet, ev_e2, ev_eB, ev_aCons, ev_aNil, ev_eVs, ev_eV0, ev_eC, ev_bind_ok, m1, m2, ev_ofO_some, add_int, int1, md, ev_bindF_ok, ev_sIf, ev_tB1, pow18, ge_int, decide_eq_true hc, ap, d2]
      exact h2
    · generalize hy : (((x : Int) * (x : Int) + (x : Int) * 40692) % 2147483399).toNat = y
      obtain ⟨L', r', y4, y5, h1, h2⟩ := draw_loop c cnt ks (L ++ [y / 7]) r (.val (.int (k : Int))) (.val (.int (x : Int))) (by rw [List.length_append, List.length_singleton]; omega) fun j hj => hk j (List.mem_cons_of_mem _ hj)
      refine ⟨L', r', y4, y5, by rw [h1, List.length_append, List.length_singleton, List.length_cons]; omega, ?_⟩
      have d1 := mod_pos ((x : Int) * (x : Int) + (x : Int) * 40692) 2147483399 (by decide)
      rw [hy] at d1
      have d2 : fdivD (.int (y : Int)) (.int 7) = some (.int ((y / 7 : Nat) : Int)) := fdiv_nat y 7 (by decide) (by decide)
      have ap := hap (e2 fdivD (e2 modD (eB intD (aCons (e2 addD (e2 mulD (eV 5) (eV 5)) (e2 mulD (eV 5) (eC (.int 40692)))) aNil)) (eC (.int 2147483399))) (eC (.int 7))) (y / 7) [] (by
        simp only [ev_e2, ev_eB, ev_aCons, ev_aNil, ev_eVs, ev_eV0, ev_eC, ev_bind_ok, a3, a4, ev_ofO_some, add_int, int1, d1, d2])
      simp only [put_one, List.set_cons_succ, List.set_cons_zero, ev_sSeq, ev_sSet, ev_e2, ev_eB, ev_aCons, ev_aNil, ev_eVs, ev_eV0, ev_eC, ev_bind_ok, m1, m2, ev_ofO_some, add_int, int1, md, ev_bindF_ok, ev_sIf, ev_tB1, pow18, ge_int, decide_eq_false hc, ap]
      exact h2
theorem draws_ok (c : Int) (n : Nat) (hn : n ≤ 100000) : ∃ L : List Nat, L.length = n ∧ runF 6 bDraws [.int c, .int (n : Int)] = .ok (.lst (ntl L)) := by
  have hi : ∀ a b, initE 6 [a, b] = [.val a, .val b, .no, .no, .no, .no] := fun _ _ => rfl
  obtain ⟨L, r, y4, y5, h1, h2⟩ := draw_loop c (.int (n : Int)) (List.range n) [] c .no .no (by simp; omega) (fun k hk => by have := List.mem_range.mp hk; omega)
  refine ⟨L, by simpa using h1, ?_⟩
  rw [runF, hi]
  have nl : nLst aNil [.val (.int c), .val (.int (n : Int)), .no, .no, .no, .no] = .ok [] := by unfold nLst; simp [sz_eq]
  have rg := rng1 n (by omega)
  have fz : Dl.frz 2 [.val (.int c), .val (.int (n : Int)), .own (ntl L), .val (.int r), y4, y5] = [.val (.int c), .val (.int (n : Int)), .val (.lst (ntl L)), .val (.int r), y4, y5] := rfl
  have e0 : (ntl [] : List D) = [] := rfl
  rw [e0] at h2
  simp only [ev_sSeq, ev_sOwn, nl, ev_bindF_ok, List.set_cons_succ, List.set_cons_zero, ev_sSet, ev_eB, ev_aCons, ev_aNil, ev_eV0, ev_eVs, ev_bind_ok, int1, ev_ofO_some, ev_sFor, ev_iRng, rg, h2, ev_sFrz, fz, ev_sRet]
end Dl

set_option Elab.async false
set_option linter.all false
set_option maxRecDepth 100000
set_option maxHeartbeats 4000000
namespace K90
open PySem PySem.Spec PyProof.Rows L2 Dl
def top (i : Nat) : Stmt := PySem.Challenge.pw_tokenworks_k90_trees_as_texts.main.body.getD i (.Pass ⟨0, 0, 0, 0⟩)
/-! ### the facts that the head is to tell -/
def d_fn_is_name : He.DefD := ⟨("is_name", none), "is_name", "is_name", defArgs (top 6), defBody (top 6), defScope (top 6), [], []⟩
def d_fn_check_part : He.DefD := ⟨("check_part", none), "check_part", "check_part", defArgs (top 12), defBody (top 12), defScope (top 12), [], []⟩
def d_fn_leaves_of : He.DefD := ⟨("leaves_of", none), "leaves_of", "leaves_of", defArgs (top 13), defBody (top 13), defScope (top 13), [], []⟩
def d_fn_check_tree : He.DefD := ⟨("check_tree", none), "check_tree", "check_tree", defArgs (top 11), defBody (top 11), defScope (top 11), [], []⟩
def d_fn_text_of : He.DefD := ⟨("text_of", none), "text_of", "text_of", defArgs (top 15), defBody (top 15), defScope (top 15), [], []⟩
def d_fn_tree_text : He.DefD := ⟨("tree_text", none), "tree_text", "tree_text", defArgs (top 14), defBody (top 14), defScope (top 14), [], []⟩
def d_fn_read_part : He.DefD := ⟨("read_part", none), "read_part", "read_part", defArgs (top 17), defBody (top 17), defScope (top 17), [], []⟩
def d_fn_read_tree : He.DefD := ⟨("read_tree", none), "read_tree", "read_tree", defArgs (top 16), defBody (top 16), defScope (top 16), [], []⟩
def d_fn__law_cell : He.DefD := ⟨("_law_cell", none), "_law_cell", "_law_cell", defArgs (top 19), defBody (top 19), defScope (top 19), [], []⟩
def d_fn__law_draws : He.DefD := ⟨("_law_draws", none), "_law_draws", "_law_draws", defArgs (top 20), defBody (top 20), defScope (top 20), [], []⟩
def d_fn__law_tree : He.DefD := ⟨("_law_tree", none), "_law_tree", "_law_tree", defArgs (top 21), defBody (top 21), defScope (top 21), [], []⟩
def d_fn__law_text : He.DefD := ⟨("_law_text", none), "_law_text", "_law_text", defArgs (top 22), defBody (top 22), defScope (top 22), [], []⟩
def d_fn__law_read : He.DefD := ⟨("_law_read", none), "_law_read", "_law_read", defArgs (top 23), defBody (top 23), defScope (top 23), [], []⟩
def d_fn_law : He.DefD := ⟨("law", none), "law", "law", defArgs (top 24), defBody (top 24), defScope (top 24), [], []⟩
def fn : List He.DefD := [d_fn_is_name, d_fn_check_part, d_fn_leaves_of, d_fn_check_tree, d_fn_text_of, d_fn_tree_text, d_fn_read_part, d_fn_read_tree, d_fn__law_cell, d_fn__law_draws, d_fn__law_tree, d_fn__law_text, d_fn__law_read, d_fn_law]
def fa : List He.Fa := [.free "isinstance", .free "str", .free "len", .str "LETTERS" "abcdefghijklmnopqrstuvwxyz", .str "SIGNS" "abcdefghijklmnopqrstuvwxyz0123456789", .free "all", .glo "is_name", .free "tuple", .int "MOST_DEEP" (6), .glo "BadTree", .exc "BadTree", .glo "KINDS", .glo "check_part", .glo "leaves_of", .int "MOST_LEAVES" (24), .glo "check_tree", .glo "text_of", .glo "tree_text", .glo "read_part", .glo "read_tree", .glo "_law_cell", .free "int", .free "range", .glo "_law_draws", .glo "_law_tree", .glo "_law_text", .exm "BadTree" "BadTree" true, .glo "_law_read", .glo "law"]
def tf : List He.Defn := [("is_name", none)]
def ex (K : PySem.W.Frag) : Bool := He.tupB K "KINDS" [.str "seq", .str "xor", .str "and"]
abbrev Fx (K : PySem.W.Frag) (mg : Str → Option Value) (base : Heap) : Prop := Wd fa fn tf ex K mg base
section
variable {P : Program} {w : World} {K : PySem.W.Frag} {mg : Str → Option Value} {base : Heap}
abbrev d_KINDS : Ev := eC (.tup [.str "seq", .str "xor", .str "and"])
theorem rep_KINDS (E : Fx K mg base) : ∀ G, Rep K G (.tup [.str "seq", .str "xor", .str "and"]) (.ref (He.ga K "KINDS")) := fun G => ⟨_, _, rfl, He.tupB_ok E.more G, ⟨_, _, rfl, rfl, ⟨_, _, rfl, rfl, ⟨_, _, rfl, rfl, rfl⟩⟩⟩⟩

/-! ### is_name -/
abbrev N_is_name : List Str := ["value", "sign"]
theorem sc_is_name : FnScope N_is_name ["value"] (defScope (top 6)) := ⟨rfl, rfl, rfl, by decide +kernel, rfl, by decide +kernel, by decide +kernel⟩
def b_is_name : Sv :=
    (sSeq (sIf (tOr' (tNot' (tB1 (eIsi "str" (eV 0)))) (tOr' (tB1 (e2 ltD (eB lenD (aCons (eV 0) aNil)) (eC (.int 1)))) (tOr' (tB1 (e2 gtD (eB lenD (aCons (eV 0) aNil)) (eC (.int 8)))) (tB1 (e2 ninD (e2 ixD (eV 0) (eC (.int 0))) (eC (.str "abcdefghijklmnopqrstuvwxyz")))))))
    (sRet (eC (.bl false)))
    sNext)
    (sRet (eGen false [1] (.one 1) (iSeq (eV 0)) tYesD (e2 inD (eV 1) (eC (.str "abcdefghijklmnopqrstuvwxyz0123456789"))))))
def m_is_name : List D → R D := runF 2 b_is_name
theorem can_is_name (E : Fx K mg base) : Can P w K mg base (MoD K tf) 2 "is_name" 1 m_is_name := by
  refine can_mk (ps := ["value"]) (E.fun_ 0 (d := d_fn_is_name)) (E.glo 6) sc_is_name (fun _ _ _ _ _ _ us hl => match us, hl with | [_], _ => rfl) fun A outer s H E0 hr => ?_
  have tk := takes_of (X := (cxOf (L2.CX P w) P w K mg base N_is_name "is_name" (defScope (top 6)) (He.fAd K ("is_name", none)) (.ref (He.codeOf K ("is_name", none))) A outer s H E0)) rfl rfl rfl rfl
  have hp := passes_of (X := (cxOf (L2.CX P w) P w K mg base N_is_name "is_name" (defScope (top 6)) (He.fAd K ("is_name", none)) (.ref (He.codeOf K ("is_name", none))) A outer s H E0)) rfl
  exact (dss_cons (ds_if (dt_w (dw_or (dt_not (dt_val (de_isi rfl (E.fre 0) bt_isinstance rfl (E.fre 1) bt_str (dv 0)))) (dw_or (tLt (bLen (E.fre 2) (dv 0)) de_int) (dw_or (tGt (bLen (E.fre 2) (dv 0)) de_int) (dw_or1 (tNin hr (de_ix (dv 0) de_int) (de_gstr (E.str 3))))))))
    (dss_one (ds_ret de_bl))
    dss_nil)
    (dss_one (ds_ret (de_allG [(("sign" : Str), 1)] hr rfl (E.fre 5) bt_all (E.tab (p := ("is_name", none)) (by unfold tf; simp)) ⟨("is_name", none), by unfold tf; simp, rfl⟩ rfl rfl sc_is_name.nd (gn_of (N := N_is_name) (sc := defScope (top 6)) (own := [(("sign" : Str), 1)]) (by decide +kernel)) (by decide) (di_seq (dv 0)) (fun _ _ _ _ _ _ _ _ => (dg_one 1 sc_is_name.nd)) (fun _ _ _ _ _ _ _ _ hr1 => dts_nil) (fun _ _ _ _ _ _ _ _ hr1 => (cIn hr1 (dv 1) (de_gstr (E.str 4))))))))

/-! ### check_part -/
abbrev N_check_part : List Str := ["tree", "deep", "part"]
theorem sc_check_part : FnScope N_check_part ["tree", "deep"] (defScope (top 12)) := ⟨rfl, rfl, rfl, by decide +kernel, rfl, by decide +kernel, by decide +kernel⟩
def b_check_part (self : List D → R D) : Sv :=
    (sSeq (sIf (tOr' (tNot' (tB1 (eIsi "tuple" (eV 0)))) (tOr' (tB1 (e2 ltD (eB lenD (aCons (eV 0) aNil)) (eC (.int 1)))) (tOr' (tNot' (tB1 (eIsi "str" (e2 ixD (eV 0) (eC (.int 0)))))) (tB1 (e2 gtD (eV 1) (eC (.int 6)))))))
    (sRaise "BadTree")
    sNext)
    (sIf (tB1 (e2 eqD (e2 ixD (eV 0) (eC (.int 0))) (eC (.str "do"))))
    (sIf (tOr' (tB1 (e2 neD (eB lenD (aCons (eV 0) aNil)) (eC (.int 2)))) (tNot' (tB1 (eCall m_is_name (aCons (e2 ixD (eV 0) (eC (.int 1))) aNil)))))
    (sRaise "BadTree")
    sNext)
    (sIf (tB1 (e2 eqD (e2 ixD (eV 0) (eC (.int 0))) (eC (.str "skip"))))
    (sIf (tB1 (e2 neD (eB lenD (aCons (eV 0) aNil)) (eC (.int 1))))
    (sRaise "BadTree")
    sNext)
    (sIf (tAnd' (tB1 (e2 inD (e2 ixD (eV 0) (eC (.int 0))) d_KINDS)) (tB1 (e2 geD (eB lenD (aCons (eV 0) aNil)) (eC (.int 3)))))
    (sFor (.one 2) (iSeq (eSl (eV 0) (oSome (eC (.int 1))) oNone))
    (sDrop (eCall self (aCons (eV 2) (aCons (e2 addD (eV 1) (eC (.int 1))) aNil)))))
    (sIf (tAnd' (tB1 (e2 eqD (e2 ixD (eV 0) (eC (.int 0))) (eC (.str "loop")))) (tB1 (e2 eqD (eB lenD (aCons (eV 0) aNil)) (eC (.int 3)))))
    (sSeq (sDrop (eCall self (aCons (e2 ixD (eV 0) (eC (.int 1))) (aCons (e2 addD (eV 1) (eC (.int 1))) aNil))))
    (sDrop (eCall self (aCons (e2 ixD (eV 0) (eC (.int 2))) (aCons (e2 addD (eV 1) (eC (.int 1))) aNil)))))
    (sRaise "BadTree"))))))
def m_check_part : Nat → List D → R D
  | 0 => fun _ => .bad
  | n + 1 => runF 3 (b_check_part (m_check_part n))
theorem can_check_part (E : Fx K mg base) : ∀ j : Nat, Can P w K mg base (MoD K tf) (2 + j) "check_part" 2 (m_check_part j)
  | 0 => can_bad (st := top 12) (ps := ["tree", "deep"]) (E.fun_ 1 (d := d_fn_check_part)) (E.glo 12) (fun _ _ _ _ _ _ us hl => match us, hl with | [_, _], _ => rfl)
  | j + 1 => by
    have ih := can_check_part E j
    refine can_mk (ps := ["tree", "deep"]) (E.fun_ 1 (d := d_fn_check_part)) (E.glo 12) sc_check_part (fun _ _ _ _ _ _ us hl => match us, hl with | [_, _], _ => rfl) fun A outer s H E0 hr => ?_
    replace hr := (show Room (2 + j) _ from hr)
    have tk := takes_of (X := (cxOf (L2.CX P w) P w K mg base N_check_part "check_part" (defScope (top 12)) (He.fAd K ("check_part", none)) (.ref (He.codeOf K ("check_part", none))) A outer s H E0)) rfl rfl rfl rfl
    have hp := passes_of (X := (cxOf (L2.CX P w) P w K mg base N_check_part "check_part" (defScope (top 12)) (He.fAd K ("check_part", none)) (.ref (He.codeOf K ("check_part", none))) A outer s H E0)) rfl
    exact (dss_cons (ds_if (dt_w (dw_or (dt_not (dt_val (de_isi rfl (E.fre 0) bt_isinstance rfl (E.fre 7) bt_tuple (dv 0)))) (dw_or (tLt (bLen (E.fre 2) (dv 0)) de_int) (dw_or (dt_not (dt_val (de_isi rfl (E.fre 0) bt_isinstance rfl (E.fre 1) bt_str (de_ix (dv 0) de_int)))) (dw_or1 (tGt (dv 1) (de_gint (E.int 8))))))))
    (dss_one (ds_raiseE (c := "BadTree") tk (E.glo 9) (E.exc 10)))
    dss_nil)
    (dss_one (ds_if (tEq hr (de_ix (dv 0) de_int) de_str)
    (dss_one (ds_if (dt_w (dw_or (tNe hr (bLen (E.fre 2) (dv 0)) de_int) (dw_or1 (dt_not (dt_val (de_callC (can_is_name E) (hr.mono (by omega)) tk rfl (da_cons (de_ix (dv 0) de_int) da_nil) (hn_cons hn_nil)))))))
    (dss_one (ds_raiseE (c := "BadTree") tk (E.glo 9) (E.exc 10)))
    dss_nil))
    (dss_one (ds_if (tEq hr (de_ix (dv 0) de_int) de_str)
    (dss_one (ds_if (tNe hr (bLen (E.fre 2) (dv 0)) de_int)
    (dss_one (ds_raiseE (c := "BadTree") tk (E.glo 9) (E.exc 10)))
    dss_nil))
    (dss_one (ds_if (dt_w (dw_and (tIn hr (de_ix (dv 0) de_int) (de_gref (E.glo 11) (rep_KINDS E))) (dw_and1 (tGe (bLen (E.fre 2) (dv 0)) de_int))))
    (dss_one (ds_for hp rfl (di_seq (de_slice (dv 0) (do_some de_int) do_none)) (dg_one 2 sc_check_part.nd)
    (dss_one (ds_drop (de_callC ih (hr.mono (by omega)) tk rfl (da_cons (dv 2) (da_cons (xAdd (dv 1) de_int) da_nil)) (hn_cons (hn_cons hn_nil)))))))
    (dss_one (ds_if (dt_w (dw_and (tEq hr (de_ix (dv 0) de_int) de_str) (dw_and1 (tEq hr (bLen (E.fre 2) (dv 0)) de_int))))
    (dss_cons (ds_drop (de_callC ih (hr.mono (by omega)) tk rfl (da_cons (de_ix (dv 0) de_int) (da_cons (xAdd (dv 1) de_int) da_nil)) (hn_cons (hn_cons hn_nil))))
    (dss_one (ds_drop (de_callC ih (hr.mono (by omega)) tk rfl (da_cons (de_ix (dv 0) de_int) (da_cons (xAdd (dv 1) de_int) da_nil)) (hn_cons (hn_cons hn_nil))))))
    (dss_one (ds_raiseE (c := "BadTree") tk (E.glo 9) (E.exc 10))))))))))))

/-! ### leaves_of -/
abbrev N_leaves_of : List Str := ["tree", "found", "part"]
theorem sc_leaves_of : FnScope N_leaves_of ["tree"] (defScope (top 13)) := ⟨rfl, rfl, rfl, by decide +kernel, rfl, by decide +kernel, by decide +kernel⟩
def b_leaves_of (self : List D → R D) : Sv :=
    (sSeq (sIf (tB1 (e2 eqD (e2 ixD (eV 0) (eC (.int 0))) (eC (.str "do"))))
    (sRet (eLst (aCons (e2 ixD (eV 0) (eC (.int 1))) aNil)))
    sNext)
    (sSeq (sIf (tB1 (e2 eqD (e2 ixD (eV 0) (eC (.int 0))) (eC (.str "skip"))))
    (sRet (eLst (aCons (eC .non) aNil)))
    sNext)
    (sSeq (sSet 1 (eLst aNil))
    (sSeq (sFor (.one 2) (iSeq (eSl (eV 0) (oSome (eC (.int 1))) oNone))
    (sSet 1 (e2 addD (eV 1) (eCall self (aCons (eV 2) aNil)))))
    (sRet (eV 1))))))
def m_leaves_of : Nat → List D → R D
  | 0 => fun _ => .bad
  | n + 1 => runF 3 (b_leaves_of (m_leaves_of n))
theorem can_leaves_of (E : Fx K mg base) : ∀ j : Nat, Can P w K mg base (MoD K tf) (1 + j) "leaves_of" 1 (m_leaves_of j)
  | 0 => can_bad (st := top 13) (ps := ["tree"]) (E.fun_ 2 (d := d_fn_leaves_of)) (E.glo 13) (fun _ _ _ _ _ _ us hl => match us, hl with | [_], _ => rfl)
  | j + 1 => by
    have ih := can_leaves_of E j
    refine can_mk (ps := ["tree"]) (E.fun_ 2 (d := d_fn_leaves_of)) (E.glo 13) sc_leaves_of (fun _ _ _ _ _ _ us hl => match us, hl with | [_], _ => rfl) fun A outer s H E0 hr => ?_
    replace hr := (show Room (1 + j) _ from hr)
    have tk := takes_of (X := (cxOf (L2.CX P w) P w K mg base N_leaves_of "leaves_of" (defScope (top 13)) (He.fAd K ("leaves_of", none)) (.ref (He.codeOf K ("leaves_of", none))) A outer s H E0)) rfl rfl rfl rfl
    have hp := passes_of (X := (cxOf (L2.CX P w) P w K mg base N_leaves_of "leaves_of" (defScope (top 13)) (He.fAd K ("leaves_of", none)) (.ref (He.codeOf K ("leaves_of", none))) A outer s H E0)) rfl
    exact (dss_cons (ds_if (tEq hr (de_ix (dv 0) de_int) de_str)
    (dss_one (ds_ret (de_lst (da_cons (de_ix (dv 0) de_int) da_nil))))
    dss_nil)
    (dss_cons (ds_if (tEq hr (de_ix (dv 0) de_int) de_str)
    (dss_one (ds_ret (de_lst (da_cons de_non da_nil))))
    dss_nil)
    (dss_cons (ds_set 1 sc_leaves_of.nd (de_lst da_nil))
    (dss_cons (ds_for hp rfl (di_seq (de_slice (dv 0) (do_some de_int) do_none)) (dg_one 2 sc_leaves_of.nd)
    (dss_one (ds_set 1 sc_leaves_of.nd (xAdd (dv 1) (de_callC ih (hr.mono (by omega)) tk rfl (da_cons (dv 2) da_nil) (hn_cons hn_nil))))))
    (dss_one (ds_ret (dv 1)))))))

/-! ### check_tree -/
abbrev N_check_tree : List Str := ["tree"]
theorem sc_check_tree : FnScope N_check_tree ["tree"] (defScope (top 11)) := ⟨rfl, rfl, rfl, by decide +kernel, rfl, by decide +kernel, by decide +kernel⟩
def b_check_tree : Sv :=
    (sSeq (sDrop (eCall (m_check_part 9) (aCons (eV 0) (aCons (eC (.int 0)) aNil))))
    (sIf (tB1 (e2 gtD (eB lenD (aCons (eCall (m_leaves_of 9) (aCons (eV 0) aNil)) aNil)) (eC (.int 24))))
    (sRaise "BadTree")
    sNext))
def m_check_tree : List D → R D := runF 1 b_check_tree
theorem can_check_tree (E : Fx K mg base) : Can P w K mg base (MoD K tf) 12 "check_tree" 1 m_check_tree := by
  refine can_mk (ps := ["tree"]) (E.fun_ 3 (d := d_fn_check_tree)) (E.glo 15) sc_check_tree (fun _ _ _ _ _ _ us hl => match us, hl with | [_], _ => rfl) fun A outer s H E0 hr => ?_
  have tk := takes_of (X := (cxOf (L2.CX P w) P w K mg base N_check_tree "check_tree" (defScope (top 11)) (He.fAd K ("check_tree", none)) (.ref (He.codeOf K ("check_tree", none))) A outer s H E0)) rfl rfl rfl rfl
  have hp := passes_of (X := (cxOf (L2.CX P w) P w K mg base N_check_tree "check_tree" (defScope (top 11)) (He.fAd K ("check_tree", none)) (.ref (He.codeOf K ("check_tree", none))) A outer s H E0)) rfl
  exact (dss_cons (ds_drop (de_callC (can_check_part E 9) (hr.mono (by omega)) tk rfl (da_cons (dv 0) (da_cons de_int da_nil)) (hn_cons (hn_cons hn_nil))))
    (dss_one (ds_if (tGt (bLen (E.fre 2) (de_callC (can_leaves_of E 9) (hr.mono (by omega)) tk rfl (da_cons (dv 0) da_nil) (hn_cons hn_nil))) (de_gint (E.int 14)))
    (dss_one (ds_raiseE (c := "BadTree") tk (E.glo 9) (E.exc 10)))
    dss_nil)))

/-! ### text_of -/
abbrev N_text_of : List Str := ["tree", "part"]
theorem sc_text_of : FnScope N_text_of ["tree"] (defScope (top 15)) := ⟨rfl, rfl, rfl, by decide +kernel, rfl, by decide +kernel, by decide +kernel⟩
def b_text_of (self : List D → R D) : Sv :=
    (sSeq (sIf (tB1 (e2 eqD (e2 ixD (eV 0) (eC (.int 0))) (eC (.str "do"))))
    (sRet (e2 ixD (eV 0) (eC (.int 1))))
    sNext)
    (sSeq (sIf (tB1 (e2 eqD (e2 ixD (eV 0) (eC (.int 0))) (eC (.str "skip"))))
    (sRet (eC (.str "-")))
    sNext)
    (sRet (e2 addD (e2 addD (e2 addD (e2 ixD (eV 0) (eC (.int 0))) (eC (.str "("))) (eJoin (eC (.str ", ")) (eN (nLc [1] (.one 1) (iSeq (eSl (eV 0) (oSome (eC (.int 1))) oNone)) tYesD (eCall self (aCons (eV 1) aNil)))))) (eC (.str ")"))))))
def m_text_of : Nat → List D → R D
  | 0 => fun _ => .bad
  | n + 1 => runF 2 (b_text_of (m_text_of n))
theorem can_text_of (E : Fx K mg base) : ∀ j : Nat, Can P w K mg base (MoD K tf) (1 + j) "text_of" 1 (m_text_of j)
  | 0 => can_bad (st := top 15) (ps := ["tree"]) (E.fun_ 4 (d := d_fn_text_of)) (E.glo 16) (fun _ _ _ _ _ _ us hl => match us, hl with | [_], _ => rfl)
  | j + 1 => by
    have ih := can_text_of E j
    refine can_mk (ps := ["tree"]) (E.fun_ 4 (d := d_fn_text_of)) (E.glo 16) sc_text_of (fun _ _ _ _ _ _ us hl => match us, hl with | [_], _ => rfl) fun A outer s H E0 hr => ?_
    replace hr := (show Room (1 + j) _ from hr)
    have tk := takes_of (X := (cxOf (L2.CX P w) P w K mg base N_text_of "text_of" (defScope (top 15)) (He.fAd K ("text_of", none)) (.ref (He.codeOf K ("text_of", none))) A outer s H E0)) rfl rfl rfl rfl
    have hp := passes_of (X := (cxOf (L2.CX P w) P w K mg base N_text_of "text_of" (defScope (top 15)) (He.fAd K ("text_of", none)) (.ref (He.codeOf K ("text_of", none))) A outer s H E0)) rfl
    exact (dss_cons (ds_if (tEq hr (de_ix (dv 0) de_int) de_str)
    (dss_one (ds_ret (de_ix (dv 0) de_int)))
    dss_nil)
    (dss_cons (ds_if (tEq hr (de_ix (dv 0) de_int) de_str)
    (dss_one (ds_ret de_str))
    dss_nil)
    (dss_one (ds_ret (xAdd (xAdd (xAdd (de_ix (dv 0) de_int) de_str) (de_join de_str (de_n (dn_lc [(("part" : Str), 1)] rfl sc_text_of.nd (di_seq (de_slice (dv 0) (do_some de_int) do_none)) (blk_of (N := N_text_of) (sc := defScope (top 15)) (own := [(("part" : Str), 1)]) (by decide +kernel)) (by decide) (fun _ _ _ _ _ => (dg_one 1 sc_text_of.nd)) (fun _ _ _ _ _ => dts_nil) (fun _ _ _ _ _ => (de_callC ih (hr.mono (by omega)) Dl.takes0 rfl (da_cons (dv 1) da_nil) (hn_cons hn_nil))))))) de_str)))))

/-! ### tree_text -/
abbrev N_tree_text : List Str := ["tree"]
theorem sc_tree_text : FnScope N_tree_text ["tree"] (defScope (top 14)) := ⟨rfl, rfl, rfl, by decide +kernel, rfl, by decide +kernel, by decide +kernel⟩
def b_tree_text : Sv :=
    (sSeq (sDrop (eCall m_check_tree (aCons (eV 0) aNil)))
    (sRet (eCall (m_text_of 9) (aCons (eV 0) aNil))))
def m_tree_text : List D → R D := runF 1 b_tree_text
theorem can_tree_text (E : Fx K mg base) : Can P w K mg base (MoD K tf) 13 "tree_text" 1 m_tree_text := by
  refine can_mk (ps := ["tree"]) (E.fun_ 5 (d := d_fn_tree_text)) (E.glo 17) sc_tree_text (fun _ _ _ _ _ _ us hl => match us, hl with | [_], _ => rfl) fun A outer s H E0 hr => ?_
  have tk := takes_of (X := (cxOf (L2.CX P w) P w K mg base N_tree_text "tree_text" (defScope (top 14)) (He.fAd K ("tree_text", none)) (.ref (He.codeOf K ("tree_text", none))) A outer s H E0)) rfl rfl rfl rfl
  have hp := passes_of (X := (cxOf (L2.CX P w) P w K mg base N_tree_text "tree_text" (defScope (top 14)) (He.fAd K ("tree_text", none)) (.ref (He.codeOf K ("tree_text", none))) A outer s H E0)) rfl
  exact (dss_cons (ds_drop (de_callC (can_check_tree E) (hr.mono (by omega)) tk rfl (da_cons (dv 0) da_nil) (hn_cons hn_nil)))
    (dss_one (ds_ret (de_callC (can_text_of E 9) (hr.mono (by omega)) tk rfl (da_cons (dv 0) da_nil) (hn_cons hn_nil)))))

/-! ### read_part -/
abbrev N_read_part : List Str := ["text", "at", "deep", "end", "word", "parts", "behind", "start", "part"]
theorem sc_read_part : FnScope N_read_part ["text", "at", "deep"] (defScope (top 17)) := ⟨rfl, rfl, rfl, by decide +kernel, rfl, by decide +kernel, by decide +kernel⟩
def b_read_part (self : List D → R D) : Sv :=
    (sSeq (sIf (tB1 (e2 gtD (eV 2) (eC (.int 6))))
    (sRaise "BadTree")
    sNext)
    (sSeq (sIf (tB1 (e2 eqD (eSl (eV 0) (oSome (eV 1)) (oSome (e2 addD (eV 1) (eC (.int 1))))) (eC (.str "-"))))
    (sRet (eTup (aCons (eTup (aCons (eC (.str "skip")) aNil)) (aCons (e2 addD (eV 1) (eC (.int 1))) aNil))))
    sNext)
    (sSeq (sSet 3 (eV 1))
    (sSeq (whileF 1000000 (tAnd' (tB1 (e2 ltD (eV 3) (eB lenD (aCons (eV 0) aNil)))) (tB1 (e2 ninD (e2 ixD (eV 0) (eV 3)) (eC (.str "(), ")))))
    (sAug 3 iaddD (eC (.int 1))))
    (sSeq (sSet 4 (eSl (eV 0) (oSome (eV 1)) (oSome (eV 3))))
    (sSeq (sIf (tB1 (e2 neD (eSl (eV 0) (oSome (eV 3)) (oSome (e2 addD (eV 3) (eC (.int 1))))) (eC (.str "("))))
    (sRet (eTup (aCons (eTup (aCons (eC (.str "do")) (aCons (eV 4) aNil))) (aCons (eV 3) aNil))))
    sNext)
    (sSeq (sOwn 5 (nLst aNil))
    (sSeq (sSet 6 (eV 3))
    (sSeq (whileF 1000000 (tB1 (e2 inD (eSl (eV 0) (oSome (eV 6)) (oSome (e2 addD (eV 6) (eC (.int 1))))) (eTup (aCons (eC (.str "(")) (aCons (eC (.str ",")) aNil)))))
    (sSeq (sSet 7 (eIf (tB1 (e2 eqD (eBor 5 (eB lenD (aCons (eV 5) aNil))) (eC (.int 0)))) (e2 addD (eV 6) (eC (.int 1))) (e2 addD (eV 6) (eC (.int 2)))))
    (sSeq (sUnp (.all [8, 6]) (eCall self (aCons (eV 0) (aCons (eV 7) (aCons (e2 addD (eV 2) (eC (.int 1))) aNil)))))
    (sApp 5 (eV 8)))))
    (sFrz 5 (sRet (eTup (aCons (e2 addD (eTup (aCons (eV 4) aNil)) (eB tupleD (aCons (eV 5) aNil))) (aCons (e2 addD (eV 6) (eC (.int 1))) aNil))))))))))))))
def m_read_part : Nat → List D → R D
  | 0 => fun _ => .bad
  | n + 1 => runF 9 (b_read_part (m_read_part n))
theorem can_read_part (E : Fx K mg base) : ∀ j : Nat, Can P w K mg base (MoD K tf) (1 + j) "read_part" 3 (m_read_part j)
  | 0 => can_bad (st := top 17) (ps := ["text", "at", "deep"]) (E.fun_ 6 (d := d_fn_read_part)) (E.glo 18) (fun _ _ _ _ _ _ us hl => match us, hl with | [_, _, _], _ => rfl)
  | j + 1 => by
    have ih := can_read_part E j
    refine can_mk (ps := ["text", "at", "deep"]) (E.fun_ 6 (d := d_fn_read_part)) (E.glo 18) sc_read_part (fun _ _ _ _ _ _ us hl => match us, hl with | [_, _, _], _ => rfl) fun A outer s H E0 hr => ?_
    replace hr := (show Room (1 + j) _ from hr)
    have tk := takes_of (X := (cxOf (L2.CX P w) P w K mg base N_read_part "read_part" (defScope (top 17)) (He.fAd K ("read_part", none)) (.ref (He.codeOf K ("read_part", none))) A outer s H E0)) rfl rfl rfl rfl
    have hp := passes_of (X := (cxOf (L2.CX P w) P w K mg base N_read_part "read_part" (defScope (top 17)) (He.fAd K ("read_part", none)) (.ref (He.codeOf K ("read_part", none))) A outer s H E0)) rfl
    exact (dss_cons (ds_if (tGt (dv 2) (de_gint (E.int 8)))
    (dss_one (ds_raiseE (c := "BadTree") tk (E.glo 9) (E.exc 10)))
    dss_nil)
    (dss_cons (ds_if (tEq hr (de_slice (dv 0) (do_some (dv 1)) (do_some (xAdd (dv 1) de_int))) de_str)
    (dss_one (ds_ret (de_tup (da_cons (de_tup (da_cons de_str da_nil)) (da_cons (xAdd (dv 1) de_int) da_nil)))))
    dss_nil)
    (dss_cons (ds_set 3 sc_read_part.nd (dv 1))
    (dss_cons (ds_while 1000000 hp (dt_w (dw_and (tLt (dv 3) (bLen (E.fre 2) (dv 0))) (dw_and1 (tNin hr (de_ix (dv 0) (dv 3)) de_str))))
    (dss_one (aAdd 3 sc_read_part.nd de_int)))
    (dss_cons (ds_set 4 sc_read_part.nd (de_slice (dv 0) (do_some (dv 1)) (do_some (dv 3))))
    (dss_cons (ds_if (tNe hr (de_slice (dv 0) (do_some (dv 3)) (do_some (xAdd (dv 3) de_int))) de_str)
    (dss_one (ds_ret (de_tup (da_cons (de_tup (da_cons de_str (da_cons (dv 4) da_nil))) (da_cons (dv 3) da_nil)))))
    dss_nil)
    (dss_cons (ds_own 5 sc_read_part.nd (dn_lst da_nil))
    (dss_cons (ds_set 6 sc_read_part.nd (dv 3))
    (dss_cons (ds_while 1000000 hp (tIn hr (de_slice (dv 0) (do_some (dv 6)) (do_some (xAdd (dv 6) de_int))) (de_tup (da_cons de_str (da_cons de_str da_nil))))
    (dss_cons (ds_set 7 sc_read_part.nd (de_if (tEq hr (de_bor 5 (bLen (E.fre 2) (dv 5))) de_int) (xAdd (dv 6) de_int) (xAdd (dv 6) de_int)))
    (dss_cons (ds_unp (de_callC ih (hr.mono (by omega)) tk rfl (da_cons (dv 0) (da_cons (dv 7) (da_cons (xAdd (dv 2) de_int) da_nil))) (hn_cons (hn_cons (hn_cons hn_nil)))) (dg_all rfl sc_read_part.nd (nm_cons 8 (nm_cons 6 .nil))))
    (dss_one (ds_app 5 (dv 8))))))
    (dss_one (ds_frz 5 (ds_ret (de_tup (da_cons (xAdd (de_tup (da_cons (dv 4) da_nil)) (bTuple (E.fre 7) (dv 5))) (da_cons (xAdd (dv 6) de_int) da_nil)))))))))))))))

/-! ### read_tree -/
abbrev N_read_tree : List Str := ["text", "tree", "behind"]
theorem sc_read_tree : FnScope N_read_tree ["text"] (defScope (top 16)) := ⟨rfl, rfl, rfl, by decide +kernel, rfl, by decide +kernel, by decide +kernel⟩
def b_read_tree : Sv :=
    (sSeq (sIf (tNot' (tB1 (eIsi "str" (eV 0))))
    (sRaise "BadTree")
    sNext)
    (sSeq (sUnp (.all [1, 2]) (eCall (m_read_part 9) (aCons (eV 0) (aCons (eC (.int 0)) (aCons (eC (.int 0)) aNil)))))
    (sSeq (sDrop (eCall m_check_tree (aCons (eV 1) aNil)))
    (sSeq (sIf (tOr' (tB1 (e2 neD (eV 2) (eB lenD (aCons (eV 0) aNil)))) (tB1 (e2 neD (eCall (m_text_of 9) (aCons (eV 1) aNil)) (eV 0))))
    (sRaise "BadTree")
    sNext)
    (sRet (eV 1))))))
def m_read_tree : List D → R D := runF 3 b_read_tree
theorem can_read_tree (E : Fx K mg base) : Can P w K mg base (MoD K tf) 13 "read_tree" 1 m_read_tree := by
  refine can_mk (ps := ["text"]) (E.fun_ 7 (d := d_fn_read_tree)) (E.glo 19) sc_read_tree (fun _ _ _ _ _ _ us hl => match us, hl with | [_], _ => rfl) fun A outer s H E0 hr => ?_
  have tk := takes_of (X := (cxOf (L2.CX P w) P w K mg base N_read_tree "read_tree" (defScope (top 16)) (He.fAd K ("read_tree", none)) (.ref (He.codeOf K ("read_tree", none))) A outer s H E0)) rfl rfl rfl rfl
  have hp := passes_of (X := (cxOf (L2.CX P w) P w K mg base N_read_tree "read_tree" (defScope (top 16)) (He.fAd K ("read_tree", none)) (.ref (He.codeOf K ("read_tree", none))) A outer s H E0)) rfl
  exact (dss_cons (ds_if (dt_not (dt_val (de_isi rfl (E.fre 0) bt_isinstance rfl (E.fre 1) bt_str (dv 0))))
    (dss_one (ds_raiseE (c := "BadTree") tk (E.glo 9) (E.exc 10)))
    dss_nil)
    (dss_cons (ds_unp (de_callC (can_read_part E 9) (hr.mono (by omega)) tk rfl (da_cons (dv 0) (da_cons de_int (da_cons de_int da_nil))) (hn_cons (hn_cons (hn_cons hn_nil)))) (dg_all rfl sc_read_tree.nd (nm_cons 1 (nm_cons 2 .nil))))
    (dss_cons (ds_drop (de_callC (can_check_tree E) (hr.mono (by omega)) tk rfl (da_cons (dv 1) da_nil) (hn_cons hn_nil)))
    (dss_cons (ds_if (dt_w (dw_or (tNe hr (dv 2) (bLen (E.fre 2) (dv 0))) (dw_or1 (tNe hr (de_callC (can_text_of E 9) (hr.mono (by omega)) tk rfl (da_cons (dv 1) da_nil) (hn_cons hn_nil)) (dv 0)))))
    (dss_one (ds_raiseE (c := "BadTree") tk (E.glo 9) (E.exc 10)))
    dss_nil)
    (dss_one (ds_ret (dv 1)))))))

/-! ### _law_cell -/
abbrev N__law_cell : List Str := ["script", "k"]
theorem sc__law_cell : FnScope N__law_cell ["script", "k"] (defScope (top 19)) := ⟨rfl, rfl, rfl, by decide +kernel, rfl, by decide +kernel, by decide +kernel⟩
def b__law_cell : Sv :=
    (sSeq (sIf (tB1 (e2 ltD (eV 1) (eB lenD (aCons (eV 0) aNil))))
    (sRet (e2 ixD (eV 0) (eV 1)))
    sNext)
    (sRet (eC (.int 0))))
def m__law_cell : List D → R D := runF 2 b__law_cell
theorem can__law_cell (E : Fx K mg base) : Can P w K mg base (MoD K tf) 1 "_law_cell" 2 m__law_cell := by
  refine can_mk (ps := ["script", "k"]) (E.fun_ 8 (d := d_fn__law_cell)) (E.glo 20) sc__law_cell (fun _ _ _ _ _ _ us hl => match us, hl with | [_, _], _ => rfl) fun A outer s H E0 hr => ?_
  have tk := takes_of (X := (cxOf (L2.CX P w) P w K mg base N__law_cell "_law_cell" (defScope (top 19)) (He.fAd K ("_law_cell", none)) (.ref (He.codeOf K ("_law_cell", none))) A outer s H E0)) rfl rfl rfl rfl
  have hp := passes_of (X := (cxOf (L2.CX P w) P w K mg base N__law_cell "_law_cell" (defScope (top 19)) (He.fAd K ("_law_cell", none)) (.ref (He.codeOf K ("_law_cell", none))) A outer s H E0)) rfl
  exact (dss_cons (ds_if (tLt (dv 1) (bLen (E.fre 2) (dv 0)))
    (dss_one (ds_ret (de_ix (dv 0) (dv 1))))
    dss_nil)
    (dss_one (ds_ret de_int)))

/-! ### _law_draws -/
abbrev N__law_draws : List Str := ["cell", "count", "result", "rest", "k", "mixed"]
theorem sc__law_draws : FnScope N__law_draws ["cell", "count"] (defScope (top 20)) := ⟨rfl, rfl, rfl, by decide +kernel, rfl, by decide +kernel, by decide +kernel⟩
def b__law_draws : Sv :=
    (sSeq (sOwn 2 (nLst aNil))
    (sSeq (sSet 3 (eB intD (aCons (eV 0) aNil)))
    (sSeq (sFor (.one 4) (iRng (aCons (eV 1) aNil))
    (sSeq (sSet 5 (e2 modD (eB intD (aCons (e2 addD (e2 addD (e2 mulD (eV 0) (eC (.int 48271))) (e2 mulD (eV 4) (eC (.int 69621)))) (eC (.int 1))) aNil)) (eC (.int 2147483647))))
    (sIf (tB1 (e2 geD (eV 0) (e2 powD (eC (.int 10)) (eC (.int 18)))))
    (sSeq (sApp 2 (e2 modD (eV 3) (eC (.int 1009))))
    (sSet 3 (e2 fdivD (eV 3) (eC (.int 1009)))))
    (sApp 2 (e2 fdivD (e2 modD (eB intD (aCons (e2 addD (e2 mulD (eV 5) (eV 5)) (e2 mulD (eV 5) (eC (.int 40692)))) aNil)) (eC (.int 2147483399))) (eC (.int 7)))))))
    (sFrz 2 (sRet (eV 2))))))
def m__law_draws : List D → R D := runF 6 b__law_draws
theorem can__law_draws (E : Fx K mg base) : Can P w K mg base (MoD K tf) 1 "_law_draws" 2 m__law_draws := by
  refine can_mk (ps := ["cell", "count"]) (E.fun_ 9 (d := d_fn__law_draws)) (E.glo 23) sc__law_draws (fun _ _ _ _ _ _ us hl => match us, hl with | [_, _], _ => rfl) fun A outer s H E0 hr => ?_
  have tk := takes_of (X := (cxOf (L2.CX P w) P w K mg base N__law_draws "_law_draws" (defScope (top 20)) (He.fAd K ("_law_draws", none)) (.ref (He.codeOf K ("_law_draws", none))) A outer s H E0)) rfl rfl rfl rfl
  have hp := passes_of (X := (cxOf (L2.CX P w) P w K mg base N__law_draws "_law_draws" (defScope (top 20)) (He.fAd K ("_law_draws", none)) (.ref (He.codeOf K ("_law_draws", none))) A outer s H E0)) rfl
  exact (dss_cons (ds_own 2 sc__law_draws.nd (dn_lst da_nil))
    (dss_cons (ds_set 3 sc__law_draws.nd (bInt (E.fre 21) (dv 0)))
    (dss_cons (ds_for hp rfl (di_range1 rfl (E.fre 22) (da_cons (dv 1) da_nil) (h1 := (hn_cons hn_nil))) (dg_one 4 sc__law_draws.nd)
    (dss_cons (ds_set 5 sc__law_draws.nd (xMod (bInt (E.fre 21) (xAdd (xAdd (xMul (dv 0) de_int) (xMul (dv 4) de_int)) de_int)) de_int))
    (dss_one (ds_if (tGe (dv 0) (xPow de_int de_int))
    (dss_cons (ds_app 2 (xMod (dv 3) de_int))
    (dss_one (ds_set 3 sc__law_draws.nd (xFdv (dv 3) de_int))))
    (dss_one (ds_app 2 (xFdv (xMod (bInt (E.fre 21) (xAdd (xMul (dv 5) (dv 5)) (xMul (dv 5) de_int))) de_int) de_int)))))))
    (dss_one (ds_frz 2 (ds_ret (dv 2)))))))

/-! ### _law_tree -/
abbrev N__law_tree : List Str := ["n", "at", "deep", "kind", "first", "second", "word"]
theorem sc__law_tree : FnScope N__law_tree ["n", "at", "deep"] (defScope (top 21)) := ⟨rfl, rfl, rfl, by decide +kernel, rfl, by decide +kernel, by decide +kernel⟩
def b__law_tree (self : List D → R D) : Sv :=
    (sSeq (sSet 3 (e2 modD (e2 ixD (eV 0) (e2 modD (eV 1) (eB lenD (aCons (eV 0) aNil)))) (eIf (tB1 (e2 ltD (eV 2) (eC (.int 3)))) (eC (.int 9)) (eC (.int 3)))))
    (sSeq (sIf (tB1 (e2 ltD (eV 3) (eC (.int 3))))
    (sRet (eIf (tB1 (e2 eqD (e2 modD (e2 ixD (eV 0) (e2 modD (e2 addD (eV 1) (eC (.int 1))) (eB lenD (aCons (eV 0) aNil)))) (eC (.int 6))) (eC (.int 0)))) (eTup (aCons (eC (.str "skip")) aNil)) (eTup (aCons (eC (.str "do")) (aCons (e2 ixD (eC (.str "abc")) (e2 modD (e2 ixD (eV 0) (e2 modD (e2 addD (eV 1) (eC (.int 1))) (eB lenD (aCons (eV 0) aNil)))) (eC (.int 3)))) aNil)))))
    sNext)
    (sSeq (sSet 4 (eCall self (aCons (eV 0) (aCons (e2 addD (eV 1) (eC (.int 3))) (aCons (e2 addD (eV 2) (eC (.int 1))) aNil)))))
    (sSeq (sSet 5 (eCall self (aCons (eV 0) (aCons (e2 addD (eV 1) (eC (.int 8))) (aCons (e2 addD (eV 2) (eC (.int 1))) aNil)))))
    (sSeq (sIf (tAnd' (tB1 (e2 gtD (eV 3) (eC (.int 6)))) (tB1 (e2 ltD (eV 2) (eC (.int 2)))))
    (sRet (eTup (aCons (eC (.str "loop")) (aCons (eV 4) (aCons (eV 5) aNil)))))
    sNext)
    (sSeq (sSet 6 (e2 ixD (eTup (aCons (eC (.str "seq")) (aCons (eC (.str "xor")) (aCons (eC (.str "and")) aNil)))) (e2 modD (eV 3) (eC (.int 3)))))
    (sSeq (sIf (tAnd' (tB1 (e2 eqD (e2 modD (e2 ixD (eV 0) (e2 modD (e2 addD (eV 1) (eC (.int 2))) (eB lenD (aCons (eV 0) aNil)))) (eC (.int 4))) (eC (.int 0)))) (tB1 (e2 ltD (eV 2) (eC (.int 2)))))
    (sRet (eTup (aCons (eV 6) (aCons (eV 4) (aCons (eV 5) (aCons (eCall self (aCons (eV 0) (aCons (e2 addD (eV 1) (eC (.int 14))) (aCons (e2 addD (eV 2) (eC (.int 1))) aNil)))) aNil))))))
    sNext)
    (sRet (eTup (aCons (eV 6) (aCons (eV 4) (aCons (eV 5) aNil))))))))))))
def m__law_tree : Nat → List D → R D
  | 0 => fun _ => .bad
  | n + 1 => runF 7 (b__law_tree (m__law_tree n))
theorem can__law_tree (E : Fx K mg base) : ∀ j : Nat, Can P w K mg base (MoD K tf) (1 + j) "_law_tree" 3 (m__law_tree j)
  | 0 => can_bad (st := top 21) (ps := ["n", "at", "deep"]) (E.fun_ 10 (d := d_fn__law_tree)) (E.glo 24) (fun _ _ _ _ _ _ us hl => match us, hl with | [_, _, _], _ => rfl)
  | j + 1 => by
    have ih := can__law_tree E j
    refine can_mk (ps := ["n", "at", "deep"]) (E.fun_ 10 (d := d_fn__law_tree)) (E.glo 24) sc__law_tree (fun _ _ _ _ _ _ us hl => match us, hl with | [_, _, _], _ => rfl) fun A outer s H E0 hr => ?_
    replace hr := (show Room (1 + j) _ from hr)
    have tk := takes_of (X := (cxOf (L2.CX P w) P w K mg base N__law_tree "_law_tree" (defScope (top 21)) (He.fAd K ("_law_tree", none)) (.ref (He.codeOf K ("_law_tree", none))) A outer s H E0)) rfl rfl rfl rfl
    have hp := passes_of (X := (cxOf (L2.CX P w) P w K mg base N__law_tree "_law_tree" (defScope (top 21)) (He.fAd K ("_law_tree", none)) (.ref (He.codeOf K ("_law_tree", none))) A outer s H E0)) rfl
    exact (dss_cons (ds_set 3 sc__law_tree.nd (xMod (de_ix (dv 0) (xMod (dv 1) (bLen (E.fre 2) (dv 0)))) (de_if (tLt (dv 2) de_int) de_int de_int)))
    (dss_cons (ds_if (tLt (dv 3) de_int)
    (dss_one (ds_ret (de_if (tEq hr (xMod (de_ix (dv 0) (xMod (xAdd (dv 1) de_int) (bLen (E.fre 2) (dv 0)))) de_int) de_int) (de_tup (da_cons de_str da_nil)) (de_tup (da_cons de_str (da_cons (de_ix de_str (xMod (de_ix (dv 0) (xMod (xAdd (dv 1) de_int) (bLen (E.fre 2) (dv 0)))) de_int)) da_nil))))))
    dss_nil)
    (dss_cons (ds_set 4 sc__law_tree.nd (de_callC ih (hr.mono (by omega)) tk rfl (da_cons (dv 0) (da_cons (xAdd (dv 1) de_int) (da_cons (xAdd (dv 2) de_int) da_nil))) (hn_cons (hn_cons (hn_cons hn_nil)))))
    (dss_cons (ds_set 5 sc__law_tree.nd (de_callC ih (hr.mono (by omega)) tk rfl (da_cons (dv 0) (da_cons (xAdd (dv 1) de_int) (da_cons (xAdd (dv 2) de_int) da_nil))) (hn_cons (hn_cons (hn_cons hn_nil)))))
    (dss_cons (ds_if (dt_w (dw_and (tGt (dv 3) de_int) (dw_and1 (tLt (dv 2) de_int))))
    (dss_one (ds_ret (de_tup (da_cons de_str (da_cons (dv 4) (da_cons (dv 5) da_nil))))))
    dss_nil)
    (dss_cons (ds_set 6 sc__law_tree.nd (de_ix (de_tup (da_cons de_str (da_cons de_str (da_cons de_str da_nil)))) (xMod (dv 3) de_int)))
    (dss_cons (ds_if (dt_w (dw_and (tEq hr (xMod (de_ix (dv 0) (xMod (xAdd (dv 1) de_int) (bLen (E.fre 2) (dv 0)))) de_int) de_int) (dw_and1 (tLt (dv 2) de_int))))
    (dss_one (ds_ret (de_tup (da_cons (dv 6) (da_cons (dv 4) (da_cons (dv 5) (da_cons (de_callC ih (hr.mono (by omega)) tk rfl (da_cons (dv 0) (da_cons (xAdd (dv 1) de_int) (da_cons (xAdd (dv 2) de_int) da_nil))) (hn_cons (hn_cons (hn_cons hn_nil)))) da_nil)))))))
    dss_nil)
    (dss_one (ds_ret (de_tup (da_cons (dv 6) (da_cons (dv 4) (da_cons (dv 5) da_nil)))))))))))))

/-! ### _law_text -/
abbrev N__law_text : List Str := ["tree", "part"]
theorem sc__law_text : FnScope N__law_text ["tree"] (defScope (top 22)) := ⟨rfl, rfl, rfl, by decide +kernel, rfl, by decide +kernel, by decide +kernel⟩
def b__law_text (self : List D → R D) : Sv :=
    (sSeq (sIf (tB1 (e2 eqD (e2 ixD (eV 0) (eC (.int 0))) (eC (.str "do"))))
    (sRet (e2 ixD (eV 0) (eC (.int 1))))
    sNext)
    (sSeq (sIf (tB1 (e2 eqD (e2 ixD (eV 0) (eC (.int 0))) (eC (.str "skip"))))
    (sRet (eC (.str "-")))
    sNext)
    (sRet (e2 addD (e2 addD (e2 addD (e2 ixD (eV 0) (eC (.int 0))) (eC (.str "("))) (eJoin (eC (.str ", ")) (eN (nLc [1] (.one 1) (iSeq (eSl (eV 0) (oSome (eC (.int 1))) oNone)) tYesD (eCall self (aCons (eV 1) aNil)))))) (eC (.str ")"))))))
def m__law_text : Nat → List D → R D
  | 0 => fun _ => .bad
  | n + 1 => runF 2 (b__law_text (m__law_text n))
theorem can__law_text (E : Fx K mg base) : ∀ j : Nat, Can P w K mg base (MoD K tf) (1 + j) "_law_text" 1 (m__law_text j)
  | 0 => can_bad (st := top 22) (ps := ["tree"]) (E.fun_ 11 (d := d_fn__law_text)) (E.glo 25) (fun _ _ _ _ _ _ us hl => match us, hl with | [_], _ => rfl)
  | j + 1 => by
    have ih := can__law_text E j
    refine can_mk (ps := ["tree"]) (E.fun_ 11 (d := d_fn__law_text)) (E.glo 25) sc__law_text (fun _ _ _ _ _ _ us hl => match us, hl with | [_], _ => rfl) fun A outer s H E0 hr => ?_
    replace hr := (show Room (1 + j) _ from hr)
    have tk := takes_of (X := (cxOf (L2.CX P w) P w K mg base N__law_text "_law_text" (defScope (top 22)) (He.fAd K ("_law_text", none)) (.ref (He.codeOf K ("_law_text", none))) A outer s H E0)) rfl rfl rfl rfl
    have hp := passes_of (X := (cxOf (L2.CX P w) P w K mg base N__law_text "_law_text" (defScope (top 22)) (He.fAd K ("_law_text", none)) (.ref (He.codeOf K ("_law_text", none))) A outer s H E0)) rfl
    exact (dss_cons (ds_if (tEq hr (de_ix (dv 0) de_int) de_str)
    (dss_one (ds_ret (de_ix (dv 0) de_int)))
    dss_nil)
    (dss_cons (ds_if (tEq hr (de_ix (dv 0) de_int) de_str)
    (dss_one (ds_ret de_str))
    dss_nil)
    (dss_one (ds_ret (xAdd (xAdd (xAdd (de_ix (dv 0) de_int) de_str) (de_join de_str (de_n (dn_lc [(("part" : Str), 1)] rfl sc__law_text.nd (di_seq (de_slice (dv 0) (do_some de_int) do_none)) (blk_of (N := N__law_text) (sc := defScope (top 22)) (own := [(("part" : Str), 1)]) (by decide +kernel)) (by decide) (fun _ _ _ _ _ => (dg_one 1 sc__law_text.nd)) (fun _ _ _ _ _ => dts_nil) (fun _ _ _ _ _ => (de_callC ih (hr.mono (by omega)) Dl.takes0 rfl (da_cons (dv 1) da_nil) (hn_cons hn_nil))))))) de_str)))))

/-! ### _law_read -/
abbrev N__law_read : List Str := ["text"]
theorem sc__law_read : FnScope N__law_read ["text"] (defScope (top 23)) := ⟨rfl, rfl, rfl, by decide +kernel, rfl, by decide +kernel, by decide +kernel⟩
def b__law_read : Sv :=
    (sTry (subL [("BadTree", true)]) (sRet (eCall m_read_tree (aCons (eV 0) aNil)))
    (sRet (eC .non)))
def m__law_read : List D → R D := runF 1 b__law_read
theorem can__law_read (E : Fx K mg base) : Can P w K mg base (MoD K tf) 14 "_law_read" 1 m__law_read := by
  refine can_mk (ps := ["text"]) (E.fun_ 12 (d := d_fn__law_read)) (E.glo 27) sc__law_read (fun _ _ _ _ _ _ us hl => match us, hl with | [_], _ => rfl) fun A outer s H E0 hr => ?_
  have tk := takes_of (X := (cxOf (L2.CX P w) P w K mg base N__law_read "_law_read" (defScope (top 23)) (He.fAd K ("_law_read", none)) (.ref (He.codeOf K ("_law_read", none))) A outer s H E0)) rfl rfl rfl rfl
  have hp := passes_of (X := (cxOf (L2.CX P w) P w K mg base N__law_read "_law_read" (defScope (top 23)) (He.fAd K ("_law_read", none)) (.ref (He.codeOf K ("_law_read", none))) A outer s H E0)) rfl
  exact (dss_one (ds_try rfl rfl ⟨rfl, by decide, .inl (E.glo 9)⟩ tk (sub_cons (E.exm 26) sub_nil) (fun _ _ _ tk hp => (dss_one (ds_ret (de_callC (can_read_tree E) (hr.mono (by omega)) tk rfl (da_cons (dv 0) da_nil) (hn_cons hn_nil)))))
    (fun _ _ _ => (dss_one (ds_ret de_non)))))

/-! ### law -/
abbrev N_law : List Str := ["script", "tree", "m", "text", "at", "sign", "turned", "told", "wrong"]
theorem sc_law : FnScope N_law ["script"] (defScope (top 24)) := ⟨rfl, rfl, rfl, by decide +kernel, rfl, by decide +kernel, by decide +kernel⟩
def b_law : Sv :=
    (sSeq (sSet 1 (eCall (m__law_tree 9) (aCons (eCall m__law_draws (aCons (eCall m__law_cell (aCons (eV 0) (aCons (eC (.int 0)) aNil))) (aCons (eC (.int 60)) aNil))) (aCons (eC (.int 0)) (aCons (eC (.int 0)) aNil)))))
    (sSeq (sSet 2 (eCall m__law_draws (aCons (eCall m__law_cell (aCons (eV 0) (aCons (eC (.int 1)) aNil))) (aCons (eC (.int 12)) aNil))))
    (sSeq (sSet 3 (eCall (m__law_text 9) (aCons (eV 1) aNil)))
    (sSeq (sIf (tOr' (tB1 (e2 neD (eCall m_tree_text (aCons (eV 1) aNil)) (eV 3))) (tB1 (e2 neD (eCall m__law_read (aCons (eV 3) aNil)) (eV 1))))
    (sRet (eC (.bl false)))
    sNext)
    (sSeq (sSet 4 (e2 modD (e2 ixD (eV 2) (eC (.int 0))) (e2 addD (eB lenD (aCons (eV 3) aNil)) (eC (.int 1)))))
    (sSeq (sSet 5 (e2 ixD (eC (.str "(), -ax1")) (e2 modD (e2 ixD (eV 2) (eC (.int 1))) (eC (.int 8)))))
    (sSeq (sSet 6 (e2 ixD (eTup (aCons (e2 addD (e2 addD (eSl (eV 3) oNone (oSome (eV 4))) (eV 5)) (eSl (eV 3) (oSome (eV 4)) oNone)) (aCons (e2 addD (eSl (eV 3) oNone (oSome (eV 4))) (eSl (eV 3) (oSome (e2 addD (eV 4) (eC (.int 1)))) oNone)) (aCons (e2 addD (e2 addD (eSl (eV 3) oNone (oSome (eV 4))) (eV 5)) (eSl (eV 3) (oSome (e2 addD (eV 4) (eC (.int 1)))) oNone)) (aCons (e2 addD (eV 3) (eC (.str ")"))) (aCons (e2 addD (e2 addD (eC (.str "seq(")) (eV 3)) (eC (.str ", -)"))) (aCons (e2 addD (e2 addD (eC (.str "seq(")) (eV 3)) (eC (.str ")"))) (aCons (e1 (replD ", " ",") (eV 3)) (aCons (e1 (replD "and" "xor") (eV 3)) (aCons (e2 addD (eC (.str " ")) (eV 3)) aNil)))))))))) (e2 modD (e2 ixD (eV 2) (eC (.int 2))) (eC (.int 9)))))
    (sSeq (sSet 7 (eCall m__law_read (aCons (eV 6) aNil)))
    (sSeq (sIf (tAnd' (tB1 (e2 notND (eV 7) (eC .non))) (tB1 (e2 neD (eCall (m__law_text 9) (aCons (eV 7) aNil)) (eV 6))))
    (sRet (eC (.bl false)))
    sNext)
    (sSeq (sIf (tAnd' (tB1 (e2 eqD (e2 modD (e2 ixD (eV 2) (eC (.int 2))) (eC (.int 9))) (eC (.int 4)))) (tB1 (e2 neD (eV 7) (eTup (aCons (eC (.str "seq")) (aCons (eV 1) (aCons (eTup (aCons (eC (.str "skip")) aNil)) aNil)))))))
    (sRet (eC (.bl false)))
    sNext)
    (sSeq (sIf (tAnd' (tB1 (e2 eqD (e2 modD (e2 ixD (eV 2) (eC (.int 2))) (eC (.int 9))) (eC (.int 7)))) (tAnd' (tB1 (e2 inD (eC (.str "and")) (eV 3))) (tB1 (e2 isND (eV 7) (eC .non)))))
    (sRet (eC (.bl false)))
    sNext)
    (sSeq (sFor (.one 8) (iSeq (eTup (aCons (eC (.str "")) (aCons (eC (.str "(")) (aCons (eC (.str "seq")) (aCons (eC (.str "seq(")) (aCons (eC (.str "seq(a")) (aCons (eC (.str "seq(a,")) (aCons (eC (.str "seq(a, b")) (aCons (eC (.str "seq(a, b)c")) (aCons (eC (.str "seq(a,b)")) (aCons (eC (.str "loop(a)")) (aCons (eC (.str "loop(a, b, c)")) (aCons (eC (.str "A")) (aCons (eC (.str "a b")) (aCons (eC (.str "--")) (aCons (eC (.str "()")) (aCons (eC (.str "xor(, )")) (aCons (eC (.str "do(a, b)")) (aCons (eC .non) (aCons (eC (.int 7)) aNil)))))))))))))))))))))
    (sIf (tAnd' (tB1 (e2 neD (eV 8) (eC (.str "seq")))) (tB1 (e2 notND (eCall m__law_read (aCons (eV 8) aNil)) (eC .non))))
    (sRet (eC (.bl false)))
    sNext))
    (sRet (e2 eqD (eCall m__law_read (aCons (eC (.str "seq")) aNil)) (eTup (aCons (eC (.str "do")) (aCons (eC (.str "seq")) aNil)))))))))))))))))
def m_law : List D → R D := runF 9 b_law
theorem ok_law (E : Fx K mg base) {fd : FuncData} {kws : List (Str × V)} (F : FunD K "law" "law" (defArgs (top 24)) (defBody (top 24)) (defScope (top 24)) [] kws (He.fAd K ("law", none)) fd) : FnOk P w K mg base (L2.CX P w) 15 (He.fAd K ("law", none)) fd ["script"] (spD K (MoD K tf) 1 m_law) := by
  refine fn_of_data (N := N_law) F sc_law fun A outer s H E0 hr => ?_
  have tk := takes_of (X := (cxOf (L2.CX P w) P w K mg base N_law "law" (defScope (top 24)) (He.fAd K ("law", none)) (.ref (He.codeOf K ("law", none))) A outer s H E0)) rfl rfl rfl rfl
  have hp := passes_of (X := (cxOf (L2.CX P w) P w K mg base N_law "law" (defScope (top 24)) (He.fAd K ("law", none)) (.ref (He.codeOf K ("law", none))) A outer s H E0)) rfl
  exact (dss_cons (ds_set 1 sc_law.nd (de_callC (can__law_tree E 9) (hr.mono (by omega)) tk rfl (da_cons (de_callC (can__law_draws E) (hr.mono (by omega)) tk rfl (da_cons (de_callC (can__law_cell E) (hr.mono (by omega)) tk rfl (da_cons (dv 0) (da_cons de_int da_nil)) (hn_cons (hn_cons hn_nil))) (da_cons de_int da_nil)) (hn_cons (hn_cons hn_nil))) (da_cons de_int (da_cons de_int da_nil))) (hn_cons (hn_cons (hn_cons hn_nil)))))
    (dss_cons (ds_set 2 sc_law.nd (de_callC (can__law_draws E) (hr.mono (by omega)) tk rfl (da_cons (de_callC (can__law_cell E) (hr.mono (by omega)) tk rfl (da_cons (dv 0) (da_cons de_int da_nil)) (hn_cons (hn_cons hn_nil))) (da_cons de_int da_nil)) (hn_cons (hn_cons hn_nil))))
    (dss_cons (ds_set 3 sc_law.nd (de_callC (can__law_text E 9) (hr.mono (by omega)) tk rfl (da_cons (dv 1) da_nil) (hn_cons hn_nil)))
    (dss_cons (ds_if (dt_w (dw_or (tNe hr (de_callC (can_tree_text E) (hr.mono (by omega)) tk rfl (da_cons (dv 1) da_nil) (hn_cons hn_nil)) (dv 3)) (dw_or1 (tNe hr (de_callC (can__law_read E) (hr.mono (by omega)) tk rfl (da_cons (dv 3) da_nil) (hn_cons hn_nil)) (dv 1)))))
    (dss_one (ds_ret de_bl))
    dss_nil)
    (dss_cons (ds_set 4 sc_law.nd (xMod (de_ix (dv 2) de_int) (xAdd (bLen (E.fre 2) (dv 3)) de_int)))
    (dss_cons (ds_set 5 sc_law.nd (de_ix de_str (xMod (de_ix (dv 2) de_int) de_int)))
    (dss_cons (ds_set 6 sc_law.nd (de_ix (de_tup (da_cons (xAdd (xAdd (de_slice (dv 3) do_none (do_some (dv 4))) (dv 5)) (de_slice (dv 3) (do_some (dv 4)) do_none)) (da_cons (xAdd (de_slice (dv 3) do_none (do_some (dv 4))) (de_slice (dv 3) (do_some (xAdd (dv 4) de_int)) do_none)) (da_cons (xAdd (xAdd (de_slice (dv 3) do_none (do_some (dv 4))) (dv 5)) (de_slice (dv 3) (do_some (xAdd (dv 4) de_int)) do_none)) (da_cons (xAdd (dv 3) de_str) (da_cons (xAdd (xAdd de_str (dv 3)) de_str) (da_cons1 (de1_op op_addD os_add (de1_op op_addD os_add de1_str (dv 3)) de_str) (dat_cons (det_repl (dv 3)) (dat_cons (det_repl (dv 3)) (dat_cons (det_of (xAdd de_str (dv 3))) dat_nil)))))))))) (xMod (de_ix (dv 2) de_int) de_int)))
    (dss_cons (ds_set 7 sc_law.nd (de_callC (can__law_read E) (hr.mono (by omega)) tk rfl (da_cons (dv 6) da_nil) (hn_cons hn_nil)))
    (dss_cons (ds_if (dt_w (dw_and (tIsn (dv 7) de_non) (dw_and1 (tNe hr (de_callC (can__law_text E 9) (hr.mono (by omega)) tk rfl (da_cons (dv 7) da_nil) (hn_cons hn_nil)) (dv 6)))))
    (dss_one (ds_ret de_bl))
    dss_nil)
    (dss_cons (ds_if (dt_w (dw_and (tEq hr (xMod (de_ix (dv 2) de_int) de_int) de_int) (dw_and1 (tNe hr (dv 7) (de_tup (da_cons de_str (da_cons (dv 1) (da_cons (de_tup (da_cons de_str da_nil)) da_nil))))))))
    (dss_one (ds_ret de_bl))
    dss_nil)
    (dss_cons (ds_if (dt_w (dw_and (tEq hr (xMod (de_ix (dv 2) de_int) de_int) de_int) (dw_and (tIn hr de_str (dv 3)) (dw_and1 (tIs (dv 7) de_non)))))
    (dss_one (ds_ret de_bl))
    dss_nil)
    (dss_cons (ds_for hp rfl (di_seq (de_tup (da_cons de_str (da_cons de_str (da_cons de_str (da_cons de_str (da_cons de_str (da_cons de_str (da_cons de_str (da_cons de_str (da_cons de_str (da_cons de_str (da_cons de_str (da_cons de_str (da_cons de_str (da_cons de_str (da_cons de_str (da_cons de_str (da_cons de_str (da_cons de_non (da_cons de_int da_nil))))))))))))))))))))) (dg_one 8 sc_law.nd)
    (dss_one (ds_if (dt_w (dw_and (tNe hr (dv 8) de_str) (dw_and1 (tIsn (de_callC (can__law_read E) (hr.mono (by omega)) tk rfl (da_cons (dv 8) da_nil) (hn_cons hn_nil)) de_non))))
    (dss_one (ds_ret de_bl))
    dss_nil)))
    (dss_one (ds_ret (cEq hr (de_callC (can__law_read E) (hr.mono (by omega)) tk rfl (da_cons de_str da_nil) (hn_cons hn_nil)) (de_tup (da_cons de_str (da_cons de_str da_nil))))))))))))))))))
end
end K90

set_option Elab.async false
set_option linter.all false
set_option maxRecDepth 100000
set_option maxHeartbeats 1000000
namespace K90
open PySem Dl L2
def lets : List Nat := [97,98,99,100,101,102,103,104,105,106,107,108,109,110,111,112,113,114,115,116,117,118,119,120,121,122]
def sgs : List Nat := lets ++ [48,49,50,51,52,53,54,55,56,57]
theorem s_lets : (Str.ofString "abcdefghijklmnopqrstuvwxyz") = Tx lets := by rfl
theorem s_sgs : (Str.ofString "abcdefghijklmnopqrstuvwxyz0123456789") = Tx sgs := by rfl
def wDo : List Nat := [100,111]
def wSkip : List Nat := [115,107,105,112]
def wSeq : List Nat := [115,101,113]
def wXor : List Nat := [120,111,114]
def wAnd : List Nat := [97,110,100]
def wLoop : List Nat := [108,111,111,112]
theorem s_do : (Str.ofString "do") = Tx wDo := by rfl
theorem s_skip : (Str.ofString "skip") = Tx wSkip := by rfl
theorem s_seq : (Str.ofString "seq") = Tx wSeq := by rfl
theorem s_xor : (Str.ofString "xor") = Tx wXor := by rfl
theorem s_and : (Str.ofString "and") = Tx wAnd := by rfl
theorem s_loop : (Str.ofString "loop") = Tx wLoop := by rfl
theorem ok_do : Ok1 wDo := by unfold Ok1 wDo; decide
theorem ok_skip : Ok1 wSkip := by unfold Ok1 wSkip; decide
theorem ok_seq : Ok1 wSeq := by unfold Ok1 wSeq; decide
theorem ok_xor : Ok1 wXor := by unfold Ok1 wXor; decide
theorem ok_and : Ok1 wAnd := by unfold Ok1 wAnd; decide
theorem ok_loop : Ok1 wLoop := by unfold Ok1 wLoop; decide
def isNm : List Nat → Bool
  | [] => false
  | c :: r => decide ((c :: r).length ≤ 8) && decide (c ∈ lets) && (c :: r).all fun c => decide (c ∈ sgs)
theorem nm_text (w : List Nat) (h : w.length ≤ 1000000) : m_is_name [.str (Tx w)] = .ok (.bl (isNm w)) := by
  have hz : w.length ≤ sizeLine := by rw [sz_eq]; omega
  unfold m_is_name runF b_is_name
  have hi : ∀ d, initE 2 [d] = [.val d, .no] := fun _ => rfl
  cases w with
  | nil => simp [hi, len_S hz, isNm, tyN, kit_str_str]
  | cons c r =>
    have e0 : ixD (.str (Tx (c :: r))) (.int 0) = some (.str (Tx [c])) := ix_S hz 0
    have hl := len_S hz
    have hl' : lenD [.str (Tx (c :: r))] = some (.int ((r.length : Int) + 1)) := hl
    have h1'' : ¬ ((r.length : Int) + 1 < 1) := by omega
    by_cases h1 : r.length + 1 ≤ 8
    · have h1' : ¬ (8 < ((r.length : Int) + 1)) := by omega
      by_cases h2 : c ∈ lets
      · have g : genF false (.one 1) tYesD (e2 inD (eV 1) (eC (.str (Tx sgs)))) (wipeE [.val (.str (Tx (c :: r))), .no] [1]) ((c :: r).map fun c => .str (Tx [c])) = .ok (.bl ((c :: r).all fun c => decide (c ∈ sgs))) := by
          rw [genF_all (p := fun d => match d with | .str x => x.cps.toList.all fun c => decide (c ∈ sgs) | _ => false)]
          · rw [List.all_map]
            have e : ((fun d : D => match d with | .str x => x.cps.toList.all fun c => decide (c ∈ sgs) | _ => false) ∘ fun c => D.str (Tx [c])) = fun c => decide (c ∈ sgs) := by
              funext c
              show ((Tx [c]).cps.toList.all fun c => decide (c ∈ sgs)) = _
              rw [S_list]
              simp
            rw [e]
          · intro d hd
            obtain ⟨c', _, rfl⟩ := List.mem_map.mp hd
            exact ⟨_, rfl, rfl, by simp [in_S1, S_list, wipeE]⟩
        simp [hi, hl', isNm, e0, s_lets, nin_S1, h2, tyN, kit_str_str, h1', h1'', ev_eGen, itD_str, s_sgs, -List.map_cons, g, h1]
      · simp [hi, hl', isNm, e0, s_lets, nin_S1, h2, tyN, kit_str_str, h1', h1'']
    · have h1' : (8 < ((r.length : Int) + 1)) := by omega
      simp [hi, hl', isNm, tyN, kit_str_str, h1', h1'', h1]
theorem nm_tup (xs : List D) : m_is_name [.tup xs] = .ok (.bl false) := by
  unfold m_is_name runF b_is_name
  simp [initE, tyN, kit_tuple_str]

/-! ### trees -/
inductive T where
  | skip
  | leaf (w : List Nat)
  | node (w : List Nat) (ts : List T)
mutual
def T.d : T → D
  | .skip => .tup [.str (Tx wSkip)]
  | .leaf w => .tup [.str (Tx wDo), .str (Tx w)]
  | .node w ts => .tup (.str (Tx w) :: T.ds ts)
def T.ds : List T → List D
  | [] => []
  | t :: ts => T.d t :: T.ds ts
end
mutual
def T.tx : T → List Nat
  | .skip => [45]
  | .leaf w => w
  | .node w ts => w ++ 40 :: ((T.mr ts).drop 2 ++ [41])
def T.mr : List T → List Nat
  | [] => []
  | t :: ts => 44 :: 32 :: (T.tx t ++ T.mr ts)
end
def kinds : List (List Nat) := [wSeq, wXor, wAnd]
mutual
def T.ck : T → Nat → Bool
  | .skip, k => decide (k ≤ 6)
  | .leaf w, k => decide (k ≤ 6) && isNm w
  | .node w ts, k => decide (k ≤ 6) && ((decide (w ∈ kinds) && decide (2 ≤ ts.length) || decide (w = wLoop) && decide (ts.length = 2)) && T.cks ts (k + 1))
def T.cks : List T → Nat → Bool
  | [], _ => true
  | t :: ts, k => T.ck t k && T.cks ts k
end
mutual
def T.nl : T → Nat
  | .skip => 1
  | .leaf _ => 1
  | .node _ ts => T.nls ts
def T.nls : List T → Nat
  | [] => 0
  | t :: ts => T.nl t + T.nls ts
end
-- words and numbers of parts are small
mutual
def T.wf : T → Prop
  | .skip => True
  | .leaf w => w.length ≤ 1000000 ∧ Ok1 w
  | .node w ts => (w.length ≤ 1000000 ∧ Ok1 w) ∧ ts ≠ [] ∧ ts.length ≤ 1000000 ∧ T.wfs ts
def T.wfs : List T → Prop
  | [] => True
  | t :: ts => T.wf t ∧ T.wfs ts
end
theorem ds_len : ∀ ts : List T, (T.ds ts).length = ts.length
  | [] => rfl
  | t :: ts => by rw [T.ds, List.length_cons, List.length_cons, ds_len ts]
theorem d_tup : ∀ t : T, ∃ w xs, t.d = .tup (.str (Tx w) :: xs)
  | .skip => ⟨_, _, by rw [T.d]⟩
  | .leaf w => ⟨_, _, by rw [T.d]⟩
  | .node w ts => ⟨_, _, by rw [T.d]⟩
theorem seq1 {w : List Nat} (h : Ok1 w) : eqD (.str (Tx w)) (.str (Tx wDo)) = some (.bl (decide (w = wDo))) := eq_S h ok_do
/-- the loop over parts -/
theorem chk_loop {self : List D → R D} {k : Nat} : ∀ (ts : List T) (a : S) (c : S), (∀ t ∈ ts, self [t.d, .int ((k : Int) + 1)] = if t.ck (k + 1) then .ok .non else .exc "BadTree") →
    ∃ δ', forF (.one 2) (sDrop (eCall self (aCons (eV 2) (aCons (e2 addD (eV 1) (eC (.int 1))) aNil)))) (T.ds ts) [a, .val (.int k), c] = if T.cks ts (k + 1) then .next δ' else .exc "BadTree" δ'
  | [], a, c, _ => ⟨_, by rw [T.cks, T.ds]; rfl⟩
  | t :: ts, a, c, h => by
    obtain ⟨δ', ih⟩ := chk_loop ts a (.val t.d) fun u hu => h u (List.mem_cons_of_mem _ hu)
    have h0 := h t List.mem_cons_self
    rw [T.ds, T.cks]
    unfold forF
    simp only [put_one, List.set_cons_succ, List.set_cons_zero, ev_sDrop, ev_eCall, ev_aCons, ev_aNil, ev_eVs, ev_eV0, ev_e2, ev_eC, ev_bind_ok, add_int, ev_ofO_some, h0]
    cases ht : t.ck (k + 1) with
    | true =>
      simp only [if_true, Bool.true_and, ev_bindF_ok]
      exact ⟨δ', ih⟩
    | false =>
      simp only [Bool.false_eq_true, if_false, Bool.false_and, ev_bindF_exc]
      exact ⟨_, rfl⟩
end K90

set_option Elab.async false
set_option linter.all false
set_option maxRecDepth 100000
set_option maxHeartbeats 1000000
namespace K90
open PySem Dl L2
theorem sh_wd {w : List Nat} (h : Ok1 w) : sh (.str (Tx w)) = true := sh_S h
theorem in_kinds {w : List Nat} (h : Ok1 w) : inD (.str (Tx w)) (.tup [.str (Str.ofString "seq"), .str (Str.ofString "xor"), .str (Str.ofString "and")]) = some (.bl (decide (w ∈ kinds))) := by
  rw [s_seq, s_xor, s_and]
  show (if sh (.str (Tx w)) && sh (.tup [.str (Tx wSeq), .str (Tx wXor), .str (Tx wAnd)]) then some (D.bl ([D.str (Tx wSeq), .str (Tx wXor), .str (Tx wAnd)].any fun z => eqv z (.str (Tx w)))) else none) = _
  have hs : sh (.tup [.str (Tx wSeq), .str (Tx wXor), .str (Tx wAnd)]) = true := by
    refine sh_of ?_ (by decide)
    simp only [D.txt, D.txts]
    simp [Tx, wSeq, wXor, wAnd]
  rw [sh_S h, hs]
  simp only [Bool.and_self, if_true, List.any_cons, List.any_nil, eqv_dec (d := .str (Tx wSeq)) (e := .str (Tx w)) rfl rfl, eqv_dec (d := .str (Tx wXor)) (e := .str (Tx w)) rfl rfl, eqv_dec (d := .str (Tx wAnd)) (e := .str (Tx w)) rfl rfl, D.str.injEq, S_inj]
  simp only [kinds, List.mem_cons, List.not_mem_nil, or_false, Bool.or_false, Bool.decide_or, eq_comm]
theorem wfs_mem : ∀ {ts : List T} {t : T}, T.wfs ts → t ∈ ts → t.wf
  | u :: us, t, h, ht => by
    rw [T.wfs] at h
    rcases List.mem_cons.mp ht with rfl | ht
    · exact h.1
    · exact wfs_mem h.2 ht
theorem ix0 (d : D) (xs : List D) : ixD (.tup (d :: xs)) (.int 0) = some d := ix_tup _ 0
theorem ix1 (d e : D) (xs : List D) : ixD (.tup (d :: e :: xs)) (.int 1) = some e := ix_tup _ 1
theorem ix2 (d e f : D) (xs : List D) : ixD (.tup (d :: e :: f :: xs)) (.int 2) = some f := ix_tup _ 2
theorem cut1 (d : D) (xs : List D) : slD (.tup (d :: xs)) (some 1) none = some (.tup xs) := cut_tup _ 1
theorem chk_part : ∀ (n : Nat) (t : T) (k : Nat), 8 ≤ n + k → k ≤ 7 → t.wf → m_check_part n [t.d, .int k] = if t.ck k then .ok .non else .exc "BadTree"
  | 0, t, k, h, h', _ => by omega
  | n + 1, t, k, h, h', hw => by
    have hi : ∀ a b, initE 3 [a, b] = [.val a, .val b, .no] := fun _ _ => rfl
    show runF 3 (b_check_part (m_check_part n)) [t.d, .int k] = _
    unfold runF b_check_part
    rw [hi]
    by_cases hk : k ≤ 6
    · have hk' : ¬ (6 < (k : Int)) := by omega
      cases t with
      | skip => simp [T.d, tyN, kit_tuple_tuple, kit_str_str, ix0, hk', s_do, s_skip, eq_S ok_skip ok_do, eq_S ok_skip ok_skip, ne_int, T.ck, hk, show ¬ (wSkip = wDo) by decide]
      | leaf w =>
        rw [T.wf] at hw
        have nm := nm_text w hw.1
        cases hn : isNm w with
        | true => simp [T.d, tyN, kit_tuple_tuple, kit_str_str, ix0, ix1, hk', s_do, s_skip, eq_S ok_do ok_do, ne_int, T.ck, hk, nm, hn]
        | false => simp [T.d, tyN, kit_tuple_tuple, kit_str_str, ix0, ix1, hk', s_do, s_skip, eq_S ok_do ok_do, ne_int, T.ck, hk, nm, hn]
      | node w ts =>
        rw [T.wf] at hw
        obtain ⟨⟨hw1, hw2⟩, hne, hlen, hwf⟩ := hw
        have ih : ∀ t ∈ ts, m_check_part n [t.d, .int ((k : Int) + 1)] = if t.ck (k + 1) then .ok .non else .exc "BadTree" := fun t ht =>
          chk_part n t (k + 1) (by omega) (by omega) (wfs_mem hwf ht)
        have hlen0 : ¬ (((T.ds ts).length : Int) + 1 < 1) := by omega
        by_cases h1 : w = wDo
        · have hck : (T.node w ts).ck k = false := by
            rw [T.ck, h1]; simp [hk, show ¬ (wDo ∈ kinds) by decide, show ¬ (wDo = wLoop) by decide]
          rw [hck]
          cases ts with
          | nil => exact absurd rfl hne
          | cons t r =>
            obtain ⟨w', xs, ed⟩ := d_tup t
            by_cases h2 : r = []
            · subst h2
              simp [T.d, T.ds, tyN, kit_tuple_tuple, kit_str_str, ix0, ix1, hk', s_do, h1, eq_S ok_do ok_do, ne_int, ed, nm_tup]
            · have hr : ¬ (((r.length : Int) + 1 + 1 = 2)) := by
                intro z
                exact h2 (List.eq_nil_of_length_eq_zero (by omega))
              simp [T.d, T.ds, tyN, kit_tuple_tuple, kit_str_str, ix0, ix1, hk', s_do, h1, eq_S ok_do ok_do, ne_int, ed, nm_tup, ds_len, hr, show ¬ ((r.length : Int) + 1 + 1 < 1) by omega]
        · by_cases h2 : w = wSkip
          · have hck : (T.node w ts).ck k = false := by
              rw [T.ck, h2]; simp [hk, show ¬ (wSkip ∈ kinds) by decide, show ¬ (wSkip = wLoop) by decide]
            rw [hck]
            have hr : ¬ (((ts.length : Int) + 1 = 1)) := by
              intro z
              exact hne (List.eq_nil_of_length_eq_zero (by omega))
            have hr0 : ¬ (((ts.length : Int) + 1 < 1)) := by omega
            simp [T.d, tyN, kit_tuple_tuple, kit_str_str, ix0, hk', s_do, s_skip, h2, eq_S ok_skip ok_do, eq_S ok_skip ok_skip, ne_int, show ¬ (wSkip = wDo) by decide, ds_len, hr, hr0]
          · have hr0 : ¬ (((ts.length : Int) + 1 < 1)) := by omega
            by_cases h3 : w ∈ kinds ∧ 2 ≤ ts.length
            · obtain ⟨δ', lp⟩ := chk_loop (self := m_check_part n) (k := k) ts (.val (.tup (.str (Tx w) :: T.ds ts))) .no ih
              have hck : (T.node w ts).ck k = T.cks ts (k + 1) := by
                rw [T.ck]; simp [hk, h3.1, h3.2]
              rw [hck]
              have h3' : (3 : Int) ≤ (ts.length : Int) + 1 := by have := h3.2; omega
              cases hc : T.cks ts (k + 1) with
              | true =>
                rw [hc] at lp
                simp [T.d, tyN, kit_tuple_tuple, kit_str_str, ix0, hk', s_do, s_skip, eq_S hw2 ok_do, eq_S hw2 ok_skip, h1, h2, ds_len, hr0, in_kinds hw2, h3.1, h3', cut1, lp]
              | false =>
                rw [hc] at lp
                simp [T.d, tyN, kit_tuple_tuple, kit_str_str, ix0, hk', s_do, s_skip, eq_S hw2 ok_do, eq_S hw2 ok_skip, h1, h2, ds_len, hr0, in_kinds hw2, h3.1, h3', cut1, lp]
            · by_cases h4 : w = wLoop ∧ ts.length = 2
              · obtain ⟨h4, h5⟩ := h4
                have nk : ¬ (wLoop ∈ kinds) := by decide
                have nd : ¬ (wLoop = wDo) := by decide
                have nsk : ¬ (wLoop = wSkip) := by decide
                obtain ⟨t1, t2, rfl⟩ : ∃ t1 t2, ts = [t1, t2] := by
                  match ts, h5 with
                  | [a, b], _ => exact ⟨a, b, rfl⟩
                have i1 := ih t1 (by simp)
                have i2 := ih t2 (by simp)
                have hck : (T.node w [t1, t2]).ck k = (t1.ck (k + 1) && t2.ck (k + 1)) := by
                  rw [T.ck, T.cks, T.cks, T.cks, h4]; simp [hk]
                rw [hck]
                subst h4
                cases c1 : t1.ck (k + 1) with
                | false =>
                  rw [c1] at i1
                  simp [T.d, T.ds, tyN, kit_tuple_tuple, kit_str_str, ix0, ix1, ix2, hk', s_do, s_skip, s_loop, eq_S ok_loop ok_do, eq_S ok_loop ok_skip, eq_S ok_loop ok_loop, nd, nsk, in_kinds ok_loop, nk, eq_int, i1]
                | true =>
                  rw [c1] at i1
                  cases c2 : t2.ck (k + 1) with
                  | false =>
                    rw [c2] at i2
                    simp [T.d, T.ds, tyN, kit_tuple_tuple, kit_str_str, ix0, ix1, ix2, hk', s_do, s_skip, s_loop, eq_S ok_loop ok_do, eq_S ok_loop ok_skip, eq_S ok_loop ok_loop, nd, nsk, in_kinds ok_loop, nk, eq_int, i1, i2]
                  | true =>
                    rw [c2] at i2
                    simp [T.d, T.ds, tyN, kit_tuple_tuple, kit_str_str, ix0, ix1, ix2, hk', s_do, s_skip, s_loop, eq_S ok_loop ok_do, eq_S ok_loop ok_skip, eq_S ok_loop ok_loop, nd, nsk, in_kinds ok_loop, nk, eq_int, i1, i2]
              · have hck : (T.node w ts).ck k = false := by
                  rw [T.ck]
                  simp only [Bool.and_eq_false_iff, Bool.or_eq_false_iff, decide_eq_false_iff_not]
                  refine .inr (.inl ⟨?_, ?_⟩)
                  · by_cases z : w ∈ kinds
                    · exact .inr fun z2 => h3 ⟨z, z2⟩
                    · exact .inl z
                  · by_cases z : w = wLoop
                    · exact .inr fun z2 => h4 ⟨z, z2⟩
                    · exact .inl z
                rw [hck]
                by_cases z : w ∈ kinds
                · have z2 : ¬ (2 ≤ ts.length) := fun z2 => h3 ⟨z, z2⟩
                  have z3 : ¬ ((3 : Int) ≤ (ts.length : Int) + 1) := by omega
                  have z4 : ¬ ((ts.length : Int) + 1 = 3) := by omega
                  by_cases z5 : w = wLoop
                  · subst z5; exact absurd z (by decide)
                  · simp [T.d, tyN, kit_tuple_tuple, kit_str_str, ix0, hk', s_do, s_skip, s_loop, eq_S hw2 ok_do, eq_S hw2 ok_skip, eq_S hw2 ok_loop, h1, h2, ds_len, hr0, in_kinds hw2, z, z3, z4, z5, eq_int]
                · by_cases z5 : w = wLoop
                  · have z2 : ¬ (ts.length = 2) := fun z2 => h4 ⟨z5, z2⟩
                    have z4 : ¬ ((ts.length : Int) + 1 = 3) := by omega
                    subst z5
                    simp [T.d, tyN, kit_tuple_tuple, kit_str_str, ix0, hk', s_do, s_skip, s_loop, eq_S hw2 ok_do, eq_S hw2 ok_skip, eq_S hw2 ok_loop, h1, h2, ds_len, hr0, in_kinds hw2, z, z4, eq_int]
                  · simp [T.d, tyN, kit_tuple_tuple, kit_str_str, ix0, hk', s_do, s_skip, s_loop, eq_S hw2 ok_do, eq_S hw2 ok_skip, eq_S hw2 ok_loop, h1, h2, ds_len, hr0, in_kinds hw2, z, z5, eq_int]
    · have hk' : (6 : Int) < (k : Int) := by omega
      have hck : t.ck k = false := by
        cases t <;> rw [T.ck] <;> simp [hk]
      obtain ⟨w', xs, ed⟩ := d_tup t
      rw [hck, ed]
      simp [tyN, kit_tuple_tuple, kit_str_str, ix0, hk', show ¬ ((xs.length : Int) + 1 < 1) by omega]
end K90

set_option Elab.async false
set_option linter.all false
set_option maxRecDepth 100000
set_option maxHeartbeats 1000000
namespace K90
open PySem Dl L2 PySem.StrLaws
mutual
def T.lv : T → List D
  | .skip => [.non]
  | .leaf w => [.str (Tx w)]
  | .node _ ts => T.lvs ts
def T.lvs : List T → List D
  | [] => []
  | t :: ts => T.lv t ++ T.lvs ts
end
mutual
theorem lv_len : ∀ t : T, t.lv.length = t.nl
  | .skip => by rw [T.lv, T.nl]; rfl
  | .leaf w => by rw [T.lv, T.nl]; rfl
  | .node w ts => by rw [T.lv, T.nl, lvs_len]
theorem lvs_len : ∀ ts : List T, (T.lvs ts).length = T.nls ts
  | [] => by rw [T.lvs, T.nls]; rfl
  | t :: ts => by rw [T.lvs, T.nls, List.length_append, lv_len, lvs_len]
end
theorem ck_kind {w : List Nat} {ts : List T} {k : Nat} (h : (T.node w ts).ck k = true) : k ≤ 6 ∧ w ≠ wDo ∧ w ≠ wSkip ∧ T.cks ts (k + 1) = true ∧ w.length ≤ 4 ∧ 2 ≤ ts.length ∧ (w ∈ kinds ∨ w = wLoop) := by
  rw [T.ck] at h
  simp only [Bool.and_eq_true, Bool.or_eq_true, decide_eq_true_eq] at h
  obtain ⟨h1, h2, h3⟩ := h
  refine ⟨h1, ?_, ?_, h3, ?_, ?_, ?_⟩
  · rintro rfl; rcases h2 with ⟨h2, _⟩ | ⟨h2, _⟩ <;> revert h2 <;> decide
  · rintro rfl; rcases h2 with ⟨h2, _⟩ | ⟨h2, _⟩ <;> revert h2 <;> decide
  · rcases h2 with ⟨h2, _⟩ | ⟨h2, _⟩
    · unfold kinds at h2
      simp only [List.mem_cons, List.not_mem_nil, or_false] at h2
      rcases h2 with rfl | rfl | rfl <;> decide
    · rw [h2]; decide
  · rcases h2 with ⟨_, h2⟩ | ⟨_, h2⟩ <;> omega
  · rcases h2 with ⟨h2, _⟩ | ⟨h2, _⟩
    · exact .inl h2
    · exact .inr h2
theorem cks_mem : ∀ {ts : List T} {k : Nat} {t : T}, T.cks ts k = true → t ∈ ts → t.ck k = true
  | u :: us, k, t, h, ht => by
    rw [T.cks, Bool.and_eq_true] at h
    rcases List.mem_cons.mp ht with rfl | ht
    · exact h.1
    · exact cks_mem h.2 ht
theorem nls_mem : ∀ {ts : List T} {t : T}, t ∈ ts → t.nl ≤ T.nls ts
  | u :: us, t, ht => by
    rw [T.nls]
    rcases List.mem_cons.mp ht with rfl | ht
    · omega
    · have := nls_mem ht; omega
theorem mr_mem : ∀ {ts : List T} {t : T}, t ∈ ts → t.tx.length + 2 ≤ (T.mr ts).length
  | u :: us, t, ht => by
    rw [T.mr]
    simp only [List.length_cons, List.length_append]
    rcases List.mem_cons.mp ht with rfl | ht
    · omega
    · have := mr_mem ht; omega
theorem lv_loop {self : List D → R D} : ∀ (ts : List T) (a c : S) (acc : List D), acc.length + (T.lvs ts).length ≤ 1000000 → (∀ t ∈ ts, self [t.d] = .ok (.lst t.lv)) →
    ∃ c', forF (.one 2) (sSet 1 (e2 addD (eV 1) (eCall self (aCons (eV 2) aNil)))) (T.ds ts) [a, .val (.lst acc), c] = .next [a, .val (.lst (acc ++ T.lvs ts)), c']
  | [], a, c, acc, _, _ => ⟨c, by rw [T.ds, T.lvs, List.append_nil]; rfl⟩
  | t :: ts, a, c, acc, hl, h => by
    rw [T.lvs, List.length_append] at hl
    obtain ⟨c', ih⟩ := lv_loop ts a (.val t.d) (acc ++ t.lv) (by rw [List.length_append]; omega) fun u hu => h u (List.mem_cons_of_mem _ hu)
    have h0 := h t List.mem_cons_self
    have ha : addD (.lst acc) (.lst t.lv) = some (.lst (acc ++ t.lv)) := by
      show (if acc.length + t.lv.length ≤ sizeLine then _ else _) = _
      rw [if_pos (by rw [sz_eq]; omega)]
    refine ⟨c', ?_⟩
    rw [T.ds, T.lvs]
    unfold forF
    simp only [put_one, List.set_cons_succ, List.set_cons_zero, ev_sSet, ev_eCall, ev_aCons, ev_aNil, ev_eVs, ev_eV0, ev_e2, ev_bind_ok, h0, ha, ev_ofO_some, ev_bindF_ok]
    rw [ih, List.append_assoc]
theorem leaves : ∀ (n : Nat) (t : T) (k : Nat), 8 ≤ n + k → t.wf → t.ck k = true → t.nl ≤ 1000000 → m_leaves_of n [t.d] = .ok (.lst t.lv)
  | 0, t, k, h, hw, hc, hn => by
    exfalso
    cases t with
    | skip => rw [T.ck, decide_eq_true_eq] at hc; omega
    | leaf w => rw [T.ck, Bool.and_eq_true, decide_eq_true_eq] at hc; omega
    | node w ts => have := (ck_kind hc).1; omega
  | n + 1, t, k, h, hw, hc, hn => by
    have hi : ∀ a, initE 3 [a] = [.val a, .no, .no] := fun _ => rfl
    show runF 3 (b_leaves_of (m_leaves_of n)) [t.d] = _
    unfold runF b_leaves_of
    rw [hi]
    cases t with
    | skip => simp [T.d, T.lv, ix0, s_do, s_skip, eq_S ok_skip ok_do, eq_S ok_skip ok_skip, show ¬ (wSkip = wDo) by decide, ev_eLst, sz_eq]
    | leaf w => simp [T.d, T.lv, ix0, ix1, s_do, eq_S ok_do ok_do, ev_eLst, sz_eq]
    | node w ts =>
      obtain ⟨h1, h2, h3, h4, h5, h6, _⟩ := ck_kind hc
      rw [T.wf] at hw
      obtain ⟨⟨hw1, hw2⟩, hne, hlen, hwf⟩ := hw
      rw [T.nl] at hn
      obtain ⟨c', lp⟩ := lv_loop (self := m_leaves_of n) ts (.val (.tup (.str (Tx w) :: T.ds ts))) .no [] (by rw [List.length_nil, lvs_len]; omega) fun t ht =>
        leaves n t (k + 1) (by omega) (wfs_mem hwf ht) (cks_mem h4 ht) (by have := nls_mem ht; omega)
      simp [T.d, T.lv, ix0, s_do, s_skip, eq_S hw2 ok_do, eq_S hw2 ok_skip, h2, h3, ev_eLst, sz_eq, cut1, lp]
/-! ### texts -/
theorem map_txt {self : List D → R D} : ∀ (ts : List T) (a : S), (∀ t ∈ ts, self [t.d] = .ok (.str (Tx t.tx))) → mapF (.one 1) tYesD (eCall self (aCons (eV 1) aNil)) [a, .no] (T.ds ts) = .ok (ts.map fun t => .str (Tx t.tx))
  | [], a, _ => by rw [T.ds]; rfl
  | t :: ts, a, h => by
    have ih := map_txt ts a fun u hu => h u (List.mem_cons_of_mem _ hu)
    have h0 := h t List.mem_cons_self
    rw [T.ds]
    unfold mapF
    simp only [put_one, List.set_cons_succ, List.set_cons_zero, ev_tYes, ev_eCall, ev_aCons, ev_aNil, ev_eVs, ev_eV0, ev_bind_ok, h0, ih]
    rfl
theorem as_txt : ∀ ts : List T, asStrs (ts.map fun t => D.str (Tx t.tx)) = some (ts.map fun t => Tx t.tx)
  | [] => rfl
  | t :: ts => by rw [List.map_cons, asStrs, as_txt ts]; rfl
theorem glue_mr : ∀ ts : List T, glueL [44, 32] (ts.map fun t => Tx t.tx) = T.mr ts
  | [] => by rw [T.mr]; rfl
  | t :: ts => by
    rw [List.map_cons, T.mr]
    show [44, 32] ++ ((Tx t.tx).cps.toList ++ glueL [44, 32] (ts.map fun t => Tx t.tx)) = _
    rw [glue_mr ts, S_list]; rfl
theorem join_mr (ts : List T) (h : ts ≠ []) : Txt.join (Tx [44, 32]) (ts.map fun t => Tx t.tx) = Tx ((T.mr ts).drop 2) := by
  cases ts with
  | nil => exact absurd rfl h
  | cons t ts =>
    rw [List.map_cons, ← S_eta (Txt.join _ _)]
    congr 1
    show (Builtin.Str.glued _ _).cps.toList = _
    rw [glued_list, S_list]
    show (Tx t.tx).cps.toList ++ glueL [44, 32] (ts.map fun t => Tx t.tx) = _
    rw [glue_mr, S_list, T.mr]
    rfl
theorem sum_mr : ∀ ts : List T, ((ts.map fun t => Tx t.tx).map (·.length)).sum + 2 * ts.length = (T.mr ts).length
  | [] => by rw [T.mr]; rfl
  | t :: ts => by
    have ih := sum_mr ts
    rw [T.mr]
    simp only [List.map_cons, List.sum_cons, List.length_cons, List.length_append, S_len]
    omega
end K90

set_option Elab.async false
set_option linter.all false
set_option maxRecDepth 100000
set_option maxHeartbeats 1000000
namespace K90
open PySem Dl L2 PySem.StrLaws
theorem ck_le {t : T} {k : Nat} (h : t.ck k = true) : k ≤ 6 := by
  cases t with
  | skip => rw [T.ck, decide_eq_true_eq] at h; exact h
  | leaf w => rw [T.ck, Bool.and_eq_true, decide_eq_true_eq] at h; exact h.1
  | node w ts => exact (ck_kind h).1
theorem text : ∀ (n : Nat) (t : T) (k : Nat), 8 ≤ n + k → t.wf → t.ck k = true → t.tx.length ≤ 1000000 → m_text_of n [t.d] = .ok (.str (Tx t.tx))
  | 0, t, k, h, hw, hc, hn => by have := ck_le hc; omega
  | n + 1, t, k, h, hw, hc, hn => by
    have hi : ∀ a, initE 2 [a] = [.val a, .no] := fun _ => rfl
    show runF 2 (b_text_of (m_text_of n)) [t.d] = _
    unfold runF b_text_of
    rw [hi]
    cases t with
    | skip =>
      simp [T.d, T.tx, ix0, s_do, s_skip, eq_S ok_skip ok_do, eq_S ok_skip ok_skip, show ¬ (wSkip = wDo) by decide]
      rfl
    | leaf w => simp [T.d, T.tx, ix0, ix1, s_do, eq_S ok_do ok_do]
    | node w ts =>
      obtain ⟨h1, h2, h3, h4, h5, h6, _⟩ := ck_kind hc
      rw [T.wf] at hw
      obtain ⟨⟨hw1, hw2⟩, hne, hlen, hwf⟩ := hw
      have hm : (T.mr ts).length ≤ 1000000 := by
        rw [T.tx] at hn
        simp only [List.length_append, List.length_cons, List.length_drop] at hn
        omega
      have mp := map_txt (self := m_text_of n) ts (.val (.tup (.str (Tx w) :: T.ds ts))) fun t ht =>
        text n t (k + 1) (by omega) (wfs_mem hwf ht) (cks_mem h4 ht) (by have := mr_mem ht; omega)
      have sj : Str.ofString ", " = Tx [44, 32] := by rfl
      have s1 : Str.ofString "(" = Tx [40] := by rfl
      have s2 : Str.ofString ")" = Tx [41] := by rfl
      have jn : joinD (Tx [44, 32]) (.lst (ts.map fun t => D.str (Tx t.tx))) = some (.str (Tx ((T.mr ts).drop 2))) := by
        unfold joinD
        simp only [as_txt]
        have := sum_mr ts
        rw [if_pos (by rw [List.length_map, S_len]; simp only [List.length_cons, List.length_nil]; omega), join_mr ts hne]
      have a1 : addD (.str (Tx w)) (.str (Tx [40])) = some (.str (Tx (w ++ [40]))) := add_S (by rw [sz_eq]; simp only [List.length_cons, List.length_nil]; omega)
      have a2 : addD (.str (Tx (w ++ [40]))) (.str (Tx ((T.mr ts).drop 2))) = some (.str (Tx ((w ++ [40]) ++ (T.mr ts).drop 2))) := add_S (by
        rw [sz_eq]; simp only [List.length_append, List.length_drop, List.length_cons, List.length_nil]; omega)
      have a3 : addD (.str (Tx ((w ++ [40]) ++ (T.mr ts).drop 2))) (.str (Tx [41])) = some (.str (Tx (((w ++ [40]) ++ (T.mr ts).drop 2) ++ [41]))) := add_S (by
        rw [sz_eq]; simp only [List.length_append, List.length_drop, List.length_cons, List.length_nil]; omega)
      have fin : ((w ++ [40]) ++ (T.mr ts).drop 2) ++ [41] = (T.node w ts).tx := by rw [T.tx]; simp
      have ev : eJoin (eC (.str (Str.ofString ", "))) (eN (nLc [1] (.one 1) (iSeq (eSl (eV 0) (oSome (eC (.int 1))) oNone)) tYesD (eCall (m_text_of n) (aCons (eV 1) aNil)))) [.val (.tup (.str (Tx w) :: T.ds ts)), .no] = .ok (.str (Tx ((T.mr ts).drop 2))) := by
        unfold eJoin nLc
        have wE : wipeE [S.val (.tup (.str (Tx w) :: T.ds ts)), .no] [1] = [.val (.tup (.str (Tx w) :: T.ds ts)), .no] := rfl
        simp [cut1, wE, mp, sj, show ts.length ≤ sizeLine by rw [sz_eq]; omega, jn]
      simp [T.d, ix0, s_do, s_skip, eq_S hw2 ok_do, eq_S hw2 ok_skip, h2, h3, ev, s1, s2, a1, a2]
      have e : w ++ 40 :: (T.mr ts).drop 2 = (w ++ [40]) ++ (T.mr ts).drop 2 := by simp
      rw [e, a3, fin]
      rfl
theorem check_tree {t : T} (hw : t.wf) (hn : t.ck 0 = true → t.nl ≤ 1000000) : m_check_tree [t.d] = if t.ck 0 = true ∧ t.nl ≤ 24 then .ok .non else .exc "BadTree" := by
  have hi : ∀ a, initE 1 [a] = [.val a] := fun _ => rfl
  unfold m_check_tree runF b_check_tree
  rw [hi]
  have cp := chk_part 9 t 0 (by omega) (by omega) hw
  have cp : m_check_part 9 [t.d, .int 0] = if t.ck 0 = true then .ok .non else .exc "BadTree" := cp
  cases hc : t.ck 0 with
  | false =>
    rw [hc] at cp
    simp [cp]
  | true =>
    rw [hc] at cp
    have lv := leaves 9 t 0 (by omega) hw hc (hn hc)
    by_cases h : t.nl ≤ 24
    · simp [cp, lv, lv_len, h, show ¬ (24 < (t.nl : Int)) by omega]
    · simp [cp, lv, lv_len, h, show (24 < (t.nl : Int)) by omega]
-- texts are not long
mutual
theorem tx_len : ∀ (t : T) (k : Nat), t.ck k = true → t.tx.length + 8 ≤ 16 * t.nl
  | .skip, k, _ => by rw [T.tx, T.nl]; simp
  | .leaf w, k, h => by
    rw [T.ck, Bool.and_eq_true] at h
    rw [T.tx, T.nl]
    have : w.length ≤ 8 := by
      cases w with
      | nil => simp
      | cons c r =>
        have h2 := h.2
        unfold isNm at h2
        simp only [Bool.and_eq_true, decide_eq_true_eq] at h2
        exact h2.1.1
    omega
  | .node w ts, k, h => by
    obtain ⟨h1, h2, h3, h4, h5, h6, _⟩ := ck_kind h
    have := mr_len ts (k + 1) h4
    rw [T.tx, T.nl]
    simp only [List.length_append, List.length_cons, List.length_drop, List.length_nil]
    omega
theorem mr_len : ∀ (ts : List T) (k : Nat), T.cks ts k = true → (T.mr ts).length + 6 * ts.length ≤ 16 * T.nls ts
  | [], k, _ => by rw [T.mr, T.nls]; simp
  | t :: ts, k, h => by
    rw [T.cks, Bool.and_eq_true] at h
    have a := tx_len t k h.1
    have b := mr_len ts k h.2
    rw [T.mr, T.nls]
    simp only [List.length_append, List.length_cons]
    omega
end
theorem tree_text {t : T} (hw : t.wf) (hc : t.ck 0 = true) (hn : t.nl ≤ 24) : m_tree_text [t.d] = .ok (.str (Tx t.tx)) := by
  have hi : ∀ a, initE 1 [a] = [.val a] := fun _ => rfl
  unfold m_tree_text runF b_tree_text
  rw [hi]
  have ct := check_tree hw (fun _ => by omega)
  rw [if_pos ⟨hc, hn⟩] at ct
  have tx := text 9 t 0 (by omega) hw hc (by have := tx_len t 0 hc; omega)
  simp [ct, tx]
theorem law_text_eq : ∀ n, m__law_text n = m_text_of n
  | 0 => rfl
  | n + 1 => by
    show runF 2 (b__law_text (m__law_text n)) = runF 2 (b_text_of (m_text_of n))
    rw [law_text_eq n]; rfl
end K90

set_option Elab.async false
set_option linter.all false
set_option maxRecDepth 100000
set_option maxHeartbeats 1000000
namespace K90
open PySem Dl L2 PySem.StrLaws
def wc (c : Nat) : Bool := !decide (c ∈ [40, 41, 44, 32])
def rpl (f : Nat → R (T × Nat)) (l w : List Nat) : Nat → List T → Nat → R (T × Nat)
  | 0, _, _ => .bad
  | g + 1, ps, b => if l[b]? = some 40 ∨ l[b]? = some 44 then (match f (if ps.length = 0 then b + 1 else b + 2) with
    | .ok r => rpl f l w g (ps ++ [r.1]) r.2
    | .exc c => .exc c
    | .bad => .bad) else .ok (.node w ps, b + 1)
def rp : Nat → List Nat → Nat → Nat → R (T × Nat)
  | 0, _, _, _ => .bad
  | n + 1, l, a, k => if 6 < k then .exc "BadTree" else if l[a]? = some 45 then .ok (.skip, a + 1) else
    if l[a + ((l.drop a).takeWhile wc).length]? = some 40 then rpl (fun s => rp n l s (k + 1)) l ((l.drop a).takeWhile wc) 1000000 [] (a + ((l.drop a).takeWhile wc).length)
    else .ok (.leaf ((l.drop a).takeWhile wc), a + ((l.drop a).takeWhile wc).length)
theorem take1 (l : List Nat) (a c : Nat) : (l.drop a).take 1 = [c] ↔ l[a]? = some c := by
  by_cases h : a < l.length
  · rw [List.drop_eq_getElem_cons h, List.take_succ_cons, List.take_zero, List.getElem?_eq_getElem h]
    simp
  · rw [List.drop_eq_nil_of_le (by omega), List.getElem?_eq_none (by omega)]
    simp
theorem ok_take {l : List Nat} (h : Ok1 l) (a b : Nat) : Ok1 ((l.drop a).take b) := fun c hc => h c (List.mem_of_mem_drop (List.mem_of_mem_take hc))
theorem ds_snoc : ∀ (ps : List T) (t : T), T.ds (ps ++ [t]) = T.ds ps ++ [t.d]
  | [], t => by simp [T.ds]
  | p :: ps, t => by rw [List.cons_append, T.ds, T.ds, ds_snoc ps t, List.cons_append]
theorem tw_take (p : Nat → Bool) : ∀ l : List Nat, l.take (l.takeWhile p).length = l.takeWhile p
  | [] => rfl
  | c :: l => by
    rw [List.takeWhile_cons]
    cases p c with
    | true => simp [tw_take p l]
    | false => simp
theorem s_pun : Str.ofString "(), " = Tx [40, 41, 44, 32] := by rfl
theorem s_dash : Str.ofString "-" = Tx [45] := by rfl
theorem s_open : Str.ofString "(" = Tx [40] := by rfl
theorem s_comma : Str.ofString "," = Tx [44] := by rfl
theorem ok_c {c : Nat} (h : c < 0x110000) : Ok1 [c] := by
  intro d hd
  rw [List.mem_singleton] at hd
  omega
theorem in_open {x : List Nat} (h : Ok1 x) : inD (.str (Tx x)) (.tup [.str (Str.ofString "("), .str (Str.ofString ",")]) = some (.bl (decide (x = [40] ∨ x = [44]))) := by
  rw [s_open, s_comma]
  show (if sh (.str (Tx x)) && sh (.tup [.str (Tx [40]), .str (Tx [44])]) then some (D.bl ([D.str (Tx [40]), .str (Tx [44])].any fun z => eqv z (.str (Tx x)))) else none) = _
  have hs : sh (.tup [.str (Tx [40]), .str (Tx [44])]) = true := by
    refine sh_of ?_ (by decide)
    simp only [D.txt, D.txts]
    simp [Tx]
  rw [sh_S h, hs]
  simp only [Bool.and_self, if_true, List.any_cons, List.any_nil, eqv_dec (d := .str (Tx [40])) (e := .str (Tx x)) rfl rfl, eqv_dec (d := .str (Tx [44])) (e := .str (Tx x)) rfl rfl, D.str.injEq, S_inj, Bool.or_false, Bool.decide_or, eq_comm]
/-- to the word's end -/
theorem while1 {l : List Nat} (hl : l.length ≤ 100000) (x1 x2 x4 x5 x6 x7 x8 : S) : ∀ (g e : Nat), l.length - e < g →
    whileF g (tAnd' (tB1 (e2 ltD (eV 3) (eB lenD (aCons (eV 0) aNil)))) (tB1 (e2 ninD (e2 ixD (eV 0) (eV 3)) (eC (.str (Str.ofString "(), ")))))) (sAug 3 iaddD (eC (.int 1))) [.val (.str (Tx l)), x1, x2, .val (.int e), x4, x5, x6, x7, x8]
      = .next [.val (.str (Tx l)), x1, x2, .val (.int ((e + ((l.drop e).takeWhile wc).length : Nat))), x4, x5, x6, x7, x8]
  | 0, e, h => by omega
  | g + 1, e, h => by
    have hz : l.length ≤ sizeLine := by rw [sz_eq]; omega
    unfold whileF
    by_cases he : e < l.length
    · have he' : (e : Int) < l.length := by omega
      rw [List.drop_eq_getElem_cons he, List.takeWhile_cons]
      have hx : ixD (.str (Tx l)) (.int (e : Int)) = some (.str (Tx [l[e]])) := by
        rw [ix_S hz, List.getElem?_eq_getElem he]; rfl
      by_cases hc : l[e] ∈ [40, 41, 44, 32]
      · have hw : wc l[e] = false := by unfold wc; rw [decide_eq_true hc]; rfl
        simp only [ev_tAnd, ev_tB1, ev_e2, ev_eVs, ev_eV0, ev_eB, ev_aCons, ev_aNil, ev_bind_ok, len_S hz, ev_ofO_some, lt_int, decide_eq_true he', hx, ev_eC, s_pun, nin_S1, decide_eq_true hc, Bool.not_true, ev_bindF_ok, hw]
        simp
      · have hw : wc l[e] = true := by unfold wc; rw [decide_eq_false hc]; rfl
        have ih := while1 hl x1 x2 x4 x5 x6 x7 x8 g (e + 1) (by omega)
        simp only [ev_tAnd, ev_tB1, ev_e2, ev_eVs, ev_eV0, ev_eB, ev_aCons, ev_aNil, ev_bind_ok, len_S hz, ev_ofO_some, lt_int, decide_eq_true he', hx, ev_eC, s_pun, nin_S1, decide_eq_false hc, Bool.not_false, ev_bindF_ok, hw]
        have hs : sAug 3 iaddD (eC (.int 1)) [.val (.str (Tx l)), x1, x2, .val (.int e), x4, x5, x6, x7, x8] = .next [.val (.str (Tx l)), x1, x2, .val (.int ((e + 1 : Nat))), x4, x5, x6, x7, x8] := rfl
        rw [hs]
        simp only [if_true, List.length_cons]
        rw [s_pun] at ih
        rw [ih, show e + 1 + ((l.drop (e + 1)).takeWhile wc).length = e + (((l.drop (e + 1)).takeWhile wc).length + 1) by omega]
    · have he' : ¬ ((e : Int) < l.length) := by omega
      rw [List.drop_eq_nil_of_le (by omega)]
      simp only [ev_tAnd, ev_tB1, ev_e2, ev_eVs, ev_eV0, ev_eB, ev_aCons, ev_aNil, ev_bind_ok, len_S hz, ev_ofO_some, lt_int, decide_eq_false he', ev_bindF_ok]
      simp
/-- the parts -/
theorem while2 {l w : List Nat} {self : List D → R D} {f : Nat → R (T × Nat)} {k : Nat} (hl : l.length ≤ 100000) (ho : Ok1 l) (x1 x3 x4 : S)
    (hs : ∀ s : Nat, f s ≠ .bad → self [.str (Tx l), .int s, .int ((k : Int) + 1)] = match f s with | .ok r => .ok (.tup [r.1.d, .int r.2]) | .exc c => .exc c | .bad => .bad) : ∀ (g : Nat) (ps : List T) (b : Nat) (x7 x8 : S), g + ps.length ≤ 1000000 →
    ∃ y7 y8, match rpl f l w g ps b with
      | .ok r => ∃ (qs : List T) (b' : Nat), r = (.node w qs, b' + 1) ∧ qs.length ≤ 1000000 ∧ whileF g (tB1 (e2 inD (eSl (eV 0) (oSome (eV 6)) (oSome (e2 addD (eV 6) (eC (.int 1))))) (eTup (aCons (eC (.str (Str.ofString "("))) (aCons (eC (.str (Str.ofString ","))) aNil)))))
        (sSeq (sSet 7 (eIf (tB1 (e2 eqD (eBor 5 (eB lenD (aCons (eV 5) aNil))) (eC (.int 0)))) (e2 addD (eV 6) (eC (.int 1))) (e2 addD (eV 6) (eC (.int 2)))))
          (sSeq (sUnp (.all [8, 6]) (eCall self (aCons (eV 0) (aCons (eV 7) (aCons (e2 addD (eV 2) (eC (.int 1))) aNil))))) (sApp 5 (eV 8))))
        [.val (.str (Tx l)), x1, .val (.int k), x3, x4, .own (T.ds ps), .val (.int b), x7, x8] = .next [.val (.str (Tx l)), x1, .val (.int k), x3, x4, .own (T.ds qs), .val (.int b'), y7, y8]
      | .exc c => ∃ δ, whileF g (tB1 (e2 inD (eSl (eV 0) (oSome (eV 6)) (oSome (e2 addD (eV 6) (eC (.int 1))))) (eTup (aCons (eC (.str (Str.ofString "("))) (aCons (eC (.str (Str.ofString ","))) aNil)))))
        (sSeq (sSet 7 (eIf (tB1 (e2 eqD (eBor 5 (eB lenD (aCons (eV 5) aNil))) (eC (.int 0)))) (e2 addD (eV 6) (eC (.int 1))) (e2 addD (eV 6) (eC (.int 2)))))
          (sSeq (sUnp (.all [8, 6]) (eCall self (aCons (eV 0) (aCons (eV 7) (aCons (e2 addD (eV 2) (eC (.int 1))) aNil))))) (sApp 5 (eV 8))))
        [.val (.str (Tx l)), x1, .val (.int k), x3, x4, .own (T.ds ps), .val (.int b), x7, x8] = .exc c δ
      | .bad => True
  | 0, ps, b, x7, x8, _ => ⟨x7, x8, by unfold rpl; trivial⟩
  | g + 1, ps, b, x7, x8, hg => by
    have hz : l.length ≤ sizeLine := by rw [sz_eq]; omega
    have sl : slD (.str (Tx l)) (some (b : Int)) (some ((b : Int) + 1)) = some (.str (Tx ((l.drop b).take 1))) := by
      have := sl_S hz b (b + 1)
      rw [show b + 1 - b = 1 by omega] at this
      exact this
    have io := in_open (ok_take ho b 1)
    simp only [take1] at io
    unfold rpl whileF
    by_cases hc : l[b]? = some 40 ∨ l[b]? = some 44
    · rw [if_pos hc]
      have ed : eBor 5 (eB lenD (aCons (eV 5) aNil)) [.val (.str (Tx l)), x1, .val (.int k), x3, x4, .own (T.ds ps), .val (.int b), x7, x8] = .ok (.int ps.length) := by
        unfold eBor
        have : Dl.frz 5 [.val (.str (Tx l)), x1, .val (.int k), x3, x4, .own (T.ds ps), .val (.int b), x7, x8] = [.val (.str (Tx l)), x1, .val (.int k), x3, x4, .val (.lst (T.ds ps)), .val (.int b), x7, x8] := rfl
        rw [this]
        simp [ds_len, D.pure]
      have e7 : (((if ps.length = 0 then b + 1 else b + 2 : Nat)) : Int) = if ps.length = 0 then (b : Int) + 1 else (b : Int) + 2 := by
        split <;> rfl
      have eT : ∀ δ : Dl.Env, eTup (aCons (eC (.str (Str.ofString "("))) (aCons (eC (.str (Str.ofString ","))) aNil)) δ = .ok (.tup [.str (Str.ofString "("), .str (Str.ofString ",")]) := fun δ => rfl
      have eI : eIf (tB1 (e2 eqD (eBor 5 (eB lenD (aCons (eV 5) aNil))) (eC (.int 0)))) (e2 addD (eV 6) (eC (.int 1))) (e2 addD (eV 6) (eC (.int 2))) [.val (.str (Tx l)), x1, .val (.int k), x3, x4, .own (T.ds ps), .val (.int b), x7, x8] = .ok (.int (((if ps.length = 0 then b + 1 else b + 2 : Nat)) : Int)) := by
        rw [e7]
        by_cases hp : ps.length = 0
        · simp [ed, eq_int, hp]
        · simp [ed, eq_int, hp]
      cases hf : f (if ps.length = 0 then b + 1 else b + 2) with
      | bad => exact ⟨x7, x8, trivial⟩
      | exc c =>
        have h0 := hs (if ps.length = 0 then b + 1 else b + 2) (by rw [hf]; exact fun z => by cases z)
        rw [hf] at h0
        refine ⟨x7, x8, [.val (.str (Tx l)), x1, .val (.int k), x3, x4, .own (T.ds ps), .val (.int b), .val (.int (((if ps.length = 0 then b + 1 else b + 2 : Nat)) : Int)), x8], ?_⟩
        simp only [ev_tB1, ev_e2, ev_eSl, ev_oSome, ev_eVs, ev_eV0, ev_eC, ev_bind_ok, add_int, ev_ofO_some, sl, eT, io, decide_eq_true hc, ev_bindF_ok, ev_sSeq, ev_sSet, eI, List.set_cons_succ, List.set_cons_zero, ev_sUnp, ev_eCall, ev_aCons, ev_aNil, h0, ev_bindF_exc]
      | ok r =>
        have h0 := hs (if ps.length = 0 then b + 1 else b + 2) (by rw [hf]; exact fun z => by cases z)
        rw [hf] at h0
        simp only [ev_tB1, ev_e2, ev_eSl, ev_oSome, ev_eVs, ev_eV0, ev_eC, ev_bind_ok, add_int, ev_ofO_some, sl, eT, io, decide_eq_true hc, ev_bindF_ok, ev_sSeq, ev_sSet, eI, List.set_cons_succ, List.set_cons_zero, ev_sUnp, ev_eCall, ev_aCons, ev_aNil, h0]
        obtain ⟨y7, y8, ih⟩ := while2 (w := w) hl ho x1 x3 x4 hs g (ps ++ [r.1]) r.2 (.val (.int (((if ps.length = 0 then b + 1 else b + 2 : Nat)) : Int))) (.val r.1.d) (by rw [List.length_append, List.length_singleton]; omega)
        refine ⟨y7, y8, ?_⟩
        have ap : sApp 5 (eV 8) [.val (.str (Tx l)), x1, .val (.int k), x3, x4, .own (T.ds ps), .val (.int r.2), .val (.int (((if ps.length = 0 then b + 1 else b + 2 : Nat)) : Int)), .val r.1.d] = .next [.val (.str (Tx l)), x1, .val (.int k), x3, x4, .own (T.ds (ps ++ [r.1])), .val (.int r.2), .val (.int (((if ps.length = 0 then b + 1 else b + 2 : Nat)) : Int)), .val r.1.d] := by
          rw [ds_snoc]
          unfold sApp
          simp only [List.getElem?_cons_succ, List.getElem?_cons_zero, ev_eVs, ev_eV0, ev_bindF_ok, List.set_cons_succ, List.set_cons_zero]
          rw [if_pos (by rw [ds_len, sz_eq]; omega)]
        have up : (Tg.all [8, 6]).put (.tup [r.1.d, .int r.2]) [.val (.str (Tx l)), x1, .val (.int k), x3, x4, .own (T.ds ps), .val (.int b), .val (.int (((if ps.length = 0 then b + 1 else b + 2 : Nat)) : Int)), x8] = some [.val (.str (Tx l)), x1, .val (.int k), x3, x4, .own (T.ds ps), .val (.int r.2), .val (.int (((if ps.length = 0 then b + 1 else b + 2 : Nat)) : Int)), .val r.1.d] := rfl
        simp only [ev_bindF_ok, up, ap]
        exact ih
    · rw [if_neg hc]
      have eT : ∀ δ : Dl.Env, eTup (aCons (eC (.str (Str.ofString "("))) (aCons (eC (.str (Str.ofString ","))) aNil)) δ = .ok (.tup [.str (Str.ofString "("), .str (Str.ofString ",")]) := fun δ => rfl
      refine ⟨x7, x8, ps, b, rfl, by omega, ?_⟩
      simp only [ev_tB1, ev_e2, ev_eSl, ev_oSome, ev_eVs, ev_eV0, ev_eC, ev_bind_ok, add_int, ev_ofO_some, sl, eT, io, decide_eq_false hc, ev_bindF_ok]
end K90

set_option Elab.async false
set_option linter.all false
set_option maxRecDepth 100000
set_option maxHeartbeats 1000000
namespace K90
open PySem Dl L2 PySem.StrLaws
def asRes : R (T × Nat) → R D
  | .ok r => .ok (.tup [r.1.d, .int r.2])
  | .exc c => .exc c
  | .bad => .bad
theorem tw_sl (l : List Nat) (a : Nat) : (l.drop a).take (a + ((l.drop a).takeWhile wc).length - a) = (l.drop a).takeWhile wc := by
  rw [show a + ((l.drop a).takeWhile wc).length - a = ((l.drop a).takeWhile wc).length by omega, tw_take]
theorem ok_tw {l : List Nat} (h : Ok1 l) (a : Nat) : Ok1 ((l.drop a).takeWhile wc) := fun c hc => h c (List.mem_of_mem_drop ((List.takeWhile_sublist _).mem hc))
theorem read_part {l : List Nat} (hl : l.length ≤ 100000) (ho : Ok1 l) : ∀ (n a k : Nat), rp n l a k ≠ .bad → m_read_part n [.str (Tx l), .int a, .int k] = asRes (rp n l a k)
  | 0, a, k, h => absurd rfl h
  | n + 1, a, k, h => by
    have hi : ∀ a b c, initE 9 [a, b, c] = [.val a, .val b, .val c, .no, .no, .no, .no, .no, .no] := fun _ _ _ => rfl
    show runF 9 (b_read_part (m_read_part n)) [.str (Tx l), .int a, .int k] = _
    have hz : l.length ≤ sizeLine := by rw [sz_eq]; omega
    have sl : ∀ b : Nat, slD (.str (Tx l)) (some (b : Int)) (some ((b : Int) + 1)) = some (.str (Tx ((l.drop b).take 1))) := fun b => by
      have := sl_S hz b (b + 1)
      rw [show b + 1 - b = 1 by omega] at this
      exact this
    unfold runF b_read_part
    rw [hi]
    unfold rp at h ⊢
    by_cases hk : 6 < k
    · have hk' : (6 : Int) < (k : Int) := by omega
      rw [if_pos hk]
      simp [hk', asRes]
    · have hk' : ¬ ((6 : Int) < (k : Int)) := by omega
      rw [if_neg hk] at h ⊢
      have ed := eq_S (ok_take ho a 1) (b := [45]) (ok_c (by omega))
      simp only [take1] at ed
      by_cases hd : l[a]? = some 45
      · rw [if_pos hd]
        simp [hk', sl, s_dash, ed, hd, asRes, T.d, s_skip, ev_eTup, sz_eq]
      · rw [if_neg hd] at h ⊢
        generalize hw : (l.drop a).takeWhile wc = w at h ⊢
        have w1 := while1 hl (.val (.int a)) (.val (.int k)) .no .no .no .no .no 1000000 a (by omega)
        rw [hw] at w1
        have sw : slD (.str (Tx l)) (some (a : Int)) (some ((a : Int) + (w.length : Int))) = some (.str (Tx w)) := by
          have := sl_S hz a (a + w.length)
          rw [← hw, tw_sl] at this
          rw [← hw]
          exact this
        have se : slD (.str (Tx l)) (some ((a : Int) + (w.length : Int))) (some ((a : Int) + (w.length : Int) + 1)) = some (.str (Tx ((l.drop (a + w.length)).take 1))) := sl (a + w.length)
        have ne := ne_S (ok_take ho (a + w.length) 1) (b := [40]) (ok_c (by omega))
        simp only [take1] at ne
        by_cases hp : l[a + w.length]? = some 40
        · rw [if_pos hp] at h ⊢
          have hs : ∀ s : Nat, (fun s => rp n l s (k + 1)) s ≠ .bad → m_read_part n [.str (Tx l), .int s, .int ((k : Int) + 1)] = match (fun s => rp n l s (k + 1)) s with | .ok r => .ok (.tup [r.1.d, .int r.2]) | .exc c => .exc c | .bad => .bad := fun s hb => by
            have ih := read_part hl ho n s (k + 1) hb
            rw [Int.natCast_add] at ih
            exact ih
          obtain ⟨y7, y8, w2⟩ := while2 (w := w) (self := m_read_part n) (f := fun s => rp n l s (k + 1)) (k := k) hl ho (.val (.int a)) (.val (.int ((a + w.length : Nat)))) (.val (.str (Tx w))) hs 1000000 [] (a + w.length) .no .no (by simp)
          cases hr : rpl (fun s => rp n l s (k + 1)) l w 1000000 [] (a + w.length) with
            | bad => rw [hr] at h; exact absurd rfl h
            | exc c =>
              rw [hr] at w2
              obtain ⟨δ, w2⟩ := w2
              have w2' := w2
              simp only [T.ds, Int.natCast_add] at w2'
              simp [hk', sl, s_dash, ed, hd, asRes, w1, sw, se, ne, hp, s_open, nLst, sz_eq]
              rw [s_open] at w2'
              simp [w2']
            | ok r =>
              rw [hr] at w2
              obtain ⟨qs, b', er, hq, w2⟩ := w2
              have w2' := w2
              simp only [T.ds, Int.natCast_add] at w2'
              simp [hk', sl, s_dash, ed, hd, asRes, w1, sw, se, ne, hp, s_open, nLst, sz_eq]
              rw [s_open] at w2'
              have fz : Dl.frz 5 [S.val (D.str (Tx l)), S.val (D.int ↑a), S.val (D.int ↑k), S.val (D.int (↑a + ↑w.length)), S.val (D.str (Tx w)), S.own (T.ds qs), S.val (D.int ↑b'), y7, y8] = [S.val (D.str (Tx l)), S.val (D.int ↑a), S.val (D.int ↑k), S.val (D.int (↑a + ↑w.length)), S.val (D.str (Tx w)), S.val (.lst (T.ds qs)), S.val (D.int ↑b'), y7, y8] := rfl
              have ad : addD (.tup [.str (Tx w)]) (.tup (T.ds qs)) = some (.tup (.str (Tx w) :: T.ds qs)) := by
                show (if [D.str (Tx w)].length + (T.ds qs).length ≤ sizeLine then _ else _) = _
                rw [if_pos (by rw [ds_len, sz_eq, List.length_singleton]; omega)]; rfl
              have td : tupleD [.lst (T.ds qs)] = some (.tup (T.ds qs)) := rfl
              subst er
              simp [w2', fz, ev_eTup, sz_eq, td, ad, T.d]
        · rw [if_neg hp]
          simp [hk', sl, s_dash, ed, hd, asRes, w1, sw, se, ne, hp, s_open, T.d, s_do, ev_eTup, sz_eq]
end K90

set_option Elab.async false
set_option linter.all false
set_option maxRecDepth 100000
set_option maxHeartbeats 1000000
namespace K90
open PySem Dl L2 PySem.StrLaws
theorem wfs_snoc : ∀ (ps : List T) (t : T), T.wfs ps → t.wf → T.wfs (ps ++ [t])
  | [], t, _, h => by rw [List.nil_append, T.wfs, T.wfs]; exact ⟨h, trivial⟩
  | p :: ps, t, h, h' => by
    rw [T.wfs] at h
    rw [List.cons_append, T.wfs]
    exact ⟨h.1, wfs_snoc ps t h.2 h'⟩
theorem cks_snoc : ∀ (ps : List T) (t : T) (j : Nat), T.cks (ps ++ [t]) j = (T.cks ps j && t.ck j)
  | [], t, j => by simp [T.cks]
  | p :: ps, t, j => by rw [List.cons_append, T.cks, T.cks, cks_snoc ps t j, Bool.and_assoc]
theorem nls_snoc : ∀ (ps : List T) (t : T), T.nls (ps ++ [t]) = T.nls ps + t.nl
  | [], t => by simp [T.nls]
  | p :: ps, t => by rw [List.cons_append, T.nls, T.nls, nls_snoc ps t]; omega
/-- where a run of f ends -/
def Fine (B s : Nat) (r : R (T × Nat)) : Prop := r = .exc "BadTree" ∨ ∃ t p, r = .ok (t, p) ∧ s ≤ p ∧ p ≤ B ∧ t.wf ∧ ∀ j, t.ck j = true → s + t.nl ≤ p
theorem rpl_ok {l w : List Nat} {f : Nat → R (T × Nat)} {B : Nat} (hf : ∀ s, s ≤ l.length + 1 → Fine B s (f s)) : ∀ (g : Nat) (ps : List T) (b : Nat), l.length - b < g → b ≤ B → T.wfs ps → ps.length ≤ b →
    rpl f l w g ps b = .exc "BadTree" ∨ ∃ qs b', rpl f l w g ps b = .ok (.node w qs, b' + 1) ∧ b ≤ b' ∧ b' ≤ B ∧ T.wfs qs ∧ qs.length ≤ b' ∧ (∀ j, T.cks qs j = true → T.cks ps j = true ∧ T.nls qs + b ≤ T.nls ps + b') ∧ (ps ≠ [] ∨ l[b]? = some 40 → qs ≠ [])
  | 0, ps, b, h, _, _, _ => by omega
  | g + 1, ps, b, h, hB, hw, hp => by
    unfold rpl
    by_cases hc : l[b]? = some 40 ∨ l[b]? = some 44
    · rw [if_pos hc]
      have hb : b < l.length := by
        by_cases z : b < l.length
        · exact z
        · rw [List.getElem?_eq_none (by omega)] at hc
          rcases hc with hc | hc <;> cases hc
      have hs : (if ps.length = 0 then b + 1 else b + 2) ≤ l.length + 1 := by split <;> omega
      have hs' : b + 1 ≤ (if ps.length = 0 then b + 1 else b + 2) := by split <;> omega
      rcases hf _ hs with e | ⟨t, p, e, h1, h2, h3, h4⟩
      · rw [e]; exact .inl rfl
      · rw [e]
        rcases rpl_ok (w := w) hf g (ps ++ [t]) p (by omega) h2 (wfs_snoc ps t hw h3) (by rw [List.length_append, List.length_singleton]; omega) with e2 | ⟨qs, b', e2, i1, i2, i3, i4, i5, i6⟩
        · exact .inl e2
        · refine .inr ⟨qs, b', e2, by omega, i2, i3, i4, fun j hj => ?_, fun _ => i6 (.inl (by simp))⟩
          obtain ⟨c1, c2⟩ := i5 j hj
          rw [cks_snoc, Bool.and_eq_true] at c1
          rw [nls_snoc] at c2
          have := h4 j c1.2
          exact ⟨c1.1, by omega⟩
    · rw [if_neg hc]
      refine .inr ⟨ps, b, rfl, Nat.le_refl _, hB, hw, hp, fun j hj => ⟨hj, Nat.le_refl _⟩, fun h => ?_⟩
      rcases h with h | h
      · exact h
      · exact absurd (.inl h) hc
theorem rp_ok {l : List Nat} (hl : l.length ≤ 100000) (ho : Ok1 l) : ∀ (n a k : Nat), 8 ≤ n + k → n ≤ 20 → k ≤ 7 → a ≤ l.length + 1 → Fine (l.length + 1 + n) a (rp n l a k)
  | 0, a, k, h, _, h', _ => by omega
  | n + 1, a, k, h, hn, h', ha => by
    unfold rp
    by_cases hk : 6 < k
    · rw [if_pos hk]; exact .inl rfl
    · rw [if_neg hk]
      by_cases hd : l[a]? = some 45
      · rw [if_pos hd]
        refine .inr ⟨_, _, rfl, by omega, by omega, by rw [T.wf]; trivial, fun j _ => by rw [T.nl]; omega⟩
      · rw [if_neg hd]
        generalize hw : (l.drop a).takeWhile wc = w
        have okw : Ok1 w := by rw [← hw]; exact ok_tw ho a
        have lw : w.length ≤ l.length - a := by
          rw [← hw]
          have := (List.takeWhile_sublist wc (l := l.drop a)).length_le
          rw [List.length_drop] at this
          exact this
        by_cases hp : l[a + w.length]? = some 40
        · rw [if_pos hp]
          rcases rpl_ok (w := w) (f := fun s => rp n l s (k + 1)) (B := l.length + 1 + n) (fun s hs => rp_ok hl ho n s (k + 1) (by omega) (by omega) (by omega) hs) 1000000 [] (a + w.length) (by omega) (by omega) (by rw [T.wfs]; trivial) (by simp) with e | ⟨qs, b', e, i1, i2, i3, i4, i5, i6⟩
          · rw [e]; exact .inl rfl
          · rw [e]
            refine .inr ⟨_, _, rfl, by omega, by omega, ?_, fun j hj => ?_⟩
            · rw [T.wf]
              exact ⟨⟨by omega, okw⟩, i6 (.inr hp), by omega, i3⟩
            · have := (i5 (j + 1) (ck_kind hj).2.2.2.1).2
              rw [T.nl]
              rw [T.nls] at this
              omega
        · rw [if_neg hp]
          refine .inr ⟨_, _, rfl, by omega, by omega, by rw [T.wf]; exact ⟨by omega, okw⟩, fun j hj => ?_⟩
          rw [T.nl]
          rw [T.ck, Bool.and_eq_true] at hj
          cases w with
          | nil => exact absurd hj.2 (by simp [isNm])
          | cons c r => simp
-- the signs of a tree's text
mutual
theorem ok_tx : ∀ t : T, t.wf → Ok1 t.tx
  | .skip, _ => by rw [T.tx]; exact ok_c (by omega)
  | .leaf w, h => by rw [T.wf] at h; rw [T.tx]; exact h.2
  | .node w ts, h => by
    rw [T.wf] at h
    have := ok_mr ts h.2.2.2
    rw [T.tx]
    intro c hc
    rcases List.mem_append.mp hc with hc | hc
    · exact h.1.2 c hc
    · rcases List.mem_cons.mp hc with rfl | hc
      · omega
      · rcases List.mem_append.mp hc with hc | hc
        · exact this c (List.mem_of_mem_drop hc)
        · rw [List.mem_singleton] at hc; omega
theorem ok_mr : ∀ ts : List T, T.wfs ts → Ok1 (T.mr ts)
  | [], _ => by rw [T.mr]; intro c hc; cases hc
  | t :: ts, h => by
    rw [T.wfs] at h
    have h1 := ok_tx t h.1
    have h2 := ok_mr ts h.2
    rw [T.mr]
    intro c hc
    rcases List.mem_cons.mp hc with rfl | hc
    · omega
    · rcases List.mem_cons.mp hc with rfl | hc
      · omega
      · rcases List.mem_append.mp hc with hc | hc
        · exact h1 c hc
        · exact h2 c hc
end
theorem read_tree {l : List Nat} (hl : l.length ≤ 100000) (ho : Ok1 l) : m_read_tree [.str (Tx l)] = match rp 9 l 0 0 with
    | .ok (t, p) => if t.ck 0 = true ∧ t.nl ≤ 24 ∧ p = l.length ∧ t.tx = l then .ok t.d else .exc "BadTree"
    | _ => .exc "BadTree" := by
  have hi : ∀ a, initE 3 [a] = [.val a, .no, .no] := fun _ => rfl
  unfold m_read_tree runF b_read_tree
  rw [hi]
  have fine := rp_ok hl ho 9 0 0 (by omega) (by omega) (by omega) (by omega)
  have rd := read_part hl ho 9 0 0 (by
    rcases fine with e | ⟨t, p, e, _⟩ <;> rw [e] <;> exact fun z => by cases z)
  have rd : m_read_part 9 [.str (Tx l), .int 0, .int 0] = asRes (rp 9 l 0 0) := rd
  have hz : l.length ≤ sizeLine := by rw [sz_eq]; omega
  rcases fine with e | ⟨t, p, e, h1, h2, h3, h4⟩
  · rw [e] at rd
    have rd : m_read_part 9 [.str (Tx l), .int 0, .int 0] = .exc "BadTree" := rd
    rw [e]
    simp [tyN, kit_str_str, rd]
  · rw [e] at rd
    have rd : m_read_part 9 [.str (Tx l), .int 0, .int 0] = .ok (.tup [t.d, .int p]) := rd
    rw [e]
    have up : (Tg.all [1, 2]).put (.tup [t.d, .int p]) [.val (.str (Tx l)), .no, .no] = some [.val (.str (Tx l)), .val t.d, .val (.int p)] := rfl
    have ct := check_tree h3 (fun hc => by have := h4 0 hc; omega)
    have hlen := len_S hz
    by_cases hc : t.ck 0 = true ∧ t.nl ≤ 24
    · rw [if_pos hc] at ct
      have hx := tx_len t 0 hc.1
      have tx := text 9 t 0 (by omega) h3 hc.1 (by omega)
      have ne := ne_S (ok_tx t h3) ho
      by_cases hp : p = l.length
      · subst hp
        have ne' : neD (.str (Tx l)) (.str (Tx l)) = some (.bl false) := by rw [ne_S ho ho]; simp
        by_cases hq : t.tx = l
        · simp [ne', tyN, kit_str_str, rd, up, ct, hlen, ne_int, tx, ne, hq, hc]
        · simp [tyN, kit_str_str, rd, up, ct, hlen, ne_int, tx, ne, hq, hc]
      · have hp' : ¬ ((p : Int) = (l.length : Int)) := by omega
        simp [tyN, kit_str_str, rd, up, ct, hlen, ne_int, hp', hp]
    · rw [if_neg hc] at ct
      have : ¬ (t.ck 0 = true ∧ t.nl ≤ 24 ∧ p = l.length ∧ t.tx = l) := fun z => hc ⟨z.1, z.2.1⟩
      simp [tyN, kit_str_str, rd, up, ct, this]
theorem law_read {l : List Nat} (hl : l.length ≤ 100000) (ho : Ok1 l) : m__law_read [.str (Tx l)] = match rp 9 l 0 0 with
    | .ok (t, p) => if t.ck 0 = true ∧ t.nl ≤ 24 ∧ p = l.length ∧ t.tx = l then .ok t.d else .ok .non
    | _ => .ok .non := by
  have hi : ∀ a, initE 1 [a] = [.val a] := fun _ => rfl
  unfold m__law_read runF b__law_read
  rw [hi]
  have rt := read_tree hl ho
  have sb : subL [("BadTree", true)] "BadTree" = some true := rfl
  have fine := rp_ok hl ho 9 0 0 (by omega) (by omega) (by omega) (by omega)
  unfold sTry
  rcases fine with e | ⟨t, p, e, _⟩
  · rw [e] at rt ⊢
    simp [rt, sb, noX]
  · rw [e] at rt ⊢
    by_cases h : t.ck 0 = true ∧ t.nl ≤ 24 ∧ p = l.length ∧ t.tx = l
    · have rt' : m_read_tree [.str (Tx l)] = .ok t.d := by rw [rt]; exact if_pos h
      simp [rt', h]
    · have rt' : m_read_tree [.str (Tx l)] = .exc "BadTree" := by rw [rt]; exact if_neg h
      simp [rt', sb, noX, h]
/-! ### what is written is read -/
def End (r : List Nat) : Prop := r = [] ∨ ∃ c s, r = c :: s ∧ wc c = false ∧ c ≠ 40
theorem tw_end {w r : List Nat} (hw : ∀ c ∈ w, wc c = true) (hr : r = [] ∨ ∃ c s, r = c :: s ∧ wc c = false) : (w ++ r).takeWhile wc = w := by
  induction w with
  | nil =>
    rcases hr with rfl | ⟨c, s, rfl, h⟩
    · rfl
    · simp [h]
  | cons c w ih =>
    rw [List.cons_append, List.takeWhile_cons, hw c List.mem_cons_self, if_pos rfl, ih fun d hd => hw d (List.mem_cons_of_mem _ hd)]
theorem End.w {r : List Nat} (h : End r) : r = [] ∨ ∃ c s, r = c :: s ∧ wc c = false := by
  rcases h with h | ⟨c, s, h1, h2, _⟩
  · exact .inl h
  · exact .inr ⟨c, s, h1, h2⟩
theorem End.not40 {r : List Nat} (h : End r) : r.head? ≠ some 40 := by
  rcases h with rfl | ⟨c, s, rfl, _, h⟩
  · simp
  · simpa using h
theorem mr_ge : ∀ ts : List T, 2 * ts.length ≤ (T.mr ts).length
  | [] => by simp
  | t :: ts => by
    have := mr_ge ts
    rw [T.mr]
    simp only [List.length_cons, List.length_append]
    omega
theorem end_mr (ts : List T) {r : List Nat} (h : End r) : End (T.mr ts ++ r) := by
  cases ts with
  | nil => rw [T.mr]; exact h
  | cons t ts => rw [T.mr]; exact .inr ⟨44, _, rfl, by decide, by decide⟩
theorem get_drop {l r : List Nat} {a : Nat} (h : l.drop a = r) : l[a]? = r.head? := by
  rw [← h, List.head?_drop]
theorem sgs_wc {c : Nat} (h : c ∈ sgs) : wc c = true := by
  have : ∀ c ∈ sgs, wc c = true := by decide
  exact this c h
theorem lets_no {c : Nat} (h : c ∈ lets) : c ≠ 45 := by
  have : ∀ c ∈ lets, c ≠ 45 := by decide
  exact this c h
theorem nm_facts {w : List Nat} (h : isNm w = true) : (∀ c ∈ w, wc c = true) ∧ ∃ c s, w = c :: s ∧ c ≠ 45 := by
  cases w with
  | nil => simp [isNm] at h
  | cons c s =>
    unfold isNm at h
    simp only [Bool.and_eq_true, decide_eq_true_eq, List.all_eq_true] at h
    exact ⟨fun d hd => sgs_wc (h.2 d hd), c, s, rfl, lets_no h.1.2⟩
theorem kd_facts {w : List Nat} (h : w ∈ kinds ∨ w = wLoop) : (∀ c ∈ w, wc c = true) ∧ ∃ c s, w = c :: s ∧ c ≠ 45 := by
  have : ∀ w ∈ [wSeq, wXor, wAnd, wLoop], (∀ c ∈ w, wc c = true) ∧ w.head? ≠ some 45 ∧ w ≠ [] := by decide
  have h' : w ∈ [wSeq, wXor, wAnd, wLoop] := by
    unfold kinds at h
    simp only [List.mem_cons, List.not_mem_nil, or_false] at h ⊢
    rcases h with (h | h | h) | h
    · exact .inl h
    · exact .inr (.inl h)
    · exact .inr (.inr (.inl h))
    · exact .inr (.inr (.inr h))
  obtain ⟨h1, h2, h3⟩ := this w h'
  refine ⟨h1, ?_⟩
  cases w with
  | nil => exact absurd rfl h3
  | cons c s => exact ⟨c, s, rfl, fun z => h2 (by rw [z]; rfl)⟩
mutual
theorem back : ∀ (t : T) (n a k : Nat) (l r : List Nat), l.length ≤ 100000 → 8 ≤ n + k → t.ck k = true → l.drop a = t.tx ++ r → End r → rp n l a k = .ok (t, a + t.tx.length)
  | .skip, n, a, k, l, r, hl, h, hc, hd, hr => by
    have hk := ck_le hc
    cases n with
    | zero => omega
    | succ n =>
      rw [T.tx] at hd
      unfold rp
      rw [if_neg (by omega), if_pos (by rw [get_drop hd]; rfl), T.tx]
      rfl
  | .leaf w, n, a, k, l, r, hl, h, hc, hd, hr => by
    have hk := ck_le hc
    cases n with
    | zero => omega
    | succ n =>
      rw [T.ck, Bool.and_eq_true] at hc
      obtain ⟨h1, c, s, h2, h3⟩ := nm_facts hc.2
      rw [T.tx] at hd
      have tw : (l.drop a).takeWhile wc = w := by rw [hd]; exact tw_end h1 hr.w
      unfold rp
      rw [if_neg (by omega), if_neg (by rw [get_drop hd, h2]; simpa using h3), tw, T.tx]
      have he : l.drop (a + w.length) = r := by rw [← List.drop_drop, hd, List.drop_left]
      rw [if_neg (by rw [get_drop he]; exact hr.not40)]
  | .node w ts, n, a, k, l, r, hl, h, hc, hd, hr => by
    obtain ⟨hk, c2, c3, c4, c5, c6, c7⟩ := ck_kind hc
    cases n with
    | zero => omega
    | succ n =>
      obtain ⟨h1, c, s, h2, h3⟩ := kd_facts c7
      rw [T.tx] at hd
      have hd' : l.drop a = w ++ (40 :: ((T.mr ts).drop 2 ++ [41] ++ r)) := by rw [hd]; simp
      have tw : (l.drop a).takeWhile wc = w := by rw [hd']; exact tw_end h1 (.inr ⟨40, _, rfl, by decide⟩)
      unfold rp
      rw [if_neg (by omega), if_neg (by rw [get_drop hd', h2]; simpa using h3), tw]
      have hb : l.drop (a + w.length) = 40 :: ((T.mr ts).drop 2 ++ [41] ++ r) := by rw [← List.drop_drop, hd', List.drop_left]
      rw [if_pos (by rw [get_drop hb]; rfl)]
      match ts, c4, c6, hb with
      | [], c4, c6, hb => simp at c6
      | t :: us, c4, c6, hb =>
        rw [T.cks, Bool.and_eq_true] at c4
        rw [T.mr] at hb
        have e1 : (44 :: 32 :: (t.tx ++ T.mr us)).drop 2 = t.tx ++ T.mr us := rfl
        rw [e1] at hb
        have hb1 : l.drop (a + w.length + 1) = t.tx ++ (T.mr us ++ (41 :: r)) := by
          rw [← List.drop_drop, hb]; simp
        have en : End (41 :: r) := .inr ⟨41, r, rfl, by decide, by decide⟩
        have b1 := back t n (a + w.length + 1) (k + 1) l _ hl (by omega) c4.1 hb1 (end_mr us en)
        have hb2 : l.drop (a + w.length + 1 + t.tx.length) = T.mr us ++ (41 :: r) := by rw [← List.drop_drop, hb1, List.drop_left]
        have hu : us.length + 2 ≤ 999999 := by
          have := mr_ge us
          have h5 := congrArg List.length hb2
          simp only [List.length_drop, List.length_append] at h5
          omega
        have b2 := back_more us n (k + 1) l (41 :: r) hl (by omega) c4.2 w 999999 [t] (a + w.length + 1 + t.tx.length) hu (by simp) hb2 en ⟨41, r, rfl, by decide, by decide⟩
        show rpl (fun s => rp n l s (k + 1)) l w (999999 + 1) [] (a + w.length) = _
        unfold rpl
        rw [if_pos (.inl (by rw [get_drop hb]; rfl))]
        simp only [List.length_nil, if_true, b1, List.nil_append]
        rw [b2, T.tx, T.mr]
        simp only [List.length_append, List.length_cons, List.drop_succ_cons, List.drop_zero, List.length_nil, List.singleton_append]
        congr 2
        omega
theorem back_more : ∀ (ts : List T) (n k : Nat) (l r : List Nat), l.length ≤ 100000 → 8 ≤ n + k → T.cks ts k = true → ∀ (w : List Nat) (g : Nat) (ps : List T) (b : Nat), ts.length + 2 ≤ g → ps.length ≠ 0 → l.drop b = T.mr ts ++ r → End r → (∃ c s, r = c :: s ∧ c ≠ 40 ∧ c ≠ 44) →
    rpl (fun s => rp n l s k) l w g ps b = .ok (.node w (ps ++ ts), b + (T.mr ts).length + 1)
  | [], n, k, l, r, hl, h, hc, w, g, ps, b, hg, hp, hd, hr, ⟨c, s, e, n1, n2⟩ => by
    cases g with
    | zero => omega
    | succ g =>
      rw [T.mr] at hd ⊢
      unfold rpl
      rw [if_neg (by rw [get_drop hd, e]; simp [n1, n2]), List.append_nil]
      rfl
  | t :: us, n, k, l, r, hl, h, hc, w, g, ps, b, hg, hp, hd, hr, hx => by
    cases g with
    | zero => omega
    | succ g =>
      rw [T.cks, Bool.and_eq_true] at hc
      rw [T.mr] at hd
      have hd1 : l.drop (b + 2) = t.tx ++ (T.mr us ++ r) := by rw [← List.drop_drop, hd]; simp
      have b1 := back t n (b + 2) k l _ hl h hc.1 hd1 (end_mr us hr)
      have hd2 : l.drop (b + 2 + t.tx.length) = T.mr us ++ r := by rw [← List.drop_drop, hd1, List.drop_left]
      have b2 := back_more us n k l r hl h hc.2 w g (ps ++ [t]) (b + 2 + t.tx.length) (by simp only [List.length_cons] at hg; omega) (by simp) hd2 hr hx
      unfold rpl
      rw [if_pos (.inr (by rw [get_drop hd]; rfl)), if_neg hp]
      simp only [b1]
      rw [b2, T.mr]
      simp only [List.append_assoc, List.singleton_append, List.length_cons, List.length_append]
      congr 2
      omega
end
end K90

set_option Elab.async false
set_option linter.all false
set_option maxRecDepth 100000
set_option maxHeartbeats 1000000
namespace K90
open PySem Dl L2 PySem.StrLaws
theorem draws_eq : m__law_draws = runF 6 bDraws := rfl
theorem cell_eq : m__law_cell = runF 2 bCell := rfl
/-- a drawn tree: h at most so deep -/
def abc : List (List Nat) := [[97], [98], [99]]
mutual
def T.dr : T → Nat → Prop
  | .skip, _ => True
  | .leaf w, _ => w ∈ abc
  | .node w ts, h => 0 < h ∧ ((w ∈ kinds ∧ 2 ≤ ts.length ∧ ts.length ≤ 3) ∨ (w = wLoop ∧ ts.length = 2)) ∧ T.drs ts (h - 1)
def T.drs : List T → Nat → Prop
  | [], _ => True
  | t :: ts, h => T.dr t h ∧ T.drs ts h
end
/-- leaves at most, by the depth -/
def lim : Nat → Nat
  | 0 => 18
  | 1 => 6
  | 2 => 2
  | _ => 1
def Drawn (k : Nat) (r : R D) : Prop := ∃ t : T, r = .ok t.d ∧ t.dr (3 - k) ∧ t.nl ≤ lim k
theorem s_abc : Str.ofString "abc" = Tx [97, 98, 99] := by rfl
theorem mod_c (a : Nat) (b : Nat) (h : 0 < b) : modD (.int (a : Int)) (.int (b : Int)) = some (.int ((a % b : Nat) : Int)) := mod_nat a b h
theorem tup3 (a b c : D) : ∀ i : Nat, i < 3 → ∃ d, ixD (.tup [a, b, c]) (.int (i : Int)) = some d ∧ (d = a ∨ d = b ∨ d = c)
  | 0, _ => ⟨a, by rw [Dl.ix_tup]; rfl, .inl rfl⟩
  | 1, _ => ⟨b, by rw [Dl.ix_tup]; rfl, .inr (.inl rfl)⟩
  | 2, _ => ⟨c, by rw [Dl.ix_tup]; rfl, .inr (.inr rfl)⟩
  | n + 3, h => by omega
theorem kind3 (i : Nat) (h : i < 3) : ∃ w, w ∈ kinds ∧ ixD (.tup [.str (Tx wSeq), .str (Tx wXor), .str (Tx wAnd)]) (.int (i : Int)) = some (.str (Tx w)) := by
  obtain ⟨d, h1, h2⟩ := tup3 (.str (Tx wSeq)) (.str (Tx wXor)) (.str (Tx wAnd)) i h
  rcases h2 with rfl | rfl | rfl
  · exact ⟨wSeq, by decide, h1⟩
  · exact ⟨wXor, by decide, h1⟩
  · exact ⟨wAnd, by decide, h1⟩
theorem abc3 (i : Nat) (h : i < 3) : ∃ w, w ∈ abc ∧ ixD (.str (Tx [97, 98, 99])) (.int (i : Int)) = some (.str (Tx w)) := by
  have hz : [97, 98, 99].length ≤ sizeLine := by rw [sz_eq]; decide
  rw [ix_S hz]
  match i, h with
  | 0, _ => exact ⟨[97], by decide, rfl⟩
  | 1, _ => exact ⟨[98], by decide, rfl⟩
  | 2, _ => exact ⟨[99], by decide, rfl⟩
theorem law_tree {L : List Nat} (hL : 0 < L.length) : ∀ (n a k : Nat), 4 ≤ n + k → k ≤ 3 → Drawn k (m__law_tree n [.lst (ntl L), .int a, .int k])
  | 0, a, k, h, hk => by omega
  | n + 1, a, k, h, hk => by
    have hi : ∀ a b c, initE 7 [a, b, c] = [.val a, .val b, .val c, .no, .no, .no, .no] := fun _ _ _ => rfl
    show Drawn k (runF 7 (b__law_tree (m__law_tree n)) [.lst (ntl L), .int a, .int k])
    rw [runF, hi, b__law_tree]
    have len : lenD [.lst (ntl L)] = some (.int (L.length : Int)) := by rw [len_lst, ntl_len]
    have ixm : ∀ i : Nat, ixD (.lst (ntl L)) (.int ((i % L.length : Nat) : Int)) = some (.int ((gt L i : Nat) : Int)) := ntl_at hL
    have m0 := mod_nat a L.length hL
    have m1 : modD (.int ((a : Int) + 1)) (.int (L.length : Int)) = _ := mod_nat (a + 1) L.length hL
    have m2 : modD (.int ((a : Int) + 2)) (.int (L.length : Int)) = _ := mod_nat (a + 2) L.length hL
    have i0 := ixm a
    have i1 := ixm (a + 1)
    have i2 := ixm (a + 2)
    generalize gt L a = g0 at i0
    generalize gt L (a + 1) = g1 at i1
    generalize gt L (a + 2) = g2 at i2
    have q9 : modD (.int (g0 : Int)) (.int 9) = some (.int ((g0 % 9 : Nat) : Int)) := mod_nat g0 9 (by decide)
    have q3 : modD (.int (g0 : Int)) (.int 3) = some (.int ((g0 % 3 : Nat) : Int)) := mod_nat g0 3 (by decide)
    have q6 : modD (.int (g1 : Int)) (.int 6) = some (.int ((g1 % 6 : Nat) : Int)) := mod_nat g1 6 (by decide)
    have q13 : modD (.int (g1 : Int)) (.int 3) = some (.int ((g1 % 3 : Nat) : Int)) := mod_nat g1 3 (by decide)
    have q4 : modD (.int (g2 : Int)) (.int 4) = some (.int ((g2 % 4 : Nat) : Int)) := mod_nat g2 4 (by decide)
    -- the kind
    obtain ⟨kd, hkd, hkl⟩ : ∃ kd : Nat, (∀ δ3 δ4 δ5 δ6 : S, eIf (tB1 (e2 ltD (eV 2) (eC (.int 3)))) (eC (.int 9)) (eC (.int 3)) [.val (.lst (ntl L)), .val (.int a), .val (.int k), δ3, δ4, δ5, δ6] = .ok (.int (if k < 3 then 9 else 3))) ∧ modD (.int (g0 : Int)) (.int (if k < 3 then 9 else 3)) = some (.int (kd : Int)) ∧ (k = 3 → kd < 3) := by
      by_cases z : k < 3
      · have z' : (k : Int) < 3 := by omega
        exact ⟨g0 % 9, fun _ _ _ _ => by simp [z, z'], by simp only [if_pos z]; exact q9, by omega⟩
      · have z' : ¬ ((k : Int) < 3) := by omega
        exact ⟨g0 % 3, fun _ _ _ _ => by simp [z, z'], by simp only [if_neg z]; exact q3, fun _ => Nat.mod_lt _ (by decide)⟩
    obtain ⟨hkd2, hkl⟩ := hkl
    by_cases h3 : kd < 3
    · have h3' : (kd : Int) < 3 := by omega
      by_cases h6 : g1 % 6 = 0
      · have h6' : ((g1 % 6 : Nat) : Int) = 0 := by omega
        refine ⟨.skip, ?_, by rw [T.dr]; trivial, by rw [T.nl]; unfold lim; split <;> omega⟩
        simp only [ev_sSeq, ev_sSet, ev_e2, ev_eV0, ev_eVs, ev_eB, ev_aCons, ev_aNil, ev_bind_ok, len, ev_ofO_some, m0, i0, hkd, hkd2, ev_bindF_ok, List.set_cons_succ, List.set_cons_zero, ev_sIf, ev_tB1, ev_eC, lt_int, decide_eq_true h3', ev_sRet, ev_eIf, add_int, m1, i1, q6, eq_int, decide_eq_true h6', ev_eTup]
        rfl
      · have h6' : ¬ (((g1 % 6 : Nat) : Int) = 0) := by omega
        obtain ⟨w, hw, hx⟩ := abc3 (g1 % 3) (Nat.mod_lt _ (by decide))
        refine ⟨.leaf w, ?_, by rw [T.dr]; exact hw, by rw [T.nl]; unfold lim; split <;> omega⟩
        simp only [ev_sSeq, ev_sSet, ev_e2, ev_eV0, ev_eVs, ev_eB, ev_aCons, ev_aNil, ev_bind_ok, len, ev_ofO_some, m0, i0, hkd, hkd2, ev_bindF_ok, List.set_cons_succ, List.set_cons_zero, ev_sIf, ev_tB1, ev_eC, lt_int, decide_eq_true h3', ev_sRet, ev_eIf, add_int, m1, i1, q6, eq_int, decide_eq_false h6', ev_eTup, q13, s_abc, hx]
        rfl
    · have h3' : ¬ ((kd : Int) < 3) := by omega
      have hk3 : k < 3 := by
        by_cases z : k = 3
        · exact absurd (hkl z) h3
        · omega
      obtain ⟨t1, e1, d1, n1⟩ := law_tree hL n (a + 3) (k + 1) (by omega) (by omega)
      obtain ⟨t2, e2', d2, n2⟩ := law_tree hL n (a + 8) (k + 1) (by omega) (by omega)
      obtain ⟨t3, e3, d3, n3⟩ := law_tree hL n (a + 14) (k + 1) (by omega) (by omega)
      have e1 : m__law_tree n [.lst (ntl L), .int ((a : Int) + 3), .int ((k : Int) + 1)] = .ok t1.d := e1
      have e2' : m__law_tree n [.lst (ntl L), .int ((a : Int) + 8), .int ((k : Int) + 1)] = .ok t2.d := e2'
      have e3 : m__law_tree n [.lst (ntl L), .int ((a : Int) + 14), .int ((k : Int) + 1)] = .ok t3.d := e3
      have hd : 3 - (k + 1) = 3 - k - 1 := by omega
      rw [hd] at d1 d2 d3
      have sz2 : ∀ x y z : D, (if [x, y, z].length ≤ sizeLine then some (D.tup [x, y, z]) else none) = some (.tup [x, y, z]) := fun _ _ _ => if_pos (by rw [sz_eq]; simp)
      have sz3 : ∀ x y z u : D, (if [x, y, z, u].length ≤ sizeLine then some (D.tup [x, y, z, u]) else none) = some (.tup [x, y, z, u]) := fun _ _ _ _ => if_pos (by rw [sz_eq]; simp)
      have lims : lim (k + 1) * 2 ≤ lim k ∧ (k < 2 → lim (k + 1) * 3 ≤ lim k) := by
        match k, hk3 with
        | 0, _ => decide
        | 1, _ => decide
        | 2, _ => decide
      by_cases h7 : 6 < kd ∧ k < 2
      · have h7a : (6 : Int) < (kd : Int) := by omega
        have h7b : (k : Int) < 2 := by omega
        refine ⟨.node wLoop [t1, t2], ?_, ?_, ?_⟩
        · simp only [ev_sSeq, ev_sSet, ev_e2, ev_eV0, ev_eVs, ev_eB, ev_aCons, ev_aNil, ev_bind_ok, len, ev_ofO_some, m0, i0, hkd, hkd2, ev_bindF_ok, List.set_cons_succ, List.set_cons_zero, ev_sIf, ev_tB1, ev_eC, lt_int, decide_eq_false h3', ev_sRet, add_int, ev_sNext, ev_eCall, e1, e2', ev_tAnd, gt_int, decide_eq_true h7a, decide_eq_true h7b, ev_eTup, s_loop, sz2]
          rw [T.d, T.ds, T.ds, T.ds]
        · rw [T.dr]; exact ⟨by omega, .inr ⟨rfl, rfl⟩, by rw [T.drs, T.drs, T.drs]; exact ⟨d1, d2, trivial⟩⟩
        · rw [T.nl, T.nls, T.nls, T.nls]; omega
      · have tst : (tAnd' (tB1 (e2 gtD (eV 3) (eC (.int 6)))) (tB1 (e2 ltD (eV 2) (eC (.int 2))))) [.val (.lst (ntl L)), .val (.int a), .val (.int k), .val (.int kd), .val t1.d, .val t2.d, .no] = .ok false := by
          by_cases z : 6 < kd
          · have z1 : (6 : Int) < (kd : Int) := by omega
            have z2 : ¬ ((k : Int) < 2) := by omega
            simp [z1, z2]
          · have z1 : ¬ ((6 : Int) < (kd : Int)) := by omega
            simp [z1]
        obtain ⟨w, hw, hx⟩ := kind3 (kd % 3) (Nat.mod_lt _ (by decide))
        have q33 : modD (.int (kd : Int)) (.int 3) = some (.int ((kd % 3 : Nat) : Int)) := mod_nat kd 3 (by decide)
        by_cases h8 : g2 % 4 = 0 ∧ k < 2
        · have h8a : ((g2 % 4 : Nat) : Int) = 0 := by omega
          have h8b : (k : Int) < 2 := by omega
          refine ⟨.node w [t1, t2, t3], ?_, ?_, ?_⟩
          · simp only [ev_sSeq, ev_sSet, ev_e2, ev_eV0, ev_eVs, ev_eB, ev_aCons, ev_aNil, ev_bind_ok, len, ev_ofO_some, m0, i0, hkd, hkd2, ev_bindF_ok, List.set_cons_succ, List.set_cons_zero, ev_sIf, ev_tB1, ev_eC, lt_int, decide_eq_false h3', ev_sRet, add_int, ev_sNext, ev_eCall, e1, e2', tst]
            simp only [ev_sSeq, ev_sSet, ev_e2, ev_eV0, ev_eVs, ev_eB, ev_aCons, ev_aNil, ev_bind_ok, len, ev_ofO_some, ev_bindF_ok, List.set_cons_succ, List.set_cons_zero, ev_sIf, ev_tB1, ev_eC, lt_int, ev_sRet, add_int, ev_sNext, ev_eCall, e3, ev_tAnd, ev_eTup, sz2, sz3, s_seq, s_xor, s_and, q33, hx, m2, i2, q4, eq_int, decide_eq_true h8a, decide_eq_true h8b]
            rw [T.d, T.ds, T.ds, T.ds, T.ds]
          · rw [T.dr]; exact ⟨by omega, .inl ⟨hw, by simp, by simp⟩, by rw [T.drs, T.drs, T.drs, T.drs]; exact ⟨d1, d2, d3, trivial⟩⟩
          · have := lims.2 h8.2
            rw [T.nl, T.nls, T.nls, T.nls, T.nls]; omega
        · have tst2 : (tAnd' (tB1 (e2 eqD (e2 modD (e2 ixD (eV 0) (e2 modD (e2 addD (eV 1) (eC (.int 2))) (eB lenD (aCons (eV 0) aNil)))) (eC (.int 4))) (eC (.int 0)))) (tB1 (e2 ltD (eV 2) (eC (.int 2))))) [.val (.lst (ntl L)), .val (.int a), .val (.int k), .val (.int kd), .val t1.d, .val t2.d, .val (.str (Tx w))] = .ok false := by
            by_cases z : g2 % 4 = 0
            · have z1 : ((g2 % 4 : Nat) : Int) = 0 := by omega
              have z2 : ¬ ((k : Int) < 2) := by omega
              simp only [ev_tAnd, ev_tB1, ev_e2, ev_eV0, ev_eVs, ev_eB, ev_aCons, ev_aNil, ev_eC, ev_bind_ok, add_int, ev_ofO_some, len, m2, i2, q4, eq_int, decide_eq_true z1, lt_int, decide_eq_false z2]
            · have z1 : ¬ (((g2 % 4 : Nat) : Int) = 0) := by omega
              simp only [ev_tAnd, ev_tB1, ev_e2, ev_eV0, ev_eVs, ev_eB, ev_aCons, ev_aNil, ev_eC, ev_bind_ok, add_int, ev_ofO_some, len, m2, i2, q4, eq_int, decide_eq_false z1]
          refine ⟨.node w [t1, t2], ?_, ?_, ?_⟩
          · simp only [ev_sSeq, ev_sSet, ev_e2, ev_eV0, ev_eVs, ev_eB, ev_aCons, ev_aNil, ev_bind_ok, len, ev_ofO_some, m0, i0, hkd, hkd2, ev_bindF_ok, List.set_cons_succ, List.set_cons_zero, ev_sIf, ev_tB1, ev_eC, lt_int, decide_eq_false h3', ev_sRet, add_int, ev_sNext, ev_eCall, e1, e2', tst]
            simp only [ev_sSet, ev_e2, ev_eV0, ev_eVs, ev_bind_ok, ev_ofO_some, ev_bindF_ok, List.set_cons_succ, List.set_cons_zero, ev_eC, ev_aCons, ev_aNil, ev_eTup, sz2, s_seq, s_xor, s_and, q33, hx, tst2, ev_sIf, ev_sNext, ev_sRet]
            rw [T.d, T.ds, T.ds, T.ds]
          · rw [T.dr]; exact ⟨by omega, .inl ⟨hw, by simp, by simp⟩, by rw [T.drs, T.drs, T.drs]; exact ⟨d1, d2, trivial⟩⟩
          · rw [T.nl, T.nls, T.nls, T.nls]; omega
end K90

set_option Elab.async false
set_option linter.all false
set_option maxRecDepth 100000
set_option maxHeartbeats 1000000
namespace K90
open PySem Dl L2 PySem.StrLaws
theorem abc_facts {w : List Nat} (h : w ∈ abc) : isNm w = true ∧ w.length = 1 ∧ Ok1 w := by
  unfold abc at h
  simp only [List.mem_cons, List.not_mem_nil, or_false] at h
  rcases h with rfl | rfl | rfl
  · exact ⟨by decide, rfl, by unfold Ok1; decide⟩
  · exact ⟨by decide, rfl, by unfold Ok1; decide⟩
  · exact ⟨by decide, rfl, by unfold Ok1; decide⟩
theorem kinds_ok {w : List Nat} (h : w ∈ kinds ∨ w = wLoop) : w.length ≤ 4 ∧ Ok1 w := by
  unfold kinds at h
  simp only [List.mem_cons, List.not_mem_nil, or_false] at h
  rcases h with (rfl | rfl | rfl) | rfl
  · exact ⟨by decide, ok_seq⟩
  · exact ⟨by decide, ok_xor⟩
  · exact ⟨by decide, ok_and⟩
  · exact ⟨by decide, ok_loop⟩
mutual
theorem dr_ck : ∀ (t : T) (h k : Nat), t.dr h → h + k ≤ 6 → t.ck k = true
  | .skip, h, k, _, hk => by rw [T.ck, decide_eq_true_eq]; omega
  | .leaf w, h, k, hd, hk => by
    rw [T.dr] at hd
    rw [T.ck, Bool.and_eq_true, decide_eq_true_eq]
    exact ⟨by omega, (abc_facts hd).1⟩
  | .node w ts, h, k, hd, hk => by
    rw [T.dr] at hd
    obtain ⟨h0, hw, hs⟩ := hd
    have := drs_cks ts (h - 1) (k + 1) hs (by omega)
    rw [T.ck, Bool.and_eq_true, Bool.and_eq_true, decide_eq_true_eq, Bool.or_eq_true, Bool.and_eq_true, Bool.and_eq_true]
    refine ⟨by omega, ?_, this⟩
    rcases hw with ⟨h1, h2, _⟩ | ⟨h1, h2⟩
    · exact .inl ⟨decide_eq_true h1, decide_eq_true h2⟩
    · exact .inr ⟨decide_eq_true h1, decide_eq_true h2⟩
theorem drs_cks : ∀ (ts : List T) (h k : Nat), T.drs ts h → h + k ≤ 6 → T.cks ts k = true
  | [], _, _, _, _ => by rw [T.cks]
  | t :: ts, h, k, hd, hk => by
    rw [T.drs] at hd
    rw [T.cks, dr_ck t h k hd.1 hk, drs_cks ts h k hd.2 hk]; rfl
end
mutual
theorem dr_wf : ∀ (t : T) (h : Nat), t.dr h → t.wf
  | .skip, h, _ => by rw [T.wf]; trivial
  | .leaf w, h, hd => by
    rw [T.dr] at hd
    have := abc_facts hd
    rw [T.wf]; exact ⟨by omega, this.2.2⟩
  | .node w ts, h, hd => by
    rw [T.dr] at hd
    obtain ⟨h0, hw, hs⟩ := hd
    have hk := kinds_ok (w := w) (by rcases hw with ⟨h1, _⟩ | ⟨h1, _⟩; exact .inl h1; exact .inr h1)
    have hl : 2 ≤ ts.length ∧ ts.length ≤ 3 := by rcases hw with ⟨_, h1, h2⟩ | ⟨_, h1⟩ <;> omega
    rw [T.wf]
    exact ⟨⟨by omega, hk.2⟩, fun z => by rw [z] at hl; simp at hl, by omega, drs_wf ts (h - 1) hs⟩
theorem drs_wf : ∀ (ts : List T) (h : Nat), T.drs ts h → T.wfs ts
  | [], _, _ => by rw [T.wfs]; trivial
  | t :: ts, h, hd => by
    rw [T.drs] at hd
    rw [T.wfs]; exact ⟨dr_wf t h hd.1, drs_wf ts h hd.2⟩
end
/-! ### and for xor -/
def mw1 (w : List Nat) : List Nat := if w = wAnd then wXor else w
mutual
def T.mw : T → T
  | .skip => .skip
  | .leaf w => .leaf w
  | .node w ts => .node (mw1 w) (T.mws ts)
def T.mws : List T → List T
  | [] => []
  | t :: ts => T.mw t :: T.mws ts
end
theorem mws_len : ∀ ts : List T, (T.mws ts).length = ts.length
  | [] => by rw [T.mws]
  | t :: ts => by rw [T.mws, List.length_cons, List.length_cons, mws_len ts]
mutual
theorem mw_dr : ∀ (t : T) (h : Nat), t.dr h → t.mw.dr h
  | .skip, h, hd => by rw [T.mw]; exact hd
  | .leaf w, h, hd => by rw [T.mw]; exact hd
  | .node w ts, h, hd => by
    rw [T.dr] at hd
    obtain ⟨h0, hw, hs⟩ := hd
    rw [T.mw, T.dr]
    refine ⟨h0, ?_, mws_dr ts (h - 1) hs⟩
    rw [mws_len]
    rcases hw with ⟨h1, h2⟩ | ⟨h1, h2⟩
    · refine .inl ⟨?_, h2⟩
      unfold mw1
      split
      · decide
      · exact h1
    · refine .inr ⟨?_, h2⟩
      rw [h1]; decide
theorem mws_dr : ∀ (ts : List T) (h : Nat), T.drs ts h → T.drs (T.mws ts) h
  | [], _, hd => by rw [T.mws]; exact hd
  | t :: ts, h, hd => by
    rw [T.drs] at hd
    rw [T.mws, T.drs]; exact ⟨mw_dr t h hd.1, mws_dr ts h hd.2⟩
end
mutual
theorem mw_nl : ∀ t : T, t.mw.nl = t.nl
  | .skip => by rw [T.mw]
  | .leaf w => by rw [T.mw]
  | .node w ts => by rw [T.mw, T.nl, T.nl, mws_nl]
theorem mws_nl : ∀ ts : List T, T.nls (T.mws ts) = T.nls ts
  | [] => by rw [T.mws]
  | t :: ts => by rw [T.mws, T.nls, T.nls, mw_nl, mws_nl]
end
abbrev rep : List Nat → List Nat := replL wAnd wXor
theorem rep_miss {c : Nat} (r : List Nat) (h : c ≠ 97) : rep (c :: r) = c :: rep r := by
  refine replL_miss fun z => ?_
  have : (c :: r).take 3 = wAnd := z
  rw [List.take_succ_cons] at this
  unfold wAnd at this
  injection this with h1 h2
  exact h h1
theorem rep_97 (r : List Nat) (h : r.head? ≠ some 110) : rep (97 :: r) = 97 :: rep r := by
  refine replL_miss fun z => ?_
  have z : (97 :: r).take 3 = wAnd := z
  cases r with
  | nil => revert z; decide
  | cons d r =>
    rw [List.take_succ_cons, List.take_succ_cons] at z
    unfold wAnd at z
    injection z with h1 h2
    injection h2 with h3 h4
    exact h (by rw [h3]; rfl)
theorem rep_and (r : List Nat) : rep (97 :: 110 :: 100 :: r) = 120 :: 111 :: 114 :: rep r := by
  have := replL_hit (y := wAnd) (z := wXor) (c := 97) (r := 110 :: 100 :: r) (by decide) rfl
  exact this
theorem rep_kind {w : List Nat} (h : w ∈ kinds ∨ w = wLoop) (r : List Nat) : rep (w ++ 40 :: r) = mw1 w ++ 40 :: rep r := by
  unfold kinds at h
  simp only [List.mem_cons, List.not_mem_nil, or_false] at h
  rcases h with (rfl | rfl | rfl) | rfl
  · show rep (115 :: 101 :: 113 :: 40 :: r) = _
    rw [rep_miss _ (by decide), rep_miss _ (by decide), rep_miss _ (by decide), rep_miss _ (by decide)]; rfl
  · show rep (120 :: 111 :: 114 :: 40 :: r) = _
    rw [rep_miss _ (by decide), rep_miss _ (by decide), rep_miss _ (by decide), rep_miss _ (by decide)]; rfl
  · show rep (97 :: 110 :: 100 :: 40 :: r) = _
    rw [rep_and, rep_miss _ (by decide)]; rfl
  · show rep (108 :: 111 :: 111 :: 112 :: 40 :: r) = _
    rw [rep_miss _ (by decide), rep_miss _ (by decide), rep_miss _ (by decide), rep_miss _ (by decide), rep_miss _ (by decide)]; rfl
theorem head_mr (ts : List T) {r : List Nat} (h : r.head? ≠ some 110) : (T.mr ts ++ r).head? ≠ some 110 := by
  cases ts with
  | nil => rw [T.mr]; exact h
  | cons t ts => rw [T.mr]; simp
mutual
theorem rep_tx : ∀ (t : T) (h : Nat) (r : List Nat), t.dr h → r.head? ≠ some 110 → rep (t.tx ++ r) = t.mw.tx ++ rep r
  | .skip, h, r, _, hr => by
    rw [T.mw, T.tx]
    exact rep_miss r (by decide)
  | .leaf w, h, r, hd, hr => by
    rw [T.dr] at hd
    rw [T.mw, T.tx]
    unfold abc at hd
    simp only [List.mem_cons, List.not_mem_nil, or_false] at hd
    rcases hd with rfl | rfl | rfl
    · exact rep_97 r hr
    · exact rep_miss r (by decide)
    · exact rep_miss r (by decide)
  | .node w ts, h, r, hd, hr => by
    rw [T.dr] at hd
    obtain ⟨h0, hw, hs⟩ := hd
    have hk : w ∈ kinds ∨ w = wLoop := by rcases hw with ⟨h1, _⟩ | ⟨h1, _⟩; exact .inl h1; exact .inr h1
    have e : (T.node w ts).tx ++ r = w ++ 40 :: ((T.mr ts).drop 2 ++ (41 :: r)) := by rw [T.tx]; simp
    rw [e, rep_kind hk, T.mw, T.tx]
    match ts, hs with
    | [], hs =>
      rw [T.mws, T.mr]
      show mw1 w ++ 40 :: rep (41 :: r) = _
      rw [rep_miss _ (by decide)]; simp
    | t :: us, hs =>
      rw [T.drs] at hs
      rw [T.mws, T.mr, T.mr]
      have e1 : (44 :: 32 :: (t.tx ++ T.mr us)).drop 2 ++ 41 :: r = t.tx ++ (T.mr us ++ 41 :: r) := by simp
      rw [e1, rep_tx t (h - 1) _ hs.1 (head_mr us (by simp)), rep_mr us (h - 1) _ hs.2 (by simp), rep_miss _ (by decide)]
      simp
theorem rep_mr : ∀ (ts : List T) (h : Nat) (r : List Nat), T.drs ts h → r.head? ≠ some 110 → rep (T.mr ts ++ r) = T.mr (T.mws ts) ++ rep r
  | [], h, r, _, _ => by rw [T.mws, T.mr]; rfl
  | t :: ts, h, r, hd, hr => by
    rw [T.drs] at hd
    rw [T.mws, T.mr, T.mr]
    show rep (44 :: 32 :: (t.tx ++ T.mr ts ++ r)) = _
    rw [rep_miss _ (by decide), rep_miss _ (by decide), List.append_assoc, rep_tx t h _ hd.1 (head_mr ts hr), rep_mr ts h r hd.2 hr]
    simp
end
theorem rep_all {t : T} {h : Nat} (hd : t.dr h) : Txt.replace (Tx t.tx) (Str.ofString "and") (Str.ofString "xor") = Tx t.mw.tx := by
  rw [← S_eta (Txt.replace _ _ _), s_and, s_xor]
  congr 1
  rw [replace_list (by decide), S_list, S_list, S_list]
  have := rep_tx t h [] hd (by simp)
  rw [List.append_nil] at this
  show rep t.tx = _
  rw [this]
  show t.mw.tx ++ replL wAnd wXor [] = _
  rw [replL_nil, List.append_nil]
end K90

set_option Elab.async false
set_option linter.all false
set_option maxRecDepth 100000
set_option maxHeartbeats 1000000
namespace K90
open PySem Dl L2 PySem.StrLaws
mutual
theorem d_nb : ∀ t : T, t.d.nb = true
  | .skip => by rw [T.d]; rfl
  | .leaf w => by rw [T.d]; rfl
  | .node w ts => by rw [T.d, D.nb, D.nbs, ds_nb ts]; rfl
theorem ds_nb : ∀ ts : List T, D.nbs (T.ds ts) = true
  | [] => by rw [T.ds]; rfl
  | t :: ts => by rw [T.ds, D.nbs, d_nb t, ds_nb ts]; rfl
end
mutual
theorem d_txt : ∀ t : T, t.wf → t.d.txt = true
  | .skip, _ => by rw [T.d, D.txt, D.txts, D.txts, txt_S ok_skip]; rfl
  | .leaf w, h => by rw [T.wf] at h; rw [T.d, D.txt, D.txts, D.txts, D.txts, txt_S ok_do, txt_S h.2]; rfl
  | .node w ts, h => by rw [T.wf] at h; rw [T.d, D.txt, D.txts, txt_S h.1.2, ds_txt ts h.2.2.2]; rfl
theorem ds_txt : ∀ ts : List T, T.wfs ts → D.txts (T.ds ts) = true
  | [], _ => by rw [T.ds]; rfl
  | t :: ts, h => by rw [T.wfs] at h; rw [T.ds, D.txts, d_txt t h.1, ds_txt ts h.2]; rfl
end
mutual
theorem d_dep : ∀ (t : T) (k : Nat), t.ck k = true → t.d.dep + k ≤ 8
  | .skip, k, h => by have := ck_le h; rw [T.d]; simp only [D.dep, D.deps]; omega
  | .leaf w, k, h => by have := ck_le h; rw [T.d]; simp only [D.dep, D.deps]; omega
  | .node w ts, k, h => by
    obtain ⟨h1, h2, h3, h4, h5, h6, _⟩ := ck_kind h
    have := ds_dep ts (k + 1) h4
    rw [T.d]
    simp only [D.dep, D.deps]
    omega
theorem ds_dep : ∀ (ts : List T) (k : Nat), T.cks ts k = true → D.deps (T.ds ts) + k ≤ 8 ∨ D.deps (T.ds ts) = 0
  | [], k, _ => by rw [T.ds]; exact .inr rfl
  | t :: ts, k, h => by
    rw [T.cks, Bool.and_eq_true] at h
    have a := d_dep t k h.1
    have b := ds_dep ts k h.2
    rw [T.ds]
    simp only [D.deps]
    rcases b with b | b
    · exact .inl (by omega)
    · exact .inl (by rw [b]; omega)
end
theorem d_sh {t : T} (hw : t.wf) (hc : t.ck 0 = true) : sh t.d = true := sh_of (d_txt t hw) (by have := d_dep t 0 hc; omega)
/-- a text is read as none, or as a tree whose text it is -/
theorem told {l : List Nat} (hl : l.length ≤ 100000) (ho : Ok1 l) : m__law_read [.str (Tx l)] = .ok .non ∨ ∃ t : T, m__law_read [.str (Tx l)] = .ok t.d ∧ t.wf ∧ t.ck 0 = true ∧ t.nl ≤ 24 ∧ t.tx = l := by
  have fine := rp_ok hl ho 9 0 0 (by omega) (by omega) (by omega) (by omega)
  rw [law_read hl ho]
  rcases fine with e | ⟨t, p, e, h1, h2, h3, h4⟩
  · rw [e]; exact .inl rfl
  · rw [e]
    by_cases h : t.ck 0 = true ∧ t.nl ≤ 24 ∧ p = l.length ∧ t.tx = l
    · exact .inr ⟨t, by simp only [if_pos h], h3, h.1, h.2.1, h.2.2.2⟩
    · exact .inl (by simp only [if_neg h])
theorem told_back {t : T} (hw : t.wf) (hc : t.ck 0 = true) (hn : t.nl ≤ 24) : m__law_read [.str (Tx t.tx)] = .ok t.d := by
  have hlen := tx_len t 0 hc
  rw [law_read (by omega) (ok_tx t hw)]
  have b := back t 9 0 0 t.tx [] (by omega) (by omega) hc (by simp) (.inl rfl)
  rw [b]
  simp [hc, hn]
/-! ### the wrong ones -/
def Pw (d : D) : Prop := d.nb = true ∧ sh d = true ∧ (d = .str (Tx wSeq) ∨ m__law_read [d] = .ok .non)
theorem wrong_loop : ∀ (ds : List D) (x0 x1 x2 x3 x4 x5 x6 x7 x8 : S), (∀ d ∈ ds, Pw d) → ∃ y8, forF (.one 8)
    (sIf (tAnd' (tB1 (e2 neD (eV 8) (eC (.str (Str.ofString "seq"))))) (tB1 (e2 notND (eCall m__law_read (aCons (eV 8) aNil)) (eC .non))))
    (sRet (eC (.bl false)))
    sNext) ds [x0, x1, x2, x3, x4, x5, x6, x7, x8] = .next [x0, x1, x2, x3, x4, x5, x6, x7, y8]
  | [], x0, x1, x2, x3, x4, x5, x6, x7, x8, _ => ⟨x8, rfl⟩
  | d :: ds, x0, x1, x2, x3, x4, x5, x6, x7, x8, h => by
    obtain ⟨y8, ih⟩ := wrong_loop ds x0 x1 x2 x3 x4 x5 x6 x7 (.val d) fun e he => h e (List.mem_cons_of_mem _ he)
    obtain ⟨h1, h2, h3⟩ := h d List.mem_cons_self
    have ne : neD d (.str (Str.ofString "seq")) = some (.bl (!decide (d = .str (Tx wSeq)))) := by
      rw [s_seq]
      exact neD_nb h1 rfl h2 (sh_S ok_seq)
    refine ⟨y8, ?_⟩
    rw [forF]
    have nn : notND .non .non = some (.bl false) := rfl
    by_cases z : d = .str (Tx wSeq)
    · simp only [put_one, List.set_cons_succ, List.set_cons_zero, ev_sIf, ev_tAnd, ev_tB1, ev_e2, ev_eVs, ev_eV0, ev_eC, ev_bind_ok, ne, decide_eq_true z, Bool.not_true, ev_ofO_some, ev_bindF_ok, ev_sNext]
      exact ih
    · have h3 := h3.resolve_left z
      simp only [put_one, List.set_cons_succ, List.set_cons_zero, ev_sIf, ev_tAnd, ev_tB1, ev_e2, ev_eVs, ev_eV0, ev_eC, ev_bind_ok, ne, decide_eq_false z, Bool.not_false, ev_ofO_some, ev_bindF_ok, ev_sNext, ev_eCall, ev_aCons, ev_aNil, h3, nn]
      exact ih
theorem pw_text {l : List Nat} (hl : l.length ≤ 100000) (ho : Ok1 l) (h : (match rp 9 l 0 0 with
    | .ok (t, p) => decide (t.ck 0 = true ∧ t.nl ≤ 24 ∧ p = l.length ∧ t.tx = l)
    | _ => false) = false) : Pw (.str (Tx l)) := by
  refine ⟨rfl, sh_S ho, .inr ?_⟩
  rw [law_read hl ho]
  cases e : rp 9 l 0 0 with
  | ok r =>
    obtain ⟨t, p⟩ := r
    rw [e] at h
    simp only [decide_eq_false_iff_not] at h
    simp only [if_neg h]
  | exc c => rfl
  | bad => rfl
def okB (l : List Nat) : Bool := decide (l.length ≤ 100000) && l.all fun c => decide (c < 0x110000)
def pwB (l : List Nat) : Bool := okB l && !(match rp 9 l 0 0 with
    | .ok (t, p) => decide (t.ck 0 = true ∧ t.nl ≤ 24 ∧ p = l.length ∧ t.tx = l)
    | _ => false)
theorem pw_of {x : Str} {l : List Nat} (e : x = Tx l) (h : pwB l = true) : Pw (.str x) := by
  unfold pwB okB at h
  simp only [Bool.and_eq_true, decide_eq_true_eq, List.all_eq_true, Bool.not_eq_true'] at h
  rw [e]
  exact pw_text h.1.1 h.1.2 h.2
theorem w1 : pwB [] = true := by kernel_rfl
theorem w2 : pwB [40] = true := by kernel_rfl
theorem read_non {d : D} (h : d = .non ∨ d = .int 7) : m__law_read [d] = .ok .non := by
  have hi : ∀ a, initE 1 [a] = [.val a] := fun _ => rfl
  have hi3 : ∀ a, initE 3 [a] = [.val a, .no, .no] := fun _ => rfl
  have sb : subL [("BadTree", true)] "BadTree" = some true := rfl
  have rt : m_read_tree [d] = .exc "BadTree" := by
    rw [m_read_tree, runF, hi3, b_read_tree]
    rcases h with rfl | rfl
    · simp [tyN, kit_none_str]
    · simp [tyN, kit_int_str]
  rw [m__law_read, runF, hi, b__law_read, sTry]
  simp [rt, sb, noX]
end K90

set_option Elab.async false
set_option linter.all false
set_option maxRecDepth 100000
set_option maxHeartbeats 2000000
namespace K90
open PySem Dl L2 PySem.StrLaws
theorem tup_if (xs : List D) (h : xs.length ≤ 100) : (if xs.length ≤ sizeLine then some (D.tup xs) else none) = some (.tup xs) := if_pos (by rw [sz_eq]; omega)
theorem s_signs : Str.ofString "(), -ax1" = Tx [40, 41, 44, 32, 45, 97, 120, 49] := by rfl
theorem sign8 (q : Nat) (h : q < 8) : ∃ c, c < 128 ∧ ixD (.str (Tx [40, 41, 44, 32, 45, 97, 120, 49])) (.int (q : Int)) = some (.str (Tx [c])) := by
  rw [ix_S (by rw [sz_eq]; decide)]
  match q, h with
  | 0, _ => exact ⟨40, by decide, rfl⟩
  | 1, _ => exact ⟨41, by decide, rfl⟩
  | 2, _ => exact ⟨44, by decide, rfl⟩
  | 3, _ => exact ⟨32, by decide, rfl⟩
  | 4, _ => exact ⟨45, by decide, rfl⟩
  | 5, _ => exact ⟨97, by decide, rfl⟩
  | 6, _ => exact ⟨120, by decide, rfl⟩
  | 7, _ => exact ⟨49, by decide, rfl⟩
theorem mem_repl (y z : List Nat) : ∀ (s : Nat) (l : List Nat) (c : Nat), c ∈ replS y z s l → c ∈ l ∨ c ∈ z
  | s, [], c, h => by
    cases s <;> simp [replS] at h
  | 0, d :: r, c, h => by
    rw [replS] at h
    split at h
    · rcases List.mem_append.mp h with h | h
      · exact .inr h
      · rcases mem_repl y z _ r c h with h | h
        · exact .inl (List.mem_cons_of_mem _ h)
        · exact .inr h
    · rcases List.mem_cons.mp h with h | h
      · exact .inl (by rw [h]; exact List.mem_cons_self)
      · rcases mem_repl y z _ r c h with h | h
        · exact .inl (List.mem_cons_of_mem _ h)
        · exact .inr h
  | s + 1, d :: r, c, h => by
    rw [replS] at h
    rcases mem_repl y z s r c h with h | h
    · exact .inl (List.mem_cons_of_mem _ h)
    · exact .inr h
theorem repl_ok {x y z : List Nat} (hx : Ok1 x) (hz : Ok1 z) (hy : 1 ≤ (Tx y).length) : ∃ u, Txt.replace (Tx x) (Tx y) (Tx z) = Tx u ∧ Ok1 u ∧ u.length ≤ x.length + (x.length + 1) * z.length := by
  refine ⟨(Txt.replace (Tx x) (Tx y) (Tx z)).cps.toList, (S_eta _).symm, fun c hc => ?_, ?_⟩
  · rw [replace_list hy, S_list, S_list, S_list] at hc
    rcases mem_repl y z 0 x c hc with h | h
    · exact hx c h
    · exact hz c h
  · have := TK.replace_len (Tx x) (Tx y) (Tx z)
    rw [S_len, S_len] at this
    have e : (Txt.replace (Tx x) (Tx y) (Tx z)).length = (Txt.replace (Tx x) (Tx y) (Tx z)).cps.toList.length := by simp [Str.length]
    rw [← e]; exact this
theorem not_non (t : T) : notND t.d .non = some (.bl true) := by
  obtain ⟨w, xs, e⟩ := d_tup t
  rw [e]; rfl
theorem is_non (t : T) : isND t.d .non = some (.bl false) := by
  obtain ⟨w, xs, e⟩ := d_tup t
  rw [e]; rfl
theorem ok_app {a b : List Nat} (h1 : Ok1 a) (h2 : Ok1 b) : Ok1 (a ++ b) := fun c hc => (List.mem_append.mp hc).elim (h1 c) (h2 c)
/-- the nine turned texts -/
def turned (x : List Nat) (p c : Nat) (y6 : List Nat) (y7 : List Nat) : List (List Nat) :=
  [(x.take p ++ [c]) ++ x.drop p, x.take p ++ x.drop (p + 1), (x.take p ++ [c]) ++ x.drop (p + 1), x ++ [41], ([115, 101, 113, 40] ++ x) ++ [44, 32, 45, 41], ([115, 101, 113, 40] ++ x) ++ [41], y6, y7, [32] ++ x]
theorem turned_ok {x y6 y7 : List Nat} {p c : Nat} (hx : Ok1 x) (lx : x.length ≤ 1000) (hc : c < 128) (h6 : Ok1 y6 ∧ y6.length ≤ 100000) (h7 : Ok1 y7 ∧ y7.length ≤ 100000) : ∀ u ∈ turned x p c y6 y7, Ok1 u ∧ u.length ≤ 100000 := by
  have t1 : Ok1 (x.take p) := fun d hd => hx d (List.mem_of_mem_take hd)
  have t2 : ∀ q, Ok1 (x.drop q) := fun q d hd => hx d (List.mem_of_mem_drop hd)
  have t3 : Ok1 [c] := ok_c (by omega)
  have l1 : (x.take p).length ≤ x.length := by rw [List.length_take]; omega
  have l2 : ∀ q, (x.drop q).length ≤ x.length := fun q => by rw [List.length_drop]; omega
  have l2a := l2 p
  have l2b := l2 (p + 1)
  intro u hu
  unfold turned at hu
  simp only [List.mem_cons, List.not_mem_nil, or_false] at hu
  rcases hu with rfl | rfl | rfl | rfl | rfl | rfl | rfl | rfl | rfl
  · exact ⟨ok_app (ok_app t1 t3) (t2 _), by simp only [List.length_append, List.length_cons, List.length_nil]; omega⟩
  · exact ⟨ok_app t1 (t2 _), by simp only [List.length_append]; omega⟩
  · exact ⟨ok_app (ok_app t1 t3) (t2 _), by simp only [List.length_append, List.length_cons, List.length_nil]; omega⟩
  · exact ⟨ok_app hx (ok_c (by omega)), by simp only [List.length_append, List.length_cons, List.length_nil]; omega⟩
  · exact ⟨ok_app (ok_app (by unfold Ok1; decide) hx) (by unfold Ok1; decide), by simp only [List.length_append, List.length_cons, List.length_nil]; omega⟩
  · exact ⟨ok_app (ok_app (by unfold Ok1; decide) hx) (by unfold Ok1; decide), by simp only [List.length_append, List.length_cons, List.length_nil]; omega⟩
  · exact h6
  · exact h7
  · exact ⟨ok_app (ok_c (by omega)) hx, by simp only [List.length_append, List.length_cons, List.length_nil]; omega⟩
theorem turn_ev {x y6 y7 : List Nat} {p c : Nat} {x0 x1 x2 x6 x7 x8 : S} (lx : x.length ≤ 1000) (h6 : Txt.replace (Tx x) (Str.ofString ", ") (Str.ofString ",") = Tx y6) (h7 : Txt.replace (Tx x) (Str.ofString "and") (Str.ofString "xor") = Tx y7) :
    eTup (aCons (e2 addD (e2 addD (eSl (eV 3) oNone (oSome (eV 4))) (eV 5)) (eSl (eV 3) (oSome (eV 4)) oNone)) (aCons (e2 addD (eSl (eV 3) oNone (oSome (eV 4))) (eSl (eV 3) (oSome (e2 addD (eV 4) (eC (.int 1)))) oNone)) (aCons (e2 addD (e2 addD (eSl (eV 3) oNone (oSome (eV 4))) (eV 5)) (eSl (eV 3) (oSome (e2 addD (eV 4) (eC (.int 1)))) oNone)) (aCons (e2 addD (eV 3) (eC (.str (Str.ofString ")")))) (aCons (e2 addD (e2 addD (eC (.str (Str.ofString "seq("))) (eV 3)) (eC (.str (Str.ofString ", -)")))) (aCons (e2 addD (e2 addD (eC (.str (Str.ofString "seq("))) (eV 3)) (eC (.str (Str.ofString ")")))) (aCons (e1 (replD (Str.ofString ", ") (Str.ofString ",")) (eV 3)) (aCons (e1 (replD (Str.ofString "and") (Str.ofString "xor")) (eV 3)) (aCons (e2 addD (eC (.str (Str.ofString " "))) (eV 3)) aNil)))))))))
      [x0, x1, x2, .val (.str (Tx x)), .val (.int (p : Int)), .val (.str (Tx [c])), x6, x7, x8] = .ok (.tup ((turned x p c y6 y7).map fun u => .str (Tx u))) := by
  have hz : x.length ≤ sizeLine := by rw [sz_eq]; omega
  have l1 : (x.take p).length ≤ x.length := by rw [List.length_take]; omega
  have l2 : ∀ q, (x.drop q).length ≤ x.length := fun q => by rw [List.length_drop]; omega
  have s1 := slTo_S hz p
  have s2 := slFrom_S hz p
  have s3 : slD (.str (Tx x)) (some ((p : Int) + 1)) none = _ := slFrom_S hz (p + 1)
  have ad : ∀ a b : List Nat, a.length ≤ 5000 → b.length ≤ 5000 → addD (.str (Tx a)) (.str (Tx b)) = some (.str (Tx (a ++ b))) := fun a b h1 h2 => add_S (by rw [sz_eq]; omega)
  have l2a := l2 p
  have l2b := l2 (p + 1)
  have b1 := ad (x.take p) [c] (by omega) (by simp)
  have b2 := ad (x.take p ++ [c]) (x.drop p) (by simp only [List.length_append, List.length_cons, List.length_nil]; omega) (by omega)
  have b3 := ad (x.take p) (x.drop (p + 1)) (by omega) (by omega)
  have b4 := ad (x.take p ++ [c]) (x.drop (p + 1)) (by simp only [List.length_append, List.length_cons, List.length_nil]; omega) (by omega)
  have b5 := ad x [41] (by omega) (by simp)
  have b6 := ad [115, 101, 113, 40] x (by simp) (by omega)
  have b7 := ad ([115, 101, 113, 40] ++ x) [44, 32, 45, 41] (by simp only [List.length_append, List.length_cons, List.length_nil]; omega) (by simp)
  have b8 := ad ([115, 101, 113, 40] ++ x) [41] (by simp only [List.length_append, List.length_cons, List.length_nil]; omega) (by simp)
  have b9 := ad [32] x (by simp) (by omega)
  have k1 : Str.ofString ")" = Tx [41] := by rfl
  have k2 : Str.ofString "seq(" = Tx [115, 101, 113, 40] := by rfl
  have k3 : Str.ofString ", -)" = Tx [44, 32, 45, 41] := by rfl
  have k4 : Str.ofString " " = Tx [32] := by rfl
  have r6 : replD (Str.ofString ", ") (Str.ofString ",") (.str (Tx x)) = some (.str (Tx y6)) := by
    show (if (Tx x).length + ((Tx x).length + 1) * (Str.ofString ",").length ≤ 16777216 then some (D.str (Txt.replace (Tx x) (Str.ofString ", ") (Str.ofString ","))) else none) = _
    have e : (Str.ofString ",").length = 1 := by rfl
    rw [if_pos (by rw [S_len, e]; omega), h6]
  have r7 : replD (Str.ofString "and") (Str.ofString "xor") (.str (Tx x)) = some (.str (Tx y7)) := by
    show (if (Tx x).length + ((Tx x).length + 1) * (Str.ofString "xor").length ≤ 16777216 then some (D.str (Txt.replace (Tx x) (Str.ofString "and") (Str.ofString "xor"))) else none) = _
    have e : (Str.ofString "xor").length = 3 := by rfl
    rw [if_pos (by rw [S_len, e]; omega), h7]
  have ei : ∀ i : Int, addD (.int i) (.int 1) = some (.int (i + 1)) := fun _ => rfl
  simp only [ev_eTup, ev_aCons, ev_aNil, ev_e2, ev_e1, ev_eSl, ev_oNone, ev_oSome, ev_eVs, ev_eV0, ev_eC, ev_bind_ok, ev_ofO_some, s1, s2, s3, ei, k1, k2, k3, k4, b1, b2, b3, b4, b5, b6, b7, b8, b9, r6, r7]
  rw [tup_if _ (by simp)]
  rfl
end K90

set_option Elab.async false
set_option linter.all false
set_option maxRecDepth 100000
set_option maxHeartbeats 4000000
namespace K90
open PySem Dl L2 PySem.StrLaws
/-- the text that the law makes is as it should be for these two ways -/
def Fits (t : T) (j : Nat) (u : List Nat) : Prop := (j = 4 → u = (T.node wSeq [t, .skip]).tx) ∧ (j = 7 → u = t.mw.tx)
theorem wrongs : ∀ d ∈ ([.str (Str.ofString ""), .str (Str.ofString "("), .str (Str.ofString "seq"), .str (Str.ofString "seq("), .str (Str.ofString "seq(a"), .str (Str.ofString "seq(a,"), .str (Str.ofString "seq(a, b"), .str (Str.ofString "seq(a, b)c"), .str (Str.ofString "seq(a,b)"), .str (Str.ofString "loop(a)"), .str (Str.ofString "loop(a, b, c)"), .str (Str.ofString "A"), .str (Str.ofString "a b"), .str (Str.ofString "--"), .str (Str.ofString "()"), .str (Str.ofString "xor(, )"), .str (Str.ofString "do(a, b)"), .non, .int 7] : List D), Pw d := by
  intro d hd
  simp only [List.mem_cons, List.not_mem_nil, or_false] at hd
  rcases hd with rfl | rfl | rfl | rfl | rfl | rfl | rfl | rfl | rfl | rfl | rfl | rfl | rfl | rfl | rfl | rfl | rfl | rfl | rfl
  · exact pw_of (l := []) (by rfl) (by kernel_rfl)
  · exact pw_of (l := [40]) (by rfl) (by kernel_rfl)
  · rw [s_seq]; exact ⟨rfl, sh_S ok_seq, .inl rfl⟩
  · exact pw_of (l := [115, 101, 113, 40]) (by rfl) (by kernel_rfl)
  · exact pw_of (l := [115, 101, 113, 40, 97]) (by rfl) (by kernel_rfl)
  · exact pw_of (l := [115, 101, 113, 40, 97, 44]) (by rfl) (by kernel_rfl)
  · exact pw_of (l := [115, 101, 113, 40, 97, 44, 32, 98]) (by rfl) (by kernel_rfl)
  · exact pw_of (l := [115, 101, 113, 40, 97, 44, 32, 98, 41, 99]) (by rfl) (by kernel_rfl)
  · exact pw_of (l := [115, 101, 113, 40, 97, 44, 98, 41]) (by rfl) (by kernel_rfl)
  · exact pw_of (l := [108, 111, 111, 112, 40, 97, 41]) (by rfl) (by kernel_rfl)
  · exact pw_of (l := [108, 111, 111, 112, 40, 97, 44, 32, 98, 44, 32, 99, 41]) (by rfl) (by kernel_rfl)
  · exact pw_of (l := [65]) (by rfl) (by kernel_rfl)
  · exact pw_of (l := [97, 32, 98]) (by rfl) (by kernel_rfl)
  · exact pw_of (l := [45, 45]) (by rfl) (by kernel_rfl)
  · exact pw_of (l := [40, 41]) (by rfl) (by kernel_rfl)
  · exact pw_of (l := [120, 111, 114, 40, 44, 32, 41]) (by rfl) (by kernel_rfl)
  · exact pw_of (l := [100, 111, 40, 97, 44, 32, 98, 41]) (by rfl) (by kernel_rfl)
  · exact ⟨rfl, sh_of rfl (Nat.zero_le _), .inr (read_non (.inl rfl))⟩
  · exact ⟨rfl, sh_of rfl (Nat.zero_le _), .inr (read_non (.inr rfl))⟩
theorem read_seq : m__law_read [.str (Tx wSeq)] = .ok (.tup [.str (Tx wDo), .str (Tx wSeq)]) := by
  have := told_back (t := .leaf wSeq) (by rw [T.wf]; exact ⟨by decide, ok_seq⟩) (by rw [T.ck]; decide) (by rw [T.nl]; decide)
  rw [T.tx, T.d] at this
  exact this
theorem plain (ns : List Int) (hl : ns.length ≤ 63) (hb : ∀ z ∈ ns, Builtin.Int.intBits z ≤ 1048576) : m_law [.lst (ns.map D.int)] = .ok (.bl true) := by
  have hi : ∀ a, initE 9 [a] = [.val a, .no, .no, .no, .no, .no, .no, .no, .no] := fun _ => rfl
  obtain ⟨c0, hc0⟩ := cell_ok ns 0
  obtain ⟨c1, hc1⟩ := cell_ok ns 1
  obtain ⟨L, hL, hd0⟩ := draws_ok c0 60 (by decide)
  obtain ⟨N, hN, hd1⟩ := draws_ok c1 12 (by decide)
  rw [← cell_eq] at hc0 hc1
  rw [← draws_eq] at hd0 hd1
  have hc0 : m__law_cell [.lst (ns.map D.int), .int 0] = .ok (.int c0) := hc0
  have hc1 : m__law_cell [.lst (ns.map D.int), .int 1] = .ok (.int c1) := hc1
  have hd0 : m__law_draws [.int c0, .int 60] = .ok (.lst (ntl L)) := hd0
  have hd1 : m__law_draws [.int c1, .int 12] = .ok (.lst (ntl N)) := hd1
  obtain ⟨t, ht, dr, nl⟩ := law_tree (L := L) (by omega) 9 0 0 (by omega) (by omega)
  have ht : m__law_tree 9 [.lst (ntl L), .int 0, .int 0] = .ok t.d := ht
  have dr : t.dr 3 := dr
  have nl : t.nl ≤ 18 := nl
  have hw := dr_wf t 3 dr
  have hc := dr_ck t 3 0 dr (by omega)
  have hlen := tx_len t 0 hc
  have ho := ok_tx t hw
  have hx : m__law_text 9 [t.d] = .ok (.str (Tx t.tx)) := by rw [law_text_eq]; exact text 9 t 0 (by omega) hw hc (by omega)
  have tt := tree_text hw hc (by omega)
  have rd := told_back hw hc (by omega)
  have ne1 : neD (.str (Tx t.tx)) (.str (Tx t.tx)) = some (.bl false) := by rw [ne_S ho ho]; simp
  have ne2 : neD t.d t.d = some (.bl false) := by rw [neD_nb (d_nb t) (d_nb t) (d_sh hw hc) (d_sh hw hc)]; simp
  have lx := len_S (a := t.tx) (by rw [sz_eq]; omega)
  have i0 : ixD (.lst (ntl N)) (.int 0) = some (.int ((N.getD 0 0 : Nat) : Int)) := ntl_ix 0 (by omega)
  have i1 : ixD (.lst (ntl N)) (.int 1) = some (.int ((N.getD 1 0 : Nat) : Int)) := ntl_ix 1 (by omega)
  have i2 : ixD (.lst (ntl N)) (.int 2) = some (.int ((N.getD 2 0 : Nat) : Int)) := ntl_ix 2 (by omega)
  generalize N.getD 0 0 = g0 at i0
  generalize N.getD 1 0 = g1 at i1
  generalize N.getD 2 0 = g2 at i2
  have q0 : modD (.int (g0 : Int)) (.int ((t.tx.length : Int) + 1)) = _ := mod_nat g0 (t.tx.length + 1) (by omega)
  have q1 : modD (.int (g1 : Int)) (.int 8) = some (.int ((g1 % 8 : Nat) : Int)) := mod_nat g1 8 (by decide)
  have q2 : modD (.int (g2 : Int)) (.int 9) = some (.int ((g2 % 9 : Nat) : Int)) := mod_nat g2 9 (by decide)
  have hj : g2 % 9 < 9 := Nat.mod_lt _ (by decide)
  generalize g0 % (t.tx.length + 1) = p at q0
  obtain ⟨c, hc8, sg⟩ := sign8 (g1 % 8) (Nat.mod_lt _ (by decide))
  obtain ⟨y6, h6, o6, l6⟩ := repl_ok (x := t.tx) (y := [44, 32]) (z := [44]) ho (ok_c (by omega)) (by decide)
  have h6 : Txt.replace (Tx t.tx) (Str.ofString ", ") (Str.ofString ",") = Tx y6 := h6
  simp only [List.length_cons, List.length_nil] at l6
  have h7 := rep_all dr
  have dr7 := mw_dr t 3 dr
  have hw7 := dr_wf _ 3 dr7
  have hc7 := dr_ck _ 3 0 dr7 (by omega)
  have nl7 := mw_nl t
  have len7 := tx_len _ 0 hc7
  have te := @turn_ev t.tx y6 t.mw.tx p c (.val (.lst (ns.map D.int))) (.val t.d) (.val (.lst (ntl N))) .no .no .no (by omega) h6 h7
  have tok := turned_ok (p := p) (c := c) ho (by omega) hc8 ⟨o6, by omega⟩ ⟨ok_tx _ hw7, by omega⟩
  -- the one that is taken
  generalize hjj : g2 % 9 = j at hj q2
  have tl : (turned t.tx p c y6 t.mw.tx).length = 9 := rfl
  obtain ⟨u, hu⟩ : ∃ u, (turned t.tx p c y6 t.mw.tx)[j]? = some u := ⟨_, List.getElem?_eq_getElem (by rw [tl]; exact hj)⟩
  have hux : ixD (.tup ((turned t.tx p c y6 t.mw.tx).map fun u => .str (Tx u))) (.int (j : Int)) = some (.str (Tx u)) := by
    rw [Dl.ix_tup, List.getElem?_map, hu]; rfl
  have huok := tok u (List.mem_of_getElem? hu)
  have fit : Fits t j u := by
    constructor
    · rintro rfl
      have : [115, 101, 113, 40] ++ t.tx ++ [44, 32, 45, 41] = u := Option.some.inj hu
      rw [← this, T.tx, T.mr, T.mr, T.mr, T.tx]
      simp [wSeq]
    · rintro rfl
      have : t.mw.tx = u := Option.some.inj hu
      exact this.symm
  -- what is told of it
  have wf4 : (T.node wSeq [t, .skip]).wf := by
    rw [T.wf, T.wfs, T.wfs, T.wfs, T.wf]
    exact ⟨⟨by decide, ok_seq⟩, by simp, by simp, hw, trivial, trivial⟩
  have ck4 : (T.node wSeq [t, .skip]).ck 0 = true := by
    have k1 : wSeq ∈ kinds := by decide
    rw [T.ck, T.cks, T.cks, T.cks, dr_ck t 3 1 dr (by omega), T.ck]
    simp [k1]
  have nl4 : (T.node wSeq [t, .skip]).nl ≤ 24 := by
    rw [T.nl, T.nls, T.nls, T.nls, T.nl]; omega
  have rd4 := told_back wf4 ck4 nl4
  have rd7 := told_back hw7 hc7 (by omega)
  have d4 : (T.node wSeq [t, .skip]).d = .tup [.str (Tx wSeq), t.d, .tup [.str (Tx wSkip)]] := by
    rw [T.d, T.ds, T.ds, T.ds, T.d]
  have e4 : eTup (aCons (eC (.str (Str.ofString "seq"))) (aCons (eV 1) (aCons (eTup (aCons (eC (.str (Str.ofString "skip"))) aNil)) aNil))) = fun δ => eTup (aCons (eC (.str (Str.ofString "seq"))) (aCons (eV 1) (aCons (eTup (aCons (eC (.str (Str.ofString "skip"))) aNil)) aNil))) δ := rfl
  have key : ∃ v : D, m__law_read [.str (Tx u)] = .ok v ∧
      (tAnd' (tB1 (e2 notND (eV 7) (eC .non))) (tB1 (e2 neD (eCall (m__law_text 9) (aCons (eV 7) aNil)) (eV 6)))) [.val (.lst (ns.map D.int)), .val t.d, .val (.lst (ntl N)), .val (.str (Tx t.tx)), .val (.int (p : Int)), .val (.str (Tx [c])), .val (.str (Tx u)), .val v, .no] = .ok false ∧
      (tAnd' (tB1 (e2 eqD (e2 modD (e2 ixD (eV 2) (eC (.int 2))) (eC (.int 9))) (eC (.int 4)))) (tB1 (e2 neD (eV 7) (eTup (aCons (eC (.str (Str.ofString "seq"))) (aCons (eV 1) (aCons (eTup (aCons (eC (.str (Str.ofString "skip"))) aNil)) aNil))))))) [.val (.lst (ns.map D.int)), .val t.d, .val (.lst (ntl N)), .val (.str (Tx t.tx)), .val (.int (p : Int)), .val (.str (Tx [c])), .val (.str (Tx u)), .val v, .no] = .ok false ∧
      (tAnd' (tB1 (e2 eqD (e2 modD (e2 ixD (eV 2) (eC (.int 2))) (eC (.int 9))) (eC (.int 7)))) (tAnd' (tB1 (e2 inD (eC (.str (Str.ofString "and"))) (eV 3))) (tB1 (e2 isND (eV 7) (eC .non))))) [.val (.lst (ns.map D.int)), .val t.d, .val (.lst (ntl N)), .val (.str (Tx t.tx)), .val (.int (p : Int)), .val (.str (Tx [c])), .val (.str (Tx u)), .val v, .no] = .ok false := by
    have ina : inD (.str (Str.ofString "and")) (.str (Tx t.tx)) = some (.bl (inS (Str.ofString "and") (Tx t.tx))) := rfl
    generalize inS (Str.ofString "and") (Tx t.tx) = bb at ina
    rcases told huok.2 huok.1 with e | ⟨t', e, w', c', n', x'⟩
    · have n4 : ¬ (j = 4) := fun z => by
        rw [fit.1 z, rd4, d4] at e
        cases e
      have n7 : ¬ (j = 7) := fun z => by
        rw [fit.2 z, rd7] at e
        obtain ⟨w0, xs, ed⟩ := d_tup t.mw
        rw [ed] at e
        cases e
      have n4' : ¬ ((j : Int) = 4) := by omega
      have n7' : ¬ ((j : Int) = 7) := by omega
      have nn : notND .non .non = some (.bl false) := rfl
      refine ⟨.non, e, ?_, ?_, ?_⟩
      · simp only [ev_tAnd, ev_tB1, ev_e2, ev_eVs, ev_eV0, ev_eC, ev_bind_ok, nn, ev_ofO_some]
      · simp only [ev_tAnd, ev_tB1, ev_e2, ev_eVs, ev_eV0, ev_eC, ev_bind_ok, i2, q2, ev_ofO_some, eq_int, decide_eq_false n4']
      · simp only [ev_tAnd, ev_tB1, ev_e2, ev_eVs, ev_eV0, ev_eC, ev_bind_ok, i2, q2, ev_ofO_some, eq_int, decide_eq_false n7']
    · have lt' := tx_len t' 0 c'
      have tx' : m__law_text 9 [t'.d] = .ok (.str (Tx u)) := by rw [law_text_eq, text 9 t' 0 (by omega) w' c' (by omega), x']
      have neu : neD (.str (Tx u)) (.str (Tx u)) = some (.bl false) := by rw [ne_S huok.1 huok.1]; simp
      refine ⟨t'.d, e, ?_, ?_, ?_⟩
      · simp only [ev_tAnd, ev_tB1, ev_e2, ev_eVs, ev_eV0, ev_eC, ev_bind_ok, not_non, ev_ofO_some, ev_eCall, ev_aCons, ev_aNil, tx', neu]
      · by_cases n4 : j = 4
        · have n4' : (j : Int) = 4 := by omega
          have ed : t'.d = .tup [.str (Tx wSeq), t.d, .tup [.str (Tx wSkip)]] := by
            rw [fit.1 n4, rd4, d4] at e
            exact (R.ok.inj e).symm
          have sh4 := d_sh wf4 ck4
          have nb4 := d_nb (T.node wSeq [t, .skip])
          rw [d4] at sh4 nb4
          have nev : neD (.tup [.str (Tx wSeq), t.d, .tup [.str (Tx wSkip)]]) (.tup [.str (Tx wSeq), t.d, .tup [.str (Tx wSkip)]]) = some (.bl false) := by
            rw [neD_nb nb4 nb4 sh4 sh4]; simp
          simp only [ev_tAnd, ev_tB1, ev_e2, ev_eVs, ev_eV0, ev_eC, ev_bind_ok, i2, q2, ev_ofO_some, eq_int, decide_eq_true n4', ev_eTup, ev_aCons, ev_aNil, s_seq, s_skip, ed]
          rw [tup_if _ (by simp)]
          simp only [ev_ofO_some, ev_bind_ok]
          rw [tup_if _ (by simp)]
          simp only [ev_ofO_some, ev_bind_ok, nev]
        · have n4' : ¬ ((j : Int) = 4) := by omega
          simp only [ev_tAnd, ev_tB1, ev_e2, ev_eVs, ev_eV0, ev_eC, ev_bind_ok, i2, q2, ev_ofO_some, eq_int, decide_eq_false n4']
      · by_cases n7 : j = 7
        · have n7' : (j : Int) = 7 := by omega
          cases bb with
          | true => simp only [ev_tAnd, ev_tB1, ev_e2, ev_eVs, ev_eV0, ev_eC, ev_bind_ok, i2, q2, ev_ofO_some, eq_int, decide_eq_true n7', ina, is_non]
          | false => simp only [ev_tAnd, ev_tB1, ev_e2, ev_eVs, ev_eV0, ev_eC, ev_bind_ok, i2, q2, ev_ofO_some, eq_int, decide_eq_true n7', ina, is_non]
        · have n7' : ¬ ((j : Int) = 7) := by omega
          simp only [ev_tAnd, ev_tB1, ev_e2, ev_eVs, ev_eV0, ev_eC, ev_bind_ok, i2, q2, ev_ofO_some, eq_int, decide_eq_false n7']
  obtain ⟨v, rv, T9, T10, T11⟩ := key
  obtain ⟨y8, lp⟩ := wrong_loop _ (.val (.lst (ns.map D.int))) (.val t.d) (.val (.lst (ntl N))) (.val (.str (Tx t.tx))) (.val (.int (p : Int))) (.val (.str (Tx [c]))) (.val (.str (Tx u))) (.val v) .no wrongs
  have fin : eqD (.tup [.str (Tx wDo), .str (Tx wSeq)]) (.tup [.str (Tx wDo), .str (Tx wSeq)]) = some (.bl true) := by
    have hs : sh (.tup [.str (Tx wDo), .str (Tx wSeq)]) = true := sh_of (by simp only [D.txt, D.txts]; simp [Tx, wDo, wSeq]) (by decide)
    rw [eqD_nb rfl rfl hs hs]; simp
  rw [m_law, runF, hi, b_law]
  simp only [ev_sSeq, ev_sSet, ev_eCall, ev_aCons, ev_aNil, ev_eV0, ev_eVs, ev_eC, ev_bind_ok, hc0, hd0, ht, ev_bindF_ok, List.set_cons_succ, List.set_cons_zero, hc1, hd1, hx, ev_sIf, ev_tOr, ev_tB1, ev_e2, tt, ne1, ev_ofO_some, rd, ne2, ev_sNext, i0, ev_eB, lx, add_int, q0, s_signs, i1, q1, sg, te, i2, q2, hux, rv, T9, T10, T11, ev_sFor, ev_iSeq]
  simp only [ev_eTup, ev_aCons, ev_aNil, ev_eC, ev_bind_ok]
  rw [tup_if _ (by simp)]
  simp only [ev_ofO_some, ev_bind_ok, itD_tup, ev_bindF_ok, lp]
  simp only [ev_ofO_some, ev_bind_ok, ev_bindF_ok, ev_sRet, ev_e2, ev_eCall, ev_aCons, ev_aNil, ev_eC, s_seq, read_seq, s_do, ev_eTup]
  rw [tup_if _ (by simp)]
  simp only [ev_ofO_some, ev_bind_ok, fin, ev_bindF_ok]
end K90

set_option Elab.async false
set_option linter.all false
set_option maxRecDepth 100000
set_option maxHeartbeats 0
namespace K90
open PySem PySem.Spec PyProof.Rows L2 Dl
abbrev RR : PySem.W.OpenRow := PySem.W.OpenLaw.row PySem.Challenge.rw_tokenworks_k90_trees_as_texts
abbrev hk : PySem.W.Hook := He.hookX 6 fa fn [] tf ex
def ob (s : PySem.W.SharedT) : He.AlX := He.obsX 6 fa fn [] tf ex (HandSHeadRun.getT s)
theorem ob_eq (s : PySem.W.SharedT) : ob s = hk.obs s.abs := He.obsX_eq (HandSHeadRun.getT_eq s)
def loose : List Str := (["__name__", "NetError", "BadTree", "LETTERS", "SIGNS", "is_name", "KINDS", "MOST_DEEP", "MOST_LEAVES", "check_tree", "check_part", "leaves_of", "tree_text", "text_of", "read_tree", "read_part", "_law_cell", "_law_draws", "_law_tree", "_law_text", "_law_read"] : List Str)
theorem run (w : World) : HandSHeadRun.RunEq RR (PySem.W.view RR.prog [24]) hk ob 4000 loose w := by
  intro os
  kernel_rfl
end K90

set_option Elab.async false
set_option linter.all false
set_option maxRecDepth 100000
set_option maxHeartbeats 0
namespace K90
open PySem PySem.Spec PyProof.Rows L2 Dl
theorem at_law {w : World} {mg : Str → Option Value} {a : Addr} {h : Heap} (Y : hk.says w h) (G : h.Ns mainGlobals mg) (hmg : mg ("law" : Str) = some (.ref a)) : ∃ K : PySem.W.Frag, K.In h ∧ LamX.LawAtS PySem.Challenge.rw_tokenworks_k90_trees_as_texts w K (L2.CX (PySem.Challenge.rw_tokenworks_k90_trees_as_texts).prog w) 15 63 "script" mg a h := by
  obtain ⟨K, KX, c⟩ := Y
  have gl : mg ("law" : Str) = some (.ref (He.ga K "law")) := He.glo_ok KX G (He.SaysD.facts c.t.d (f := .glo "law") (by unfold fa; simp))
  have e := hmg.symm.trans gl
  cases e
  obtain ⟨fd, F⟩ := He.SaysD.defs c.t.d (d := d_fn_law) (by unfold fn; simp)
  have b := FunD.bindsA (ps := ["script"]) F fun _ _ _ _ _ _ us hl => match us, hl with | [_], _ => rfl
  refine ⟨K, KX, fd, tf.map (He.cT K), spD K (MoD K tf) 1 m_law, fun p hp => ?_, fun p hp => ?_, fun p hp => ?_, fun s u => b s [u] rfl, fun H a ns hl hb ht hS => ?_, fun base hk hg ht => ?_⟩
  · obtain ⟨q, hq, rfl⟩ := List.mem_map.mp hp
    exact c.empty q hq
  · obtain ⟨q, hq, rfl⟩ := List.mem_map.mp hp
    exact c.out q hq
  · obtain ⟨q, hq, rfl⟩ := List.mem_map.mp hp
    exact PySem.W.codeHd_of_K KX (c.hd q hq)
  · refine ent_law (plain ns hl hb) (fun a ⟨q, hq, e⟩ => e ▸ ht (He.cT K q) (List.mem_map_of_mem hq)) hS
  · exact ok_law (P := (PySem.Challenge.rw_tokenworks_k90_trees_as_texts).prog) (w := w) ⟨hk, hg, c.t.d, c.more, fun p hp => ht (He.cT K p) (List.mem_map_of_mem hp)⟩ F
end K90
open PySem PySem.W PySem.Calls PyProof.Rows
theorem PySem.Challenge.cw_tokenworks_k90_trees_as_texts_holds : PySem.Challenge.rw_tokenworks_k90_trees_as_texts.Holds := by
  w_on; o_law
  refine HandSHeadRun.head_any (r := OpenLaw.row PySem.Challenge.rw_tokenworks_k90_trees_as_texts) (q := view (OpenLaw.row PySem.Challenge.rw_tokenworks_k90_trees_as_texts).prog [24]) (H := K90.hk) (ob := K90.ob) (M := 4000) (loose := K90.loose) (d := HandSHeadRun.topDef (OpenLaw.row PySem.Challenge.rw_tokenworks_k90_trees_as_texts).prog 24) (kwd := []) K90.ob_eq
    (by kernel_rfl) (fun s => by kernel_rfl) K90.run (by kernel_rfl) (by kernel_rfl) (by kernel_rfl) (by rfl) (by first | assumption | decide +kernel) (by decide +kernel) ⟨rfl, rfl, rfl, rfl, rfl, by decide +kernel⟩ ?hw ?hc
  case hw => w_witness2
  case hc =>
    refine LamX.walk_ofTsE (l := PySem.Challenge.rw_tokenworks_k90_trees_as_texts) (n := 63) (k := 15) (x := "script") (CX := fun w => L2.CX (PySem.Challenge.rw_tokenworks_k90_trees_as_texts).prog w) rfl (by decide) (by kernel_rfl) ⟨rfl, by decide, by decide⟩ ?F ?C
    case F =>
      intro w mg fa h Y G hmg0
      have hmg : mg ("law" : PySem.Str) = some (.ref fa) := by
        have e : (HandSHeadRun.topDef (OpenLaw.row PySem.Challenge.rw_tokenworks_k90_trees_as_texts).prog 24).name = ("law" : PySem.Str) := by kernel_rfl
        rw [← e]
        exact hmg0
      exact K90.at_law Y G hmg
    case C =>
      intro w H s e s' z
      obtain ⟨_, _, _, _, _, _, _, _, _, _, _, w⟩ := z
      exact w.2

