import PyProof.Rows.All
import Wide.All
import OpenK.AllK
import Wide.FinOn
import PyProof.EqAt
import PyProof.EqKinds
import PyProof.TupleCall
import HandS.ForMost
import HandS.ForExc
import HandS.Deep
import HandS.TupAny
import HandS.TupMul
import HandS.AnyAll
import HandS.HeadHook4
import HandS.Strs
import KE.KeyNested
import HandS.IsInst
import HandS.ReplaceLit
import PyProof.GenQ
import HandS.GenOver
import HandS.Nested
import HandS.HeadWalk
import HandS.FStr
import HandS.Text
import HandS.RaiseMore
import HandS.CallSlots
import HandS.Conv
import KE.KDictDisplayH
import HandS.Rev
import HandS.Keys
import HandS.MakeKwOnly
import HandS.TryMany
import HandS.SortInts
import HandS.Style
import KE.DataMinMax
import HandS.RevTup
import PyProof.ListNew
import PyProof.SeqWrite
import PyProof.ListRange
import KE.KSortTupG
import KE.KSortTupUse
import HandS.DictComp
import PyProof.TupleIter
import HandS.SetBool
import KE.SortData
import PyProof.CollectStr
import HandS.Lambda
import HandS.SortKw
import KE.SortKeyHeap
import HandS.Iter
import KE.KDictCopyH
import HandS.TupSets
import HandS.Remove
import KE.DataMinKey
import HandS.TupLen
import HandS.ReplaceList
import PySem.Challenge.RW_tokenworks_k89_words_of_trees
import HandS.Head2
import HandS.HeadEnd
set_option Elab.async false
set_option linter.all false
set_option maxRecDepth 100000
set_option maxHeartbeats 2000000
/-! Tuples that are known to have no dict: made so, kept so; their index and count. -/
namespace Dl
open PySem PySem.Spec PyProof.Rows L2

/-- the object at a has no dict, as far as it is known -/
def Nd (K : PySem.W.Frag) (H : Hp) (a : Addr) : Prop := (∃ o u, H a = some (.frz o u) ∧ o.dict = none) ∨ ∃ o, K.lookup a = some o ∧ o.dict = none
def SqU (K : PySem.W.Frag) (H : Hp) (a : Addr) (xs : List V) : Prop := SqT K H a xs ∧ Nd K H a
/-- a new tuple, frozen with its object -/
def NewT (H : Hp) (xs : List V) (Q : VK) : Prop := ∀ p o, H p = none → o.dict = none → Q (.ref p) (upd H p (.frz o (.tup xs)))
theorem SqU.of {K : PySem.W.Frag} {H : Hp} {a : Addr} {o : Obj} {xs : List V} (h : H a = some (.frz o (.tup xs))) (d : o.dict = none) : SqU K H a xs := ⟨.inl (.inr ⟨o, h⟩), .inl ⟨o, _, h, d⟩⟩
section
variable {X : Cx} {pins : List (Addr × Obj)} {σ : L2.St} {H : Hp} {s : Shared} {Q : VK}
theorem Inv.nd (I : Inv X pins σ H s) {a : Addr} (h : Nd X.K H a) : ∃ o, s.heap.get? a = some o ∧ o.dict = none := by
  rcases h with ⟨o, u, h, d⟩ | ⟨o, h, d⟩
  · exact ⟨o, (I.hok a _ h).1, d⟩
  · exact ⟨o, I.kIn a o h, d⟩
theorem Inv.newT (I : Inv X pins σ H s) {xs : List V} {its : List Value} {t' : Nat} {h' : Heap} (k : ∀ b u, s.heap.get? b = some u → h'.get? b = some u) (hn : h'.objs.size = s.heap.objs.size) (r : Vals xs its) (z : xs.length ≤ sizeLine) (q : NewT H xs Q) :
    EP X pins σ Q (.ref s.heap.objs.size) { s with heap := s.heap.push { cls := .type "tuple", data := .seq its.toArray }, toks := t' } := by
  have hf : H s.heap.objs.size = none := I.hok.fresh (Nat.le_refl _)
  refine ⟨.ref s.heap.objs.size, upd H s.heap.objs.size (.frz { cls := .type "tuple", data := .seq its.toArray } (.tup xs)), I.laid (t' := t') (fun b u e => Heap.get?_push_of_some _ e) (Nat.le_refl _) ?_, rfl, q _ _ hf rfl⟩
  exact ⟨Heap.get?_push_size _ rfl, z, its, r, ⟨_, Heap.get?_push_size _ rfl, rfl, _, rfl⟩⟩
theorem Inv.newT0 (I : Inv X pins σ H s) {xs : List V} {its : List Value} {t' : Nat} (r : Vals xs its) (z : xs.length ≤ sizeLine) (q : NewT H xs Q) :
    EP X pins σ Q (.ref s.heap.objs.size) { s with heap := s.heap.push { cls := .type "tuple", data := .seq its.toArray }, toks := t' } := Inv.newT (h' := s.heap) I (fun _ _ e => e) rfl r z q
end
section
variable {X : Cx} {es : List Expr} {t : TA} {pos : Pos}
def tTupF (t : TA) : TE := fun σ H Q => t σ H fun xs H1 => xs.length ≤ sizeLine ∧ NewT H1 xs Q
theorem pe_tupF {x1} (h : PA X es t) : PE X (.Tuple es x1 pos) (tTupF t) := by
  refine ⟨fun pins s σ H Q I hq => ?_⟩
  refine wpAny_Tuple_spliced (thn (h.run pos pins s σ H _ I hq) fun us s1 ⟨xs, H1, I1, r, z, q⟩ => ⟨by rw [← r.length]; exact z, ?_⟩)
  exact Inv.newT0 I1 r z q
theorem call_tuple_ofF : CallR X (.type "tuple") (fun xs H Q => ∃ p ys, xs = [.ref p] ∧ ((SqL X.K H p ys ∧ NewT H ys Q) ∨ (SqT X.K H p ys ∧ Q (.ref p) H))) := by
  intro pins s σ H xs us Q I r h
  obtain ⟨p, ys, rfl, h⟩ := h
  obtain ⟨u, rfl, rx⟩ := vals1 r
  cases rx
  rcases h with ⟨hq, q⟩ | ⟨hq, q⟩
  · obtain ⟨its, r', pl, hz⟩ := I.list hq
    have hlen := r'.length
    refine call_tuple_list pl.isList (fun h' kp => ?_) (by simp only [List.size_toArray] <;> omega)
    have I1 : Inv X pins σ H { s with heap := h' } := I.kept (t' := s.toks) kp
    exact Inv.newT0 I1 r' hz q
  · obtain ⟨its, r', pl, hz⟩ := I.tuple hq
    exact call_tuple_same pl ⟨.ref p, H, I, rfl, q⟩
def rCatF (K : PySem.W.Frag) : R2 := fun x y H Q => ∃ a b xs ys, x = .ref a ∧ y = .ref b ∧ SqT K H a xs ∧ SqT K H b ys ∧ xs.length + ys.length ≤ sizeLine ∧
  (xs = [] → Q (.ref b) H) ∧ (xs ≠ [] → ys = [] → Q (.ref a) H) ∧ (xs ≠ [] → ys ≠ [] → NewT H (xs ++ ys) Q)
theorem op_catF : OpR X (binaryOp .Add) (rCatF X.K) := by
  intro pins s σ H x y v u Q I rx ry h
  obtain ⟨a, b, xs, ys, rfl, rfl, ha, hb, hz, q0, q1, q2⟩ := h
  cases rx
  cases ry
  obtain ⟨its, r1, p1, _⟩ := I.tuple ha
  obtain ⟨its2, r2, p2, _⟩ := I.tuple hb
  by_cases hx : xs = []
  · subst hx
    cases r1
    exact cat_tup0 p1 p2 ⟨.ref b, H, I, rfl, q0 rfl⟩
  · refine HT.cat_tup p1 p2 (fun z => hx (r1.nil_iff.mp z)) (fun z => ⟨.ref a, H, I, rfl, q1 hx (r2.nil_iff.mp z)⟩) (fun z => ?_) (by rw [← r1.length, ← r2.length]; exact hz)
    exact Inv.newT0 (t' := s.toks) I (r1.append r2) (by rw [List.length_append]; exact hz) (q2 hx fun w => z (r2.nil_iff.mpr w))
def rSlF (K : PySem.W.Frag) : V → Option Int → Option Int → Hp → VK → Prop := fun x lo hi H Q => ∃ a xs, x = .ref a ∧ SqT K H a xs ∧
  (HT.sIx xs.length 0 lo = 0 ∧ HT.sIx xs.length xs.length hi = xs.length → Q (.ref a) H) ∧ (¬ (HT.sIx xs.length 0 lo = 0 ∧ HT.sIx xs.length xs.length hi = xs.length) → NewT H (cutV xs lo hi) Q)
theorem sl_tupF : SlR X (rSlF X.K) := by
  intro pins s σ H x v vl vu lo hi sl Q I rx hs pl pu h
  obtain ⟨a, xs, rfl, hx, q1, q2⟩ := h
  cases rx
  obtain ⟨its, r, ht, hz⟩ := I.tuple hx
  have hlen : its.toArray.size = xs.length := by rw [List.size_toArray]; exact r.length.symm
  refine ⟨"tuple", _, PyProof.Rows.slot_tuple_getitem.lookup, ht.typeIs, ?_⟩
  by_cases hw : HT.sIx xs.length 0 lo = 0 ∧ HT.sIx xs.length xs.length hi = xs.length
  · exact getItem_tuple_whole ht hs pl pu (by rw [hlen]; exact hw) ⟨.ref a, H, I, rfl, q1 hw⟩
  · refine HT.getItem_tuple_cut ht hs pl pu (by rw [hlen]; exact hw) ?_ (by rw [hlen]; exact hz)
    rw [hlen]
    exact Inv.newT0 (t' := s.toks) I ((r.drop (HT.sIx xs.length 0 lo)).take (HT.sIx xs.length xs.length hi - HT.sIx xs.length 0 lo)) (Nat.le_trans (cutV_length xs lo hi) hz) (q2 hw)
end

/-! ### a builtin's method on a value without a dict -/
section
variable {X : Cx} {o e : Expr} {es : List Expr} {to : TE} {t : TA} {name : Str} {apos cpos : Pos} {T id : String} {r : V → List V → Hp → VK → Prop}
/-! ### index and count -/
end
end Dl

set_option Elab.async false
set_option linter.all false
set_option maxRecDepth 100000
set_option maxHeartbeats 2000000
/-! A layer over HandS: values as plain data (D), defs as plain functions over data. -/
namespace Dl
open PySem PySem.Spec PyProof.Rows L2

/-! ### data -/
inductive D where
  | non
  | bl (b : Bool)
  | int (i : Int)
  | str (x : Str)
  | tup (xs : List D)
  | lst (xs : List D)
  /-- an instance of the class c: its attributes' names and values -/
  | obj (c : String) (fl : List String) (xs : List D)
  /-- a dict: keys that are ints and texts; keys that are tuples -/
  | dk (ks : List Key) (xs : List D)
  | dt (ks xs : List D)
  deriving Inhabited

mutual
def D.beq : D → D → Bool
  | .non, e => match e with | .non => true | _ => false
  | .bl a, e => match e with | .bl b => a == b | _ => false
  | .int a, e => match e with | .int b => a == b | _ => false
  | .str a, e => match e with | .str b => a == b | _ => false
  | .tup a, e => match e with | .tup b => D.beqs a b | _ => false
  | .lst a, e => match e with | .lst b => D.beqs a b | _ => false
  | .obj c fl a, e => match e with | .obj c' fl' b => decide (c = c') && (decide (fl = fl') && D.beqs a b) | _ => false
  | .dk ks a, e => match e with | .dk ks' b => decide (ks = ks') && D.beqs a b | _ => false
  | .dt ks a, e => match e with | .dt ks' b => D.beqs ks ks' && D.beqs a b | _ => false
def D.beqs : List D → List D → Bool
  | [], e => match e with | [] => true | _ => false
  | x :: xs, e => match e with | y :: ys => D.beq x y && D.beqs xs ys | [] => false
end
mutual
theorem D.beq_iff : ∀ a b : D, D.beq a b = true ↔ a = b
  | .non, b => by cases b <;> simp [D.beq]
  | .bl _, b => by cases b <;> simp [D.beq]
  | .int _, b => by cases b <;> simp [D.beq]
  | .str _, b => by cases b <;> simp [D.beq]
  | .tup xs, b => by cases b <;> simp [D.beq, D.beqs_iff xs]
  | .lst xs, b => by cases b <;> simp [D.beq, D.beqs_iff xs]
  | .obj c fl xs, b => by cases b <;> simp [D.beq, D.beqs_iff xs]
  | .dk ks xs, b => by cases b <;> simp [D.beq, D.beqs_iff xs]
  | .dt ks xs, b => by cases b <;> simp [D.beq, D.beqs_iff xs, D.beqs_iff ks]
theorem D.beqs_iff : ∀ a b : List D, D.beqs a b = true ↔ a = b
  | [], b => by cases b <;> simp [D.beqs]
  | x :: xs, b => by cases b <;> simp [D.beqs, D.beq_iff x, D.beqs_iff xs]
end
instance : DecidableEq D := fun a b => decidable_of_iff (D.beq a b = true) (D.beq_iff a b)

/-- a result: a value, an exception of a class, or what this layer does not speak of -/
inductive R (α : Type) where
  | ok (a : α)
  | exc (c : String)
  | bad
def R.bind {α β : Type} (r : R α) (f : α → R β) : R β := match r with
  | .ok a => f a
  | .exc c => .exc c
  | .bad => .bad
instance : Monad R where
  pure := R.ok
  bind := R.bind
theorem R.bind_ok {α β : Type} (a : α) (f : α → R β) : (R.ok a >>= f) = f a := rfl
theorem R.bind_exc {α β : Type} (c : String) (f : α → R β) : ((R.exc c : R α) >>= f) = R.exc c := rfl
theorem R.bind_bad {α β : Type} (f : α → R β) : ((R.bad : R α) >>= f) = R.bad := rfl
/-! ### keys -/
mutual
/-- the data as a key (True is 1) -/
def D.key : D → Option NestedKey
  | .non => some .none
  | .bl b => some (.num (if b then 1 else 0))
  | .int i => some (.num i)
  | .str x => some (.text x)
  | .tup xs => (D.keyAll xs).map .tup
  | .lst _ => none
  | .obj .. => none
  | .dk .. => none
  | .dt .. => none
def D.keyAll : List D → Option (List NestedKey)
  | [] => some []
  | x :: xs => (D.key x).bind fun k => (D.keyAll xs).map fun r => k :: r
end

/-! ### data in the heap -/
/-- the world of the module: what is known of it, the program, the outer world -/
structure Kw where
  k : PySem.W.Frag
  P : Program
  w : World
instance : Coe Kw PySem.W.Frag := ⟨Kw.k⟩
abbrev kwX (X : Cx) : Kw := ⟨X.K, X.prog, X.w⟩
/-- the object at p is just o -/
def dtO (p : Addr) (o : Obj) : HO := .ext fun h => h.get? p = some o
/-- o is a dict with the keys ks (standing at kas) and the values vs -/
def DtR (K : Kw) (p : Addr) (o : Obj) (ks : List D) (kas vs : List V) : Prop :=
  (p == sysModules) = false ∧ o.ExactDict ∧ ∃ (es : Array DictEntry) (ep : Nat) (xs : List (NestedKey × Addr × Value)), o.data = .dict es ep ∧ es.toList = xs.map (entryOfKey (nestedKind K.P K.w)) ∧ (xs.map (·.1)).Nodup ∧ xs.length ≤ sizeLine ∧
    ks.map D.key = xs.map (fun x => some x.1) ∧ (∀ x ∈ xs, x.1.depth ≤ 8) ∧ kas = xs.map (fun x => V.ref x.2.1) ∧ Vals vs (xs.map (·.2.2))
mutual
def Rep (K : Kw) (H : Hp) : D → V → Prop
  | .non, v => v = .non
  | .bl b, v => v = .bl b
  | .int i, v => v = .int i
  | .str x, v => v = .str x
  | .tup ds, v => ∃ a vs, v = .ref a ∧ SqU K H a vs ∧ Reps K H ds vs
  | .lst ds, v => ∃ a vs, v = .ref a ∧ SqL K H a vs ∧ Reps K H ds vs
  | .obj c fl ds, v => ∃ a q vs, v = .ref a ∧ H a = some (.ins (He.ga K (Str.ofString c)) q ((fl.map Str.ofString).zip vs)) ∧ Reps K H ds vs
  | .dk ks ds, v => ∃ a vs, v = .ref a ∧ H a = some (.dK (ks.zip vs)) ∧ ks.length = ds.length ∧ Reps K H ds vs
  | .dt ks ds, v => ∃ a o kas vs, v = .ref a ∧ H a = some (dtO a o) ∧ DtR K a o ks kas vs ∧ Reps K H ks kas ∧ Reps K H ds vs
def Reps (K : Kw) (H : Hp) : List D → List V → Prop
  | [], vs => vs = []
  | d :: ds, vs => ∃ v r, vs = v :: r ∧ Rep K H d v ∧ Reps K H ds r
end

/-- all that is tracked stays -/
def Le (H H' : Hp) : Prop := ∀ a o, H a = some o → H' a = some o
theorem Le.refl {H : Hp} : Le H H := fun _ _ h => h
theorem Le.trans {H H1 H2 : Hp} (a : Le H H1) (b : Le H1 H2) : Le H H2 := fun x o h => b x o (a x o h)
theorem Le.rd {H H' : Hp} (l : Le H H') {a : Addr} {u : HO} (r : Rd H a u) : Rd H' a u := by
  rcases r with r | ⟨o, r⟩
  · exact .inl (l _ _ r)
  · exact .inr ⟨o, l _ _ r⟩
section
variable {G G' H H' : Hp}
section
variable {K : PySem.W.Frag}
theorem Le.sqL (l : Le H H') {a : Addr} {xs : List V} (h : SqL K H a xs) : SqL K H' a xs := h.imp l.rd id
theorem Le.sqT (l : Le H H') {a : Addr} {xs : List V} (h : SqT K H a xs) : SqT K H' a xs := h.imp l.rd id
theorem Le.nd (l : Le H H') {a : Addr} (h : Nd K H a) : Nd K H' a := h.imp (fun ⟨o, u, h, d⟩ => ⟨o, u, l _ _ h, d⟩) id
theorem Le.sqU (l : Le H H') {a : Addr} {xs : List V} (h : SqU K H a xs) : SqU K H' a xs := ⟨l.sqT h.1, l.nd h.2⟩
end
variable {K : Kw}
mutual
theorem Rep.mono (l : Le H H') : ∀ (d : D) (v : V), Rep K H d v → Rep K H' d v
  | .non, _, h => h
  | .bl _, _, h => h
  | .int _, _, h => h
  | .str _, _, h => h
  | .tup ds, _, ⟨a, vs, e, s, r⟩ => ⟨a, vs, e, l.sqU s, Reps.mono l ds vs r⟩
  | .lst ds, _, ⟨a, vs, e, s, r⟩ => ⟨a, vs, e, l.sqL s, Reps.mono l ds vs r⟩
  | .obj _ _ ds, _, ⟨a, q, vs, e, s, r⟩ => ⟨a, q, vs, e, l a _ s, Reps.mono l ds vs r⟩
  | .dk _ ds, _, ⟨a, vs, e, s, hl, r⟩ => ⟨a, vs, e, l a _ s, hl, Reps.mono l ds vs r⟩
  | .dt ks ds, _, ⟨a, o, kas, vs, e, s, t, q, r⟩ => ⟨a, o, kas, vs, e, l a _ s, t, Reps.mono l ks kas q, Reps.mono l ds vs r⟩
theorem Reps.mono (l : Le H H') : ∀ (ds : List D) (vs : List V), Reps K H ds vs → Reps K H' ds vs
  | [], _, h => h
  | d :: ds, _, ⟨v, r, e, h1, h2⟩ => ⟨v, r, e, Rep.mono l d v h1, Reps.mono l ds r h2⟩
end
theorem Reps.length : ∀ {ds : List D} {vs : List V}, Reps K H ds vs → vs.length = ds.length
  | [], _, h => by cases h; rfl
  | d :: ds, _, ⟨v, r, e, _, h⟩ => by rw [e, List.length_cons, List.length_cons, Reps.length h]
theorem Reps.append : ∀ {ds es : List D} {vs ws : List V}, Reps K H ds vs → Reps K H es ws → Reps K H (ds ++ es) (vs ++ ws)
  | [], _, _, _, h, g => by cases h; exact g
  | d :: ds, _, _, _, ⟨v, r, e, h1, h2⟩, g => by rw [e]; exact ⟨v, _, rfl, h1, Reps.append h2 g⟩
theorem Reps.get : ∀ {ds : List D} {vs : List V} {i : Nat} {d : D}, Reps K H ds vs → ds[i]? = some d → ∃ v, vs[i]? = some v ∧ Rep K H d v
  | [], _, _, _, _, h => by simp at h
  | d :: ds, _, 0, _, ⟨v, r, e, h1, h2⟩, h => by rw [e]; simp at h; subst h; exact ⟨v, rfl, h1⟩
  | d :: ds, _, i + 1, _, ⟨v, r, e, h1, h2⟩, h => by
    rw [e]
    obtain ⟨w, e', h'⟩ := Reps.get (i := i) h2 (by simpa using h)
    exact ⟨w, by simpa using e', h'⟩
theorem Reps.take : ∀ {ds : List D} {vs : List V} (n : Nat), Reps K H ds vs → Reps K H (ds.take n) (vs.take n)
  | _, _, 0, _ => by rw [List.take_zero, List.take_zero]; exact rfl
  | [], _, n + 1, h => by cases h; exact rfl
  | d :: ds, _, n + 1, ⟨v, r, e, h1, h2⟩ => by rw [e]; exact ⟨v, _, rfl, h1, Reps.take n h2⟩
theorem Reps.drop : ∀ {ds : List D} {vs : List V} (n : Nat), Reps K H ds vs → Reps K H (ds.drop n) (vs.drop n)
  | _, _, 0, h => h
  | [], _, n + 1, h => by cases h; exact rfl
  | d :: ds, _, n + 1, ⟨v, r, e, h1, h2⟩ => by rw [e]; exact Reps.drop n h2
theorem Reps.set : ∀ {ds : List D} {vs : List V} (n : Nat) {d : D} {v : V}, Reps K H ds vs → Rep K H d v → Reps K H (ds.set n d) (vs.set n v)
  | [], _, _, _, _, h, _ => by cases h; exact rfl
  | d :: ds, _, 0, _, _, ⟨v, r, e, h1, h2⟩, g => by rw [e]; exact ⟨_, _, rfl, g, h2⟩
  | d :: ds, _, n + 1, _, _, ⟨v, r, e, h1, h2⟩, g => by rw [e]; exact ⟨_, _, rfl, h1, Reps.set n h2 g⟩
theorem Reps.one {d : D} {v : V} (h : Rep K H d v) : Reps K H [d] [v] := ⟨v, [], rfl, h, rfl⟩
/-- the tables of code objects: of generators, of lambdas (with the lambda's name) -/
abbrev pk (p : Pos) : Nat × Nat := (p.line, p.col)
structure Tb where
  gen : Addr → Nat × Nat → Prop
  lam : Addr → Nat × Nat → Str → Prop
  dis : ∀ a k q, lam a k q → ¬ gen a k
  one : ∀ a k q q', lam a k q → lam a k q' → q = q'
def Tb.on (t : Tb) (a : Addr) : Prop := (∃ k, t.gen a k) ∨ ∃ k q, t.lam a k q
instance : CoeFun Tb (fun _ => Addr → Prop) := ⟨Tb.on⟩
/-- the code object at c bears the name q, for good -/
def CodeK (G : Hp) (c : Addr) (q : Str) : Prop := ∃ (oc : Obj) (u : HO) (vs : Array Value) (t : Tok), G c = some (.frz oc u) ∧ oc.data = .fields vs ∧ vs[1]? = some (.str q t)
/-- a table of code objects; the codes of a lambda's table are known -/
def TabD (t : Tb) (G H : Hp) (a : Addr) : Prop := ∃ ps : Array Value, H a = some (.tbl ps) ∧ TriplesOk ps.toList ∧ ∀ (pos : Pos) (q : Str), t.lam a (pk pos) q → ∀ cv : Value, codeAmong pos ps.toList = some cv → ∃ c, cv = .ref c ∧ CodeK G c q
theorem TabD.tab {t : Tb} {G H : Hp} {a : Addr} (h : TabD t G H a) : GxR.TabG H a := let ⟨ps, e, r, _⟩ := h; ⟨ps, e, r⟩
theorem TabD.mono {t : Tb} {G G' H : Hp} {a : Addr} (h : TabD t G H a) (l : Le G G') : TabD t G' H a := by
  obtain ⟨ps, e, r, k⟩ := h
  exact ⟨ps, e, r, fun pos q hq cv hc => let ⟨c, e1, oc, u, vs, t, e2, e3⟩ := k pos q hq cv hc; ⟨c, e1, oc, u, vs, t, l _ _ e2, e3⟩⟩
/-- H' is H but for the table at P, which has grown by at most a code for the place pos -/
def TabX (P : Addr) (pos : Pos) (H H' : Hp) : Prop := (∃ ps ps' : Array Value, H P = some (.tbl ps) ∧ H' P = some (.tbl ps') ∧ TriplesOk ps'.toList ∧ ∀ p cv, pk p ≠ pk pos → codeAmong p ps'.toList = some cv → codeAmong p ps.toList = some cv) ∧ ∀ b, b ≠ P → H' b = H b
/-- what is frozen grows, what others own stays; tables of code objects (tp) grow -/
def Tr (tp : Tb) (G H G' H' : Hp) : Prop := Le G G' ∧ Le G' H' ∧ (∀ a o, G a = none → ¬ tp a → H a = some o → H' a = some o ∧ G' a = none) ∧ ∀ a, tp a → G a = none → TabD tp G H a → TabD tp G' H' a ∧ G' a = none
theorem Tr.refl {tp : Tb} (l : Le G H) : Tr tp G H G H := ⟨.refl, l, fun _ _ n _ h => ⟨h, n⟩, fun _ _ n h => ⟨h, n⟩⟩
theorem Tr.trans {tp : Tb} {G1 H1 G2 H2 : Hp} (a : Tr tp G H G1 H1) (b : Tr tp G1 H1 G2 H2) : Tr tp G H G2 H2 :=
  ⟨a.1.trans b.1, b.2.1, fun x o n nt h => let ⟨h1, n1⟩ := a.2.2.1 x o n nt h; b.2.2.1 x o n1 nt h1, fun x t n h => let ⟨h1, n1⟩ := a.2.2.2 x t n h; b.2.2.2 x t n1 h1⟩
theorem none_of_le (l : Le G H) {p : Addr} (n : H p = none) : G p = none := by
  cases e : G p with
  | none => rfl
  | some u => rw [l p u e] at n; cases n
theorem Le.up (l : Le G H) (p : Addr) (o : HO) : Le (upd G p o) (upd H p o) := fun a u h => by
  by_cases e : a = p
  · subst e; rw [upd_same] at h ⊢; exact h
  · rw [upd_ne e] at h ⊢; exact l a u h
theorem Le.new {p : Addr} {o : HO} (n : H p = none) : Le H (upd H p o) := fun a u h => by
  rw [upd_ne (ne_of_none h n)]; exact h
theorem tab_new {tp : Tb} {p a : Addr} {o : HO} (n : H p = none) (h : TabD tp G H a) : a ≠ p ∧ TabD tp G (upd H p o) a := by
  obtain ⟨ps, e, t⟩ := h
  have z : a ≠ p := ne_of_none e n
  exact ⟨z, ps, by rw [upd_ne z]; exact e, t⟩
/-- a new object, frozen at once -/
theorem Tr.new {tp : Tb} (l : Le G H) {p : Addr} {o : HO} (n : H p = none) : Tr tp G H (upd G p o) (upd H p o) :=
  ⟨Le.new (none_of_le l n), l.up p o, fun a u e _ h => by
    have z : a ≠ p := ne_of_none h n
    rw [upd_ne z, upd_ne z]; exact ⟨h, e⟩, fun a _ e h => by
    obtain ⟨z, t⟩ := tab_new (o := o) n h
    rw [upd_ne z]; exact ⟨t.mono (Le.new (none_of_le l n)), e⟩⟩
/-- a new object that is not spoken of -/
theorem Tr.junk {tp : Tb} (l : Le G H) {p : Addr} {o : HO} (n : H p = none) : Tr tp G H G (upd H p o) :=
  ⟨.refl, fun a u h => (by rw [upd_ne (ne_of_none (l a u h) n)]; exact l a u h), fun a u e _ h => ⟨by rw [upd_ne (ne_of_none h n)]; exact h, e⟩, fun a _ e h => ⟨(tab_new n h).2, e⟩⟩
end

/-! ### slots -/
/-- a thing of one's own, changed in its place (lol: a list of lists) -/
inductive O where
  | lst (ds : List D)
  | lol (dss : List (List D))
  | ins (c : String) (a : Addr) (fl : List String) (xs : List D)
  | dk (ks : List Key) (xs : List D)
  | dt (ks xs : List D)
  deriving Inhabited
instance : Coe (List D) O := ⟨O.lst⟩
def O.vals : O → List D
  | .lst ds => ds
  | .lol _ => []
  | .ins _ _ _ xs => xs
  | .dk _ xs => xs
  | .dt _ xs => xs
/-- one object alone -/
def O.one : O → Bool
  | .lol _ => false
  | _ => true
def O.ho (K : Kw) (q : Addr × Obj) (vs : List V) : O → HO
  | .lst _ => .lst vs
  | .lol _ => .lst vs
  | .ins c _ fl _ => .ins (He.ga K (Str.ofString c)) q.1 ((fl.map Str.ofString).zip vs)
  | .dk ks _ => .dK (ks.zip vs)
  | .dt _ _ => dtO q.1 q.2
/-- what is asked besides: an instance in the making stands at its own place; a dict's object has its keys -/
def O.loc (K : Kw) (G : Hp) (p : Addr) (q : Addr × Obj) (vs : List V) : O → Prop
  | .ins _ a _ _ => p = a
  | .dk ks xs => ks.length = xs.length
  | .dt ks _ => q.1 = p ∧ ∃ kas, DtR K p q.2 ks kas vs ∧ Reps K G ks kas
  | _ => True
/-- as data, when it changes no more -/
def O.d : O → D
  | .lst ds => .lst ds
  | .lol dss => .lst (dss.map .lst)
  | .ins c _ fl xs => .obj c fl xs
  | .dk ks xs => .dk ks xs
  | .dt ks xs => .dt ks xs
theorem O.loc_mono {K : Kw} {G G' : Hp} {p : Addr} {q : Addr × Obj} {vs : List V} {o : O} (l : Le G G') (h : o.loc K G p q vs) : o.loc K G' p q vs := by
  cases o with
  | dt ks xs => obtain ⟨e, kas, t, r⟩ := h; exact ⟨e, kas, t, Reps.mono l _ _ r⟩
  | _ => exact h
theorem O.not_tab {K : Kw} {q : Addr × Obj} {vs : List V} {o : O} {ps : Array Value} : o.ho K q vs ≠ .tbl ps := by
  cases o <;> exact fun h => by cases h
theorem O.rep {K : Kw} {G : Hp} {p : Addr} {q : Addr × Obj} {vs : List V} {o : O} (one : o.one = true) (h : G p = some (o.ho K q vs)) (lo : o.loc K G p q vs) (r : Reps K G o.vals vs) : Rep K G o.d (.ref p) := by
  cases o with
  | lst ds => exact ⟨p, vs, rfl, SqL.of h, r⟩
  | lol _ => cases one
  | ins c a fl xs => exact ⟨p, q.1, vs, rfl, h, r⟩
  | dk ks xs => exact ⟨p, vs, rfl, h, lo, r⟩
  | dt ks xs =>
    obtain ⟨e, kas, t, rk⟩ := lo
    obtain ⟨q1, q2⟩ := q
    cases e
    exact ⟨_, q2, kas, vs, rfl, h, t, rk, r⟩
/-- any -/
def noQ : Addr × Obj := (0, ⟨.none, none, .fields #[], #[]⟩)
inductive S where
  | no
  | val (d : D)
  | own (o : O)
  deriving Inhabited
abbrev Env := List S
/-- the inner lists stand at as -/
def Inner (K : Kw) (G H : Hp) : List (List D) → List Addr → Prop
  | [], as => as = []
  | ds :: dss, as => ∃ a r, as = a :: r ∧ (∃ ws, H a = some (.lst ws) ∧ Reps K G ds ws) ∧ Inner K G H dss r
/-- the thing o stands at p, its values frozen; fp: where it and its parts stand -/
def OwnAt (K : Kw) (Fo G H : Hp) (o : O) (p : Addr) (fp : List Addr) : Prop := (∀ a ∈ fp, G a = none ∧ Fo a = none) ∧
  ((∃ (q : Addr × Obj) (vs : List V), o.one = true ∧ fp = [p] ∧ o.loc K G p q vs ∧ H p = some (o.ho K q vs) ∧ Reps K G o.vals vs) ∨
   ∃ (dss : List (List D)) (as : List Addr), o = .lol dss ∧ fp = p :: as ∧ fp.Nodup ∧ H p = some (.lst (as.map V.ref)) ∧ Inner K G H dss as)

structure ER (K : Kw) (tp : Tb) (Fo G H : Hp) (δ : Env) (σ : L2.St) : Prop where
  gh : Le G H
  fh : Le Fo H
  fg : ∀ a o, Fo a = some o → G a = none ∧ ¬ tp a
  tb : ∀ a, tp a → TabD tp G H a ∧ G a = none
  len : δ.length = σ.length
  val : ∀ (i : Nat) (d : D), δ[i]? = some (.val d) → ∃ v : V, σ[i]? = some (some v) ∧ Rep K G d v
  own : ∃ ft : Nat → List Addr, (∀ (i : Nat) (o : O), δ[i]? = some (.own o) → ∃ p : Addr, σ[i]? = some (some (.ref p)) ∧ OwnAt K Fo G H o p (ft i)) ∧
    ∀ (i j : Nat) (o u : O), δ[i]? = some (.own o) → δ[j]? = some (.own u) → i ≠ j → ∀ a ∈ ft i, a ∉ ft j
section
variable {K : Kw} {tp : Tb} {Fo G H G' H' : Hp} {δ : Env} {σ : L2.St}
theorem OwnAt.mem {o : O} {p : Addr} {fp : List Addr} (h : OwnAt K Fo G H o p fp) : p ∈ fp := by
  obtain ⟨_, ⟨q, vs, _, e, _⟩ | ⟨dss, as, _, e, _⟩⟩ := h
  · rw [e]; exact List.mem_cons_self
  · rw [e]; exact List.mem_cons_self
theorem Inner.mem {dss : List (List D)} {as : List Addr} : Inner K G H dss as → ∀ a ∈ as, ∃ ws, H a = some (.lst ws) := by
  induction dss generalizing as with
  | nil => intro h a ha; cases h; cases ha
  | cons ds dss ih =>
    rintro ⟨b, r, e, ⟨ws, h1, _⟩, h2⟩ a ha
    subst e
    rcases List.mem_cons.mp ha with rfl | ha
    · exact ⟨ws, h1⟩
    · exact ih h2 a ha
theorem Inner.mono {dss : List (List D)} {as : List Addr} (l : Le G G') : (∀ a ∈ as, ∀ o, H a = some o → H' a = some o) → Inner K G H dss as → Inner K G' H' dss as := by
  induction dss generalizing as with
  | nil => intro _ h; exact h
  | cons ds dss ih =>
    rintro k ⟨b, r, e, ⟨ws, h1, h3⟩, h2⟩
    subst e
    exact ⟨b, r, rfl, ⟨ws, k b List.mem_cons_self _ h1, Reps.mono l _ _ h3⟩, ih (fun a ha => k a (List.mem_cons_of_mem _ ha)) h2⟩
/-- each of the places holds a thing -/
theorem OwnAt.there {o : O} {p : Addr} {fp : List Addr} (h : OwnAt K Fo G H o p fp) : ∀ a ∈ fp, ∃ u, H a = some u ∧ ∀ ps, u ≠ .tbl ps := by
  obtain ⟨_, ⟨q, vs, _, e, _, h4, _⟩ | ⟨dss, as, _, e, _, h4, h5⟩⟩ := h
  · intro a ha
    rw [e, List.mem_singleton] at ha
    subst ha
    exact ⟨_, h4, fun ps => O.not_tab⟩
  · intro a ha
    rw [e] at ha
    rcases List.mem_cons.mp ha with rfl | ha
    · exact ⟨_, h4, fun ps z => by cases z⟩
    · obtain ⟨ws, h6⟩ := h5.mem a ha
      exact ⟨_, h6, fun ps z => by cases z⟩
theorem OwnAt.mono {o : O} {p : Addr} {fp : List Addr} (h : OwnAt K Fo G H o p fp) (l : Le G G') (k : ∀ a ∈ fp, ∀ u, H a = some u → H' a = some u) (n : ∀ a ∈ fp, G' a = none) : OwnAt K Fo G' H' o p fp := by
  obtain ⟨h0, h⟩ := h
  refine ⟨fun a ha => ⟨n a ha, (h0 a ha).2⟩, ?_⟩
  rcases h with ⟨q, vs, e1, e2, h3, h4, h5⟩ | ⟨dss, as, e1, e2, h3, h4, h5⟩
  · exact .inl ⟨q, vs, e1, e2, O.loc_mono l h3, k p (by rw [e2]; exact List.mem_cons_self) _ h4, Reps.mono l _ _ h5⟩
  · exact .inr ⟨dss, as, e1, e2, h3, k p (by rw [e2]; exact List.mem_cons_self) _ h4, h5.mono l fun a ha => k a (by rw [e2]; exact List.mem_cons_of_mem _ ha)⟩
theorem not_tp_of (tb : ∀ a, tp a → TabD tp G H a ∧ G a = none) {p : Addr} {u : HO} (h : H p = some u) (n : ∀ ps, u ≠ .tbl ps) : ¬ tp p := fun t => by
  obtain ⟨⟨ps, z, _⟩, _⟩ := tb p t
  rw [h] at z
  exact n ps (Option.some.inj z)
/-- a thing that is one object -/
theorem ER.own1 (e : ER K tp Fo G H δ σ) (i : Nat) (o : O) (h : δ[i]? = some (.own o)) (one : o.one = true) : ∃ p : Addr, σ[i]? = some (some (.ref p)) ∧ ∃ (q : Addr × Obj) (vs : List V), o.loc K G p q vs ∧ G p = none ∧ Fo p = none ∧ H p = some (o.ho K q vs) ∧ Reps K G o.vals vs := by
  obtain ⟨ft, ow, _⟩ := e.own
  obtain ⟨p, h1, h0, ⟨q, vs, _, e2, h3, h4, h5⟩ | ⟨dss, as, e1, _⟩⟩ := ow i o h
  · obtain ⟨n1, n2⟩ := h0 p (by rw [e2]; exact List.mem_cons_self)
    exact ⟨p, h1, q, vs, h3, n1, n2, h4, h5⟩
  · subst e1; cases one
theorem ER.tr (e : ER K tp Fo G H δ σ) (t : Tr tp G H G' H') : ER K tp Fo G' H' δ σ where
  gh := t.2.1
  fh := fun a o h => (t.2.2.1 a o (e.fg a o h).1 (e.fg a o h).2 (e.fh a o h)).1
  fg := fun a o h => ⟨(t.2.2.1 a o (e.fg a o h).1 (e.fg a o h).2 (e.fh a o h)).2, (e.fg a o h).2⟩
  tb := fun a h => t.2.2.2 a h (e.tb a h).2 (e.tb a h).1
  len := e.len
  val := fun i d h => let ⟨v, h1, h2⟩ := e.val i d h; ⟨v, h1, Rep.mono t.1 d v h2⟩
  own := by
    obtain ⟨ft, ow, sp⟩ := e.own
    refine ⟨ft, fun i o h => ?_, sp⟩
    obtain ⟨p, h1, h2⟩ := ow i o h
    have k : ∀ a ∈ ft i, ∀ u, H a = some u → H' a = some u ∧ G' a = none := fun a ha u hu => by
      obtain ⟨u', hu', nt⟩ := h2.there a ha
      exact t.2.2.1 a u (h2.1 a ha).1 (not_tp_of e.tb hu' nt) hu
    exact ⟨p, h1, h2.mono t.1 (fun a ha u hu => (k a ha u hu).1) fun a ha => let ⟨u, hu, _⟩ := h2.there a ha; (k a ha u hu).2⟩
theorem get_set_cases {α : Type} {l : List α} {i j : Nat} {a b : α} (h : (l.set i a)[j]? = some b) : (j = i ∧ b = a ∧ i < l.length) ∨ (j ≠ i ∧ l[j]? = some b) := by
  by_cases e : j = i
  · subst e
    rw [List.getElem?_set] at h
    simp at h
    by_cases q : j < l.length
    · simp [q] at h; exact .inl ⟨rfl, h.symm, q⟩
    · simp [q] at h
  · rw [List.getElem?_set_ne (Ne.symm e)] at h
    exact .inr ⟨e, h⟩
/-- a slot gets a frozen value -/
theorem ER.setVal (e : ER K tp Fo G H δ σ) (i : Nat) {d : D} {v : V} (r : Rep K G d v) : ER K tp Fo G H (δ.set i (.val d)) (σ.set i (some v)) where
  gh := e.gh
  fh := e.fh
  fg := e.fg
  tb := e.tb
  len := by rw [List.length_set, List.length_set]; exact e.len
  val := fun j c h => by
    rcases get_set_cases h with ⟨rfl, q, l⟩ | ⟨n, h⟩
    · cases q
      exact ⟨v, by rw [List.getElem?_set_self (by rw [← e.len]; exact l)], r⟩
    · obtain ⟨w, h1, h2⟩ := e.val j c h
      exact ⟨w, by rw [List.getElem?_set_ne (Ne.symm n)]; exact h1, h2⟩
  own := by
    obtain ⟨ft, ow, sp⟩ := e.own
    refine ⟨ft, fun j c h => ?_, fun j k c d h g ne => ?_⟩
    · rcases get_set_cases h with ⟨_, q, _⟩ | ⟨n, h⟩
      · cases q
      · obtain ⟨p, h1, h2⟩ := ow j c h
        exact ⟨p, by rw [List.getElem?_set_ne (Ne.symm n)]; exact h1, h2⟩
    · rcases get_set_cases h with ⟨_, q, _⟩ | ⟨n, h⟩
      · cases q
      · rcases get_set_cases g with ⟨_, q, _⟩ | ⟨m, g⟩
        · cases q
        · exact sp j k c d h g ne
/-- a slot is forgotten -/
theorem ER.setNo (e : ER K tp Fo G H δ σ) (i : Nat) (x : Option V) : ER K tp Fo G H (δ.set i .no) (σ.set i x) where
  gh := e.gh
  fh := e.fh
  fg := e.fg
  tb := e.tb
  len := by rw [List.length_set, List.length_set]; exact e.len
  val := fun j c h => by
    rcases get_set_cases h with ⟨_, q, _⟩ | ⟨n, h⟩
    · cases q
    · obtain ⟨w, h1, h2⟩ := e.val j c h
      exact ⟨w, by rw [List.getElem?_set_ne (Ne.symm n)]; exact h1, h2⟩
  own := by
    obtain ⟨ft, ow, sp⟩ := e.own
    refine ⟨ft, fun j c h => ?_, fun j k c d h g ne => ?_⟩
    · rcases get_set_cases h with ⟨_, q, _⟩ | ⟨n, h⟩
      · cases q
      · obtain ⟨p, h1, h2⟩ := ow j c h
        exact ⟨p, by rw [List.getElem?_set_ne (Ne.symm n)]; exact h1, h2⟩
    · rcases get_set_cases h with ⟨_, q, _⟩ | ⟨n, h⟩
      · cases q
      · rcases get_set_cases g with ⟨_, q, _⟩ | ⟨m, g⟩
        · cases q
        · exact sp j k c d h g ne
/-- one place's footprint put -/
def selF (i : Nat) (fp : List Addr) (ft : Nat → List Addr) (j : Nat) : List Addr := if j = i then fp else ft j
theorem selF_eq {i : Nat} {fp : List Addr} {ft : Nat → List Addr} : selF i fp ft i = fp := if_pos rfl
theorem selF_ne {i j : Nat} {fp : List Addr} {ft : Nat → List Addr} (h : j ≠ i) : selF i fp ft j = ft j := if_neg h
/-- a slot gets a thing of its own, whose places are new: not known, not another's; the heap may have grown -/
theorem ER.setOwnF (e : ER K tp Fo G H δ σ) (i : Nat) {p : Addr} {o : O} {fp : List Addr} (ow1 : OwnAt K Fo G H' o p fp) (new : ∀ a ∈ fp, H a = none) (k : Le H H') (tk : ∀ a, tp a → TabD tp G H' a) :
    ER K tp Fo G H' (δ.set i (.own o)) (σ.set i (some (.ref p))) where
  gh := e.gh.trans k
  fh := e.fh.trans k
  fg := e.fg
  tb := fun a t => ⟨tk a t, (e.tb a t).2⟩
  len := by rw [List.length_set, List.length_set]; exact e.len
  val := fun j c h => by
    rcases get_set_cases h with ⟨_, q, _⟩ | ⟨m, h⟩
    · cases q
    · obtain ⟨w, h1, h2⟩ := e.val j c h
      exact ⟨w, by rw [List.getElem?_set_ne (Ne.symm m)]; exact h1, h2⟩
  own := by
    obtain ⟨ft, ow, sp⟩ := e.own
    have far : ∀ j c, δ[j]? = some (.own c) → ∀ a ∈ ft j, a ∉ fp := fun j c h a ha hb => by
      obtain ⟨p', _, h2⟩ := ow j c h
      obtain ⟨u, hu, _⟩ := h2.there a ha
      rw [new a hb] at hu; cases hu
    refine ⟨selF i fp ft, fun j c h => ?_, fun j l c d h g ne => ?_⟩
    · rcases get_set_cases h with ⟨rfl, z, l⟩ | ⟨m, h⟩
      · cases z
        exact ⟨p, by rw [List.getElem?_set_self (by rw [← e.len]; exact l)], by rw [selF_eq]; exact ow1⟩
      · obtain ⟨p', h1, h2⟩ := ow j c h
        refine ⟨p', by rw [List.getElem?_set_ne (Ne.symm m)]; exact h1, ?_⟩
        rw [selF_ne m]
        exact h2.mono .refl (fun a _ u hu => k a u hu) fun a ha => (h2.1 a ha).1
    · rcases get_set_cases h with ⟨rfl, _, _⟩ | ⟨m, h'⟩
      · rcases get_set_cases g with ⟨rfl, _, _⟩ | ⟨m', g'⟩
        · exact absurd rfl ne
        · intro a ha hb
          rw [selF_eq] at ha
          rw [selF_ne m'] at hb
          exact far l d g' a hb ha
      · rcases get_set_cases g with ⟨rfl, _, _⟩ | ⟨m', g'⟩
        · intro a ha hb
          rw [selF_ne m] at ha
          rw [selF_eq] at hb
          exact far j c h' a ha hb
        · intro a ha hb
          rw [selF_ne m] at ha
          rw [selF_ne m'] at hb
          exact sp j l c d h' g' ne a ha hb
/-- a slot gets a new thing of its own, at p -/
theorem ER.setOwn (e : ER K tp Fo G H δ σ) (i : Nat) {p : Addr} {q : Addr × Obj} {o : O} {vs : List V} (n : H p = none) (r : Reps K G o.vals vs) (lo : o.loc K G p q vs := by exact True.intro) (one : o.one = true := by rfl) :
    ER K tp Fo G (upd H p (o.ho K q vs)) (δ.set i (.own o)) (σ.set i (some (.ref p))) :=
  e.setOwnF i (fp := [p]) ⟨fun a ha => by rw [List.mem_singleton] at ha; subst ha; exact ⟨none_of_le e.gh n, none_of_le e.fh n⟩, .inl ⟨q, vs, one, rfl, lo, upd_same, r⟩⟩
    (fun a ha => by rw [List.mem_singleton] at ha; subst ha; exact n) (Le.new n) fun a t => (tab_new n (e.tb a t).1).2
/-- a thing of one's own is changed in its place, the places fp changed alone -/
theorem ER.chgOwnF (e : ER K tp Fo G H δ σ) (i : Nat) {p : Addr} {o u : O} (h : δ[i]? = some (.own o)) (hp : σ[i]? = some (some (.ref p)))
    (ch : ∀ fp, OwnAt K Fo G H o p fp → ∃ fq, OwnAt K Fo G H' u p fq ∧ (∀ a ∈ fq, a ∈ fp ∨ H a = none) ∧ ∀ a, a ∉ fp → ∀ w, H a = some w → H' a = some w) : ER K tp Fo G H' (δ.set i (.own u)) σ := by
  obtain ⟨ft, ow, sp⟩ := e.own
  obtain ⟨p', h1, h2⟩ := ow i o h
  rw [hp] at h1; cases h1
  obtain ⟨fq, o2, sub, keep⟩ := ch _ h2
  have out : ∀ a, G a ≠ none ∨ Fo a ≠ none → a ∉ ft i := fun a ha hb => by
    obtain ⟨n1, n2⟩ := h2.1 a hb
    rcases ha with ha | ha
    · exact ha n1
    · exact ha n2
  refine ⟨fun a x z => keep a (out a (.inl (by rw [z]; exact fun z => by cases z))) x (e.gh a x z), fun a x z => keep a (out a (.inr (by rw [z]; exact fun z => by cases z))) x (e.fh a x z), e.fg, fun a t => ?_, by rw [List.length_set]; exact e.len, fun j c g => ?_, ?_⟩
  · obtain ⟨⟨ps, z, z2⟩, z3⟩ := e.tb a t
    refine ⟨⟨ps, keep a (fun hb => ?_) _ z, z2⟩, z3⟩
    obtain ⟨w, hw, nt⟩ := h2.there a hb
    exact not_tp_of e.tb hw nt t
  · rcases get_set_cases g with ⟨_, q, _⟩ | ⟨m, g⟩
    · cases q
    · exact e.val j c g
  · have back : ∀ (j : Nat) (c : O), (δ.set i (.own u))[j]? = some (.own c) → ∃ c', δ[j]? = some (.own c') := fun j c g => by
      rcases get_set_cases g with ⟨rfl, _, _⟩ | ⟨_, g⟩
      · exact ⟨_, h⟩
      · exact ⟨_, g⟩
    have there : ∀ (j : Nat) (c : O), δ[j]? = some (.own c) → ∀ a ∈ ft j, H a ≠ none := fun j c g a ha z => by
      obtain ⟨pj, g1, g2⟩ := ow j c g
      obtain ⟨w, hw, _⟩ := g2.there a ha
      rw [z] at hw; cases hw
    refine ⟨selF i fq ft, fun j c g => ?_, fun j k c d g f ne => ?_⟩
    · rcases get_set_cases g with ⟨rfl, z, l⟩ | ⟨m, g⟩
      · cases z
        exact ⟨p, hp, by rw [selF_eq]; exact o2⟩
      · obtain ⟨p2, g1, g2⟩ := ow j c g
        refine ⟨p2, g1, ?_⟩
        rw [selF_ne m]
        exact g2.mono .refl (fun a ha w hw => keep a (fun hb => sp j i c o g h m a ha hb) w hw) fun a ha => (g2.1 a ha).1
    · obtain ⟨c', g'⟩ := back j c g
      obtain ⟨d', f'⟩ := back k d f
      intro a ha hb
      by_cases ej : j = i
      · subst ej
        have ek : k ≠ j := fun z => ne z.symm
        rw [selF_eq] at ha
        rw [selF_ne ek] at hb
        rcases sub a ha with ha | ha
        · exact sp j k c' d' g' f' ne a ha hb
        · exact there k d' f' a hb ha
      · rw [selF_ne ej] at ha
        by_cases ek : k = i
        · subst ek
          rw [selF_eq] at hb
          rcases sub a hb with hb | hb
          · exact sp j k c' d' g' f' ne a ha hb
          · exact there j c' g' a ha hb
        · rw [selF_ne ek] at hb
          exact sp j k c' d' g' f' ne a ha hb
/-- a thing that is one object is changed in its place -/
theorem ER.chgOwn (e : ER K tp Fo G H δ σ) (i : Nat) {p : Addr} {q : Addr × Obj} {o u : O} {ws : List V} (h : δ[i]? = some (.own o)) (hp : σ[i]? = some (some (.ref p))) (r : Reps K G u.vals ws) (lo : u.loc K G p q ws := by exact True.intro) (one : o.one = true := by rfl) (one' : u.one = true := by rfl) :
    ER K tp Fo G (upd H p (u.ho K q ws)) (δ.set i (.own u)) σ :=
  e.chgOwnF i h hp fun fp ⟨h0, hh⟩ => by
    rcases hh with ⟨q', vs, _, e2, _⟩ | ⟨dss, as, e1, _⟩
    · subst e2
      exact ⟨[p], ⟨h0, .inl ⟨q, ws, one', rfl, lo, upd_same, r⟩⟩, fun a ha => .inl ha, fun a ha w hw => by rw [upd_ne (fun z => ha (by rw [z]; exact List.mem_cons_self))]; exact hw⟩
    · subst e1; cases one
/-- a thing of one's own is frozen -/
def frz (i : Nat) (δ : Env) : Env := match δ[i]? with
  | some (.own o) => δ.set i (.val o.d)
  | _ => δ
/-- a dict -/
def O.dict : O → Bool
  | .dk .. => true
  | .dt .. => true
  | _ => false
/-- what is known, with the things at fp -/
def updF (G H : Hp) (fp : List Addr) : Hp := fun a => if a ∈ fp then H a else G a
theorem updF_in {fp : List Addr} {a : Addr} (h : a ∈ fp) : updF G H fp a = H a := if_pos h
theorem updF_out {fp : List Addr} {a : Addr} (h : a ∉ fp) : updF G H fp a = G a := if_neg h
theorem Inner.reps {dss : List (List D)} {as : List Addr} {fp : List Addr} (l : Le G (updF G H fp)) : (∀ a ∈ as, a ∈ fp) → Inner K G H dss as → Reps K (updF G H fp) (dss.map D.lst) (as.map V.ref) := by
  induction dss generalizing as with
  | nil => intro _ h; cases h; exact rfl
  | cons ds dss ih =>
    rintro k ⟨b, r, e, ⟨ws, h1, h3⟩, h2⟩
    subst e
    refine ⟨_, _, rfl, ⟨b, ws, rfl, SqL.of ?_, Reps.mono l _ _ h3⟩, ih (fun a ha => k a (List.mem_cons_of_mem _ ha)) h2⟩
    rw [updF_in (k b List.mem_cons_self)]; exact h1
theorem ER.frz (e : ER K tp Fo G H δ σ) (i : Nat) : ∃ fp, Le G (updF G H fp) ∧ ER K tp Fo (updF G H fp) H (frz i δ) σ ∧ (∀ a ∈ fp, G a = none ∧ Fo a = none ∧ ∃ u, H a = some u ∧ ¬ tp a ∧ (∀ xs, u ≠ .tup xs) ∧ ∀ ob w, u ≠ .frz ob w) ∧ (fp = [] → Dl.frz i δ = δ) ∧
    ∀ o, δ[i]? = some (.own o) → o.dict = true → ∀ a ∈ fp, ∀ u, H a = some u → (∀ xs, u ≠ .lst xs) ∧ ∀ C dx fs, u ≠ .ins C dx fs := by
  unfold Dl.frz
  split
  · rename_i o h
    obtain ⟨ft, ow, sp⟩ := e.own
    obtain ⟨p, h1, h2⟩ := ow i o h
    have lg : Le G (updF G H (ft i)) := fun a u z => by
      rw [updF_out (fun ha => by rw [(h2.1 a ha).1] at z; cases z)]; exact z
    refine ⟨ft i, lg, ⟨fun a x z => ?_, e.fh, fun a x z => ?_, fun a t => ?_, by rw [List.length_set]; exact e.len, fun j c g => ?_, ⟨ft, fun j c g => ?_, fun j k c d g f ne => ?_⟩⟩, fun a ha => ?_, fun z => ?_, fun o' ho' hd a ha u hu => ?_⟩
    · by_cases y : a ∈ ft i
      · rw [updF_in y] at z; exact z
      · rw [updF_out y] at z; exact e.gh a x z
    · refine ⟨?_, (e.fg a x z).2⟩
      rw [updF_out (fun ha => by rw [(h2.1 a ha).2] at z; cases z)]; exact (e.fg a x z).1
    · refine ⟨(e.tb a t).1.mono lg, ?_⟩
      rw [updF_out (fun ha => by
        obtain ⟨u, hu, nt⟩ := h2.there a ha
        exact not_tp_of e.tb hu nt t)]
      exact (e.tb a t).2
    · rcases get_set_cases g with ⟨rfl, z, l⟩ | ⟨m, g⟩
      · cases z
        refine ⟨_, h1, ?_⟩
        have hpm := h2.mem
        obtain ⟨h0, ⟨q, vs, one, e2, lo, h4, h5⟩ | ⟨dss, as, e1, e2, nd, h4, h5⟩⟩ := h2
        · exact O.rep one (by rw [updF_in hpm]; exact h4) (O.loc_mono lg lo) (Reps.mono lg _ _ h5)
        · subst e1
          exact ⟨p, as.map V.ref, rfl, SqL.of (by rw [updF_in hpm]; exact h4), h5.reps lg fun a ha => by rw [e2]; exact List.mem_cons_of_mem _ ha⟩
      · obtain ⟨w, g1, g2⟩ := e.val j c g
        exact ⟨w, g1, Rep.mono lg _ _ g2⟩
    · rcases get_set_cases g with ⟨_, z, _⟩ | ⟨m, g⟩
      · cases z
      · obtain ⟨p2, g1, g2⟩ := ow j c g
        exact ⟨p2, g1, g2.mono lg (fun a _ u hu => hu) fun a ha => by rw [updF_out (fun hb => sp j i c o g h m a ha hb)]; exact (g2.1 a ha).1⟩
    · rcases get_set_cases g with ⟨_, z, _⟩ | ⟨m, g⟩
      · cases z
      · rcases get_set_cases f with ⟨_, z, _⟩ | ⟨m', f⟩
        · cases z
        · exact sp j k c d g f ne
    · obtain ⟨u, hu, nt⟩ := h2.there a ha
      refine ⟨(h2.1 a ha).1, (h2.1 a ha).2, u, hu, not_tp_of e.tb hu nt, ?_⟩
      obtain ⟨h0, ⟨q, vs, one, e2, lo, h4, h5⟩ | ⟨dss, as, e1, e2, nd, h4, h5⟩⟩ := h2
      · rw [e2, List.mem_singleton] at ha
        subst ha
        rw [hu] at h4
        cases h4
        cases o <;> exact ⟨fun xs z => (by cases z), fun ob w z => (by cases z)⟩
      · rw [e2] at ha
        rcases List.mem_cons.mp ha with rfl | ha
        · rw [hu] at h4; cases h4; exact ⟨fun xs z => (by cases z), fun ob w z => (by cases z)⟩
        · obtain ⟨ws, h6⟩ := h5.mem a ha
          rw [hu] at h6; cases h6; exact ⟨fun xs z => (by cases z), fun ob w z => (by cases z)⟩
    · have := h2.mem
      rw [z] at this; cases this
    · rw [h] at ho'
      cases ho'
      obtain ⟨h0, ⟨q, vs, one, e2, lo, h4, h5⟩ | ⟨dss, as, e1, e2, nd, h4, h5⟩⟩ := h2
      · rw [e2, List.mem_singleton] at ha
        subst ha
        rw [hu] at h4
        cases h4
        cases o with
        | dk ks xs => exact ⟨fun xs z => (by cases z), fun C dx fs z => (by cases z)⟩
        | dt ks xs => exact ⟨fun xs z => (by cases z), fun C dx fs z => (by cases z)⟩
        | _ => cases hd
      · subst e1; cases hd
  · refine ⟨[], ?_, ?_, fun a ha => (by cases ha), fun _ => rfl, fun _ _ _ a ha => (by cases ha)⟩
    · have : updF G H [] = G := by funext a; exact updF_out (by exact List.not_mem_nil)
      rw [this]; exact .refl
    · have : updF G H [] = G := by funext a; exact updF_out (by exact List.not_mem_nil)
      rw [this]; exact e
end
end Dl

set_option Elab.async false
set_option linter.all false
set_option maxRecDepth 100000
set_option maxHeartbeats 2000000
/-! Expressions over data. -/
namespace Dl
open PySem PySem.Spec PyProof.Rows L2

/-- the program's own: its exceptions' classes by name, the tables of code objects of defs with generator expressions -/
structure Mo where
  ec : String → Value
  tp : Tb
def PX {α : Type} (M : Mo) (W : WX) (σ : L2.St) (G H : Hp) (r : R α) (k : Hp → Hp → α → Prop) : Prop := match r with
  | .ok a => ∀ G' H', Tr M.tp G H G' H' → k G' H' a
  | .exc c => ∀ G' H', Tr M.tp G H G' H' → W (M.ec c) none σ H'
  | .bad => False
section
variable {α β : Type} {M : Mo} {W : WX} {σ : L2.St} {G H : Hp}
theorem PX.bind {r : R α} {g : α → R β} {k : Hp → Hp → β → Prop} (h : PX M W σ G H (r >>= g) k) : PX M W σ G H r fun G' H' a => PX M W σ G' H' (g a) k := by
  cases r with
  | ok a =>
    intro G1 H1 t1
    have h' : PX M W σ G H (g a) k := h
    show PX M W σ G1 H1 (g a) k
    cases e : g a with
    | ok b => rw [e] at h'; intro G2 H2 t2; exact h' G2 H2 (t1.trans t2)
    | exc c => rw [e] at h'; intro G2 H2 t2; exact h' G2 H2 (t1.trans t2)
    | bad => rw [e] at h'; exact h'
  | exc c => exact h
  | bad => exact h
theorem PX.mono {r : R α} {k k' : Hp → Hp → α → Prop} (h : PX M W σ G H r k) (i : ∀ G' H' a, Tr M.tp G H G' H' → k G' H' a → k' G' H' a) : PX M W σ G H r k' := by
  cases r with
  | ok a => exact fun G' H' t => i G' H' a t (h G' H' t)
  | exc c => exact h
  | bad => exact h
end
def ofO {α : Type} : Option α → R α
  | some a => .ok a
  | none => .bad
/-- what a built-in operation must bring -/
def QX (K : Kw) (tp : Tb) (G H : Hp) (r : Option D) (Q : VK) : Prop := match r with
  | some z => ∀ G' H', Tr tp G H G' H' → ∀ u, Rep K G' z u → Q u H'
  | none => False
section
variable {K : Kw} {M : Mo} {tp : Tb} {W : WX} {σ : L2.St} {G H : Hp} {Q : VK}
theorem PX.qx {r : Option D} (h : PX M W σ G H (ofO r) fun G' H' z => ∀ u, Rep K G' z u → Q u H') : QX K M.tp G H r Q := by
  cases r with
  | none => exact h
  | some z => exact h
theorem QX.at {z : D} {u : V} (h : QX K tp G H (some z) Q) (l : Le G H) (r : Rep K G z u) : Q u H := h G H (.refl l) u r
theorem QX.newTup {ds : List D} {vs : List V} (h : QX K tp G H (some (.tup ds)) Q) (l : Le G H) (r : Reps K G ds vs) : NewT H vs Q := fun p o n d =>
  h _ _ (Tr.new l n) _ ⟨p, vs, rfl, SqU.of upd_same d, Reps.mono (Le.new (none_of_le l n)) ds vs r⟩
theorem QX.newLst {ds : List D} {vs : List V} (h : QX K tp G H (some (.lst ds)) Q) (l : Le G H) (r : Reps K G ds vs) {p : Addr} (n : H p = none) : Q (.ref p) (upd H p (.lst vs)) :=
  h _ _ (Tr.new l n) _ ⟨p, vs, rfl, SqL.of upd_same, Reps.mono (Le.new (none_of_le l n)) ds vs r⟩
end

/-! ### readings -/
def tE (K : Kw) (M : Mo) (W : WX) (f : Env → R D) : TE := fun σ H Q => ∃ Fo G δ, ER K M.tp Fo G H δ σ ∧ PX M W σ G H (f δ) fun G' H' d => ∀ v, Rep K G' d v → Q v H'
def tT (K : Kw) (M : Mo) (W : WX) (f : Env → R Bool) : TT := fun σ H Q => ∃ Fo G δ, ER K M.tp Fo G H δ σ ∧ PX M W σ G H (f δ) fun _ H' b => Q b H'
def tA (K : Kw) (M : Mo) (W : WX) (f : Env → R (List D)) : TA := fun σ H Q => ∃ Fo G δ, ER K M.tp Fo G H δ σ ∧ PX M W σ G H (f δ) fun G' H' ds => ∀ vs, Reps K G' ds vs → Q vs H'
def tO (K : Kw) (M : Mo) (W : WX) (f : Env → R (Option Int)) : TO := fun σ H Q => ∃ Fo G δ, ER K M.tp Fo G H δ σ ∧ PX M W σ G H (f δ) fun _ H' b => Q b H'

/-! ### the data functions' words -/
abbrev Ev := Env → R D
def eV (i : Nat) : Ev := fun δ => match δ[i]? with
  | some (.val d) => .ok d
  | _ => .bad
def eC (d : D) : Ev := fun _ => .ok d
def e1 (h : D → Option D) (f : Ev) : Ev := fun δ => f δ >>= fun x => ofO (h x)
def e2 (h : D → D → Option D) (f g : Ev) : Ev := fun δ => f δ >>= fun x => g δ >>= fun y => ofO (h x y)
def eAnd (f g : Ev) : Ev := fun δ => f δ >>= fun x => match x with
  | .bl true => g δ
  | .bl false => .ok (.bl false)
  | _ => .bad
def eOr (f g : Ev) : Ev := fun δ => f δ >>= fun x => match x with
  | .bl true => .ok (.bl true)
  | .bl false => g δ
  | _ => .bad
def eNot (f : Ev) : Ev := fun δ => f δ >>= fun x => match x with
  | .bl b => .ok (.bl !b)
  | _ => .bad
abbrev Tv := Env → R Bool
def tB1 (f : Ev) : Tv := fun δ => f δ >>= fun x => match x with
  | .bl b => .ok b
  | _ => .bad
def tAnd' (f g : Tv) : Tv := fun δ => f δ >>= fun x => match x with
  | true => g δ
  | false => .ok false
def tOr' (f g : Tv) : Tv := fun δ => f δ >>= fun x => match x with
  | true => .ok true
  | false => g δ
def tNot' (f : Tv) : Tv := fun δ => f δ >>= fun x => .ok !x
def eIf (c : Tv) (f g : Ev) : Ev := fun δ => c δ >>= fun x => match x with
  | true => f δ
  | false => g δ
def aNil : Env → R (List D) := fun _ => .ok []
def aCons (f : Ev) (g : Env → R (List D)) : Env → R (List D) := fun δ => f δ >>= fun x => g δ >>= fun xs => .ok (x :: xs)
def eTup (g : Env → R (List D)) : Ev := fun δ => g δ >>= fun xs => ofO (if xs.length ≤ sizeLine then some (.tup xs) else none)
def eLst (g : Env → R (List D)) : Ev := fun δ => g δ >>= fun xs => ofO (if xs.length ≤ sizeLine then some (.lst xs) else none)
def eCall (m : List D → R D) (g : Env → R (List D)) : Ev := fun δ => g δ >>= fun xs => m xs
def eB (m : List D → Option D) (g : Env → R (List D)) : Ev := fun δ => g δ >>= fun xs => ofO (m xs)

section
variable {X : Cx} {M : Mo} {W : WX} {a b c e : Expr} {es rest : List Expr} {pos : Pos} {f g : Ev} {fs : Env → R (List D)} {t u : Tv}
theorem PE.imp {t t' : TE} (h : PE X e t) (i : ∀ σ H Q, t' σ H Q → t σ H Q) : PE X e t' := ⟨fun pins s σ H Q I q => h.run pins s σ H Q I (i σ H Q q)⟩
theorem PT.imp {t t' : TT} (h : PT X e t) (i : ∀ σ H Q, t' σ H Q → t σ H Q) : PT X e t' := ⟨fun pins s σ H Q I q => h.run pins s σ H Q I (i σ H Q q)⟩
theorem PW.imp {t t' : TT} (h : PW X e t) (i : ∀ σ H Q, t' σ H Q → t σ H Q) : PW X e t' := ⟨fun wh pins s σ H Q I q => h.run wh pins s σ H Q I (i σ H Q q)⟩
theorem PA.imp {t t' : TA} (h : PA X es t) (i : ∀ σ H Q, t' σ H Q → t σ H Q) : PA X es t' := ⟨fun pos pins s σ H Q I q => h.run pos pins s σ H Q I (i σ H Q q)⟩

theorem de_var {i : Nat} {x : Str} (hN : X.N[i]? = some x) (hv : Vis X.env.scope x) (hd : (x == ("__debug__" : Str)) = false := by decide) (hcd : (x == ("__classdict__" : Str)) = false := by decide) : PE X (.Name x pos) (tE (kwX X) M W (eV i)) := by
  refine PE.imp (pe_var hN hv hd hcd) fun σ H Q ⟨Fo, G, δ, er, h⟩ => ?_
  unfold eV at h
  cases q : δ[i]? with
  | none => rw [q] at h; exact False.elim h
  | some z =>
    rw [q] at h
    cases z with
    | val d =>
      obtain ⟨v, e1, r⟩ := er.val i d q
      exact ⟨v, e1, h G H (.refl er.gh) v r⟩
    | no => exact False.elim h
    | own ds => exact False.elim h
theorem de_const {d : D} {v : V} (h : PE X e (tC v)) (r : ∀ G, Rep (kwX X) G d v) : PE X e (tE (kwX X) M W (eC d)) :=
  PE.imp h fun σ H Q ⟨Fo, G, δ, er, h⟩ => h G H (.refl er.gh) v (r G)
theorem de_int {i j} : PE X (.Constant (.int i) j pos) (tE (kwX X) M W (eC (.int i))) := de_const pe_int fun _ => rfl
theorem de_bl {x j} : PE X (.Constant (.bool x) j pos) (tE (kwX X) M W (eC (.bl x))) := de_const pe_bl fun _ => rfl
theorem de_non {j} : PE X (.Constant .none j pos) (tE (kwX X) M W (eC .non)) := de_const pe_non fun _ => rfl
theorem de_str {x j} : PE X (.Constant (.str x) j pos) (tE (kwX X) M W (eC (.str x))) := de_const pe_str fun _ => rfl
theorem de_glob {x : Str} {d : D} {v : V} {u : Value} (hg : Gl X x) (hm : X.mg x = some u) (r : RelV v u) (hr : ∀ G, Rep (kwX X) G d v) (hd : (x == ("__debug__" : Str)) = false := by decide) : PE X (.Name x pos) (tE (kwX X) M W (eC d)) :=
  de_const (pe_glob hg hm r hd) hr

/-- an operation of two values, over data -/
def OpS (K : Kw) (r : R2) (h : D → D → Option D) : Prop := ∀ (tp : Tb) (G H : Hp) (d e : D) (v w : V) (Q : VK), Le G H → Rep K G d v → Rep K G e w → QX K tp G H (h d e) Q → r v w H Q
theorem op_gen {r : R2} {h : D → D → Option D} (hs : OpS (kwX X) r h) {σ : L2.St} {H : Hp} {Q : VK} (q : tE (kwX X) M W (e2 h f g) σ H Q) : tOp r (tE (kwX X) M W f) (tE (kwX X) M W g) σ H Q := by
  obtain ⟨Fo, G, δ, er, q⟩ := q
  refine ⟨Fo, G, δ, er, PX.mono (PX.bind q) fun G1 H1 x t1 q1 v rv => ?_⟩
  refine ⟨Fo, G1, δ, er.tr t1, PX.mono (PX.bind q1) fun G2 H2 y t2 q2 w rw => ?_⟩
  exact hs M.tp G2 H2 x y v w Q t2.2.1 (Rep.mono t2.1 _ _ rv) rw (PX.qx q2)
theorem de_op {op : Operator} {r : R2} {h : D → D → Option D} (ho : OpR X (binaryOp op) r) (hs : OpS (kwX X) r h) (ha : PE X a (tE (kwX X) M W f)) (hb : PE X b (tE (kwX X) M W g)) : PE X (.BinOp a op b pos) (tE (kwX X) M W (e2 h f g)) :=
  PE.imp (pe_op ho ha hb) fun _ _ _ q => op_gen hs q
theorem de_cmp {op : CmpOp} {r : R2} {h : D → D → Option D} (ho : OpR X (compareOp op) r) (hs : OpS (kwX X) r h) (ha : PE X a (tE (kwX X) M W f)) (hb : PE X b (tE (kwX X) M W g)) (hm : behindInMarks op b = false := by first | exact nomark _ | rfl) : PE X (.Compare a [op] [b] pos) (tE (kwX X) M W (e2 h f g)) :=
  PE.imp (pe_cmpR ho ha hb hm) fun _ _ _ q => op_gen hs q

/-! ### tests -/
theorem test_gen {σ : L2.St} {H : Hp} {Q : Bool → Hp → Prop} {Q' : VK} (i : ∀ b H, Q b H → Q' (.bl b) H) (q : tT (kwX X) M W (tB1 f) σ H Q) : tE (kwX X) M W f σ H fun v H1 => ∃ b, v = .bl b ∧ Q b H1 := by
  obtain ⟨Fo, G, δ, er, q⟩ := q
  refine ⟨Fo, G, δ, er, PX.mono (PX.bind q) fun G1 H1 x t1 q1 v rv => ?_⟩
  cases x with
  | bl y => exact ⟨y, rv, q1 G1 H1 (.refl t1.2.1)⟩
  | _ => exact False.elim q1
theorem dt_val (h : PE X e (tE (kwX X) M W f)) (he : ∀ whole, isTrue e X.env whole = (do let v ← whole; standAt e.pos; holding [v] (truthy v)) := by intro _; rfl) : PT X e (tT (kwX X) M W (tB1 f)) := by
  refine PT.imp (pt_val h he) fun σ H Q q => ?_
  exact test_gen (Q' := fun v H => ∃ b, v = .bl b ∧ Q b H) (fun b H q => ⟨b, rfl, q⟩) q
theorem dt_cmp {op : CmpOp} {r : R2} {h : D → D → Option D} (ho : OpR X (compareOp op) r) (hs : OpS (kwX X) r h) (ha : PE X a (tE (kwX X) M W f)) (hb : PE X b (tE (kwX X) M W g)) (hm : behindInMarks op b = false := by first | exact nomark _ | rfl) : PT X (.Compare a [op] [b] pos) (tT (kwX X) M W (tB1 (e2 h f g))) := by
  refine PT.imp (pt_cmpR ho ha hb hm) fun σ H Q q => ?_
  have z := test_gen (X := X) (Q' := fun v H => ∃ b, v = .bl b ∧ Q b H) (fun b H q => ⟨b, rfl, q⟩) q
  exact op_gen hs z
theorem dw_and1 (h : PT X a (tT (kwX X) M W t)) : PW X (.BoolOp .And [a] pos) (tT (kwX X) M W t) := pw_and1 h
theorem dw_or1 (h : PT X a (tT (kwX X) M W t)) : PW X (.BoolOp .Or [a] pos) (tT (kwX X) M W t) := pw_or1 h
theorem dw_and (h : PT X a (tT (kwX X) M W t)) (hb : PW X (.BoolOp .And (b :: rest) pos) (tT (kwX X) M W u)) : PW X (.BoolOp .And (a :: b :: rest) pos) (tT (kwX X) M W (tAnd' t u)) := by
  refine PW.imp (pw_and h hb) fun σ H Q q => ?_
  obtain ⟨Fo, G, δ, er, q⟩ := q
  refine ⟨Fo, G, δ, er, PX.mono (PX.bind q) fun G1 H1 x t1 q1 => ?_⟩
  cases x with
  | true => exact ⟨Fo, G1, δ, er.tr t1, q1⟩
  | false => exact q1 G1 H1 (.refl t1.2.1)
theorem dw_or (h : PT X a (tT (kwX X) M W t)) (hb : PW X (.BoolOp .Or (b :: rest) pos) (tT (kwX X) M W u)) : PW X (.BoolOp .Or (a :: b :: rest) pos) (tT (kwX X) M W (tOr' t u)) := by
  refine PW.imp (pw_or h hb) fun σ H Q q => ?_
  obtain ⟨Fo, G, δ, er, q⟩ := q
  refine ⟨Fo, G, δ, er, PX.mono (PX.bind q) fun G1 H1 x t1 q1 => ?_⟩
  cases x with
  | true => exact q1 G1 H1 (.refl t1.2.1)
  | false => exact ⟨Fo, G1, δ, er.tr t1, q1⟩
theorem dt_w (h : PW X e (tT (kwX X) M W t)) : PT X e (tT (kwX X) M W t) := h.pt
theorem dt_not (h : PT X a (tT (kwX X) M W t)) : PT X (.UnaryOp .Not a pos) (tT (kwX X) M W (tNot' t)) := by
  refine PT.imp (pt_not h) fun σ H Q q => ?_
  obtain ⟨Fo, G, δ, er, q⟩ := q
  exact ⟨Fo, G, δ, er, PX.mono (PX.bind q) fun G1 H1 x t1 q1 => q1 G1 H1 (.refl t1.2.1)⟩

/-! ### and, or, not as values -/
theorem de_one {op} (h : PE X a (tE (kwX X) M W f)) : PE X (.BoolOp op [a] pos) (tE (kwX X) M W f) := pe_one h
theorem de_and (ha : PE X a (tE (kwX X) M W f)) (hb : PE X (.BoolOp .And (b :: rest) pos) (tE (kwX X) M W g)) : PE X (.BoolOp .And (a :: b :: rest) pos) (tE (kwX X) M W (eAnd f g)) := by
  refine PE.imp (pe_and ha hb) fun σ H Q q => ?_
  obtain ⟨Fo, G, δ, er, q⟩ := q
  refine ⟨Fo, G, δ, er, PX.mono (PX.bind q) fun G1 H1 x t1 q1 v rv => ?_⟩
  cases x with
  | bl y =>
    refine ⟨y, rv, ?_⟩
    cases y with
    | true => exact ⟨Fo, G1, δ, er.tr t1, q1⟩
    | false => exact q1 G1 H1 (.refl t1.2.1) _ rfl
  | _ => exact False.elim q1
theorem de_if (hc : PT X c (tT (kwX X) M W t)) (ha : PE X a (tE (kwX X) M W f)) (hb : PE X b (tE (kwX X) M W g)) : PE X (.IfExp c a b pos) (tE (kwX X) M W (eIf t f g)) := by
  refine PE.imp (pe_ifExp hc ha hb) fun σ H Q q => ?_
  obtain ⟨Fo, G, δ, er, q⟩ := q
  refine ⟨Fo, G, δ, er, PX.mono (PX.bind q) fun G1 H1 x t1 q1 => ?_⟩
  cases x with
  | true => exact ⟨Fo, G1, δ, er.tr t1, q1⟩
  | false => exact ⟨Fo, G1, δ, er.tr t1, q1⟩

/-! ### arguments, displays, calls -/
theorem da_nil : PA X [] (tA (kwX X) M W aNil) := PA.imp pa_nil fun σ H Q ⟨Fo, G, δ, er, q⟩ => q G H (.refl er.gh) _ rfl
theorem da_cons (ha : PE X e (tE (kwX X) M W f)) (hr : PA X es (tA (kwX X) M W fs)) (hs : starEach (e :: es) X.env = (false, eval e X.env) :: starEach es X.env := by rfl) : PA X (e :: es) (tA (kwX X) M W (aCons f fs)) := by
  refine PA.imp (pa_cons ha hr hs) fun σ H Q q => ?_
  obtain ⟨Fo, G, δ, er, q⟩ := q
  refine ⟨Fo, G, δ, er, PX.mono (PX.bind q) fun G1 H1 x t1 q1 v rv => ?_⟩
  refine ⟨Fo, G1, δ, er.tr t1, PX.mono (PX.bind q1) fun G2 H2 xs t2 q2 vs rvs => ?_⟩
  exact q2 G2 H2 (.refl t2.2.1) _ ⟨v, vs, rfl, Rep.mono t2.1 _ _ rv, rvs⟩
theorem de_tup {x1} (h : PA X es (tA (kwX X) M W fs)) : PE X (.Tuple es x1 pos) (tE (kwX X) M W (eTup fs)) := by
  refine PE.imp (pe_tupF h) fun σ H Q q => ?_
  obtain ⟨Fo, G, δ, er, q⟩ := q
  refine ⟨Fo, G, δ, er, PX.mono (PX.bind q) fun G1 H1 xs t1 q1 vs rvs => ?_⟩
  have q2 := PX.qx q1
  by_cases z : xs.length ≤ sizeLine
  · rw [if_pos z] at q2
    exact ⟨by rw [rvs.length]; exact z, q2.newTup t1.2.1 rvs⟩
  · rw [if_neg z] at q2; exact False.elim q2
theorem de_lst (h : PA X es (tA (kwX X) M W fs)) : PE X (.List es pos) (tE (kwX X) M W (eLst fs)) := by
  refine PE.imp (pe_lst h) fun σ H Q q => ?_
  obtain ⟨Fo, G, δ, er, q⟩ := q
  refine ⟨Fo, G, δ, er, PX.mono (PX.bind q) fun G1 H1 xs t1 q1 vs rvs => ?_⟩
  have q2 := PX.qx q1
  by_cases z : xs.length ≤ sizeLine
  · rw [if_pos z] at q2
    exact ⟨by rw [rvs.length]; exact z, fun p n => q2.newLst t1.2.1 rvs n⟩
  · rw [if_neg z] at q2; exact False.elim q2
/-- a def's promise by a function over data -/
def spD (K : Kw) (M : Mo) (n : Nat) (m : List D → R D) : Sp := fun vs H Q E => ∃ G ds, Le G H ∧ (∀ a, M.tp a → TabD M.tp G H a ∧ G a = none) ∧ Reps K G ds vs ∧ ds.length = n ∧ match m ds with
  | .ok d => ∀ G' H', Tr M.tp G H G' H' → ∀ v, Rep K G' d v → Q v H'
  | .exc c => ∀ G' H', Tr M.tp G H G' H' → E (M.ec c) none H'
  | .bad => False
theorem de_call {k : Nat} {F : Addr} {fd : FuncData} {ps : List Str} {n : Nat} {m : List D → R D} {x : Str} {p : Pos} (Fn : FnOk X.prog X.w X.K X.mg X.base (L2.CX X.prog X.w) k F fd ps (spD (kwX X) M n m)) (hr : Room k X.A) (hg : Gl X x) (hm : X.mg x = some (.ref F)) (hk : PySem.W.keepIn X.K (.ref F) = true) (hb : Binds X.K fd ps []) (tk : Takes X W)
    (ha : PA X (e :: es) (tA (kwX X) M W fs)) (hl : (e :: es).length = n := by rfl) (hdb : (x == ("__debug__" : Str)) = false := by decide) (he : starEach (e :: es) X.env = (false, eval e X.env) :: starEach es X.env := by rfl) (hpl : (backTo pos (starEach es X.env)).any (·.1) = false := by rfl)
    (hn : ∀ δ ds, fs δ = .ok ds → ds.length = n) :
    PE X (.Call (.Name x p) (e :: es) [] pos) (tE (kwX X) M W (eCall m fs)) := by
  refine PE.imp (pe_callS Fn hr hg hm hk hb (fun σ => passAt tk σ) ha hdb he hpl) fun σ H Q q => ?_
  obtain ⟨Fo, G, δ, er, q⟩ := q
  cases z : fs δ with
  | bad => unfold eCall at q; rw [z] at q; exact False.elim q
  | exc c => exact ⟨Fo, G, δ, er, by unfold eCall at q; rw [z] at q ⊢; exact q⟩
  | ok ds0 =>
    refine ⟨Fo, G, δ, er, PX.mono (k := fun G1 H1 xs => xs = ds0 ∧ PX M W σ G1 H1 (m xs) fun G' H' d => ∀ v, Rep (kwX X) G' d v → Q v H') ?_ fun G1 H1 xs t1 ⟨ex, q1⟩ vs rvs => ?_⟩
    · rw [z]
      have q' := PX.bind q
      rw [z] at q'
      intro G1 H1 t1
      exact ⟨rfl, q' G1 H1 t1⟩
    · subst ex
      refine ⟨G1, xs, t1.2.1, (er.tr t1).tb, rvs, hn δ xs z, ?_⟩
      cases e : m xs with
      | ok d => rw [e] at q1; exact q1
      | exc c => rw [e] at q1; exact q1
      | bad => rw [e] at q1; exact q1
theorem hn_nil : ∀ δ ds, aNil δ = .ok ds → ds.length = 0 := fun δ ds h => by cases h; rfl
theorem hn_cons {n : Nat} (h : ∀ δ ds, fs δ = .ok ds → ds.length = n) : ∀ δ ds, aCons f fs δ = .ok ds → ds.length = n + 1 := fun δ ds q => by
  unfold aCons at q
  cases e : f δ with
  | ok x =>
    rw [e] at q
    cases e' : fs δ with
    | ok xs =>
      have q' : R.ok (x :: xs) = R.ok ds := by simpa [e', R.bind_ok] using q
      cases q'
      rw [List.length_cons, h δ xs e']
    | exc c => rw [e', R.bind_ok, R.bind_exc] at q; cases q
    | bad => rw [e', R.bind_ok, R.bind_bad] at q; cases q
  | exc c => rw [e, R.bind_exc] at q; cases q
  | bad => rw [e, R.bind_bad] at q; cases q

/-- a call of a built-in by values, over data -/
def CallS (K : Kw) (r : List V → Hp → VK → Prop) (m : List D → Option D) : Prop := ∀ (tp : Tb) (G H : Hp) (ds : List D) (vs : List V) (Q : VK), Le G H → Reps K G ds vs → QX K tp G H (m ds) Q → r vs H Q
theorem callB_gen {r : List V → Hp → VK → Prop} {m : List D → Option D} (hs : CallS (kwX X) r m) {σ : L2.St} {H : Hp} {Q : VK} (q : tE (kwX X) M W (eB m fs) σ H Q) : tCB r (tA (kwX X) M W fs) σ H Q := by
  obtain ⟨Fo, G, δ, er, q⟩ := q
  exact ⟨Fo, G, δ, er, PX.mono (PX.bind q) fun G1 H1 xs t1 q1 vs rvs => hs M.tp G1 H1 xs vs Q t1.2.1 rvs (PX.qx q1)⟩
theorem de_callB {id : String} {x : Str} {p : Pos} {r : List V → Hp → VK → Prop} {m : List D → Option D} (hc : CallR X (.builtin id) r) (hs : CallS (kwX X) r m) (hg : Gl X x) (hm : X.mg x = none) (hv : bootBuiltins x = some (.builtin id)) (ha : PA X (e :: es) (tA (kwX X) M W fs)) (hn : x ≠ "__name__" := by decide) (hdb : (x == ("__debug__" : Str)) = false := by decide)
    (he : starEach (e :: es) X.env = (false, eval e X.env) :: starEach es X.env := by rfl) (hpl : (backTo pos (starEach es X.env)).any (·.1) = false := by rfl) : PE X (.Call (.Name x p) (e :: es) [] pos) (tE (kwX X) M W (eB m fs)) :=
  PE.imp (pe_callB hc hg hm hv ha hn hdb he hpl) fun _ _ _ q => callB_gen hs q
theorem de_callTy {T : String} {x : Str} {p : Pos} {r : List V → Hp → VK → Prop} {m : List D → Option D} (hc : CallR X (.type T) r) (hs : CallS (kwX X) r m) (hg : Gl X x) (hm : X.mg x = none) (hv : bootBuiltins x = some (.type T)) (ha : PA X (e :: es) (tA (kwX X) M W fs)) (hn : x ≠ "__name__" := by decide) (hdb : (x == ("__debug__" : Str)) = false := by decide)
    (he : starEach (e :: es) X.env = (false, eval e X.env) :: starEach es X.env := by rfl) (hpl : (backTo pos (starEach es X.env)).any (·.1) = false := by rfl) : PE X (.Call (.Name x p) (e :: es) [] pos) (tE (kwX X) M W (eB m fs)) :=
  PE.imp (pe_callTy hc hg hm hv ha hn hdb he hpl) fun _ _ _ q => callB_gen hs q
end
end Dl

set_option Elab.async false
set_option linter.all false
set_option maxRecDepth 100000
set_option maxHeartbeats 2000000
/-! Operations over data. -/
namespace Dl
open PySem PySem.Spec PyProof.Rows L2

mutual
def D.py : D → PyData
  | .non => .none
  | .bl b => .bool b
  | .int i => .int i
  | .str x => .str x
  | .tup xs => .tuple (D.pys xs)
  | .lst xs => .list (D.pys xs)
  | .obj .. => .dict []
  | .dk .. => .dict []
  | .dt .. => .dict []
def D.pys : List D → List PyData
  | [] => []
  | x :: xs => D.py x :: D.pys xs
end
theorem D.pys_eq : ∀ xs : List D, D.pys xs = xs.map D.py
  | [] => rfl
  | x :: xs => by rw [D.pys, D.pys_eq xs, List.map_cons]
section
variable {K : Kw} {H : Hp}
mutual
/-- texts, numbers, tuples, lists -/
def D.dat : D → Bool
  | .tup xs => D.dats xs
  | .lst xs => D.dats xs
  | .obj .. => false
  | .dk .. => false
  | .dt .. => false
  | _ => true
def D.dats : List D → Bool
  | [] => true
  | x :: xs => D.dat x && D.dats xs
end
mutual
theorem dat_of_can : ∀ d : D, PyData.canLay0 d.py = true → d.dat = true
  | .non, _ => rfl
  | .bl _, _ => rfl
  | .int _, _ => rfl
  | .str _, _ => rfl
  | .tup xs, h => by rw [D.py, PyData.canLay0] at h; rw [D.dat]; exact dats_of_can xs h
  | .lst xs, h => by rw [D.py, PyData.canLay0] at h; rw [D.dat]; exact dats_of_can xs h
  | .obj .., h => by rw [D.py, PyData.canLay0] at h; cases h
  | .dk .., h => by rw [D.py, PyData.canLay0] at h; cases h
  | .dt .., h => by rw [D.py, PyData.canLay0] at h; cases h
theorem dats_of_can : ∀ xs : List D, PyData.canLayAll0 (D.pys xs) = true → D.dats xs = true
  | [], _ => rfl
  | x :: xs, h => by
    rw [D.pys, PyData.canLayAll0, Bool.and_eq_true] at h
    rw [D.dats, dat_of_can x h.1, dats_of_can xs h.2]; rfl
end
mutual
theorem Rep.dp : ∀ (d : D) (v : V), d.dat = true → Rep K H d v → Dp K H v d.py
  | .non, _, _, h => by cases h; exact .non
  | .bl b, _, _, h => by cases h; exact .bl b
  | .int i, _, _, h => by cases h; exact .int i
  | .str x, _, _, h => by cases h; exact .str x
  | .tup ds, _, hd, ⟨a, vs, e, s, r⟩ => by rw [D.dat] at hd; subst e; exact .tup s.1 (Reps.dp ds vs hd r)
  | .lst ds, _, hd, ⟨a, vs, e, s, r⟩ => by rw [D.dat] at hd; subst e; exact .lst s (Reps.dp ds vs hd r)
  | .obj .., _, hd, _ => by rw [D.dat] at hd; cases hd
  | .dk .., _, hd, _ => by rw [D.dat] at hd; cases hd
  | .dt .., _, hd, _ => by rw [D.dat] at hd; cases hd
theorem Reps.dp : ∀ (ds : List D) (vs : List V), D.dats ds = true → Reps K H ds vs → DpAll K H vs (D.pys ds)
  | [], _, _, h => by cases h; exact .nil
  | d :: ds, _, hd, ⟨v, r, e, h1, h2⟩ => by
    rw [D.dats, Bool.and_eq_true] at hd
    subst e; exact .cons (Rep.dp d v hd.1 h1) (Reps.dp ds r hd.2 h2)
end
theorem Rep.sh {d : D} {v : V} (h : SeqAt.shaped d.py = true) (r : Rep K H d v) : Dp K H v d.py := Rep.dp d v (dat_of_can d (SeqAt.canLay_of_shaped h)) r
end
/-- == of data without truth values beside ints -/
def sh (d : D) : Bool := SeqAt.shaped d.py
def eqv (d e : D) : Bool := PyData.eqv d.py e.py
def eqD (d e : D) : Option D := if sh d && sh e then some (.bl (eqv d e)) else none
def neD (d e : D) : Option D := if sh d && sh e then some (.bl (!eqv d e)) else none
section
variable {X : Cx}
theorem os_eq : OpS (kwX X) (rEqD X.K) eqD := fun tp G H d e v w Q l rv rw q => by
  unfold eqD at q
  by_cases z : (sh d && sh e) = true
  · rw [if_pos z] at q
    rw [Bool.and_eq_true] at z
    exact ⟨d.py, e.py, Rep.sh z.1 (Rep.mono l _ _ rv), Rep.sh z.2 (Rep.mono l _ _ rw), z.1, z.2, q.at l rfl⟩
  · rw [if_neg z] at q; exact False.elim q
theorem os_ne : OpS (kwX X) (rNeD X.K) neD := fun tp G H d e v w Q l rv rw q => by
  unfold neD at q
  by_cases z : (sh d && sh e) = true
  · rw [if_pos z] at q
    rw [Bool.and_eq_true] at z
    exact ⟨d.py, e.py, Rep.sh z.1 (Rep.mono l _ _ rv), Rep.sh z.2 (Rep.mono l _ _ rw), z.1, z.2, q.at l rfl⟩
  · rw [if_neg z] at q; exact False.elim q

/-! ### + - * // % ** -/
/-- list + list, any lists that are read -/
def rCatL (K : PySem.W.Frag) : R2 := fun x y H Q => ∃ l b xs zs, x = .ref l ∧ y = .ref b ∧ SqL K H l xs ∧ SqL K H b zs ∧ xs.length + zs.length ≤ sizeLine ∧ ∀ p, H p = none → Q (.ref p) (upd H p (.lst (xs ++ zs)))
theorem op_catL : OpR X (binaryOp .Add) (rCatL X.K) := by
  intro pins s σ H x y v u Q I rx ry h
  obtain ⟨l, b, xs, zs, rfl, rfl, hH, hB, hz, q⟩ := h
  cases rx
  cases ry
  obtain ⟨its, r, p1, _⟩ := I.list hH
  obtain ⟨its2, r2, p2, _⟩ := I.list hB
  obtain ⟨⟨cls, dd, data, sl⟩, ho, hc, n, hd⟩ := id p1.isList
  obtain ⟨⟨cls2, dd2, data2, sl2⟩, ho2, hc2, n2, hd2⟩ := id p2.isList
  simp only at hc hd hc2 hd2
  subst hc hd hc2 hd2
  have e : its.toArray ++ its2.toArray = (its ++ its2).toArray := by simp
  refine concat_meets ⟨_, ho, rfl⟩ ⟨_, ho2, rfl⟩ noFill_list_add seq_list_add PySem.F.slot_list_add PySem.F.entry_list_add (PySem.F.args_list_add_2 _ _)
    (list_addW l b its.toArray its2.toArray n n2 dd dd2 sl sl2 (by rw [List.size_toArray, List.size_toArray, ← r.length, ← r2.length]; exact hz)) ⟨ho, ho2, ?_⟩
  rw [e]
  exact ⟨.ref _, _, I.lnew (t' := s.toks) (r.append r2) (by rw [List.length_append]; exact hz), rfl, q _ I.fresh⟩
def addD : D → D → Option D
  | .int i, .int j => some (.int (i + j))
  | .str a, .str b => if a.length + b.length ≤ sizeLine then some (.str (a ++ b)) else none
  | .lst a, .lst b => if a.length + b.length ≤ sizeLine then some (.lst (a ++ b)) else none
  | .tup a, .tup b => if a.length + b.length ≤ sizeLine then some (.tup (a ++ b)) else none
  | _, _ => none
def rAdd (K : PySem.W.Frag) : R2 := fun x y H Q => rI0 (fun i j => .int (i + j)) x y H Q ∨ (∃ i j, x = .str i ∧ y = .str j ∧ i.length + j.length ≤ sizeLine ∧ Q (.str (i ++ j)) H) ∨ rCatL K x y H Q ∨ rCatF K x y H Q
theorem op_addD : OpR X (binaryOp .Add) (rAdd X.K) := op_add.or (op_add_str.or (op_catL.or op_catF))
theorem os_add : OpS (kwX X) (rAdd X.K) addD := fun tp G H d e v w Q l rv rw q => by
  cases d with
  | int i =>
    cases e with
    | int j => exact .inl ⟨i, j, rv, rw, q.at l rfl⟩
    | _ => exact False.elim q
  | str a =>
    cases e with
    | str b =>
      replace q : QX (kwX X) tp G H (if a.length + b.length ≤ sizeLine then some (.str (a ++ b)) else none) Q := q
      split at q
      · rename_i z
        exact .inr (.inl ⟨a, b, rv, rw, z, q.at l rfl⟩)
      · exact False.elim q
    | _ => exact False.elim q
  | lst a =>
    cases e with
    | lst b =>
      replace q : QX (kwX X) tp G H (if a.length + b.length ≤ sizeLine then some (.lst (a ++ b)) else none) Q := q
      split at q
      · rename_i z
        obtain ⟨p, vs, ev, sv, rvs⟩ := rv
        obtain ⟨p', ws, ew, sw, rws⟩ := rw
        exact .inr (.inr (.inl ⟨p, p', vs, ws, ev, ew, l.sqL sv, l.sqL sw, by rw [rvs.length, rws.length]; exact z, fun t n => q.newLst l (rvs.append rws) n⟩))
      · exact False.elim q
    | _ => exact False.elim q
  | tup a =>
    cases e with
    | tup b =>
      replace q : QX (kwX X) tp G H (if a.length + b.length ≤ sizeLine then some (.tup (a ++ b)) else none) Q := q
      split at q
      · rename_i z
        obtain ⟨p, vs, ev, sv, rvs⟩ := rv
        obtain ⟨p', ws, ew, sw, rws⟩ := rw
        refine .inr (.inr (.inr ⟨p, p', vs, ws, ev, ew, l.sqT sv.1, l.sqT sw.1, by rw [rvs.length, rws.length]; exact z, fun e1 => ?_, fun _ e2 => ?_, fun _ _ => q.newTup l (rvs.append rws)⟩))
        · subst e1
          have : a = [] := List.eq_nil_of_length_eq_zero rvs.length.symm
          subst this
          exact q.at l ⟨p', ws, rfl, sw, rws⟩
        · subst e2
          have : b = [] := List.eq_nil_of_length_eq_zero rws.length.symm
          subst this
          rw [List.append_nil] at q
          exact q.at l ⟨p, vs, rfl, sv, rvs⟩
      · exact False.elim q
    | _ => exact False.elim q
  | _ => exact False.elim q
def iOp (C : Int → Int → Bool) (g : Int → Int → D) : D → D → Option D
  | .int i, .int j => if C i j then some (g i j) else none
  | _, _ => none
/-- the number has at most k digits in base 2; stuck where it is not written -/
def lg (i : Int) (k : Nat) : Bool := decide (i.natAbs.log2 < k)
theorem lg_nat {i : Int} {k : Nat} : lg i k = true → 0 < k → i.natAbs < 2 ^ k := fun h hk => by
  unfold lg at h
  rw [decide_eq_true_eq] at h
  by_cases z : i.natAbs = 0
  · rw [z]; exact Nat.two_pow_pos k
  · exact (Nat.log2_lt z).mp h
theorem lg_of {i : Int} {k : Nat} (h : i.natAbs < 2 ^ k) (hk : 0 < k) : lg i k = true := by
  unfold lg
  rw [decide_eq_true_eq]
  by_cases z : i.natAbs = 0
  · rw [z, Nat.log2_zero]; exact hk
  · exact (Nat.log2_lt z).mpr h
theorem lg_lt {i : Int} {k : Nat} (h : lg i k = true) (hk : 0 < k) : -(2 ^ k) < i ∧ i < 2 ^ k := by
  have h' := lg_nat h hk
  have e : ((2 ^ k : Nat) : Int) = (2 : Int) ^ k := by simp
  generalize (2 : Int) ^ k = z at e ⊢
  omega
def subD : D → D → Option D := iOp (fun _ _ => true) fun i j => .int (i - j)
def mulD : D → D → Option D := iOp (fun i j => lg i 64 || lg j 64) fun i j => .int (i * j)
def fdivD : D → D → Option D := iOp (fun _ j => decide (0 < j) && lg j 30) fun i j => .int (i / j)
def modD : D → D → Option D := iOp (fun _ j => decide (0 < j)) fun i j => .int (i % j)
def powD : D → D → Option D := iOp (fun i j => decide (0 ≤ j) && lg j 19 && lg i 64) fun i j => .int (i ^ j.toNat)
def ltD : D → D → Option D := iOp (fun _ _ => true) fun i j => .bl (decide (i < j))
def leD : D → D → Option D := iOp (fun _ _ => true) fun i j => .bl (decide (i ≤ j))
def gtD : D → D → Option D := iOp (fun _ _ => true) fun i j => .bl (decide (j < i))
def geD : D → D → Option D := iOp (fun _ _ => true) fun i j => .bl (decide (j ≤ i))
theorem iOp_r {C : Int → Int → Bool} {g : Int → Int → D} {tp : Tb} {G H : Hp} {d e : D} {v w : V} {Q : VK} {P : Int → Int → V → Prop} (l : Le G H) (rv : Rep (kwX X) G d v) (rw : Rep (kwX X) G e w) (q : QX (kwX X) tp G H (iOp C g d e) Q) :
    ∃ i j, v = .int i ∧ w = .int j ∧ C i j = true ∧ ∀ u, Rep (kwX X) G (g i j) u → Q u H := by
  cases d with
  | int i =>
    cases e with
    | int j =>
      replace q : QX (kwX X) tp G H (if C i j = true then some (g i j) else none) Q := q
      by_cases z : C i j = true
      · rw [if_pos z] at q
        exact ⟨i, j, rv, rw, z, fun u r => q.at l r⟩
      · rw [if_neg z] at q; exact False.elim q
    | _ => exact False.elim q
  | _ => exact False.elim q
theorem os_int0 {g : Int → Int → V} {h : Int → Int → D} (hg : ∀ G i j, Rep (kwX X) G (h i j) (g i j)) : OpS (kwX X) (rI0 g) (iOp (fun _ _ => true) h) := fun tp G H d e v w Q l rv rw q => by
  obtain ⟨i, j, e1, e2, _, k⟩ := iOp_r (P := fun _ _ _ => True) l rv rw q
  exact ⟨i, j, e1, e2, k _ (hg G i j)⟩
theorem os_int {C : Int → Int → Prop} {C' : Int → Int → Bool} {g : Int → Int → V} {h : Int → Int → D} (hc : ∀ i j, C' i j = true → C i j) (hg : ∀ G i j, Rep (kwX X) G (h i j) (g i j)) : OpS (kwX X) (rI C g) (iOp C' h) := fun tp G H d e v w Q l rv rw q => by
  obtain ⟨i, j, e1, e2, c, k⟩ := iOp_r (P := fun _ _ _ => True) l rv rw q
  exact ⟨i, j, e1, e2, hc i j c, k _ (hg G i j)⟩
theorem os_sub : OpS (kwX X) (rI0 fun i j => .int (i - j)) subD := os_int0 fun _ _ _ => rfl
theorem os_mul : OpS (kwX X) (rI CMul fun i j => .int (i * j)) mulD := os_int (fun _ _ h => by rw [Bool.or_eq_true] at h; exact h.imp (fun h => lg_lt h (by decide)) (fun h => lg_lt h (by decide))) fun _ _ _ => rfl
theorem os_fdiv : OpS (kwX X) (rI CDiv fun i j => .int (i / j)) fdivD := os_int (fun _ _ h => by rw [Bool.and_eq_true, decide_eq_true_eq] at h; have := (lg_lt h.2 (by decide)).2; exact ⟨h.1, this⟩) fun _ _ _ => rfl
theorem os_mod : OpS (kwX X) (rI (fun _ j => 0 < j) fun i j => .int (i % j)) modD := os_int (fun _ _ h => of_decide_eq_true h) fun _ _ _ => rfl
theorem os_pow : OpS (kwX X) (rI CPow fun i j => .int (i ^ j.toNat)) powD := os_int (fun _ _ h => by simp only [Bool.and_eq_true, decide_eq_true_eq] at h; have h2 := (lg_lt h.1.2 (by decide)).2; have h3 := lg_nat h.2 (by decide); exact ⟨h.1.1, by omega, h3⟩) fun _ _ _ => rfl
theorem os_lt : OpS (kwX X) (rI0 fun i j => .bl (decide (i < j))) ltD := os_int0 fun _ _ _ => rfl
theorem os_le : OpS (kwX X) (rI0 fun i j => .bl (decide (i ≤ j))) leD := os_int0 fun _ _ _ => rfl
theorem os_gt : OpS (kwX X) (rI0 fun i j => .bl (decide (j < i))) gtD := os_int0 fun _ _ _ => rfl
theorem os_ge : OpS (kwX X) (rI0 fun i j => .bl (decide (j ≤ i))) geD := os_int0 fun _ _ _ => rfl

/-! ### is None -/
def isND (d e : D) : Option D := if e = .non then some (.bl (decide (d = .non))) else none
def notND (d e : D) : Option D := if e = .non then some (.bl (!decide (d = .non))) else none
theorem rep_non {K : Kw} {G : Hp} {d : D} {v : V} (r : Rep K G d v) : decide (v = .non) = decide (d = .non) := by
  cases d with
  | non => cases r; simp
  | bl _ => cases r; simp
  | int _ => cases r; simp
  | str _ => cases r; simp
  | tup _ => obtain ⟨a, vs, e, _⟩ := r; subst e; simp
  | lst _ => obtain ⟨a, vs, e, _⟩ := r; subst e; simp
  | obj _ _ _ => obtain ⟨a, q, vs, e, _⟩ := r; subst e; simp
  | dk _ _ => obtain ⟨a, vs, e, _⟩ := r; subst e; simp
  | dt _ _ => obtain ⟨a, o, ka, vs, e, _⟩ := r; subst e; simp
theorem os_notN : OpS (kwX X) (fun x y H Q => y = .non ∧ Q (.bl (!decide (x = .non))) H) notND := fun tp G H d e v w Q l rv rw q => by
  unfold notND at q
  split at q
  · rename_i z
    subst z
    exact ⟨rw, by rw [rep_non rv]; exact q.at l rfl⟩
  · exact False.elim q

/-! ### in -/
def inS (x y : Str) : Bool := match x.cps.toList with
  | [c] => decide (c ∈ y.cps.toList)
  | _ => !(Builtin.Str.occurrences y x 0 y.length 1).isEmpty
def inD : D → D → Option D
  | .str x, .str y => some (.bl (inS x y))
  | x, .lst ys => if sh x && sh (.lst ys) then some (.bl (ys.any fun z => eqv z x)) else none
  | x, .tup ys => if sh x && sh (.tup ys) then some (.bl (ys.any fun z => eqv z x)) else none
  | _, _ => none
def ninD (x y : D) : Option D := match inD x y with
  | some (.bl b) => some (.bl !b)
  | _ => none
def rInT (K : PySem.W.Frag) : R2 := fun x y H Q => ∃ d ds, Dp K H x d ∧ Dp K H y (.tuple ds) ∧ SeqAt.shaped d = true ∧ SeqAt.shaped (.tuple ds) = true ∧ Q (.bl (ds.any fun z => PyData.eqv z d)) H
def rNotInT (K : PySem.W.Frag) : R2 := fun x y H Q => ∃ d ds, Dp K H x d ∧ Dp K H y (.tuple ds) ∧ SeqAt.shaped d = true ∧ SeqAt.shaped (.tuple ds) = true ∧ Q (.bl (!ds.any fun z => PyData.eqv z d)) H
theorem room_in_shapedT {A : Around} {d : PyData} {ds : List PyData} (h : SeqAt.shaped d = true) (hu : A.units + 65 < cLine) : A.units + 1 + min (PyData.depthAll ds) d.depth < cLine := by
  have h1 := SeqAt.depth_of_shaped h
  have h2 : min (PyData.depthAll ds) d.depth ≤ d.depth := Nat.min_le_right _ _
  omega
theorem op_inT (hu : X.A.units + 65 < cLine) : OpR X (compareOp .In) (rInT X.K) := by
  intro pins s σ H x y v u Q I rx ry h
  obtain ⟨d, ds, hd, he, sd, se, q⟩ := h
  obtain ⟨as, r1⟩ := Dp.reads I d x v hd rx
  obtain ⟨bs, r2⟩ := Dp.reads I (.tuple ds) y u he ry
  exact SeqAt.in_tuple_reads r2 r1 (SeqAt.canLay_of_shaped se) (SeqAt.canLay_of_shaped sd) (room_in_shapedT sd hu) ⟨.bl _, H, I, rfl, q⟩
theorem op_notInT (hu : X.A.units + 65 < cLine) : OpR X (compareOp .NotIn) (rNotInT X.K) := by
  intro pins s σ H x y v u Q I rx ry h
  obtain ⟨d, ds, hd, he, sd, se, q⟩ := h
  obtain ⟨as, r1⟩ := Dp.reads I d x v hd rx
  obtain ⟨bs, r2⟩ := Dp.reads I (.tuple ds) y u he ry
  exact SeqAt.notIn_tuple_reads r2 r1 (SeqAt.canLay_of_shaped se) (SeqAt.canLay_of_shaped sd) (room_in_shapedT sd hu) ⟨.bl _, H, I, rfl, q⟩
def rInSg : R2 := fun x y H Q => ∃ (c : Nat) (z : Str), x = .str ⟨#[c]⟩ ∧ y = .str z ∧ Q (.bl (decide (c ∈ z.cps.toList))) H
def rInSs : R2 := fun x y H Q => ∃ i j, x = .str i ∧ y = .str j ∧ Q (.bl (!(Builtin.Str.occurrences j i 0 j.length 1).isEmpty)) H
def rNinSg : R2 := fun x y H Q => ∃ (c : Nat) (z : Str), x = .str ⟨#[c]⟩ ∧ y = .str z ∧ Q (.bl (!decide (c ∈ z.cps.toList))) H
def rNinSs : R2 := fun x y H Q => ∃ i j, x = .str i ∧ y = .str j ∧ Q (.bl (!(!(Builtin.Str.occurrences j i 0 j.length 1).isEmpty))) H
def rInAll (K : PySem.W.Frag) : R2 := fun x y H Q => rInSg x y H Q ∨ rInSs x y H Q ∨ rInD K x y H Q ∨ rInT K x y H Q
def rNinAll (K : PySem.W.Frag) : R2 := fun x y H Q => rNinSg x y H Q ∨ rNinSs x y H Q ∨ rNotInD K x y H Q ∨ rNotInT K x y H Q
theorem op_inAll (hu : X.A.units + 65 < cLine) : OpR X (compareOp .In) (rInAll X.K) := OpR.or (r := rInSg) op_in_sign (OpR.or (r := rInSs) op_in_str ((op_inD hu).or (op_inT hu)))
theorem op_ninAll (hu : X.A.units + 65 < cLine) : OpR X (compareOp .NotIn) (rNinAll X.K) := OpR.or (r := rNinSg) op_notIn_sign (OpR.or (r := rNinSs) op_notIn_str ((op_notInD hu).or (op_notInT hu)))
theorem str_one {x : Str} {c : Nat} (e : x.cps.toList = [c]) : x = ⟨#[c]⟩ := by
  obtain ⟨⟨l⟩⟩ := x
  simp only at e
  subst e
  rfl
theorem any_py (ys : List D) (x : D) : ((D.pys ys).any fun z => PyData.eqv z x.py) = ys.any fun z => eqv z x := by
  rw [D.pys_eq, List.any_map]
  rfl
theorem inD_seq {x : D} {ys : List D} {z : D} : (inD x (.lst ys) = some z → sh x = true ∧ sh (.lst ys) = true ∧ z = .bl (ys.any fun z => eqv z x)) ∧ (inD x (.tup ys) = some z → sh x = true ∧ sh (.tup ys) = true ∧ z = .bl (ys.any fun z => eqv z x)) := by
  constructor
  · intro h
    have h' : (if (sh x && sh (.lst ys)) = true then some (D.bl (ys.any fun z => eqv z x)) else none) = some z := by
      cases x <;> exact h
    split at h'
    · rename_i c
      rw [Bool.and_eq_true] at c
      cases h'
      exact ⟨c.1, c.2, rfl⟩
    · cases h'
  · intro h
    have h' : (if (sh x && sh (.tup ys)) = true then some (D.bl (ys.any fun z => eqv z x)) else none) = some z := by
      cases x <;> exact h
    split at h'
    · rename_i c
      rw [Bool.and_eq_true] at c
      cases h'
      exact ⟨c.1, c.2, rfl⟩
    · cases h'
theorem QX.some_of {K : Kw} {tp : Tb} {G H : Hp} {r : Option D} {Q : VK} (q : QX K tp G H r Q) : ∃ z, r = some z := by
  cases r with
  | none => exact False.elim q
  | some z => exact ⟨z, rfl⟩
theorem os_in : OpS (kwX X) (rInAll X.K) inD := fun tp G H d e v w Q l rv rw q => by
  obtain ⟨z, ez⟩ := q.some_of
  rw [ez] at q
  cases e with
  | str y =>
    cases d with
    | str x =>
      cases ez
      have e1 : v = .str x := rv
      have e2 : w = .str y := rw
      have q' := q.at l (show Rep (kwX X) G (.bl (inS x y)) (.bl (inS x y)) from rfl)
      unfold inS at q'
      split at q'
      · rename_i c hc
        exact .inl ⟨c, y, by rw [e1, str_one hc], e2, q'⟩
      · exact .inr (.inl ⟨x, y, e1, e2, q'⟩)
    | _ => cases ez
  | lst ys =>
    obtain ⟨s1, s2, rfl⟩ := inD_seq.1 ez
    exact .inr (.inr (.inl ⟨d.py, D.pys ys, Rep.sh s1 (Rep.mono l _ _ rv), Rep.sh (d := .lst ys) s2 (Rep.mono l _ _ rw), s1, s2, by rw [any_py]; exact q.at l rfl⟩))
  | tup ys =>
    obtain ⟨s1, s2, rfl⟩ := inD_seq.2 ez
    exact .inr (.inr (.inr ⟨d.py, D.pys ys, Rep.sh s1 (Rep.mono l _ _ rv), Rep.sh (d := .tup ys) s2 (Rep.mono l _ _ rw), s1, s2, by rw [any_py]; exact q.at l rfl⟩))
  | _ => cases d <;> cases ez
theorem os_nin : OpS (kwX X) (rNinAll X.K) ninD := fun tp G H d e v w Q l rv rw q => by
  unfold ninD at q
  split at q
  · rename_i b ez
    cases e with
    | str y =>
      cases d with
      | str x =>
        cases ez
        have e1 : v = .str x := rv
        have e2 : w = .str y := rw
        have q' := q.at l (show Rep (kwX X) G (.bl (!inS x y)) (.bl (!inS x y)) from rfl)
        unfold inS at q'
        split at q'
        · rename_i c hc
          exact .inl ⟨c, y, by rw [e1, str_one hc], e2, q'⟩
        · exact .inr (.inl ⟨x, y, e1, e2, q'⟩)
      | _ => cases ez
    | lst ys =>
      obtain ⟨s1, s2, hb⟩ := inD_seq.1 ez
      cases hb
      exact .inr (.inr (.inl ⟨d.py, D.pys ys, Rep.sh s1 (Rep.mono l _ _ rv), Rep.sh (d := .lst ys) s2 (Rep.mono l _ _ rw), s1, s2, by rw [any_py]; exact q.at l rfl⟩))
    | tup ys =>
      obtain ⟨s1, s2, hb⟩ := inD_seq.2 ez
      cases hb
      exact .inr (.inr (.inr ⟨d.py, D.pys ys, Rep.sh s1 (Rep.mono l _ _ rv), Rep.sh (d := .tup ys) s2 (Rep.mono l _ _ rw), s1, s2, by rw [any_py]; exact q.at l rfl⟩))
    | _ => cases d <;> cases ez
  · exact False.elim q

/-! ### x[i], x[lo:hi] -/
def ixD : D → D → Option D
  | .lst xs, .int i => atI xs i
  | .tup xs, .int i => atI xs i
  | .str z, .int i => if z.length ≤ sizeLine then (atI z.cps.toList i).map fun c => .str ⟨#[c]⟩ else none
  | _, _ => none
theorem Reps.atI {K : Kw} {G : Hp} {ds : List D} {vs : List V} {i : Int} {d : D} (r : Reps K G ds vs) (h : L2.atI ds i = some d) : ∃ v, L2.atI vs i = some v ∧ Rep K G d v := by
  unfold L2.atI at h ⊢
  rw [r.length]
  cases e : ixN ds.length i with
  | none => rw [e] at h; cases h
  | some j =>
    rw [e] at h
    exact r.get h
theorem os_ix : OpS (kwX X) (rIx X.K) ixD := fun tp G H d e v w Q l rv rw q => by
  obtain ⟨z, ez⟩ := q.some_of
  rw [ez] at q
  cases d with
  | lst xs =>
    cases e with
    | int i =>
      obtain ⟨p, vs, ev, sv, rvs⟩ := rv
      obtain ⟨u, eu, ru⟩ := rvs.atI (show atI xs i = some z from ez)
      exact .inl ⟨p, vs, i, u, ev, rw, l.sqL sv, eu, q.at l ru⟩
    | _ => cases ez
  | tup xs =>
    cases e with
    | int i =>
      obtain ⟨p, vs, ev, sv, rvs⟩ := rv
      obtain ⟨u, eu, ru⟩ := rvs.atI (show atI xs i = some z from ez)
      exact .inr (.inl ⟨p, vs, i, u, ev, rw, l.sqT sv.1, eu, q.at l ru⟩)
    | _ => cases ez
  | str x =>
    cases e with
    | int i =>
      have ez' : (if x.length ≤ sizeLine then (atI x.cps.toList i).map fun c => D.str ⟨#[c]⟩ else none) = some z := ez
      split at ez'
      · rename_i hz
        cases hc : atI x.cps.toList i with
        | none => rw [hc] at ez'; cases ez'
        | some c =>
          rw [hc] at ez'
          cases ez'
          exact .inr (.inr ⟨x, i, c, rv, rw, hz, hc, q.at l rfl⟩)
      · cases ez'
    | _ => cases ez
  | _ => cases e <;> cases ez
theorem de_ix {M : Mo} {W : WX} {a b : Expr} {f g : Ev} {pos : Pos} (ha : PE X a (tE (kwX X) M W f)) (hb : PE X b (tE (kwX X) M W g)) (hs : PlainIx b := by exact fun _ _ => rfl) : PE X (.Subscript a b pos) (tE (kwX X) M W (e2 ixD f g)) :=
  PE.imp (pe_ix ix_seq ha hb hs) fun _ _ _ q => op_gen os_ix q
def oNone : Env → R (Option Int) := fun _ => .ok none
def oSome (f : Ev) : Env → R (Option Int) := fun δ => f δ >>= fun x => match x with
  | .int i => .ok (some i)
  | _ => .bad
theorem do_none {M : Mo} {W : WX} : PO X none (tO (kwX X) M W oNone) := by
  refine ⟨fun pins s σ H Q I h => ?_⟩
  obtain ⟨Fo, G, δ, er, q⟩ := h
  exact po_none.run pins s σ H Q I (q G H (.refl er.gh))
theorem do_some {M : Mo} {W : WX} {e : Expr} {f : Ev} (h : PE X e (tE (kwX X) M W f)) : PO X (some e) (tO (kwX X) M W (oSome f)) := by
  refine ⟨fun pins s σ H Q I hw => ?_⟩
  refine (po_some h).run pins s σ H Q I ?_
  obtain ⟨Fo, G, δ, er, q⟩ := hw
  refine ⟨Fo, G, δ, er, PX.mono (PX.bind q) fun G1 H1 x t1 q1 v rv => ?_⟩
  cases x with
  | int i => exact ⟨i, rv, q1 G1 H1 (.refl t1.2.1)⟩
  | _ => exact False.elim q1
def cutD {α : Type} (xs : List α) (lo hi : Option Int) : List α := (xs.drop (HT.sIx xs.length 0 lo)).take (HT.sIx xs.length xs.length hi - HT.sIx xs.length 0 lo)
def slD : D → Option Int → Option Int → Option D
  | .lst xs, lo, hi => some (.lst (cutD xs lo hi))
  | .tup xs, lo, hi => some (.tup (cutD xs lo hi))
  | .str z, lo, hi => if z.length ≤ sizeLine then some (.str (cutS z lo hi)) else none
  | _, _, _ => none
def eSl (f : Ev) (l h : Env → R (Option Int)) : Ev := fun δ => f δ >>= fun x => l δ >>= fun a => h δ >>= fun b => ofO (slD x a b)
def rSlAll (K : PySem.W.Frag) : V → Option Int → Option Int → Hp → VK → Prop := fun x lo hi H Q => rSlL K x lo hi H Q ∨ rSlF K x lo hi H Q ∨ rSlS x lo hi H Q
theorem sl_all : SlR X (rSlAll X.K) := sl_list.or (sl_tupF.or sl_str)
theorem de_slice {M : Mo} {W : WX} {e : Expr} {lo hi : Option Expr} {f : Ev} {l h : Env → R (Option Int)} {pos p2 : Pos} (he : PE X e (tE (kwX X) M W f)) (hl : PO X lo (tO (kwX X) M W l)) (hh : PO X hi (tO (kwX X) M W h)) : PE X (.Subscript e (.Slice lo hi none p2) pos) (tE (kwX X) M W (eSl f l h)) := by
  refine PE.imp (pe_slice sl_all he hl hh) fun σ H Q q => ?_
  obtain ⟨Fo, G, δ, er, q⟩ := q
  refine ⟨Fo, G, δ, er, PX.mono (PX.bind q) fun G1 H1 x t1 q1 v rv => ?_⟩
  refine ⟨Fo, G1, δ, er.tr t1, PX.mono (PX.bind q1) fun G2 H2 a t2 q2 => ?_⟩
  refine ⟨Fo, G2, δ, (er.tr t1).tr t2, PX.mono (PX.bind q2) fun G3 H3 b t3 q3 => ?_⟩
  have q4 := PX.qx q3
  have l3 := t3.2.1
  have rv3 := Rep.mono t3.1 _ _ (Rep.mono t2.1 _ _ rv)
  cases x with
  | lst xs =>
    obtain ⟨p, vs, ev, sv, rvs⟩ := rv3
    refine .inl ⟨p, vs, ev, l3.sqL sv, fun p' n => ?_⟩
    have r2 : Reps (kwX X) G3 (cutD xs a b) (cutV vs a b) := by
      unfold cutD cutV
      rw [rvs.length]
      exact (rvs.drop _).take _
    exact QX.newLst q4 l3 r2 n
  | tup xs =>
    obtain ⟨p, vs, ev, sv, rvs⟩ := rv3
    refine .inr (.inl ⟨p, vs, ev, l3.sqT sv.1, fun hw => ?_, fun hw => ?_⟩)
    · rw [rvs.length] at hw
      have e5 : cutD xs a b = xs := by
        unfold cutD
        rw [hw.1, hw.2, List.drop_zero, Nat.sub_zero, List.take_length]
      have q5 : QX (kwX X) M.tp G3 H3 (some (.tup (cutD xs a b))) Q := q4
      rw [e5] at q5
      exact q5.at l3 ⟨p, vs, rfl, sv, rvs⟩
    · have r2 : Reps (kwX X) G3 (cutD xs a b) (cutV vs a b) := by
        unfold cutD cutV
        rw [rvs.length]
        exact (rvs.drop _).take _
      exact QX.newTup q4 l3 r2
  | str z =>
    have q5 : QX (kwX X) M.tp G3 H3 (if z.length ≤ sizeLine then some (.str (cutS z a b)) else none) Q := q4
    split at q5
    · rename_i hz
      exact .inr (.inr ⟨z, rv3, hz, q5.at l3 rfl⟩)
    · exact False.elim q5
  | _ => exact False.elim q4

/-! ### len, isinstance, tuple, list, int, join, replace -/
def lenD : List D → Option D
  | [.str z] => if z.length ≤ sizeLine then some (.int z.length) else none
  | [.lst xs] => some (.int xs.length)
  | [.tup xs] => some (.int xs.length)
  | _ => none
theorem cs_len : CallS (kwX X) (fun xs H Q => ∃ x n, xs = [x] ∧ LenV X.K x H n ∧ Q (.int n) H) lenD := fun tp G H ds vs Q l r q => by
  cases ds with
  | nil => exact False.elim q
  | cons d t =>
    cases t with
    | cons _ _ => cases d <;> exact False.elim q
    | nil =>
      obtain ⟨v, rr, e, rv, er⟩ := r
      cases er
      cases d with
      | str z =>
        have q5 : QX (kwX X) tp G H (if z.length ≤ sizeLine then some (.int z.length) else none) Q := q
        split at q5
        · rename_i hz
          cases rv
          exact ⟨_, z.length, e, ⟨hz, rfl⟩, q5.at l rfl⟩
        · exact False.elim q5
      | lst xs =>
        obtain ⟨p, vs', ev, sv, rvs⟩ := rv
        subst ev
        exact ⟨_, xs.length, e, .inl ⟨vs', l.sqL sv, rvs.length.symm⟩, QX.at q l rfl⟩
      | tup xs =>
        obtain ⟨p, vs', ev, sv, rvs⟩ := rv
        subst ev
        exact ⟨_, xs.length, e, .inr ⟨vs', l.sqT sv.1, rvs.length.symm⟩, QX.at q l rfl⟩
      | _ => exact False.elim q
/-- the built-in type of data -/
def tyN : D → Option String
  | .non => some "NoneType"
  | .bl _ => some "bool"
  | .int _ => some "int"
  | .str _ => some "str"
  | .tup _ => some "tuple"
  | .lst _ => some "list"
  | _ => none
theorem Rep.ty {G H : Hp} {d : D} {v : V} {t : String} (l : Le G H) (r : Rep (kwX X) G d v) (ht : tyN d = some t) : TyX X.K H v (.type t) := by
  cases d with
  | obj _ _ _ => cases ht
  | dk _ _ => cases ht
  | dt _ _ => cases ht
  | non => cases ht; cases r; exact .base .non
  | bl b => cases ht; cases r; exact .base (.bl b)
  | int i => cases ht; cases r; exact .base (.int i)
  | str x => cases ht; cases r; exact .base (.str x)
  | tup ds =>
    cases ht
    obtain ⟨a, vs, e, s, _⟩ := r
    subst e
    rcases s with (s | ⟨o, s⟩) | ⟨o, its, n, k, c, _⟩
    · exact .base (.tup (l _ _ s))
    · exact .fTuple (l _ _ s)
    · exact .kTuple k c
  | lst ds =>
    cases ht
    obtain ⟨a, vs, e, s, _⟩ := r
    subst e
    rcases s with (s | ⟨o, s⟩) | ⟨o, its, n, k, c, _⟩
    · exact .base (.lst (l _ _ s))
    · exact .base (.frz (l _ _ s))
    · exact .kList k c
/-- isinstance(x, T), T a built-in type by name -/
def eIsi (T : String) (f : Ev) : Ev := e1 (fun d => (tyN d).bind fun t => (kitB t T).map .bl) f
theorem de_isi {M : Mo} {W : WX} {x T : Str} {T' : String} {p p' pos : Pos} {e : Expr} {f : Ev} (hg : Gl X x) (hm : X.mg x = none) (hv : bootBuiltins x = some (.builtin "isinstance")) (hg2 : Gl X T) (hm2 : X.mg T = none) (hv2 : bootBuiltins T = some (.type T')) (ha : PE X e (tE (kwX X) M W f))
    (hn : x ≠ "__name__" := by decide) (hdb : (x == ("__debug__" : Str)) = false := by decide) (hn2 : T ≠ "__name__" := by decide) (hdb2 : (T == ("__debug__" : Str)) = false := by decide)
    (he : starEach [e, .Name T p'] X.env = (false, eval e X.env) :: starEach [.Name T p'] X.env := by rfl) (he2 : starEach [.Name T p'] X.env = (false, eval (.Name T p') X.env) :: starEach [] X.env := by rfl) (hpl : (backTo pos (starEach [.Name T p'] X.env)).any (·.1) = false := by rfl) :
    PE X (.Call (.Name x p) [e, .Name T p'] [] pos) (tE (kwX X) M W (eIsi T' f)) := by
  have hT : PE X (.Name T p') (tC (.ty T')) := pe_bltn hg2 hm2 hv2 rfl hn2 hdb2
  refine PE.imp (pe_callB call_isi hg hm hv (pa_cons ha (pa_cons hT pa_nil he2) he) hn hdb he hpl) fun σ H Q q => ?_
  obtain ⟨Fo, G, δ, er, q⟩ := q
  refine ⟨Fo, G, δ, er, PX.mono (PX.bind q) fun G1 H1 d t1 q1 v rv => ?_⟩
  have q2 := PX.qx q1
  obtain ⟨z, ez⟩ := q2.some_of
  rw [ez] at q2
  replace ez : ((tyN d).bind fun t => (kitB t T').map D.bl) = some z := ez
  cases ht : tyN d with
  | none => rw [ht] at ez; cases ez
  | some t =>
    rw [ht] at ez
    replace ez : (kitB t T').map D.bl = some z := ez
    cases hk : kitB t T' with
    | none => rw [hk] at ez; cases ez
    | some b =>
      rw [hk] at ez
      cases ez
      exact ⟨v, .ty T', .type t, .type T', b, rfl, .ty T', rv.ty t1.2.1 ht, kit_ty hk, q2.at t1.2.1 rfl⟩
def tupleD : List D → Option D
  | [.lst xs] => some (.tup xs)
  | [.tup xs] => some (.tup xs)
  | _ => none
theorem cs_tuple : CallS (kwX X) (fun xs H Q => ∃ p ys, xs = [.ref p] ∧ ((SqL X.K H p ys ∧ NewT H ys Q) ∨ (SqT X.K H p ys ∧ Q (.ref p) H))) tupleD := fun tp G H ds vs Q l r q => by
  cases ds with
  | nil => exact False.elim q
  | cons d t =>
    cases t with
    | cons _ _ => cases d <;> exact False.elim q
    | nil =>
      obtain ⟨v, rr, e, rv, er⟩ := r
      cases er
      cases d with
      | lst xs =>
        obtain ⟨p, vs', ev, sv, rvs⟩ := rv
        subst ev
        exact ⟨p, vs', e, .inl ⟨l.sqL sv, QX.newTup q l rvs⟩⟩
      | tup xs =>
        obtain ⟨p, vs', ev, sv, rvs⟩ := rv
        subst ev
        exact ⟨p, vs', e, .inr ⟨l.sqT sv.1, QX.at q l ⟨p, vs', rfl, sv, rvs⟩⟩⟩
      | _ => exact False.elim q
def listD : List D → Option D
  | [.lst xs] => some (.lst xs)
  | [.tup xs] => some (.lst xs)
  | _ => none
end
end Dl

set_option Elab.async false
set_option linter.all false
set_option maxRecDepth 100000
set_option maxHeartbeats 2000000
/-! Statements over data. -/
namespace Dl
open PySem PySem.Spec PyProof.Rows L2

inductive Fl where
  | next (δ : Env)
  | brk (δ : Env)
  | cont (δ : Env)
  | ret (d : D)
  | exc (c : String) (δ : Env)
  | bad
abbrev Sv := Env → Fl
def bindF {α : Type} (r : R α) (δ : Env) (k : α → Fl) : Fl := match r with
  | .ok a => k a
  | .exc c => .exc c δ
  | .bad => .bad
def PF (K : Kw) (M : Mo) (W : WX) (Fo G : Hp) (r : Fl) (D : Ends) : Prop := match r with
  | .next δ => ∀ G' σ' H', Le G G' → ER K M.tp Fo G' H' δ σ' → D.nx σ' H'
  | .brk δ => ∀ G' σ' H', Le G G' → ER K M.tp Fo G' H' δ σ' → D.bk σ' H'
  | .cont δ => ∀ G' σ' H', Le G G' → ER K M.tp Fo G' H' δ σ' → D.ct σ' H'
  | .ret d => ∀ G' H', Le G G' → (∃ σ', ER K M.tp Fo G' H' [] σ') → ∀ v, Rep K G' d v → D.rt v H'
  | .exc c δ => ∀ G' σ' H', Le G G' → ER K M.tp Fo G' H' δ σ' → W (M.ec c) none σ' H'
  | .bad => False
section
variable {K : Kw} {M : Mo} {W : WX} {Fo G G' H : Hp} {D : Ends} {δ : Env} {σ : L2.St}
theorem PF.mono (l : Le G G') {r : Fl} (h : PF K M W Fo G r D) : PF K M W Fo G' r D := by
  cases r with
  | next δ => exact fun G2 σ2 H2 l2 e => h G2 σ2 H2 (l.trans l2) e
  | brk δ => exact fun G2 σ2 H2 l2 e => h G2 σ2 H2 (l.trans l2) e
  | cont δ => exact fun G2 σ2 H2 l2 e => h G2 σ2 H2 (l.trans l2) e
  | ret d => exact fun G2 H2 l2 e => h G2 H2 (l.trans l2) e
  | exc c δ => exact fun G2 σ2 H2 l2 e => h G2 σ2 H2 (l.trans l2) e
  | bad => exact h
theorem ER.nil (e : ER K M.tp Fo G H δ σ) : ER K M.tp Fo G H [] [] :=
  ⟨e.gh, e.fh, e.fg, e.tb, rfl, fun i d h => by simp at h, fun _ => [], fun i d h => by simp at h, fun i j c d h => by simp at h⟩
theorem PF.bind {α : Type} {r : R α} {k : α → Fl} (er : ER K M.tp Fo G H δ σ) (h : PF K M W Fo G (bindF r δ k) D) : PX M W σ G H r fun G' H' a => ER K M.tp Fo G' H' δ σ ∧ PF K M W Fo G' (k a) D := by
  cases r with
  | ok a => exact fun G2 H2 t => ⟨er.tr t, PF.mono t.1 (r := k a) h⟩
  | exc c => exact fun G2 H2 t => h G2 σ H2 t.1 (er.tr t)
  | bad => exact h
end
def tS (K : Kw) (M : Mo) (W : WX) (f : Sv) : TS := fun D σ H => ∃ Fo G δ, ER K M.tp Fo G H δ σ ∧ PF K M W Fo G (f δ) D

/-! ### the data functions' words -/
def sNext : Sv := fun δ => .next δ
def sSeq (f g : Sv) : Sv := fun δ => match f δ with
  | .next δ' => g δ'
  | .brk δ' => .brk δ'
  | .cont δ' => .cont δ'
  | .ret d => .ret d
  | .exc c δ' => .exc c δ'
  | .bad => .bad
def sIf (c : Tv) (f g : Sv) : Sv := fun δ => bindF (c δ) δ fun b => match b with
  | true => f δ
  | false => g δ
def sSet (i : Nat) (f : Ev) : Sv := fun δ => bindF (f δ) δ fun d => .next (δ.set i (.val d))
def sOwn (i : Nat) (f : Env → R (List D)) : Sv := fun δ => bindF (f δ) δ fun ds => .next (δ.set i (.own ds))
def sRet (f : Ev) : Sv := fun δ => bindF (f δ) δ fun d => .ret d
def sDrop (f : Ev) : Sv := fun δ => bindF (f δ) δ fun _ => .next δ
def sRaise (c : String) : Sv := fun δ => .exc c δ
def sFrz (i : Nat) (f : Sv) : Sv := fun δ => f (frz i δ)
def sApp (i : Nat) (f : Ev) : Sv := fun δ => match δ[i]? with
  | some (.own (.lst ds)) => bindF (f δ) δ fun d => if ds.length < sizeLine then .next (δ.set i (.own (ds ++ [d]))) else .bad
  | _ => .bad
def setAll : List Nat → List D → Env → Env
  | i :: is, d :: ds, δ => setAll is ds (δ.set i (.val d))
  | _, _, δ => δ
/-- a target: a name, or a tuple of names -/
inductive Tg where
  | one (i : Nat)
  | all (is : List Nat)
def Tg.put : Tg → D → Env → Option Env
  | .one i, d, δ => some (δ.set i (.val d))
  | .all is, .tup ds, δ => if ds.length = is.length then some (setAll is ds δ) else none
  | .all _, _, _ => none
def sUnp (t : Tg) (f : Ev) : Sv := fun δ => bindF (f δ) δ fun d => match t.put d δ with
  | some δ' => .next δ'
  | none => .bad
def forF (t : Tg) (f : Sv) : List D → Sv
  | [] => fun δ => .next δ
  | d :: ds => fun δ => match t.put d δ with
    | none => .bad
    | some δ1 => match f δ1 with
      | .next δ' => forF t f ds δ'
      | .cont δ' => forF t f ds δ'
      | .brk δ' => .next δ'
      | .ret d => .ret d
      | .exc c δ' => .exc c δ'
      | .bad => .bad
def sFor (t : Tg) (it : Env → R (List D)) (f : Sv) : Sv := fun δ => bindF (it δ) δ fun ds => forF t f ds δ
def noX : Fl → Fl
  | .exc _ _ => .bad
  | r => r
def sTry (sub : String → Option Bool) (f g : Sv) : Sv := fun δ => match f δ with
  | .exc c δ' => match sub c with
    | some true => noX (g δ')
    | some false => .exc c δ'
    | none => .bad
  | .next δ' => .next δ'
  | .brk δ' => .brk δ'
  | .cont δ' => .cont δ'
  | .ret d => .ret d
  | .bad => .bad

section
variable {X : Cx} {M : Mo} {W : WX} {st : Stmt} {sts rest body : List Stmt} {pos : Pos} {f g : Sv} {e : Expr} {fe : Ev}
theorem PS.imp {t t' : TS} (h : PS X st t) (i : ∀ D σ H, t' D σ H → t D σ H) : PS X st t' := ⟨fun pins s σ H D I q => h.run pins s σ H D I (i D σ H q)⟩
theorem PSs.imp {t t' : TS} (h : PSs X sts t) (i : ∀ D σ H, t' D σ H → t D σ H) : PSs X sts t' := ⟨fun pins s σ H D I q => h.run pins s σ H D I (i D σ H q)⟩

theorem dss_nil : PSs X [] (tS (kwX X) M W sNext) := PSs.imp pss_nil fun D σ H ⟨Fo, G, δ, er, q⟩ => q G σ H .refl er
theorem dss_cons (h1 : PS X st (tS (kwX X) M W f)) (h2 : PSs X rest (tS (kwX X) M W g)) : PSs X (st :: rest) (tS (kwX X) M W (sSeq f g)) := by
  refine PSs.imp (pss_cons h1 h2) fun D σ H ⟨Fo, G, δ, er, q⟩ => ⟨Fo, G, δ, er, ?_⟩
  unfold sSeq at q
  cases z : f δ with
  | next δ1 =>
    rw [z] at q
    exact fun G2 σ2 H2 l2 e2 => ⟨Fo, G2, δ1, e2, PF.mono l2 q⟩
  | brk δ1 => rw [z] at q; exact q
  | cont δ1 => rw [z] at q; exact q
  | ret d => rw [z] at q; exact q
  | exc c δ1 => rw [z] at q; exact q
  | bad => rw [z] at q; exact q
theorem dss_one (h1 : PS X st (tS (kwX X) M W f)) : PSs X [st] (tS (kwX X) M W f) := pss_one h1
theorem ds_frz (i : Nat) (h : PS X st (tS (kwX X) M W f)) : PS X st (tS (kwX X) M W (sFrz i f)) := by
  refine PS.imp h fun D σ H ⟨Fo, G, δ, er, q⟩ => ?_
  obtain ⟨G', l, er', _⟩ := er.frz i
  exact ⟨Fo, _, frz i δ, er', PF.mono l q⟩
theorem ds_ret (he : PE X e (tE (kwX X) M W fe)) : PS X (.Return (some e) pos) (tS (kwX X) M W (sRet fe)) := by
  refine PS.imp (ps_ret he) fun D σ H ⟨Fo, G, δ, er, q⟩ => ⟨Fo, G, δ, er, ?_⟩
  refine PX.mono (PF.bind er q) fun G1 H1 d t1 ⟨er1, q1⟩ v rv => ?_
  exact q1 G1 H1 .refl ⟨[], er1.nil⟩ v rv
theorem ds_if {c : Expr} {tc : Tv} {a b : List Stmt} (hc : PT X c (tT (kwX X) M W tc)) (ha : PSs X a (tS (kwX X) M W f)) (hb : PSs X b (tS (kwX X) M W g)) : PS X (.If c a b pos) (tS (kwX X) M W (sIf tc f g)) := by
  refine PS.imp (ps_if hc ha hb) fun D σ H ⟨Fo, G, δ, er, q⟩ => ⟨Fo, G, δ, er, ?_⟩
  refine PX.mono (PF.bind er q) fun G1 H1 b t1 ⟨er1, q1⟩ => ?_
  cases b with
  | true => exact ⟨Fo, G1, δ, er1, q1⟩
  | false => exact ⟨Fo, G1, δ, er1, q1⟩
theorem ds_drop (he : PE X e (tE (kwX X) M W fe)) (hs : swapsWith e none pos.line X.env = pure false := by rfl) : PS X (.Expr e pos) (tS (kwX X) M W (sDrop fe)) := by
  refine PS.imp (ps_expr he hs) fun D σ H ⟨Fo, G, δ, er, q⟩ => ⟨Fo, G, δ, er, ?_⟩
  exact PX.mono (PF.bind er q) fun G1 H1 b t1 ⟨er1, q1⟩ v _ => q1 G1 σ H1 .refl er1
/-- x = e, frozen at once -/
theorem ds_set (i : Nat) {x : Str} {pos' : Pos} (hN : X.N.Nodup) (he : PE X e (tE (kwX X) M W fe)) (hi : X.N[i]? = some x := by rfl) (hx : Loc X.env.scope x := by first | exact Or.inl rfl | exact Or.inr rfl) (hs : swapsWith e (some (.Name x pos')) pos.line X.env = pure false := by rfl) (hf : X.fn x = true ∨ X.env.scope.names.lookup x = some .local := by first | exact .inl rfl | exact .inr rfl | assumption) :
    PS X (.Assign [.Name x pos'] e pos) (tS (kwX X) M W (sSet i fe)) := by
  refine PS.imp (ps_set hN hi hx he hs hf) fun D σ H ⟨Fo, G, δ, er, q⟩ => ⟨Fo, G, δ, er, ?_⟩
  exact PX.mono (PF.bind er q) fun G1 H1 d t1 ⟨er1, q1⟩ v rv => q1 G1 _ H1 .refl (er1.setVal i rv)

/-! ### new lists of one's own -/
def tN (K : Kw) (M : Mo) (W : WX) (f : Env → R (List D)) : TE := fun σ H Q => ∃ Fo G δ, ER K M.tp Fo G H δ σ ∧ PX M W σ G H (f δ) fun G' H' ds => ∀ p vs, H' p = none → Reps K G' ds vs → Q (.ref p) (upd H' p (.lst vs))
def nLst (g : Env → R (List D)) : Env → R (List D) := fun δ => g δ >>= fun xs => ofO (if xs.length ≤ sizeLine then some xs else none)
theorem dn_lst {es : List Expr} {fs : Env → R (List D)} (h : PA X es (tA (kwX X) M W fs)) : PE X (.List es pos) (tN (kwX X) M W (nLst fs)) := by
  refine PE.imp (pe_lst h) fun σ H Q q => ?_
  obtain ⟨Fo, G, δ, er, q⟩ := q
  refine ⟨Fo, G, δ, er, PX.mono (PX.bind q) fun G1 H1 xs t1 q1 vs rvs => ?_⟩
  by_cases z : xs.length ≤ sizeLine
  · rw [if_pos z] at q1
    exact ⟨by rw [rvs.length]; exact z, fun p n => q1 G1 H1 (.refl t1.2.1) p vs n rvs⟩
  · rw [if_neg z] at q1; exact False.elim q1
theorem ds_own (i : Nat) {x : Str} {pos' : Pos} {fn : Env → R (List D)} (hN : X.N.Nodup) (he : PE X e (tN (kwX X) M W fn)) (hi : X.N[i]? = some x := by rfl) (hx : Loc X.env.scope x := by first | exact Or.inl rfl | exact Or.inr rfl) (hs : swapsWith e (some (.Name x pos')) pos.line X.env = pure false := by rfl) (hf : X.fn x = true ∨ X.env.scope.names.lookup x = some .local := by first | exact .inl rfl | exact .inr rfl | assumption) :
    PS X (.Assign [.Name x pos'] e pos) (tS (kwX X) M W (sOwn i fn)) := by
  refine PS.imp (ps_set hN hi hx he hs hf) fun D σ H ⟨Fo, G, δ, er, q⟩ => ⟨Fo, G, δ, er, ?_⟩
  exact PX.mono (PF.bind er q) fun G1 H1 ds t1 ⟨er1, q1⟩ p vs n rvs => q1 G1 _ _ .refl (er1.setOwn (q := noQ) (o := .lst ds) i n rvs)
/-- x.append(e) -/
theorem ds_app (i : Nat) {x : Str} {pn pa pos' : Pos} (he : PE X e (tE (kwX X) M W fe)) (hN : X.N[i]? = some x := by rfl) (hv : Vis X.env.scope x := by first | exact Or.inl rfl | exact Or.inr (Or.inl rfl) | exact Or.inr (Or.inr rfl)) (hd : (x == ("__debug__" : Str)) = false := by decide) (hcd : (x == ("__classdict__" : Str)) = false := by decide)
    (hs : swapsWith (.Call (.Attribute (.Name x pn) "append" pa) [e] [] pos') none pos.line X.env = pure false := by rfl)
    (hst : starEach [e] X.env = (false, eval e X.env) :: starEach [] X.env := by rfl)
    (hfew : (((backTo pos' (starEach [e] X.env)).all fun x => !x.1) && (backToKw pos' (keywordEach [] X.env)).all fun x => x.1.isSome) && decide (([e].length + ([] : List Keyword).length + if ([] : List Keyword).isEmpty then 0 else 1) < 30) = true := by rfl)
    (hbase : attributeBase (.Name x pn) "append" X.env (eval (.Name x pn) X.env) = eval (.Name x pn) X.env := by rfl) (hline : (pa.endLine == pos'.line) = true := by rfl) :
    PS X (.Expr (.Call (.Attribute (.Name x pn) "append" pa) [e] [] pos') pos) (tS (kwX X) M W (sApp i fe)) := by
  refine PS.imp (ps_expr (pe_bm PySem.F.plainAttrs_list PySem.F.slot_list_append PySem.F.type_list_append mt_append (pe_var hN hv hd hcd) (pa_cons he pa_nil hst) (hs := hst) (hfew := hfew) (hbase := hbase) (hline := hline)) hs) fun D σ H ⟨Fo, G, δ, er, q⟩ => ?_
  unfold sApp at q
  split at q
  · rename_i ds z
    obtain ⟨p, h1, q0, vs, _, h2, h3, h4, h5⟩ := er.own1 i _ z rfl
    replace h4 : H p = some (.lst vs) := h4
    refine ⟨.ref p, h1, .inl ⟨rfl, vs, SqL.of h4⟩, ⟨Fo, G, δ, er, PX.mono (PF.bind er q) fun G1 H1 d t1 ⟨er1, q1⟩ v rv => ?_⟩⟩
    obtain ⟨p', g1, q1', vs', _, g2, g3, g4, g5⟩ := er1.own1 i _ z rfl
    replace g4 : H1 p' = some (.lst vs') := g4
    replace g5 : Reps (kwX X) G1 ds vs' := g5
    rw [h1] at g1; cases g1
    split at q1
    · rename_i hz
      exact ⟨p, vs', v, rfl, rfl, g4, by rw [g5.length]; exact hz, q1 G1 _ _ .refl (er1.chgOwn (q := noQ) (u := .lst (ds ++ [d])) i z h1 (g5.append (.one rv)))⟩
    · exact False.elim q1
  · exact False.elim q
end
end Dl

set_option Elab.async false
set_option linter.all false
set_option maxRecDepth 100000
set_option maxHeartbeats 2000000
/-! Loops, targets, comprehensions, try, defs. -/
namespace Dl
open PySem PySem.Spec PyProof.Rows L2
section
variable {X : Cx} {M : Mo} {W : WX} {st : Stmt} {sts rest body : List Stmt} {pos : Pos} {f g : Sv} {e : Expr} {fe ge : Ev}

/-! ### targets -/
def Tg.at : Tg → List Nat
  | .one i => [i]
  | .all is => is
/-- the same but at these places -/
def But (is : List Nat) (σ σ' : L2.St) : Prop := σ'.length = σ.length ∧ ∀ j, j ∉ is → σ'[j]? = σ[j]?
def tG (K : Kw) (M : Mo) (t : Tg) : TG := fun v σ H Q => ∃ Fo G δ d δ', ER K M.tp Fo G H δ σ ∧ Rep K G d v ∧ t.put d δ = some δ' ∧ ∀ σ', ER K M.tp Fo G H δ' σ' → But t.at σ σ' → Q σ' H
theorem PG.imp {tg : Expr} {t t' : TG} (h : PG X tg t) (i : ∀ v σ H Q, t' v σ H Q → t v σ H Q) : PG X tg t' := ⟨fun pins s σ H v u Q I r q => h.run pins s σ H v u Q I r (i v σ H Q q)⟩
theorem dg_one (i : Nat) {x : Str} (hN : X.N.Nodup) (hi : X.N[i]? = some x := by rfl) (hx : Loc X.env.scope x := by first | exact Or.inl rfl | exact Or.inr rfl) (hf : X.fn x = true ∨ X.env.scope.names.lookup x = some .local := by first | exact .inl rfl | exact .inr rfl | assumption) : PG X (.Name x pos) (tG (kwX X) M (.one i)) := by
  refine PG.imp (pg_name hN hi hx hf) fun v σ H Q ⟨Fo, G, δ, d, δ', er, r, p, q⟩ => ?_
  cases p
  exact q _ (er.setVal i r) ⟨by rw [List.length_set], fun j hj => by rw [List.getElem?_set_ne (fun z => hj (by rw [z]; exact List.mem_cons_self))]⟩
inductive Names' (X : Cx) : List Expr → List Nat → Prop
  | nil : Names' X [] []
  | cons {x : Str} {p : Pos} {i : Nat} {es : List Expr} {is : List Nat} (hi : X.N[i]? = some x) (hx : Loc X.env.scope x) (hf : X.fn x = true ∨ X.env.scope.names.lookup x = some .local)
      (hs : (assignEach (.Name x p :: es) X.env).map (·.2) = assign (.Name x p) X.env :: (assignEach es X.env).map (·.2)) (h : Names' X es is) : Names' X (.Name x p :: es) (i :: is)
theorem nm_cons (i : Nat) {x : Str} {p : Pos} {es : List Expr} {is : List Nat} (h : Names' X es is) (hi : X.N[i]? = some x := by rfl) (hx : Loc X.env.scope x := by first | exact Or.inl rfl | exact Or.inr rfl) (hf : X.fn x = true ∨ X.env.scope.names.lookup x = some .local := by first | exact .inl rfl | exact .inr rfl | assumption)
      (hs : (assignEach (.Name x p :: es) X.env).map (·.2) = assign (.Name x p) X.env :: (assignEach es X.env).map (·.2) := by rfl) : Names' X (.Name x p :: es) (i :: is) := .cons hi hx hf hs h
theorem dg_names (hN : X.N.Nodup) {es : List Expr} {is : List Nat} (h : Names' X es is) : PGs X es (fun vs σ H Q => ∃ Fo G δ ds, ER (kwX X) M.tp Fo G H δ σ ∧ Reps (kwX X) G ds vs ∧ ds.length = is.length ∧ ∀ σ', ER (kwX X) M.tp Fo G H (setAll is ds δ) σ' → But is σ σ' → Q σ' H) := by
  induction h with
  | nil =>
    refine ⟨fun pins s σ H vs us Q I r ⟨Fo, G, δ, ds, er, rr, hl, q⟩ => ?_⟩
    have : ds = [] := List.eq_nil_of_length_eq_zero hl
    subst this
    exact pgs_nil.run pins s σ H vs us Q I r ⟨rr, q _ er ⟨rfl, fun _ _ => rfl⟩⟩
  | @cons x p i es is hi hx hf hs h ih =>
    refine ⟨fun pins s σ H vs us Q I r ⟨Fo, G, δ, ds, er, rr, hl, q⟩ => ?_⟩
    cases ds with
    | nil => simp at hl
    | cons d ds =>
      obtain ⟨v, vr, ev, r1, r2⟩ := rr
      refine (pgs_cons (pg_name hN hi hx hf) ih hs).run pins s σ H vs us Q I r ⟨v, vr, ev, ?_⟩
      exact ⟨Fo, G, δ.set i (.val d), ds, er.setVal i r1, r2, by simpa using hl, fun σ' er' b => q σ' er' ⟨b.1.trans (by rw [List.length_set]), fun j hj => by
        rw [b.2 j (fun z => hj (List.mem_cons_of_mem _ z)), List.getElem?_set_ne (fun z => hj (by rw [z]; exact List.mem_cons_self))]⟩⟩
theorem dg_all {es : List Expr} {k : Nat} {is : List Nat} (hc : X.calm = true) (hN : X.N.Nodup) (h : Names' X es is) (hn : (assignEach es X.env).length = is.length := by rfl) (hst : (assignEach es X.env).findIdx? (·.1) = none := by rfl) : PG X (.Tuple es k pos) (tG (kwX X) M (.all is)) := by
  refine PG.imp (pg_tup (n := is.length) hc (dg_names (M := M) hN h) hn hst) fun v σ H Q ⟨Fo, G, δ, d, δ', er, r, p, q⟩ => ?_
  cases d with
  | tup ds =>
    have p' : (if ds.length = is.length then some (setAll is ds δ) else none) = some δ' := p
    split at p'
    · rename_i hl
      cases p'
      obtain ⟨a, vs, ev, sv, rvs⟩ := r
      exact ⟨a, vs, ev, er.gh |>.sqT sv.1, by rw [rvs.length]; exact hl, Fo, G, δ, ds, er, rvs, hl, q⟩
    · cases p'
  | _ => cases p
/-! ### loops -/
/-- the iterator J walks the data ds -/
def Wk (K : Kw) (tp : Tb) (G : Hp) (J : It) (ds : List D) : Prop := ∀ (i : Nat) (G1 H1 : Hp), Le G G1 → Le G1 H1 →
  (ds.length ≤ i → J.stop i H1) ∧ ∀ d, ds[i]? = some d → J.go i H1 ∧ ∀ x H2, J.yld i H1 x H2 → ∃ G2, Tr tp G1 H1 G2 H2 ∧ Rep K G2 d x
def tI (K : Kw) (M : Mo) (W : WX) (it : Env → R (List D)) : TI := fun σ H R => ∃ Fo G δ, ER K M.tp Fo G H δ σ ∧ PX M W σ G H (it δ) fun G' H' ds => ∀ J, Wk K M.tp G' J ds → R J H'
theorem ds_for {tg iter : Expr} {t : Tg} {it : Env → R (List D)} (hp : PassesOwn (model X.prog X.w) X.A X.env X.xe) (hc : X.calm = true) (hi : PI X tg iter (tI (kwX X) M W it)) (hg : PG X tg (tG (kwX X) M t)) (hb : PSs X body (tS (kwX X) M W f))
    (hs : ∀ x, foldedSetIterable iter X.env x = pure x := by intro _; rfl) : PS X (.For tg iter body [] pos) (tS (kwX X) M W (sFor t it f)) := by
  refine PS.imp (ps_for hp hc hi hg hb hs) fun D σ H ⟨Fo, G, δ, er, q⟩ => ?_
  refine ⟨Fo, G, δ, er, PX.mono (PF.bind er q) fun G1 H1 ds t1 ⟨er1, q1⟩ J wk => ?_⟩
  refine ⟨fun i m σ H => m = ds.length - i ∧ i ≤ ds.length ∧ ∃ G2 δ2, Le G1 G2 ∧ ER (kwX X) M.tp Fo G2 H δ2 σ ∧ PF (kwX X) M W Fo G2 (forF t f (ds.drop i) δ2) D, ⟨ds.length, by simp, Nat.zero_le _, G1, δ, .refl, er1, q1⟩, ?_⟩
  rintro i m σ H ⟨rfl, hi', G2, δ2, l2, er2, q2⟩
  obtain ⟨w1, w2⟩ := wk i G2 H l2 er2.gh
  by_cases hlt : i < ds.length
  · rw [List.drop_eq_getElem_cons hlt] at q2
    obtain ⟨go, yl⟩ := w2 ds[i] (List.getElem?_eq_getElem hlt)
    refine .inr ⟨go, fun σ' H' => ∃ G3 δ3, Le G1 G3 ∧ ER (kwX X) M.tp Fo G3 H' δ3 σ' ∧ PF (kwX X) M W Fo G3 (forF t f (ds.drop (i + 1)) δ3) D, fun σ' H' z => ⟨ds.length - (i + 1), by omega, rfl, hlt, z⟩, fun x H3 y => ?_⟩
    obtain ⟨G3, t3, rx⟩ := yl x H3 y
    unfold forF at q2
    cases z : t.put ds[i] δ2 with
    | none => simp only [z] at q2; exact False.elim q2
    | some δ3 =>
      simp only [z] at q2
      refine ⟨Fo, G3, δ2, ds[i], δ3, er2.tr t3, rx, z, fun σ' er' _ => ⟨Fo, G3, δ3, er', ?_⟩⟩
      have q3 := PF.mono t3.1 q2
      have l3 := l2.trans t3.1
      cases zf : f δ3 with
      | next δ4 => simp only [zf] at q3; exact fun G5 σ5 H5 l5 e5 => ⟨G5, δ4, l3.trans l5, e5, PF.mono l5 q3⟩
      | cont δ4 => simp only [zf] at q3; exact fun G5 σ5 H5 l5 e5 => ⟨G5, δ4, l3.trans l5, e5, PF.mono l5 q3⟩
      | brk δ4 => simp only [zf] at q3; exact q3
      | ret d => simp only [zf] at q3; exact q3
      | exc c δ4 => simp only [zf] at q3; exact q3
      | bad => simp only [zf] at q3; exact False.elim q3
  · have e : ds.drop i = [] := List.drop_eq_nil_of_le (by omega)
    rw [e] at q2
    exact .inl ⟨w1 (by omega), q2 G2 σ H .refl er2⟩

/-! ### what is walked -/
def itD : D → Option (List D)
  | .lst xs => some xs
  | .tup xs => some xs
  | .str z => some (z.cps.toList.map fun c => .str ⟨#[c]⟩)
  | _ => none
def iSeq (f : Ev) : Env → R (List D) := fun δ => f δ >>= fun d => ofO (itD d)
theorem Wk.list {K : Kw} {tp : Tb} {G : Hp} {a : Addr} {ds : List D} {vs : List V} (s : SqL K G a vs) (r : Reps K G ds vs) : Wk K tp G (Itl K a) ds := fun i G1 H1 l l1 =>
  ⟨fun h => ⟨vs, l1.sqL (l.sqL s), by rw [r.length]; exact h⟩, fun d h => by
    obtain ⟨v, ev, rv⟩ := r.get h
    refine ⟨⟨vs, v, l1.sqL (l.sqL s), ev⟩, fun x H2 y => ?_⟩
    obtain ⟨e, y⟩ := y
    subst e
    have e2 := y vs (l1.sqL (l.sqL s))
    rw [ev] at e2; cases e2
    exact ⟨G1, .refl l1, Rep.mono l _ _ rv⟩⟩
theorem Wk.tuple {K : Kw} {tp : Tb} {G : Hp} {a : Addr} {ds : List D} {vs : List V} (s : SqT K G a vs) (r : Reps K G ds vs) : Wk K tp G (Itt K a) ds := fun i G1 H1 l l1 =>
  ⟨fun h => ⟨vs, l1.sqT (l.sqT s), by rw [r.length]; exact h⟩, fun d h => by
    obtain ⟨v, ev, rv⟩ := r.get h
    refine ⟨⟨vs, v, l1.sqT (l.sqT s), ev⟩, fun x H2 y => ?_⟩
    obtain ⟨e, y⟩ := y
    subst e
    have e2 := y vs (l1.sqT (l.sqT s))
    rw [ev] at e2; cases e2
    exact ⟨G1, .refl l1, Rep.mono l _ _ rv⟩⟩
theorem Wk.str {K : Kw} {tp : Tb} {G : Hp} {z : Str} : Wk K tp G (Its z) (z.cps.toList.map fun c => .str ⟨#[c]⟩) := fun i G1 H1 l l1 =>
  ⟨fun h => by simpa [Its] using h, fun d h => by
    rw [List.getElem?_map] at h
    cases hc : z.cps.toList[i]? with
    | none => rw [hc] at h; cases h
    | some c =>
      rw [hc] at h
      cases h
      have hc' : z.cps[i]? = some c := by rw [← Array.getElem?_toList]; exact hc
      refine ⟨(Array.getElem?_eq_some_iff.mp hc').1, fun x H2 y => ?_⟩
      obtain ⟨e, c2, e2, ex⟩ := y
      subst e
      rw [hc'] at e2; cases e2
      exact ⟨G1, .refl l1, ex⟩⟩
theorem di_seq {tg iter : Expr} (he : PE X iter (tE (kwX X) M W fe)) : PI X tg iter (tI (kwX X) M W (iSeq fe)) := by
  refine ⟨fun pins s σ H R I h => ?_⟩
  obtain ⟨Fo, G, δ, er, q⟩ := h
  have q' := PX.bind q
  refine thn (he.run pins s σ H (fun v H1 => ∃ G1 d, Rep (kwX X) G1 d v ∧ Le G1 H1 ∧ PX M W σ G1 H1 (ofO (itD d)) fun G' H' ds => ∀ J, Wk (kwX X) M.tp G' J ds → R J H') I ⟨Fo, G, δ, er, PX.mono q' fun G1 H1 d t1 q1 v rv => ⟨G1, d, rv, t1.2.1, q1⟩⟩) fun v s1 ⟨x, H1, I1, r1, G1, d, rv, l1, q1⟩ => ?_
  cases d with
  | lst ds =>
    obtain ⟨a, vs, ev, sv, rvs⟩ := rv
    subst ev
    cases r1
    have q2 : ∀ G' H', Tr M.tp G1 H1 G' H' → ∀ J, Wk (kwX X) M.tp G' J ds → R J H' := q1
    obtain ⟨its, rv', p, hz⟩ := I1.list (l1.sqL sv)
    refine wpAny_pyIter_list p.isList ?_
    refine ⟨s1.heap.objs.size, [s1.heap.objs.size], _, _, H1, rfl, I1.kept (t' := s1.toks) fun b o e => Heap.get?_push_of_some _ e, turn_list a _, ⟨_, Heap.get?_push_size _ rfl, rfl, rfl⟩, fun b hb => ?_, q2 G1 H1 (.refl l1) _ (Wk.list sv rvs)⟩
    have e : b = s1.heap.objs.size := by simpa using hb
    subst e
    exact I1.fpOk (Nat.le_refl _) (I1.hok.fresh (Nat.le_refl _))
  | tup ds =>
    obtain ⟨a, vs, ev, sv, rvs⟩ := rv
    subst ev
    cases r1
    have q2 : ∀ G' H', Tr M.tp G1 H1 G' H' → ∀ J, Wk (kwX X) M.tp G' J ds → R J H' := q1
    obtain ⟨its, rv', p, hz⟩ := I1.tuple (l1.sqT sv.1)
    refine wpAny_pyIter_tuple (show s1.heap.IsTuple a its.toArray from p) ?_
    refine ⟨s1.heap.objs.size, [s1.heap.objs.size], _, _, H1, rfl, I1.kept (t' := s1.toks) fun b o e => Heap.get?_push_of_some _ e, turn_tuple a _, ⟨_, Heap.get?_push_size _ rfl, rfl, rfl⟩, fun b hb => ?_, q2 G1 H1 (.refl l1) _ (Wk.tuple sv.1 rvs)⟩
    have e : b = s1.heap.objs.size := by simpa using hb
    subst e
    exact I1.fpOk (Nat.le_refl _) (I1.hok.fresh (Nat.le_refl _))
  | str z =>
    have ev : x = .str z := rv
    subst ev
    obtain ⟨t, rfl⟩ := r1
    have q2 : ∀ G' H', Tr M.tp G1 H1 G' H' → ∀ J, Wk (kwX X) M.tp G' J _ → R J H' := q1
    have q3 := q2 G1 H1 (.refl l1) _ Wk.str
    cases ha : z.cps.all (· < 128)
    · exact wpAny_pyIter_wide ha (pi_one (tk := s1.toks) I1 _ (turn_str _ z t "str_iterator" (.inr rfl)) ⟨_, Heap.get?_push_size _ rfl, rfl, rfl⟩ q3)
    · exact wpAny_pyIter_ascii ha (pi_one (tk := s1.toks) I1 _ (turn_str _ z t "str_ascii_iterator" (.inl rfl)) ⟨_, Heap.get?_push_size _ rfl, rfl, rfl⟩ q3)
  | _ => exact False.elim q1
/-- range(n), range(a, b) -/
def rngD : List D → Option (List D)
  | [.int j] => if lg j 62 = true then some ((List.range j.toNat).map fun (k : Nat) => .int k) else none
  | [.int i, .int j] => if lg i 62 = true ∧ lg j 62 = true then some ((List.range (j - i).toNat).map fun (k : Nat) => .int (i + k)) else none
  | _ => none
def iRng (fs : Env → R (List D)) : Env → R (List D) := fun δ => fs δ >>= fun ds => ofO (rngD ds)
theorem Wk.range {K : Kw} {tp : Tb} {G : Hp} {lo : Int} {n : Nat} : Wk K tp G (Itr lo n) ((List.range n).map fun (k : Nat) => .int (lo + k)) := fun i G1 H1 l l1 =>
  ⟨fun h => by simpa [Itr] using h, fun d h => by
    rw [List.getElem?_map] at h
    by_cases hi : i < n
    · rw [List.getElem?_range hi] at h
      cases h
      refine ⟨hi, fun x H2 y => ?_⟩
      obtain ⟨e, ex⟩ := y
      subst e
      exact ⟨G1, .refl l1, ex⟩
    · rw [List.getElem?_eq_none (by simpa using Nat.le_of_not_lt hi)] at h; cases h⟩
theorem di_range1 {tg a : Expr} {fs : Env → R (List D)} {p : Pos} (hg : Gl X "range") (hm : X.mg "range" = none) (ha : PA X [a] (tA (kwX X) M W fs)) (hs : starEach [a] X.env = [(false, eval a X.env)] := by rfl) (h1 : ∀ δ ds, fs δ = .ok ds → ds.length = 1) : PI X tg (.Call (.Name "range" p) [a] [] pos) (tI (kwX X) M W (iRng fs)) := by
  refine ⟨fun pins s σ H R I h => (pi_range1 hg hm ha hs).run pins s σ H R I ?_⟩
  obtain ⟨Fo, G, δ, er, q⟩ := h
  cases z : fs δ with
  | bad => unfold iRng at q; rw [z] at q; exact False.elim q
  | exc c => exact ⟨Fo, G, δ, er, by unfold iRng at q; rw [z] at q ⊢; exact q⟩
  | ok ds0 =>
    have q' := PX.bind q
    rw [z] at q'
    refine ⟨Fo, G, δ, er, ?_⟩
    rw [z]
    intro G1 H1 t1 vs rvs
    have hl := h1 δ ds0 z
    have q1 := q' G1 H1 t1
    match ds0, hl, rvs, q1 with
    | [d], _, ⟨v, r, e, rv, er'⟩, q1 =>
      cases er'
      cases d with
      | int j =>
        have q2 : PX M W σ G1 H1 (ofO (if lg j 62 = true then some ((List.range j.toNat).map fun (k : Nat) => D.int k) else none)) fun G' H' ds => ∀ J, Wk (kwX X) M.tp G' J ds → R J H' := q1
        split at q2
        · rename_i hz
          subst e
          cases rv
          obtain ⟨hz1, hz2⟩ := lg_lt hz (by decide)
          refine ⟨j, rfl, Int.le_of_lt hz1, hz2, q2 G1 H1 (.refl t1.2.1) _ ?_⟩
          have := Wk.range (K := kwX X) (tp := M.tp) (G := G1) (lo := 0) (n := j.toNat)
          simpa using this
        · exact False.elim q2
      | _ => exact False.elim q1
theorem di_range2 {tg a b : Expr} {fs : Env → R (List D)} {p : Pos} (hg : Gl X "range") (hm : X.mg "range" = none) (ha : PA X [a, b] (tA (kwX X) M W fs)) (hs : starEach [a, b] X.env = [(false, eval a X.env), (false, eval b X.env)] := by rfl) (hs2 : starEach [b] X.env = [(false, eval b X.env)] := by rfl) (h1 : ∀ δ ds, fs δ = .ok ds → ds.length = 2) : PI X tg (.Call (.Name "range" p) [a, b] [] pos) (tI (kwX X) M W (iRng fs)) := by
  refine ⟨fun pins s σ H R I h => (pi_range2 hg hm ha hs hs2).run pins s σ H R I ?_⟩
  obtain ⟨Fo, G, δ, er, q⟩ := h
  cases z : fs δ with
  | bad => unfold iRng at q; rw [z] at q; exact False.elim q
  | exc c => exact ⟨Fo, G, δ, er, by unfold iRng at q; rw [z] at q ⊢; exact q⟩
  | ok ds0 =>
    have q' := PX.bind q
    rw [z] at q'
    refine ⟨Fo, G, δ, er, ?_⟩
    rw [z]
    intro G1 H1 t1 vs rvs
    have hl := h1 δ ds0 z
    have q1 := q' G1 H1 t1
    match ds0, hl, rvs, q1 with
    | [d, d'], _, ⟨v, r, e, rv, v', r', e', rv', er'⟩, q1 =>
      cases er'
      cases d with
      | int i =>
        cases d' with
        | int j =>
          have q2 : PX M W σ G1 H1 (ofO (if lg i 62 = true ∧ lg j 62 = true then some ((List.range (j - i).toNat).map fun (k : Nat) => D.int (i + k)) else none)) fun G' H' ds => ∀ J, Wk (kwX X) M.tp G' J ds → R J H' := q1
          split at q2
          · rename_i hz
            subst e
            subst e'
            cases rv
            cases rv'
            obtain ⟨ha1, ha2⟩ := lg_lt hz.1 (by decide)
            obtain ⟨hb1, hb2⟩ := lg_lt hz.2 (by decide)
            exact ⟨i, j, rfl, ⟨Int.le_of_lt ha1, ha2, Int.le_of_lt hb1, hb2⟩, q2 G1 H1 (.refl t1.2.1) _ Wk.range⟩
          · exact False.elim q2
        | _ => exact False.elim q1
      | _ => cases d' <;> exact False.elim q1

/-! ### list comprehensions -/
def wipeE (δ : Env) : List Nat → Env
  | [] => δ
  | v :: vs => (wipeE δ vs).set v .no
def mapF (t : Tg) (c : Tv) (f : Ev) (δ : Env) : List D → R (List D)
  | [] => .ok []
  | d :: ds => match t.put d δ with
    | none => .bad
    | some δ1 => match c δ1 with
      | .ok true => match f δ1 with
        | .ok y => mapF t c f δ ds >>= fun ys => .ok (y :: ys)
        | _ => .bad
      | .ok false => mapF t c f δ ds
      | _ => .bad
def tYesD : Tv := fun _ => .ok true
/-- the new list of a comprehension -/
def nLc (vs : List Nat) (t : Tg) (it : Env → R (List D)) (c : Tv) (f : Ev) : Env → R (List D) := fun δ => it δ >>= fun ds => mapF t c f (wipeE δ vs) ds >>= fun ys => ofO (if ys.length ≤ sizeLine then some ys else none)
def eN (f : Env → R (List D)) : Ev := fun δ => f δ >>= fun xs => .ok (.lst xs)
end
end Dl

set_option Elab.async false
set_option linter.all false
set_option maxRecDepth 100000
set_option maxHeartbeats 2000000
/-! List comprehensions, raise, try, defs. -/
namespace Dl
open PySem PySem.Spec PyProof.Rows L2
abbrev W0 : WX := fun _ _ _ _ => False
section
variable {K : Kw} {tp : Tb} {Fo G H G' H' : Hp} {δ : Env} {σ : L2.St}
theorem ER.wipe (e : ER K tp Fo G H δ σ) : ∀ vs : List Nat, ER K tp Fo G H (wipeE δ vs) (L2.wipe σ vs)
  | [] => e
  | v :: vs => (ER.wipe e vs).setNo v none
def del (H : Hp) (D : Addr) : Hp := fun a => if a = D then none else H a
theorem del_at {D : Addr} : del H D D = none := if_pos rfl
theorem del_ne {D a : Addr} (h : a ≠ D) : del H D a = H a := if_neg h
theorem del_upd {D : Addr} {o : HO} (n : H D = none) : del (upd H D o) D = H := by
  funext a
  by_cases z : a = D
  · subst z; rw [del_at, n]
  · rw [del_ne z, upd_ne z]
theorem del_some {D a : Addr} {o : HO} (h : del H D a = some o) : a ≠ D ∧ H a = some o := by
  by_cases z : a = D
  · subst z; rw [del_at] at h; cases h
  · rw [del_ne z] at h; exact ⟨z, h⟩
/-- one more thing that is not ours -/
theorem ER.alien {D : Addr} (e : ER K tp Fo G (del H D) δ σ) {xs : List V} (h : H D = some (.lst xs)) (n : G D = none) : ER K tp (upd Fo D (.lst xs)) G H δ σ where
  gh := fun a o q => (del_some (e.gh a o q)).2
  fh := fun a o q => by
    by_cases z : a = D
    · subst z; rw [upd_same] at q; cases q; exact h
    · rw [upd_ne z] at q; exact (del_some (e.fh a o q)).2
  fg := fun a o q => by
    by_cases z : a = D
    · subst z
      refine ⟨n, fun t => ?_⟩
      obtain ⟨⟨ps, q2, _⟩, _⟩ := e.tb a t
      exact (del_some q2).1 rfl
    · rw [upd_ne z] at q; exact e.fg a o q
  tb := fun a t => by
    obtain ⟨⟨ps, q, r⟩, g⟩ := e.tb a t
    exact ⟨⟨ps, (del_some q).2, r⟩, g⟩
  len := e.len
  val := e.val
  own := by
    obtain ⟨ft, ow, sp⟩ := e.own
    refine ⟨ft, fun i o q => ?_, sp⟩
    obtain ⟨p, h1, h2⟩ := ow i o q
    have far : ∀ a ∈ ft i, a ≠ D := fun a ha => by
      obtain ⟨u, hu, _⟩ := h2.there a ha
      exact (del_some hu).1
    have h3 := h2.mono (H' := H) .refl (fun a _ u hu => (del_some hu).2) fun a ha => (h2.1 a ha).1
    exact ⟨p, h1, fun a ha => ⟨(h2.1 a ha).1, by rw [upd_ne (far a ha)]; exact (h2.1 a ha).2⟩, h3.2⟩
/-- behind a step the thing at D is left out again -/
theorem Tr.del {tp : Tb} {D : Addr} {xs : List V} (t : Tr tp G H G' H') (h : H D = some (.lst xs)) (n : G D = none) (nt : ¬ tp D) (l : Le G (del H D)) : Tr tp G (del H D) G' (del H' D) ∧ H' D = some (.lst xs) ∧ G' D = none := by
  obtain ⟨h1, n1⟩ := t.2.2.1 D _ n nt h
  refine ⟨⟨t.1, fun a o q => ?_, fun a o g nt q => ?_, fun a ta g q => ?_⟩, h1, n1⟩
  · have z : a ≠ D := ne_of_none q n1
    rw [del_ne z]; exact t.2.1 a o q
  · obtain ⟨z, q'⟩ := del_some q
    obtain ⟨r1, r2⟩ := t.2.2.1 a o g nt q'
    exact ⟨by rw [del_ne z]; exact r1, r2⟩
  · obtain ⟨ps, q1, q2⟩ := q
    obtain ⟨z, q'⟩ := del_some q1
    obtain ⟨⟨ps', r1, r3⟩, r2⟩ := t.2.2.2 a ta g ⟨ps, q', q2⟩
    exact ⟨⟨ps', by rw [del_ne z]; exact r1, r3⟩, r2⟩
theorem wipe_get (σ : L2.St) (j : Nat) : ∀ vs : List Nat, (L2.wipe σ vs)[j]? = if j ∈ vs ∧ j < σ.length then some none else σ[j]?
  | [] => by simp [L2.wipe]
  | v :: vs => by
    unfold L2.wipe
    rw [List.getElem?_set, wipe_get σ j vs, wipe_length]
    by_cases h : v = j
    · subst h
      by_cases l : v < σ.length
      · simp [l]
      · simp [l]
    · have : ¬ j = v := fun z => h z.symm
      simp [h, this]
theorem wipe_but {is vs : List Nat} {σ2 : L2.St} (hs : ∀ i ∈ is, i ∈ vs) (b : But is (L2.wipe σ vs) σ2) : L2.wipe σ2 vs = L2.wipe σ vs := by
  have hl : σ2.length = σ.length := b.1.trans (wipe_length σ vs)
  apply List.ext_getElem?
  intro j
  rw [wipe_get, wipe_get, hl]
  by_cases h : j ∈ vs
  · by_cases l : j < σ.length
    · simp [h, l]
    · have h1 : σ2[j]? = none := List.getElem?_eq_none (by omega)
      have h2 : σ[j]? = none := List.getElem?_eq_none (by omega)
      simp [l, h1, h2]
  · have q := b.2 j fun z => h (hs j z)
    rw [wipe_get] at q
    simp [h] at q ⊢
    exact q
end
section
variable {X : Cx} {M : Mo} {W : WX} {pos : Pos}
theorem PTs.imp {ifs : List Expr} {t t' : TT} (h : PTs X ifs t) (i : ∀ σ H Q, t' σ H Q → t σ H Q) : PTs X ifs t' := ⟨fun pins s σ H Q I q => h.run pins s σ H Q I (i σ H Q q)⟩
theorem dts_nil : PTs X [] (tT (kwX X) M W tYesD) := PTs.imp pts_nil fun σ H Q ⟨Fo, G, δ, er, q⟩ => q G H (.refl er.gh)
theorem dts_one {c : Expr} {tc : Tv} (h : PT X c (tT (kwX X) M W tc)) : PTs X [c] (tT (kwX X) M W tc) := pts_one h
/-- a comprehension's rule by its data -/
theorem tlc_of {t : Tg} {it : Env → R (List D)} {c : Tv} {f : Ev} {vs : List Nat} (hat : ∀ i ∈ t.at, i ∈ vs) {σ : L2.St} {H : Hp} {Q : VK} (q : tN (kwX X) M W (nLc vs t it c f) σ H Q) :
    tLc (tI (kwX X) M W it) (tG (kwX X) M t) (tT (kwX X) M W0 c) (tE (kwX X) M W0 f) vs σ H Q := by
  obtain ⟨Fo, G, δ, er, q⟩ := q
  refine ⟨Fo, G, δ, er, ?_⟩
  refine PX.mono (PX.bind q) fun G1 H1 ds t1 q1 J wk D nD => ?_
  have er1 := er.tr t1
  cases hm : mapF t c f (wipeE δ vs) ds with
  | bad => rw [hm] at q1; exact False.elim q1
  | exc x =>
    exfalso
    -- mapF never raises
    have : ∀ ds : List Dl.D, mapF t c f (wipeE δ vs) ds ≠ .exc x := by
      intro ds
      induction ds with
      | nil => intro h; cases h
      | cons d ds ih =>
        intro h
        unfold mapF at h
        split at h
        · cases h
        · split at h
          · split at h
            · cases h2 : mapF t c f (wipeE δ vs) ds with
              | ok ys => rw [h2] at h; cases h
              | exc y => rw [h2] at h; cases h; exact ih h2
              | bad => rw [h2] at h; cases h
            · cases h
          · exact ih h
          · cases h
    exact this ds hm
  | ok tot =>
    rw [hm] at q1
    have q2 : PX M W σ G1 H1 (ofO (if tot.length ≤ sizeLine then some tot else none)) fun G' H' ds => ∀ p vs, H' p = none → Reps (kwX X) G' ds vs → Q (.ref p) (upd H' p (.lst vs)) := q1
    by_cases hz : tot.length ≤ sizeLine
    · rw [if_pos hz] at q2
      have q3 : ∀ G' H', Tr M.tp G1 H1 G' H' → ∀ p vs, H' p = none → Reps (kwX X) G' tot vs → Q (.ref p) (upd H' p (.lst vs)) := q2
      have ntD : ¬ M.tp D := fun z => by
        obtain ⟨⟨ps, e, _⟩, _⟩ := er1.tb D z
        rw [nD] at e; cases e
      -- the invariant
      let Iv : Nat → Hp → Prop := fun i H => ∃ G2 acc vacc ys, H D = some (.lst vacc) ∧ G2 D = none ∧ Tr M.tp G1 H1 G2 (Dl.del H D) ∧ Reps (kwX X) G2 acc vacc ∧ mapF t c f (wipeE δ vs) (ds.drop i) = .ok ys ∧ acc ++ ys = tot
      refine ⟨fun i m H => m = ds.length - i ∧ i ≤ ds.length ∧ Iv i H, ⟨ds.length, by simp, Nat.zero_le _, G1, [], [], tot, upd_same, none_of_le er1.gh nD, by rw [del_upd nD]; exact .refl er1.gh, rfl, hm, rfl⟩, ?_⟩
      rintro i m H2 ⟨rfl, hle, G2, acc, vacc, ys, hD, gD, t2, racc, hys, htot⟩
      have l2 : Le G2 H2 := fun a o q => (del_some (t2.2.1 a o q)).2
      obtain ⟨w1, w2⟩ := wk i G2 H2 t2.1 l2
      by_cases hlt : i < ds.length
      · rw [List.drop_eq_getElem_cons hlt] at hys
        obtain ⟨go, yl⟩ := w2 ds[i] (List.getElem?_eq_getElem hlt)
        refine .inr ⟨go, Iv (i + 1), fun H' z => ⟨ds.length - (i + 1), by omega, rfl, hlt, z⟩, fun x H3 y => ?_⟩
        obtain ⟨G3, t3, rx⟩ := yl x H3 y
        obtain ⟨t3', hD3, gD3⟩ := t3.del hD gD ntD t2.2.1
        have t13 := t2.trans t3'
        unfold mapF at hys
        cases zp : t.put ds[i] (wipeE δ vs) with
        | none => rw [zp] at hys; cases hys
        | some δ1 =>
          rw [zp] at hys
          have er3 : ER (kwX X) M.tp (upd Fo D (.lst vacc)) G3 H3 (wipeE δ vs) (L2.wipe σ vs) := ((er1.tr t13).alien hD3 gD3).wipe vs
          refine ⟨upd Fo D (.lst vacc), G3, wipeE δ vs, ds[i], δ1, er3, rx, zp, fun σ' er' bt => ⟨wipe_but hat bt, ?_⟩⟩
          refine ⟨upd Fo D (.lst vacc), G3, δ1, er', ?_⟩
          cases zc : c δ1 with
          | bad => simp only [zc] at hys; cases hys
          | exc _ => simp only [zc] at hys; cases hys
          | ok b =>
            intro G4 H4 t4
            obtain ⟨t4', hD4, gD4⟩ := t4.del hD3 gD3 ntD t3'.2.1
            cases b with
            | false =>
              simp only [zc] at hys
              show Iv (i + 1) H4
              exact ⟨G4, acc, vacc, ys, hD4, gD4, t13.trans t4', Reps.mono (t3.1.trans t4.1) _ _ racc, hys, htot⟩
            | true =>
              simp only [zc] at hys
              refine ⟨upd Fo D (.lst vacc), G4, δ1, er'.tr t4, ?_⟩
              cases zf : f δ1 with
              | bad => simp only [zf] at hys; cases hys
              | exc _ => simp only [zf] at hys; cases hys
              | ok y =>
                simp only [zf] at hys
                intro G5 H5 t5 v rv
                obtain ⟨t5', hD5, gD5⟩ := t5.del hD4 gD4 ntD t4'.2.1
                cases zr : mapF t c f (wipeE δ vs) (ds.drop (i + 1)) with
                | bad => rw [zr] at hys; cases hys
                | exc _ => rw [zr] at hys; cases hys
                | ok zs =>
                  rw [zr] at hys
                  have hys' : y :: zs = ys := by
                    have := hys
                    simp only [R.bind_ok] at this
                    cases this
                    rfl
                  have htot2 : (acc ++ [y]) ++ zs = tot := by rw [List.append_assoc, ← htot, ← hys']; rfl
                  have hlen : acc.length + 1 ≤ tot.length := by rw [← htot2]; simp
                  have racc5 := Reps.mono ((t3.1.trans t4.1).trans t5.1) _ _ racc
                  refine ⟨vacc, hD5, by rw [racc.length]; omega, ?_⟩
                  show Iv (i + 1) (upd H5 D (.lst (vacc ++ [v])))
                  refine ⟨G5, acc ++ [y], vacc ++ [v], zs, upd_same, gD5, ?_, racc5.append (.one rv), zr, htot2⟩
                  have e5 : Dl.del (upd H5 D (.lst (vacc ++ [v]))) D = Dl.del H5 D := by
                    funext a
                    by_cases z : a = D
                    · subst z; rw [del_at, del_at]
                    · rw [del_ne z, del_ne z, upd_ne z]
                  rw [e5]
                  exact (t13.trans t4').trans t5'
      · have e : ds.drop i = [] := List.drop_eq_nil_of_le (by omega)
        rw [e] at hys
        have hys0 : ys = [] := by
          have : (R.ok [] : R (List Dl.D)) = .ok ys := hys
          cases this
          rfl
        subst hys0
        rw [List.append_nil] at htot
        subst htot
        refine .inl ⟨w1 (by omega), ?_⟩
        have eH : upd (Dl.del H2 D) D (.lst vacc) = H2 := by
          funext a
          by_cases z : a = D
          · subst z; rw [upd_same, hD]
          · rw [upd_ne z, del_ne z]
        rw [← eH]
        exact q3 G2 (Dl.del H2 D) t2 D vacc del_at racc
    · rw [if_neg hz] at q2; exact False.elim q2
theorem dn_lc {elt tg iter : Expr} {ifs : List Expr} {scope : Scope} (own : List (Str × Nat)) {t : Tg} {it : Env → R (List D)} {c : Tv} {f : Ev} (hc : X.calm = true) (hN : X.N.Nodup) (hi : PI X tg iter (tI (kwX X) M W it)) (ok : BlkOk X.N X.env.scope scope own) (hat : ∀ i ∈ t.at, i ∈ own.map (·.2))
    (hg : ∀ (s : Shared) (H : Hp) (C : Addr) (cl : List (Str × Addr)) (fp : List Addr), PG (X.blk s H scope (compEnvC scope cl C X.env) fp) tg (tG (kwX X) M t)) (ht : ∀ (s : Shared) (H : Hp) (C : Addr) (cl : List (Str × Addr)) (fp : List Addr), PTs (X.blk s H scope (compEnvC scope cl C X.env) fp) ifs (tT (kwX X) M W0 c))
    (he : ∀ (s : Shared) (H : Hp) (C : Addr) (cl : List (Str × Addr)) (fp : List Addr), PE (X.blk s H scope (compEnvC scope cl C X.env) fp) elt (tE (kwX X) M W0 f)) (hs : ∀ x, foldedSetIterable iter X.env x = pure x := by intro _; rfl) :
    PE X (.ListComp elt [⟨tg, iter, ifs, 0⟩] scope pos) (tN (kwX X) M W (nLc (own.map (·.2)) t it c f)) :=
  PE.imp (pe_lc hc hN hi ok hg ht he hs) fun _ _ _ => tlc_of hat
/-- x = [..for..], frozen at once -/
theorem ds_setLc (i : Nat) {y : Str} {py spos : Pos} {elt tg iter : Expr} {ifs : List Expr} {scope : Scope} (own : List (Str × Nat)) {t : Tg} {it : Env → R (List D)} {c : Tv} {f : Ev} (hc : X.calm = true) (hN : X.N.Nodup) (hi : PI X tg iter (tI (kwX X) M W it)) (ok : BlkOk X.N X.env.scope scope own) (hat : ∀ i ∈ t.at, i ∈ own.map (·.2))
    (hg : ∀ (s : Shared) (H : Hp) (C : Addr) (cl : List (Str × Addr)) (fp : List Addr), PG (X.blk s H scope (compEnvC scope cl C X.env) fp) tg (tG (kwX X) M t)) (ht : ∀ (s : Shared) (H : Hp) (C : Addr) (cl : List (Str × Addr)) (fp : List Addr), PTs (X.blk s H scope (compEnvC scope cl C X.env) fp) ifs (tT (kwX X) M W0 c))
    (he : ∀ (s : Shared) (H : Hp) (C : Addr) (cl : List (Str × Addr)) (fp : List Addr), PE (X.blk s H scope (compEnvC scope cl C X.env) fp) elt (tE (kwX X) M W0 f)) (hs : ∀ x, foldedSetIterable iter X.env x = pure x := by intro _; rfl) (hsw : swapsWith (.ListComp elt [⟨tg, iter, ifs, 0⟩] scope pos) (some (.Name y py)) spos.line X.env = pure true := by rfl) (hy : X.N[i]? = some y := by rfl) (hyl : X.env.scope.names.lookup y = some .local := by rfl) :
    PS X (.Assign [.Name y py] (.ListComp elt [⟨tg, iter, ifs, 0⟩] scope pos) spos) (tS (kwX X) M W (sSet i (eN (nLc (own.map (·.2)) t it c f)))) := by
  refine PS.imp (ps_setLc hc hN hy hyl hsw hi ok hg ht he hs) fun D σ H ⟨Fo, G, δ, er, q⟩ => tlc_of hat ⟨Fo, G, δ, er, ?_⟩
  have q' : PF (kwX X) M W Fo G (bindF (nLc (own.map (·.2)) t it c f δ) δ fun ds => .next (δ.set i (.val (.lst ds)))) D := by
    unfold sSet eN at q
    cases z : nLc (own.map (·.2)) t it c f δ with
    | ok a => rw [z] at q; exact q
    | exc a => rw [z] at q; exact q
    | bad => rw [z] at q; exact q
  refine PX.mono (PF.bind er q') fun G1 H1 ds t1 ⟨er1, q1⟩ p vs n rvs => ?_
  exact q1 _ _ _ (Le.new (none_of_le t1.2.1 n)) ((er1.tr (Tr.new t1.2.1 n)).setVal i ⟨p, vs, rfl, SqL.of upd_same, Reps.mono (Le.new (none_of_le t1.2.1 n)) _ _ rvs⟩)
/-- a new list, frozen at once -/
theorem de_n {e : Expr} {fn : Env → R (List D)} (h : PE X e (tN (kwX X) M W fn)) : PE X e (tE (kwX X) M W (eN fn)) := by
  refine PE.imp h fun σ H Q ⟨Fo, G, δ, er, q⟩ => ⟨Fo, G, δ, er, PX.mono (PX.bind q) fun G1 H1 ds t1 q1 p vs n rvs => ?_⟩
  exact q1 _ _ (Tr.new t1.2.1 n) _ ⟨p, vs, rfl, SqL.of upd_same, Reps.mono (Le.new (none_of_le t1.2.1 n)) _ _ rvs⟩
end
end Dl

set_option Elab.async false
set_option linter.all false
set_option maxRecDepth 100000
set_option maxHeartbeats 2000000
/-! raise, try, defs, lent lists, texts. -/
namespace Dl
open PySem PySem.Spec PyProof.Rows L2

/-! ### lent lists -/
mutual
def D.pure : D → Bool
  | .lst _ => false
  | .obj .. => false
  | .dk .. => false
  | .dt .. => false
  | .tup xs => D.pures xs
  | _ => true
def D.pures : List D → Bool
  | [] => true
  | x :: xs => D.pure x && D.pures xs
end
section
variable {K : Kw} {tp : Tb} {Fo G H G' H' : Hp} {δ : Env} {σ : L2.St} {fp : List Addr}
/-- without the places fp -/
def delF (G : Hp) (fp : List Addr) : Hp := fun a => if a ∈ fp then none else G a
theorem delF_in {a : Addr} (h : a ∈ fp) : delF G fp a = none := if_pos h
theorem delF_out {a : Addr} (h : a ∉ fp) : delF G fp a = G a := if_neg h
theorem delF_some {a : Addr} {o : HO} (h : delF G fp a = some o) : a ∉ fp ∧ G a = some o := by
  by_cases z : a ∈ fp
  · rw [delF_in z] at h; cases h
  · rw [delF_out z] at h; exact ⟨z, h⟩
/-- lists, dicts, instances stand at fp -/
def Lent (G : Hp) (fp : List Addr) : Prop := ∀ a ∈ fp, ∃ u, G a = some u ∧ (∀ xs, u ≠ .tup xs) ∧ ∀ ob w, u ≠ .frz ob w
theorem SqT.del {a : Addr} {vs : List V} (h : Lent G fp) (s : SqT K.k G a vs) : SqT K.k (delF G fp) a vs := by
  have out : ∀ {u : HO}, G a = some u → ((∃ xs, u = .tup xs) ∨ ∃ ob w, u = .frz ob w) → a ∉ fp := fun hu hk ha => by
    obtain ⟨u', hu', n1, n2⟩ := h a ha
    rw [hu] at hu'
    cases hu'
    rcases hk with ⟨xs, e⟩ | ⟨ob, w, e⟩
    · exact n1 xs e
    · exact n2 ob w e
  rcases s with (s | ⟨o, s⟩) | s
  · exact .inl (.inl (by rw [delF_out (out s (.inl ⟨_, rfl⟩))]; exact s))
  · exact .inl (.inr ⟨o, by rw [delF_out (out s (.inr ⟨_, _, rfl⟩))]; exact s⟩)
  · exact .inr s
theorem Nd.del {a : Addr} (h : Lent G fp) (s : Nd K.k G a) : Nd K.k (delF G fp) a := by
  rcases s with ⟨o', u, s, d⟩ | s
  · refine .inl ⟨o', u, ?_, d⟩
    rw [delF_out (fun ha => by
      obtain ⟨u', hu', n1, n2⟩ := h a ha
      rw [s] at hu'
      cases hu'
      exact n2 _ _ rfl)]
    exact s
  · exact .inr s
mutual
theorem Rep.del (h : Lent G fp) : ∀ (d : D) (v : V), d.pure = true → Rep K G d v → Rep K (delF G fp) d v
  | .non, _, _, r => r
  | .bl _, _, _, r => r
  | .int _, _, _, r => r
  | .str _, _, _, r => r
  | .tup ds, _, hp, ⟨a, vs, e, s, r⟩ => ⟨a, vs, e, ⟨SqT.del h s.1, Nd.del h s.2⟩, Reps.del h ds vs (by simpa [D.pure] using hp) r⟩
  | .lst _, _, hp, _ => by simp [D.pure] at hp
  | .obj _ _ _, _, hp, _ => by simp [D.pure] at hp
  | .dk _ _, _, hp, _ => by simp [D.pure] at hp
  | .dt _ _, _, hp, _ => by simp [D.pure] at hp
theorem Reps.del (h : Lent G fp) : ∀ (ds : List D) (vs : List V), D.pures ds = true → Reps K G ds vs → Reps K (delF G fp) ds vs
  | [], _, _, r => r
  | d :: ds, _, hp, ⟨v, r, e, h1, h2⟩ => by
    simp only [D.pures, Bool.and_eq_true] at hp
    exact ⟨v, r, e, Rep.del h d v hp.1 h1, Reps.del h ds r hp.2 h2⟩
end
theorem Tr.back (t : Tr tp (updF G H fp) H G' H') (n : ∀ a ∈ fp, G a = none) (nt : ∀ a ∈ fp, ¬ tp a) (h : ∀ a ∈ fp, ∃ u, H a = some u ∧ ∀ ob w, u ≠ .frz ob w) : Tr tp G H (delF G' fp) H' ∧ ∀ a ∈ fp, G' a = H a := by
  have hg : ∀ a ∈ fp, G' a = H a := fun a ha => by
    obtain ⟨u, hu, _⟩ := h a ha
    rw [hu]; exact t.1 a u (by rw [updF_in ha]; exact hu)
  refine ⟨⟨fun a o q => ?_, fun a o q => t.2.1 a o (delF_some q).2, fun a o g nta q => ?_, fun a ta g q => ?_⟩, hg⟩
  · have z : a ∉ fp := fun ha => by rw [n a ha] at q; cases q
    rw [delF_out z]; exact t.1 a o (by rw [updF_out z]; exact q)
  · by_cases z : a ∈ fp
    · exact ⟨t.2.1 a o (by rw [hg a z]; exact q), delF_in z⟩
    · rw [delF_out z]; exact t.2.2.1 a o (by rw [updF_out z]; exact g) nta q
  · have z : a ∉ fp := fun z => nt a z ta
    have lg : Le G (updF G H fp) := fun b o e => by
      rw [updF_out (fun hb => by rw [n b hb] at e; cases e)]; exact e
    rw [delF_out z]
    obtain ⟨⟨ps, e, r, k⟩, g'⟩ := t.2.2.2 a ta (by rw [updF_out z]; exact g) (q.mono lg)
    refine ⟨⟨ps, e, r, fun nm hq pos cv hc => ?_⟩, g'⟩
    obtain ⟨c, e1, oc, u, vs, tk, e2, e3⟩ := k nm hq pos cv hc
    refine ⟨c, e1, oc, u, vs, tk, ?_, e3⟩
    have hc : c ∉ fp := fun hc => by
      obtain ⟨w, hw, nf⟩ := h c hc
      rw [hg c hc, hw] at e2
      exact nf _ _ (Option.some.inj e2)
    rw [delF_out hc]; exact e2
/-- what lending gives -/
theorem ER.lend (e : ER K tp Fo G H δ σ) (i : Nat) : ∃ fp, ER K tp Fo (updF G H fp) H (Dl.frz i δ) σ ∧ ∀ G' H', Tr tp (updF G H fp) H G' H' → Tr tp G H (delF G' fp) H' ∧ ∀ d v, D.pure d = true → Rep K G' d v → Rep K (delF G' fp) d v := by
  obtain ⟨fp, l, er1, hf, _⟩ := e.frz i
  refine ⟨fp, er1, fun G' H' t => ?_⟩
  obtain ⟨t', g'⟩ := t.back (fun a ha => (hf a ha).1) (fun a ha => let ⟨_, _, u, _, nt, _⟩ := hf a ha; nt) fun a ha => let ⟨_, _, u, hu, _, _, n2⟩ := hf a ha; ⟨u, hu, n2⟩
  refine ⟨t', fun d v hp r => Rep.del (fun a ha => ?_) d v hp r⟩
  obtain ⟨_, _, u, hu, _, n1, n2⟩ := hf a ha
  exact ⟨u, (g' a ha).trans hu, n1, n2⟩
end
/-! ### lent dicts: lists and instances may come out -/
mutual
def D.pureL : D → Bool
  | .dk .. => false
  | .dt .. => false
  | .obj _ _ xs => D.puresL xs
  | .lst xs => D.puresL xs
  | .tup xs => D.puresL xs
  | .non => true
  | .bl _ => true
  | .int _ => true
  | .str _ => true
def D.puresL : List D → Bool
  | [] => true
  | x :: xs => D.pureL x && D.puresL xs
end
section
variable {K : Kw} {tp : Tb} {Fo G H G' H' : Hp} {δ : Env} {σ : L2.St} {fp : List Addr}
end
section
variable {X : Cx} {M : Mo} {W : WX} {pos : Pos} {e : Expr} {es : List Expr} {f g : Ev}
end
def eBor (i : Nat) (f : Ev) : Ev := fun δ => f (frz i δ) >>= fun d => if d.pure then .ok d else .bad
section
variable {X : Cx} {M : Mo} {W : WX} {pos : Pos} {e : Expr} {es : List Expr} {f g : Ev}
end
end Dl

set_option Elab.async false
set_option linter.all false
set_option maxRecDepth 100000
set_option maxHeartbeats 2000000
/-! raise, try, defs, texts. -/
namespace Dl
open PySem PySem.Spec PyProof.Rows L2
section
variable {X : Cx} {M : Mo} {W : WX} {pos : Pos} {e : Expr} {es : List Expr} {f g : Ev}
/-- raise X('..') -/
theorem ds_raise {c : String} {C : Addr} {x m : Str} {j : Nat} {p p2 pos2 : Pos} {bmB : List Value} {B newId initId : String} (hc : X.calm = true) (tk : Takes X W) (ec : M.ec c = .ref C) (F : ExcBaseFacts B newId initId bmB) (q : PySem.W.excIn X.K C bmB newId = true) (gC : X.mg x = some (.ref C)) (kC : PySem.W.keepIn X.K (.ref C) = true)
    (r : Raises X (.ref C)) (hg : Gl X x) (hdb : (x == ("__debug__" : Str)) = false := by decide) : PS X (.Raise (some (.Call (.Name x p) [.Constant (.str m) j p2] [] pos)) none pos2) (tS (kwX X) M W (sRaise c)) := by
  refine PS.imp (ps_raise hc tk (pmk_own F q gC kC r hg hdb)) fun D σ H ⟨Fo, G, δ, er, q⟩ => ?_
  have z := q G σ H .refl er
  rw [ec] at z
  exact z
theorem PF.noX {K : Kw} {M : Mo} {W W' : WX} {Fo G : Hp} {r : Fl} {D : Ends} (h : PF K M W Fo G (Dl.noX r) D) : PF K M W' Fo G r D := by
  cases r with
  | exc c δ => exact False.elim h
  | next δ => exact h
  | brk δ => exact h
  | cont δ => exact h
  | ret d => exact h
  | bad => exact h
/-- try: .. except X: .. -/
theorem ds_try {x : Str} {c : Value} {body suite : List Stmt} {b0 : Stmt} {np pos' : Pos} {F1 F2 : Sv} {sub : String → Option Bool} (hs : X.stack = X.env :: X.outer) (hf : X.env.frame = some X.env.locals) (hc : Names X x c) (tk : Takes X W)
    (hsub : ∀ n b, sub n = some b → PySem.W.exmOne X.K (M.ec n) c = some b)
    (hb : ∀ (W' : WX) (pn : List (Addr × Obj)) (xe : Value → Shared → Prop), Takes (X.tr pn xe) W' → PassesOwn (model X.prog X.w) X.A X.env xe → PSs (X.tr pn xe) body (tS (kwX X) M W' F1))
    (hsu : ∀ (a : Addr) (oe : Obj) (pn : List (Addr × Obj)), PSs (X.suite a ((a, oe) :: pn)) (b0 :: suite) (tS (kwX X) M W0 F2)) :
    PS X (.Try body [.ExceptHandler (some (.Name x np)) none (b0 :: suite) pos'] [] [] pos) (tS (kwX X) M W (sTry sub F1 F2)) := by
  refine PS.imp (ps_try_only hs hf hc tk hb (ts := fun _ _ _ => tS (kwX X) M W0 F2) fun a oe cls d pn _ _ => hsu a oe pn) fun D σ H ⟨Fo, G, δ, er, q⟩ => ⟨Fo, G, δ, er, ?_⟩
  unfold sTry at q
  cases z : F1 δ with
  | next δ' => rw [z] at q; exact q
  | brk δ' => rw [z] at q; exact q
  | cont δ' => rw [z] at q; exact q
  | ret d => rw [z] at q; exact q
  | bad => rw [z] at q; exact q
  | exc n δ' =>
    rw [z] at q
    intro G' σ' H' l er'
    show wOnly X.K c _ W D (M.ec n) none σ' H'
    cases y : sub n with
    | none => simp only [y] at q; exact False.elim q
    | some b =>
      simp only [y] at q
      refine ⟨b, hsub n b y, fun eb a na => ?_, fun eb => ?_⟩
      · subst eb
        exact ⟨Fo, G', δ', er', PF.mono l (PF.noX q)⟩
      · subst eb
        exact q G' σ' H' l er'
end

/-! ### defs -/
def initE (n : Nat) (ds : List D) : Env := ds.map S.val ++ List.replicate (n - ds.length) .no
def runF (n : Nat) (B : Sv) (ds : List D) : R D := match B (initE n ds) with
  | .ret d => .ok d
  | .next _ => .ok .non
  | .exc c _ => .exc c
  | _ => .bad
section
variable {P : Program} {w : World} {K : Kw} {mg : Str → Option Value} {base : Heap} {M : Mo}
open Classical in
theorem er_start {N : List Str} {G H : Hp} {ds : List D} {vs : List V} (l : Le G H) (tb : ∀ a, M.tp a → TabD M.tp G H a ∧ G a = none) (r : Reps K G ds vs) :
    ∃ Fo, ER K M.tp Fo G H (initE N.length ds) (L2.start N vs) ∧ ∀ a o, G a = none → ¬ M.tp a → H a = some o → Fo a = some o := by
  refine ⟨fun a => if G a = none ∧ ¬ M.tp a then H a else none, ⟨l, fun a o h => ?_, fun a o h => ?_, tb, ?_, fun i d h => ?_, fun _ => [], fun i d h => ?_, fun i j c d h => ?_⟩, fun a o g t h => ?_⟩
  · split at h
    · exact h
    · cases h
  · split at h
    · rename_i z; exact z
    · cases h
  · unfold initE L2.start
    rw [List.length_append, List.length_append, List.length_map, List.length_map, List.length_replicate, List.length_replicate, r.length]
  · unfold initE at h
    by_cases z : i < ds.length
    · rw [List.getElem?_append_left (by rw [List.length_map]; exact z), List.getElem?_map, List.getElem?_eq_getElem z] at h
      cases h
      obtain ⟨v, ev, rv⟩ := r.get (List.getElem?_eq_getElem z)
      refine ⟨v, ?_, rv⟩
      unfold L2.start
      rw [List.getElem?_append_left (by rw [List.length_map, r.length]; exact z), List.getElem?_map, ev]
      rfl
    · rw [List.getElem?_append_right (by rw [List.length_map]; omega)] at h
      rw [List.getElem?_replicate] at h
      split at h <;> cases h
  · exfalso
    unfold initE at h
    by_cases z : i < ds.length
    · rw [List.getElem?_append_left (by rw [List.length_map]; exact z), List.getElem?_map, List.getElem?_eq_getElem z] at h
      cases h
    · rw [List.getElem?_append_right (by rw [List.length_map]; omega)] at h
      rw [List.getElem?_replicate] at h
      split at h <;> cases h
  · exfalso
    unfold initE at h
    by_cases z : i < ds.length
    · rw [List.getElem?_append_left (by rw [List.length_map]; exact z), List.getElem?_map, List.getElem?_eq_getElem z] at h
      cases h
    · rw [List.getElem?_append_right (by rw [List.length_map]; omega)] at h
      rw [List.getElem?_replicate] at h
      split at h <;> cases h
  · dsimp only
    rw [if_pos ⟨g, t⟩]; exact h
theorem tr_end {Fo G H G' H' : Hp} {δ : Env} {σ : L2.St} (fo : ∀ a o, G a = none → ¬ M.tp a → H a = some o → Fo a = some o) (l : Le G G') (e : ER K M.tp Fo G' H' δ σ) : Tr M.tp G H G' H' :=
  ⟨l, e.gh, fun a o g t h => ⟨e.fh a o (fo a o g t h), (e.fg a o (fo a o g t h)).1⟩, fun a t _ _ => e.tb a t⟩
end
section
variable {P : Program} {w : World} {K : PySem.W.Frag} {mg : Str → Option Value} {base : Heap} {M : Mo}
/-- a def that is not spoken of -/
theorem fn_bad {f : Addr} {fd : FuncData} {ps : List Str} {k n : Nat} (hn : n = ps.length) : FnOk P w K mg base (L2.CX P w) k f fd ps (spD ⟨K, P, w⟩ M n fun _ => .bad) :=
  ⟨fun vs H Q E ⟨G, ds, l, tb, r, hl, q⟩ => False.elim q, fun A outer s H args us vs Q E hr he hb hv ⟨G, ds, l, tb, r, hl, q⟩ => False.elim q⟩
end

/-! ### all(..), any(..) over a text's signs -/
section
variable {X : Cx} {M : Mo} {W : WX} {pos : Pos} {e : Expr} {es : List Expr} {f g : Ev}
theorem tabbed_tr {tp : Tb} {G H H2 : Hp} {P : Addr} {pos : Pos} (l : Le G H) (tb : ∀ a, tp a → TabD tp G H a ∧ G a = none) (hP : tp.gen P (pk pos)) (t : TabX P pos H H2) : Tr tp G H G H2 := by
  obtain ⟨tg, k⟩ := t
  have hP' : tp P := .inl ⟨_, hP⟩
  have ne : ∀ a, ¬ tp a → a ≠ P := fun a h z => h (z ▸ hP')
  refine ⟨.refl, fun a o q => ?_, fun a o g nt q => ⟨by rw [k a (ne a nt)]; exact q, g⟩, fun a ta g q => ⟨?_, g⟩⟩
  · have z : a ≠ P := fun z => by
      subst z
      rw [(tb a hP').2] at q; cases q
    rw [k a z]; exact l a o q
  · by_cases z : a = P
    · subst z
      obtain ⟨ps, ps', e, e', r, hk⟩ := tg
      obtain ⟨qs, q1, q2, q3⟩ := q
      rw [e] at q1
      cases q1
      exact ⟨ps', e', r, fun p nm hq cv hc => q3 p nm hq cv (hk p cv (fun z => tp.dis _ _ _ hq (z ▸ hP)) hc)⟩
    · obtain ⟨ps, q1, q2⟩ := q
      exact ⟨ps, by rw [k a z]; exact q1, q2⟩

/-! ### sep.join(texts) -/
end
end Dl

set_option Elab.async false
set_option linter.all false
set_option maxRecDepth 100000
set_option maxHeartbeats 2000000
/-! any(..), all(..) of a generator expression with one clause. -/
namespace Dl
open PySem PySem.Spec PyProof.Rows L2
open Sem (wp)

/-- the context of a generator expression's frame -/
abbrev CxG (X : Cx) (A : Around) (s : Shared) (H : Hp) (cenv : PySem.Env) (fp : List Addr) (pn : List (Addr × Obj)) : Cx := { X with A := A, s_0 := s, H_0 := H, env := cenv, outer := X.stack, stack := cenv :: X.stack, ex := fp, fn := fun y => cenv.scope.names.lookup y == some NameKind.cell, pn := pn, xe := fun _ _ => False }

/-- a generator expression's scope -/
structure GnOk (N : List Str) (sc scope : Scope) (own : List (Str × Nat)) : Prop where
  blk : BlkOk N sc scope own
  co : scope.isCoroutine = false
  dot : scope.names.lookup (".0" : Str) = some NameKind.local

section
variable {M : Model} {A : Around} {E : Value → Shared → Prop} {s : Shared}
/-- a generator's frame, with its cells -/
theorem newEnv_gen {scope : Scope} {globals : Addr} {closure : List (Str × Addr)} {qual : Str} {code : Value} {builtins : Addr} {it : Value} {Q : PySem.Env → Shared → Prop}
    (h0 : scope.names.lookup (".0" : Str) = some NameKind.local) (hk : scope.kind = .function)
    (hQ : ∀ h', h'.Ns s.heap.objs.size (fun y => if y = ".0" then some it else none) → Heap.SameBut s.heap.objs.size (pushCells (s.heap.push { cls := .type "frame", data := .dict #[] }) scope.names) h' →
      Q (newEnv scope s.heap.objs.size globals (cellsFrom (s.heap.objs.size + 1) scope.names closure) qual none code none builtins) { s with heap := h', toks := s.toks + 1 }) :
    wpAny M A (newFunctionEnv scope globals closure [(".0", it)] qual none code none builtins) Q E s := by
  simp only [newFunctionEnv, Option.isSome_none, Bool.false_eq_true, if_false]
  refine wpAny_bind (wpAny_alloc ?_)
  refine wpAny_bind (wpAny_layCells _ (fun name kind cells => by cases hkc : kind == NameKind.cell <;> simp [hkc]) _ _ _ _ ?_)
  rw [show ({ s with heap := s.heap.push { cls := .type "frame", data := .dict #[] } } : Shared).heap.objs.size = s.heap.objs.size + 1 from Heap.size_push ..]
  rw [List.forIn_cons]
  have ns0 : (pushCells (s.heap.push { cls := .type "frame", data := .dict #[] }) scope.names).Ns s.heap.objs.size fun _ => none := (Heap.Ns.new s.heap (.type "frame")).keeps (pushCells_keeps _ _)
  refine wpAny_bind (wpAny_bind (wpAny_bind (wpAny_storeName_local (m := fun _ => none) h0 ns0 (fun h' hn' hs' => ?_) (by show (scope.kind == .class || _) = false; rw [hk]; rfl))))
  refine wpAny_pure ?_
  show wpAny M A (forIn ([] : List (Str × Value)) PUnit.unit _) _ _ _
  rw [List.forIn_nil]
  exact wpAny_pure (wpAny_pure (hQ h' hn' hs'))
theorem gexp_make {env : PySem.Env} {elt target iter : Expr} {ifs : List Expr} {scope : Scope} {cl : List (Str × Addr)} {pos : Pos} {Q : Value → Shared → Prop}
    (hco : scope.isCoroutine = false) (hclos : closureFor scope env = pure cl) (h0 : scope.names.lookup (".0" : Str) = some NameKind.local) (hkind : scope.kind = .function)
    (hroom : A.depth < recursionLimit)
    (h : wpAny M A (eval iter env) (fun xv s₁ => wpAny M A (pyIter xv) (fun it s₂ => s₂.heap.NoLimit ∧
      wpAny M A (genexprCode env pos (env.qual ++ "<genexpr>") scope) (fun code s₃ => wpAny M A (builtinsFor env.globals env.builtins) (fun bi s₄ =>
        ∀ h', h'.Ns s₄.heap.objs.size (fun y => if y = ".0" then some it else none) → Heap.SameBut s₄.heap.objs.size (pushCells (s₄.heap.push { cls := .type "frame", data := .dict #[] }) scope.names) h' →
          Q (.ref h'.objs.size) { s₄ with
            gens := s₄.gens.push (.fresh (.compStart (.GeneratorExp elt [⟨target, iter, ifs, 0⟩] scope pos) 0 it .none (genEnv scope (cellsFrom (s₄.heap.objs.size + 1) scope.names cl) s₄.heap.objs.size code bi env))),
            toks := s₄.toks + 1 + 1 + 1,
            heap := h'.push { cls := .type "generator", data := .fields #[.int s₄.gens.size 0, .str "<genexpr>" (s₄.toks + 1), .str (env.qual ++ "<genexpr>") (s₄.toks + 1 + 1)] } }) E s₃) E s₂) E s₁) E s)
    (hs : ∀ x, genFold iter env x = pure x) :
    wpAny M A (eval (.GeneratorExp elt [⟨target, iter, ifs, 0⟩] scope pos) env) Q E s := by
  rw [eval_GeneratorExp1 _ _ _ _ _ _ _ hco, hclos]
  refine wpAny_bind (wpAny_mono h (fun xv s₁ h₁ => ?_) fun _ _ e => e)
  refine wpAny_bind (wpAny_standAt ?_)
  refine wpAny_bind (wpAny_of_eq (hs xv) ?_)
  refine wpAny_bind (wpAny_holding (wpAny_mono h₁ (fun it s₂ h₂ => ?_) fun _ _ e => e))
  refine wpAny_bind (wpAny_enterFrame h₂.1 hroom ?_)
  refine wpAny_bind (wpAny_pure ?_)
  refine wpAny_bind (wpAny_mono h₂.2 (fun code s₃ h₃ => ?_) fun _ _ e => e)
  refine wpAny_bind (wpAny_mono h₃ (fun bi s₄ h₄ => ?_) fun _ _ e => e)
  refine wpAny_bind (newEnv_gen h0 hkind fun h' hn' hs' => ?_)
  simp only [newGenerator, newFields]
  refine wpAny_bind (wpAny_newGen (wpAny_bind (wpAny_mkText (wpAny_bind (wpAny_mkText (wpAny_newObj_type ?_ (by size_fits)))))))
  exact h₄ h' hn' hs'
end

section
variable {X : Cx} {pins : List (Addr × Obj)} {σ : L2.St} {H : Hp} {s : Shared}
theorem gen_start {scope : Scope} {own : List (Str × Nat)} {fp : List Addr} {A' : Around} {code : Value} {a : Addr} {go : Obj} {m : Str → Option Value} {h' : Heap} {g' : Array GenState} {t' : Nat}
    (I : Inv X pins σ H s) (ok : GnOk X.N X.env.scope scope own) (hN : X.N.Nodup) (hfp : ∀ b ∈ fp, FpOk X pins H b ∧ b < s.heap.objs.size)
    (hA : A'.handled = none) (hfr : A'.frames = some (genEnv scope (cellsFrom (s.heap.objs.size + 1) scope.names (cloFrom X.env.cells scope.names [])) s.heap.objs.size code builtinsNs X.env :: X.stack))
    (hns : h'.Ns s.heap.objs.size m) (kp : ∀ b o, s.heap.get? b = some o → h'.get? b = some o)
    (kc : ∀ b o, s.heap.objs.size < b → (pushCells (s.heap.push { cls := .type "frame", data := .dict #[] }) scope.names).get? b = some o → h'.get? b = some o) (hg : AllBare g')
    (ha : s.heap.objs.size < a) (hgo : h'.get? a = some go) (hgd : ∀ v, go.data ≠ .cell v) :
    Inv (CxG X A' s H (genEnv scope (cellsFrom (s.heap.objs.size + 1) scope.names (cloFrom X.env.cells scope.names [])) s.heap.objs.size code builtinsNs X.env) fp [(a, go)]) [] (wipe σ (own.map (·.2))) H { s with heap := h', gens := g', toks := t' } := by
  have hfree : ∀ y ∈ scope.names, y.2 = .free → ∃ c, X.env.cells.lookup y.1 = some c := fun y hy e => by
    rcases ok.blk.free y hy e with k | k
    · exact I.ok.has _ (.inl k)
    · exact I.ok.has _ (.inr k)
  generalize hcenv : genEnv scope (cellsFrom (s.heap.objs.size + 1) scope.names (cloFrom X.env.cells scope.names [])) s.heap.objs.size code builtinsNs X.env = cenv at hfr ⊢
  have hL : cenv.locals = s.heap.objs.size := by rw [← hcenv]; rfl
  have hcl : cenv.cells = cellsFrom (s.heap.objs.size + 1) scope.names (cloFrom X.env.cells scope.names []) := by rw [← hcenv]; rfl
  rw [← Heap.size_push s.heap { cls := .type "frame", data := .dict #[] }] at hcl
  have hsc : cenv.scope = scope := by rw [← hcenv]; rfl
  have cm : ∀ {y c}, (y, c) ∈ cloFrom X.env.cells scope.names [] → X.env.cells.lookup y = some c ∧ c < s.heap.objs.size := fun {y c} hm => by
    rcases cloFrom_mem hm with hm | ⟨h1, rfl⟩
    · cases hm
    · obtain ⟨c, hc⟩ := hfree _ h1 rfl
      rw [hc]
      obtain ⟨w, z⟩ := I.cell _ _ hc
      exact ⟨rfl, z.lt⟩
  have mem : ∀ {y c}, cenv.cells.lookup y = some c → (X.env.cells.lookup y = some c ∧ c < s.heap.objs.size) ∨ (s.heap.objs.size + 1 ≤ c ∧ CellAt h' c none) := fun {y c} e => by
    rw [hcl] at e
    rcases cells_mem (PySem.mem_of_lookup e) with hm | ⟨_, h2, h3⟩
    · exact .inl (cm hm)
    · rw [Heap.size_push] at h2
      obtain ⟨o, e1, e2⟩ := h3
      exact .inr ⟨h2, o, kc c o (by omega) e1, e2⟩
  have look : ∀ {y}, scope.names.lookup y = some .free → ∃ c, cenv.cells.lookup y = some c ∧ X.env.cells.lookup y = some c := fun {y} hl => by
    have hy : (y, NameKind.free) ∈ scope.names := PySem.mem_of_lookup hl
    obtain ⟨c', e'⟩ := mem_lookup (cells_acc (names := scope.names) (n := (s.heap.push { cls := .type "frame", data := .dict #[] }).objs.size) (cloFrom_has (cells := X.env.cells) (acc := []) hy))
    rw [← hcl] at e'
    refine ⟨c', e', ?_⟩
    rw [hcl] at e'
    rcases cells_mem (PySem.mem_of_lookup e') with hm | ⟨h1, _, _⟩
    · exact (cm hm).1
    · have := ok.blk.uniq _ h1
      rw [hl] at this; cases this
  have okB : (CxG X A' s H cenv fp [(a, go)]).Ok := by
    refine ⟨I.ok.mod, by show cenv.scope.kind = _; rw [hsc]; exact ok.blk.kind, by show cenv.globals = _; rw [← hcenv]; exact I.ok.glob, by show cenv.builtins = _; rw [← hcenv]; rfl, by show s.heap.objs.size ≤ cenv.locals; rw [hL]; exact Nat.le_refl _,
      fun y z c e1 e2 => ?_, fun y hy => ?_, fun y c z e => ?_, fun _ => hA, hfr, .inr ⟨rfl, ?_⟩, fun b hb => ⟨?_, fun y c e z => ?_⟩, I.bs, Nat.le_trans I.ok.bsz I.sz, fun b o e hb => ?_, fun b hb z => ?_, I.stack, I.stkFree⟩
    · have e1 : cenv.cells.lookup y = some c := e1
      have e2 : cenv.cells.lookup z = some c := e2
      rw [hcl] at e1 e2
      refine cells_inj (fun p hp => ?_) (fun y z c a b => I.ok.inj y z c (cm a).1 (cm b).1) (PySem.mem_of_lookup e1) (PySem.mem_of_lookup e2)
      rw [Heap.size_push]
      exact Nat.lt_succ_of_lt (cm (y := p.1) (c := p.2) hp).2
    · have hy : cenv.scope.names.lookup y = some .cell ∨ cenv.scope.names.lookup y = some .free := hy
      rw [hsc] at hy
      rcases hy with hy | hy
      · obtain ⟨c, hm⟩ := cells_has (n := (s.heap.push { cls := .type "frame", data := .dict #[] }).objs.size) (acc := cloFrom X.env.cells scope.names []) (PySem.mem_of_lookup hy)
        obtain ⟨c', e'⟩ := mem_lookup hm
        exact ⟨c', by show cenv.cells.lookup y = _; rw [hcl]; exact e'⟩
      · obtain ⟨c, h1, _⟩ := look hy
        exact ⟨c, h1⟩
    · have z : (cenv.scope.names.lookup y == some NameKind.cell) = true := z
      rw [hsc] at z
      have z : scope.names.lookup y = some .cell := by simpa using z
      have e : cenv.cells.lookup y = some c := e
      rw [hcl] at e
      rcases cells_mem (PySem.mem_of_lookup e) with hm | ⟨_, h2, _⟩
      · rcases cloFrom_mem hm with hm | ⟨h1, _⟩
        · cases hm
        · have q := ok.blk.uniq _ h1
          rw [z] at q; cases q
      · rw [Heap.size_push] at h2
        exact Nat.le_of_succ_le h2
    · show cenv.frame = some cenv.locals
      rw [← hcenv]; rfl
    · show b ≠ cenv.locals
      rw [hL]; exact Nat.ne_of_lt (hfp b hb).2
    · have e : cenv.cells.lookup y = some c := e
      rcases mem e with ⟨h1, _⟩ | ⟨h1, _⟩
      · exact (hfp b hb).1.2.2.2.2.1 y c h1 z
      · have h2 : s.heap.objs.size + 1 ≤ b := by rw [← z]; exact h1
        exact absurd (Nat.lt_of_lt_of_le (hfp b hb).2 (Nat.le_of_succ_le h2)) (Nat.lt_irrefl _)
    · rcases (hfp b hb).1.2.2.2.1 with z | z
      · exact I.ok.noex b o e z
      · exact absurd (Nat.lt_of_lt_of_le (Heap.lt_size e) (Nat.le_trans I.ok.bsz z)) (Nat.lt_irrefl _)
    · rcases List.mem_cons.mp (I.stkSub b z) with z | z
      · exact (hfp b hb).1.2.1 z
      · exact (hfp b hb).1.2.2.1 z
  refine ⟨okB, rfl, hg, Un.kept kp, ⟨m, by show Heap.Ns _ cenv.locals _; rw [hL]; exact hns, fun i y av e1 e2 e3 => ?_⟩, fun y c e => ?_, ?_, fun y c e => ?_, fun p hp => ?_, I.hok.kept kp, by rw [wipe_length]; exact I.len⟩
  · obtain ⟨e2, hne⟩ := wipe_some e2
    have e3 : cenv.scope.names.lookup y = some .local ∨ cenv.scope.names.lookup y = some .cell ∨ cenv.scope.names.lookup y = some .free := e3
    rw [hsc] at e3
    have no : ∀ k, (y, k) ∈ scope.names → ¬ (k = .local ∨ k = .cell) := fun k hm hh => by
      rcases ok.blk.own _ hm hh with e' | e'
      · obtain ⟨p, hp, hpy⟩ := List.mem_map.mp e'
        have e4 := ok.blk.ix p hp
        have : p.1 = y := hpy
        rw [this] at e4
        exact hne (List.mem_map.mpr ⟨p, hp, nodup_ix hN e4 e1⟩)
      · exact e' (List.mem_of_getElem? e1)
    have hf : scope.names.lookup y = some .free := by
      rcases e3 with e3 | e3 | e3
      · exact absurd (.inl rfl) (no _ (PySem.mem_of_lookup e3))
      · exact absurd (.inr rfl) (no _ (PySem.mem_of_lookup e3))
      · exact e3
    obtain ⟨m0, hn, hl⟩ := I.loc
    have hk := ok.blk.free _ (PySem.mem_of_lookup hf) rfl
    have hvis : Vis X.env.scope y := hk.elim (fun k => .inr (.inl k)) (fun k => .inr (.inr k))
    obtain ⟨w, r, q⟩ := hl i y av e1 e2 hvis
    obtain ⟨c, hc, hcx⟩ := look hf
    refine ⟨w, r, .inr ⟨.inr (by show cenv.scope.names.lookup y = _; rw [hsc]; exact hf), c, hc, ?_⟩⟩
    rcases q with ⟨k, _⟩ | ⟨_, c', e', z⟩
    · have k : X.env.scope.names.lookup y = some .local := k
      rcases hk with k' | k' <;> rw [show X.env.scope.names.lookup y = _ from k'] at k <;> cases k
    · rw [hcx] at e'; cases e'
      exact z.keeps kp
  · have e : cenv.cells.lookup y = some c := e
    rcases mem e with ⟨h1, _⟩ | ⟨_, z⟩
    · obtain ⟨w, z⟩ := I.cell y c h1
      exact ⟨w, z.keeps kp⟩
    · exact ⟨_, z⟩
  · show H cenv.locals = none
    rw [hL]; exact I.hok.fresh (Nat.le_refl _)
  · have e : cenv.cells.lookup y = some c := e
    rcases mem e with ⟨h1, _⟩ | ⟨h1, _⟩
    · exact I.freeC y c h1
    · exact I.hok.fresh (Nat.le_of_succ_le h1)
  · have hp : p ∈ [(a, go)] ++ ([] : List (Addr × Obj)) := hp
    rw [List.append_nil, List.mem_singleton] at hp
    subst hp
    refine ⟨hgo, I.hok.fresh (Nat.le_of_lt ha), by show a ≠ cenv.locals; rw [hL]; exact Nat.ne_of_gt ha, fun z => ?_, hgd⟩
    have z : a ∈ frs X.stack := z
    rcases List.mem_cons.mp (I.stkSub a z) with z | z
    · exact absurd (Nat.lt_trans (by rw [z] at ha; exact ha) I.lt) (Nat.lt_irrefl _)
    · exact I.nofs (Nat.le_of_lt ha) z
end

/-! ### what is handed out, and the end -/
def Aft (X : Cx) (pins : List (Addr × Obj)) (σ : L2.St) (Q : Hp → Prop) (s : Shared) : Prop :=
  ∀ (h' : Heap) (g' : Array GenState) (d' : Drawn) (t' : Nat), (∀ b o, s.heap.get? b = some o → h'.get? b = some o) → AllBare g' → ∃ H', Inv X pins σ H' { s with heap := h', gens := g', drawn := d', toks := t' } ∧ Q H'
theorem Inv.aft {X : Cx} {pins : List (Addr × Obj)} {σ : L2.St} {H : Hp} {s : Shared} {Q : Hp → Prop} (I : Inv X pins σ H s) (q : Q H) : Aft X pins σ Q s := fun h' g' d' t' kp hg =>
  ⟨H, I.call' (ch := []) rfl (Un.kept kp) (I.hok.kept kp) hg (fun b hb => absurd hb (by simp)), q⟩
def Alive (a : Addr) (g : Nat) (s : Shared) : Prop := AllBare s.gens ∧ s.heap.IsGen a g ∧ s.heap.NoLimit
def GYb (X : Cx) (pins : List (Addr × Obj)) (σ : L2.St) (stop : Bool) (Q : VK) (a : Addr) (g : Nat) : Protocol := fun _ s₀ v s kap =>
  Alive a g s ∧ s.os = s₀.os ∧ ∃ c, v = .bool c ∧ if c = stop then Aft X pins σ (Q (.bl stop)) s else ∀ s'' : Shared, s''.heap = s.heap → s''.os = s.os → AllBare s''.gens → kap (.send .none) s''
def GEb (X : Cx) (pins : List (Addr × Obj)) (σ : L2.St) (stop : Bool) (Q : VK) (a : Addr) (g : Nat) : Nat → Shared → Shared → Prop := fun _ s₀ s => Alive a g s ∧ Aft X pins σ (Q (.bl (!stop))) s
abbrev GRb (X : Cx) (pins : List (Addr × Obj)) (σ : L2.St) (stop : Bool) (Q : VK) (a : Addr) (g : Nat) : GenEnd := fun n s₀ r s1 => r = .ok .next ∧ GEb X pins σ stop Q a g n s₀ s1
end Dl

set_option Elab.async false
set_option linter.all false
set_option maxRecDepth 100000
set_option maxHeartbeats 2000000
namespace Dl
open PySem PySem.Spec PyProof.Rows L2
open Sem (wp)

theorem bare_set {s : Shared} {g : Nat} {x : GenState} (h : AllBare s.gens) (hx : x.bare = true) : AllBare (s.setGen g x).gens := fun y hy => by
  have hy : y ∈ s.gens.setIfInBounds g x := hy
  rcases Array.mem_or_eq_of_mem_setIfInBounds hy with e | e
  · exact h y e
  · rw [e]; exact hx
theorem alive_set {a : Addr} {g : Nat} {s : Shared} {x : GenState} (h : Alive a g s) (hx : x.bare = true) : Alive a g (s.setGen g x) := ⟨bare_set h.1 hx, h.2.1, h.2.2⟩

/-- what a turn of the loop asks -/
def tGen (P : Addr) (gpos : Pos) (stop : Bool) (wi : TI) (g : TG) (tt : TT) (te : TE) (vs : List Nat) : TE := fun σ H Q => wi σ H fun J H1 => GxR.TabG H1 P ∧ ∀ H2, TabX P gpos H1 H2 → ∃ W : Nat → Nat → Hp → Prop, (∃ m, W 0 m H2) ∧ ∀ i m H, W i m H →
  (J.stop i H ∧ Q (.bl (!stop)) H) ∨ (J.go i H ∧ ∃ Nx : Hp → Prop, (∀ H', Nx H' → ∃ m', m' < m ∧ W (i + 1) m' H') ∧ ∀ x H', J.yld i H x H' → g x (wipe σ vs) H' fun σ2 H2 => wipe σ2 vs = wipe σ vs ∧ tt σ2 H2 fun b H3 =>
    if b = true then te σ2 H3 fun y H4 => ∃ c, y = .bl c ∧ if c = stop then Q (.bl stop) H4 else Nx H4 else Nx H3)

section
variable {X : Cx} {pins : List (Addr × Obj)} {σ : L2.St}
theorem gen_loop {Q : VK} {stop : Bool} {elt tg iter : Expr} {ifs : List Expr} {scope : Scope} {vs : List Nat} {pos : Pos} {g : TG} {tt : TT} {te : TE} {J : It} {W : Nat → Nat → Hp → Prop}
    {A : Around} {s4 : Shared} {H4 : Hp} {cenv : PySem.Env} {it : Addr} {fp : List Addr} {tn : Nat → Heap → Prop} {a : Addr} {go : Obj} {gn : Nat}
    (hc : X.calm = true) (haf : a ∉ fp) (hco : cenv.scope.isCoroutine = false) (T : Turn X.prog X.w X.K tg J fp it tn) (f4 : ∀ b ∈ fp, FpOk X pins H4 b) (I4 : Inv X pins σ H4 s4) (hgen : ∀ h : Heap, h.get? a = some go → h.IsGen a gn)
    (hpg : PG (CxG X (A.over (.compLoop (.GeneratorExp elt [⟨tg, iter, ifs, 0⟩] scope pos) 0 (.ref it) .none cenv) []) s4 H4 cenv fp [(a, go)]) tg g)
    (hpt : PTs (CxG X (A.over (.compLoop (.GeneratorExp elt [⟨tg, iter, ifs, 0⟩] scope pos) 0 (.ref it) .none cenv) []) s4 H4 cenv fp [(a, go)]) ifs tt)
    (hpe : PE (CxG X (A.over (.compLoop (.GeneratorExp elt [⟨tg, iter, ifs, 0⟩] scope pos) 0 (.ref it) .none cenv) []) s4 H4 cenv fp [(a, go)]) elt te)
    (turn : ∀ i m H, W i m H → (J.stop i H ∧ Q (.bl (!stop)) H) ∨ (J.go i H ∧ ∃ Nx : Hp → Prop, (∀ H', Nx H' → ∃ m', m' < m ∧ W (i + 1) m' H') ∧ ∀ x H', J.yld i H x H' → g x (wipe σ vs) H' fun σ2 H2 => wipe σ2 vs = wipe σ vs ∧ tt σ2 H2 fun b H3 =>
      if b = true then te σ2 H3 fun y H4 => ∃ c, y = .bl c ∧ if c = stop then Q (.bl stop) H4 else Nx H4 else Nx H3)) :
    ∀ (m i : Nat) (H : Hp) (s₀ s : Shared) (n : Nat), s₀.os = s4.os → m < n → Inv (CxG X (A.over (.compLoop (.GeneratorExp elt [⟨tg, iter, ifs, 0⟩] scope pos) 0 (.ref it) .none cenv) []) s4 H4 cenv fp [(a, go)]) [] (wipe σ vs) H s → tn i s.heap → (∀ b ∈ fp, H b = none) → W i m H →
      Seg (model X.prog X.w) A (GRb X pins σ stop Q a gn) (GYb X pins σ stop Q a gn) n s₀ (.compLoop (.GeneratorExp elt [⟨tg, iter, ifs, 0⟩] scope pos) 0 (.ref it) .none cenv)
        ((model X.prog X.w).den (.compLoop (.GeneratorExp elt [⟨tg, iter, ifs, 0⟩] scope pos) 0 (.ref it) .none cenv)) [] s := by
  have stat : ∀ {σ' : L2.St} {H' : Hp} {s' : Shared}, Inv (CxG X (A.over (.compLoop (.GeneratorExp elt [⟨tg, iter, ifs, 0⟩] scope pos) 0 (.ref it) .none cenv) []) s4 H4 cenv fp [(a, go)]) [] σ' H' s' → (∀ b ∈ fp, H' b = none) → ∀ b ∈ fp, FpOk (CxG X (A.over (.compLoop (.GeneratorExp elt [⟨tg, iter, ifs, 0⟩] scope pos) 0 (.ref it) .none cenv) []) s4 H4 cenv fp [(a, go)]) [] H' b := fun {σ' H' s'} I' hn b hb => by
    refine ⟨hn b hb, (I'.ok.exf b hb).1, I'.ok.exfs b hb, .inl hb, fun x c e => (I'.ok.exf b hb).2 x c e, fun p hp => ?_⟩
    have hp : p ∈ [(a, go)] ++ ([] : List (Addr × Obj)) := hp
    rw [List.append_nil, List.mem_singleton] at hp
    subst hp
    exact fun z => haf (by have z : a = b := z; rw [z]; exact hb)
  have alive : ∀ {pn : List (Addr × Obj)} {σ' : L2.St} {H' : Hp} {s' : Shared}, Inv (CxG X (A.over (.compLoop (.GeneratorExp elt [⟨tg, iter, ifs, 0⟩] scope pos) 0 (.ref it) .none cenv) []) s4 H4 cenv fp [(a, go)]) pn σ' H' s' → Alive a gn s' := fun {pn σ' H' s'} I' =>
    ⟨I'.bare, hgen _ (I'.pin (a, go) (List.mem_append_left _ (List.mem_singleton.mpr rfl))).1, I'.nolimit⟩
  have aft : ∀ {pn : List (Addr × Obj)} {σ' : L2.St} {H' : Hp} {s' : Shared} {q : Hp → Prop}, Inv (CxG X (A.over (.compLoop (.GeneratorExp elt [⟨tg, iter, ifs, 0⟩] scope pos) 0 (.ref it) .none cenv) []) s4 H4 cenv fp [(a, go)]) pn σ' H' s' → q H' → Aft X pins σ q s' := fun {pn σ' H' s' q} I' hq =>
    Inv.aft (I4.call' (ch := fp) I'.os I'.base I'.hok I'.bare fun b hb => ⟨(f4 b hb).2.2.2.1, (f4 b hb).2.1, (f4 b hb).2.2.2.2.1, (f4 b hb).2.2.2.2.2⟩) hq
  intro m
  induction m using Nat.strongRecOn with
  | _ m ih =>
  intro i H s₀ s n hos hmn I5 st5 n5 w5
  show Seg _ A _ _ _ s₀ _ ((compTurn (.GeneratorExp elt [⟨tg, iter, ifs, 0⟩] scope pos) 0 (.ref it) .none cenv).onRaise (leaving cenv)) [] s
  rw [compTurn_gen, Sem.onRaise_eq_wrap]
  refine seg_bind_wrap (wpAny_standAt ?_)
  rcases turn i m H w5 with ⟨hstop, qq⟩ | ⟨hgo, Nx, hNx, step⟩
  · refine seg_bind_wrap (wpAny_mono (T.done (CxG X (A.over (.compLoop (.GeneratorExp elt [⟨tg, iter, ifs, 0⟩] scope pos) 0 (.ref it) .none cenv) []) s4 H4 cenv fp [(a, go)]) rfl rfl rfl hc i [] s _ H (fun _ _ => False) I5 (stat I5 n5) st5 hstop) (fun r s6 ⟨hr, I6⟩ => ?_) fun _ _ z => False.elim z)
    subst hr
    exact seg_end (.ok .next) ⟨rfl, alive I6, aft I6 qq⟩
  · refine seg_bind_wrap (wpAny_mono (T.item (CxG X (A.over (.compLoop (.GeneratorExp elt [⟨tg, iter, ifs, 0⟩] scope pos) 0 (.ref it) .none cenv) []) s4 H4 cenv fp [(a, go)]) rfl rfl rfl hc i [] s _ H (fun _ _ => False) I5 (stat I5 n5) st5 hgo) (fun r s6 ⟨u, hr, h6⟩ => ?_) fun _ _ z => False.elim z)
    subst hr
    refine seg_bind_wrap (wpAny_mono h6 (fun _ s7 ⟨x, H7, I7, r7, y7, st7, n7⟩ => ?_) fun _ _ z => False.elim z)
    have I7' := I7.pinned (stat I7 n7) (T.obj _ _ st7)
    refine seg_bind_wrap (wpAny_mono (hpg.run _ s7 _ H7 x u _ I7' r7 (step x H7 y7)) (fun _ s8 ⟨σ8, H8, I8, hw8, q8⟩ => ?_) fun _ _ z => False.elim z)
    refine seg_bind_wrap (wpAny_mono (hpt.run _ s8 σ8 H8 _ I8 q8) (fun b s9 ⟨H9, I9, q9⟩ => ?_) fun _ _ z => False.elim z)
    have fin : ∀ {s' : Shared} {H' : Hp}, Inv (CxG X (A.over (.compLoop (.GeneratorExp elt [⟨tg, iter, ifs, 0⟩] scope pos) 0 (.ref it) .none cenv) []) s4 H4 cenv fp [(a, go)]) ([] ++ pinsAt fp s7.heap) σ8 H' s' → Nx H' → ∃ m', m' < m ∧ Inv (CxG X (A.over (.compLoop (.GeneratorExp elt [⟨tg, iter, ifs, 0⟩] scope pos) 0 (.ref it) .none cenv) []) s4 H4 cenv fp [(a, go)]) [] (wipe σ vs) H' s' ∧ tn (i + 1) s'.heap ∧ (∀ b ∈ fp, H' b = none) ∧ W (i + 1) m' H' := fun {s' H'} I' nx => by
      obtain ⟨m', hm, w'⟩ := hNx H' nx
      have pin' : ∀ b ∈ fp, ∀ o, s7.heap.get? b = some o → s'.heap.get? b = some o ∧ H' b = none := fun b hb o e =>
        let z := I'.pin (b, o) (List.mem_append_right _ (List.mem_append_right _ (mem_pinsAt hb e)))
        ⟨z.1, z.2.1⟩
      have hl : (wipe σ vs).length = σ8.length := by rw [← hw8, wipe_length]
      refine ⟨m', hm, (Inv.unpinned (pins := []) I').weak hl (fun j v e => ?_), T.keep _ _ _ st7 fun b hb o e => (pin' b hb o e).1, fun b hb => ?_, w'⟩
      · rw [← hw8] at e
        exact (wipe_some e).1
      · obtain ⟨o, e, _⟩ := T.obj _ _ st7 b hb
        exact (pin' b hb o e).2
    cases b with
    | false =>
      simp only [Bool.false_eq_true, if_false] at q9 ⊢
      obtain ⟨m', hm, I', t', nf, w'⟩ := fin I9 q9
      exact seg_again rfl (ih m' hm (i + 1) H9 s₀ s9 n hos (Nat.lt_trans hm hmn) I' t' nf w')
    | true =>
      simp only [if_true] at q9 ⊢
      have hy : ∀ v, yieldOut cenv v = yieldValue v := fun v => by simp only [yieldOut, hco, Bool.false_eq_true, if_false]
      simp only [hy]
      rw [Sem.bind_eq_wrap', Sem.bind_eq_wrap', Sem.wrap_wrap, Sem.wrap_wrap]
      refine seg_wrap (wpAny_mono (hpe.run _ s9 σ8 H9 _ I9 q9) (fun z s10 ⟨yv, H10, I10, r10, cb, ey, qc⟩ => ?_) fun _ _ z => False.elim z)
      subst ey
      have ez : z = .bool cb := r10
      subst ez
      cases n with
      | zero => exact absurd hmn (Nat.not_lt_zero _)
      | succ n =>
        refine seg_at (seg_yield rfl rfl rfl ⟨alive I10, I10.os.trans hos.symm, cb, rfl, ?_⟩)
        by_cases hcs : cb = stop
        · rw [if_pos hcs] at qc ⊢
          exact aft I10 qc
        · rw [if_neg hcs] at qc ⊢
          intro s'' e1 e2 e3
          obtain ⟨m', hm, I', t', nf, w'⟩ := fin I10 qc
          have I'' : Inv (CxG X (A.over (.compLoop (.GeneratorExp elt [⟨tg, iter, ifs, 0⟩] scope pos) 0 (.ref it) .none cenv) []) s4 H4 cenv fp [(a, go)]) [] (wipe σ vs) H10 s'' := I'.call' (ch := []) e2 (by rw [e1]; exact Un.refl) (by rw [e1]; exact I'.hok) e3 fun b hb => absurd hb (by simp)
          exact seg_again rfl (ih m' hm (i + 1) H10 s'' s'' n (e2.trans I10.os) (by omega) I'' (by rw [e1]; exact t') nf w')
end
end Dl

set_option Elab.async false
set_option linter.all false
set_option maxRecDepth 100000
set_option maxHeartbeats 2000000
namespace Dl
open PySem PySem.Spec PyProof.Rows L2
open Sem (wp)

/-- the generator stands ready -/
def Ready (prog : Program) (w : World) (A : Around) (X : Cx) (pins : List (Addr × Obj)) (σ : L2.St) (stop : Bool) (Q : VK) (a : Addr) (g n : Nat) (s : Shared) : Prop :=
  Alive a g s ∧ ∃ gs, s.gens[g]? = some gs ∧ ∀ s'' : Shared, s''.heap = s.heap → s''.os = s.os → AllBare s''.gens → gs.Goes (model prog w) A.in1 (GRb X pins σ stop Q a g) (GYb X pins σ stop Q a g) n (.send .none) s''
section
variable {prog : Program} {w : World} {A : Around} {X : Cx} {pins : List (Addr × Obj)} {σ : L2.St} {stop : Bool} {Q : VK} {a : Addr} {g : Nat}
/-- one step of a generator that stands ready -/
theorem next_ready {n : Nat} {s : Shared} {Q' : Option Value → Shared → Prop} {E : Value → Shared → Prop} (hh : A.handled = none) (hroom : A.depth < recursionLimit) (h : Ready prog w A X pins σ stop Q a g n s)
    (hs : ∀ s', Alive a g s' → Aft X pins σ (Q (.bl stop)) s' → Q' (some (.bool stop)) s') (hy : ∀ s' m, n = m + 1 → Ready prog w A X pins σ stop Q a g m s' → Q' (some (.bool (!stop))) s')
    (he : ∀ s', AllBare s'.gens → Aft X pins σ (Q (.bl (!stop))) s' → Q' none s') : wpAny (model prog w) A (pyNext (.ref a)) Q' E s := by
  obtain ⟨al, gs, hgs, hgo⟩ := h
  have hlt : g < s.gens.size := by
    by_cases z : g < s.gens.size
    · exact z
    · rw [Array.getElem?_eq_none (by omega)] at hgs; cases hgs
  refine GenW.wpAny_gsz (n := g + 1) hlt ?_
  refine wpAny_pyNext_genexpQ (P := GEb X pins σ stop Q a g) (n := n) hh al.2.2 hroom al.2.1 hgs (hgo _ rfl rfl (bare_set al.1 rfl)) (fun v s₁ gs' hb hv => ?_) (fun s₁ hp h' hk => ?_)
  · obtain ⟨al1, _, c, rfl, hc⟩ := hv
    intro hsz
    by_cases hcs : c = stop
    · rw [if_pos hcs] at hc
      subst hcs
      refine hs _ (alive_set al1 hb) ?_
      intro h' g' d' t' kp hg
      exact hc h' g' d' t' kp hg
    · rw [if_neg hcs] at hc
      have ec : c = !stop := by cases c <;> cases stop <;> simp_all
      subst ec
      cases n with
      | zero => exact False.elim (hc (s₁.setGen g .running) rfl rfl (bare_set al1.1 rfl))
      | succ m =>
        refine hy _ m rfl ⟨alive_set al1 hb, gs', ?_, fun s'' e1 e2 e3 => hc s'' e1 e2 e3⟩
        have hsz : g + 1 ≤ (s₁.setGen g gs').gens.size := hsz
        rw [GenW.setGen_size] at hsz
        have hl : g < s₁.gens.size := hsz
        simp [Shared.setGen, hl]
  · obtain ⟨al1, hq⟩ := hp
    intro _
    refine he _ (bare_set (x := .finished) (g := g) al1.1 rfl) ?_
    intro h'' g' d' t' kp hg
    exact hq h'' g' d' t' (fun b o e => kp b o (hk b o e)) hg

theorem loop_all {R : Result → Shared → Prop} (hh : A.handled = none) (hroom : A.depth < recursionLimit) (hR : ∀ b s', AllBare s'.gens → Aft X pins σ (Q (.bl b)) s' → R (.ok (.ret (.bool b))) s') :
    ∀ (n : Nat) (s : Shared), Ready prog w A.in1 X pins σ false Q a g n s → codeAny (model prog w) A (.builtin "all.loop" ⟨[.ref a], []⟩) R s := by
  intro n
  induction n with
  | zero =>
    intro s h
    refine codeAny_builtin F.entry_all_loop ?_
    rw [Around.under_plainId F.plain_all_loop _]
    show wpAny _ A.in1 (pyNext (.ref a) >>= _) _ _ s
    refine wpAny_bind (next_ready hh hroom h (fun s' al q => ?_) (fun s' m e r => absurd e.symm (Nat.succ_ne_zero _)) fun s' hb q => ?_)
    · refine wpAny_bind (wpAny_holding (wpAny_truthy_bool ?_))
      refine wpAny_bind (wpAny_letGo ?_)
      simp only [Bool.false_eq_true, if_false]
      exact wpAny_bind (wpAny_rule (wpAny_pure (hR false s' al.1 q)))
    · exact wpAny_bind (wpAny_rule (wpAny_pure (hR true s' hb q)))
  | succ n ih =>
    intro s h
    refine codeAny_builtin F.entry_all_loop ?_
    rw [Around.under_plainId F.plain_all_loop _]
    show wpAny _ A.in1 (pyNext (.ref a) >>= _) _ _ s
    refine wpAny_bind (next_ready hh hroom h (fun s' al q => ?_) (fun s' m e r => ?_) fun s' hb q => ?_)
    · refine wpAny_bind (wpAny_holding (wpAny_truthy_bool ?_))
      refine wpAny_bind (wpAny_letGo ?_)
      simp only [Bool.false_eq_true, if_false]
      exact wpAny_bind (wpAny_rule (wpAny_pure (hR false s' al.1 q)))
    · cases e
      refine wpAny_bind (wpAny_holding (wpAny_truthy_bool ?_))
      refine wpAny_bind (wpAny_letGo ?_)
      simp only [Bool.not_false, if_true]
      exact wpAny_pure ⟨plainId_quiet F.plain_all_loop _, ih s' r⟩
    · exact wpAny_bind (wpAny_rule (wpAny_pure (hR true s' hb q)))
theorem loop_any {R : Result → Shared → Prop} (hh : A.handled = none) (hroom : A.depth < recursionLimit) (hR : ∀ b s', AllBare s'.gens → Aft X pins σ (Q (.bl b)) s' → R (.ok (.ret (.bool b))) s') :
    ∀ (n : Nat) (s : Shared), Ready prog w A.in1 X pins σ true Q a g n s → codeAny (model prog w) A (.builtin "any.loop" ⟨[.ref a], []⟩) R s := by
  intro n
  induction n with
  | zero =>
    intro s h
    refine codeAny_builtin F.entry_any_loop ?_
    rw [Around.under_plainId F.plain_any_loop _]
    show wpAny _ A.in1 (pyNext (.ref a) >>= _) _ _ s
    refine wpAny_bind (next_ready hh hroom h (fun s' al q => ?_) (fun s' m e r => absurd e.symm (Nat.succ_ne_zero _)) fun s' hb q => ?_)
    · refine wpAny_bind (wpAny_holding (wpAny_truthy_bool ?_))
      refine wpAny_bind (wpAny_letGo ?_)
      simp only [if_true]
      exact wpAny_bind (wpAny_rule (wpAny_pure (hR true s' al.1 q)))
    · exact wpAny_bind (wpAny_rule (wpAny_pure (hR false s' hb q)))
  | succ n ih =>
    intro s h
    refine codeAny_builtin F.entry_any_loop ?_
    rw [Around.under_plainId F.plain_any_loop _]
    show wpAny _ A.in1 (pyNext (.ref a) >>= _) _ _ s
    refine wpAny_bind (next_ready hh hroom h (fun s' al q => ?_) (fun s' m e r => ?_) fun s' hb q => ?_)
    · refine wpAny_bind (wpAny_holding (wpAny_truthy_bool ?_))
      refine wpAny_bind (wpAny_letGo ?_)
      simp only [if_true]
      exact wpAny_bind (wpAny_rule (wpAny_pure (hR true s' al.1 q)))
    · cases e
      refine wpAny_bind (wpAny_holding (wpAny_truthy_bool ?_))
      refine wpAny_bind (wpAny_letGo ?_)
      simp only [Bool.not_true, Bool.false_eq_true, if_false]
      exact wpAny_pure ⟨plainId_quiet F.plain_any_loop _, ih s' r⟩
    · exact wpAny_bind (wpAny_rule (wpAny_pure (hR false s' hb q)))
end
end Dl

set_option Elab.async false
set_option linter.all false
set_option maxRecDepth 100000
set_option maxHeartbeats 2000000
namespace Dl
open PySem PySem.Spec PyProof.Rows L2
open Sem (wp)

section
variable {prog : Program} {w : World} {A : Around}
theorem seg_start {R : GenEnd} {Y : Protocol} {elt tg iter : Expr} {ifs : List Expr} {scope : Scope} {pos : Pos} {it : Addr} {cenv : PySem.Env} {n : Nat} {s₀ s : Shared}
    (self : ∀ (A : Around) (Q : Value → Shared → Prop) (E : Value → Shared → Prop), Q (.ref it) s → wpAny (model prog w) A (pyIter (.ref it)) Q E s)
    (loop : Seg (model prog w) A R Y n s₀ (.compLoop (.GeneratorExp elt [⟨tg, iter, ifs, 0⟩] scope pos) 0 (.ref it) .none cenv) ((model prog w).den (.compLoop (.GeneratorExp elt [⟨tg, iter, ifs, 0⟩] scope pos) 0 (.ref it) .none cenv)) [] s) :
    Seg (model prog w) A R Y n s₀ (.compStart (.GeneratorExp elt [⟨tg, iter, ifs, 0⟩] scope pos) 0 (.ref it) .none cenv) ((model prog w).den (.compStart (.GeneratorExp elt [⟨tg, iter, ifs, 0⟩] scope pos) 0 (.ref it) .none cenv)) [] s := by
  show Seg _ A _ _ _ s₀ _ ((compStart (.GeneratorExp elt [⟨tg, iter, ifs, 0⟩] scope pos) 0 (.ref it) .none cenv).onRaise (leaving cenv)) [] s
  unfold compStart
  rw [Sem.onRaise_eq_wrap]
  show Seg _ A _ _ _ s₀ _ ((ask >>= _).wrap _ _ _ _) [] s
  refine seg_bind_wrap (wpAny_askSetting ?_)
  split
  · exact seg_again rfl loop
  · refine seg_bind_wrap (wpAny_rule ?_)
    show Seg _ A _ _ _ s₀ _ ((standAt iter.pos >>= _).wrap _ _ _ _) [] s
    exact seg_bind_wrap (wpAny_standAt (seg_bind_wrap (self _ _ _ (seg_again rfl loop))))
theorem over_gen {elt tg iter : Expr} {ifs : List Expr} {scope : Scope} {pos : Pos} {it : Value} {cenv : PySem.Env} {k : Nat} {st : List PySem.Env} (hr : Room (k + 1) A) (hf : A.frames = some st) :
    Room k (A.in1.in1.over (.compLoop (.GeneratorExp elt [⟨tg, iter, ifs, 0⟩] scope pos) 0 it .none cenv) []) ∧ (A.in1.in1.over (.compLoop (.GeneratorExp elt [⟨tg, iter, ifs, 0⟩] scope pos) 0 it .none cenv) []).frames = some (cenv :: st) := by
  refine ⟨⟨hr.hd, ?_, ?_⟩, ?_⟩
  · have := hr.dp
    show A.depth + 0 + 1 + 3 * k + 5 < _
    omega
  · have := hr.un
    show A.units + 1 + 1 + 0 + 3 + 16 * k + 200 < _
    omega
  · show pushEnvs [cenv] (pushEnvs [] A.frames) = _
    rw [hf]; rfl
end
section
variable {X : Cx} {pins : List (Addr × Obj)} {σ : L2.St} {H : Hp} {s : Shared}
theorem among_off {pos p' : Pos} {c cv : Value} {ps : Array Value} (l : List Value) (h : TriplesOk l) (hp : pk p' ≠ pk pos) (hc : codeAmong p' (ps ++ #[rawInt pos.line, rawInt pos.col, c]).toList = some cv) (e : ps.toList = l := by rfl) : codeAmong p' l = some cv := by
  rw [Array.toList_append, e] at hc
  rcases NdefX.among_app2 l h hc with z | ⟨_, z1, z2⟩
  · exact z
  · exact absurd (by show (p'.line, p'.col) = (pos.line, pos.col); rw [z1, z2]) hp
theorem gen_make {Q : VK} {stop : Bool} {elt tg iter : Expr} {ifs : List Expr} {scope : Scope} (own : List (Str × Nat)) {gpos : Pos} {wi : TI} {g : TG} {tt : TT} {te : TE} {c P : Addr} {k : Nat} {Q' : Value → Shared → Prop}
    (hr : Room (k + 1) X.A) (TB : GxR.TabB X.base X.mg c P) (hcode : X.env.code = .ref c) (hc : X.calm = true) (hN : X.N.Nodup) (ok : GnOk X.N X.env.scope scope own) (hi : PI X tg iter wi)
    (hpg : ∀ (A' : Around) (s : Shared) (H : Hp) (C : Addr) (cl : List (Str × Addr)) (code : Value) (fp : List Addr) (pn : List (Addr × Obj)), PG (CxG X A' s H (genEnv scope cl C code builtinsNs X.env) fp pn) tg g)
    (hpt : ∀ (A' : Around) (s : Shared) (H : Hp) (C : Addr) (cl : List (Str × Addr)) (code : Value) (fp : List Addr) (pn : List (Addr × Obj)), Room k A' → PTs (CxG X A' s H (genEnv scope cl C code builtinsNs X.env) fp pn) ifs tt)
    (hpe : ∀ (A' : Around) (s : Shared) (H : Hp) (C : Addr) (cl : List (Str × Addr)) (code : Value) (fp : List Addr) (pn : List (Addr × Obj)), Room k A' → PE (CxG X A' s H (genEnv scope cl C code builtinsNs X.env) fp pn) elt te)
    (hs : ∀ v, genFold iter X.env v = pure v) (I : Inv X pins σ H s) (h : tGen P gpos stop wi g tt te (own.map (·.2)) σ H Q)
    (hQ : ∀ a g n s5, Ready X.prog X.w X.A.in1 X pins σ stop Q a g n s5 → Q' (.ref a) s5) :
    wpAny (model X.prog X.w) X.A (eval (.GeneratorExp elt [⟨tg, iter, ifs, 0⟩] scope gpos) X.env) Q' X.xe s := by
  have hfree : ∀ y ∈ scope.names, y.2 = .free → ∃ c, X.env.cells.lookup y.1 = some c := fun y hy e => by
    rcases ok.blk.free y hy e with k | k
    · exact I.ok.has _ (.inl k)
    · exact I.ok.has _ (.inr k)
  refine gexp_make ok.co (closure_ok hfree) ok.dot ok.blk.kind (by have := hr.dp; omega) (thn (hi.run pins s σ H _ I h) fun xv s1 h1 => thn h1 fun itv s2 h2 => ?_) hs
  obtain ⟨it, fp, tn, J, H2, e, I2, T, st2, f2, ⟨ps, hP, ht⟩, q⟩ := h2
  subst e
  have hPs : s2.heap.get? P = some { cls := .none, data := .fields ps } := I2.hok P _ hP
  have cd : PySem.W.CodeHd s2.heap c P := TB.code.keeps fun b u e => I2.bk b u e
  have lim2 := I2.nolimit
  have nP : ∀ b ∈ fp, b ≠ P := fun b hb z => by
    have := (f2 b hb).1
    rw [z, hP] at this; cases this
  have sz2 : ∀ b ∈ fp, b < s2.heap.objs.size := fun b hb => by
    obtain ⟨o, e, _⟩ := T.obj _ _ st2 b hb
    exact Heap.lt_size e
  refine ⟨lim2, ?_⟩
  have cont : ∀ (code : Value) (h3 : Heap) (tk : Nat) (ps' : Array Value), Heap.ExtBut P s2.heap h3 → s2.heap.objs.size ≤ h3.objs.size → h3.get? P = some { cls := .none, data := .fields ps' } → (∃ more, ps' = ps ++ more) → TriplesOk ps'.toList → (∀ p cv, pk p ≠ pk gpos → codeAmong p ps'.toList = some cv → codeAmong p ps.toList = some cv) →
      wpAny (model X.prog X.w) X.A (builtinsFor X.env.globals X.env.builtins) (fun bi s₄ =>
        ∀ h', h'.Ns s₄.heap.objs.size (fun y => if y = ".0" then some (.ref it) else none) → Heap.SameBut s₄.heap.objs.size (pushCells (s₄.heap.push { cls := .type "frame", data := .dict #[] }) scope.names) h' →
          Q' (.ref h'.objs.size) { s₄ with
            gens := s₄.gens.push (.fresh (.compStart (.GeneratorExp elt [⟨tg, iter, ifs, 0⟩] scope gpos) 0 (.ref it) .none (genEnv scope (cellsFrom (s₄.heap.objs.size + 1) scope.names (cloFrom X.env.cells scope.names [])) s₄.heap.objs.size code bi X.env))),
            toks := s₄.toks + 1 + 1 + 1,
            heap := h'.push { cls := .type "generator", data := .fields #[.int s₄.gens.size 0, .str "<genexpr>" (s₄.toks + 1), .str (X.env.qual ++ "<genexpr>") (s₄.toks + 1 + 1)] } }) X.xe { s2 with heap := h3, toks := tk } := by
    intro code h3 tk ps' hx hsz hP3 ⟨more, em⟩ ht3 hpk
    obtain ⟨bm, ob, e1, e2, e3, e4, e5, e6, e7, e8⟩ := TB.bm
    refine wpAny_builtinsFor (m := X.mg) (by rw [I2.ok.glob]; exact (I2.mod.glob.keeps I2.bk).extBut hx TB.gP) e1 e2 (hx _ _ e4 (I2.bk _ _ e5)) e6 e7 e8 ?_
    have I4 : Inv X pins σ (upd H2 P (.tbl (ps ++ more))) { s2 with heap := h3, toks := tk } :=
      GxR.inv_tab (g' := s2.gens) (d' := s2.drawn) (t' := tk) I2 hP (fun b o hb e => hx b o hb e) (by rw [← em]; exact hP3) I2.bare
    generalize hs4 : ({ s2 with heap := h3, toks := tk } : Shared) = s4 at I4 ⊢
    have h4 : s4.heap = h3 := by rw [← hs4]
    have st4 : tn 0 s4.heap := T.keep _ _ _ st2 fun b hb o e => by rw [h4]; exact hx b o (nP b hb) e
    have f4 : ∀ b ∈ fp, FpOk X pins (upd H2 P (.tbl (ps ++ more))) b ∧ b < s4.heap.objs.size := fun b hb =>
      ⟨⟨by rw [upd_ne (nP b hb)]; exact (f2 b hb).1, (f2 b hb).2⟩, by rw [h4]; exact Nat.lt_of_lt_of_le (sz2 b hb) hsz⟩
    intro h' hn' hs'
    have hsz5 : s4.heap.objs.size + 1 ≤ h'.objs.size := by rw [hs'.1]; have := pushCells_size scope.names (s4.heap.push { cls := .type "frame", data := .dict #[] }); rw [Heap.size_push] at this; exact this
    have hlt : s4.heap.objs.size < h'.objs.size := by omega
    have kp' : ∀ b o, s4.heap.get? b = some o → h'.get? b = some o := fun b o e => hs'.extBut b o (Nat.ne_of_lt (Heap.lt_size e)) (pushCells_keeps _ _ _ _ (Heap.get?_push_of_some _ e))
    generalize hgo : ({ cls := .type "generator", data := .fields #[.int s4.gens.size 0, .str "<genexpr>" (s4.toks + 1), .str (X.env.qual ++ "<genexpr>") (s4.toks + 1 + 1)] } : Obj) = go
    have kp5 : ∀ b o, s4.heap.get? b = some o → (h'.push go).get? b = some o := fun b o e => Heap.get?_push_of_some _ (kp' b o e)
    have hgen : ∀ h : Heap, h.get? h'.objs.size = some go → h.IsGen h'.objs.size s4.gens.size := fun h e => ⟨_, _, _, e, by rw [← hgo], by rw [← hgo], by rw [← hgo]⟩
    have hat : (h'.push go).get? h'.objs.size = some go := by
      rw [← hgo]; exact Heap.get?_push_size _ rfl
    have bare5 : AllBare (s4.gens.push (.fresh (.compStart (.GeneratorExp elt [⟨tg, iter, ifs, 0⟩] scope gpos) 0 (.ref it) .none (genEnv scope (cellsFrom (s4.heap.objs.size + 1) scope.names (cloFrom X.env.cells scope.names [])) s4.heap.objs.size code builtinsNs X.env)))) := I4.bare.push rfl
    obtain ⟨W, ⟨m0, w0⟩, turn⟩ := q (upd H2 P (.tbl (ps ++ more))) ⟨⟨ps, ps ++ more, hP, upd_same, by rw [← em]; exact ht3, by rw [← em]; exact hpk⟩, fun b hb => upd_ne hb⟩
    refine hQ h'.objs.size s4.gens.size (m0 + 1) _ ⟨⟨bare5, hgen _ hat, I4.nolimit.keeps kp5⟩, _, Array.getElem?_push_size .., fun s'' e1 e2 e3 => ⟨rfl, ?_⟩⟩
    obtain ⟨hr', hf'⟩ := over_gen (A := X.A) (elt := elt) (tg := tg) (iter := iter) (ifs := ifs) (scope := scope) (pos := gpos) (it := .ref it) (cenv := genEnv scope (cellsFrom (s4.heap.objs.size + 1) scope.names (cloFrom X.env.cells scope.names [])) s4.heap.objs.size code builtinsNs X.env) hr I4.ok.frames
    have I5 := gen_start (A' := X.A.in1.in1.over (.compLoop (.GeneratorExp elt [⟨tg, iter, ifs, 0⟩] scope gpos) 0 (.ref it) .none (genEnv scope (cellsFrom (s4.heap.objs.size + 1) scope.names (cloFrom X.env.cells scope.names [])) s4.heap.objs.size code builtinsNs X.env)) []) (t' := s4.toks + 1 + 1 + 1) I4 ok hN f4 hr'.hd hf' (hn'.push _) kp5 (fun b o hb e => Heap.get?_push_of_some _ (hs'.extBut b o (Nat.ne_of_gt hb) e)) bare5 hlt hat (by intro v z; rw [← hgo] at z; cases z)
    have e1 : s''.heap = h'.push go := e1
    have e2 : s''.os = s4.os := e2
    have I6 := I5.call' (ch := []) (s' := s'') e2 (by rw [e1]; exact Un.refl) (by rw [e1]; exact I5.hok) e3 fun b hb => absurd hb (by simp)
    have st6 : tn 0 s''.heap := T.keep _ _ _ st4 fun b _ o e => by rw [e1]; exact kp5 b o e
    refine seg_start (A := X.A.in1.in1) (fun A Q E hq => T.self A 0 s'' Q E st6 hq) ?_
    exact gen_loop (A := X.A.in1.in1) (vs := own.map (·.2)) hc (fun hb => Nat.lt_irrefl _ (Nat.lt_trans (f4 _ hb).2 hlt)) (by show (genEnv scope _ _ _ _ _).scope.isCoroutine = false; exact ok.co) T (fun b hb => (f4 b hb).1) I4 hgen (hpg _ _ _ _ _ _ _ _) (hpt _ _ _ _ _ _ _ _ hr') (hpe _ _ _ _ _ _ _ _ hr') turn
      m0 0 _ s'' s'' (m0 + 1) e2 (Nat.lt_succ_self _) I6 st6 (fun b hb => (f4 b hb).1.1) w0
  cases hf : codeAmong gpos ps.toList with
  | none =>
    refine wpAny_genexprCodeX hcode (cd.code hPs ht) (cd.tab hPs) hf fun c' h' tk hx hge hlt hco' _ htab' _ => ?_
    obtain ⟨o1, vs, f1, tf, fl, tg, inF, tx, tt, op, _, _, _, _, _, _, _, _, _, htr, _⟩ := hco'
    exact cont _ h' tk _ hx (Nat.le_trans hge (Nat.le_of_lt hlt)) htab'.2 ⟨_, rfl⟩ htr fun p cv hp hcv => among_off _ ht hp hcv
  | some cv =>
    refine wpAny_genexprCode_hit hcode (cd.code hPs ht) hf ?_
    exact cont cv s2.heap s2.toks ps (Heap.ExtBut.refl _ _) (Nat.le_refl _) hPs ⟨#[], by simp⟩ ht fun _ _ _ h => h

theorem pe_allG {elt tg iter : Expr} {ifs : List Expr} {scope : Scope} (own : List (Str × Nat)) {p pos gpos : Pos} {wi : TI} {g : TG} {tt : TT} {te : TE} {c P : Addr} {k : Nat}
    (hr : Room (k + 1) X.A) (hg : Gl X "all") (hm : X.mg "all" = none) (hb : bootBuiltins "all" = some (.builtin "all")) (TB : GxR.TabB X.base X.mg c P) (hcode : X.env.code = .ref c) (hc : X.calm = true) (hN : X.N.Nodup) (ok : GnOk X.N X.env.scope scope own) (hi : PI X tg iter wi)
    (hpg : ∀ (A' : Around) (s : Shared) (H : Hp) (C : Addr) (cl : List (Str × Addr)) (code : Value) (fp : List Addr) (pn : List (Addr × Obj)), PG (CxG X A' s H (genEnv scope cl C code builtinsNs X.env) fp pn) tg g)
    (hpt : ∀ (A' : Around) (s : Shared) (H : Hp) (C : Addr) (cl : List (Str × Addr)) (code : Value) (fp : List Addr) (pn : List (Addr × Obj)), Room k A' → PTs (CxG X A' s H (genEnv scope cl C code builtinsNs X.env) fp pn) ifs tt)
    (hpe : ∀ (A' : Around) (s : Shared) (H : Hp) (C : Addr) (cl : List (Str × Addr)) (code : Value) (fp : List Addr) (pn : List (Addr × Obj)), Room k A' → PE (CxG X A' s H (genEnv scope cl C code builtinsNs X.env) fp pn) elt te)
    (hs : ∀ v, genFold iter X.env v = pure v)
    (he : starEach [.GeneratorExp elt [⟨tg, iter, ifs, 0⟩] scope gpos] X.env = (false, eval (.GeneratorExp elt [⟨tg, iter, ifs, 0⟩] scope gpos) X.env) :: starEach [] X.env := by rfl) :
    PE X (.Call (.Name "all" p) [.GeneratorExp elt [⟨tg, iter, ifs, 0⟩] scope gpos] [] pos) (tGen P gpos false wi g tt te (own.map (·.2))) := by
  refine ⟨fun pins s σ H Q I h => ?_⟩
  refine wpAny_Call_Name_kw (ld_blt I hg hm hb ?_)
  refine PyProof.Rows.callWith_builtin1 ?_ he (by rfl)
  rw [he]
  show wpAny _ _ (spliced ((false, eval (.GeneratorExp elt [⟨tg, iter, ifs, 0⟩] scope gpos) X.env) :: backTo pos (starEach [] X.env))) _ _ s
  refine Calls.spliced_cons (gen_make own hr TB hcode hc hN ok hi hpg hpt hpe hs I h fun a g n s5 hR => ?_)
  refine Calls.spliced_nil ?_
  refine call_function_tree F.kind_all F.plain_all F.entry_all (F.args_all1 _) ?_
  unfold Builtin.«all»
  refine wpAny_bind (m := oneArg "all" _) (wpAny_pure ?_)
  refine wpAny_bind (wpAny_pyIter_gen hR.1.2.1 ?_)
  refine wpAny_pure ⟨plainId_quiet F.plain_all_loop _, loop_all (A := X.A) hr.hd (by have := hr.dp; omega) (fun b s' bb q => ?_) n s5 hR⟩
  obtain ⟨H', J, hq⟩ := q s'.heap s'.gens s'.drawn s'.toks (fun _ _ e => e) bb
  exact ⟨.bl b, H', J, rfl, hq⟩
theorem pe_anyG {elt tg iter : Expr} {ifs : List Expr} {scope : Scope} (own : List (Str × Nat)) {p pos gpos : Pos} {wi : TI} {g : TG} {tt : TT} {te : TE} {c P : Addr} {k : Nat}
    (hr : Room (k + 1) X.A) (hg : Gl X "any") (hm : X.mg "any" = none) (TB : GxR.TabB X.base X.mg c P) (hcode : X.env.code = .ref c) (hc : X.calm = true) (hN : X.N.Nodup) (ok : GnOk X.N X.env.scope scope own) (hi : PI X tg iter wi)
    (hpg : ∀ (A' : Around) (s : Shared) (H : Hp) (C : Addr) (cl : List (Str × Addr)) (code : Value) (fp : List Addr) (pn : List (Addr × Obj)), PG (CxG X A' s H (genEnv scope cl C code builtinsNs X.env) fp pn) tg g)
    (hpt : ∀ (A' : Around) (s : Shared) (H : Hp) (C : Addr) (cl : List (Str × Addr)) (code : Value) (fp : List Addr) (pn : List (Addr × Obj)), Room k A' → PTs (CxG X A' s H (genEnv scope cl C code builtinsNs X.env) fp pn) ifs tt)
    (hpe : ∀ (A' : Around) (s : Shared) (H : Hp) (C : Addr) (cl : List (Str × Addr)) (code : Value) (fp : List Addr) (pn : List (Addr × Obj)), Room k A' → PE (CxG X A' s H (genEnv scope cl C code builtinsNs X.env) fp pn) elt te)
    (hs : ∀ v, genFold iter X.env v = pure v)
    (he : starEach [.GeneratorExp elt [⟨tg, iter, ifs, 0⟩] scope gpos] X.env = (false, eval (.GeneratorExp elt [⟨tg, iter, ifs, 0⟩] scope gpos) X.env) :: starEach [] X.env := by rfl) :
    PE X (.Call (.Name "any" p) [.GeneratorExp elt [⟨tg, iter, ifs, 0⟩] scope gpos] [] pos) (tGen P gpos true wi g tt te (own.map (·.2))) := by
  refine ⟨fun pins s σ H Q I h => ?_⟩
  refine wpAny_Call_Name_kw (ld_blt I hg hm boot_any ?_)
  refine PyProof.Rows.callWith_builtin1 ?_ he (by rfl)
  rw [he]
  show wpAny _ _ (spliced ((false, eval (.GeneratorExp elt [⟨tg, iter, ifs, 0⟩] scope gpos) X.env) :: backTo pos (starEach [] X.env))) _ _ s
  refine Calls.spliced_cons (gen_make own hr TB hcode hc hN ok hi hpg hpt hpe hs I h fun a g n s5 hR => ?_)
  refine Calls.spliced_nil ?_
  refine call_function_tree F.kind_any F.plain_any F.entry_any (F.args_any1 _) ?_
  unfold Builtin.«any»
  refine wpAny_bind (m := oneArg "any" _) (wpAny_pure ?_)
  refine wpAny_bind (wpAny_pyIter_gen hR.1.2.1 ?_)
  refine wpAny_pure ⟨plainId_quiet F.plain_any_loop _, loop_any (A := X.A) hr.hd (by have := hr.dp; omega) (fun b s' bb q => ?_) n s5 hR⟩
  obtain ⟨H', J, hq⟩ := q s'.heap s'.gens s'.drawn s'.toks (fun _ _ e => e) bb
  exact ⟨.bl b, H', J, rfl, hq⟩
end
end Dl

set_option Elab.async false
set_option linter.all false
set_option maxRecDepth 100000
set_option maxHeartbeats 2000000
/-! any, all of a generator expression, over data. -/
namespace Dl
open PySem PySem.Spec PyProof.Rows L2

def genF (stop : Bool) (t : Tg) (c : Tv) (f : Ev) (δ : Env) : List D → R D
  | [] => .ok (.bl (!stop))
  | d :: ds => match t.put d δ with
    | none => .bad
    | some δ1 => match c δ1 with
      | .ok true => match f δ1 with
        | .ok (.bl b) => if b = stop then .ok (.bl stop) else genF stop t c f δ ds
        | _ => .bad
      | .ok false => genF stop t c f δ ds
      | _ => .bad
def eGen (stop : Bool) (vs : List Nat) (t : Tg) (it : Env → R (List D)) (c : Tv) (f : Ev) : Ev := fun δ => it δ >>= fun ds => genF stop t c f (wipeE δ vs) ds
section
variable {X : Cx} {M : Mo} {W : WX} {pos : Pos}
theorem PX.tr {α : Type} {σ : L2.St} {G H G1 H1 : Hp} {r : R α} {k : Hp → Hp → α → Prop} (h : PX M W σ G H r k) (t : Tr M.tp G H G1 H1) : PX M W σ G1 H1 r k := by
  cases r with
  | ok a => exact fun G' H' t' => h G' H' (t.trans t')
  | exc c => exact fun G' H' t' => h G' H' (t.trans t')
  | bad => exact h
theorem gen_data {stop : Bool} {vs : List Nat} {t : Tg} {it : Env → R (List D)} {c : Tv} {f : Ev} {P : Addr} {gpos : Pos} (hP : M.tp.gen P (pk gpos)) (hat : ∀ i ∈ t.at, i ∈ vs) {σ : L2.St} {H : Hp} {Q : VK} (q : tE (kwX X) M W (eGen stop vs t it c f) σ H Q) :
    tGen P gpos stop (tI (kwX X) M W it) (tG (kwX X) M t) (tT (kwX X) M W0 c) (tE (kwX X) M W0 f) vs σ H Q := by
  obtain ⟨Fo, G, δ, er, q⟩ := q
  refine ⟨Fo, G, δ, er, PX.mono (PX.bind q) fun G1 H1 ds t1 q1 J wk => ?_⟩
  have er1 := er.tr t1
  refine ⟨(er1.tb P (.inl ⟨_, hP⟩)).1.tab, fun H2 tt => ?_⟩
  have t2 : Tr M.tp G1 H1 G1 H2 := tabbed_tr er1.gh er1.tb hP tt
  -- what is left
  refine ⟨fun i m H => m = ds.length - i ∧ i ≤ ds.length ∧ ∃ G2, Tr M.tp G1 H1 G2 H ∧ PX M W σ G2 H (genF stop t c f (wipeE δ vs) (ds.drop i)) fun G' H' d => ∀ v, Rep (kwX X) G' d v → Q v H', ⟨ds.length, by simp, Nat.zero_le _, G1, t2, ?_⟩, ?_⟩
  · refine PX.tr ?_ t2
    exact q1
  rintro i m H ⟨rfl, hle, G2, t2, q2⟩
  have l2 : Le G2 H := t2.2.1
  obtain ⟨w1, w2⟩ := wk i G2 H t2.1 l2
  by_cases hlt : i < ds.length
  · rw [List.drop_eq_getElem_cons hlt] at q2
    obtain ⟨go, yl⟩ := w2 ds[i] (List.getElem?_eq_getElem hlt)
    refine .inr ⟨go, fun H => ∃ G2, Tr M.tp G1 H1 G2 H ∧ PX M W σ G2 H (genF stop t c f (wipeE δ vs) (ds.drop (i + 1))) fun G' H' d => ∀ v, Rep (kwX X) G' d v → Q v H', fun H' z => ⟨ds.length - (i + 1), by omega, rfl, hlt, z⟩, fun x H3 y => ?_⟩
    obtain ⟨G3, t3, rx⟩ := yl x H3 y
    have t13 := t2.trans t3
    unfold genF at q2
    cases zp : t.put ds[i] (wipeE δ vs) with
    | none => simp only [zp] at q2; exact False.elim q2
    | some δ1 =>
      simp only [zp] at q2
      have er3 : ER (kwX X) M.tp Fo G3 H3 (wipeE δ vs) (L2.wipe σ vs) := (er1.tr t13).wipe vs
      refine ⟨Fo, G3, wipeE δ vs, ds[i], δ1, er3, rx, zp, fun σ' er' bt => ⟨wipe_but hat bt, ?_⟩⟩
      refine ⟨Fo, G3, δ1, er', ?_⟩
      cases zc : c δ1 with
      | bad => simp only [zc] at q2; exact False.elim q2
      | exc _ => simp only [zc] at q2; exact False.elim q2
      | ok b =>
        intro G4 H4 t4
        cases b with
        | false =>
          simp only [zc] at q2
          exact ⟨G4, t13.trans t4, PX.tr q2 (t3.trans t4)⟩
        | true =>
          simp only [zc] at q2
          refine ⟨Fo, G4, δ1, er'.tr t4, ?_⟩
          cases zf : f δ1 with
          | bad => simp only [zf] at q2; exact False.elim q2
          | exc _ => simp only [zf] at q2; exact False.elim q2
          | ok y =>
            intro G5 H5 t5 v rv
            simp only [zf] at q2
            have t35 := (t3.trans t4).trans t5
            cases y with
            | bl b =>
              refine ⟨b, rv, ?_⟩
              have q2 : PX M W σ G2 H (if b = stop then .ok (.bl stop) else genF stop t c f (wipeE δ vs) (ds.drop (i + 1))) fun G' H' d => ∀ v, Rep (kwX X) G' d v → Q v H' := q2
              by_cases hb : b = stop
              · rw [if_pos hb] at q2 ⊢
                exact q2 G5 H5 t35 _ rfl
              · rw [if_neg hb] at q2 ⊢
                exact ⟨G5, t2.trans t35, PX.tr q2 t35⟩
            | _ => exact False.elim q2
  · have e : ds.drop i = [] := List.drop_eq_nil_of_le (by omega)
    rw [e] at q2
    exact .inl ⟨w1 (by omega), q2 G2 H (.refl l2) _ rfl⟩
theorem de_allG {c P : Addr} {elt tg iter : Expr} {ifs : List Expr} {scope : Scope} {p gpos : Pos} {k : Nat} {t : Tg} {it : Env → R (List D)} {ct : Tv} {f : Ev} (own : List (Str × Nat))
    (hr : Room (k + 1) X.A) (hg : Gl X "all") (hm : X.mg "all" = none) (hb : bootBuiltins "all" = some (.builtin "all")) (TB : GxR.TabB X.base X.mg c P) (hP : M.tp.gen P (pk gpos)) (hcode : X.env.code = .ref c) (hc : X.calm = true) (hN : X.N.Nodup) (ok : GnOk X.N X.env.scope scope own) (hat : ∀ i ∈ t.at, i ∈ own.map (·.2))
    (hi : PI X tg iter (tI (kwX X) M W it))
    (hpg : ∀ (A' : Around) (s : Shared) (H : Hp) (C : Addr) (cl : List (Str × Addr)) (code : Value) (fp : List Addr) (pn : List (Addr × Obj)), PG (CxG X A' s H (genEnv scope cl C code builtinsNs X.env) fp pn) tg (tG (kwX X) M t))
    (hpt : ∀ (A' : Around) (s : Shared) (H : Hp) (C : Addr) (cl : List (Str × Addr)) (code : Value) (fp : List Addr) (pn : List (Addr × Obj)), Room k A' → PTs (CxG X A' s H (genEnv scope cl C code builtinsNs X.env) fp pn) ifs (tT (kwX X) M W0 ct))
    (hpe : ∀ (A' : Around) (s : Shared) (H : Hp) (C : Addr) (cl : List (Str × Addr)) (code : Value) (fp : List Addr) (pn : List (Addr × Obj)), Room k A' → PE (CxG X A' s H (genEnv scope cl C code builtinsNs X.env) fp pn) elt (tE (kwX X) M W0 f))
    (hs : ∀ v, genFold iter X.env v = pure v := by intro _; rfl)
    (he : starEach [.GeneratorExp elt [⟨tg, iter, ifs, 0⟩] scope gpos] X.env = (false, eval (.GeneratorExp elt [⟨tg, iter, ifs, 0⟩] scope gpos) X.env) :: starEach [] X.env := by rfl) :
    PE X (.Call (.Name "all" p) [.GeneratorExp elt [⟨tg, iter, ifs, 0⟩] scope gpos] [] pos) (tE (kwX X) M W (eGen false (own.map (·.2)) t it ct f)) :=
  PE.imp (pe_allG own hr hg hm hb TB hcode hc hN ok hi hpg hpt hpe hs he) fun _ _ _ q => gen_data hP hat q
theorem de_anyG {c P : Addr} {elt tg iter : Expr} {ifs : List Expr} {scope : Scope} {p gpos : Pos} {k : Nat} {t : Tg} {it : Env → R (List D)} {ct : Tv} {f : Ev} (own : List (Str × Nat))
    (hr : Room (k + 1) X.A) (hg : Gl X "any") (hm : X.mg "any" = none) (TB : GxR.TabB X.base X.mg c P) (hP : M.tp.gen P (pk gpos)) (hcode : X.env.code = .ref c) (hc : X.calm = true) (hN : X.N.Nodup) (ok : GnOk X.N X.env.scope scope own) (hat : ∀ i ∈ t.at, i ∈ own.map (·.2))
    (hi : PI X tg iter (tI (kwX X) M W it))
    (hpg : ∀ (A' : Around) (s : Shared) (H : Hp) (C : Addr) (cl : List (Str × Addr)) (code : Value) (fp : List Addr) (pn : List (Addr × Obj)), PG (CxG X A' s H (genEnv scope cl C code builtinsNs X.env) fp pn) tg (tG (kwX X) M t))
    (hpt : ∀ (A' : Around) (s : Shared) (H : Hp) (C : Addr) (cl : List (Str × Addr)) (code : Value) (fp : List Addr) (pn : List (Addr × Obj)), Room k A' → PTs (CxG X A' s H (genEnv scope cl C code builtinsNs X.env) fp pn) ifs (tT (kwX X) M W0 ct))
    (hpe : ∀ (A' : Around) (s : Shared) (H : Hp) (C : Addr) (cl : List (Str × Addr)) (code : Value) (fp : List Addr) (pn : List (Addr × Obj)), Room k A' → PE (CxG X A' s H (genEnv scope cl C code builtinsNs X.env) fp pn) elt (tE (kwX X) M W0 f))
    (hs : ∀ v, genFold iter X.env v = pure v := by intro _; rfl)
    (he : starEach [.GeneratorExp elt [⟨tg, iter, ifs, 0⟩] scope gpos] X.env = (false, eval (.GeneratorExp elt [⟨tg, iter, ifs, 0⟩] scope gpos) X.env) :: starEach [] X.env := by rfl) :
    PE X (.Call (.Name "any" p) [.GeneratorExp elt [⟨tg, iter, ifs, 0⟩] scope gpos] [] pos) (tE (kwX X) M W (eGen true (own.map (·.2)) t it ct f)) :=
  PE.imp (pe_anyG own hr hg hm TB hcode hc hN ok hi hpg hpt hpe hs he) fun _ _ _ q => gen_data hP hat q
end
end Dl

set_option Elab.async false
set_option linter.all false
set_option maxRecDepth 100000
set_option maxHeartbeats 2000000
/-! Defs by names; facts of the module; replace. -/
namespace Dl
open PySem PySem.Spec PyProof.Rows L2

/-! ### defs -/
section
variable {P : Program} {w : World} {K : PySem.W.Frag} {mg : Str → Option Value} {base : Heap} {M : Mo}
/-- the def x keeps its promise at the level k: n arguments, the answer m -/
def Can (P : Program) (w : World) (K : PySem.W.Frag) (mg : Str → Option Value) (base : Heap) (M : Mo) (k : Nat) (x : Str) (n : Nat) (m : List D → R D) : Prop :=
  ∃ (fd : FuncData) (ps : List Str), FnOk P w K mg base (L2.CX P w) k (He.ga K x) fd ps (spD ⟨K, P, w⟩ M n m) ∧ Binds K fd ps [] ∧ PySem.W.keepIn K (.ref (He.ga K x)) = true ∧ mg x = some (.ref (He.ga K x))
theorem fn_of_data {x : Str} {st : Stmt} {fd : FuncData} {N ps : List Str} {k : Nat} {B : Sv} {kws : List (Str × V)} (F : FunD K x x (defArgs st) (defBody st) (defScope st) [] kws (He.fAd K (x, none)) fd) (S : FnScope N ps (defScope st))
    (hb : ∀ (A : Around) (outer : List PySem.Env) (s : Shared) (H : Hp) (E : XK), Room k (A.deeper (envOfC x (defScope st) s.heap.objs.size (He.fAd K (x, none)) (.ref (He.codeOf K (x, none))))) →
      PSs (cxOf (L2.CX P w) P w K mg base N x (defScope st) (He.fAd K (x, none)) (.ref (He.codeOf K (x, none))) A outer s H E) (defBody st) (tS ⟨K, P, w⟩ M (fun cls d _ H => E cls d H) B)) :
    FnOk P w K mg base (L2.CX P w) (k + 1) (He.fAd K (x, none)) fd ps (spD ⟨K, P, w⟩ M ps.length (runF N.length B)) := by
  obtain ⟨oc, od, dV, kV, doc, pm, an, cdv, ct, osl, rfl, lk, hcd, _, _⟩ := F.ex
  obtain ⟨c, rfl⟩ := He.codeIn_ref hcd
  have ec := He.codeOf_eq lk (c := c) rfl
  rw [ec] at hb
  refine fn_of lk hcd S (fun vs H Q E ⟨G, ds, l, tb, r, hl, _⟩ => by rw [r.length, hl]) fun A outer s H vs Q E hr ⟨G, ds, l, tb, r, hl, q⟩ => ?_
  refine ⟨_, hb A outer s H E hr, ?_⟩
  obtain ⟨Fo, er, fo⟩ := er_start (N := N) l tb r
  refine ⟨Fo, G, _, er, ?_⟩
  unfold runF at q
  cases z : B (initE N.length ds) with
  | next δ' => rw [z] at q; exact fun G' σ' H' l' e' => q G' H' (tr_end fo l' e') _ rfl
  | ret d => rw [z] at q; exact fun G' H' l' ⟨σ', e'⟩ v rv => q G' H' (tr_end fo l' e') v rv
  | exc c δ' => rw [z] at q; exact fun G' σ' H' l' e' => q G' H' (tr_end fo l' e')
  | brk _ => rw [z] at q; exact False.elim q
  | cont _ => rw [z] at q; exact False.elim q
  | bad => rw [z] at q; exact False.elim q
theorem can_mk {x : Str} {st : Stmt} {N ps : List Str} {k : Nat} {B : Sv} {kws : List (Str × V)} (F : ∃ fd, FunD K x x (defArgs st) (defBody st) (defScope st) [] kws (He.fAd K (x, none)) fd) (g : mg x = some (.ref (He.ga K x))) (S : FnScope N ps (defScope st))
    (hbind : ∀ (kV doc pm : Value) (an : Option Addr) (cdv ct : Value) (us : List Value), us.length = ps.length → bindArgs (PySem.W.fnOf x x (defArgs st) (defBody st) (defScope st) .none kV doc pm an cdv ct) ⟨us, []⟩ = pure (ps.zip us))
    (hb : ∀ (A : Around) (outer : List PySem.Env) (s : Shared) (H : Hp) (E : XK), Room k (A.deeper (envOfC x (defScope st) s.heap.objs.size (He.fAd K (x, none)) (.ref (He.codeOf K (x, none))))) →
      PSs (cxOf (L2.CX P w) P w K mg base N x (defScope st) (He.fAd K (x, none)) (.ref (He.codeOf K (x, none))) A outer s H E) (defBody st) (tS ⟨K, P, w⟩ M (fun cls d _ H => E cls d H) B)) :
    Can P w K mg base M (k + 1) x ps.length (runF N.length B) := by
  obtain ⟨fd, F⟩ := F
  exact ⟨fd, ps, fn_of_data F S hb, F.bindsN hbind, F.kp, g⟩
/-- not spoken of -/
theorem can_bad {x : Str} {st : Stmt} {ps : List Str} {k : Nat} {kws : List (Str × V)} (F : ∃ fd, FunD K x x (defArgs st) (defBody st) (defScope st) [] kws (He.fAd K (x, none)) fd) (g : mg x = some (.ref (He.ga K x)))
    (hbind : ∀ (kV doc pm : Value) (an : Option Addr) (cdv ct : Value) (us : List Value), us.length = ps.length → bindArgs (PySem.W.fnOf x x (defArgs st) (defBody st) (defScope st) .none kV doc pm an cdv ct) ⟨us, []⟩ = pure (ps.zip us)) :
    Can P w K mg base M k x ps.length fun _ => .bad := by
  obtain ⟨fd, F⟩ := F
  exact ⟨fd, ps, fn_bad rfl, F.bindsN hbind, F.kp, g⟩
theorem Can.imp {k n : Nat} {x : Str} {m m' : List D → R D} (h : Can P w K mg base M k x n m) (e : m = m') : Can P w K mg base M k x n m' := e ▸ h
end
section
variable {X : Cx} {M : Mo} {W : WX} {pos : Pos} {e o : Expr} {es : List Expr} {f : Ev} {fs : Env → R (List D)}
theorem takes0 : Takes X W0 := fun u s' ⟨_, _, _, _, _, _, _, _, _, _, _, _, _, _, _, _, w⟩ => False.elim w
theorem de_callC {k n : Nat} {m : List D → R D} {x : Str} {p : Pos} (C : Can X.prog X.w X.K X.mg X.base M k x n m) (hr : Room k X.A) (tk : Takes X W) (hg : Gl X x) (ha : PA X (e :: es) (tA (kwX X) M W fs)) (hn : ∀ δ ds, fs δ = .ok ds → ds.length = n)
    (hl : (e :: es).length = n := by rfl) (hdb : (x == ("__debug__" : Str)) = false := by decide) (he : starEach (e :: es) X.env = (false, eval e X.env) :: starEach es X.env := by rfl) (hpl : (backTo pos (starEach es X.env)).any (·.1) = false := by rfl) :
    PE X (.Call (.Name x p) (e :: es) [] pos) (tE (kwX X) M W (eCall m fs)) := by
  obtain ⟨fd, ps, Fn, hb, hk, hm⟩ := C
  exact de_call Fn hr hg hm hk hb tk ha hl hdb he hpl hn
/-- a name of the function -/
theorem dv (i : Nat) {x : Str} (hN : X.N[i]? = some x := by rfl) (hv : Vis X.env.scope x := by first | exact Or.inl rfl | exact Or.inr (Or.inl rfl) | exact Or.inr (Or.inr rfl)) (hd : (x == ("__debug__" : Str)) = false := by decide)
    (hcd : (x == ("__classdict__" : Str)) = false := by decide) : PE X (.Name x pos) (tE (kwX X) M W (eV i)) := de_var hN hv hd hcd

/-! ### e.replace('..', '..') -/
def PE1 (X : Cx) (e : Expr) (t : TE) : Prop := ∀ (pins : List (Addr × Obj)) (s : Shared) (σ : L2.St) (H : Hp) (Q : VK), Inv X pins σ H s → t σ H Q →
  wpAny (model X.prog X.w) X.A (eval e X.env) (fun u s' => 1 ≤ s'.toks ∧ EP X pins σ Q u s') X.xe s
theorem PET.imp {t t' : TE} (h : PET X e t) (i : ∀ σ H Q, t' σ H Q → t σ H Q) : PET X e t' := fun pins s σ H Q h0 I q => h pins s σ H Q h0 I (i σ H Q q)
theorem PE1.imp {t t' : TE} (h : PE1 X e t) (i : ∀ σ H Q, t' σ H Q → t σ H Q) : PE1 X e t' := fun pins s σ H Q I q => h pins s σ H Q I (i σ H Q q)
theorem PAT.imp {t t' : TA} (h : PAT X es t) (i : ∀ σ H Q, t' σ H Q → t σ H Q) : PAT X es t' := fun pos pins s σ H Q h0 I q => h pos pins s σ H Q h0 I (i σ H Q q)
end

/-! ### the module's facts -/
/-- what is known of the module: K holds in the base, the facts fa, the defs fn, one Bool more, the tables of the defs tf -/
structure Wd (fa : List He.Fa) (fn : List He.DefD) (tf : List He.Defn) (ex : PySem.W.Frag → Bool) (K : PySem.W.Frag) (mg : Str → Option Value) (base : Heap) : Prop where
  kin : K.In base
  glob : base.Ns mainGlobals mg
  says : He.SaysD fa fn K
  more : ex K = true
  tabs : ∀ p ∈ tf, LamX.TabB base mg (He.cT K p).1 (He.cT K p).2
/-- .. and of lambdas: tl the defs with a lambda, each with the lambda's place and name -/
def MoL (K : PySem.W.Frag) (tf : List He.Defn) (tl : List (He.Defn × (Nat × Nat) × Str)) : Mo := ⟨fun c => .ref (He.ga K (Str.ofString c)), ⟨fun a k => (∃ p ∈ tf, a = (He.cT K p).2) ∧ ∀ p ∈ tl, a = (He.cT K p.1).2 → p.2.1 ≠ k,
  fun a k q => (∃ p ∈ tl, a = (He.cT K p.1).2 ∧ p.2.1 = k ∧ p.2.2 = q) ∧ ∀ p ∈ tl, a = (He.cT K p.1).2 → p.2.1 = k → p.2.2 = q, fun _ _ _ h h' => by
    obtain ⟨p, hp, e, e1, _⟩ := h.1
    exact h'.2 p hp e e1, fun a k q q' h h' => by
    obtain ⟨p, hp, e, e1, e2⟩ := h'.1
    rw [← e2, h.2 p hp e e1]⟩⟩
/-- the tables of lambdas are apart -/
def apartT (K : PySem.W.Frag) (tf : List He.Defn) (tl : List (He.Defn × (Nat × Nat) × Str)) : Bool := tl.all fun p => (tf.all fun q => decide (p.1 = q) || decide ((He.cT K p.1).2 ≠ (He.cT K q).2)) && tl.all fun q => decide (p.1 = q.1) || decide ((He.cT K p.1).2 ≠ (He.cT K q.1).2)
theorem apart1 {K : PySem.W.Frag} {tf : List He.Defn} {tl : List (He.Defn × (Nat × Nat) × Str)} (h : apartT K tf tl = true) {p : He.Defn × (Nat × Nat) × Str} (hp : p ∈ tl) {q : He.Defn} (hq : q ∈ tf) (e : (He.cT K q).2 = (He.cT K p.1).2) : p.1 = q := by
  have h1 := List.all_eq_true.mp h p hp
  rw [Bool.and_eq_true, List.all_eq_true, List.all_eq_true] at h1
  have := h1.1 q hq
  rw [Bool.or_eq_true] at this
  rcases this with z | z
  · exact of_decide_eq_true z
  · exact absurd e.symm (of_decide_eq_true z)
theorem apart2 {K : PySem.W.Frag} {tf : List He.Defn} {tl : List (He.Defn × (Nat × Nat) × Str)} (h : apartT K tf tl = true) {p q : He.Defn × (Nat × Nat) × Str} (hp : p ∈ tl) (hq : q ∈ tl) (e : (He.cT K p.1).2 = (He.cT K q.1).2) : p.1 = q.1 := by
  have h1 := List.all_eq_true.mp h p hp
  rw [Bool.and_eq_true, List.all_eq_true, List.all_eq_true] at h1
  have := h1.2 q hq
  rw [Bool.or_eq_true] at this
  rcases this with z | z
  · exact of_decide_eq_true z
  · exact absurd e (of_decide_eq_true z)
theorem lam_of {K : PySem.W.Frag} {tf : List He.Defn} {tl : List (He.Defn × (Nat × Nat) × Str)} (h : apartT K tf tl = true) {p : He.Defn × (Nat × Nat) × Str} (hp : p ∈ tl) (hu : ∀ q ∈ tl, q.1 = p.1 → q.2.1 = p.2.1 → q.2.2 = p.2.2) : (MoL K tf tl).tp.lam (He.cT K p.1).2 p.2.1 p.2.2 :=
  ⟨⟨p, hp, rfl, rfl, rfl⟩, fun q hq e e1 => hu q hq (apart2 h hp hq e).symm e1⟩
theorem gen_of {K : PySem.W.Frag} {tf : List He.Defn} {tl : List (He.Defn × (Nat × Nat) × Str)} (h : apartT K tf tl = true) {q : He.Defn} (hq : q ∈ tf) {k : Nat × Nat} (hk : ∀ p ∈ tl, p.1 = q → p.2.1 ≠ k) : (MoL K tf tl).tp.gen (He.cT K q).2 k :=
  ⟨⟨q, hq, rfl⟩, fun p hp e => hk p hp (apart1 h hp hq e)⟩
section
variable {fa : List He.Fa} {fn : List He.DefD} {tf : List He.Defn} {ex : PySem.W.Frag → Bool} {K : PySem.W.Frag} {mg : Str → Option Value} {base : Heap}
theorem Wd.glo (E : Wd fa fn tf ex K mg base) (i : Nat) {x : Str} (h : fa[i]? = some (.glo x) := by rfl) : mg x = some (.ref (He.ga K x)) := He.glo_ok E.kin E.glob (E.says.fact i (f := .glo x) h)
theorem Wd.fre (E : Wd fa fn tf ex K mg base) (i : Nat) {x : Str} (h : fa[i]? = some (.free x) := by rfl) : mg x = none := He.free_ok E.kin E.glob (E.says.fact i (f := .free x) h)
theorem Wd.int (E : Wd fa fn tf ex K mg base) (i : Nat) {x : Str} {z : Int} (h : fa[i]? = some (.int x z) := by rfl) : ∃ t, mg x = some (.int z t) := He.int_ok E.kin E.glob (E.says.fact i (f := .int x z) h)
theorem Wd.str (E : Wd fa fn tf ex K mg base) (i : Nat) {x z : Str} (h : fa[i]? = some (.str x z) := by rfl) : ∃ t, mg x = some (.str z t) := He.str_ok E.kin E.glob (E.says.fact i (f := .str x z) h)
theorem Wd.exc (E : Wd fa fn tf ex K mg base) (i : Nat) {x : Str} (h : fa[i]? = some (.exc x) := by rfl) : PySem.W.excIn K (He.ga K x) He.veBase "ValueError.__new__" = true ∧ PySem.W.keepIn K (.ref (He.ga K x)) = true ∧ PySem.W.subIn K (.ref (He.ga K x)) (.type "BaseException") = some true ∧ PySem.W.typeIn K (.ref (He.ga K x)) = some (.type "type") :=
  He.exc_ok (E.says.fact i (f := .exc x) h)
theorem Wd.exm (E : Wd fa fn tf ex K mg base) (i : Nat) {x y : Str} {b : Bool} (h : fa[i]? = some (.exm x y b) := by rfl) : PySem.W.exmOne K (.ref (He.ga K x)) (.ref (He.ga K y)) = some b := He.exm_ok (E.says.fact i (f := .exm x y b) h)
theorem Wd.fun_ (E : Wd fa fn tf ex K mg base) (i : Nat) {d : He.DefD} (h : fn[i]? = some d := by rfl) : ∃ fd, FunD K d.name d.qual d.params d.body d.scope (d.dvs K) (d.kws K) (He.fAd K d.at_) fd := E.says.def_ i h
theorem Wd.tab (E : Wd fa fn tf ex K mg base) {p : He.Defn} (h : p ∈ tf) : GxR.TabB base mg (He.codeOf K p) (He.cT K p).2 := let t := E.tabs p h; ⟨t.code, t.bm, t.gP⟩
end
/-- the object of that name has no dict -/
def ndB (K : PySem.W.Frag) (x : Str) : Bool := match K.lookup (He.ga K x) with
  | some o => o.dict.isNone
  | none => false
theorem ndB_ok {K : PySem.W.Frag} {x : Str} (h : ndB K x = true) (G : Hp) : Nd K G (He.ga K x) := by
  unfold ndB at h
  cases z : K.lookup (He.ga K x) with
  | none => rw [z] at h; cases h
  | some o => rw [z] at h; exact .inr ⟨o, z, by simpa using h⟩
theorem and_l {a b : Bool} (h : (a && b) = true) : a = true := by
  cases a
  · cases h
  · rfl
theorem and_r {a b : Bool} (h : (a && b) = true) : b = true := by
  cases a
  · cases h
  · exact h
section
variable {X : Cx} {M : Mo} {W : WX} {pos : Pos}
theorem de_gstr {x z : Str} (h : ∃ t, X.mg x = some (.str z t)) (hg : Gl X x := by rfl) (hd : (x == ("__debug__" : Str)) = false := by decide) : PE X (.Name x pos) (tE (kwX X) M W (eC (.str z))) := by
  obtain ⟨t, h⟩ := h
  exact de_glob (v := .str z) hg h ⟨t, rfl⟩ (fun _ => rfl) hd
theorem de_gint {x : Str} {z : Int} (h : ∃ t, X.mg x = some (.int z t)) (hg : Gl X x := by rfl) (hd : (x == ("__debug__" : Str)) = false := by decide) : PE X (.Name x pos) (tE (kwX X) M W (eC (.int z))) := by
  obtain ⟨t, h⟩ := h
  exact de_glob (v := .int z) hg h ⟨t, rfl⟩ (fun _ => rfl) hd
theorem de_gref {x : Str} {d : D} (h : X.mg x = some (.ref (He.ga X.K x))) (hr : ∀ G, Rep (kwX X) G d (.ref (He.ga X.K x))) (hg : Gl X x := by rfl) (hd : (x == ("__debug__" : Str)) = false := by decide) : PE X (.Name x pos) (tE (kwX X) M W (eC d)) :=
  de_glob (v := .ref (He.ga X.K x)) hg h rfl hr hd
end
end Dl

set_option Elab.async false
set_option linter.all false
set_option maxRecDepth 100000
set_option maxHeartbeats 2000000
/-! Short words for printed terms. -/
namespace Dl
open PySem PySem.Spec PyProof.Rows L2

theorem bt_len : bootBuiltins "len" = some (.builtin "len") := by decide +kernel
theorem bt_isinstance : bootBuiltins "isinstance" = some (.builtin "isinstance") := by decide +kernel
theorem bt_str : bootBuiltins "str" = some (.type "str") := by decide +kernel
theorem bt_int : bootBuiltins "int" = some (.type "int") := by decide +kernel
theorem bt_tuple : bootBuiltins "tuple" = some (.type "tuple") := by decide +kernel
theorem bt_list : bootBuiltins "list" = some (.type "list") := by decide +kernel
theorem bt_all : bootBuiltins "all" = some (.builtin "all") := by decide +kernel
/-- a block's names, by a look -/
def blkB (N : List Str) (sc scope : Scope) (own : List (Str × Nat)) : Bool := decide (scope.kind = .function) && (scope.names.all fun y => decide (scope.names.lookup y.1 = some y.2)) && (own.all fun p => decide (N[p.2]? = some p.1)) &&
  (scope.names.all fun y => if y.2 = .free then decide (sc.names.lookup y.1 = some .cell ∨ sc.names.lookup y.1 = some .free) else true) && scope.names.all fun y => if y.2 = .local ∨ y.2 = .cell then decide (y.1 ∈ own.map (·.1) ∨ y.1 ∉ N) else true
theorem blk_of {N : List Str} {sc scope : Scope} {own : List (Str × Nat)} (h : blkB N sc scope own = true) : BlkOk N sc scope own := by
  unfold blkB at h
  simp only [Bool.and_eq_true, decide_eq_true_eq, List.all_eq_true] at h
  obtain ⟨⟨⟨⟨h1, h2⟩, h3⟩, h4⟩, h5⟩ := h
  refine ⟨h1, h2, h3, fun y hy e => ?_, fun y hy e => ?_⟩
  · have q := h4 y hy
    rw [if_pos e] at q
    exact of_decide_eq_true q
  · have q := h5 y hy
    rw [if_pos e] at q
    exact of_decide_eq_true q
def gnB (N : List Str) (sc scope : Scope) (own : List (Str × Nat)) : Bool := blkB N sc scope own && !scope.isCoroutine && decide (scope.names.lookup (".0" : Str) = some NameKind.local)
theorem gn_of {N : List Str} {sc scope : Scope} {own : List (Str × Nat)} (h : gnB N sc scope own = true) : GnOk N sc scope own := by
  unfold gnB at h
  simp only [Bool.and_eq_true, decide_eq_true_eq, Bool.not_eq_true'] at h
  exact ⟨blk_of h.1.1, h.1.2, h.2⟩
def iaddD : D → D → Option D
  | .int i, .int j => some (.int (i + j))
  | .str a, .str b => if a.length + b.length ≤ sizeLine then some (.str (a ++ b)) else none
  | _, _ => none
section
variable {X : Cx} {M : Mo} {W : WX} {pos : Pos} {a b e : Expr} {f g : Ev} {k : Nat}
theorem u64 (hr : Room k X.A) : X.A.units + 64 < cLine := hr.units
theorem u65 (hr : Room k X.A) : X.A.units + 65 < cLine := by have := hr.un; omega
theorem xAdd (ha : PE X a (tE (kwX X) M W f)) (hb : PE X b (tE (kwX X) M W g)) : PE X (.BinOp a .Add b pos) (tE (kwX X) M W (e2 addD f g)) := de_op op_addD os_add ha hb
theorem xSub (ha : PE X a (tE (kwX X) M W f)) (hb : PE X b (tE (kwX X) M W g)) : PE X (.BinOp a .Sub b pos) (tE (kwX X) M W (e2 subD f g)) := de_op op_sub os_sub ha hb
theorem xMul (ha : PE X a (tE (kwX X) M W f)) (hb : PE X b (tE (kwX X) M W g)) : PE X (.BinOp a .Mult b pos) (tE (kwX X) M W (e2 mulD f g)) := de_op op_mul os_mul ha hb
theorem xFdv (ha : PE X a (tE (kwX X) M W f)) (hb : PE X b (tE (kwX X) M W g)) : PE X (.BinOp a .FloorDiv b pos) (tE (kwX X) M W (e2 fdivD f g)) := de_op op_fdiv os_fdiv ha hb
theorem xMod (ha : PE X a (tE (kwX X) M W f)) (hb : PE X b (tE (kwX X) M W g)) : PE X (.BinOp a .Mod b pos) (tE (kwX X) M W (e2 modD f g)) := de_op op_mod os_mod ha hb
theorem xPow (ha : PE X a (tE (kwX X) M W f)) (hb : PE X b (tE (kwX X) M W g)) : PE X (.BinOp a .Pow b pos) (tE (kwX X) M W (e2 powD f g)) := de_op op_pow os_pow ha hb
theorem cEq (hr : Room k X.A) (ha : PE X a (tE (kwX X) M W f)) (hb : PE X b (tE (kwX X) M W g)) : PE X (.Compare a [.Eq] [b] pos) (tE (kwX X) M W (e2 eqD f g)) := de_cmp (op_eqD (u64 hr)) os_eq ha hb
theorem cIn (hr : Room k X.A) (ha : PE X a (tE (kwX X) M W f)) (hb : PE X b (tE (kwX X) M W g)) (hm : behindInMarks .In b = false := by first | exact nomark _ | rfl) : PE X (.Compare a [.In] [b] pos) (tE (kwX X) M W (e2 inD f g)) := de_cmp (op_inAll (u65 hr)) os_in ha hb hm
theorem tEq (hr : Room k X.A) (ha : PE X a (tE (kwX X) M W f)) (hb : PE X b (tE (kwX X) M W g)) : PT X (.Compare a [.Eq] [b] pos) (tT (kwX X) M W (tB1 (e2 eqD f g))) := dt_cmp (op_eqD (u64 hr)) os_eq ha hb
theorem tNe (hr : Room k X.A) (ha : PE X a (tE (kwX X) M W f)) (hb : PE X b (tE (kwX X) M W g)) : PT X (.Compare a [.NotEq] [b] pos) (tT (kwX X) M W (tB1 (e2 neD f g))) := dt_cmp (op_neD (u64 hr)) os_ne ha hb
theorem tLt (ha : PE X a (tE (kwX X) M W f)) (hb : PE X b (tE (kwX X) M W g)) : PT X (.Compare a [.Lt] [b] pos) (tT (kwX X) M W (tB1 (e2 ltD f g))) := dt_cmp op_lt os_lt ha hb
theorem tLe (ha : PE X a (tE (kwX X) M W f)) (hb : PE X b (tE (kwX X) M W g)) : PT X (.Compare a [.LtE] [b] pos) (tT (kwX X) M W (tB1 (e2 leD f g))) := dt_cmp op_le os_le ha hb
theorem tGt (ha : PE X a (tE (kwX X) M W f)) (hb : PE X b (tE (kwX X) M W g)) : PT X (.Compare a [.Gt] [b] pos) (tT (kwX X) M W (tB1 (e2 gtD f g))) := dt_cmp op_gt os_gt ha hb
theorem tGe (ha : PE X a (tE (kwX X) M W f)) (hb : PE X b (tE (kwX X) M W g)) : PT X (.Compare a [.GtE] [b] pos) (tT (kwX X) M W (tB1 (e2 geD f g))) := dt_cmp op_ge os_ge ha hb
theorem tIn (hr : Room k X.A) (ha : PE X a (tE (kwX X) M W f)) (hb : PE X b (tE (kwX X) M W g)) (hm : behindInMarks .In b = false := by first | exact nomark _ | rfl) : PT X (.Compare a [.In] [b] pos) (tT (kwX X) M W (tB1 (e2 inD f g))) := dt_cmp (op_inAll (u65 hr)) os_in ha hb hm
theorem tNin (hr : Room k X.A) (ha : PE X a (tE (kwX X) M W f)) (hb : PE X b (tE (kwX X) M W g)) (hm : behindInMarks .NotIn b = false := by first | exact nomark _ | rfl) : PT X (.Compare a [.NotIn] [b] pos) (tT (kwX X) M W (tB1 (e2 ninD f g))) := dt_cmp (op_ninAll (u65 hr)) os_nin ha hb hm
theorem tIsn (ha : PE X a (tE (kwX X) M W f)) (hb : PE X b (tE (kwX X) M W g)) : PT X (.Compare a [.IsNot] [b] pos) (tT (kwX X) M W (tB1 (e2 notND f g))) := dt_cmp op_notN os_notN ha hb
theorem bLen {p : Pos} (hm : X.mg "len" = none) (ha : PE X a (tE (kwX X) M W f)) (hg : Gl X "len" := by rfl) (he : starEach [a] X.env = (false, eval a X.env) :: starEach [] X.env := by rfl) : PE X (.Call (.Name "len" p) [a] [] pos) (tE (kwX X) M W (eB lenD (aCons f aNil))) :=
  de_callB call_len cs_len hg hm bt_len (da_cons ha da_nil he) (by decide) (by decide) he
theorem bTuple {p : Pos} (hm : X.mg "tuple" = none) (ha : PE X a (tE (kwX X) M W f)) (hg : Gl X "tuple" := by rfl) (he : starEach [a] X.env = (false, eval a X.env) :: starEach [] X.env := by rfl) : PE X (.Call (.Name "tuple" p) [a] [] pos) (tE (kwX X) M W (eB tupleD (aCons f aNil))) :=
  de_callTy call_tuple_ofF cs_tuple hg hm bt_tuple (da_cons ha da_nil he) (by decide) (by decide) he
end
section
variable {X : Cx} {M : Mo} {W : WX} {pos : Pos} {e : Expr}
/-- raise X('..'), X by its facts -/
theorem ds_raiseE {c : String} {m : Str} {j : Nat} {p p2 pos2 : Pos} (tk : Takes X W) (gC : X.mg (Str.ofString c) = some (.ref (He.ga X.K (Str.ofString c))))
    (F : PySem.W.excIn X.K (He.ga X.K (Str.ofString c)) He.veBase "ValueError.__new__" = true ∧ PySem.W.keepIn X.K (.ref (He.ga X.K (Str.ofString c))) = true ∧ PySem.W.subIn X.K (.ref (He.ga X.K (Str.ofString c))) (.type "BaseException") = some true ∧ PySem.W.typeIn X.K (.ref (He.ga X.K (Str.ofString c))) = some (.type "type"))
    (ec : M.ec c = .ref (He.ga X.K (Str.ofString c)) := by rfl) (hc : X.calm = true := by rfl) (hg : Gl X (Str.ofString c) := by rfl) (hdb : (Str.ofString c == ("__debug__" : Str)) = false := by decide) :
    PS X (.Raise (some (.Call (.Name (Str.ofString c) p) [.Constant (.str m) j p2] [] pos)) none pos2) (tS (kwX X) M W (sRaise c)) :=
  ds_raise hc tk ec PySem.F.excBase_ValueError F.1 gC F.2.1 (raises_own F.2.2.1 F.2.2.2) hg hdb
def subL (l : List (String × Bool)) (n : String) : Option Bool := l.lookup n
theorem sub_nil {K : PySem.W.Frag} {c : Value} : ∀ n b, subL [] n = some b → PySem.W.exmOne K (M.ec n) c = some b := fun n b h => by cases h
theorem sub_cons {K : PySem.W.Frag} {c : Value} {n0 : String} {b0 : Bool} {l : List (String × Bool)} (h0 : PySem.W.exmOne K (M.ec n0) c = some b0) (hl : ∀ n b, subL l n = some b → PySem.W.exmOne K (M.ec n) c = some b) : ∀ n b, subL ((n0, b0) :: l) n = some b → PySem.W.exmOne K (M.ec n) c = some b := fun n b h => by
  unfold subL at h
  rw [List.lookup_cons] at h
  cases e : n == n0 with
  | true =>
    rw [e] at h
    cases h
    rw [eq_of_beq e]; exact h0
  | false => rw [e] at h; exact hl n b h
end
end Dl

set_option Elab.async false
set_option linter.all false
set_option maxRecDepth 100000
set_option maxHeartbeats 2000000
/-! The law's entry. -/
namespace Dl
open PySem PySem.Spec PyProof.Rows L2
theorem reps_ints {K : Kw} {G : Hp} : ∀ ns : List Int, Reps K G (ns.map D.int) (ns.map V.int)
  | [] => rfl
  | n :: ns => ⟨_, _, rfl, rfl, reps_ints ns⟩
open Classical in
theorem ent_law {K : Kw} {M : Mo} {m : List D → R D} {H : Hp} {a : Addr} {ns : List Int} (h : m [.lst (ns.map D.int)] = .ok (.bl true)) (tb : ∀ a, M.tp a → H a = some (.tbl #[])) (hS : SqL K H a (ns.map V.int)) :
    spD K M 1 m [.ref a] H (fun v _ => v = .bl true) fun _ _ _ => False := by
  refine ⟨fun b => if M.tp b then none else H b, [.lst (ns.map D.int)], fun b o e => ?_, fun b t => ⟨⟨#[], tb b t, trivial, fun q _ pos cv hc => by simp [codeAmong] at hc⟩, if_pos t⟩, ⟨_, _, rfl, ⟨a, _, rfl, ?_, reps_ints ns⟩, rfl⟩, rfl, ?_⟩
  · dsimp only at e
    split at e
    · cases e
    · exact e
  · rcases hS with (e | ⟨o, e⟩) | e
    · exact .inl (.inl (by dsimp only; rw [if_neg (fun t => by rw [tb a t] at e; cases e)]; exact e))
    · exact .inl (.inr ⟨o, by dsimp only; rw [if_neg (fun t => by rw [tb a t] at e; cases e)]; exact e⟩)
    · exact .inr e
  · rw [h]
    intro G' H' t v rv
    exact rv
theorem tabs_L {K : PySem.W.Frag} {tg : List He.Defn} {tl : List (He.Defn × (Nat × Nat) × Str)} {H : Hp} (ht : ∀ q ∈ tg ++ tl.map (·.1), H (He.cT K q).2 = some (.tbl #[])) : ∀ a, (MoL K tg tl).tp a → H a = some (.tbl #[]) := fun a h => by
  rcases h with ⟨_, ⟨q, hq, e⟩, _⟩ | ⟨_, q, ⟨p, hp, e, _⟩, _⟩
  · exact e ▸ ht q (List.mem_append_left _ hq)
  · exact e ▸ ht p.1 (List.mem_append_right _ (List.mem_map_of_mem hp))
end Dl

set_option Elab.async false
set_option linter.all false
set_option maxRecDepth 100000
set_option maxHeartbeats 2000000
/-! Instances: made by __init__, their attributes read. -/
namespace Dl
open PySem PySem.Spec PyProof.Rows L2

/-! ### x.f -/
section
variable {X : Cx} {M : Mo} {W : WX} {pos : Pos} {e : Expr} {f : Ev}
end

/-! ### self.f = e -/
section
variable {X : Cx} {M : Mo} {W : WX} {pos : Pos} {e : Expr} {f : Ev}
end

/-! ### C(..) -/
section
variable {X : Cx} {CX : CXT} {k : Nat} {f C : Addr} {fd : FuncData} {ps : List Str} {sp : Sp} {E : XK}
end
section
variable {X : Cx} {M : Mo} {W : WX} {pos : Pos} {e : Expr} {es : List Expr} {fs : Env → R (List D)}
end

/-! ### __init__ by its body -/
section
variable {P : Program} {w : World} {K : PySem.W.Frag} {mg : Str → Option Value} {base : Heap} {M : Mo}
end
section
variable {K : Kw} {M : Mo}
open Classical in
end
section
variable {P : Program} {w : World} {K : PySem.W.Frag} {mg : Str → Option Value} {base : Heap} {M : Mo}
end
end Dl

set_option Elab.async false
set_option linter.all false
set_option maxRecDepth 100000
set_option maxHeartbeats 2000000
/-! Methods of lists, tuples, texts; str, int of texts; f-strings; -x; is True. -/
namespace Dl
open PySem PySem.Spec PyProof.Rows L2

/-! ### o.m(..) -/
def eM (ok : D → Bool) (g : D → List D → Option D) (f : Ev) (fs : Env → R (List D)) : Ev := fun δ => f δ >>= fun x => if ok x then fs δ >>= fun ys => ofO (g x ys) else .bad
def eM0 (ok : D → Bool) (g : D → Option D) (f : Ev) : Ev := fun δ => f δ >>= fun x => if ok x then ofO (g x) else .bad
section
variable {X : Cx} {M : Mo} {W : WX} {o e : Expr} {es : List Expr} {f : Ev} {fs : Env → R (List D)} {name : Str} {apos cpos : Pos} {T id : String} {r : V → List V → Hp → VK → Prop} {ok ok' : D → Bool} {g : D → List D → Option D}
end
def isT : D → Bool
  | .tup _ => true
  | _ => false
def isL : D → Bool
  | .lst _ => true
  | _ => false
def isS : D → Bool
  | .str _ => true
  | _ => false
def isSq (d : D) : Bool := isT d || isL d
section
variable {K : Kw}
end
section
variable {X : Cx} {K : Kw}
/-! ### arguments of one kind -/
def a1 (f : D → Option D) : List D → Option D
  | [] => none
  | y :: r => match r with
    | [] => f y
    | _ :: _ => none
def a2 (f : D → D → Option D) : List D → Option D
  | [] => none
  | y :: r => a1 (f y) r
def intO (f : Int → Option D) (d : D) : Option D := match d with
  | .int x => f x
  | _ => none
def ifO (c : Bool) (r : Option D) : Option D := match c with
  | true => r
  | false => none
section
variable {tp : Tb} {G H : Hp} {ds : List D} {vs : List V} {Q : VK} {d : D} {v : V}
theorem a1_of {f : D → Option D} (q : QX K tp G H (a1 f ds) Q) (r : Reps K G ds vs) : ∃ y u, ds = [y] ∧ vs = [u] ∧ Rep K G y u ∧ QX K tp G H (f y) Q := by
  cases ds with
  | nil => exact False.elim q
  | cons y t =>
    cases t with
    | nil =>
      obtain ⟨u, ur, e, ru, er⟩ := r
      cases er
      exact ⟨y, u, rfl, e, ru, q⟩
    | cons _ _ => exact False.elim q
theorem a2_of {f : D → D → Option D} (q : QX K tp G H (a2 f ds) Q) (r : Reps K G ds vs) : ∃ x y t u, ds = [x, y] ∧ vs = [t, u] ∧ Rep K G x t ∧ Rep K G y u ∧ QX K tp G H (f x y) Q := by
  cases ds with
  | nil => exact False.elim q
  | cons x t =>
    obtain ⟨w, ur, e, rw_, er⟩ := r
    obtain ⟨y, u, e1, e2, ru, q⟩ := a1_of q er
    subst e1
    subst e2
    exact ⟨x, y, w, u, rfl, e, rw_, ru, q⟩
theorem intO_of {f : Int → Option D} (q : QX K tp G H (intO f d) Q) (r : Rep K G d v) : ∃ x, d = .int x ∧ v = .int x ∧ QX K tp G H (f x) Q := by
  cases d with
  | int x => exact ⟨x, rfl, r, q⟩
  | _ => exact False.elim q
theorem ifO_of {c : Bool} {f : Option D} (q : QX K tp G H (ifO c f) Q) : c = true ∧ QX K tp G H f Q := by
  cases c with
  | true => exact ⟨rfl, q⟩
  | false => exact False.elim q
end

/-! ### methods of texts -/
end
end Dl

set_option Elab.async false
set_option linter.all false
set_option maxRecDepth 100000
set_option maxHeartbeats 2000000
/-! Methods by name; -x; is True; f-strings; str(), int() of texts; own lists by +; x = l.pop(). -/
namespace Dl
open PySem PySem.Spec PyProof.Rows L2

/-! ### -x -/
def negD (d : D) : Option D := intO (fun i => some (.int (-i))) d
/-! ### is True, is False -/
def isBD (d e : D) : Option D := match e with
  | .bl b => some (.bl (decide (d = .bl b)))
  | _ => none
def notBD (d e : D) : Option D := match e with
  | .bl b => some (.bl (!decide (d = .bl b)))
  | _ => none
section
variable {X : Cx} {K : Kw}
end
section
variable {X : Cx} {M : Mo} {W : WX} {pos : Pos} {a b e : Expr} {f g : Ev} {k : Nat}
end

/-! ### methods -/
section
variable {X : Cx} {M : Mo} {W : WX} {o e : Expr} {f g : Ev} {fs : Env → R (List D)} {apos cpos : Pos} {k : Nat}
end

/-! ### f-strings -/
section
variable {X : Cx} {M : Mo} {W : WX} {pos : Pos} {e v1 v2 : Expr} {rest es : List Expr} {f : Ev} {fs : List Ev}
end

/-! ### str(x), int(x) -/
def intTD : List D → Option D := a1 fun d => match d with
  | .int i => some (.int i)
  | .bl b => some (.int (if b then 1 else 0))
  | .str a => ifO (decide (a.length ≤ 640)) ((PySem.intText? a).map .int)
  | _ => none
section
variable {X : Cx} {M : Mo} {W : WX} {pos : Pos} {a : Expr} {f : Ev}
theorem cs_intT : CallS (kwX X) (fun xs H Q => ((∃ i, xs = [.int i] ∧ Q (.int i) H) ∨ ∃ k, xs = [.bl k] ∧ Q (.int (if k then 1 else 0)) H) ∨ (∃ a n, xs = [.str a] ∧ PySem.intText? a = some n ∧ a.length ≤ 640 ∧ Q (.int n) H)) intTD := fun tp G H ds vs Q l r q => by
  obtain ⟨y, u, rfl, rfl, ru, q⟩ := a1_of q r
  cases y with
  | int i => cases ru; exact .inl (.inl ⟨i, rfl, QX.at q l rfl⟩)
  | bl i => cases ru; exact .inl (.inr ⟨i, rfl, QX.at q l rfl⟩)
  | str i =>
    obtain ⟨z, q3⟩ := ifO_of q
    cases ru
    cases hn : PySem.intText? i with
    | none => rw [hn] at q3; exact False.elim q3
    | some n =>
      rw [hn] at q3
      exact .inr ⟨i, n, rfl, hn, of_decide_eq_true z, QX.at q3 l rfl⟩
  | _ => exact False.elim q
theorem bIntT {p : Pos} (hm : X.mg "int" = none) (ha : PE X a (tE (kwX X) M W f)) (hg : Gl X "int" := by rfl) (he : starEach [a] X.env = (false, eval a X.env) :: starEach [] X.env := by rfl) : PE X (.Call (.Name "int" p) [a] [] pos) (tE (kwX X) M W (eB intTD (aCons f aNil))) :=
  de_callTy (call_int1.or call_int_str) cs_intT hg hm bt_int (da_cons ha da_nil he) (by decide) (by decide) he
end

/-! ### a list of one's own by + -/
def nCat (f g : Ev) : Env → R (List D) := fun δ => f δ >>= fun x => g δ >>= fun y => ofO (match x, y with
  | .lst xs, .lst ys => if xs.length + ys.length ≤ sizeLine then some (xs ++ ys) else none
  | _, _ => none)
section
variable {X : Cx} {M : Mo} {W : WX} {pos : Pos} {a b : Expr} {f g : Ev}
theorem dn_cat (ha : PE X a (tE (kwX X) M W f)) (hb : PE X b (tE (kwX X) M W g)) : PE X (.BinOp a .Add b pos) (tN (kwX X) M W (nCat f g)) := by
  refine PE.imp (pe_op op_catL ha hb) fun σ H Q ⟨Fo, G, δ, er, q⟩ => ⟨Fo, G, δ, er, ?_⟩
  refine PX.mono (PX.bind q) fun G1 H1 x t1 q1 v rv => ?_
  refine ⟨Fo, G1, δ, er.tr t1, PX.mono (PX.bind q1) fun G2 H2 y t2 q2 w rw => ?_⟩
  cases x with
  | lst xs =>
    cases y with
    | lst ys =>
      replace q2 : PX M W σ G2 H2 (ofO (if xs.length + ys.length ≤ sizeLine then some (xs ++ ys) else none)) _ := q2
      by_cases z : xs.length + ys.length ≤ sizeLine
      · rw [if_pos z] at q2
        obtain ⟨l, vs, rfl, sv, rvs⟩ := Rep.mono t2.1 _ _ rv
        obtain ⟨l2, ws, rfl, sw, rws⟩ := rw
        exact ⟨l, l2, vs, ws, rfl, rfl, t2.2.1.sqL sv, t2.2.1.sqL sw, by rw [rvs.length, rws.length]; exact z, fun p n => q2 G2 H2 (.refl t2.2.1) p _ n (rvs.append rws)⟩
      · rw [if_neg z] at q2; exact False.elim q2
    | _ => exact False.elim q2
  | _ =>
    cases y <;> exact False.elim q2
end
end Dl

set_option Elab.async false
set_option linter.all false
set_option maxRecDepth 100000
set_option maxHeartbeats 2000000
/-! Classes in the print: their facts, their methods, __init__ as a function; lent things in tests. -/
namespace Dl
open PySem PySem.Spec PyProof.Rows L2

section
variable {fa : List He.Fa} {fn : List He.DefD} {tf : List He.Defn} {ex : PySem.W.Frag → Bool} {K : PySem.W.Frag} {mg : Str → Option Value} {base : Heap}
theorem Wd.cls (E : Wd fa fn tf ex K mg base) (i : Nat) {x : Str} (h : fa[i]? = some (.cls x) := by rfl) : Cls K (He.ga K x) := He.cls_ok (E.says.fact i (f := .cls x) h)
end

/-! ### __init__ as a function -/
open Classical in
/-! ### methods of a class -/
section
variable {P : Program} {w : World} {K : PySem.W.Frag} {mg : Str → Option Value} {base : Heap} {M : Mo}
end
section
variable {X : Cx} {M : Mo} {W : WX} {pos : Pos} {e o : Expr} {es : List Expr} {f : Ev} {fs : Env → R (List D)}
/-- the instance is of that class, the name none of its attributes -/
def isO (c : String) (m : Str) : D → Bool
  | .obj c' fl _ => decide (c' = c) && decide (m ∉ fl.map Str.ofString)
  | _ => false
def eCallM (c : String) (m : Str) (h : List D → R D) (f : Ev) (g : Env → R (List D)) : Ev := fun δ => f δ >>= fun x => if isO c m x then g δ >>= fun xs => h (x :: xs) else .bad
end

/-! ### lent in a test -/
def tBor (i : Nat) (t : Tv) : Tv := fun δ => t (frz i δ)
section
variable {X : Cx} {M : Mo} {W : WX} {e : Expr} {t : Tv}
theorem dt_bor (i : Nat) (he : PT X e (tT (kwX X) M W t)) : PT X e (tT (kwX X) M W (tBor i t)) := by
  refine PT.imp he fun σ H Q ⟨Fo, G, δ, er, q⟩ => ?_
  obtain ⟨fp, er1, back⟩ := er.lend i
  refine ⟨Fo, _, frz i δ, er1, ?_⟩
  unfold tBor at q
  cases y : t (frz i δ) with
  | bad => rw [y] at q; exact False.elim q
  | exc c =>
    rw [y] at q
    intro G' H' t
    exact q _ H' (back G' H' t).1
  | ok d =>
    rw [y] at q
    intro G' H' t
    exact q _ H' (back G' H' t).1
end
end Dl

set_option Elab.async false
set_option linter.all false
set_option maxRecDepth 100000
set_option maxHeartbeats 2000000
/-! Dicts: their keys, d[k], k in d, d[k] = e, {}, {k: e}, list(d). -/
namespace Dl
open PySem PySem.Spec PyProof.Rows L2

/-! ### keys -/
mutual
theorem key_is {X : Cx} {pins : List (Addr × Obj)} {σ : L2.St} {H : Hp} {s : Shared} (I : Inv X pins σ H s) : ∀ (d : D) (v : V) (u : Value) (k : NestedKey), d.key = some k → Rep (kwX X) H d v → RelV v u → NestedIs s.heap k u
  | .non, _, u, _, e, r, ru => by cases e; cases r; cases ru; exact .none
  | .bl b, _, u, _, e, r, ru => by cases e; cases r; cases ru; exact .bool rfl
  | .int i, _, u, _, e, r, ru => by cases e; cases r; obtain ⟨t, rfl⟩ := ru; exact .int i t
  | .str x, _, u, _, e, r, ru => by cases e; cases r; obtain ⟨t, rfl⟩ := ru; exact .text x t
  | .tup ds, _, u, k, e, ⟨a, vs, ev, sq, rs⟩, ru => by
    subst ev
    cases ru
    unfold D.key at e
    cases z : D.keyAll ds with
    | none => rw [z] at e; cases e
    | some ks =>
      rw [z] at e
      cases e
      obtain ⟨its, r, ⟨o, h1, h2, n, h3⟩, _⟩ := I.tuple sq.1
      exact .tup h1 h2 h3 (keys_are I ds vs its ks z rs r)
  | .lst _, _, _, _, e, _, _ => by cases e
  | .obj .., _, _, _, e, _, _ => by cases e
  | .dk .., _, _, _, e, _, _ => by cases e
  | .dt .., _, _, _, e, _, _ => by cases e
theorem keys_are {X : Cx} {pins : List (Addr × Obj)} {σ : L2.St} {H : Hp} {s : Shared} (I : Inv X pins σ H s) : ∀ (ds : List D) (vs : List V) (us : List Value) (ks : List NestedKey), D.keyAll ds = some ks → Reps (kwX X) H ds vs → Vals vs us → NestedAll s.heap ks us
  | [], _, us, _, e, r, ru => by cases e; cases r; cases ru; exact .nil
  | d :: ds, _, us, _, e, ⟨v, r, ev, r1, r2⟩, ru => by
    subst ev
    cases ru with
    | cons q1 q2 =>
      unfold D.keyAll at e
      cases z : D.key d with
      | none => rw [z] at e; cases e
      | some k =>
        rw [z] at e
        cases z2 : D.keyAll ds with
        | none => rw [z2] at e; cases e
        | some ks =>
          rw [z2] at e
          cases e
          exact .cons (key_is I d _ _ k z r1 q1) (keys_are I ds r _ ks z2 r2 q2)
end
/-- a tuple that may be a key -/
def tkey (d : D) : Bool := match d with
  | .tup _ => (match d.key with
    | some k => decide (k.depth ≤ 8)
    | none => false)
  | _ => false
def asKey : D → Option Key
  | .int i => some (.inl i)
  | .str x => some (.inr x)
  | _ => none
theorem tkey_some {d : D} (h : tkey d = true) : ∃ k, d.key = some k ∧ k.depth ≤ 8 ∧ ∃ xs, d = .tup xs := by
  unfold tkey at h
  cases d with
  | tup xs =>
    cases z : (D.tup xs).key with
    | none => simp only [z] at h; cases h
    | some k =>
      simp only [z] at h
      exact ⟨k, rfl, of_decide_eq_true h, xs, rfl⟩
  | _ => cases h
theorem asKey_some {K : Kw} {G : Hp} {d : D} {v : V} {k : Key} (h : asKey d = some k) (r : Rep K G d v) : v = kV k := by
  cases d with
  | int i => cases h; exact r
  | str x => cases h; exact r
  | _ => cases h

/-! ### a dict's object -/
section
variable {X : Cx} {pins : List (Addr × Obj)} {σ : L2.St} {H : Hp} {s : Shared}
theorem at_idx {α β : Type} {l : List α} {m : List β} {f : α → Option NestedKey} {g : β → NestedKey} (h : l.map f = m.map fun x => some (g x)) {i : Nat} {x : β} (e : m[i]? = some x) : ∃ a, l[i]? = some a ∧ f a = some (g x) := by
  have h1 : (l.map f)[i]? = (m.map fun x => some (g x))[i]? := by rw [h]
  rw [List.getElem?_map, List.getElem?_map, e] at h1
  cases z : l[i]? with
  | none => rw [z] at h1; cases h1
  | some a => rw [z] at h1; exact ⟨a, rfl, by simpa using h1⟩
theorem dt_dict (I : Inv X pins σ H s) {a : Addr} {o : Obj} {ks : List D} {kas vs : List V} (e : H a = some (dtO a o)) (t : DtR (kwX X) a o ks kas vs) (rk : Reps (kwX X) H ks kas) :
    ∃ xs : List (NestedKey × Addr × Value), s.heap.DictOfH (nestedKind X.prog X.w) a xs ∧ xs.length ≤ sizeLine ∧ ks.map D.key = xs.map (fun x => some x.1) ∧ kas = xs.map (fun x => V.ref x.2.1) ∧ Vals vs (xs.map (·.2.2)) ∧ (a == sysModules) = false := by
  have ho : s.heap.get? a = some o := (show ObjOk X.prog X.w H s.heap a (dtO a o) from I.hok a _ e).1
  obtain ⟨hs, hx, es, ep, xs, hd, he, hn, hz, hk, h8, hka, hv⟩ := t
  refine ⟨xs, ⟨o, es, ep, ho, hx, hd, he, fun x hxm => ?_, hn⟩, hz, hk, hka, hv, hs⟩
  obtain ⟨i, hi⟩ := List.getElem?_of_mem hxm
  obtain ⟨d, hd1, hd2⟩ := at_idx (g := fun x : NestedKey × Addr × Value => x.1) hk hi
  obtain ⟨v, hv1, hv2⟩ := rk.get hd1
  subst hka
  rw [List.getElem?_map, hi] at hv1
  cases hv1
  exact ⟨key_is I d _ _ _ hd2 hv2 rfl, h8 x hxm⟩
theorem room8 {k : Nat} {A : Around} (h : A.units + 64 < cLine) : (nestedKind X.prog X.w).room A.in1 := by
  have e := A.in1.units
  show A.in1.units + 8 < cLine
  have : A.in1.units ≤ A.units + 1 := by
    show (A.units + 1) ≤ A.units + 1
    exact Nat.le_refl _
  omega
end

/-! ### where a key stands -/
/-- put at the places that pass, or at the end -/
def zput {κ α : Type} (p : κ → Bool) (ks : List κ) (xs : List α) (k : κ) (v : α) : List κ × List α :=
  if ks.any p then (ks, List.zipWith (fun z x => if p z then v else x) ks xs) else (ks ++ [k], xs ++ [v])
/-! ### d[k], k in d -/
section
variable {X : Cx} {pins : List (Addr × Obj)} {σ : L2.St} {H : Hp} {s : Shared} {x y v : V} {u r : Value} {A : Around} {E : Value → Shared → Prop}
end
theorem dt_len {K : Kw} {a : Addr} {o : Obj} {ks : List D} {kas vs : List V} (t : DtR K a o ks kas vs) : ks.length = vs.length ∧ ks.length = kas.length := by
  obtain ⟨_, _, es, ep, xs, _, _, _, _, hk, _, hka, hv⟩ := t
  have h1 := congrArg List.length hk
  rw [List.length_map, List.length_map] at h1
  have h2 := hv.length
  rw [List.length_map] at h2
  subst hka
  rw [List.length_map]
  omega
section
variable {X : Cx} {M : Mo} {W : WX} {pos : Pos} {a b o i e : Expr} {f g : Ev} {k : Nat}
end

/-! ### a new dict -/
/-- new things of one's own -/
def tOw (K : Kw) (M : Mo) (W : WX) (f : Env → R O) : TE := fun σ H Q => ∃ Fo G δ, ER K M.tp Fo G H δ σ ∧ PX M W σ G H (f δ) fun G' H' o => o.one = true ∧ ∀ p q vs, H' p = none → o.loc K G' p q vs → Reps K G' o.vals vs → Q (.ref p) (upd H' p (o.ho K q vs))
def sOwnO (i : Nat) (f : Env → R O) : Sv := fun δ => bindF (f δ) δ fun o => match o.one with
  | true => .next (δ.set i (.own o))
  | false => .bad
def nDt0 : Env → R O := fun _ => .ok (.dt [] [])
section
variable {X : Cx} {M : Mo} {W : WX} {pos : Pos} {e : Expr} {fo : Env → R O}
theorem ds_ownO (i : Nat) {x : Str} {pos' : Pos} (hN : X.N.Nodup) (he : PE X e (tOw (kwX X) M W fo)) (hi : X.N[i]? = some x := by rfl) (hx : Loc X.env.scope x := by first | exact Or.inl rfl | exact Or.inr rfl) (hs : swapsWith e (some (.Name x pos')) pos.line X.env = pure false := by rfl) (hf : X.fn x = true ∨ X.env.scope.names.lookup x = some .local := by first | exact .inl rfl | exact .inr rfl | assumption) :
    PS X (.Assign [.Name x pos'] e pos) (tS (kwX X) M W (sOwnO i fo)) := by
  refine PS.imp (ps_set hN hi hx he hs hf) fun D σ H ⟨Fo, G, δ, er, q⟩ => ⟨Fo, G, δ, er, ?_⟩
  refine PX.mono (PF.bind er q) fun G1 H1 o t1 ⟨er1, q1⟩ => ?_
  cases ho : o.one with
  | false => rw [ho] at q1; exact False.elim q1
  | true =>
    rw [ho] at q1
    exact ⟨rfl, fun p q0 vs n lo rvs => q1 G1 _ _ .refl (er1.setOwn (q := q0) i n rvs lo ho)⟩
theorem dt_new {K : Kw} {p : Addr} (hb : (p == sysModules) = false) : DtR K p { cls := .type "dict", data := .dict #[] } [] [] [] :=
  ⟨hb, ⟨rfl, rfl, rfl⟩, #[], 0, [], rfl, rfl, List.nodup_nil, Nat.zero_le _, rfl, fun x hx => (by cases hx), rfl, .nil⟩
theorem ext_ok {P : Program} {w : World} {H : Hp} {h : Heap} {a : Addr} {o : Obj} (e : h.get? a = some o) : ObjOk P w H h a (dtO a o) := ⟨e, ⟨o, e⟩, fun h1 h2 k1 k2 => k2 o k1⟩
/-- {} with keys that are tuples -/
theorem dn_dt0 : PE X (.Dict [] [] pos) (tOw (kwX X) M W nDt0) := by
  refine ⟨fun pins s σ H Q I ⟨Fo, G, δ, er, q⟩ => ?_⟩
  obtain ⟨_, q1⟩ := q G H (.refl er.gh)
  refine wpAny_Dict_empty ⟨.ref s.heap.objs.size, upd H s.heap.objs.size (dtO s.heap.objs.size { cls := .type "dict", data := .dict #[] }), I.laid (t' := s.toks) (fun _ _ z => Heap.get?_push_of_some _ z) (Nat.le_refl _) (ext_ok (Heap.get?_push_size _ rfl)), rfl, ?_⟩
  exact q1 s.heap.objs.size (s.heap.objs.size, _) [] (I.hok.fresh (Nat.le_refl _)) ⟨rfl, [], dt_new (beq_eq_false_iff_ne.mpr (Ne.symm (Nat.ne_of_lt I.big))), rfl⟩ rfl
end

/-! ### a thing set aside -/
section
variable {K : Kw} {tp : Tb} {Fo G H G' H' : Hp} {δ : Env} {σ : L2.St}
/-- one more thing that is not ours -/
theorem ER.alienU {D : Addr} {u : HO} (e : ER K tp Fo G (del H D) δ σ) (h : H D = some u) (n : G D = none) (nt : ¬ tp D) : ER K tp (upd Fo D u) G H δ σ where
  gh := fun a o q => (del_some (e.gh a o q)).2
  fh := fun a o q => by
    by_cases z : a = D
    · subst z; rw [upd_same] at q; cases q; exact h
    · rw [upd_ne z] at q; exact (del_some (e.fh a o q)).2
  fg := fun a o q => by
    by_cases z : a = D
    · subst z; exact ⟨n, nt⟩
    · rw [upd_ne z] at q; exact e.fg a o q
  tb := fun a t => by
    obtain ⟨⟨ps, q, r⟩, g⟩ := e.tb a t
    exact ⟨⟨ps, (del_some q).2, r⟩, g⟩
  len := e.len
  val := e.val
  own := by
    obtain ⟨ft, ow, sp⟩ := e.own
    refine ⟨ft, fun i o q => ?_, sp⟩
    obtain ⟨p, h1, h2⟩ := ow i o q
    have far : ∀ a ∈ ft i, a ≠ D := fun a ha => by
      obtain ⟨u, hu, _⟩ := h2.there a ha
      exact (del_some hu).1
    have h3 := h2.mono (H' := H) .refl (fun a _ u hu => (del_some hu).2) fun a ha => (h2.1 a ha).1
    exact ⟨p, h1, fun a ha => ⟨(h2.1 a ha).1, by rw [upd_ne (far a ha)]; exact (h2.1 a ha).2⟩, h3.2⟩
/-- behind a step the thing at D is left out again -/
theorem Tr.delU {D : Addr} {u : HO} (t : Tr tp G H G' H') (h : H D = some u) (n : G D = none) (nt : ¬ tp D) (l : Le G (Dl.del H D)) : Tr tp G (Dl.del H D) G' (Dl.del H' D) ∧ H' D = some u ∧ G' D = none := by
  obtain ⟨h1, n1⟩ := t.2.2.1 D _ n nt h
  refine ⟨⟨t.1, fun a o q => ?_, fun a o g nt q => ?_, fun a ta g q => ?_⟩, h1, n1⟩
  · have z : a ≠ D := ne_of_none q n1
    rw [del_ne z]; exact t.2.1 a o q
  · obtain ⟨z, q'⟩ := del_some q
    obtain ⟨r1, r2⟩ := t.2.2.1 a o g nt q'
    exact ⟨by rw [del_ne z]; exact r1, r2⟩
  · obtain ⟨ps, q1, q2⟩ := q
    obtain ⟨z, q'⟩ := del_some q1
    obtain ⟨⟨ps', r1, r3⟩, r2⟩ := t.2.2.2 a ta g ⟨ps, q', q2⟩
    exact ⟨⟨ps', by rw [del_ne z]; exact r1, r3⟩, r2⟩
end

/-! ### {k: e} -/
section
variable {prog : Program} {w : World} {κ : Type} [DecidableEq κ] {knd : HeapKind prog w κ} {A : Around} {E : Value → Shared → Prop} {s : Shared}
end
section
variable {X : Cx} {M : Mo} {W : WX} {pos : Pos} {ke ve : Expr} {fk fv : Ev} {k : Nat}
end

/-! ### d[k] = e -/
def dputO (o : O) (y v : D) : Option O := match o with
  | .dk ks xs => (match asKey y with
    | some k => if ks.length < sizeLine then some (.dk (zput (fun z => decide (z = k)) ks xs k v).1 (zput (fun z => decide (z = k)) ks xs k v).2) else none
    | none => none)
  | .dt ks xs => (match tkey y with
    | true => if ks.length < sizeLine then some (.dt (zput (fun z => decide (D.key z = D.key y)) ks xs y v).1 (zput (fun z => decide (D.key z = D.key y)) ks xs y v).2) else none
    | false => none)
  | _ => none
def sDPut (i : Nat) (g f : Ev) : Sv := fun δ => match δ[i]? with
  | some (.own o) => (match o.one with
    | true => bindF (f δ) δ fun v => bindF (g δ) δ fun y => (match dputO o y v with
      | some o' => .next (δ.set i (.own o'))
      | none => .bad)
    | false => .bad)
  | _ => .bad
theorem zput_len {κ α : Type} {p : κ → Bool} {ks : List κ} {xs : List α} {k : κ} {v : α} (hl : ks.length = xs.length) : (zput p ks xs k v).1.length = (zput p ks xs k v).2.length := by
  unfold zput
  split
  · simp [hl]
  · simp [hl]
theorem zput_fst {κ α β : Type} {p : κ → Bool} {ks : List κ} {xs : List α} {ys : List β} {k : κ} {v : α} {w : β} : (zput p ks xs k v).1 = (zput p ks ys k w).1 := by
  unfold zput
  split <;> rfl
theorem zput_zip {ks : List Key} {vs : List V} (hl : ks.length = vs.length) (k : Key) (v : V) : putK (ks.zip vs) k v = (zput (fun z => decide (z = k)) ks vs k v).1.zip (zput (fun z => decide (z = k)) ks vs k v).2 := by
  have e : ((ks.zip vs).any fun kv => decide (kv.1 = k)) = ks.any fun z => decide (z = k) := by
    clear v
    induction ks generalizing vs with
    | nil => rfl
    | cons z ks ih =>
      cases vs with
      | nil => simp at hl
      | cons v vs => rw [List.zip_cons_cons, List.any_cons, List.any_cons, ih (by simpa using hl)]
  unfold putK zput
  rw [e]
  split
  · clear e
    rename_i h
    clear h
    induction ks generalizing vs with
    | nil => rfl
    | cons z ks ih =>
      cases vs with
      | nil => simp at hl
      | cons u vs =>
        have ih' := ih (vs := vs) (by simpa using hl)
        dsimp only at ih' ⊢
        rw [List.zip_cons_cons, List.map_cons, List.zipWith_cons_cons, List.zip_cons_cons, ih']
        congr 1
        by_cases e : z = k
        · simp [e]
        · simp [e]
  · rw [List.zip_append hl]; rfl
section
variable {K : Kw} {G : Hp}
theorem Reps.zput {κ : Type} {p : κ → Bool} {ks : List κ} {k : κ} : ∀ {xs : List D} {vs : List V} {d : D} {v : V}, Reps K G xs vs → Rep K G d v → Reps K G (Dl.zput p ks xs k d).2 (Dl.zput p ks vs k v).2 := by
  intro xs vs d v h r
  unfold Dl.zput
  split
  · rename_i hh
    clear hh
    induction ks generalizing xs vs with
    | nil => exact rfl
    | cons z ks ih =>
      cases xs with
      | nil => cases h; exact rfl
      | cons x xs =>
        obtain ⟨u, us, e, h1, h2⟩ := h
        subst e
        refine ⟨_, _, rfl, ?_, ih h2⟩
        show Rep K G (if p z = true then d else x) (if p z = true then v else u)
        cases hz : p z with
        | true => exact r
        | false => exact h1
  · exact h.append (.one r)
theorem stored_zput {xs : List (NestedKey × Addr × Value)} {ks : List D} {kas vs : List V} {y : D} {k : NestedKey} {b : Addr} {v : V} {w : Value} (hk : ks.map D.key = xs.map (fun x => some x.1)) (hy : y.key = some k) (hka : kas = xs.map (fun x => V.ref x.2.1)) (hv : Vals vs (xs.map (·.2.2))) (rv : RelV v w) :
    (zput (fun z => decide (D.key z = D.key y)) ks vs y v).1.map D.key = (storedH xs k b w).map (fun x => some x.1) ∧ (storedH xs k b w).map (fun x => V.ref x.2.1) = (if ks.any (fun z => decide (D.key z = D.key y)) then kas else kas ++ [.ref b]) ∧ Vals (zput (fun z => decide (D.key z = D.key y)) ks vs y v).2 ((storedH xs k b w).map (·.2.2)) := by
  have e : (atKey xs k).isSome = ks.any fun z => decide (D.key z = D.key y) := by
    clear hka hv
    induction xs generalizing ks with
    | nil =>
      cases ks with
      | nil => rfl
      | cons _ _ => simp at hk
    | cons x xs ih =>
      cases ks with
      | nil => simp at hk
      | cons z ks =>
        rw [List.map_cons, List.map_cons] at hk
        injection hk with h1 h2
        rw [List.any_cons, ← ih h2, h1, hy]
        by_cases e : x.1 = k
        · simp [atKey, List.find?_cons, e]
        · simp [atKey, List.find?_cons, e]
  unfold zput storedH
  rw [e]
  split
  · rename_i hh
    clear hh e
    refine ⟨?_, ?_, ?_⟩
    · rw [hk, List.map_map]
      refine List.map_congr_left fun x _ => ?_
      unfold putAt
      by_cases e : x.1 = k <;> simp [e]
    · rw [hka, List.map_map]
      refine List.map_congr_left fun x _ => ?_
      unfold putAt
      by_cases e : x.1 = k <;> simp [e]
    · clear hka
      rw [List.map_map]
      induction xs generalizing ks vs with
      | nil =>
        cases hv
        cases ks with
        | nil => exact .nil
        | cons _ _ => exact .nil
      | cons x xs ih =>
        cases ks with
        | nil => simp at hk
        | cons z ks =>
          rw [List.map_cons, List.map_cons] at hk
          injection hk with h1 h2
          rw [List.map_cons] at hv
          cases hv with
          | cons q1 q2 =>
            rw [List.zipWith_cons_cons, List.map_cons]
            refine .cons ?_ (ih h2 q2)
            show RelV (if decide (z.key = y.key) = true then v else _) (putAt k w x).2.2
            rw [h1, hy]
            unfold putAt
            by_cases e : x.1 = k
            · simp [e]; exact rv
            · simp [e]; exact q1
  · refine ⟨?_, ?_, ?_⟩
    · simp [hk, hy]
    · simp [hka]
    · rw [List.map_append]
      exact hv.append (.cons rv .nil)
end
/-- what a dict at p must be for p[y] = v, and what follows -/
def PutOk (K : Kw) (p : Addr) (y v : V) (H : Hp) (C : Hp → Prop) : Prop :=
  (∃ kvs k, H p = some (.dK kvs) ∧ y = kV k ∧ kvs.length < sizeLine ∧ C (upd H p (.dK (putK kvs k v)))) ∨
  ∃ o ks kas vs d k b, H p = some (dtO p o) ∧ DtR K p o ks kas vs ∧ Reps K H ks kas ∧ y = .ref b ∧ Rep K H d y ∧ d.key = some k ∧ k.depth ≤ 8 ∧ ks.length < sizeLine ∧
    ∀ o', DtR K p o' (zput (fun z => decide (D.key z = D.key d)) ks vs d v).1 (if ks.any (fun z => decide (D.key z = D.key d)) then kas else kas ++ [.ref b]) (zput (fun z => decide (D.key z = D.key d)) ks vs d v).2 → C (upd H p (dtO p o'))
section
variable {X : Cx} {pins : List (Addr × Obj)} {σ : L2.St} {H : Hp} {s : Shared} {y v : V} {u r : Value} {E : Value → Shared → Prop}
theorem put_ok {p : Addr} {C : Hp → Prop} {Q : Unit → Shared → Prop} (hu : X.A.units + 64 < cLine) (I : Inv X pins σ H s) (ry : RelV y u) (rv : RelV v r) (g : PutOk (kwX X) p y v H C) (h : ∀ H' s', C H' → Inv X pins σ H' s' → Q () s') :
    wpAny (model X.prog X.w) X.A (setItem (.ref p) u r) Q E s := by
  rcases g with ⟨kvs, k, e, ey, hl, c⟩ | ⟨o, ks, kas, vs, d, k, b, e, t, rk, ey, rd, hk, h8, hl, c⟩
  · exact d_setItem (by omega) I (.inl ⟨kvs, k, e, ey, hl, rfl⟩) ry rv fun s' I' => h _ s' c I'
  · subst ey
    cases ry
    obtain ⟨xs, dd, hz, hkx, hka, hv, hs⟩ := dt_dict I e t rk
    have hlen : xs.length = ks.length := by
      have := congrArg List.length hkx
      rw [List.length_map, List.length_map] at this
      exact this.symm
    refine wpAny_setItem_heap (knd := nestedKind X.prog X.w) (hsz := hz) (room8 (X := X) (k := 0) hu) ⟨key_is I d _ _ k hk rd rfl, h8⟩ dd fun h' dd' hsb => ?_
    obtain ⟨o', es, ep, ho, hx, hd, he, hks, hn⟩ := dd'
    have I3 : Inv X pins σ (upd H p (dtO p o')) { s with heap := h', toks := s.toks + (nestedKind X.prog X.w).draws k } :=
      I.write (x := p) (e := p) (by rw [e]; exact True.intro) (.inl rfl) (fun b q hb z => (hsb.2 b hb).trans z) ⟨o', ho⟩ (ext_ok ho)
    obtain ⟨z1, z2, z3⟩ := stored_zput (b := b) hkx hk hka hv rv
    refine h _ _ (c o' ⟨hs, hx, es, ep, storedH xs k b r, hd, he, hn, ?_, z1, fun x hxm => (hks x hxm).2, z2.symm, z3⟩) I3
    have := storedH_length xs k b r
    omega
end
section
variable {X : Cx} {M : Mo} {W : WX} {pos : Pos} {e ek : Expr} {f g : Ev} {k : Nat}
theorem ds_dput (i : Nat) {x : Str} {px pt : Pos} (hr : Room k X.A) (he : PE X e (tE (kwX X) M W f)) (hk : PE X ek (tE (kwX X) M W g)) (hN : X.N[i]? = some x := by rfl) (hv : Vis X.env.scope x := by first | exact Or.inl rfl | exact Or.inr (Or.inl rfl) | exact Or.inr (Or.inr rfl)) (hd : (x == ("__debug__" : Str)) = false := by decide) (hcd : (x == ("__classdict__" : Str)) = false := by decide)
    (hs : swapsWith e (some (.Subscript (.Name x px) ek pt)) pos.line X.env = pure false := by rfl) :
    PS X (.Assign [.Subscript (.Name x px) ek pt] e pos) (tS (kwX X) M W (sDPut i g f)) := by
  refine ⟨fun pins s σ H D I ⟨Fo, G, δ, er, q⟩ => ?_⟩
  have q0 : tE (kwX X) M W f σ H fun v H1 => ∃ p, σ[i]? = some (some (.ref p)) ∧ tE (kwX X) M W g σ H1 fun y H2 => PutOk (kwX X) p y v H2 fun H3 => D.nx σ H3 := by
    unfold sDPut at q
    split at q
    · rename_i o z
      cases one : o.one with
      | false => rw [one] at q; exact False.elim q
      | true =>
        rw [one] at q
        refine ⟨Fo, G, δ, er, PX.mono (PF.bind er q) fun G1 H1 d t1 ⟨er1, q1⟩ v rv => ?_⟩
        obtain ⟨p, h1, _⟩ := er1.own1 i _ z one
        refine ⟨p, h1, Fo, G1, δ, er1, PX.mono (PF.bind er1 q1) fun G2 H2 y t2 ⟨er2, q2⟩ w rw => ?_⟩
        obtain ⟨p', h1', q0, vs, lo, g2, g3, g4, g5⟩ := er2.own1 i _ z one
        rw [h1] at h1'
        cases h1'
        have rv2 := Rep.mono t2.1 _ _ rv
        cases o with
        | dk ks xs =>
          replace g4 : H2 p = some (.dK (ks.zip vs)) := g4
          have hl : ks.length = vs.length := (show ks.length = xs.length from lo).trans g5.length.symm
          unfold dputO at q2
          cases hk : asKey y with
          | none => simp only [hk] at q2; exact False.elim q2
          | some kk =>
            simp only [hk] at q2
            by_cases hz : ks.length < sizeLine
            · rw [if_pos hz] at q2
              refine .inl ⟨_, kk, g4, asKey_some hk rw, by rw [List.length_zip]; omega, ?_⟩
              rw [zput_zip hl]
              have er3 := er2.chgOwn (q := q0) (u := .dk (zput (fun z => decide (z = kk)) ks xs kk d).1 (zput (fun z => decide (z = kk)) ks xs kk d).2) i z h1 (Reps.zput (ks := ks) (p := fun z => decide (z = kk)) (k := kk) g5 rv2) (zput_len (show ks.length = xs.length from lo))
              have e3 : (O.dk (zput (fun z => decide (z = kk)) ks xs kk d).1 (zput (fun z => decide (z = kk)) ks xs kk d).2).ho (kwX X) q0 (zput (fun z => decide (z = kk)) ks vs kk v).2 = .dK ((zput (fun z => decide (z = kk)) ks vs kk v).1.zip (zput (fun z => decide (z = kk)) ks vs kk v).2) := by
                show HO.dK _ = _
                rw [zput_fst (ys := vs) (w := v)]
              rw [e3] at er3
              exact q2 G2 _ _ .refl er3
            · rw [if_neg hz] at q2; exact False.elim q2
        | dt ks xs =>
          replace g4 : H2 p = some (dtO q0.1 q0.2) := g4
          obtain ⟨eq, kas, t, rk⟩ := lo
          rw [eq] at g4
          have hl := (dt_len t).1
          unfold dputO at q2
          cases hk : tkey y with
          | false => simp only [hk] at q2; exact False.elim q2
          | true =>
            simp only [hk] at q2
            by_cases hz : ks.length < sizeLine
            · rw [if_pos hz] at q2
              obtain ⟨kk, e1, e2, ys, e3⟩ := tkey_some hk
              obtain ⟨b, ew⟩ : ∃ b, w = .ref b := by
                subst e3
                obtain ⟨b, bs, ew, _⟩ := rw
                exact ⟨b, ew⟩
              refine .inr ⟨q0.2, ks, kas, vs, y, kk, b, g4, t, Reps.mono er2.gh _ _ rk, ew, Rep.mono er2.gh _ _ rw, e1, e2, hz, fun o' t' => ?_⟩
              have er3 := er2.chgOwn (q := (p, o')) (u := .dt (zput (fun z => decide (Dl.D.key z = Dl.D.key y)) ks xs y d).1 (zput (fun z => decide (Dl.D.key z = Dl.D.key y)) ks xs y d).2) i z h1 (Reps.zput (ks := ks) (p := fun z => decide (Dl.D.key z = Dl.D.key y)) (k := y) g5 rv2)
                ⟨rfl, _, by rw [zput_fst (ys := vs) (w := v)]; exact t', by
                  unfold zput
                  split
                  · exact rk
                  · subst ew; exact rk.append (.one rw)⟩
              exact q2 G2 _ _ .refl er3
            · rw [if_neg hz] at q2; exact False.elim q2
        | lst _ => exact False.elim q2
        | ins _ _ _ _ => exact False.elim q2
        | lol _ => cases one
    · exact False.elim q
  refine wpAny_Assign_Subscript (thn (he.run pins s σ H _ I q0) fun r s1 ⟨v, H1, I1, rv, p, hp, q1⟩ => thn ((pe_var (pos := px) hN hv hd hcd).run pins s1 σ H1 (fun w H2 => w = .ref p ∧ H2 = H1) I1 ⟨.ref p, hp, rfl, rfl⟩) fun u s2 ⟨x, H2, I2, rx, ex, eH⟩ => ?_) hs
  subst ex
  subst eH
  cases rx
  refine thn (hk.run pins s2 σ H2 _ I2 q1) fun iv s3 ⟨y, H3, I3, ry, g3⟩ => ?_
  exact put_ok (u64 hr) I3 ry rv g3 fun H' s' c I' => ⟨σ, H', I', c⟩
end
end Dl

set_option Elab.async false
set_option linter.all false
set_option maxRecDepth 100000
set_option maxHeartbeats 2000000
/-! Lists of own lists; x = l.pop(). -/
namespace Dl
open PySem PySem.Spec PyProof.Rows L2

section
variable {K : Kw} {tp : Tb} {Fo G H G' H' : Hp} {δ : Env} {σ : L2.St}
theorem Inner.append {dss ess : List (List D)} {as bs : List Addr} : Inner K G H dss as → Inner K G H ess bs → Inner K G H (dss ++ ess) (as ++ bs) := by
  induction dss generalizing as with
  | nil => intro h g; cases h; exact g
  | cons ds dss ih =>
    rintro ⟨a, r, e, h1, h2⟩ g
    subst e
    exact ⟨a, r ++ bs, rfl, h1, ih h2 g⟩
theorem Inner.length {dss : List (List D)} {as : List Addr} : Inner K G H dss as → as.length = dss.length := by
  induction dss generalizing as with
  | nil => intro h; cases h; rfl
  | cons ds dss ih =>
    rintro ⟨a, r, e, h1, h2⟩
    subst e
    rw [List.length_cons, List.length_cons, ih h2]
theorem Inner.get {dss : List (List D)} {as : List Addr} {j : Nat} {ds : List D} : Inner K G H dss as → dss[j]? = some ds → ∃ a ws, as[j]? = some a ∧ H a = some (.lst ws) ∧ Reps K G ds ws := by
  induction dss generalizing as j with
  | nil => intro _ h; simp at h
  | cons es dss ih =>
    rintro ⟨a, r, e, ⟨ws, h1, h2⟩, h3⟩ h
    subst e
    cases j with
    | zero => simp at h; subst h; exact ⟨a, ws, rfl, h1, h2⟩
    | succ j =>
      obtain ⟨b, us, e1, e2, e3⟩ := ih h3 (by simpa using h)
      exact ⟨b, us, by simpa using e1, e2, e3⟩
/-- one of the inner lists is changed -/
theorem Inner.upd {dss : List (List D)} {as : List Addr} {j : Nat} {a : Addr} {ds : List D} {ws : List V} (nd : as.Nodup) (ha : as[j]? = some a) (r : Reps K G ds ws) : Inner K G H dss as → Inner K G (L2.upd H a (.lst ws)) (dss.set j ds) as := by
  induction dss generalizing as j with
  | nil => intro h; cases h; simp at ha
  | cons es dss ih =>
    rintro ⟨b, s, e, ⟨us, h1, h2⟩, h3⟩
    subst e
    rw [List.nodup_cons] at nd
    cases j with
    | zero =>
      simp at ha
      subst ha
      refine ⟨b, s, rfl, ⟨ws, upd_same, r⟩, h3.mono .refl fun c hc o ho => ?_⟩
      rw [upd_ne (fun z : c = b => nd.1 (z ▸ hc))]; exact ho
    | succ j =>
      have ha' : s[j]? = some a := by simpa using ha
      have hm : a ∈ s := List.mem_of_getElem? ha'
      refine ⟨b, s, rfl, ⟨us, ?_, h2⟩, ih nd.2 ha' h3⟩
      rw [upd_ne (fun z : b = a => nd.1 (z ▸ hm))]; exact h1
end

/-! ### x = [[] for y in it] -/
section
variable {X : Cx} {M : Mo} {W : WX} {pos : Pos} {it : Env → R (List D)}
end

/-! ### x[k].append(e) -/
section
variable {K : Kw} {tp : Tb} {Fo G H G' H' : Hp} {δ : Env} {σ : L2.St}
end
section
variable {X : Cx} {M : Mo} {W : WX} {pos : Pos} {e ek : Expr} {f g : Ev} {it : Env → R (List D)}
end
end Dl

set_option Elab.async false
set_option linter.all false
set_option maxRecDepth 100000
set_option maxHeartbeats 2000000
/-! x = l.pop(); own lists by list(..); list(range(..)); tuple(reversed(..)); sum, max, min; chained comparisons; keyword-only parameters. -/
namespace Dl
open PySem PySem.Spec PyProof.Rows L2

/-! ### x = l.pop() -/
section
variable {X : Cx} {M : Mo} {W : WX} {pos : Pos}
theorem Reps.dropLast {K : Kw} {G : Hp} : ∀ {ds : List D} {vs : List V}, Reps K G ds vs → Reps K G ds.dropLast vs.dropLast
  | [], _, h => by cases h; exact rfl
  | [d], _, ⟨v, r, e, h1, h2⟩ => by cases h2; subst e; exact rfl
  | d :: d' :: ds, _, ⟨v, r, e, h1, h2⟩ => by
    obtain ⟨v', r', e', h3, h4⟩ := h2
    subst e'
    subst e
    exact ⟨v, _, rfl, h1, Reps.dropLast (ds := d' :: ds) ⟨v', r', rfl, h3, h4⟩⟩
end

/-! ### own lists by list(x) -/
section
variable {X : Cx} {M : Mo} {W : WX} {pos : Pos} {a b c : Expr} {f g h : Ev} {k : Nat}
/-! ### list(range(..)) -/
/-! ### tuple(reversed(l)) -/
/-! ### a op b op c -/
end
end Dl

set_option Elab.async false
set_option linter.all false
set_option maxRecDepth 100000
set_option maxHeartbeats 2000000
/-! Defs and classes with one keyword-only parameter. -/
namespace Dl
open PySem PySem.Spec PyProof.Rows L2

/-- how the last parameter comes: by its default dv, by its name kw -/
def BindW (K : PySem.W.Frag) (fd : FuncData) (ps : List Str) (n : Nat) (kw : Str) (dv : V) : Prop :=
  (∃ ds, Vals [dv] ds ∧ Binds K fd ps ds) ∧ ∃ mv : List Value, KBn K fd ps n [kw] (fun us ws => us ++ ws) (fun vs zs => vs ++ zs)
theorem bindW_of {K : PySem.W.Frag} {x qual : Str} {params : Arguments} {body : List Stmt} {scope : Scope} {f : Addr} {fd : FuncData} {ps : List Str} {kw : Str} {dv : V} (F : FunD K x qual params body scope [] [(kw, dv)] f fd) (n : Nat) (hn : n + 1 = ps.length)
    (h1 : ∀ (D : Addr) (doc pm : Value) (an : Option Addr) (cdv ct : Value) (us ks : List Value), us.length = n → ks.length = 1 →
      KwChain D ([kw].zip ks) (bindArgs (PySem.W.fnOf x qual params body scope .none (.ref D) doc pm an cdv ct) ⟨us, []⟩) (ps.zip (us ++ ks)))
    (h2 : ∀ (D : Addr) (doc pm : Value) (an : Option Addr) (cdv ct : Value) (us ws : List Value), us.length = n → ws.length = 1 →
      bindArgs (PySem.W.fnOf x qual params body scope .none (.ref D) doc pm an cdv ct) ⟨us, [kw].zip ws⟩ = pure (ps.zip (us ++ ws))) : BindW K fd ps n kw dv := by
  refine ⟨F.binds0 n (by simp) hn h1, ?_⟩
  exact F.kbinds0 n [kw] [] (fun us _ ws => us ++ ws) (by simp) (fun q hq => by cases hq) (fun r1 _ r2 => r1.append r2) fun D doc pm an cdv ct us mv ws hu hm hw => by
    have : mv = [] := List.length_eq_zero_iff.mp (by simpa using hm)
    subst this
    exact h2 D doc pm an cdv ct us ws hu (by simpa using hw)
section
variable {P : Program} {w : World} {K : PySem.W.Frag} {mg : Str → Option Value} {base : Heap} {M : Mo}
/-- the def x, its last parameter kw keyword-only with the default dv -/
def CanW (P : Program) (w : World) (K : PySem.W.Frag) (mg : Str → Option Value) (base : Heap) (M : Mo) (k : Nat) (x : Str) (n : Nat) (kw : Str) (dv : V) (m : List D → R D) : Prop :=
  ∃ (fd : FuncData) (ps : List Str), FnOk P w K mg base (L2.CX P w) k (He.ga K x) fd ps (spD ⟨K, P, w⟩ M (n + 1) m) ∧ BindW K fd ps n kw dv ∧ PySem.W.keepIn K (.ref (He.ga K x)) = true ∧ mg x = some (.ref (He.ga K x))
theorem canW_mk {x : Str} {st : Stmt} {N ps : List Str} {k n : Nat} {B : Sv} {kw : Str} {dv : V} (F : ∃ fd, FunD K x x (defArgs st) (defBody st) (defScope st) [] [(kw, dv)] (He.fAd K (x, none)) fd) (g : mg x = some (.ref (He.ga K x))) (S : FnScope N ps (defScope st)) (hn : ps.length = n + 1)
    (h1 : ∀ (D : Addr) (doc pm : Value) (an : Option Addr) (cdv ct : Value) (us ks : List Value), us.length = n → ks.length = 1 →
      KwChain D ([kw].zip ks) (bindArgs (PySem.W.fnOf x x (defArgs st) (defBody st) (defScope st) .none (.ref D) doc pm an cdv ct) ⟨us, []⟩) (ps.zip (us ++ ks)))
    (h2 : ∀ (D : Addr) (doc pm : Value) (an : Option Addr) (cdv ct : Value) (us ws : List Value), us.length = n → ws.length = 1 →
      bindArgs (PySem.W.fnOf x x (defArgs st) (defBody st) (defScope st) .none (.ref D) doc pm an cdv ct) ⟨us, [kw].zip ws⟩ = pure (ps.zip (us ++ ws)))
    (hb : ∀ (A : Around) (outer : List PySem.Env) (s : Shared) (H : Hp) (E : XK), Room k (A.deeper (envOfC x (defScope st) s.heap.objs.size (He.fAd K (x, none)) (.ref (He.codeOf K (x, none))))) →
      PSs (cxOf (L2.CX P w) P w K mg base N x (defScope st) (He.fAd K (x, none)) (.ref (He.codeOf K (x, none))) A outer s H E) (defBody st) (tS ⟨K, P, w⟩ M (fun cls d _ H => E cls d H) B)) :
    CanW P w K mg base M (k + 1) x n kw dv (runF N.length B) := by
  obtain ⟨fd, F⟩ := F
  have h := fn_of_data F S hb
  rw [hn] at h
  exact ⟨fd, ps, h, bindW_of F n hn.symm h1 h2, F.kp, g⟩
end
section
variable {X : Cx} {M : Mo} {W : WX} {pos : Pos} {e ke : Expr} {es : List Expr} {f fk : Ev} {fs : Env → R (List D)} {k n : Nat} {m : List D → R D} {x : Str} {p kp : Pos} {kw : Str} {dv : V}
def aSnoc (fs : Env → R (List D)) (f : Ev) : Env → R (List D) := fun δ => fs δ >>= fun xs => f δ >>= fun x => .ok (xs ++ [x])
/-- the call's data, all arguments known -/
theorem call_data {σ : L2.St} {H : Hp} {Q : VK} {fs : Env → R (List D)} (q : tE (kwX X) M W (eCall m fs) σ H Q) (hn : ∀ δ ds, fs δ = .ok ds → ds.length = n) : tA (kwX X) M W fs σ H fun vs H1 => spD (kwX X) M n m vs H1 Q (WE W σ) := by
  obtain ⟨Fo, G, δ, er, q⟩ := q
  refine ⟨Fo, G, δ, er, ?_⟩
  cases z : fs δ with
  | bad => unfold eCall at q; rw [z] at q; exact False.elim q
  | exc c => unfold eCall at q; rw [z] at q; exact q
  | ok ds =>
    unfold eCall at q
    rw [z] at q
    intro G1 H1 t1 vs rvs
    refine ⟨G1, ds, t1.2.1, (er.tr t1).tb, rvs, hn δ ds z, ?_⟩
    replace q : PX M W σ G H (m ds) _ := q
    cases z2 : m ds with
    | ok d => rw [z2] at q; exact fun G' H' t' v rv => q G' H' (t1.trans t') v rv
    | exc c => rw [z2] at q; exact fun G' H' t' => q G' H' (t1.trans t')
    | bad => rw [z2] at q; exact q
/-- f(e, ..), the last parameter by its default -/
theorem de_callD {d0 : D} (C : CanW X.prog X.w X.K X.mg X.base M k x n kw dv m) (hr : Room k X.A) (tk : Takes X W) (hg : Gl X x) (ha : PA X (e :: es) (tA (kwX X) M W fs)) (hd0 : ∀ G, Rep (kwX X) G d0 dv) (hn : ∀ δ ds, fs δ = .ok ds → ds.length = n)
    (hdb : (x == ("__debug__" : Str)) = false := by decide) (he : starEach (e :: es) X.env = (false, eval e X.env) :: starEach es X.env := by rfl) (hpl : (backTo pos (starEach es X.env)).any (·.1) = false := by rfl) :
    PE X (.Call (.Name x p) (e :: es) [] pos) (tE (kwX X) M W (eCall m (aSnoc fs (eC d0)))) := by
  obtain ⟨fd, ps, Fn, ⟨⟨ds, hds, hb⟩, _⟩, hk, hm⟩ := C
  refine ⟨fun pins s σ H Q I q => ?_⟩
  have q1 := call_data (X := X) (n := n + 1) q (fun δ ds h => by
    unfold aSnoc at h
    cases z : fs δ with
    | ok xs => rw [z] at h; cases h; rw [List.length_append, hn δ xs z]; rfl
    | exc c => rw [z] at h; cases h
    | bad => rw [z] at h; cases h)
  obtain ⟨Fo, G, δ, er, q2⟩ := q1
  have q0 : tA (kwX X) M W fs σ H fun vs H1 => spD (kwX X) M (n + 1) m (vs ++ [dv]) H1 Q (WE W σ) := by
    refine ⟨Fo, G, δ, er, ?_⟩
    cases z : fs δ with
    | bad => unfold aSnoc at q2; rw [z] at q2; exact False.elim q2
    | exc c => unfold aSnoc at q2; rw [z] at q2; exact q2
    | ok xs =>
      unfold aSnoc at q2
      rw [z] at q2
      exact fun G1 H1 t1 vs rvs => q2 G1 H1 t1 _ (rvs.append (.one (hd0 G1)))
  refine wpAny_Call_Name_kw (ld_glob I hg hm ?_ hdb)
  refine PySem.W.callWith_K (h₀ := X.base) I.ok.mod.kin hk (thn (ha.run pos pins s σ H _ I q0) fun us s1 ⟨vs, H1, I1, r, q⟩ => ⟨I1.kIn, ?_⟩) he hpl
  exact run_fnSD (E := fun σ => WE W σ) Fn hr hb hds (passAt tk σ) I1 r q
theorem run_fnKS {CX : CXT} {f : Addr} {fd : FuncData} {ps ks : List Str} {sp : Sp} {E : XK} {g : List Value → List Value → List Value} {gV : List V → List V → List V} {pins : List (Addr × Obj)} {σ : L2.St} {H : Hp} {s : Shared} {Q : VK} {us ws : List Value} {vs zs : List V} (F : FnOk X.prog X.w X.K X.mg X.base CX k f fd ps sp) (hr : Room k X.A) (hb : KBn X.K fd ps n ks g gV) (hx : PassesAt CX X σ E)
    (I : Inv X pins σ H s) (r : Vals vs us) (rz : Vals zs ws) (l1 : vs.length = n) (l2 : zs.length = ks.length) (h : sp (gV vs zs) H Q E) : wpAny (model X.prog X.w) X.A (call (.ref f) us (ks.zip ws)) (EP X pins σ Q) X.xe s := by
  have r2 := hb.rel r rz
  refine wpAny_call (codeAny_mono (F.run X.A X.stack s H ⟨us, ks.zip ws⟩ (g us ws) (gV vs zs) Q E hr I.env0 (hb.to s us ws I.kIn (r.length.symm.trans l1) (rz.length.symm.trans l2)) r2 h) fun r s' hq => ?_)
  cases r with
  | error e => exact hx pins H s e s' I hq
  | ok fl =>
    cases fl with
    | ret u => exact I.after hq
    | next => exact False.elim hq
    | brk => exact False.elim hq
    | cont => exact False.elim hq
/-- f(e, .., kw = ke) -/
theorem de_callKw (C : CanW X.prog X.w X.K X.mg X.base M k x n kw dv m) (hr : Room k X.A) (tk : Takes X W) (hg : Gl X x) (ha : PA X (e :: es) (tA (kwX X) M W fs)) (hke : PE X ke (tE (kwX X) M W fk)) (hn : ∀ δ ds, fs δ = .ok ds → ds.length = n)
    (hall : (backToKw pos (keywordEach [⟨some kw, ke, kp⟩] X.env)).all (·.1.isSome) = true := by rfl) (hks : (backToKw pos (keywordEach [⟨some kw, ke, kp⟩] X.env)).filterMap (·.1) = [kw] := by rfl)
    (hdb : (x == ("__debug__" : Str)) = false := by decide) (he : starEach (e :: es) X.env = (false, eval e X.env) :: starEach es X.env := by rfl)
    (hpl : ((backTo pos (starEach (e :: es) X.env)).any (·.1) || (backToKw pos (keywordEach [⟨some kw, ke, kp⟩] X.env)).any (·.1.isNone)) = false := by rfl) :
    PE X (.Call (.Name x p) (e :: es) [⟨some kw, ke, kp⟩] pos) (tE (kwX X) M W (eCall m (aSnoc fs fk))) := by
  obtain ⟨fd, ps, Fn, ⟨_, ⟨mv, hb⟩⟩, hk, hm⟩ := C
  refine ⟨fun pins s σ H Q I q => ?_⟩
  have q1 := call_data (X := X) (n := n + 1) q (fun δ ds h => by
    unfold aSnoc at h
    cases z : fs δ with
    | ok xs =>
      rw [z] at h
      replace h : (fk δ >>= fun x => R.ok (xs ++ [x])) = R.ok ds := h
      cases z2 : fk δ with
      | ok y => rw [z2] at h; cases h; rw [List.length_append, hn δ xs z]; rfl
      | exc c => rw [z2] at h; cases h
      | bad => rw [z2] at h; cases h
    | exc c => rw [z] at h; cases h
    | bad => rw [z] at h; cases h)
  obtain ⟨Fo, G, δ, er, q2⟩ := q1
  have q0 : tA (kwX X) M W fs σ H fun vs H1 => vs.length = n ∧ tE (kwX X) M W fk σ H1 fun v H2 => spD (kwX X) M (n + 1) m (vs ++ [v]) H2 Q (WE W σ) := by
    refine ⟨Fo, G, δ, er, ?_⟩
    cases z : fs δ with
    | bad => unfold aSnoc at q2; rw [z] at q2; exact False.elim q2
    | exc c => unfold aSnoc at q2; rw [z] at q2; exact q2
    | ok xs =>
      unfold aSnoc at q2
      rw [z] at q2
      replace q2 : PX M W σ G H (fk δ >>= fun x => R.ok (xs ++ [x])) _ := q2
      intro G1 H1 t1 vs rvs
      refine ⟨by rw [rvs.length]; exact hn δ xs z, Fo, G1, δ, er.tr t1, ?_⟩
      have q3 := PX.tr q2 t1
      refine PX.mono (PX.bind q3) fun G2 H2 y t2 q4 v rv => ?_
      exact q4 G2 H2 (.refl t2.2.1) _ ((Reps.mono t2.1 _ _ rvs).append (.one rv))
  refine wpAny_Call_Name_kw (ld_glob I hg hm ?_ hdb)
  refine PySem.W.callWith_KW (h₀ := X.base) I.ok.mod.kin hk hall (thn (ha.run pos pins s σ H _ I q0) fun us s1 ⟨vs, H1, I1, r, hl, q⟩ => ?_) hpl he
  refine thn ((pk_cons hke pk_nil).run pos pins s1 σ H1 (fun zs H2 => zs.length = 1 ∧ spD (kwX X) M (n + 1) m (vs ++ zs) H2 Q (WE W σ)) I1 ?_) fun ws s2 ⟨zs, H2, I2, rz, hl2, q2⟩ => ⟨I2.kIn, ?_⟩
  · obtain ⟨Fo, G, δ, er, q⟩ := q
    exact ⟨Fo, G, δ, er, PX.mono q fun G' H' d t q v rv => ⟨rfl, q v rv⟩⟩
  · rw [hks]
    exact run_fnKS Fn hr hb (passAt tk σ) I2 r rz hl (by rw [hl2]; rfl) q2
end

/-! ### classes with a keyword-only parameter of __init__ -/
section
variable {P : Program} {w : World} {K : PySem.W.Frag} {mg : Str → Option Value} {base : Heap} {M : Mo}
end
section
variable {X : Cx} {M : Mo} {W : WX} {pos : Pos} {e ke : Expr} {es : List Expr} {f fk : Ev} {fs : Env → R (List D)} {k n : Nat} {m : List D → R D} {p kp : Pos} {kw : Str} {dv : V} {c : String}
end
end Dl

set_option Elab.async false
set_option linter.all false
set_option maxRecDepth 100000
set_option maxHeartbeats 2000000
/-! try with several clauses; comprehensions of two clauses; sum, max, min. -/
namespace Dl
open PySem PySem.Spec PyProof.Rows L2

/-! ### try: .. except X: .. except Y: .. -/
def goM : List ((String → Option Bool) × Sv) → String → Sv
  | [], n => fun δ => .exc n δ
  | (sub, f) :: r, n => fun δ => match sub n with
    | some true => noX (f δ)
    | some false => goM r n δ
    | none => .bad
def sTryM (l : List ((String → Option Bool) × Sv)) (f : Sv) : Sv := fun δ => match f δ with
  | .exc n δ' => goM l n δ'
  | .next δ' => .next δ'
  | .brk δ' => .brk δ'
  | .cont δ' => .cont δ'
  | .ret d => .ret d
  | .bad => .bad
inductive HdsD (X : Cx) (M : Mo) : List ExceptHandler → List ((String → Option Bool) × Sv) → List (Value × (Addr → Value → Option Addr → TS)) → Prop
  | nil : HdsD X M [] [] []
  | cons {x : Str} {c : Value} {b0 : Stmt} {suite : List Stmt} {np pos' : Pos} {hds : List ExceptHandler} {sub : String → Option Bool} {F : Sv} {r : List ((String → Option Bool) × Sv)} {l : List (Value × (Addr → Value → Option Addr → TS))} (hc : Names X x c)
      (hsub : ∀ n b, sub n = some b → PySem.W.exmOne X.K (M.ec n) c = some b) (hsu : ∀ (a : Addr) (oe : Obj) (pn : List (Addr × Obj)), PSs (X.suite a ((a, oe) :: pn)) (b0 :: suite) (tS (kwX X) M W0 F)) (h : HdsD X M hds r l) :
      HdsD X M (.ExceptHandler (some (.Name x np)) none (b0 :: suite) pos' :: hds) ((sub, F) :: r) ((c, fun _ _ _ => tS (kwX X) M W0 F) :: l)
section
variable {X : Cx} {M : Mo} {W : WX} {pos : Pos} {body : List Stmt} {F1 : Sv}
theorem HdsD.ok {hds : List ExceptHandler} {r : List ((String → Option Bool) × Sv)} {l : List (Value × (Addr → Value → Option Addr → TS))} (h : HdsD X M hds r l) : HdsOk X hds l := by
  induction h with
  | nil => exact .nil
  | cons hc hsub hsu h ih => exact .cons hc (fun a oe cls d pn _ _ => hsu a oe pn) ih
theorem HdsD.go {hds : List ExceptHandler} {r : List ((String → Option Bool) × Sv)} {l : List (Value × (Addr → Value → Option Addr → TS))} (h : HdsD X M hds r l) {D : Ends} {Fo G H : Hp} {δ : Env} {σ : L2.St} {n : String} (er : ER (kwX X) M.tp Fo G H δ σ) (q : PF (kwX X) M W Fo G (goM r n δ) D) : wMany X.K W D l (M.ec n) none σ H := by
  induction h with
  | nil => exact q G σ H .refl er
  | @cons x c b0 suite np pos' hds sub F r l hc hsub hsu h ih =>
    unfold goM at q
    cases y : sub n with
    | none => simp only [y] at q; exact False.elim q
    | some b =>
      simp only [y] at q
      refine ⟨b, hsub n b y, fun eb a na => ?_, fun eb => ?_⟩
      · subst eb
        exact ⟨Fo, G, δ, er, PF.noX q⟩
      · subst eb
        exact ih q
theorem ds_tryM {h0 : ExceptHandler} {hds : List ExceptHandler} {r : List ((String → Option Bool) × Sv)} {l : List (Value × (Addr → Value → Option Addr → TS))} (hs : X.stack = X.env :: X.outer) (hf : X.env.frame = some X.env.locals) (tk : Takes X W)
    (hb : ∀ (W' : WX) (pn : List (Addr × Obj)) (xe : Value → Shared → Prop), Takes (X.tr pn xe) W' → PassesOwn (model X.prog X.w) X.A X.env xe → PSs (X.tr pn xe) body (tS (kwX X) M W' F1))
    (hh : HdsD X M (h0 :: hds) r l) : PS X (.Try body (h0 :: hds) [] [] pos) (tS (kwX X) M W (sTryM r F1)) := by
  refine PS.imp (ps_try_many hs hf tk hb hh.ok) fun D σ H ⟨Fo, G, δ, er, q⟩ => ⟨Fo, G, δ, er, ?_⟩
  unfold sTryM at q
  cases z : F1 δ with
  | next δ' => rw [z] at q; exact q
  | brk δ' => rw [z] at q; exact q
  | cont δ' => rw [z] at q; exact q
  | ret d => rw [z] at q; exact q
  | bad => rw [z] at q; exact q
  | exc n δ' =>
    rw [z] at q
    intro G' σ' H' l' er'
    exact hh.go er' (PF.mono l' q)
end

/-! ### sum, max, min of ints -/
section
variable {X : Cx} {M : Mo} {W : WX} {pos : Pos} {a : Expr} {f : Ev}
theorem bt_max : bootBuiltins "max" = some (.builtin "max") := by decide +kernel
end
/-! ### max(a, b), min(a, b) -/
def max2D : List D → Option D := a2 fun x y => intO (fun i => intO (fun j => some (.int (if j > i then j else i))) y) x
section
variable {X : Cx} {M : Mo} {W : WX} {pos : Pos} {a b : Expr} {f g : Ev}
theorem cs_max2 : CallS (kwX X) (fun xs H Q => ∃ i j, xs = [.int i, .int j] ∧ Q (.int (if j > i then j else i)) H) max2D := fun tp G H ds vs Q l r q => by
  obtain ⟨x, y, t, u, rfl, rfl, rt, ru, q⟩ := a2_of q r
  obtain ⟨i, rfl, rfl, q⟩ := intO_of q rt
  obtain ⟨j, rfl, rfl, q⟩ := intO_of q ru
  exact ⟨i, j, rfl, q.at l rfl⟩
theorem bMax2 {p : Pos} (hc : X.calm = true) (hm : X.mg "max" = none) (ha : PE X a (tE (kwX X) M W f)) (hb : PE X b (tE (kwX X) M W g)) (hg : Gl X "max" := by rfl) (he : starEach [a, b] X.env = (false, eval a X.env) :: starEach [b] X.env := by rfl) (he2 : starEach [b] X.env = (false, eval b X.env) :: starEach [] X.env := by rfl) (hpl : (backTo pos (starEach [b] X.env)).any (·.1) = false := by rfl) : PE X (.Call (.Name "max" p) [a, b] [] pos) (tE (kwX X) M W (eB max2D (aCons f (aCons g aNil)))) :=
  de_callB (call_max2 hc) cs_max2 hg hm bt_max (da_cons ha (da_cons hb da_nil he2) he) (by decide) (by decide) he hpl
end
end Dl

set_option Elab.async false
set_option linter.all false
set_option maxRecDepth 100000
set_option maxHeartbeats 2000000
/-! List comprehensions of two clauses. -/
namespace Dl
open PySem PySem.Spec PyProof.Rows L2
section
variable {K : Kw} {tp : Tb} {Fo G H G' H' : Hp} {δ : Env} {σ : L2.St}
/-- what was set aside is left out again -/
theorem ER.unalien {D : Addr} {u : HO} (e : ER K tp (upd Fo D u) G H δ σ) (hF : Fo D = none) : ER K tp Fo G (del H D) δ σ where
  gh := fun a o q => by
    have : a ≠ D := fun z => by
      have := (e.fg D u upd_same).1
      rw [z, this] at q; cases q
    rw [del_ne this]; exact e.gh a o q
  fh := fun a o q => by
    have : a ≠ D := ne_of_none q hF
    rw [del_ne this]; exact e.fh a o (by rw [upd_ne this]; exact q)
  fg := fun a o q => by
    have : a ≠ D := ne_of_none q hF
    exact e.fg a o (by rw [upd_ne this]; exact q)
  tb := fun a t => by
    have : a ≠ D := fun z => (e.fg D u upd_same).2 (z ▸ t)
    obtain ⟨⟨ps, q, r⟩, g⟩ := e.tb a t
    exact ⟨⟨ps, by rw [del_ne this]; exact q, r⟩, g⟩
  len := e.len
  val := e.val
  own := by
    obtain ⟨ft, ow, sp⟩ := e.own
    refine ⟨ft, fun i o q => ?_, sp⟩
    obtain ⟨p, h1, h2⟩ := ow i o q
    have far : ∀ a ∈ ft i, a ≠ D := fun a ha z => by
      have := (h2.1 a ha).2
      rw [z, upd_same] at this; cases this
    have h3 := h2.mono (H' := del H D) .refl (fun a ha u hu => by rw [del_ne (far a ha)]; exact hu) fun a ha => (h2.1 a ha).1
    exact ⟨p, h1, fun a ha => ⟨(h2.1 a ha).1, by have := (h2.1 a ha).2; rw [upd_ne (far a ha)] at this; exact this⟩, h3.2⟩
end
def map2F (t : Tg) (c : Tv) (it1 : Env → R (List D)) (vs1 : List Nat) (t1 : Tg) (c1 : Tv) (f : Ev) (δ : Env) : List D → R (List D)
  | [] => .ok []
  | d :: ds => match t.put d δ with
    | none => .bad
    | some δ1 => match c δ1 with
      | .ok true => (match it1 δ1 with
        | .ok es => (match mapF t1 c1 f (wipeE δ1 vs1) es with
          | .ok ys => map2F t c it1 vs1 t1 c1 f δ ds >>= fun zs => .ok (ys ++ zs)
          | .exc _ => .bad
          | .bad => .bad)
        | .exc _ => .bad
        | .bad => .bad)
      | .ok false => map2F t c it1 vs1 t1 c1 f δ ds
      | .exc _ => .bad
      | .bad => .bad
def nLc2 (vs vs1 : List Nat) (t : Tg) (it : Env → R (List D)) (c : Tv) (t1 : Tg) (it1 : Env → R (List D)) (c1 : Tv) (f : Ev) : Env → R (List D) := fun δ => it δ >>= fun ds => map2F t c it1 vs1 t1 c1 f (wipeE δ vs) ds >>= fun ys => ofO (if ys.length ≤ sizeLine then some ys else none)
theorem mapF_no {t : Tg} {c : Tv} {f : Ev} {δ : Env} {x : String} : ∀ ds : List D, mapF t c f δ ds ≠ .exc x
  | [], h => by cases h
  | d :: ds, h => by
    unfold mapF at h
    split at h
    · cases h
    · split at h
      · split at h
        · cases h2 : mapF t c f δ ds with
          | ok ys => rw [h2] at h; cases h
          | exc y => rw [h2] at h; cases h; exact mapF_no ds h2
          | bad => rw [h2] at h; cases h
        · cases h
      · exact mapF_no ds h
      · cases h
theorem map2F_no {t : Tg} {c : Tv} {it1 : Env → R (List D)} {vs1 : List Nat} {t1 : Tg} {c1 : Tv} {f : Ev} {δ : Env} {x : String} : ∀ ds : List D, map2F t c it1 vs1 t1 c1 f δ ds ≠ .exc x
  | [], h => by cases h
  | d :: ds, h => by
    unfold map2F at h
    split at h
    · cases h
    · split at h
      · split at h
        · split at h
          · cases h2 : map2F t c it1 vs1 t1 c1 f δ ds with
            | ok ys => rw [h2] at h; cases h
            | exc y => rw [h2] at h; cases h; exact map2F_no ds h2
            | bad => rw [h2] at h; cases h
          · cases h
          · cases h
        · cases h
        · cases h
      · exact map2F_no ds h
      · cases h
      · cases h
/-- one step of the inner walk -/
theorem mapF_step {t : Tg} {c : Tv} {f : Ev} {δ : Env} {d : D} {ds ys : List D} (h : mapF t c f δ (d :: ds) = .ok ys) : ∃ δ1, t.put d δ = some δ1 ∧ ((c δ1 = .ok false ∧ mapF t c f δ ds = .ok ys) ∨ ∃ y zs, c δ1 = .ok true ∧ f δ1 = .ok y ∧ mapF t c f δ ds = .ok zs ∧ ys = y :: zs) := by
  unfold mapF at h
  cases zp : t.put d δ with
  | none => rw [zp] at h; cases h
  | some δ1 =>
    rw [zp] at h
    refine ⟨δ1, rfl, ?_⟩
    cases zc : c δ1 with
    | bad => simp only [zc] at h; cases h
    | exc _ => simp only [zc] at h; cases h
    | ok b =>
      cases b with
      | false => simp only [zc] at h; exact .inl ⟨rfl, h⟩
      | true =>
        simp only [zc] at h
        cases zf : f δ1 with
        | bad => simp only [zf] at h; cases h
        | exc _ => simp only [zf] at h; cases h
        | ok y =>
          simp only [zf] at h
          cases zr : mapF t c f δ ds with
          | bad => rw [zr] at h; cases h
          | exc _ => rw [zr] at h; cases h
          | ok zs => rw [zr] at h; cases h; exact .inr ⟨y, zs, rfl, rfl, rfl, rfl⟩
theorem map2F_step {t : Tg} {c : Tv} {it1 : Env → R (List D)} {vs1 : List Nat} {t1 : Tg} {c1 : Tv} {f : Ev} {δ : Env} {d : D} {ds ys : List D} (h : map2F t c it1 vs1 t1 c1 f δ (d :: ds) = .ok ys) : ∃ δ1, t.put d δ = some δ1 ∧ ((c δ1 = .ok false ∧ map2F t c it1 vs1 t1 c1 f δ ds = .ok ys) ∨ ∃ es us zs, c δ1 = .ok true ∧ it1 δ1 = .ok es ∧ mapF t1 c1 f (wipeE δ1 vs1) es = .ok us ∧ map2F t c it1 vs1 t1 c1 f δ ds = .ok zs ∧ ys = us ++ zs) := by
  unfold map2F at h
  cases zp : t.put d δ with
  | none => rw [zp] at h; cases h
  | some δ1 =>
    rw [zp] at h
    refine ⟨δ1, rfl, ?_⟩
    cases zc : c δ1 with
    | bad => simp only [zc] at h; cases h
    | exc _ => simp only [zc] at h; cases h
    | ok b =>
      cases b with
      | false => simp only [zc] at h; exact .inl ⟨rfl, h⟩
      | true =>
        simp only [zc] at h
        cases zi : it1 δ1 with
        | bad => simp only [zi] at h; cases h
        | exc _ => simp only [zi] at h; cases h
        | ok es =>
          simp only [zi] at h
          cases zf : mapF t1 c1 f (wipeE δ1 vs1) es with
          | bad => simp only [zf] at h; cases h
          | exc _ => simp only [zf] at h; cases h
          | ok us =>
            simp only [zf] at h
            cases zr : map2F t c it1 vs1 t1 c1 f δ ds with
            | bad => rw [zr] at h; cases h
            | exc _ => rw [zr] at h; cases h
            | ok zs => rw [zr] at h; cases h; exact .inr ⟨es, us, zs, rfl, rfl, zf, rfl, rfl⟩
section
variable {X : Cx} {M : Mo} {W : WX} {pos : Pos}
theorem tlc2_of {t t1 : Tg} {it it1 : Env → R (List D)} {c c1 : Tv} {f : Ev} {vs vs1 : List Nat} (hat : ∀ i ∈ t.at, i ∈ vs) (hat1 : ∀ i ∈ t1.at, i ∈ vs1) {σ : L2.St} {H : Hp} {Q : VK} (q : tN (kwX X) M W (nLc2 vs vs1 t it c t1 it1 c1 f) σ H Q) :
    tLc2 (tI (kwX X) M W it) (tG (kwX X) M t) (tT (kwX X) M W0 c) (tI (kwX X) M W0 it1) (tG (kwX X) M t1) (tT (kwX X) M W0 c1) (tE (kwX X) M W0 f) vs vs1 σ H Q := by
  obtain ⟨Fo, G, δ, er, q⟩ := q
  refine ⟨Fo, G, δ, er, ?_⟩
  refine PX.mono (PX.bind q) fun G1 H1 ds tr1 q1 J wk D nD => ?_
  have er1 := er.tr tr1
  have hF : Fo D = none := none_of_le er1.fh nD
  have ntD : ¬ M.tp D := fun z => by
    obtain ⟨⟨ps, e, _⟩, _⟩ := er1.tb D z
    rw [nD] at e; cases e
  cases hm : map2F t c it1 vs1 t1 c1 f (wipeE δ vs) ds with
  | bad => rw [hm] at q1; exact False.elim q1
  | exc x => exact absurd hm (map2F_no ds)
  | ok tot =>
    rw [hm] at q1
    replace q1 : PX M W σ G1 H1 (ofO (if tot.length ≤ sizeLine then some tot else none)) fun G' H' ds => ∀ p vs, H' p = none → Reps (kwX X) G' ds vs → Q (.ref p) (upd H' p (.lst vs)) := q1
    by_cases hz : tot.length ≤ sizeLine
    · rw [if_pos hz] at q1
      have q3 : ∀ G' H', Tr M.tp G1 H1 G' H' → ∀ p vs, H' p = none → Reps (kwX X) G' tot vs → Q (.ref p) (upd H' p (.lst vs)) := q1
      let Iv : Nat → Hp → Prop := fun i H => ∃ G2 acc vacc ys, H D = some (.lst vacc) ∧ G2 D = none ∧ Tr M.tp G1 H1 G2 (Dl.del H D) ∧ Reps (kwX X) G2 acc vacc ∧ map2F t c it1 vs1 t1 c1 f (wipeE δ vs) (ds.drop i) = .ok ys ∧ acc ++ ys = tot
      refine ⟨fun i m H => m = ds.length - i ∧ i ≤ ds.length ∧ Iv i H, ⟨ds.length, by simp, Nat.zero_le _, G1, [], [], tot, upd_same, none_of_le er1.gh nD, by rw [del_upd nD]; exact .refl er1.gh, rfl, hm, rfl⟩, ?_⟩
      rintro i m H2 ⟨rfl, hle, G2, acc, vacc, ys, hD, gD, t2, racc, hys, htot⟩
      have l2 : Le G2 H2 := fun a o q => (del_some (t2.2.1 a o q)).2
      obtain ⟨w1, w2⟩ := wk i G2 H2 t2.1 l2
      by_cases hlt : i < ds.length
      · rw [List.drop_eq_getElem_cons hlt] at hys
        obtain ⟨go, yl⟩ := w2 ds[i] (List.getElem?_eq_getElem hlt)
        refine .inr ⟨go, Iv (i + 1), fun H' z => ⟨ds.length - (i + 1), by omega, rfl, hlt, z⟩, fun x H3 y => ?_⟩
        obtain ⟨G3, t3, rx⟩ := yl x H3 y
        obtain ⟨t3', hD3, gD3⟩ := t3.delU hD gD ntD t2.2.1
        have t13 := t2.trans t3'
        obtain ⟨δ1, zp, hcase⟩ := map2F_step hys
        have er3 : ER (kwX X) M.tp (upd Fo D (.lst vacc)) G3 H3 (wipeE δ vs) (L2.wipe σ vs) := ((er1.tr t13).alienU hD3 gD3 ntD).wipe vs
        refine ⟨upd Fo D (.lst vacc), G3, wipeE δ vs, ds[i], δ1, er3, rx, zp, fun σ' er' bt => ⟨wipe_but hat bt, ?_⟩⟩
        refine ⟨upd Fo D (.lst vacc), G3, δ1, er', ?_⟩
        rcases hcase with ⟨hc, hrest⟩ | ⟨es, us, zs, hc, hi, hu, hrest, eys⟩
        · rw [hc]
          intro G4 H4 t4
          obtain ⟨t4', hD4, gD4⟩ := t4.delU hD3 gD3 ntD t3'.2.1
          exact ⟨G4, acc, vacc, ys, hD4, gD4, t13.trans t4', Reps.mono (t3.1.trans t4.1) _ _ racc, hrest, htot⟩
        · rw [hc]
          intro G4 H4 t4
          obtain ⟨t4', hD4, gD4⟩ := t4.delU hD3 gD3 ntD t3'.2.1
          simp only [if_true]
          refine ⟨upd Fo D (.lst vacc), G4, δ1, er'.tr t4, ?_⟩
          rw [hi]
          intro G5 H5 t5 J1 wk1
          obtain ⟨t5', hD5, gD5⟩ := t5.delU hD4 gD4 ntD t4'.2.1
          have er5 : ER (kwX X) M.tp Fo G5 (Dl.del H5 D) δ1 σ' := ((er'.tr t4).tr t5).unalien hF
          have t15 := (t13.trans t4').trans t5'
          have racc5 := Reps.mono ((t3.1.trans t4.1).trans t5.1) _ _ racc
          subst eys
          -- the inner invariant
          let Jv : Nat → Hp → Prop := fun j H => ∃ G6 acc' vacc' ws, H D = some (.lst vacc') ∧ G6 D = none ∧ Tr M.tp G5 (Dl.del H5 D) G6 (Dl.del H D) ∧ Reps (kwX X) G6 acc' vacc' ∧ mapF t1 c1 f (wipeE δ1 vs1) (es.drop j) = .ok ws ∧ acc' ++ (ws ++ zs) = tot
          refine ⟨fun j k H => k = es.length - j ∧ j ≤ es.length ∧ Jv j H, ⟨es.length, by simp, Nat.zero_le _, G5, acc, vacc, us, hD5, gD5, .refl t5'.2.1, racc5, hu, htot⟩, ?_⟩
          rintro j k H6 ⟨rfl, hle1, G6, acc', vacc', ws, hD6, gD6, t6, racc6, hws, htot6⟩
          have l6 : Le G6 H6 := fun a o q => (del_some (t6.2.1 a o q)).2
          obtain ⟨v1, v2⟩ := wk1 j G6 H6 t6.1 l6
          by_cases hlt1 : j < es.length
          · rw [List.drop_eq_getElem_cons hlt1] at hws
            obtain ⟨go1, yl1⟩ := v2 es[j] (List.getElem?_eq_getElem hlt1)
            refine .inr ⟨go1, Jv (j + 1), fun H' z => ⟨es.length - (j + 1), by omega, rfl, hlt1, z⟩, fun x1 H7 y1 => ?_⟩
            obtain ⟨G7, t7, rx1⟩ := yl1 x1 H7 y1
            obtain ⟨t7', hD7, gD7⟩ := t7.delU hD6 gD6 ntD t6.2.1
            obtain ⟨δ2, zp1, hcase1⟩ := mapF_step hws
            have er7 : ER (kwX X) M.tp (upd Fo D (.lst vacc')) G7 H7 (wipeE δ1 vs1) (L2.wipe σ' vs1) := ((er5.tr (t6.trans t7')).alienU hD7 gD7 ntD).wipe vs1
            refine ⟨upd Fo D (.lst vacc'), G7, wipeE δ1 vs1, es[j], δ2, er7, rx1, zp1, fun σ2 er'' bt1 => ⟨wipe_but hat1 bt1, ?_⟩⟩
            refine ⟨upd Fo D (.lst vacc'), G7, δ2, er'', ?_⟩
            rcases hcase1 with ⟨hc1, hr1⟩ | ⟨y2, ws', hc1, hf1, hr1, ews⟩
            · rw [hc1]
              intro G8 H8 t8
              obtain ⟨t8', hD8, gD8⟩ := t8.delU hD7 gD7 ntD t7'.2.1
              exact ⟨G8, acc', vacc', ws, hD8, gD8, (t6.trans t7').trans t8', Reps.mono (t7.1.trans t8.1) _ _ racc6, hr1, htot6⟩
            · rw [hc1]
              intro G8 H8 t8
              obtain ⟨t8', hD8, gD8⟩ := t8.delU hD7 gD7 ntD t7'.2.1
              simp only [if_true]
              refine ⟨upd Fo D (.lst vacc'), G8, δ2, er''.tr t8, ?_⟩
              rw [hf1]
              intro G9 H9 t9 v rv
              obtain ⟨t9', hD9, gD9⟩ := t9.delU hD8 gD8 ntD t8'.2.1
              have racc9 := Reps.mono ((t7.1.trans t8.1).trans t9.1) _ _ racc6
              subst ews
              have hlen : acc'.length + 1 ≤ tot.length := by rw [← htot6]; simp
              refine ⟨vacc', hD9, by rw [racc6.length]; omega, ?_⟩
              have e9 : Dl.del (upd H9 D (.lst (vacc' ++ [v]))) D = Dl.del H9 D := by
                funext a
                by_cases z : a = D
                · subst z; rw [del_at, del_at]
                · rw [del_ne z, del_ne z, upd_ne z]
              refine ⟨G9, acc' ++ [y2], vacc' ++ [v], ws', upd_same, gD9, ?_, racc9.append (.one rv), hr1, by rw [← htot6]; simp⟩
              rw [e9]
              exact ((t6.trans t7').trans t8').trans t9'
          · have e : es.drop j = [] := List.drop_eq_nil_of_le (by omega)
            rw [e] at hws
            have ews : ws = [] := by
              have : (R.ok [] : R (List Dl.D)) = .ok ws := hws
              cases this
              rfl
            subst ews
            refine .inl ⟨v1 (by omega), G6, acc', vacc', zs, hD6, gD6, t15.trans t6, racc6, hrest, by rw [← htot6]; rfl⟩
      · have e : ds.drop i = [] := List.drop_eq_nil_of_le (by omega)
        rw [e] at hys
        have hys0 : ys = [] := by
          have : (R.ok [] : R (List Dl.D)) = .ok ys := hys
          cases this
          rfl
        subst hys0
        rw [List.append_nil] at htot
        subst htot
        refine .inl ⟨w1 (by omega), ?_⟩
        have eH : upd (Dl.del H2 D) D (.lst vacc) = H2 := by
          funext a
          by_cases z : a = D
          · subst z; rw [upd_same, hD]
          · rw [upd_ne z, del_ne z]
        rw [← eH]
        exact q3 G2 (Dl.del H2 D) t2 D vacc del_at racc
    · rw [if_neg hz] at q1; exact False.elim q1
theorem dn_lc2 {elt tg iter tg1 iter1 : Expr} {ifs ifs1 : List Expr} {scope : Scope} (own : List (Str × Nat)) (vs1 : List Nat) {t t1 : Tg} {it it1 : Env → R (List D)} {c c1 : Tv} {f : Ev} (hc : X.calm = true) (hN : X.N.Nodup) (hi : PI X tg iter (tI (kwX X) M W it)) (ok : BlkOk X.N X.env.scope scope own) (hv : ∀ i ∈ vs1, i ∈ own.map (·.2)) (hat : ∀ i ∈ t.at, i ∈ own.map (·.2)) (hat1 : ∀ i ∈ t1.at, i ∈ vs1)
    (hg : ∀ (s : Shared) (H : Hp) (C : Addr) (cl : List (Str × Addr)) (fp : List Addr), PG (X.blk s H scope (compEnvC scope cl C X.env) fp) tg (tG (kwX X) M t)) (ht : ∀ (s : Shared) (H : Hp) (C : Addr) (cl : List (Str × Addr)) (fp : List Addr), PTs (X.blk s H scope (compEnvC scope cl C X.env) fp) ifs (tT (kwX X) M W0 c))
    (hi1 : ∀ (s : Shared) (H : Hp) (C : Addr) (cl : List (Str × Addr)) (fp : List Addr), PI (X.blk s H scope (compEnvC scope cl C X.env) fp) tg1 iter1 (tI (kwX X) M W0 it1))
    (hg1 : ∀ (s : Shared) (H : Hp) (C : Addr) (cl : List (Str × Addr)) (fp : List Addr), PG (X.blk s H scope (compEnvC scope cl C X.env) fp) tg1 (tG (kwX X) M t1)) (ht1 : ∀ (s : Shared) (H : Hp) (C : Addr) (cl : List (Str × Addr)) (fp : List Addr), PTs (X.blk s H scope (compEnvC scope cl C X.env) fp) ifs1 (tT (kwX X) M W0 c1))
    (he : ∀ (s : Shared) (H : Hp) (C : Addr) (cl : List (Str × Addr)) (fp : List Addr), PE (X.blk s H scope (compEnvC scope cl C X.env) fp) elt (tE (kwX X) M W0 f)) (hs : ∀ x, foldedSetIterable iter X.env x = pure x := by intro _; rfl) (hs1 : ∀ env x, foldedSetIterable iter1 env x = pure x := by intro _ _; rfl) :
    PE X (.ListComp elt [⟨tg, iter, ifs, 0⟩, ⟨tg1, iter1, ifs1, 0⟩] scope pos) (tN (kwX X) M W (nLc2 (own.map (·.2)) vs1 t it c t1 it1 c1 f)) :=
  PE.imp (pe_lc2 hc hN hi ok hv hg ht hi1 hg1 ht1 he hs hs1) fun _ _ _ => tlc2_of hat hat1
end
end Dl

set_option Elab.async false
set_option linter.all false
set_option maxRecDepth 100000
set_option maxHeartbeats 2000000
/-! sorted(..) of ints; list(..) of a dict's keys. -/
namespace Dl
open PySem PySem.Spec PyProof.Rows L2

/-! ### ints in order -/
section
variable {X : Cx} {M : Mo} {W : WX} {pos : Pos} {a : Expr} {f : Ev}
theorem bt_sorted : bootBuiltins "sorted" = some (.builtin "sorted") := by decide +kernel
end

/-! ### list(d), d a dict -/
def keyD : Key → D
  | .inl i => .int i
  | .inr x => .str x
def keysD : List D → Option D := a1 fun d => match d with
  | .dk ks xs => some (.lst (ks.map keyD))
  | .dt ks xs => some (.lst ks)
  | _ => none
def rKeys (K : Kw) : List V → Hp → VK → Prop := fun vs H Q => (∃ p kvs, vs = [.ref p] ∧ Rd H p (.dK kvs) ∧ ∀ q, H q = none → Q (.ref q) (upd H q (.lst (kvs.map fun kv => kV kv.1)))) ∨
  ∃ p o ks kas ws, vs = [.ref p] ∧ H p = some (dtO p o) ∧ DtR K p o ks kas ws ∧ Reps K H ks kas ∧ ∀ q, H q = none → Q (.ref q) (upd H q (.lst kas))
section
variable {X : Cx} {M : Mo} {W : WX} {pos : Pos} {a : Expr} {f : Ev}
theorem call_keys (hc : X.calm = true) : CallR X (.type "list") (rKeys (kwX X)) := by
  intro pins s σ H xs us Q I r h
  rcases h with ⟨p, kvs, e, hk, q⟩ | ⟨p, o, ks, kas, ws, e, hp, t, rk, q⟩
  · subst e
    obtain ⟨u, eu, rx⟩ := vals1 r
    subst eu
    obtain rfl : u = Value.ref p := rx
    obtain ⟨z, lo, vs, rk, hd⟩ := dk_rd I.hok hk
    obtain ⟨ep, hat⟩ := hd.dictAt
    have hl : kvs.length = vs.length := Paired.length rk
    refine PySem.W.kdl_call (PySem.W.kdl_dict (knd := mixKind X.prog X.w) (kvs := vs) (ep := ep) lo) (I.ok.hd hc) hat (by rw [← hl]; exact z) fun h' tk acc' c' hkeep hS hacc => ?_
    refine ⟨.ref s.heap.objs.size, upd H s.heap.objs.size (.lst (kvs.map fun kv => kV kv.1)), I.laid hkeep (Nat.le_refl _) (show ObjOk X.prog X.w _ _ _ (.lst (kvs.map fun kv => kV kv.1)) from ⟨?_, acc'.toList, c', ?_, ?_⟩), rfl, q _ (I.hok.fresh (Nat.le_refl _))⟩
    · rw [List.length_map]; exact z
    · have el : acc'.toList.length = acc'.size := by simp
      refine vals_of_at (by rw [List.length_map, el, hacc.1, hl]) fun j x w h1 h2 => ?_
      obtain ⟨k, y, hky, hi⟩ := hacc.2 j w (by rw [← Array.getElem?_toList]; exact h2)
      have e1 : (kvs.map (·.1))[j]? = some k := by
        rw [KV.keys rk, List.getElem?_map, hky] <;> rfl
      have e2 : (kvs.map fun kv => kV kv.1)[j]? = some (kV k) := by
        have e3 : (kvs.map fun kv => kV kv.1) = (kvs.map (·.1)).map kV := by rw [List.map_map] <;> rfl
        rw [e3, List.getElem?_map, e1] <;> rfl
      rw [e2] at h1
      cases h1
      exact keyIs_rel hi
    · rw [Array.toArray_toList]; exact hS
  · subst e
    obtain ⟨u, eu, rx⟩ := vals1 r
    subst eu
    obtain rfl : u = Value.ref p := rx
    have ho : s.heap.get? p = some o := (show ObjOk X.prog X.w H s.heap p (dtO p o) from I.hok p _ hp).1
    obtain ⟨hs, hx, es, ep, xs, hdt, he, hn, hz, hkx, h8, hka, hv⟩ := t
    have l1 : es.size = xs.length := size_of_entries he
    refine PySem.W.kdl_call (kdl_raw hs hx hdt) (I.ok.hd hc) ho (by omega) fun h' tk acc' c' kp e it => ?_
    have ea : acc'.toList = xs.map fun x => Value.ref x.2.1 := by
      have hl : acc'.toList.length = xs.length := by rw [Array.length_toList, it.1]; exact l1
      apply List.ext_getElem?
      intro j
      rw [List.getElem?_map]
      cases hj : acc'.toList[j]? with
      | none =>
        have h1 := List.getElem?_eq_none_iff.mp hj
        rw [List.getElem?_eq_none (by omega)]; rfl
      | some w =>
        obtain ⟨en, h1, h2⟩ := it.2 j w (by rw [← Array.getElem?_toList]; exact hj)
        have h3 : es.toList[j]? = some en := by rw [Array.getElem?_toList]; exact h1
        rw [he, List.getElem?_map] at h3
        cases h4 : xs[j]? with
        | none => rw [h4] at h3; cases h3
        | some x =>
          rw [h4] at h3
          injection h3 with h3
          subst h3
          rw [h2]; rfl
    refine ⟨.ref s.heap.objs.size, upd H s.heap.objs.size (.lst kas), I.laid kp (Nat.le_refl _) (show ObjOk X.prog X.w _ _ _ (.lst kas) from ⟨?_, acc'.toList, c', ?_, ?_⟩), rfl, q _ (I.hok.fresh (Nat.le_refl _))⟩
    · rw [hka, List.length_map]; exact hz
    · rw [ea, hka]
      have := vals_refs (xs.map fun x => x.2.1)
      rw [List.map_map, List.map_map] at this
      exact this
    · rw [Array.toArray_toList]; exact e
theorem reps_keys {K : Kw} {G : Hp} : ∀ {ks : List Key} {vs : List V}, ks.length = vs.length → Reps K G (ks.map keyD) ((ks.zip vs).map fun kv => kV kv.1)
  | [], _, _ => rfl
  | k :: ks, [], h => by simp at h
  | k :: ks, v :: vs, h => by
    refine ⟨kV k, _, rfl, ?_, reps_keys (by simpa using h)⟩
    cases k with
    | inl i => exact rfl
    | inr x => exact rfl
theorem cs_keys : CallS (kwX X) (rKeys (kwX X)) keysD := fun tp G H ds vs Q l r q => by
  obtain ⟨y, u, rfl, rfl, ru, q⟩ := a1_of q r
  cases y with
  | dk ks xs =>
    obtain ⟨p, ws, rfl, hp, hl, rs⟩ := ru
    exact .inl ⟨p, _, rfl, .inl (l p _ hp), fun q' n => QX.newLst q l (reps_keys (hl.trans rs.length.symm)) n⟩
  | dt ks xs =>
    obtain ⟨p, o, kas, ws, rfl, hp, t, rk, rs⟩ := ru
    exact .inr ⟨p, o, ks, kas, ws, rfl, l p _ hp, t, Reps.mono l _ _ rk, fun q' n => QX.newLst q l rk n⟩
  | _ => exact False.elim q
theorem bKeys {p : Pos} (hc : X.calm = true) (hm : X.mg "list" = none) (ha : PE X a (tE (kwX X) M W f)) (hg : Gl X "list" := by rfl) (he : starEach [a] X.env = (false, eval a X.env) :: starEach [] X.env := by rfl) : PE X (.Call (.Name "list" p) [a] [] pos) (tE (kwX X) M W (eB keysD (aCons f aNil))) :=
  de_callTy (call_keys hc) cs_keys hg hm bt_list (da_cons ha da_nil he) (by decide) (by decide) he
end

/-! ### a test a if t else b -/
def tIf' (t u v : Tv) : Tv := fun δ => t δ >>= fun x => match x with
  | true => u δ
  | false => v δ
section
variable {X : Cx} {M : Mo} {W : WX} {pos : Pos} {a b c : Expr} {t u v : Tv}
end
end Dl

set_option Elab.async false
set_option linter.all false
set_option maxRecDepth 100000
set_option maxHeartbeats 2000000
namespace Dl
open PySem PySem.Spec PyProof.Rows L2
/-! ### a, b = x, y with plain names of the def: stored at once -/
def sPar (is : List Nat) (f : Env → R (List D)) : Sv := fun δ => bindF (f δ) δ fun ds => if ds.length = is.length then .next (setAll is ds δ) else .bad
section
variable {X : Cx} {M : Mo} {W : WX} {fs : Env → R (List D)}
end
end Dl

set_option Elab.async false
set_option linter.all false
set_option maxRecDepth 100000
set_option maxHeartbeats 2000000
/-! max and min of a tuple of ints. -/
namespace Dl
open PySem PySem.Spec PyProof.Rows L2
section
variable {prog : Program} {w : World} {A : Around} {E : Value → Shared → Prop} {s : Shared} {l : Addr} {its : List Value} {ns : List Int} {Q : Value → Shared → Prop}
end
section
variable {X : Cx}
end
section
variable {X : Cx} {M : Mo} {W : WX} {pos : Pos} {a : Expr} {f : Ev}
end
end Dl

set_option Elab.async false
set_option linter.all false
set_option maxRecDepth 100000
set_option maxHeartbeats 2000000
/-! list(reversed(t)), t a tuple. -/
namespace RT
open PySem PySem.Spec PyProof.Rows
theorem Walks.rt {prog : Program} {w : World} {A : Around} (hh : A.handled = none) (I l : Addr) (hne : l ≠ I) (items : Array Value) (hsz : items.size ≤ sizeLine) :
    Walks prog w A I [I, l] [I] items.size (fun i v => items[items.size - 1 - i]? = some v) (fun i h => i ≤ items.size ∧ IsRt h I l ((items.size : Int) - 1 - (i : Int)) ∧ IsTup h l items) where
  sub := fun b hb => by simp at hb; simp [hb]
  frame := fun _ _ _ x hk => ⟨x.1, x.2.1.at fun o e => hk I (by simp) o e, by
    obtain ⟨o, ho, r⟩ := x.2.2
    exact ⟨o, hk l (by simp) o ho, r⟩⟩
  item := fun i s Q E hi x hQ => by
    have e : (items.size : Int) - 1 - (i : Int) = ((items.size - 1 - i : Nat) : Int) := by omega
    have hit := x.2.1
    rw [e] at hit
    have hx : items[items.size - 1 - i]? = some (items[items.size - 1 - i]'(by omega)) := Array.getElem?_eq_getElem (by omega)
    refine next_rt_item hit x.2.2 hx hsz fun h' hit' hs' => ?_
    have e2 : ((items.size - 1 - i : Nat) : Int) - 1 = (items.size : Int) - 1 - ((i + 1 : Nat) : Int) := by omega
    rw [e2] at hit'
    refine hQ _ h' _ hx ⟨hi, hit', ?_⟩ fun b o hb eo => hs'.extBut b o (fun h => hb (by simp [h])) eo
    obtain ⟨o, ho, r⟩ := x.2.2
    exact ⟨o, (hs'.2 l hne).trans ho, r⟩
  done := fun s Q E x hQ => by
    have e : (items.size : Int) - 1 - (items.size : Int) = -1 := by omega
    have hit := x.2.1
    rw [e] at hit
    exact next_rt_end hh hit fun h' he' => hQ h' s.toks fun b o hb eo => he' b o (fun h => hb (by simp [h])) eo
  self := fun _ _ _ _ x hQ => iter_rt x.2.1 hQ
section
variable {prog : Program} {w : World} {A : Around} {E : Value → Shared → Prop} {s : Shared}
end
end RT
namespace RT
open PySem PySem.Spec PyProof.Rows L2
end RT
namespace Dl
open PySem PySem.Spec PyProof.Rows L2
section
variable {X : Cx} {M : Mo} {W : WX} {pos : Pos} {a : Expr} {f : Ev}
end
end Dl

set_option Elab.async false
set_option linter.all false
set_option maxRecDepth 100000
set_option maxHeartbeats 2000000
/-! any(..), all(..) of a generator expression with two clauses. -/
namespace Dl
open PySem PySem.Spec PyProof.Rows L2
open Sem (wp)

section
variable {X : Cx} {pins : List (Addr × Obj)} {σ : L2.St}
end
end Dl

namespace Dl
open PySem PySem.Spec PyProof.Rows L2
open Sem (wp)
section
variable {M : Model} {A : Around} {E : Value → Shared → Prop} {s : Shared}
end
section
variable {prog : Program} {w : World} {A : Around}
end
section
variable {X : Cx} {pins : List (Addr × Obj)} {σ : L2.St} {H : Hp} {s : Shared}
end
end Dl

/-! ### over data -/
namespace Dl
open PySem PySem.Spec PyProof.Rows L2
section
variable {X : Cx} {M : Mo} {W : WX} {pos : Pos}
end
end Dl

set_option Elab.async false
set_option linter.all false
set_option maxRecDepth 100000
set_option maxHeartbeats 2000000
/-! sorted(..) of tuples of ints and texts; a list of one's own handed on by x = y. -/
namespace SrtT
open PySem PySem.Spec PyProof.Rows SrtO Srt
section
variable {prog : Program} {w : World} {A : Around} {E : Value → Shared → Prop} {s : Shared}
def IsSq (h : Heap) (l : Addr) (items : Array Value) : Prop := ∃ o, h.get? l = some o ∧ (o.cls = .type "list" ∨ o.cls = .type "tuple") ∧ ∃ n, o.data = .seq items n
theorem collect_sq {l : Addr} {vs : List Value} {Q : List Value → Shared → Prop} (hl : IsSq s.heap l vs.toArray)
    (h : Q vs { s with heap := (s.heap.push (seqObj "list" #[] 0)).update s.heap.objs.size (Obj.mapSeq (· ++ vs.toArray)) }) (hsz : vs.length ≤ sizeLine) :
    wpAny (model prog w) A (collect (.ref l)) Q E s := by
  obtain ⟨o, ho, hc, n, hd⟩ := id hl
  unfold collect
  refine wpAny_bind (wpAny_runValue (codeAny_builtin entry_proto_collect' ?_))
  show wpAny _ _ (do again (.builtin "list.__iadd__" ⟨[← newList [], .ref l], []⟩)) _ _ s
  refine wpAny_bind (wpAny_newList (wpAny_pure ⟨Code.quiet_builtin _ (by decide +kernel), codeAny_builtin entry_list_iadd' ?_⟩))
  show wpAny _ _ (Builtin.List.listExtendWith (.ref s.heap.objs.size) (.ref l) (.ref s.heap.objs.size)) _ _ { s with heap := s.heap.push (seqObj "list" #[] 0) }
  unfold Builtin.List.listExtendWith
  have ho' : (s.heap.push (seqObj "list" #[] 0)).get? l = some o := Heap.get?_push_of_some _ ho
  have fin : ∀ t : Value, (t = .type "list" ∨ t = .type "tuple") → (Builtin.List.listSameRef (.ref s.heap.objs.size) (.ref l) || t == .type "list" || t == .type "tuple") = true := fun t ht => by
    rcases ht with rfl | rfl
    · have : (Value.type "list" == Value.type "list") = true := by rfl
      rw [this]; simp
    · have : (Value.type "tuple" == Value.type "tuple") = true := by rfl
      rw [this]; simp
  have ty : ∃ T : String, (T = "list" ∨ T = "tuple") ∧ o.cls = .type T := by
    rcases hc with hc | hc
    · exact ⟨_, .inl rfl, hc⟩
    · exact ⟨_, .inr rfl, hc⟩
  obtain ⟨T, hT, hcT⟩ := ty
  refine wpAny_bind (wpAny_typeOf (T := T) ⟨o, ho', hcT⟩ ?_)
  rw [if_pos (fin _ (by rcases hT with rfl | rfl; exact .inl rfl; exact .inr rfl))]
  refine wpAny_bind (listItems_at ho' hd ?_)
  refine wpAny_bind (listItems_at (xs := #[]) (n := 0) (Heap.get?_push_size _ rfl) rfl ?_)
  rw [if_neg (by simp)]
  refine wpAny_bind (listUpdate_at (xs := #[]) (n := 0) (Heap.get?_push_size _ rfl) rfl ?_ (Nat.zero_le _) (by show (#[] ++ vs.toArray).size ≤ sizeLine + 1; simp only [Array.size_append, List.size_toArray, List.length_nil]; omega))
  refine wpAny_pure ?_
  show wpAny (model prog w) A (do
      let o ← load s.heap.objs.size
      match o.data with
      | .seq xs _ => pure xs.toList
      | _ => unsupported "internal:collect") Q E { s with heap := (s.heap.push (seqObj "list" #[] 0)).update s.heap.objs.size (Obj.mapSeq (· ++ vs.toArray)) }
  refine wpAny_bind (wpAny_load (get?_update_seq (Heap.get?_push_size _ rfl) _) ?_)
  show wpAny _ _ (pure ((#[] : Array Value) ++ vs.toArray).toList) Q E _
  rw [show ((#[] : Array Value) ++ vs.toArray).toList = vs by simp]
  exact wpAny_pure h
end
end SrtT

namespace L2
open PySem PySem.Spec PyProof.Rows
section
variable {X : Cx} {shape : Nat → Bool}
end
end L2
namespace Dl
open PySem PySem.Spec PyProof.Rows L2
/-! ### in the order of a key -/
theorem reps_zip {K : Kw} {G : Hp} : ∀ {ds : List D} {vs : List V}, Reps K G ds vs → ∃ L : List (D × V), L.map (·.1) = ds ∧ L.map (·.2) = vs ∧ ∀ p ∈ L, Rep K G p.1 p.2
  | [], _, h => by cases h; exact ⟨[], rfl, rfl, fun p hp => by cases hp⟩
  | d :: ds, _, ⟨v, r, e, h1, h2⟩ => by
    subst e
    obtain ⟨L, l1, l2, l3⟩ := reps_zip h2
    exact ⟨(d, v) :: L, by rw [List.map_cons, l1], by rw [List.map_cons, l2], fun p hp => by
      rcases List.mem_cons.mp hp with rfl | hp
      · exact h1
      · exact l3 p hp⟩
theorem reps_unzip {K : Kw} {G : Hp} : ∀ {L : List (D × V)}, (∀ p ∈ L, Rep K G p.1 p.2) → Reps K G (L.map (·.1)) (L.map (·.2))
  | [], _ => rfl
  | p :: L, h => ⟨p.2, L.map (·.2), rfl, h p List.mem_cons_self, reps_unzip fun q hq => h q (List.mem_cons_of_mem _ hq)⟩
section
variable {X : Cx} {M : Mo} {W : WX} {pos : Pos} {a : Expr} {f : Ev} {shape : Nat → Bool}
end
/-! ### x = y, a thing of one's own handed on -/
section
variable {K : Kw} {tp : Tb} {Fo G H : Hp} {δ : Env} {σ : L2.St}
end
section
variable {X : Cx} {M : Mo} {W : WX} {pos : Pos}
end
end Dl

set_option Elab.async false
set_option linter.all false
set_option maxRecDepth 100000
set_option maxHeartbeats 2000000
/-! {k: v for ..}, d.get(k, x), dict(pairs), displays of several pairs. -/
namespace Dl
open PySem PySem.Spec PyProof.Rows L2

/-! ### {k: v for target in iter if ..} -/
section
variable {X : Cx} {M : Mo} {W : WX} {pos : Pos}
end
end Dl

set_option Elab.async false
set_option linter.all false
set_option maxRecDepth 100000
set_option maxHeartbeats 2000000
/-! d.get(k, x), dict(t) of a tuple of pairs, displays of several pairs. -/
namespace Dl
open PySem PySem.Spec PyProof.Rows L2

/-! ### d.get(k, x) -/
section
variable {X : Cx} {M : Mo} {W : WX} {apos cpos : Pos} {o e e2 : Expr} {f g h : Ev} {k : Nat}
end
end Dl

/-! ### dict(t) of a tuple of pairs -/
namespace DcT
open PySem PySem.Spec PyProof.Rows L2
section
variable {prog : Program} {w : World} {A : Around} {E : Value → Shared → Prop}
end
section
variable {X : Cx}
end
end DcT

set_option Elab.async false
set_option linter.all false
set_option maxRecDepth 100000
set_option maxHeartbeats 2000000
/-! pairs put one by one: dict(t), displays. -/
namespace Dl
open PySem PySem.Spec PyProof.Rows L2
/-! ### pairs put one by one -/
section
variable {K : Kw} {G H : Hp}
end
section
variable {X : Cx}
variable {M : Mo} {W : WX} {pos : Pos} {a : Expr} {f : Ev}
/-! ### {k: v, ..} -/
inductive PDs (X : Cx) (M : Mo) (W : WX) : List (Option Expr) → List Expr → List (Ev × Ev) → Prop
  | nil : PDs X M W [] [] []
  | cons {k v : Expr} {ks : List (Option Expr)} {vs : List Expr} {fk fv : Ev} {l : List (Ev × Ev)} : PE X k (tE (kwX X) M W fk) → PE X v (tE (kwX X) M W fv) → PDs X M W ks vs l → PDs X M W (some k :: ks) (v :: vs) ((fk, fv) :: l)
theorem PDs.facts {ks : List (Option Expr)} {vs : List Expr} {l : List (Ev × Ev)} (h : PDs X M W ks vs l) : ks.all (·.isSome) = true ∧ ks.length = vs.length ∧ ks.length = l.length := by
  induction h with
  | nil => exact ⟨rfl, rfl, rfl⟩
  | cons _ _ _ ih =>
    obtain ⟨a, b, c⟩ := ih
    exact ⟨by simpa using a, by simp [b], by simp [c]⟩
theorem PX.base {α : Type} {σ : L2.St} {G H G' H' : Hp} {r : R α} {k : Hp → Hp → α → Prop} (t : Tr M.tp G H G' H') (q : PX M W σ G H r k) : PX M W σ G' H' r k := by
  cases r with
  | ok a => exact fun G2 H2 t2 => q G2 H2 (t.trans t2)
  | exc c => exact fun G2 H2 t2 => q G2 H2 (t.trans t2)
  | bad => exact q
end
end Dl

set_option Elab.async false
set_option linter.all false
set_option maxRecDepth 100000
set_option maxHeartbeats 2000000
/-! Sets of ints and texts; set comprehensions of one and of two clauses. -/
namespace Sx
open PySem PySem.Spec PyProof.Rows L2 PpSet

def keyM (e : Int × Value) : Key := match e.2 with
  | .int k _ => .inl k
  | .str x _ => .inr x
  | _ => .inl 0
def GoodM (w : World) (e : Int × Value) : Prop := ∃ k, keyIs k e.2 = true ∧ e.1 = keyH w k
theorem keyM_of {e : Int × Value} {k : Key} (h : keyIs k e.2 = true) : keyM e = k := by
  unfold keyM
  rcases keyIs_shape h with ⟨i, t, rfl, q⟩ | ⟨x, t, rfl, q⟩ <;> rw [q]
theorem key_scan {k : Key} {v : Value} (h : keyIs k v = true) : v.scannable = true := by
  rcases keyIs_shape h with ⟨i, t, rfl, q⟩ | ⟨x, t, rfl, q⟩ <;> rw [q] <;> rfl
def memM (ks : List Key) (k : Key) : Bool := ks.any fun z => decide (z = k)
theorem memM_iff {ks : List Key} {k : Key} : memM ks k = true ↔ k ∈ ks := by
  unfold memM
  rw [List.any_eq_true]
  constructor
  · rintro ⟨z, hz, e⟩
    exact of_decide_eq_true e ▸ hz
  · intro h
    exact ⟨k, h, decide_eq_true rfl⟩
theorem memM_no {ks : List Key} {k : Key} (h : k ∉ ks) : memM ks k = false := by
  cases e : memM ks k with
  | false => rfl
  | true => exact absurd (memM_iff.mp e) h
def addM (ks : List Key) (k : Key) : List Key := if memM ks k = true then ks else ks ++ [k]
/-- the set at a: its members ks, each once, in any order -/
def SetM (w : World) (h : Heap) (a : Addr) (ks : List Key) : Prop :=
  ∃ o es ep t, h.get? a = some o ∧ o.ExactSet ∧ o.data = .set es ep t ∧ (∀ e ∈ es.toList, GoodM w e) ∧ ks.Nodup ∧ (es.toList.map keyM).Perm ks ∧
    es.size < scanBound ∧ t.fits es.size = true ∧ Ris t.place.toList ∧ (w.params.followText "set-order" = true ∨ t.led = true)
section
variable {P : Program} {w : World} {h h' : Heap} {a : Addr} {ks : List Key}
theorem SetM.at (R : SetM w h a ks) (k : ∀ o, h.get? a = some o → h'.get? a = some o) : SetM w h' a ks := by
  obtain ⟨o, es, ep, t, ho, r⟩ := R
  exact ⟨o, es, ep, t, k o ho, r⟩
theorem goodM_elems {l : List (Int × Value)} (g : ∀ e ∈ l, GoodM w e) : ElemsOf (mixKind P w) l := fun e he => by
  obtain ⟨k, h1, h2⟩ := g e he
  exact ⟨⟨k, h1, h2⟩, key_scan h1⟩
theorem goodM_is {e : Int × Value} (g : GoodM w e) (k : Key) : (mixKind P w).is k e.2 = true ↔ keyM e = k := by
  obtain ⟨k0, h1, _⟩ := g
  rw [keyM_of h1]
  constructor
  · intro h
    exact (mixKind P w).inj e.2 _ _ h1 h
  · rintro rfl
    exact h1
theorem goodM_mem {l : List (Int × Value)} (g : ∀ e ∈ l, GoodM w e) (k : Key) : k ∈ l.map keyM ↔ ∃ e ∈ l, (mixKind P w).is k e.2 = true := by
  rw [List.mem_map]
  constructor
  · rintro ⟨e, he, q⟩
    exact ⟨e, he, (goodM_is (g e he) k).2 q⟩
  · rintro ⟨e, he, q⟩
    exact ⟨e, he, (goodM_is (g e he) k).1 q⟩
theorem SetM.setOf (R : SetM w h a ks) : h.SetOf (mixKind P w) a (memM ks) ks.length := by
  obtain ⟨o, es, ep, t, ho, hx, hd, g, nd, hm, hb, hf, _⟩ := R
  exact ⟨o, es, ep, t, ho, hx, hd, goodM_elems g, fun k => by rw [memM_iff, ← hm.mem_iff]; exact goodM_mem g k, hb, hf, by rw [← hm.length_eq, List.length_map, Array.length_toList]⟩
end
section
variable {P : Program} {w : World} {A : Around} {E : Value → Shared → Prop} {s : Shared} {a : Addr} {ks : List Key}
theorem setM_add_tail {g : Bool → Sem Unit} (hg : ∀ (b : Bool) (s₁ : Shared) (Q' : Unit → Shared → Prop), Q' () s₁ → wpAny (model P w) A (g b) Q' E s₁)
    {o : Obj} {es : Array (Int × Value)} {ep : Nat} {t : SetTable} (ho : s.heap.get? a = some o) (hex : o.ExactSet) (hd : o.data = .set es ep t)
    {es1 : Array (Int × Value)} {t2 : SetTable} {ks' : List Key} (g1 : ∀ e ∈ es1.toList, GoodM w e) (nd1 : ks'.Nodup) (m1 : (es1.toList.map keyM).Perm ks')
    (hb1 : es1.size < scanBound) (hf2 : t2.fits es1.size = true) (hr : Ris t2.place.toList) (hl : w.params.followText "set-order" = true ∨ t2.led = true) {wasDummy : Bool} {R : Option Bool → Shared → Prop}
    (hR : ∀ h', Heap.SameBut a s.heap h' → SetM w h' a ks' → R (some true) { s with heap := h' }) :
    wpAny (model P w) A (do
        storeSet a es1 t2
        if (!wasDummy && t2.tooFull) = true then do
            g (relayAll t2 es1 (SetTable.grown es1.size)).2.2
            storeSet a (relayAll t2 es1 (SetTable.grown es1.size)).1 (relayAll t2 es1 (SetTable.grown es1.size)).2.1
            pure (some true)
          else pure (some true)) R E s := by
  refine wpAny_bind (wpAny_storeSet_of ho hd ?_ (fits_of_scanBound hb1))
  have ho1 := storeB_at (es' := es1) (t' := t2) ho hd
  have sb1 := Heap.SameBut.update s.heap a (Obj.putSet es1 t2)
  split
  · have pm := relayAll_perm t2 es1 (SetTable.grown es1.size)
    have hf3 := relayAll_fits t2 es1 (SetTable.grown es1.size)
    have hr3 := relayAll_ris t2 es1 (SetTable.grown es1.size)
    have hl3 := relayAll_led t2 es1 (SetTable.grown es1.size)
    generalize relayAll t2 es1 (SetTable.grown es1.size) = Z at pm hf3 hr3 hl3 ⊢
    obtain ⟨es2, t3, gave⟩ := Z
    dsimp only at pm hf3 hr3 hl3 ⊢
    have hsz : es2.size = es1.size := by rw [← Array.length_toList, pm.length_eq, Array.length_toList]
    have hb2 : es2.size < scanBound := by rw [hsz]; exact hb1
    refine wpAny_bind (hg _ _ _ ?_)
    refine wpAny_bind (wpAny_storeSet_of ho1 rfl ?_ (fits_of_scanBound hb2))
    have ho2 := storeB_at (es' := es2) (t' := t3) ho1 rfl
    refine wpAny_pure (hR _ (sb1.trans (Heap.SameBut.update _ a _)) ?_)
    exact ⟨_, es2, _, t3, ho2, hex, rfl, fun e he => g1 e (pm.mem_iff.mp he), nd1, (pm.map keyM).trans m1, hb2, hf3, hr3,
      hl.imp id fun z => by rw [hl3]; exact z⟩
  · exact wpAny_pure (hR _ sb1 ⟨_, es1, _, t2, ho1, hex, rfl, g1, nd1, m1, hb1, hf2, hr, hl⟩)

theorem setM_add_hashed {k : Key} {v : Value} {Q : Bool → Shared → Prop} (hkey : keyIs k v = true) (R : SetM w s.heap a ks) (room : ks.length + 1 < scanBound)
    (hQ : ∀ h', Heap.SameBut a s.heap h' → SetM w h' a (addM ks k) → Q (!memM ks k) { s with heap := h' }) :
    wpAny (model P w) A (setAddHashed a v ((mixKind P w).hash k)) Q E s := by
  obtain ⟨o, es, ep, t, ho, hex, hd, g, nd, hm, hb, hf, hr, hl⟩ := R
  have hn : es.size = ks.length := by rw [← hm.length_eq, List.length_map, Array.length_toList]
  have hsc : v.scannable = true := key_scan hkey
  have hel : ElemsOf (mixKind P w) es.toList := goodM_elems g
  have hkey' : (mixKind P w).is k v = true := hkey
  unfold setAddHashed setAddHashedIn
  refine wpAny_holding (wpAny_bind (wpAny_setState_of ho hd hf ?_))
  dsimp only
  rw [byScan_of hsc hb hel]
  simp only [↓reduceIte]
  unfold setAddByScan
  refine wpAny_bind ?_
  refine wpAny_bind (wpAny_rule ?_)
  refine wpAny_bind (wpAny_setScan_of hkey' ho hd hf hel ?_)
  cases hfi : List.findIdx? (fun e => (mixKind P w).is k e.2) es.toList with
  | some j =>
    dsimp only
    obtain ⟨hj, pj, _⟩ := List.findIdx?_eq_some_iff_getElem.mp hfi
    have hSk : k ∈ ks := hm.mem_iff.mp ((goodM_mem (P := P) (w := w) g k).2 ⟨es.toList[j], List.getElem_mem hj, pj⟩)
    refine wpAny_pure (wpAny_pure ?_)
    have q := hQ s.heap (Heap.SameBut.refl a s.heap) ⟨o, es, ep, t, ho, hex, hd, g, by unfold addM; rw [if_pos (memM_iff.mpr hSk)]; exact nd, by unfold addM; rw [if_pos (memM_iff.mpr hSk)]; exact hm, hb, hf, hr, hl⟩
    rw [memM_iff.mpr hSk] at q
    exact q
  | none =>
    dsimp only
    have hnk : k ∉ es.toList.map keyM := fun z => by
      obtain ⟨e, he, q⟩ := (goodM_mem (P := P) (w := w) g k).1 z
      have c := List.findIdx?_eq_none_iff.mp hfi e he
      rw [q] at c
      cases c
    have hSk : k ∉ ks := fun z => hnk (hm.mem_iff.mpr z)
    have hgw : ∀ (b : Bool) {s₁ : Shared} {Q' : Unit → Shared → Prop}, Q' () s₁ → wpAny (model P w) A (match b with | true => rule "set.scan.the-table-gave-way" | false => pure ()) Q' E s₁ :=
      fun b s₁ Q' q => by cases b <;> first | exact wpAny_pure q | exact wpAny_rule q
    have pm := layNew_perm t es ((mixKind P w).hash k) v
    have hf1 := layNew_fits t es ((mixKind P w).hash k) v
    have hr1 := layNew_ris t es ((mixKind P w).hash k) v hr
    have hl1 := layNew_led t es ((mixKind P w).hash k) v
    generalize layNew t es ((mixKind P w).hash k) v = Z at pm hf1 hr1 hl1 ⊢
    obtain ⟨es1, t1, wasDummy, gave⟩ := Z
    dsimp only at pm hf1 hr1 hl1 ⊢
    rw [Array.toList_push] at pm
    have pc : es1.toList.Perm (((mixKind P w).hash k, v) :: es.toList) := pm.trans (List.perm_append_singleton _ _)
    have hkv : keyM ((mixKind P w).hash k, v) = k := keyM_of hkey
    have pk : (es1.toList.map keyM).Perm (addM ks k) := by
      have q := pc.map keyM
      rw [List.map_cons, hkv] at q
      unfold addM
      rw [if_neg (by rw [memM_no hSk]; exact Bool.false_ne_true)]
      exact q.trans ((hm.cons k).trans (List.perm_append_singleton _ _).symm)
    have g1 : ∀ e ∈ es1.toList, GoodM w e := fun e he => by
      rcases List.mem_cons.mp (pc.mem_iff.mp he) with z | z
      · rw [z]; exact ⟨k, hkey, rfl⟩
      · exact g e z
    have nd1 : (addM ks k).Nodup := by
      unfold addM
      rw [if_neg (by rw [memM_no hSk]; exact Bool.false_ne_true)]
      exact (List.perm_append_singleton k ks).nodup_iff.mpr (List.nodup_cons.mpr ⟨hSk, nd⟩)
    have hsz : es1.size = ks.length + 1 := by rw [← Array.length_toList, pc.length_eq, List.length_cons, Array.length_toList, hn]
    have hb1 : es1.size < scanBound := by rw [hsz]; exact room
    have hled : w.params.followText "set-order" = true ∨ t1.led = true := hl.imp id fun z => by rw [hl1]; exact z
    have fin : ∀ h', Heap.SameBut a s.heap h' → SetM w h' a (addM ks k) → Q true { s with heap := h' } := fun h' sb r => by
      have q := hQ h' sb r
      rw [memM_no hSk] at q
      exact q
    refine wpAny_bind (hgw _ ?_)
    split
    · refine wpAny_bind ?_
      rw [hashByValue_scannable 8 hsc]
      refine wpAny_pure ?_
      refine setM_add_tail ?_ ho hex hd g1 nd1 pk hb1 ?_ ?_ ?_ ?_
      · intro b s₁ Q' q; cases b <;> first | exact wpAny_pure q | exact wpAny_rule q
      · first | (split <;> first | exact hf1 | exact SetTable.fits_plain_off hf1) | exact hf1
      · first | (split <;> exact hr1) | exact hr1
      · first | (split <;> exact hled) | exact hled
      · intro h' sb r; dsimp only; exact wpAny_pure (fin h' sb r)
    · refine wpAny_bind (wpAny_pure ?_)
      simp only [↓reduceIte]
      refine setM_add_tail ?_ ho hex hd g1 nd1 pk hb1 hf1 hr1 hled ?_
      · intro b s₁ Q' q; cases b <;> first | exact wpAny_pure q | exact wpAny_rule q
      · intro h' sb r; dsimp only; exact wpAny_pure (fin h' sb r)

theorem setM_add {k : Key} {v : Value} {Q : Value → Shared → Prop} (hkey : keyIs k v = true) (R : SetM w s.heap a ks) (room : ks.length + 1 < scanBound)
    (hQ : ∀ h' t', Heap.SameBut a s.heap h' → SetM w h' a (addM ks k) → Q .none { s with heap := h', toks := t' }) :
    wpAny (model P w) A (call (.builtin "set.add") [.ref a, v]) Q E s := by
  have hS : s.heap.SetOf (mixKind P w) a (memM ks) ks.length := R.setOf
  refine wpAny_call_entry F.slot_set_add hS.typeIs F.entry_set_add ?_ (F.args_set_add_2 _ _)
  unfold Builtin.«set.add» Builtin.Frozenset.oneOther
  simp only [List.isEmpty_nil, bind_assoc]
  unfold Builtin.Frozenset.addrOf setAdd
  refine wpAny_bind (wpAny_pure ?_)
  try dsimp only
  refine wpAny_bind (wpAny_pure ?_)
  try dsimp only
  refine wpAny_bind ?_
  refine wpAny_holding ?_
  refine wpAny_bind ((mixKind P w).pyHash (show (mixKind P w).is k v = true from hkey) ?_)
  refine setM_add_hashed (s := { s with toks := s.toks + 1 }) hkey R room fun h' sb r => ?_
  show wpAny _ _ (ret Value.none) _ _ _
  exact wpAny_pure ⟨_, rfl, hQ h' _ sb r⟩
end
theorem setM_fresh {h : Heap} (w : World) : SetM w (h.push { cls := .type "set", dict := none, data := .set #[] 0 (.fresh 0 0 (!w.params.followText "set-order")) }) h.objs.size [] :=
  ⟨_, #[], 0, _, Heap.get?_push_size _ rfl, ⟨rfl, rfl, rfl⟩, rfl, (fun e he => by simp at he), List.Pairwise.nil, .refl _, (by decide), (by rfl), List.Pairwise.nil, by
    show _ ∨ (!w.params.followText "set-order") = true
    cases w.params.followText "set-order"
    · exact .inr rfl
    · exact .inl rfl⟩
def SetMO (w : World) (a : Addr) (ks : List Key) : HO := .ext fun h => SetM w h a ks
theorem setMO_new {w : World} {P : Program} {H : Hp} {h : Heap} {a : Addr} {ks : List Key} (R : SetM w h a ks) : ObjOk P w H h a (SetMO w a ks) := by
  have ⟨o, _, _, _, ho, _⟩ := R
  exact ⟨R, ⟨o, ho⟩, fun h1 h2 p k => SetM.at p k⟩
theorem rel_keyIs {k : Key} {v : Value} (h : RelV (kV k) v) : keyIs k v = true := by
  cases k with
  | inl i => obtain ⟨t, rfl⟩ := h; show (i == i) = true; simp
  | inr x => obtain ⟨t, rfl⟩ := h; show (x == x) = true; simp
section
variable {X : Cx}
theorem setMO_get {pins : List (Addr × Obj)} {σ : L2.St} {H : Hp} {s : Shared} {a : Addr} {ks : List Key} (I : Inv X pins σ H s) (ha : H a = some (SetMO X.w a ks)) : SetM X.w s.heap a ks := (I.hok a _ ha).1
theorem addM_ok {pins : List (Addr × Obj)} {σ : L2.St} {H : Hp} {s : Shared} {E : Value → Shared → Prop} {D : Addr} {ks : List Key} {y : Key} {v : Value} {Q : Value → Shared → Prop} (I : Inv X pins σ H s) (hD : H D = some (SetMO X.w D ks)) (hv : keyIs y v = true) (room : ks.length + 1 < scanBound)
    (h : ∀ s', Inv X pins σ (upd H D (SetMO X.w D (addM ks y))) s' → Q .none s') : wpAny (model X.prog X.w) X.A (call (.builtin "set.add") [.ref D, v]) Q E s := by
  have R := setMO_get I hD
  refine setM_add hv R room fun h' t' sb new => ?_
  have he : ∃ u, h'.get? D = some u := by
    have ⟨o, _, _, _, ho, _⟩ := new
    exact ⟨o, ho⟩
  exact h _ (I.write (e := D) (t' := t') (by rw [hD]; trivial) (.inl rfl) (fun b u hb hu => (sb.2 b hb).trans hu) he (setMO_new new))
end
section
variable {X : Cx}
/-- {elt for target in iter if ..}: D the new set -/
def tScm (w : World) (wi : TI) (g : TG) (tt : TT) (te : TE) (vs : List Nat) : TE := fun σ H Q => wi σ H fun J H1 => ∀ D, H1 D = none → ∃ W : Nat → Nat → Hp → Prop, (∃ m, W 0 m (upd H1 D (SetMO w D []))) ∧ ∀ i m H, W i m H →
  (J.stop i H ∧ Q (.ref D) H) ∨ (J.go i H ∧ ∃ Nx : Hp → Prop, (∀ H', Nx H' → ∃ m', m' < m ∧ W (i + 1) m' H') ∧ ∀ x H', J.yld i H x H' → g x (wipe σ vs) H' fun σ2 H2 => wipe σ2 vs = wipe σ vs ∧ tt σ2 H2 fun b H3 =>
    if b = true then te σ2 H3 fun y H4 => ∃ (ks : List Key) (k : Key), y = kV k ∧ H4 D = some (SetMO w D ks) ∧ ks.length + 1 < scanBound ∧ Nx (upd H4 D (SetMO w D (addM ks k))) else Nx H3)
theorem scm_core {pins : List (Addr × Obj)} {s : Shared} {σ : L2.St} {H : Hp} {Q : VK} {elt tg iter : Expr} {ifs : List Expr} {scope : Scope} {own : List (PySem.Str × Nat)} {pos pos' : Pos} {wi : TI} {g : TG} {tt : TT} {te : TE} {use : Option (Value → Sem Unit)} {Qf : Value → Shared → Prop}
    (hc : X.calm = true) (hN : X.N.Nodup) (I : Inv X pins σ H s) (hi : PI X tg iter wi) (ok : BlkOk X.N X.env.scope scope own)
    (hg : ∀ (s : Shared) (H : Hp) (C : Addr) (cl : List (PySem.Str × Addr)) (fp : List Addr), PG (X.blk s H scope (compEnvC scope cl C X.env) fp) tg g) (ht : ∀ (s : Shared) (H : Hp) (C : Addr) (cl : List (PySem.Str × Addr)) (fp : List Addr), PTs (X.blk s H scope (compEnvC scope cl C X.env) fp) ifs tt)
    (he : ∀ (s : Shared) (H : Hp) (C : Addr) (cl : List (PySem.Str × Addr)) (fp : List Addr), PE (X.blk s H scope (compEnvC scope cl C X.env) fp) elt te) (hs : ∀ x, foldedSetIterable iter X.env x = pure x)
    (h : tScm X.w wi g tt te (own.map (·.2)) σ H Q)
    (hRR : ∀ D C s' m H', Inv X pins σ H' s' → Q (.ref D) H' → s'.heap.Ns C m → FpOk X pins H' C → compPost (model X.prog X.w) X.A X.xe use Qf (.ref D) C (.ok .next) s') :
    wpAny (model X.prog X.w) X.A (comprehension (.SetComp elt [⟨tg, iter, ifs, 0⟩] scope pos) scope X.env pos' (newSet (.type "set")) false (eval iter X.env) use) Qf X.xe s := by
  have hfree : ∀ y ∈ scope.names, y.2 = .free → ∃ c, X.env.cells.lookup y.1 = some c := fun y hy e => by
    rcases ok.free y hy e with k | k
    · exact I.ok.has _ (.inl k)
    · exact I.ok.has _ (.inr k)
  refine wpAny_comprehension_free (use := use) rfl hs (closure_ok hfree) ok.kind (fun y hy e => by rw [ok.uniq y hy, e])
    (thn (hi.run pins s σ H _ I h) fun xv s1 hx => thn hx fun itv s2 h2 => ?_)
  obtain ⟨it, fp, tn, J, H2, e, I2, T, st2, f2, q⟩ := h2
  subst e
  refine newSet_ok (newEnv_comp ?_)
  generalize hD : s2.heap.objs.size = D
  have hDn : H2 D = none := I2.hok.fresh (Nat.le_of_eq hD)
  obtain ⟨W, ⟨m0, w0⟩, turn⟩ := q D hDn
  -- the new list
  generalize hs3 : ({ s2 with heap := s2.heap.push { cls := .type "set", dict := none, data := .set #[] 0 (.fresh 0 0 (!X.w.params.followText "set-order")) } } : Shared) = s3
  have I3 : Inv X pins σ (upd H2 D (SetMO X.w D [])) s3 := by
    rw [← hs3]
    refine I2.laid (t' := s2.toks) (fun b o e => Heap.get?_push_of_some _ e) (Nat.le_of_eq hD) ?_
    rw [← hD]
    exact setMO_new (setM_fresh X.w)
  have h3 : s3.heap = s2.heap.push { cls := .type "set", dict := none, data := .set #[] 0 (.fresh 0 0 (!X.w.params.followText "set-order")) } := by rw [← hs3]
  have sz : ∀ b ∈ fp, b < s2.heap.objs.size := fun b hb => by
    obtain ⟨o, e, _⟩ := T.obj _ _ st2 b hb
    exact Heap.lt_size e
  have f3 : ∀ b ∈ fp, FpOk X pins (upd H2 D (SetMO X.w D [])) b ∧ b < s3.heap.objs.size := fun b hb => by
    have hlt := sz b hb
    refine ⟨⟨?_, (f2 b hb).2⟩, by rw [h3, Heap.size_push]; exact Nat.lt_succ_of_lt hlt⟩
    rw [upd_ne (by rw [← hD]; exact Nat.ne_of_lt hlt)]
    exact (f2 b hb).1
  have st3 : tn 0 s3.heap := T.keep _ _ _ st2 fun b _ o e => by rw [h3]; exact Heap.get?_push_of_some _ e
  have I4 := block_start I3 ok hN f3
  have pg := hg s3 (upd H2 D (SetMO X.w D [])) s3.heap.objs.size (cellsFrom (s3.heap.objs.size + 1) scope.names (cloFrom X.env.cells scope.names [])) fp
  have pt := ht s3 (upd H2 D (SetMO X.w D [])) s3.heap.objs.size (cellsFrom (s3.heap.objs.size + 1) scope.names (cloFrom X.env.cells scope.names [])) fp
  have pe := he s3 (upd H2 D (SetMO X.w D [])) s3.heap.objs.size (cellsFrom (s3.heap.objs.size + 1) scope.names (cloFrom X.env.cells scope.names [])) fp
  show codeAny _ _ (.compStart (.SetComp elt [⟨tg, iter, ifs, 0⟩] scope pos) 0 (.ref it) (.ref D) (compEnvC scope (cellsFrom (s3.heap.objs.size + 1) scope.names (cloFrom X.env.cells scope.names [])) s3.heap.objs.size X.env)) (compPost (model X.prog X.w) X.A X.xe use Qf (.ref D) s3.heap.objs.size) { s3 with heap := pushCells (s3.heap.push { cls := .type "dict", data := .dict #[] }) scope.names }
  have nfp : ∀ b ∈ fp, (upd H2 D (SetMO X.w D [])) b = none := fun b hb => (f3 b hb).1.1
  generalize hce : compEnvC scope (cellsFrom (s3.heap.objs.size + 1) scope.names (cloFrom X.env.cells scope.names [])) s3.heap.objs.size X.env = ce at I4 pg pt pe ⊢
  have cL : ce.locals = s3.heap.objs.size := by subst hce; rfl
  generalize hH3 : upd H2 D (SetMO X.w D []) = H3 at I3 I4 pg pt pe w0 nfp f3
  generalize hs4 : ({ s3 with heap := pushCells (s3.heap.push { cls := .type "dict", data := .dict #[] }) scope.names } : Shared) = s4 at I4 ⊢
  have st4 : tn 0 s4.heap := T.keep _ _ _ st3 fun b _ o e => by rw [← hs4]; exact pushCells_keeps _ _ _ _ (Heap.get?_push_of_some _ e)
  have stat : ∀ {σ' : L2.St} {H' : Hp} {s' : Shared}, Inv (X.blk s3 H3 scope ce fp) [] σ' H' s' → (∀ b ∈ fp, H' b = none) → ∀ b ∈ fp, FpOk (X.blk s3 H3 scope ce fp) [] H' b := fun {σ' H' s'} I' hn b hb =>
    ⟨hn b hb, (I'.ok.exf b hb).1, I'.ok.exfs b hb, .inl hb, fun x c e => (I'.ok.exf b hb).2 x c e, fun p hp => absurd (show p ∈ ([] : List (Addr × Obj)) ++ [] from hp) (by simp)⟩
  have loop : codeAny (model X.prog X.w) X.A (.compLoop (.SetComp elt [⟨tg, iter, ifs, 0⟩] scope pos) 0 (.ref it) (.ref D) ce) (compPost (model X.prog X.w) X.A X.xe use Qf (.ref D) s3.heap.objs.size) s4 := by
    refine compLoopS_any (fun n s' => ∃ i H', Inv (X.blk s3 H3 scope ce fp) [] (wipe σ (own.map (·.2))) H' s' ∧ tn i s'.heap ∧ (∀ b ∈ fp, H' b = none) ∧ W i n H') ?_ m0 ⟨0, H3, I4, st4, nfp, w0⟩
    rintro n s5 ⟨i, H5, I5, st5, n5, w5⟩
    rcases turn i n H5 w5 with ⟨stop, qq⟩ | ⟨go, Nx, hNx, step⟩
    · have td := T.done (X.blk s3 H3 scope ce fp) rfl rfl rfl hc i [] s5 _ H5 (fun _ _ => False) I5 (stat I5 n5) st5 stop
      refine thnF td fun r s6 ⟨hr, I6⟩ => ?_
      subst hr
      -- back in the def's context
      have I7 : Inv X pins σ H5 s6 := I3.call' (ch := fp) I6.os I6.base I6.hok I6.bare fun b hb => ⟨(f3 b hb).1.2.2.2.1, (f3 b hb).1.2.1, (f3 b hb).1.2.2.2.2.1, (f3 b hb).1.2.2.2.2.2⟩
      have nC : H5 s3.heap.objs.size = none := by
        have z : H5 ce.locals = none := I6.free
        rw [cL] at z
        exact z
      obtain ⟨m, hn, _⟩ := I6.loc
      have hn : s6.heap.Ns ce.locals m := hn
      rw [cL] at hn
      exact hRR D s3.heap.objs.size s6 m H5 I7 qq hn (I3.fpOk (Nat.le_refl _) nC)
    · have ti := T.item (X.blk s3 H3 scope ce fp) rfl rfl rfl hc i [] s5 _ H5 (fun _ _ => False) I5 (stat I5 n5) st5 go
      refine thnF ti fun r s6 ⟨u, hr, h6⟩ => ?_
      subst hr
      refine thnF h6 fun _ s7 ⟨x, H7, I7, r7, y7, st7, n7⟩ => ?_
      have I7' := I7.pinned (stat I7 n7) (T.obj _ _ st7)
      refine thnF (pg.run _ s7 _ H7 x u _ I7' r7 (step x H7 y7)) fun _ s8 ⟨σ8, H8, I8, hw8, q8⟩ => ?_
      refine thnF (pt.run _ s8 σ8 H8 _ I8 q8) fun b s9 ⟨H9, I9, q9⟩ => ?_
      -- the turn's end
      have fin : ∀ {s' : Shared} {H' : Hp}, Inv (X.blk s3 H3 scope ce fp) ([] ++ pinsAt fp s7.heap) σ8 H' s' → Nx H' → ∃ m, m < n ∧ ∃ i H', Inv (X.blk s3 H3 scope ce fp) [] (wipe σ (own.map (·.2))) H' s' ∧ tn i s'.heap ∧ (∀ b ∈ fp, H' b = none) ∧ W i m H' := fun {s' H'} I' nx => by
        obtain ⟨m', hm, w'⟩ := hNx H' nx
        have pin' : ∀ b ∈ fp, ∀ o, s7.heap.get? b = some o → s'.heap.get? b = some o ∧ H' b = none := fun b hb o e =>
          let z := I'.pin (b, o) (List.mem_append_right _ (List.mem_append_right _ (mem_pinsAt hb e)))
          ⟨z.1, z.2.1⟩
        have hl : (wipe σ (own.map (·.2))).length = σ8.length := by rw [← hw8, wipe_length]
        refine ⟨m', hm, i + 1, H', (I'.unpinned (pins := [])).weak hl (fun j v e => ?_), T.keep _ _ _ st7 fun b hb o e => (pin' b hb o e).1, fun b hb => ?_, w'⟩
        · rw [← hw8] at e
          exact (wipe_some e).1
        · obtain ⟨o, e, _⟩ := T.obj _ _ st7 b hb
          exact (pin' b hb o e).2
      cases b with
      | false =>
        simp only [Bool.false_eq_true, if_false] at q9 ⊢
        exact fin I9 q9
      | true =>
        simp only [if_true] at q9 ⊢
        refine thnF (pe.run _ s9 σ8 H9 _ I9 q9) fun z s10 ⟨yv, H10, I10, r10, ks0, kk, ey, hD10, hz10, nx⟩ => ?_
        subst ey
        exact addM_ok (X := X.blk s3 H3 scope ce fp) I10 hD10 (rel_keyIs r10) hz10 fun s11 I11 => fin I11 nx
  exact codeAny_compStart_set loop (T.self X.A 0 _ _ _ st4 loop)
/-- as a value -/
theorem pe_scm {elt tg iter : Expr} {ifs : List Expr} {scope : Scope} {own : List (PySem.Str × Nat)} {pos : Pos} {wi : TI} {g : TG} {tt : TT} {te : TE} (hc : X.calm = true) (hN : X.N.Nodup) (hi : PI X tg iter wi) (ok : BlkOk X.N X.env.scope scope own)
    (hg : ∀ (s : Shared) (H : Hp) (C : Addr) (cl : List (PySem.Str × Addr)) (fp : List Addr), PG (X.blk s H scope (compEnvC scope cl C X.env) fp) tg g) (ht : ∀ (s : Shared) (H : Hp) (C : Addr) (cl : List (PySem.Str × Addr)) (fp : List Addr), PTs (X.blk s H scope (compEnvC scope cl C X.env) fp) ifs tt)
    (he : ∀ (s : Shared) (H : Hp) (C : Addr) (cl : List (PySem.Str × Addr)) (fp : List Addr), PE (X.blk s H scope (compEnvC scope cl C X.env) fp) elt te) (hs : ∀ x, foldedSetIterable iter X.env x = pure x := by intro _; rfl) :
    PE X (.SetComp elt [⟨tg, iter, ifs, 0⟩] scope pos) (tScm X.w wi g tt te (own.map (·.2))) := by
  refine ⟨fun pins s σ H Q I h => ?_⟩
  rw [eval_SetComp]
  refine scm_core hc hN I hi ok hg ht he hs h fun D C s' m H' I' q hn f => ⟨m, hn, fun h'' sb => ?_⟩
  obtain ⟨f0, f1, f2, f3, f4, f5⟩ := f
  exact ⟨.ref D, H', I'.turned (t' := s'.toks) (fun b o hb e => (sb.2 b hb).trans e) f0 f1 f3 f4 f5, rfl, q⟩
end
section
variable {prog : Program} {w : World} {A : Around} {R : Result → Shared → Prop} {s : Shared} {elt t0 i0 t1 i1 : Expr} {ifs0 ifs1 : List Expr} {scope : Scope} {pos : Pos} {it acc : Value} {env : Env}
end

section
variable {X : Cx}
end
end Sx

set_option Elab.async false
set_option linter.all false
set_option maxRecDepth 100000
set_option maxHeartbeats 2000000
/-! sorted(..): keys that are tuples, some of them empty. -/
namespace SrtM
open PySem PySem.SeqAt PySem.Calls PyProof.Rows PySem.W
section
variable {A : Around} {s : Shared}
/-- the call of tuple's own __lt__, as sorting makes it -/
theorem call_tuple_lt {prog : Program} {w : World} {E : Value → Shared → Prop} {Q : Value → Shared → Prop} {l b : Addr} {items items2 : Array Value} {e r : Nat → Bool} (hl : s.heap.IsTuple l items) (hb : s.heap.IsTuple b items2)
    (he : ∀ j (h1 : j < items.size) (h2 : j < items2.size), EqAt A.in1 s items[j] items2[j] (e j)) (hr : ∀ j (h1 : j < items.size) (h2 : j < items2.size), e j = false → RcLt A.in1 s items[j] items2[j] (r j))
    (h : Q (.bool (firstLt e r (decide (items.size < items2.size)) (List.range (min items.size items2.size)))) s) : wpAny (model prog w) A (call (.builtin "tuple.__lt__") [.ref l, .ref b]) Q E s := by
  obtain ⟨⟨cls, dd, data, sl⟩, ho, hc, n, hd⟩ := id hl
  obtain ⟨⟨cls2, dd2, data2, sl2⟩, ho2, hc2, n2, hd2⟩ := id hb
  simp only at hc hd hc2 hd2
  subst hc hd hc2 hd2
  exact call_meets F.slot_tuple_lt ⟨_, ho, rfl⟩ F.entry_tuple_lt (F.args_tuple_lt_2 _ _) (tuple_ltAt l b items items2 n n2 dd dd2 sl sl2 e r) ⟨ho, ho2, he, hr, h⟩
end
section
variable {prog : Program} {w : World} {A : Around} {E : Value → Shared → Prop} {s : Shared}
theorem oneLt_tup {xs ys : List PyData} {a b : Value} {as bs : List Addr} {Q : Bool → Shared → Prop} (ra : Reads s.heap a (.tuple xs) as) (rb : Reads s.heap b (.tuple ys) bs) (h : alike (.tuple xs) (.tuple ys) = true)
    (hu : A.units + min (PyData.tuple xs).depth (PyData.tuple ys).depth < cLine) (hq : Q (dataLt (.tuple xs) (.tuple ys)) s) : wpAny (model prog w) A (oneLt' true a b) Q E s := by
  have hal : alikeAll xs ys = true := by simpa [alike] using h
  cases ra with
  | @tuple l o vs n _ as₁ h1 h2 h3 h4 =>
    cases rb with
    | @tuple l' o' vs' n' _ bs₁ k1 k2 k3 k4 =>
      have n1 : vs.size = xs.length := by simpa using ReadsAll.length _ _ _ h4
      have n2 : vs'.size = ys.length := by simpa using ReadsAll.length _ _ _ k4
      rw [dataLt_tuple, ← firstLt_toks xs ys hal, ← n1, ← n2] at hq
      rw [oneLt'_eq]
      simp only [if_true]
      refine wpAny_bind (wpAny_cRoomFor (room_here hu) ?_)
      refine wpAny_bind (wpAny_callSpecialIfBound?_slot (T := "tuple") ⟨_, h1, h2⟩ F.slot_tuple_lt (call_tuple_lt (e := pairEq xs ys) (r := fun j => dataLt (xs.getD j .none) (ys.getD j .none)) ⟨_, h1, h2, _, h3⟩ ⟨_, k1, k2, _, k3⟩ (fun j j1 j2 => ?_) (fun j j1 j2 hj => ?_) ?_))
      · have := eqAt_alikeAll xs ys A.in1 s vs.toList vs'.toList _ _ h4 k4 hal (room_in hu) j (by simpa using j1) (by simpa using j2)
        simpa using this
      · have := rcLt_alikeAll xs ys A.in1 s vs.toList vs'.toList _ _ h4 k4 hal (room_in hu) j (by simpa using j1) (by simpa using j2) hj
        simpa using this
      · exact wpAny_truthy_bool hq
end
/-- tuples and their first items, where they have one -/
def KatAny (h : Heap) : List Value → List (Option Value) → Prop
  | [], [] => True
  | v :: vs, f :: fs => (∃ a o xs n, v = .ref a ∧ h.get? a = some o ∧ o.cls = .type "tuple" ∧ o.data = .seq xs n ∧ xs[0]? = f) ∧ KatAny h vs fs
  | _, _ => False
section
variable {M : Model} {A : Around} {E : Value → Shared → Prop} {s : Shared}
theorem any_firsts : ∀ (vs : List Value) (fs : List (Option Value)) {Q : List (Option Value) → Shared → Prop}, KatAny s.heap vs fs → Q fs s → wpAny M A (vs.mapM firstOfTuple') Q E s
  | [], [], _, _, h => by rw [List.mapM_nil]; exact wpAny_pure h
  | [], _ :: _, _, t, _ => t.elim
  | _ :: _, [], _, t, _ => t.elim
  | v :: vs, f :: fs, Q, t, h => by
    obtain ⟨⟨a, o, xs, n, rfl, ho, hc, hd, hf⟩, t⟩ := t
    rw [List.mapM_cons]
    refine wpAny_bind ?_
    rw [kas_first_eq]
    refine wpAny_bind (Looks.here (show Looks M s.heap (typeOf (.ref a)) o.cls from (Looks.ld ho).andThen .now) ?_)
    rw [hc, if_neg (by first | decide | simp)]
    refine wpAny_bind (listItems_at ho hd (wpAny_pure ?_))
    rw [hf]
    exact wpAny_bind (any_firsts vs fs (Q := fun bs s' => wpAny M A (pure (f :: bs)) Q E s') t (wpAny_pure h))
theorem any_type : ∀ {vs : List Value} {fs : List (Option Value)}, KatAny s.heap vs fs → ∀ v ∈ vs, Looks M s.heap (typeOf v) (.type "tuple")
  | v :: vs, f :: fs, ⟨⟨a, o, xs, n, e, ho, hc, hd, hf⟩, t⟩, u, hu => by
    rcases List.mem_cons.mp hu with rfl | hu
    · subst e
      exact hc ▸ (show Looks M s.heap (typeOf (.ref a)) o.cls from (Looks.ld ho).andThen .now)
    · exact any_type t u hu
theorem any_kind {v : Value} {vs : List Value} {f : Option Value} {fs : List (Option Value)} {Q : SortKind → Shared → Prop} (t : KatAny s.heap (v :: vs) (f :: fs)) (hn : (f :: fs).all (·.isSome) = false) (hq : Q (if f.isSome = true then general' else oneType') s) :
    wpAny M A (keyKind' (v :: vs).toArray) Q E s := by
  rw [kat_kind_eq, List.mapM_toArray, map_eq_pure_bind]
  refine wpAny_bind (wpAny_bind (any_firsts _ _ t (wpAny_pure ?_)))
  have h1 : ((f :: fs).toArray.all fun x => x.isSome) = false := by rw [List.all_toArray]; exact hn
  rw [if_neg (by rw [h1]; decide)]
  cases f with
  | some x =>
    rw [if_pos (by simp)]
    exact wpAny_pure hq
  | none =>
    rw [if_neg (by simp)]
    rw [oneTypeOnly'_eq, List.mapM_toArray, map_eq_pure_bind]
    refine wpAny_bind (wpAny_bind (wpAny_bind (kas_mapM (r := Value.type "tuple") _ (fun v hv Q' hq => (any_type t v hv).here hq) (wpAny_pure ?_))))
    have hall : ((List.map (fun _ => Value.type "tuple") (v :: vs)).toArray.all fun x => x == Value.type "tuple") = true := by
      simp only [List.all_toArray, List.all_map, List.all_eq_true]
      intro _ _
      exact beq_self_eq_true _
    have h0 : (List.map (fun _ => Value.type "tuple") (v :: vs)).toArray[0]? = some (Value.type "tuple") := by simp
    rw [h0]
    simp only [hall, if_true]
    exact wpAny_pure (wpAny_pure hq)
end
section
variable {prog : Program} {w : World} {A : Around} {s : Shared}
theorem each_any {h : Heap} : ∀ {vs : List Value} {ds : List PyData}, EachIs (fun v d => ∃ as, Reads h v d as) vs ds → (∀ d, d ∈ ds → ∃ xs, d = .tuple xs) → ∃ fs, KatAny h vs fs
  | _, _, .nil, _ => ⟨[], trivial⟩
  | _, _, .cons (b := d) ⟨as, r⟩ t, ht => by
    obtain ⟨fs, h1⟩ := each_any t fun d hd => ht d (List.mem_cons_of_mem _ hd)
    obtain ⟨xs, rfl⟩ := ht d (List.mem_cons_self ..)
    cases r with
    | @tuple a o ys n _ _ ho hc hd hr => exact ⟨ys[0]? :: fs, ⟨a, o, ys, n, rfl, ho, hc, hd, rfl⟩, h1⟩
theorem any_all {h : Heap} : ∀ {vs : List Value} {ds : List PyData} {fs : List (Option Value)}, EachIs (fun v d => ∃ as, Reads h v d as) vs ds → (∀ d, d ∈ ds → ∃ xs, d = .tuple xs) → KatAny h vs fs → fs.all (·.isSome) = true → ∀ d, d ∈ ds → ∃ x r, d = .tuple (x :: r)
  | _, _, _, .nil, _, _, _, d, hd => by cases hd
  | _, _, f :: fs, .cons (b := e) ⟨as, r⟩ t, ht, ⟨⟨a, o, ys, n, ev, ho, hc, hd', hf⟩, k⟩, hall, d, hd => by
    rw [List.all_cons, Bool.and_eq_true] at hall
    rcases List.mem_cons.mp hd with rfl | hd
    · obtain ⟨xs, rfl⟩ := ht _ (List.mem_cons_self ..)
      cases xs with
      | cons x r' => exact ⟨x, r', rfl⟩
      | nil =>
        cases r with
        | @tuple a2 o2 ys2 n2 _ _ ho2 hc2 hd2 hr2 =>
          cases ev
          rw [ho] at ho2
          cases ho2
          rw [hd'] at hd2
          cases hd2
          have n1 : ys.size = 0 := by simpa using ReadsAll.length _ _ _ hr2
          have : ys[0]? = none := by rw [Array.getElem?_eq_none]; omega
          rw [this] at hf
          rw [← hf] at hall
          exact absurd hall.1 (by decide)
    · exact any_all t (fun d hd => ht d (List.mem_cons_of_mem _ hd)) k hall.2 d hd
/-- values that read as alike tuples can be sorted -/
theorem sorts_tup {vs : List Value} {ds : List PyData} (e : EachIs (fun v d => ∃ as, Reads s.heap v d as) vs ds) (hal : AllAlike ds) (ht : ∀ d, d ∈ ds → ∃ xs, d = .tuple xs) (hu : ∀ d, d ∈ ds → A.units + d.depth < cLine) : SortsAt prog w A s (dataKind s.heap ds) vs := by
  obtain ⟨fs, hk⟩ := each_any e ht
  by_cases hn : fs.all (·.isSome) = true
  · exact SortsAt.data e hal (.inl (any_all e ht hk hn)) hu
  · have hn : fs.all (·.isSome) = false := by simpa using hn
    have room : ∀ {d d' : PyData}, d ∈ ds → A.units + min d.depth d'.depth < cLine := fun {d d'} hd => Nat.lt_of_le_of_lt (Nat.add_le_add_left (Nat.min_le_left _ _) _) (hu d hd)
    refine ⟨fun v hv => ?_, ?_⟩
    · obtain ⟨d, hd, as, r⟩ := e.left v hv
      exact ⟨_, dataKind_some hal hd r⟩
    · match vs, fs, hk, hn, e with
      | [], [], _, hn, _ => exact absurd hn (by decide)
      | v :: vs, f :: fs, hk, hn, e =>
        refine ⟨if f.isSome = true then general' else oneType', ?_, fun h2 E Q hq => any_kind hk hn hq⟩
        intro E x y a b Q ha hb hq
        obtain ⟨d, as, hd, ra, rfl⟩ := dataKind_inv ha
        obtain ⟨d', as', hd', rb, rfl⟩ := dataKind_inv hb
        obtain ⟨xs, rfl⟩ := ht d hd
        obtain ⟨ys, rfl⟩ := ht d' hd'
        cases f with
        | some z =>
          rw [if_pos (show (some z).isSome = true from rfl)]
          show wpAny _ _ (oneLt' false x y) _ _ _
          exact oneLt_alike (f := false) (fun h => by cases h) ra rb (hal _ hd _ hd') (fun h => by cases h) (room hd) hq
        | none =>
          rw [if_neg (show ¬ (none : Option Value).isSome = true by decide), keyLt'_oneType]
          exact oneLt_tup ra rb (hal _ hd _ hd') (room hd) hq
end
end SrtM

set_option Elab.async false
set_option linter.all false
set_option maxRecDepth 100000
set_option maxHeartbeats 2000000
/-! sorted(..) of a list or a tuple of any alike data, and of a set of ints or texts. -/
namespace SrtD
open PySem PySem.Spec PyProof.Rows PySem.W SrtT SrtO Srt
section
variable {prog : Program} {w : World} {A : Around} {E : Value → Shared → Prop} {s : Shared}
theorem sorted_of_sq {l : Addr} {vs : List Value} {Q : Value → Shared → Prop} (hl : IsSq s.heap l vs.toArray) (hL : vs.length ≤ sizeLine)
    (body : ∀ E' : Value → Shared → Prop, wpAny (model prog w) A.in1.in1 (Builtin.«list.sort» ⟨[.ref (s.heap.objs.size + 1)], []⟩) (fun f s' => f = .done (.ret .none) ∧ Q (.ref (s.heap.objs.size + 1)) s') E' { s with heap := copyHeap s.heap vs }) :
    wpAny (model prog w) A (call (.builtin "sorted") [.ref l]) Q E s := by
  refine Calls.call_function_entry kind_sorted plain_sorted entry_sorted (args_sorted1 _) ?_
  unfold Builtin.«sorted»
  refine wpAny_bind (m := checkCount "sorted" 1 1 _) (wpAny_pure ?_)
  refine wpAny_bind (collect_sq hl ?_ hL)
  refine wpAny_bind (wpAny_newList ?_ hL)
  have hsz : ((s.heap.push (seqObj "list" #[] 0)).update s.heap.objs.size (Obj.mapSeq (· ++ vs.toArray))).objs.size = s.heap.objs.size + 1 := by
    rw [Heap.size_update, size_push']
  show wpAny _ _ _ _ _ { s with heap := copyHeap s.heap vs }
  rw [hsz]
  refine wpAny_bind (wpAny_holding (wpAny_call_entry slot_list_sort ⟨_, copyHeap_at s.heap vs, rfl⟩ entry_list_sort ?body (args_list_sort _)))
  case body =>
    show wpAny (model prog w) A.in1.in1 (Builtin.«list.sort» ⟨[.ref (s.heap.objs.size + 1)], []⟩) _ _ _
    refine wpAny_mono (body _) (fun f s' hf => ?_) fun _ _ e => e
    obtain ⟨rfl, hq⟩ := hf
    exact ⟨_, rfl, wpAny_pure ⟨_, rfl, hq⟩⟩
theorem sorted_sqD {β : Type} {vs : List Value} {bs : List β} {enc : β → PyData} {R : Value → β → Prop} {l : Addr} {Q : Value → Shared → Prop} (hl : IsSq s.heap l vs.toArray) (e : EachIs R vs bs) (er : EachIs (fun v b => ∃ as, Reads s.heap v (enc b) as) vs bs) (hal : AllAlike (bs.map enc)) (hk : Sortable (bs.map enc) ∨ ∀ d, d ∈ bs.map enc → ∃ xs, d = .tuple xs) (hL : bs.length ≤ sizeLine)
    (hu : ∀ b, b ∈ bs → A.units + 2 + (enc b).depth < cLine) (h : ∀ out, out.length = bs.length → EachIs R out (bs.mergeSort (dataLe false enc)) → Q (.ref (s.heap.objs.size + 1)) { s with heap := sortedAll s.heap vs (List.toArray out) }) :
    wpAny (model prog w) A (call (.builtin "sorted") [.ref l]) Q E s := by
  have er' : EachIs (fun v b => ∃ as, Reads (sortingHeap (copyHeap s.heap vs) (s.heap.objs.size + 1) vs) v (enc b) as) vs bs := er.mono fun _ _ ⟨as, r⟩ => ⟨as, PyProof.Rows.Reads.keeps (fun _ _ => sorting_copy_old) r⟩
  have hL' : vs.length ≤ sizeLine := by rw [e.length]; exact hL
  have hS : ∀ A : Around, (∀ d, d ∈ bs.map enc → A.units + d.depth < cLine) → SortsAt prog w A { s with heap := sortingHeap (copyHeap s.heap vs) (s.heap.objs.size + 1) vs } (dataKind (sortingHeap (copyHeap s.heap vs) (s.heap.objs.size + 1) vs) (bs.map enc)) vs := fun A hA => by
    have q := each_map (R := fun v d => ∃ as, Reads (sortingHeap (copyHeap s.heap vs) (s.heap.objs.size + 1) vs) v d as) enc er'
    rcases hk with hk | hk
    · exact SortsAt.data (s := { s with heap := sortingHeap (copyHeap s.heap vs) (s.heap.objs.size + 1) vs }) q hal hk hA
    · exact SrtM.sorts_tup (s := { s with heap := sortingHeap (copyHeap s.heap vs) (s.heap.objs.size + 1) vs }) q hal hk hA
  exact sorted_of_sq hl hL' fun _ => list_sort_vals (s := { s with heap := copyHeap s.heap vs }) (copyHeap_at s.heap vs)
    (hS _ (bound_map hu)) hL'
    ⟨rfl, h _ (by rw [sortVals_length false rfl]; exact e.length) (sortVals_data false e er' hal)⟩
end
end SrtD
namespace L2
open PySem PySem.Spec PyProof.Rows PySem.W
/-- sorted(xs), xs a list or a tuple of alike data (their reading beside them) -/
def rSrtD (K : PySem.W.Frag) : List V → Hp → VK → Prop := fun vs H Q => ∃ (a : Addr) (L : List (PyData × V)), vs = [V.ref a] ∧ (SqL K H a (L.map (·.2)) ∨ SqT K H a (L.map (·.2))) ∧ (∀ p ∈ L, Dp K H p.2 p.1 ∧ p.1.depth ≤ 64) ∧ AllAlike (L.map (·.1)) ∧ (Sortable (L.map (·.1)) ∨ ∀ d, d ∈ L.map (·.1) → ∃ xs, d = .tuple xs) ∧
  ∀ (p : Addr), H p = none → Q (.ref p) (upd H p (.lst ((L.mergeSort (dataLe false (·.1))).map (·.2))))
theorem each_vals {α : Type} (f : α → V) : ∀ {L : List α} {us : List Value}, Vals (L.map f) us → EachIs (fun u p => RelV (f p) u) us L
  | [], _, r => by cases r; exact .nil
  | p :: L, _, r => by
    cases r with
    | cons h t => exact .cons h (each_vals f t)
theorem vals_each {α : Type} (f : α → V) : ∀ {L : List α} {us : List Value}, EachIs (fun u p => RelV (f p) u) us L → Vals (L.map f) us
  | _, _, .nil => .nil
  | _, _, .cons h t => .cons h (vals_each f t)
section
variable {X : Cx}
theorem cr_srtD (hu : X.A.units + 130 < cLine) : CallR X (.builtin "sorted") (rSrtD X.K) := by
  intro pins s σ H vs us Q I r h
  obtain ⟨a, L, rfl, hs, hx, hal, hk, q⟩ := h
  obtain ⟨u, rfl, ru⟩ := vals1 r
  obtain rfl : u = Value.ref a := ru
  have hq : ∃ its : List Value, Vals (L.map (·.2)) its ∧ SrtT.IsSq s.heap a its.toArray ∧ (L.map (·.2)).length ≤ sizeLine := by
    rcases hs with hs | hs
    · obtain ⟨its, rv, hl, hz⟩ := I.list hs
      obtain ⟨o, ho, hc, n, hd⟩ := hl.isList
      exact ⟨its, rv, ⟨o, ho, .inl hc, n, hd⟩, hz⟩
    · obtain ⟨its, rv, hl, hz⟩ := I.tuple hs
      obtain ⟨o, ho, hc, n, hd⟩ := hl
      exact ⟨its, rv, ⟨o, ho, .inr hc, n, hd⟩, hz⟩
  obtain ⟨its, rv, hl, hz⟩ := hq
  rw [List.length_map] at hz
  have e := each_vals (fun p : PyData × V => p.2) rv
  have er : EachIs (fun v b => ∃ as, Reads s.heap v ((fun p : PyData × V => p.1) b) as) its L := (each_mem e).mono fun u p ⟨h1, h2⟩ => Dp.reads I p.1 p.2 u (hx p h2).1 h1
  refine SrtD.sorted_sqD hl e er hal hk hz (fun b hb => by have := (hx b hb).2; show X.A.units + 2 + b.1.depth < cLine; omega) fun out hlen he => ?_
  obtain ⟨n, hn⟩ : ∃ n, (sortedAll s.heap its out.toArray).get? (s.heap.objs.size + 1) = some (seqObj "list" out.toArray n) := sortedAll_at s.heap its out.toArray
  refine ⟨.ref (s.heap.objs.size + 1), upd H (s.heap.objs.size + 1) (.lst ((L.mergeSort (dataLe false (·.1))).map (·.2))), I.laid (t' := s.toks) (fun b o e => sortedAll_old e) (Nat.le_succ _) ⟨?_, out, n, vals_each (fun p : PyData × V => p.2) he, hn⟩, rfl, q _ (I.hok.fresh (Nat.le_succ _))⟩
  rw [List.length_map, List.length_mergeSort]
  exact hz
end
end L2
namespace Dl
open PySem PySem.Spec PyProof.Rows L2 PySem.W
/-! ### in order -/
def leqD (a b : D) : Bool := dataLe false D.py a b
def sortD (xs : List D) : List D := xs.mergeSort leqD
def isTupN : D → Bool
  | .tup (_ :: _) => true
  | _ => false
def isAtm : D → Bool
  | .int _ => true
  | .str _ => true
  | .lst _ => true
  | _ => false
def alkD (x y : D) : Bool := alike x.py y.py
def srtOk (xs : List D) : Bool := xs.all sh && xs.all (fun x => xs.all fun y => alkD x y) && (xs.all isTupN || xs.all isAtm)
/-- tuples, some of them empty -/
def isT0 : D → Bool
  | .tup _ => true
  | _ => false
def srtTp (xs : List D) : Bool := xs.all sh && xs.all (fun x => xs.all fun y => alkD x y) && xs.all isT0
def srtG (xs : List D) : Bool := srtOk xs || srtTp xs
theorem srtG_of {xs : List D} (h : srtOk xs = true) : srtG xs = true := by unfold srtG; rw [h]; rfl
theorem srtG_tp {xs : List D} (h : srtTp xs = true) : srtG xs = true := by unfold srtG; rw [h, Bool.or_true]
def sortGL (xs : List D) : Option D := if srtG xs = true then some (.lst (sortD xs)) else none
def sortGD : List D → Option D := a1 fun d => match d with
  | .lst xs => sortGL xs
  | .tup xs => sortGL xs
  | _ => none
theorem dle_iff {β : Type} (k : β → PyData) (a b : β) : dataLe false k a b = true ↔ lexLt itemOrd (keyToks (k b)) (keyToks (k a)) = false := by
  show (!lexLt itemOrd (keyToks (k b)) (keyToks (k a))) = true ↔ _
  rw [Bool.not_eq_true']
theorem tot_le {β : Type} (k : β → PyData) (a b : β) : dataLe false k a b = true ∨ dataLe false k b a = true := by
  rw [dle_iff, dle_iff]
  cases h1 : lexLt itemOrd (keyToks (k b)) (keyToks (k a)) with
  | false => exact .inl rfl
  | true =>
    right
    cases h2 : lexLt itemOrd (keyToks (k a)) (keyToks (k b)) with
    | false => rfl
    | true =>
      have h3 := (listOrd itemOrd).trans _ _ _ h1 h2
      rw [(listOrd itemOrd).irrefl] at h3
      cases h3
theorem trans_le {β : Type} (k : β → PyData) (a b c : β) (h1 : dataLe false k a b = true) (h2 : dataLe false k b c = true) : dataLe false k a c = true := by
  rw [dle_iff] at *
  cases h : lexLt itemOrd (keyToks (k c)) (keyToks (k a)) with
  | false => rfl
  | true =>
    rcases (listOrd itemOrd).negTrans _ (keyToks (k b)) _ h with z | z
    · rw [show lexLt itemOrd (keyToks (k c)) (keyToks (k b)) = true from z] at h2; cases h2
    · rw [show lexLt itemOrd (keyToks (k b)) (keyToks (k a)) = true from z] at h1; cases h1
theorem anti_le {β : Type} (k : β → PyData) (a b : β) (h1 : dataLe false k a b = true) (h2 : dataLe false k b a = true) : keyToks (k a) = keyToks (k b) := by
  rw [dle_iff] at *
  exact (listOrd itemOrd).total _ _ h2 h1
theorem srt_pw {β : Type} (k : β → PyData) (l : List β) : (l.mergeSort (dataLe false k)).Pairwise fun a b => dataLe false k a b = true :=
  List.pairwise_mergeSort (fun a b c h1 h2 => trans_le k a b c h1 h2) (fun a b => by rw [Bool.or_eq_true]; exact tot_le k a b) l
theorem pw_uniq {β : Type} {le : β → β → Prop} : ∀ {l m : List β}, l.Perm m → l.Pairwise le → m.Pairwise le → (∀ a ∈ l, ∀ b ∈ l, le a b → le b a → a = b) → l = m
  | [], m, p, _, _, _ => (List.nil_perm.mp p).symm
  | x :: l, [], p, _, _, _ => by have := p.length_eq; simp at this
  | x :: l, y :: m, p, h, g, t => by
    rw [List.pairwise_cons] at h g
    have hx : x ∈ y :: m := p.mem_iff.mp List.mem_cons_self
    have hy : y ∈ x :: l := p.mem_iff.mpr List.mem_cons_self
    have e : x = y := by
      rcases List.mem_cons.mp hx with e | hx
      · exact e
      · rcases List.mem_cons.mp hy with e | hy'
        · exact e.symm
        · exact t x List.mem_cons_self y hy (h.1 y hy') (g.1 x hx)
    subst e
    rw [pw_uniq (List.Perm.cons_inv p) h.2 g.2 fun a ha b hb => t a (List.mem_cons_of_mem _ ha) b (List.mem_cons_of_mem _ hb)]
/-- the sorted list does not hang on the order before, where keys tell the items -/
theorem srt_perm {β : Type} (k : β → PyData) {l m : List β} (p : l.Perm m) (inj : ∀ a ∈ l, ∀ b ∈ l, keyToks (k a) = keyToks (k b) → a = b) : l.mergeSort (dataLe false k) = m.mergeSort (dataLe false k) :=
  pw_uniq ((List.mergeSort_perm l _).trans (p.trans (List.mergeSort_perm m _).symm)) (srt_pw k l) (srt_pw k m) fun a ha b hb h1 h2 => inj a ((List.mergeSort_perm l _).mem_iff.mp ha) b ((List.mergeSort_perm l _).mem_iff.mp hb) (anti_le k a b h1 h2)
section
variable {X : Cx} {M : Mo} {W : WX} {pos : Pos} {a : Expr} {f : Ev}
theorem merge_map {β γ : Type} (g : β → γ) (le : γ → γ → Bool) (l : List β) : (l.mergeSort fun a b => le (g a) (g b)).map g = (l.map g).mergeSort le :=
  List.map_mergeSort (fun _ _ _ _ => rfl)
theorem cs_sortG : CallS (kwX X) (rSrtD X.K) sortGD := fun tp G H ds vs Q l r q => by
  obtain ⟨y, u, rfl, rfl, ru, q⟩ := a1_of q r
  have core : ∀ (xs : List D) (p : Addr) (ws : List V), (SqL X.K H p ws ∨ SqT X.K H p ws) → Reps (kwX X) G xs ws → QX (kwX X) tp G H (sortGL xs) Q → rSrtD X.K [V.ref p] H Q := fun xs p ws s rs q => by
    unfold sortGL at q
    cases hall : srtG xs with
    | false => rw [hall] at q; exact False.elim q
    | true =>
      rw [hall, if_pos rfl] at q
      have hall : (xs.all sh = true ∧ xs.all (fun x => xs.all fun y => alkD x y) = true) ∧ ((xs.all isTupN = true ∨ xs.all isAtm = true) ∨ xs.all isT0 = true) := by
        unfold srtG srtOk srtTp at hall
        rw [Bool.or_eq_true, Bool.and_eq_true, Bool.and_eq_true, Bool.or_eq_true, Bool.and_eq_true] at hall
        rcases hall with ⟨h, h'⟩ | ⟨h, h'⟩
        · exact ⟨h, .inl h'⟩
        · rw [Bool.and_eq_true] at h
          exact ⟨h, .inr h'⟩
      obtain ⟨⟨h1, h2⟩, h3⟩ := hall
      rw [List.all_eq_true] at h1 h2
      obtain ⟨L3, e1, e2, hL⟩ := reps_zip rs
      have eL : (L3.map fun p => (p.1.py, p.2)).map (·.2) = ws := by rw [List.map_map]; exact e2
      have eD : (L3.map fun p => (p.1.py, p.2)).map (·.1) = xs.map D.py := by rw [← e1, List.map_map, List.map_map]; rfl
      refine ⟨p, L3.map fun p => (p.1.py, p.2), rfl, by rw [eL]; exact s, fun z hz => ?_, ?_, ?_, fun p' n => ?_⟩
      · obtain ⟨z, hz', rfl⟩ := List.mem_map.mp hz
        have hm : z.1 ∈ xs := by rw [← e1]; exact List.mem_map_of_mem hz'
        have hsh := h1 z.1 hm
        exact ⟨Rep.sh hsh (Rep.mono l _ _ (hL z hz')), SeqAt.depth_of_shaped hsh⟩
      · rw [eD]
        intro d hd d' hd'
        obtain ⟨x, hx, rfl⟩ := List.mem_map.mp hd
        obtain ⟨x', hx', rfl⟩ := List.mem_map.mp hd'
        exact List.all_eq_true.mp (h2 x hx) x' hx'
      · rw [eD]
        rcases h3 with (h3 | h3) | h3
        rotate_left 2
        · refine .inr fun d hd => ?_
          obtain ⟨x, hx, rfl⟩ := List.mem_map.mp hd
          have := List.all_eq_true.mp h3 x hx
          cases x with
          | tup ys => exact ⟨_, by rw [D.py]⟩
          | _ => cases this
        · refine .inl (.inl fun d hd => ?_)
          obtain ⟨x, hx, rfl⟩ := List.mem_map.mp hd
          have := List.all_eq_true.mp h3 x hx
          cases x with
          | tup ys =>
            cases ys with
            | nil => cases this
            | cons b ys => exact ⟨_, _, by rw [D.py, D.pys]⟩
          | _ => cases this
        · refine .inl (.inr fun d hd => ?_)
          obtain ⟨x, hx, rfl⟩ := List.mem_map.mp hd
          have := List.all_eq_true.mp h3 x hx
          cases x with
          | int _ => exact ⟨fun z => by simp [D.py] at z, fun ys z => by simp [D.py] at z⟩
          | str _ => exact ⟨fun z => by simp [D.py] at z, fun ys z => by simp [D.py] at z⟩
          | lst _ => exact ⟨fun z => by simp [D.py] at z, fun ys z => by simp [D.py] at z⟩
          | _ => cases this
      · have em : (L3.map fun p => (p.1.py, p.2)).mergeSort (dataLe false (·.1)) = (L3.mergeSort (dataLe false fun p => p.1.py)).map fun p => (p.1.py, p.2) := (merge_map (fun p : D × V => (p.1.py, p.2)) (dataLe false (·.1)) L3).symm
        have ed : (L3.mergeSort (dataLe false fun p => p.1.py)).map (·.1) = sortD xs := by rw [← e1]; exact merge_map (fun p : D × V => p.1) leqD L3
        rw [em, List.map_map]
        rw [← ed] at q
        exact QX.newLst q l (reps_unzip fun z hz => hL z ((List.mergeSort_perm L3 _).mem_iff.mp hz)) n
  cases y with
  | lst xs =>
    obtain ⟨p, ws, rfl, s, rs⟩ := ru
    exact core xs p ws (.inl (l.sqL s)) rs q
  | tup xs =>
    obtain ⟨p, ws, rfl, s, rs⟩ := ru
    exact core xs p ws (.inr (l.sqT s.1)) rs q
  | _ => exact False.elim q
theorem u130 {k : Nat} (hr : Room k X.A) : X.A.units + 130 < cLine := by have := hr.un; omega
theorem bSortG {k : Nat} {p : Pos} (hr : Room k X.A) (hm : X.mg "sorted" = none) (ha : PE X a (tE (kwX X) M W f)) (hg : Gl X "sorted" := by rfl) (he : starEach [a] X.env = (false, eval a X.env) :: starEach [] X.env := by rfl) : PE X (.Call (.Name "sorted" p) [a] [] pos) (tE (kwX X) M W (eB sortGD (aCons f aNil))) :=
  de_callB (cr_srtD (u130 hr)) cs_sortG hg hm bt_sorted (da_cons ha da_nil he) (by decide) (by decide) he
end
end Dl

set_option Elab.async false
set_option linter.all false
set_option maxRecDepth 100000
set_option maxHeartbeats 2000000
/-! sorted({.. for .. in ..}): a set comprehension of ints or of texts that is sorted at once. -/
namespace SrtD
open PySem PySem.Spec PyProof.Rows PySem.W SrtT SrtO Srt Sx
def encK (k : L2.Key) : PyData := (Dl.keyD k).py
theorem enc_inj {k l : L2.Key} (h : keyToks (encK k) = keyToks (encK l)) : k = l := by
  cases k with
  | inl i =>
    cases l with
    | inl j => simp [encK, Dl.keyD, Dl.D.py, keyToks] at h; rw [h]
    | inr y => simp [encK, Dl.keyD, Dl.D.py, keyToks] at h
  | inr x =>
    cases l with
    | inl j => simp [encK, Dl.keyD, Dl.D.py, keyToks] at h
    | inr y =>
      simp [encK, Dl.keyD, Dl.D.py, keyToks] at h
      rw [str_of_cps (x := x) (y := y) (by rw [h])]
theorem reads_key {h : Heap} {k : L2.Key} {v : Value} (q : L2.keyIs k v = true) : ∃ as, Reads h v (encK k) as := by
  rcases L2.keyIs_shape q with ⟨i, t, rfl, rfl⟩ | ⟨x, t, rfl, rfl⟩
  · exact ⟨[], .int _ _⟩
  · exact ⟨[], .str _ _⟩
theorem each_of_mem {α β : Type} {R : α → β → Prop} (f : α → β) : ∀ {l : List α}, (∀ x ∈ l, R x (f x)) → EachIs R l (l.map f)
  | [], _ => .nil
  | x :: l, h => .cons (h x List.mem_cons_self) (each_of_mem f fun y hy => h y (List.mem_cons_of_mem _ hy))
section
variable {P : Program} {w : World} {A : Around} {E : Value → Shared → Prop} {s : Shared}
theorem sorted_setM {a : Addr} {ks : List L2.Key} {Q : Value → Shared → Prop} (R : SetM w s.heap a ks) (hh : A.handled = none) (hal : AllAlike (ks.map encK)) (hu : A.units + 4 < cLine)
    (hQ : ∀ s' p (out : List Value) (c : Nat), (∀ b o, s.heap.get? b = some o → s'.heap.get? b = some o) → s'.gens = s.gens → s'.os = s.os → s.heap.objs.size ≤ p →
      s'.heap.get? p = some (seqObj "list" out.toArray c) → EachIs (fun v k => L2.keyIs k v = true) out (ks.mergeSort (dataLe false encK)) → Q (.ref p) s') :
    wpAny (model P w) A (call (.builtin "sorted") [.ref a]) Q E s := by
  obtain ⟨o, es, ep, t, ho, hex, hd, g, nd, hm, hb, hf, hr, hl⟩ := R
  refine Calls.call_function_entry kind_sorted plain_sorted entry_sorted (args_sorted1 _) ?_
  unfold Builtin.«sorted»
  refine wpAny_bind (m := checkCount "sorted" 1 1 _) (wpAny_pure ?_)
  refine wpAny_bind (L2.collect_set (A := A.in1) hh ⟨o, ho, hex.1, hd⟩ hf hb hr hl fun s1 vs k1 hz g1 o1 pm => ?_)
  have hvl : vs.length = es.size := by rw [pm.length_eq, List.length_map, Array.length_toList]
  have hsl : es.size ≤ sizeLine := by
    have : scanBound ≤ sizeLine := by decide
    omega
  -- the values' keys
  have hmem : ∀ v ∈ vs, L2.keyIs (keyM (0, v)) v = true := fun v hv => by
    obtain ⟨e, he, q⟩ := List.mem_map.mp (pm.mem_iff.mp hv)
    obtain ⟨k, h1, _⟩ := g e he
    rw [q] at h1
    have : keyM (0, v) = k := keyM_of (e := (0, v)) h1
    rw [this]; exact h1
  have pk : (vs.map fun v => keyM (0, v)).Perm ks := by
    have q := (pm.map fun v => keyM (0, v)).trans (.of_eq (List.map_map (l := es.toList)))
    refine q.trans (.trans (.of_eq ?_) hm)
    exact List.map_congr_left fun e he => rfl
  have e1 : EachIs (fun v k => L2.keyIs k v = true) vs (vs.map fun v => keyM (0, v)) := each_of_mem _ hmem
  have hal' : AllAlike ((vs.map fun v => keyM (0, v)).map encK) := fun d hd d' hd' => hal d ((pk.map encK).mem_iff.mp hd) d' ((pk.map encK).mem_iff.mp hd')
  refine wpAny_bind (wpAny_newList ?_ (by omega))
  have hoL : (s1.heap.push (seqObj "list" vs.toArray 0)).get? s1.heap.objs.size = some (seqObj "list" vs.toArray 0) := Heap.get?_push_size _ rfl
  have er : ∀ h : Heap, EachIs (fun v k => ∃ as, Reads h v (encK k) as) vs (vs.map fun v => keyM (0, v)) := fun h => e1.mono fun v k q => reads_key q
  have hso : Sortable ((vs.map fun v => keyM (0, v)).map encK) := Sortable.others fun k => by
    cases k with
    | inl i => exact ⟨fun z => by simp [encK, Dl.keyD, Dl.D.py] at z, fun xs z => by simp [encK, Dl.keyD, Dl.D.py] at z⟩
    | inr x => exact ⟨fun z => by simp [encK, Dl.keyD, Dl.D.py] at z, fun xs z => by simp [encK, Dl.keyD, Dl.D.py] at z⟩
  refine wpAny_bind (wpAny_holding (wpAny_call_entry slot_list_sort ⟨_, hoL, rfl⟩ entry_list_sort (list_sort_vals hoL
    (SortsAt.data (s := { s1 with heap := sortingHeap (s1.heap.push (seqObj "list" vs.toArray 0)) s1.heap.objs.size vs }) (each_map (R := fun v d => ∃ as, Reads _ v d as) encK (er _)) hal' hso fun d hd => ?_) (by omega) ⟨_, rfl, ?_⟩) (args_list_sort _)))
  · obtain ⟨k, hk, rfl⟩ := List.mem_map.mp hd
    have : (encK k).depth = 0 := by cases k <;> rfl
    show A.units + 1 + 1 + _ < cLine
    omega
  · refine wpAny_pure ⟨_, rfl, ?_⟩
    have es' := sortVals_data (R := fun v k => L2.keyIs k v = true) (enc := encK) false e1 (er (sortingHeap (s1.heap.push (seqObj "list" vs.toArray 0)) s1.heap.objs.size vs)) hal'
    rw [Dl.srt_perm encK pk fun a _ b _ h => enc_inj h] at es'
    obtain ⟨c, hc⟩ := sortedHeap_at (vs := vs) (out := (sortVals (dataKind (sortingHeap (s1.heap.push (seqObj "list" vs.toArray 0)) s1.heap.objs.size vs) ((vs.map fun v => keyM (0, v)).map encK)) false vs vs).toArray) hoL
    refine hQ _ s1.heap.objs.size _ c (fun b u e => ?_) g1 o1 hz hc es'
    have q := k1 b u e
    have hlt := Heap.lt_size q
    show (sortedHeap (s1.heap.push (seqObj "list" vs.toArray 0)) s1.heap.objs.size vs _).get? b = some u
    rw [sortedHeap_old (Nat.ne_of_lt hlt) (by rw [size_push']; exact Nat.lt_succ_of_lt hlt)]
    exact Heap.get?_push_of_some _ q
end
end SrtD
namespace L2
open PySem PySem.Spec PyProof.Rows PySem.W Sx
/-- sorted(s), s a set -/
def rSrtSet (w : World) : List V → Hp → VK → Prop := fun vs H Q => ∃ (a : Addr) (ks : List Key), vs = [V.ref a] ∧ H a = some (SetMO w a ks) ∧ AllAlike (ks.map SrtD.encK) ∧ ks.length ≤ sizeLine ∧
  ∀ (p : Addr), H p = none → Q (.ref p) (upd H p (.lst ((ks.mergeSort (dataLe false SrtD.encK)).map kV)))
section
variable {X : Cx}
theorem cr_srtSet (hd : X.A.handled = none) (hu : X.A.units + 130 < cLine) : CallR X (.builtin "sorted") (rSrtSet X.w) := by
  intro pins s σ H vs us Q I r h
  obtain ⟨a, ks, rfl, ha, hal, hz, q⟩ := h
  obtain ⟨u, rfl, ru⟩ := vals1 r
  obtain rfl : u = Value.ref a := ru
  refine SrtD.sorted_setM (setMO_get I ha) hd hal (by omega) fun s' p out c kk hg ho hp hc he => ?_
  have hv : Vals ((ks.mergeSort (dataLe false SrtD.encK)).map kV) out := vals_each kV (he.mono fun v k q => keyIs_rel q)
  have hn : H p = none := I.hok.fresh hp
  have J := I.laid (h' := s'.heap) (t' := s'.toks) (a := p) (o := .lst ((ks.mergeSort (dataLe false SrtD.encK)).map kV)) kk hp ⟨by rw [List.length_map, List.length_mergeSort]; exact hz, out, c, hv, hc⟩
  have J' : Inv X pins σ (upd H p (.lst ((ks.mergeSort (dataLe false SrtD.encK)).map kV))) s' := J.call' (ch := []) (s' := s') ho (Un.kept fun b o e => e) J.hok (by rw [hg]; exact I.bare) (fun _ z => nomatch z)
  exact ⟨.ref p, _, J', rfl, q p hn⟩
end
end L2
namespace Dl
open PySem PySem.Spec PyProof.Rows L2 PySem.W Sx SrtD
def asKeys : List D → Option (List Key)
  | [] => some []
  | d :: ds => match asKey d with
    | none => none
    | some k => (match asKeys ds with
      | none => none
      | some ks => some (k :: ks))
def addAll (acc : List Key) : List Key → List Key
  | [] => acc
  | k :: ks => addAll (addM acc k) ks
theorem addM_len (ks : List Key) (k : Key) : (addM ks k).length ≤ ks.length + 1 := by
  unfold addM
  split
  · omega
  · simp
theorem asKeys_cons {d : D} {ds : List D} {l : List Key} (h : asKeys (d :: ds) = some l) : ∃ k ks, asKey d = some k ∧ asKeys ds = some ks ∧ l = k :: ks := by
  unfold asKeys at h
  cases h1 : asKey d with
  | none => rw [h1] at h; cases h
  | some k =>
    rw [h1] at h
    cases h2 : asKeys ds with
    | none => simp only [h2] at h; cases h
    | some ks => simp only [h2] at h; cases h; exact ⟨k, ks, rfl, rfl, rfl⟩
/-- the members, each once -/
def setOf (ys : List D) : Option (List Key) := if ys.length + 1 < scanBound then (asKeys ys).map (addAll []) else none
theorem setOf_some {ys : List D} {k : List Key} (h : setOf ys = some k) : ys.length + 1 < scanBound ∧ ∃ ks, asKeys ys = some ks ∧ addAll [] ks = k := by
  unfold setOf at h
  split at h
  · rename_i hz
    cases e : asKeys ys with
    | none => rw [e] at h; cases h
    | some ks => rw [e] at h; cases h; exact ⟨hz, ks, rfl, rfl⟩
  · cases h
def nSc (vs : List Nat) (t : Tg) (it : Env → R (List D)) (c : Tv) (f : Ev) : Env → R (List Key) := fun δ => it δ >>= fun ds => mapF t c f (wipeE δ vs) ds >>= fun ys => ofO (setOf ys)
section
variable {X : Cx} {M : Mo} {W : WX} {pos : Pos}
/-- a new set -/
def tSt (X : Cx) (M : Mo) (W : WX) (n : Env → R (List Key)) : TE := fun σ H Q => ∃ Fo G δ, ER (kwX X) M.tp Fo G H δ σ ∧ PX M W σ G H (n δ) fun G' H' ks => ∀ p, H' p = none → Q (.ref p) (upd H' p (SetMO X.w p ks))
theorem tscm_of {t : Tg} {it : Env → R (List D)} {c : Tv} {f : Ev} {vs : List Nat} (hat : ∀ i ∈ t.at, i ∈ vs) {σ : L2.St} {H : Hp} {Q : VK} (q : tSt X M W (nSc vs t it c f) σ H Q) :
    tScm X.w (tI (kwX X) M W it) (tG (kwX X) M t) (tT (kwX X) M W0 c) (tE (kwX X) M W0 f) vs σ H Q := by
  obtain ⟨Fo, G, δ, er, q⟩ := q
  refine ⟨Fo, G, δ, er, ?_⟩
  refine PX.mono (PX.bind q) fun G1 H1 ds tr1 q1 J wk D nD => ?_
  have er1 := er.tr tr1
  have ntD : ¬ M.tp D := fun z => by
    obtain ⟨⟨ps, e, _⟩, _⟩ := er1.tb D z
    rw [nD] at e; cases e
  cases hm : mapF t c f (wipeE δ vs) ds with
  | bad => rw [hm] at q1; exact False.elim q1
  | exc x => exact absurd hm (mapF_no ds)
  | ok tot =>
    rw [hm] at q1
    replace q1 : PX M W σ G1 H1 (ofO (setOf tot)) fun G' H' ks => ∀ p, H' p = none → Q (.ref p) (upd H' p (SetMO X.w p ks)) := q1
    cases hz : setOf tot with
    | none => rw [hz] at q1; exact False.elim q1
    | some kall =>
      rw [hz] at q1
      have q3 : ∀ G' H', Tr M.tp G1 H1 G' H' → ∀ p, H' p = none → Q (.ref p) (upd H' p (SetMO X.w p kall)) := q1
      obtain ⟨hlen0, hk0⟩ := setOf_some hz
      let Iv : Nat → Hp → Prop := fun i H => ∃ G2 ks ys kys, H D = some (SetMO X.w D ks) ∧ G2 D = none ∧ Tr M.tp G1 H1 G2 (Dl.del H D) ∧ mapF t c f (wipeE δ vs) (ds.drop i) = .ok ys ∧ asKeys ys = some kys ∧ addAll ks kys = kall ∧ ks.length + ys.length + 1 < scanBound
      refine ⟨fun i m H => m = ds.length - i ∧ i ≤ ds.length ∧ Iv i H, ⟨ds.length, by simp, Nat.zero_le _, G1, [], tot, _, upd_same, none_of_le er1.gh nD, by rw [del_upd nD]; exact .refl er1.gh, hm, hk0.choose_spec.1, hk0.choose_spec.2, by simpa using hlen0⟩, ?_⟩
      rintro i m H2 ⟨rfl, hle, G2, ks, ys, kys, hD, gD, t2, hys, hks, htot, hln⟩
      have l2 : Le G2 H2 := fun a o q => (del_some (t2.2.1 a o q)).2
      obtain ⟨w1, w2⟩ := wk i G2 H2 t2.1 l2
      by_cases hlt : i < ds.length
      · rw [List.drop_eq_getElem_cons hlt] at hys
        obtain ⟨go, yl⟩ := w2 ds[i] (List.getElem?_eq_getElem hlt)
        refine .inr ⟨go, Iv (i + 1), fun H' z => ⟨ds.length - (i + 1), by omega, rfl, hlt, z⟩, fun x H3 y => ?_⟩
        obtain ⟨G3, t3, rx⟩ := yl x H3 y
        obtain ⟨t3', hD3, gD3⟩ := t3.delU hD gD ntD t2.2.1
        have t13 := t2.trans t3'
        obtain ⟨δ1, zp, hcase⟩ := mapF_step hys
        have er3 : ER (kwX X) M.tp (upd Fo D (SetMO X.w D ks)) G3 H3 (wipeE δ vs) (L2.wipe σ vs) := ((er1.tr t13).alienU hD3 gD3 ntD).wipe vs
        refine ⟨upd Fo D (SetMO X.w D ks), G3, wipeE δ vs, ds[i], δ1, er3, rx, zp, fun σ' er' bt => ⟨wipe_but hat bt, ?_⟩⟩
        refine ⟨upd Fo D (SetMO X.w D ks), G3, δ1, er', ?_⟩
        rcases hcase with ⟨hc, hrest⟩ | ⟨y2, zs, hc, hf, hrest, eys⟩
        · rw [hc]
          intro G4 H4 t4
          obtain ⟨t4', hD4, gD4⟩ := t4.delU hD3 gD3 ntD t3'.2.1
          exact ⟨G4, ks, ys, kys, hD4, gD4, t13.trans t4', hrest, hks, htot, hln⟩
        · rw [hc]
          intro G4 H4 t4
          obtain ⟨t4', hD4, gD4⟩ := t4.delU hD3 gD3 ntD t3'.2.1
          simp only [if_true]
          refine ⟨upd Fo D (SetMO X.w D ks), G4, δ1, er'.tr t4, ?_⟩
          rw [hf]
          intro G9 H9 t9 v rv
          obtain ⟨t9', hD9, gD9⟩ := t9.delU hD4 gD4 ntD t4'.2.1
          subst eys
          obtain ⟨k2, kw2, ek2, ekw2, ekk2⟩ := asKeys_cons hks
          subst ekk2
          rw [List.length_cons] at hln
          refine ⟨ks, k2, asKey_some ek2 rv, hD9, by omega, ?_⟩
          have e9 : Dl.del (upd H9 D (SetMO X.w D (addM ks k2))) D = Dl.del H9 D := by
            funext a
            by_cases z : a = D
            · subst z; rw [del_at, del_at]
            · rw [del_ne z, del_ne z, upd_ne z]
          refine ⟨G9, addM ks k2, zs, kw2, upd_same, gD9, ?_, hrest, ekw2, htot, by have := addM_len ks k2; omega⟩
          rw [e9]
          exact (t13.trans t4').trans t9'
      · have e : ds.drop i = [] := List.drop_eq_nil_of_le (by omega)
        rw [e] at hys
        have hys0 : ys = [] := by
          have : (R.ok [] : R (List Dl.D)) = .ok ys := hys
          cases this
          rfl
        subst hys0
        have ekys : kys = [] := by cases hks; rfl
        subst ekys
        have htot : ks = kall := htot
        subst htot
        refine .inl ⟨w1 (by omega), ?_⟩
        have eH : upd (Dl.del H2 D) D (SetMO X.w D ks) = H2 := by
          funext a
          by_cases z : a = D
          · subst z; rw [upd_same, hD]
          · rw [upd_ne z, del_ne z]
        rw [← eH]
        exact q3 G2 (Dl.del H2 D) t2 D del_at
theorem dn_sc {elt tg iter : Expr} {ifs : List Expr} {scope : Scope} (own : List (Str × Nat)) {t : Tg} {it : Env → R (List D)} {c : Tv} {f : Ev} (hc : X.calm = true) (hN : X.N.Nodup) (hi : PI X tg iter (tI (kwX X) M W it)) (ok : BlkOk X.N X.env.scope scope own) (hat : ∀ i ∈ t.at, i ∈ own.map (·.2))
    (hg : ∀ (s : Shared) (H : Hp) (C : Addr) (cl : List (Str × Addr)) (fp : List Addr), PG (X.blk s H scope (compEnvC scope cl C X.env) fp) tg (tG (kwX X) M t)) (ht : ∀ (s : Shared) (H : Hp) (C : Addr) (cl : List (Str × Addr)) (fp : List Addr), PTs (X.blk s H scope (compEnvC scope cl C X.env) fp) ifs (tT (kwX X) M W0 c))
    (he : ∀ (s : Shared) (H : Hp) (C : Addr) (cl : List (Str × Addr)) (fp : List Addr), PE (X.blk s H scope (compEnvC scope cl C X.env) fp) elt (tE (kwX X) M W0 f)) (hs : ∀ x, foldedSetIterable iter X.env x = pure x := by intro _; rfl) :
    PE X (.SetComp elt [⟨tg, iter, ifs, 0⟩] scope pos) (tSt X M W (nSc (own.map (·.2)) t it c f)) :=
  PE.imp (pe_scm hc hN hi ok hg ht he hs) fun _ _ _ => tscm_of hat
/-- sorted(a set comprehension) -/
def srtS (ks : List Key) : Option D := if (ks.all fun k => ks.all fun l => alkD (keyD k) (keyD l)) = true ∧ ks.length ≤ sizeLine then some (.lst (sortD (ks.map keyD))) else none
def eSrtS (n : Env → R (List Key)) : Ev := fun δ => n δ >>= fun ks => ofO (srtS ks)
theorem reps_kys {K : Kw} {G : Hp} : ∀ ks : List Key, Reps K G (ks.map keyD) (ks.map kV)
  | [] => rfl
  | .inl i :: ks => ⟨_, _, rfl, rfl, reps_kys ks⟩
  | .inr x :: ks => ⟨_, _, rfl, rfl, reps_kys ks⟩
theorem bSortS {k : Nat} {p : Pos} {e : Expr} {n : Env → R (List Key)} (hr : Room k X.A) (hm : X.mg "sorted" = none) (ha : PE X e (tSt X M W n)) (hg : Gl X "sorted" := by rfl) (he : starEach [e] X.env = (false, eval e X.env) :: starEach [] X.env := by rfl) : PE X (.Call (.Name "sorted" p) [e] [] pos) (tE (kwX X) M W (eSrtS n)) := by
  refine PE.imp (pe_callB (cr_srtSet hr.hd (u130 hr)) hg hm bt_sorted (pa_cons ha pa_nil he) (by decide) (by decide) he) fun σ H Q ⟨Fo, G, δ, er, q⟩ => ?_
  refine ⟨Fo, G, δ, er, PX.mono (PX.bind q) fun G1 H1 ks t1 q1 p1 n1 => ?_⟩
  unfold srtS at q1
  split at q1
  · rename_i hz
    obtain ⟨h1, h2⟩ := hz
    refine ⟨p1, ks, rfl, upd_same, fun d hd d' hd' => ?_, h2, fun p2 n2 => ?_⟩
    · obtain ⟨x, hx, rfl⟩ := List.mem_map.mp hd
      obtain ⟨y, hy, rfl⟩ := List.mem_map.mp hd'
      exact List.all_eq_true.mp (List.all_eq_true.mp h1 x hx) y hy
    · have l1 := t1.2.1
      have tj : Tr M.tp G1 H1 G1 (upd H1 p1 (SetMO X.w p1 ks)) := Tr.junk l1 n1
      have e1 : sortD (ks.map keyD) = (ks.mergeSort (dataLe false encK)).map keyD := (merge_map keyD leqD ks).symm
      rw [e1] at q1
      have l2 := tj.2.1
      exact q1 _ _ (tj.trans (Tr.new l2 n2)) _ ⟨p2, _, rfl, SqL.of upd_same, reps_kys _⟩
  · exact False.elim q1
end
end Dl

set_option Elab.async false
set_option linter.all false
set_option maxRecDepth 100000
set_option maxHeartbeats 4000000
/-! tuple * int. -/
namespace L2
open PySem PySem.Spec PyProof.Rows
def rRepF (K : PySem.W.Frag) : R2 := fun x y H Q => ∃ l k xs, x = .ref l ∧ y = .int k ∧ SqT K H l xs ∧ xs ≠ [] ∧ 2 ≤ k ∧ k ≤ 1000 ∧ xs.length ≤ 1000 ∧ Dl.NewT H (List.replicate k.toNat xs).flatten Q
section
variable {X : Cx}
theorem op_repF : OpR X (binaryOp .Mult) (rRepF X.K) := by
  intro pins s σ H x y v u Q I rx ry h
  obtain ⟨l, k, xs, rfl, rfl, hT, hne, h1, h2, hz, q⟩ := h
  cases rx
  obtain ⟨t, rfl⟩ := ry
  obtain ⟨its, r, ⟨⟨cls, dd, data, sl⟩, ho, hc, n, hd⟩, hs⟩ := I.tuple hT
  simp only at hc hd
  subst hc hd
  have hle : its.length = xs.length := r.length.symm
  have hn : its ≠ [] := fun e => hne (by
    rw [e] at hle
    exact List.eq_nil_of_length_eq_zero hle.symm)
  have hi : its.toArray.isEmpty = false := by
    cases its with
    | nil => exact absurd rfl hn
    | cons a b => rfl
  have hsz0 : its.toArray.size = xs.length := by rw [List.size_toArray, hle]
  have hm : ((its.toArray.size : Nat) : Int) * k ≤ 1000000 := by
    rw [hsz0]
    have a1 : ((xs.length : Nat) : Int) * k ≤ 1000 * k := Int.mul_le_mul_of_nonneg_right (by omega) (by omega)
    omega
  have flen : (List.replicate k.toNat its).flatten.length ≤ sizeLine := by
    rw [PyProof.Rows.lm_len_rep_flat, hle, sizeLine_eq]
    have a1 : k.toNat * xs.length ≤ 1000 * 1000 := Nat.mul_le_mul (by omega) hz
    omega
  have c0 : (decide (k < -(2 ^ 63)) || decide (k ≥ 2 ^ 63)) = false := by
    rw [decide_eq_false (by omega), decide_eq_false (by omega)] <;> rfl
  have c1 : (its.toArray.isEmpty || k == 1) = false := by
    rw [hi, Bool.false_or]
    exact beq_eq_false_iff_ne.mpr (by omega)
  have c2 : (decide (k ≤ 0) || its.toArray.isEmpty) = false := by
    rw [hi, Bool.or_false]
    exact decide_eq_false (by omega)
  have c4 : Builtin.Tuple.tupleTooMany (((its.toArray.size : Nat) : Int) * k) = false := by
    unfold Builtin.Tuple.tupleTooMany
    rw [sizeLine_eq]
    exact decide_eq_false (by omega)
  refine wpAny_binaryOp_repeat_ref (T := "tuple") (U := "int") (by decide) ⟨_, ho, rfl⟩ (fun s' => typeIs_int s' k t) noFill_tuple_mul F.fills_int_mul F.slot_int_rmul repeat_tuple F.slot_int_index.lookup
    (call_meets F.slot_int_rmul (typeIs_int s k t) F.entry_int_rmul (F.args_int_rmul_2 _ _) (int_rmul_tuple k t l its.toArray n dd sl)
      ⟨ho, rfl, ⟨_, ho, rfl⟩, call_meets F.slot_tuple_mul ⟨_, ho, rfl⟩ F.entry_tuple_mul (F.args_tuple_mul_2 _ _) (tuple_mulW l its.toArray n dd sl k t c0 c1 c2 (by omega) c4 (by rw [size_rep, List.size_toArray]; exact flen)) ⟨ho, ?_⟩⟩)
  rw [size_rep]
  exact Dl.Inv.newT0 I (t' := s.toks) (r.rep k.toNat) (by rw [PyProof.Rows.lm_len_rep_flat, sizeLine_eq]; have a1 : k.toNat * xs.length ≤ 1000 * 1000 := Nat.mul_le_mul (by omega) hz; omega) q
end
end L2
namespace Dl
open PySem PySem.Spec PyProof.Rows L2
def repD (d e : D) : Option D := match d, e with
  | .tup xs, .int k => if xs ≠ [] ∧ 2 ≤ k ∧ k ≤ 1000 ∧ xs.length ≤ 1000 then some (.tup (List.replicate k.toNat xs).flatten) else none
  | _, _ => none
theorem Reps.rep {K : Kw} {G : Hp} {xs : List D} {vs : List V} (r : Reps K G xs vs) : ∀ n : Nat, Reps K G (List.replicate n xs).flatten (List.replicate n vs).flatten
  | 0 => rfl
  | n + 1 => by
    rw [List.replicate_succ, List.replicate_succ, List.flatten_cons, List.flatten_cons]
    exact r.append (Reps.rep r n)
section
variable {X : Cx} {M : Mo} {W : WX} {pos : Pos} {a b : Expr} {f g : Ev}
theorem os_rep : OpS (kwX X) (rRepF X.K) repD := fun tp G H d e v w Q l rv rw q => by
  cases d with
  | tup xs =>
    cases e with
    | int k =>
      unfold repD at q
      simp only at q
      split at q
      · rename_i hz
        obtain ⟨h1, h2, h3, h4⟩ := hz
        obtain ⟨p, ws, rfl, s, rs⟩ := rv
        cases rw
        refine ⟨p, k, ws, rfl, rfl, l.sqT s.1, fun z => ?_, h2, h3, by rw [rs.length]; exact h4, QX.newTup q l (rs.rep _)⟩
        have := rs.length
        rw [z] at this
        exact h1 (List.eq_nil_of_length_eq_zero this.symm)
      · exact False.elim q
    | _ => exact False.elim q
  | _ => exact False.elim q
theorem xRep (ha : PE X a (tE (kwX X) M W f)) (hb : PE X b (tE (kwX X) M W g)) : PE X (.BinOp a .Mult b pos) (tE (kwX X) M W (e2 repD f g)) := de_op op_repF os_rep ha hb
end
end Dl

set_option Elab.async false
set_option linter.all false
set_option maxRecDepth 100000
set_option maxHeartbeats 2000000
/-! tuple(text). -/
namespace L2
open PySem PySem.Spec PyProof.Rows RT
section
variable {prog : Program} {w : World} {A : Around} {E : Value → Shared → Prop} {s : Shared}
end
section
variable {X : Cx}
end
end L2
namespace Dl
open PySem PySem.Spec PyProof.Rows L2
section
variable {X : Cx} {M : Mo} {W : WX} {pos : Pos} {a : Expr} {f : Ev}
end
end Dl

set_option Elab.async false
set_option linter.all false
set_option maxRecDepth 100000
set_option maxHeartbeats 4000000
/-! sorted(xs, key=lambda x: (x[0], not x[1])). -/
namespace SrtL
open PySem PySem.Spec PyProof.Rows PySem.W L2
section
variable {prog : Program} {w : World} {A : Around} {E : Value → Shared → Prop} {s : Shared}
/-- the names of a lambda of one parameter -/
structure Lam1 (scope : Scope) (x : Str) : Prop where
  kind : scope.kind = .function
  co : scope.isCoroutine = false
  gen : scope.isGenerator = false
  nocell : ∀ y ∈ scope.names, y.2 ≠ .cell
  loc : scope.names.lookup x = some .local
end
end SrtL
namespace Dl
open PySem PySem.Spec PyProof.Rows L2 LamX
section
variable {X : Cx} {pins : List (Addr × Obj)} {σ : L2.St} {H : Hp} {s : Shared}
/-- the table's object is written, the code object at c is new and known from now on; all else is kept -/
theorem inv_tableD {P c : Addr} {oc : Obj} {ps more : Array Value} {h' : Heap} {t' : Nat} (I : Inv X pins σ H s) (hP : H P = some (.tbl ps)) (k : ∀ b o, b ≠ P → s.heap.get? b = some o → h'.get? b = some o)
    (hm : h'.get? P = some { cls := .none, data := .fields (ps ++ more) }) (hc : s.heap.objs.size ≤ c) (ho : h'.get? c = some oc) :
    Inv X pins σ (upd (upd H P (.tbl (ps ++ more))) c (.frz oc (.own 0))) { s with heap := h', toks := t' } := by
  have nC : H c = none := I.hok.fresh hc
  have nPc : P ≠ c := ne_of_none hP nC
  have at_ : ∀ b, b ≠ P → b ≠ c → upd (upd H P (.tbl (ps ++ more))) c (.frz oc (.own 0)) b = H b := fun b h1 h2 => by rw [upd_ne h2, upd_ne h1]
  have atP : upd (upd H P (.tbl (ps ++ more))) c (.frz oc (.own 0)) P = some (.tbl (ps ++ more)) := by rw [upd_ne nPc, upd_same]
  have nP : ∀ b u, H b = some u → (∀ q, u ≠ .tbl q) → b ≠ P := fun b u e q z => by
    rw [z, hP] at e
    exact q ps (Option.some.inj e).symm
  have nN : ∀ b, H b = none → b ≠ P := fun b e z => by
    rw [z, hP] at e
    cases e
  have lt' : ∀ b o, s.heap.get? b = some o → b ≠ c := fun b o e z => by
    rw [z] at e
    exact Nat.lt_irrefl _ (Nat.lt_of_lt_of_le (Heap.lt_size e) hc)
  have sm : ∀ b u, H b = some u → b ≠ c := fun b u e => ne_of_none e nC
  refine I.step (g' := s.gens) (d' := s.drawn) (ch := []) (fun b hb => absurd hb (by simp)) (fun b o _ _ _ e n => k b o (nN b n) e) (fun b o _ _ _ e n => ⟨o.slots, k b o (nN b n) e⟩)
    (fun b o _ e n => by rw [at_ b (nN b n) (lt' b o e)]; exact n) (fun b o _ e => ?_) (fun b xs e => by rw [at_ b (nP b _ e (fun q z => by cases z)) (sm b _ e)]; exact e) (fun b o u e => by rw [at_ b (nP b _ e (fun q z => by cases z)) (sm b _ e)]; exact e) (fun b qs e => ?_) (fun m hn => ?_) (fun b u e => ?_) I.bare
  · by_cases hb : b = P
    · rw [hb]
      exact ⟨_, hm⟩
    · exact ⟨o, k b o hb e⟩
  · by_cases hb : b = P
    · rw [hb, hP] at e
      cases e
      rw [hb, atP]
      exact ⟨more, rfl⟩
    · rw [at_ b hb (sm b _ e), e]
      exact ⟨#[], by simp⟩
  · obtain ⟨ob, es, ep, ho, r⟩ := hn
    exact ⟨ob, es, ep, k _ ob (nN _ I.free) ho, r⟩
  · by_cases hb : b = c
    · rw [hb, upd_same] at e
      cases e
      rw [hb]
      exact ⟨ho, ⟨oc, ho⟩⟩
    · by_cases hb2 : b = P
      · rw [hb2, atP] at e
        cases e
        rw [hb2]
        exact hm
      · rw [at_ b hb2 hb] at e
        refine (I.hok b u e).stay (fun d v hd q => k d v ?_ q) (fun d q => by rw [at_ d (nP d _ q (fun q z => by cases z)) (sm d _ q)]; exact q) fun d xs q => by rw [at_ d (nP d _ q (fun q z => by cases z)) (sm d _ q)]; exact q
        rcases hd with z | z
        · rw [z]
          exact hb2
        · exact nP d _ z (fun q z => by cases z)
end
end Dl
namespace Dl
open PySem PySem.Spec PyProof.Rows L2 PySem.W SrtL
/-! ### sorted(l, key=lambda x: (x[0], not x[1])) -/
section
variable {X : Cx} {M : Mo} {W : WX} {pos p kpos lpos : Pos} {a : Expr} {f : Ev} {x : Str} {p1 p2 p3 p4 p5 p6 p7 p8 : Pos} {j1 j2 j3 : Nat} {params : Arguments} {scope : Scope} {c P : Addr} {k : Nat}
end
end Dl

set_option Elab.async false
set_option linter.all false
set_option maxRecDepth 100000
set_option maxHeartbeats 2000000
/-! list(d.keys()). -/
namespace Dl
open PySem PySem.Spec PyProof.Rows L2
section
variable {X : Cx} {M : Mo} {W : WX} {pos p apos cpos : Pos} {a : Expr} {f : Ev}
end
end Dl

set_option Elab.async false
set_option linter.all false
set_option maxRecDepth 100000
set_option maxHeartbeats 2000000
/-! {k: v for ..}, the keys tuples. -/
namespace Dl
open PySem PySem.Spec PyProof.Rows L2
section
variable {X : Cx} {pins : List (Addr × Obj)} {σ : L2.St} {H : Hp} {s : Shared} {y v : V} {u r : Value} {E : Value → Shared → Prop}
end
section
variable {X : Cx}
end
section
variable {X : Cx} {M : Mo} {W : WX} {pos : Pos}
end
end Dl

set_option Elab.async false
set_option linter.all false
set_option maxRecDepth 100000
set_option maxHeartbeats 2000000
/-! for k in d, the keys tuples. -/
namespace Dl
open PySem PySem.Spec PyProof.Rows L2
def Ikd (d : Addr) (o : Obj) (kas : List V) : It :=
  ⟨fun i H => H d = some (dtO d o) ∧ i < kas.length, fun i H x H' => H' = H ∧ kas[i]? = some x, fun i H => H d = some (dtO d o) ∧ kas.length ≤ i⟩
section
variable {P : Program} {w : World} {K : PySem.W.Frag} {tg : Expr} {d : Addr} {o : Obj} {es : Array DictEntry} {ep : Nat}
end
theorem Wk.dt {K : Kw} {tp : Tb} {G : Hp} {d : Addr} {o : Obj} {ks : List D} {kas : List V} (s : G d = some (dtO d o)) (r : Reps K G ks kas) : Wk K tp G (Ikd d o kas) ks := fun i G1 H1 l l1 =>
  ⟨fun h => ⟨l1 _ _ (l _ _ s), by rw [r.length]; exact h⟩, fun d' h => by
    obtain ⟨v, ev, rv⟩ := r.get h
    refine ⟨⟨l1 _ _ (l _ _ s), (List.getElem?_eq_some_iff.mp ev).1⟩, fun x H2 y => ?_⟩
    obtain ⟨e, y⟩ := y
    subst e
    rw [ev] at y; cases y
    exact ⟨G1, .refl l1, Rep.mono l _ _ rv⟩⟩
section
variable {X : Cx} {M : Mo} {W : WX} {fe : Ev}
end
end Dl

set_option Elab.async false
set_option linter.all false
set_option maxRecDepth 100000
set_option maxHeartbeats 2000000
/-! min of a list or a tuple of any alike data. -/
namespace MinDt
open PySem PySem.Spec PyProof.Rows PySem.W SrtD
section
variable {prog : Program} {w : World} {A : Around} {E : Value → Shared → Prop} {s : Shared}
end
end MinDt
namespace L2
open PySem PySem.Spec PyProof.Rows PySem.W MinDt
section
variable {X : Cx}
end
end L2
namespace Dl
open PySem PySem.Spec PyProof.Rows L2 PySem.W MinDt
section
variable {X : Cx} {M : Mo} {W : WX} {pos : Pos} {a : Expr} {f : Ev}
end
end Dl

set_option Elab.async false
set_option linter.all false
set_option maxRecDepth 100000
set_option maxHeartbeats 2000000
/-! Set comprehensions of tuples of ints, sorted at once. -/
namespace Sxt
open PySem PySem.Spec PyProof.Rows L2 PpSet Sx
section
variable {P : Program} {w : World} {A : Around} {E : Value → Shared → Prop} {s : Shared} {a : Addr} {L : List (Addr × List Int)} {es : Array (Int × Value)} {ep : Nat} {t : SetTable}
end
section
variable {X : Cx}
end
section
variable {X : Cx}
end
end Sxt

set_option Elab.async false
set_option linter.all false
set_option maxRecDepth 100000
set_option maxHeartbeats 2000000
/-! sorted({.. for .. in ..}): a set comprehension of tuples of ints that is sorted at once. -/
namespace SrtD
open PySem PySem.Spec PyProof.Rows PySem.W SrtT SrtO Srt Sx L2
section
variable {P : Program} {w : World} {A : Around} {E : Value → Shared → Prop} {s : Shared}
end
end SrtD

set_option Elab.async false
set_option linter.all false
set_option maxRecDepth 100000
set_option maxHeartbeats 2000000
/-! sorted({.. for .. in ..}) of tuples of ints, over data. -/
namespace L2
open PySem PySem.Spec PyProof.Rows PySem.W Sx SrtD
section
variable {X : Cx}
end
end L2
namespace Dl
open PySem PySem.Spec PyProof.Rows L2 PySem.W Sx Sxt SrtD
abbrev tpI (k : List Int) : D := .tup (k.map D.int)
structure TL (K : Kw) (G : Hp) (L : List (Addr × List Int)) (xs : List D) : Prop where
  rep : ∀ q ∈ L, Rep K G (tpI q.2) (V.ref q.1)
  sub : ∀ q ∈ L, tpI q.2 ∈ xs
  all : ∀ x ∈ xs, ∃ q ∈ L, x = tpI q.2
  nd : (L.map (·.2)).Nodup
  len : L.length ≤ xs.length
theorem TL.nil {K : Kw} {G : Hp} : TL K G [] [] := ⟨fun q h => (by cases h), fun q h => (by cases h), fun q h => (by cases h), List.nodup_nil, Nat.le_refl _⟩
theorem TL.mono {K : Kw} {G G' : Hp} {L : List (Addr × List Int)} {xs : List D} (h : TL K G L xs) (l : Le G G') : TL K G' L xs := ⟨fun q hq => Rep.mono l _ _ (h.rep q hq), h.sub, h.all, h.nd, h.len⟩
theorem TL.add {K : Kw} {G : Hp} {L L' : List (Addr × List Int)} {xs : List D} {k : List Int} {x : Addr} (h : TL K G L xs) (r : Rep K G (tpI k) (V.ref x)) (c1 : k ∈ L.map (·.2) → L' = L) (c2 : k ∉ L.map (·.2) → L'.Perm ((x, k) :: L)) : TL K G L' (xs ++ [tpI k]) := by
  rcases Classical.em (k ∈ L.map (·.2)) with c | c
  · rw [c1 c]
    refine ⟨h.rep, fun q hq => List.mem_append_left _ (h.sub q hq), fun y hy => ?_, h.nd, by rw [List.length_append]; exact Nat.le_add_right_of_le h.len⟩
    rcases List.mem_append.mp hy with hy | hy
    · exact h.all y hy
    · obtain ⟨q, hq, e⟩ := List.mem_map.mp c
      exact ⟨q, hq, by rw [List.mem_singleton.mp hy, e]⟩
  · have p := c2 c
    refine ⟨fun q hq => ?_, fun q hq => ?_, fun y hy => ?_, ?_, ?_⟩
    · rcases List.mem_cons.mp (p.mem_iff.mp hq) with e | hq
      · rw [e]; exact r
      · exact h.rep q hq
    · rcases List.mem_cons.mp (p.mem_iff.mp hq) with e | hq
      · rw [e]; exact List.mem_append_right _ (List.mem_singleton.mpr rfl)
      · exact List.mem_append_left _ (h.sub q hq)
    · rcases List.mem_append.mp hy with hy | hy
      · obtain ⟨q, hq, e⟩ := h.all y hy
        exact ⟨q, p.mem_iff.mpr (List.mem_cons_of_mem _ hq), e⟩
      · exact ⟨(x, k), p.mem_iff.mpr List.mem_cons_self, List.mem_singleton.mp hy⟩
    · refine (p.map (·.2)).nodup_iff.mpr ?_
      rw [List.map_cons, List.nodup_cons]
      exact ⟨c, h.nd⟩
    · rw [p.length_eq, List.length_append, List.length_cons, List.length_singleton]
      exact Nat.succ_le_succ h.len
section
variable {X : Cx} {M : Mo} {W : WX} {pos : Pos}
end
end Dl

set_option Elab.async false
set_option linter.all false
set_option maxRecDepth 100000
set_option maxHeartbeats 2000000
/-! Own lists read within a comprehension, x.remove(k) of own lists of ints, for .. in reversed(..). -/
namespace Dl
open PySem PySem.Spec PyProof.Rows L2
/-! ### a new list made while an own thing is lent -/
section
variable {X : Cx} {M : Mo} {W : WX} {pos : Pos} {e : Expr} {n : Env → R (List D)}
end
section
variable {X : Cx} {M : Mo} {W : WX} {pos : Pos}
end
/-! ### x.remove(k) -/
section
variable {X : Cx} {M : Mo} {W : WX} {pos : Pos} {e : Expr} {fe : Ev}
end
/-! ### for .. in reversed(..) -/
section
variable {X : Cx} {M : Mo} {W : WX} {fe : Ev}
end
end Dl

set_option Elab.async false
set_option linter.all false
set_option maxRecDepth 100000
set_option maxHeartbeats 2000000
/-! Lists of own lists made by a comprehension of new lists; x[j][k] = e for such lists. -/
namespace Dl
open PySem PySem.Spec PyProof.Rows L2
/-! ### x = [NEW for y in it], NEW an expression of a new list -/
section
variable {X : Cx} {M : Mo} {W : WX} {pos : Pos} {it n : Env → R (List D)}
end

/-! ### x[j][k] = e -/
section
variable {X : Cx} {M : Mo} {W : WX} {pos : Pos} {e : Expr} {fe gj gk : Ev}
end
end Dl

set_option Elab.async false
set_option linter.all false
set_option maxRecDepth 100000
set_option maxHeartbeats 2000000
/-! min(.., key=lambda y: ..), sorted(.., key=lambda y: ..): the key reads y and captured names. -/
namespace Dl
open PySem PySem.Spec PyProof.Rows L2 LamX
/-! ### data as it stands in the heap, not at the places B -/
def Grow (h h' : Heap) : Prop := ∀ b o, h.get? b = some o → h'.get? b = some o
mutual
def KP (B : Addr → Prop) (h : Heap) : D → Value → Prop
  | .non, v => v = .none
  | .bl b, v => v = .bool b
  | .int i, v => ∃ t, v = .int i t
  | .str x, v => ∃ t, v = .str x t
  | .tup ds, v => ∃ (a : Addr) (o : Obj) (vs : Array Value) (n : Nat), v = .ref a ∧ ¬ B a ∧ h.get? a = some o ∧ o.cls = .type "tuple" ∧ o.data = .seq vs n ∧ KPs B h ds vs.toList
  | .lst ds, v => ∃ (a : Addr) (o : Obj) (vs : Array Value) (n : Nat), v = .ref a ∧ ¬ B a ∧ h.get? a = some o ∧ o.cls = .type "list" ∧ o.data = .seq vs n ∧ KPs B h ds vs.toList
  | .obj .., _ => False
  | .dk .., _ => False
  | .dt .., _ => False
def KPs (B : Addr → Prop) (h : Heap) : List D → List Value → Prop
  | [], vs => vs = []
  | d :: ds, vs => ∃ v r, vs = v :: r ∧ KP B h d v ∧ KPs B h ds r
end
mutual
theorem KP.keep {B : Addr → Prop} {h h' : Heap} (k : ∀ b o, ¬ B b → h.get? b = some o → h'.get? b = some o) : ∀ (d : D) (v : Value), KP B h d v → KP B h' d v
  | .non, _, r => r
  | .bl _, _, r => r
  | .int _, _, r => r
  | .str _, _, r => r
  | .tup ds, _, ⟨a, o, vs, n, e, nb, g, c, q, r⟩ => ⟨a, o, vs, n, e, nb, k a o nb g, c, q, KPs.keep k ds _ r⟩
  | .lst ds, _, ⟨a, o, vs, n, e, nb, g, c, q, r⟩ => ⟨a, o, vs, n, e, nb, k a o nb g, c, q, KPs.keep k ds _ r⟩
  | .obj .., _, r => r.elim
  | .dk .., _, r => r.elim
  | .dt .., _, r => r.elim
theorem KPs.keep {B : Addr → Prop} {h h' : Heap} (k : ∀ b o, ¬ B b → h.get? b = some o → h'.get? b = some o) : ∀ (ds : List D) (vs : List Value), KPs B h ds vs → KPs B h' ds vs
  | [], _, r => r
  | d :: ds, _, ⟨v, r, e, h1, h2⟩ => ⟨v, r, e, KP.keep k d v h1, KPs.keep k ds r h2⟩
end
theorem KP.grow {B : Addr → Prop} {h h' : Heap} (k : Grow h h') {d : D} {v : Value} (r : KP B h d v) : KP B h' d v := KP.keep (fun b o _ => k b o) d v r
mutual
theorem KP.of {B : Addr → Prop} {h : Heap} (nb : ∀ b, B b → h.get? b = none) : ∀ (d : D) (v : Value) (as : List Addr), d.dat = true → Reads h v d.py as → KP B h d v
  | .non, _, _, _, r => by cases r; exact rfl
  | .bl _, _, _, _, r => by cases r; exact rfl
  | .int _, _, _, _, r => by cases r; exact ⟨_, rfl⟩
  | .str _, _, _, _, r => by cases r; exact ⟨_, rfl⟩
  | .tup ds, _, _, hd, r => by
    cases r with
    | @tuple a o vs n _ _ g c q rs => exact ⟨a, o, vs, n, rfl, fun z => (by rw [nb a z] at g; cases g), g, c, q, KPs.of nb ds _ _ hd rs⟩
  | .lst ds, _, _, hd, r => by
    cases r with
    | @list a o vs n _ _ g c q rs => exact ⟨a, o, vs, n, rfl, fun z => (by rw [nb a z] at g; cases g), g, c, q, KPs.of nb ds _ _ hd rs⟩
  | .obj .., _, _, hd, _ => by cases hd
  | .dk .., _, _, hd, _ => by cases hd
  | .dt .., _, _, hd, _ => by cases hd
theorem KPs.of {B : Addr → Prop} {h : Heap} (nb : ∀ b, B b → h.get? b = none) : ∀ (ds : List D) (vs : List Value) (as : List Addr), D.dats ds = true → ReadsAll h vs (D.pys ds) as → KPs B h ds vs
  | [], _, _, _, r => by cases r; exact rfl
  | d :: ds, _, _, hd, r => by
    rw [D.dats, Bool.and_eq_true] at hd
    cases r with
    | cons r1 r2 => exact ⟨_, _, rfl, KP.of nb d _ _ hd.1 r1, KPs.of nb ds _ _ hd.2 r2⟩
end
mutual
theorem KP.reads {B : Addr → Prop} {h : Heap} : ∀ (d : D) (v : Value), d.pure = true → KP B h d v → Reads h v d.py []
  | .non, _, _, r => by cases r; exact .none
  | .bl _, _, _, r => by cases r; exact .bool _
  | .int _, _, _, ⟨t, e⟩ => by subst e; exact .int _ _
  | .str _, _, _, ⟨t, e⟩ => by subst e; exact .str _ _
  | .tup ds, _, hp, ⟨a, o, vs, n, e, _, g, c, q, r⟩ => by subst e; exact .tuple g c q (KPs.reads ds _ hp r)
  | .lst _, _, hp, _ => by cases hp
  | .obj .., _, hp, _ => by cases hp
  | .dk .., _, hp, _ => by cases hp
  | .dt .., _, hp, _ => by cases hp
theorem KPs.reads {B : Addr → Prop} {h : Heap} : ∀ (ds : List D) (vs : List Value), D.pures ds = true → KPs B h ds vs → ReadsAll h vs (D.pys ds) []
  | [], _, _, r => by cases r; exact .nil
  | d :: ds, _, hp, ⟨v, r, e, h1, h2⟩ => by
    subst e
    rw [D.pures, Bool.and_eq_true] at hp
    exact .cons (as := []) (bs := []) (KP.reads d v hp.1 h1) (KPs.reads ds r hp.2 h2)
end
theorem KPs.at {B : Addr → Prop} {h : Heap} : ∀ {ds : List D} {vs : List Value} {i : Nat} {d : D}, KPs B h ds vs → ds[i]? = some d → ∃ v, vs[i]? = some v ∧ KP B h d v
  | [], _, _, _, _, e => by simp at e
  | d :: ds, _, 0, _, ⟨v, r, e, h1, _⟩, q => by simp at q; subst q; subst e; exact ⟨v, rfl, h1⟩
  | d :: ds, _, i + 1, _, ⟨v, r, e, _, h2⟩, q => by
    subst e
    obtain ⟨w, h3, h4⟩ := KPs.at (i := i) h2 (by simpa using q)
    exact ⟨w, by simpa using h3, h4⟩
theorem KPs.len {B : Addr → Prop} {h : Heap} : ∀ {ds : List D} {vs : List Value}, KPs B h ds vs → vs.length = ds.length
  | [], _, r => by cases r; rfl
  | d :: ds, _, ⟨v, r, e, _, h2⟩ => by subst e; rw [List.length_cons, List.length_cons, KPs.len h2]
/-! ### names of a frame, as data -/
structure NmAt (B : Addr → Prop) (env : PySem.Env) (N : List Str) (h : Heap) (δ : Dl.Env) : Prop where
  kind : env.scope.kind = .function
  look : ∃ m, h.Ns env.locals m ∧ ∀ (i : Nat) (x : Str) (d : D), N[i]? = some x → δ[i]? = some (.val d) → d.dat = true → Vis env.scope x → ∃ u, KP B h d u ∧ Look env h m x u
theorem NmAt.grow {B : Addr → Prop} {env : PySem.Env} {N : List Str} {h h' : Heap} {δ : Dl.Env} (n : NmAt B env N h δ) (k : Grow h h') : NmAt B env N h' δ := by
  obtain ⟨m, hn, hl⟩ := n.look
  refine ⟨n.kind, m, hn.keeps k, fun i x d e1 e2 e3 e4 => ?_⟩
  obtain ⟨u, r, l⟩ := hl i x d e1 e2 e3 e4
  refine ⟨u, r.grow k, ?_⟩
  rcases l with l | ⟨l, c, e, o, ho, hd⟩
  · exact .inl l
  · exact .inr ⟨l, c, e, o, k _ _ ho, hd⟩
/-! ### expressions that read alone -/
structure KX (N : List Str) (sc : Scope) (e : Expr) (f : Ev) : Prop where
  run : ∀ {prog : Program} {w : World} {A : Around} {B : Addr → Prop} {env : PySem.Env} {s : Shared} {δ : Dl.Env} {d : D} {Q E : Value → Shared → Prop}, env.scope = sc → (∀ b, B b → b < s.heap.objs.size) → NmAt B env N s.heap δ → f δ = .ok d →
    (∀ h' tk' v, Grow s.heap h' → s.heap.objs.size ≤ h'.objs.size → KP B h' d v → Q v { s with heap := h', toks := tk' }) → wpAny (model prog w) A (eval e env) Q E s
def eVd (i : Nat) : Ev := fun δ => match δ[i]? with
  | some (.val d) => if d.dat = true then .ok d else .bad
  | _ => .bad
def kix (d k : D) : Option D := match d, k with
  | .lst xs, .int i => if 0 ≤ i ∧ i < 16777216 then xs[i.toNat]? else none
  | .tup xs, .int i => if 0 ≤ i ∧ i < 16777216 then xs[i.toNat]? else none
  | _, _ => none
section
variable {N : List Str} {sc : Scope} {a b : Expr} {f g : Ev}
theorem kx_var (i : Nat) {x : Str} {pos : Pos} (hN : N[i]? = some x := by rfl) (hv : Vis sc x := by first | exact Or.inl rfl | exact Or.inr (Or.inl rfl) | exact Or.inr (Or.inr rfl)) (hd : (x == ("__debug__" : Str)) = false := by decide) (hcd : (x == ("__classdict__" : Str)) = false := by decide) :
    KX N sc (.Name x pos) (eVd i) := by
  refine ⟨fun {prog w A B env s δ d Q E} hs hB n hf h => ?_⟩
  unfold eVd at hf
  split at hf
  · rename_i d' e
    by_cases hdd : d'.dat = true
    · rw [if_pos hdd] at hf
      cases hf
      obtain ⟨m, hn, hl⟩ := n.look
      obtain ⟨u, r, l⟩ := hl i x d hN e hdd (by rw [hs]; exact hv)
      have fin : Q u s := h s.heap s.toks u (fun _ _ z => z) (Nat.le_refl _) r
      rcases l with ⟨hk, hm⟩ | ⟨hk, c, hc, hcell⟩
      · exact wpAny_Name (wpAny_loadName_local n.kind hk hn hm fin) hd
      · rcases hk with hk | hk
        · exact wpAny_Name (wpAny_loadName_cell n.kind hk hc hcell fin) hd
        · exact wpAny_Name (wpAny_loadName_free n.kind hk hc hcell fin hcd) hd
    · rw [if_neg hdd] at hf; cases hf
  · cases hf
theorem kx_int {i : Int} {j : Nat} {pos : Pos} : KX N sc (.Constant (.int i) j pos) (eC (.int i)) := by
  refine ⟨fun {prog w A B env s δ d Q E} hs hB n hf h => ?_⟩
  cases hf
  exact wpAny_Constant_int (h s.heap _ _ (fun _ _ z => z) (Nat.le_refl _) ⟨_, rfl⟩)
theorem kx_ix {pos : Pos} (ha : KX N sc a f) (hb : KX N sc b g) (hs : ∀ o i, subscripted b false o i = operate [o, i] (getItem o i) := by intro _ _; rfl) : KX N sc (.Subscript a b pos) (e2 kix f g) := by
  refine ⟨fun {prog w A B env s δ d Q E} hsc hB n hf h => ?_⟩
  have hf : (f δ >>= fun x => g δ >>= fun y => ofO (kix x y)) = .ok d := hf
  cases hx : f δ with
  | bad => rw [hx] at hf; cases hf
  | exc _ => rw [hx] at hf; cases hf
  | ok x =>
    rw [hx] at hf
    cases hy : g δ with
    | bad => rw [hy] at hf; cases hf
    | exc _ => rw [hy] at hf; cases hf
    | ok y =>
      rw [hy] at hf
      replace hf : ofO (kix x y) = .ok d := hf
      cases hz : kix x y with
      | none => rw [hz] at hf; cases hf
      | some z =>
        rw [hz] at hf
        cases hf
        refine Subscript_ (ha.run hsc hB n hx fun h1 t1 v g1 z1 r1 => ?_)
        refine hb.run (s := { s with heap := h1, toks := t1 }) hsc (fun b q => Nat.lt_of_lt_of_le (hB b q) z1) (n.grow g1) hy fun h2 t2 u g2 z2 r2 => ?_
        have fin : ∀ v, KP B h2 d v → Q v { s with heap := h2, toks := t2 } := fun v r => h h2 t2 v (fun b o e => g2 _ _ (g1 _ _ e)) (Nat.le_trans z1 z2) r
        have r1' := r1.grow g2
        unfold kix at hz
        split at hz
        · rename_i xs i
          by_cases hi : 0 ≤ i ∧ i < 16777216
          · rw [if_pos hi] at hz
            obtain ⟨p, o, vs, c, rfl, _, q1, q2, q3, q4⟩ := r1'
            obtain ⟨t, rfl⟩ := r2
            obtain ⟨w', e1, e2⟩ := q4.at hz
            have hil : i.toNat < vs.size := by
              have := (List.getElem?_eq_some_iff.mp e1).1
              simpa using this
            exact item_listR (show ({ s with heap := h2, toks := t2 } : Shared).heap.IsList p vs from ⟨o, q1, q2, c, q3⟩) hi.1 (by omega) (by simpa using e1) (fin _ e2) (hs _ _)
          · rw [if_neg hi] at hz; cases hz
        · rename_i xs i
          by_cases hi : 0 ≤ i ∧ i < 16777216
          · rw [if_pos hi] at hz
            obtain ⟨p, o, vs, c, rfl, _, q1, q2, q3, q4⟩ := r1'
            obtain ⟨t, rfl⟩ := r2
            obtain ⟨w', e1, e2⟩ := q4.at hz
            have hil : i.toNat < vs.size := by
              have := (List.getElem?_eq_some_iff.mp e1).1
              simpa using this
            have ht : IsTup ({ s with heap := h2, toks := t2 } : Shared).heap p vs := ⟨o, q1, q2, c, q3⟩
            refine subscriptTail_builtinR (x := w') ht.typeIs slot_tuple_getitem.lookup (getItem_tuple (j := i.toNat) (Q := fun r s' => r = w' ∧ Q r s') ht (by omega) (by omega) ?_ (by simpa using e1) ⟨rfl, fin _ e2⟩) (hs _ _)
            exact seqIndex_of hi.1 (by omega)
          · rw [if_neg hi] at hz; cases hz
        · cases hz
end
end Dl

set_option Elab.async false
set_option linter.all false
set_option maxRecDepth 100000
set_option maxHeartbeats 2000000
/-! A lambda of one parameter with captured names, made and called. -/
namespace Dl
open PySem PySem.Spec PyProof.Rows L2 LamX PySem.W
section
variable {X : Cx} {pins : List (Addr × Obj)} {σ : L2.St} {H : Hp} {s : Shared}
/-- the lambda is made, what it captures told -/
theorem lam_makeC {tp : Tb} {G : Hp} {c P : Addr} {params : Arguments} {body : Expr} {scope : Scope} {pos : Pos} {E : Value → Shared → Prop} {Q : Value → Shared → Prop} (I : Inv X pins σ H s) (TB : LamX.TabB X.base X.mg c P) (hcode : X.env.code = .ref c)
    (l : Le G H) (gP : G P = none) (tb : TabD tp G H P) (hq : tp.lam P (pk pos) (X.env.qual ++ "<lambda>")) (hdef : defaultsOf params X.env = ([], [])) (hfr : ∀ y ∈ scope.names, y.2 = .free → ∃ c, X.env.cells.lookup y.1 = some c)
    (h : ∀ (f c' : Addr) (pm ctv : Value) (G1 H1 : Hp) (s' : Shared), Inv X pins σ H1 s' → Tr tp G H G1 H1 →
      s'.heap.get? f = some (PySem.W.kla_obj "<lambda>" (X.env.qual ++ "<lambda>") params body scope (cloFrom X.env.cells scope.names []) pm c' ctv) → H1 f = none → s'.heap.CodeRec (.ref c') (X.env.qual ++ "<lambda>") → Q (.ref f) s') :
    wpAny (model X.prog X.w) X.A (eval (.Lambda params body scope pos) X.env) Q E s := by
  obtain ⟨ps, hP, ht, ha⟩ := tb
  refine PySem.W.kla_eval hdef ?_
  have bP : s.heap.BuiltinsAt X.mg P := TB.bm.keeps I.bk
  have hP' : s.heap.get? P = some { cls := .none, data := .fields ps } := I.hok P _ hP
  have hcl := closure_ok hfr
  cases hc : codeAmong pos ps.toList with
  | none =>
    refine PySem.W.kla_makeFunction (mg := X.mg) (c := c) (P := P) (ps := ps) hcl I.ok.glob (I.mod.glob.keeps I.bk) hcode (TB.code.keeps I.bk) hP' ht hc TB.gP bP fun c' ctv h' tk hx hge hlt hrec htb => ?_
    obtain ⟨c2, oc, vs, t, e2, hoc, hd, hv⟩ := id hrec
    cases e2
    have hsz : s.heap.objs.size ≤ h'.objs.size := Nat.le_trans hge (Nat.le_of_lt hlt)
    have nC : H c' = none := I.hok.fresh hge
    have gC : G c' = none := none_of_le l nC
    have nPc : P ≠ c' := ne_of_none hP nC
    let fo := PySem.W.kla_obj "<lambda>" (X.env.qual ++ "<lambda>") params body scope (cloFrom X.env.cells scope.names []) ((X.mg "__name__").getD .none) c' ctv
    have hoc' : (h'.push fo).get? c' = some oc := Heap.get?_push_of_some _ hoc
    have I1 := inv_tableD (t' := tk) (more := #[rawInt pos.line, rawInt pos.col, .ref c']) (h' := h'.push fo) I hP
      (fun b o hb e => Heap.get?_push_of_some _ (hx b o hb e)) (Heap.get?_push_of_some _ htb) hge hoc'
    have eL : (ps ++ #[rawInt pos.line, rawInt pos.col, .ref c']).toList = ps.toList ++ [rawInt pos.line, rawInt pos.col, .ref c'] := by simp
    have lG : Le G (upd G c' (.frz oc (.own 0))) := Le.new gC
    refine h h'.objs.size c' ((X.mg "__name__").getD .none) ctv (upd G c' (.frz oc (.own 0))) _ _ I1 ⟨lG, fun a o e => ?_, fun a o g nt e => ?_, fun a ta g q => ?_⟩ (Heap.get?_push_size _ rfl) ?_ ?_
    · by_cases hb : a = c'
      · subst hb; rw [upd_same] at e ⊢; exact e
      · rw [upd_ne hb] at e ⊢
        have : a ≠ P := fun z => by rw [z, gP] at e; cases e
        rw [upd_ne this]; exact l a o e
    · have h1 : a ≠ P := fun z => nt (z ▸ .inr ⟨_, _, hq⟩)
      have h2 : a ≠ c' := ne_of_none e nC
      rw [upd_ne h2, upd_ne h1, upd_ne h2]; exact ⟨e, g⟩
    · obtain ⟨qs, q1, q2, q3⟩ := q
      have h2 : a ≠ c' := ne_of_none q1 nC
      refine ⟨?_, by rw [upd_ne h2]; exact g⟩
      by_cases h1 : a = P
      · subst h1
        rw [hP] at q1
        cases q1
        refine ⟨_, by rw [upd_ne h2, upd_same], by rw [eL]; exact PySem.TriplesOk_snoc _ _ _ _ ht, fun p' nm hnm cv hcv => ?_⟩
        rw [eL] at hcv
        rcases NdefX.among_app2 _ ht hcv with z | ⟨z, z1, z2⟩
        · obtain ⟨c0, e1, o1, u1, v1, t1, e2, e3⟩ := q3 p' nm hnm cv z
          exact ⟨c0, e1, o1, u1, v1, t1, lG _ _ e2, e3⟩
        · refine ⟨c', z, oc, .own 0, vs, t, upd_same, hd, ?_⟩
          have e : pk p' = pk pos := by show (p'.line, p'.col) = (pos.line, pos.col); rw [z1, z2]
          rw [e] at hnm
          rw [tp.one _ _ _ _ hnm hq]; exact hv
      · refine TabD.mono ⟨qs, by rw [upd_ne h2, upd_ne h1]; exact q1, q2, q3⟩ lG
    · have n1 : h'.objs.size ≠ c' := Nat.ne_of_gt hlt
      have n2 : h'.objs.size ≠ P := Nat.ne_of_gt (Nat.lt_of_lt_of_le (Heap.lt_size hP') hsz)
      rw [upd_ne n1, upd_ne n2]
      exact I.hok.fresh hsz
    · exact ⟨c', oc, vs, t, rfl, hoc', hd, hv⟩
  | some cv =>
    obtain ⟨c', e, oc, u, vs, t, hco, hd, hv⟩ := ha pos _ hq cv hc
    subst e
    refine PySem.W.kla_makeFunctionHit (mg := X.mg) (c := c) (P := P) (ps := ps) hcl I.ok.glob (I.mod.glob.keeps I.bk) hcode (TB.code.keeps I.bk) hP' ht hc bP fun ctv h' tk hx hsz => ?_
    let fo := PySem.W.kla_obj "<lambda>" (X.env.qual ++ "<lambda>") params body scope (cloFrom X.env.cells scope.names []) ((X.mg "__name__").getD .none) c' ctv
    have I1 : Inv X pins σ H { s with heap := h'.push fo, toks := tk } := I.kept fun b o e => Heap.get?_push_of_some _ (hx b o e)
    have hoc : s.heap.get? c' = some oc := (I.hok c' _ (l _ _ hco)).1
    exact h h'.objs.size c' ((X.mg "__name__").getD .none) ctv G H _ I1 (.refl l) (Heap.get?_push_size _ rfl) (I.hok.fresh hsz) ⟨c', oc, vs, t, rfl, Heap.get?_push_of_some _ (hx _ _ hoc), hd, hv⟩
end
/-- the names of a lambda of the parameter x: x alone is its own, others are captured or global -/
structure LamK (sc scope : Scope) (x : Str) : Prop where
  kind : scope.kind = .function
  co : scope.isCoroutine = false
  gen : scope.isGenerator = false
  nocell : ∀ y ∈ scope.names, y.2 ≠ .cell
  loc : scope.names.lookup x = some .local
  only : ∀ y ∈ scope.names, y.2 = .local → y.1 = x
  free : ∀ y ∈ scope.names, y.2 = .free → sc.names.lookup y.1 = some .cell ∨ sc.names.lookup y.1 = some .free
def lamKB (sc scope : Scope) (x : Str) : Bool :=
  decide (scope.kind = .function) && !scope.isCoroutine && !scope.isGenerator && decide (scope.names.lookup x = some .local) &&
  scope.names.all fun y => !decide (y.2 = .cell) && (!decide (y.2 = .local) || decide (y.1 = x)) && (!decide (y.2 = .free) || decide (sc.names.lookup y.1 = some .cell) || decide (sc.names.lookup y.1 = some .free))
theorem lamK_by {sc scope : Scope} {x : Str} (h : lamKB sc scope x = true) : LamK sc scope x := by
  unfold lamKB at h
  simp only [Bool.and_eq_true, Bool.or_eq_true, Bool.not_eq_true', decide_eq_true_eq, decide_eq_false_iff_not, List.all_eq_true] at h
  obtain ⟨⟨⟨⟨h1, h2⟩, h3⟩, h5⟩, h4⟩ := h
  refine ⟨h1, h2, h3, fun y hy => (h4 y hy).1.1, h5, fun y hy e => ?_, fun y hy e => ?_⟩
  · rcases (h4 y hy).1.2 with z | z
    · exact absurd e z
    · exact z
  · rcases (h4 y hy).2 with (z | z) | z
    · exact absurd e z
    · exact .inl z
    · exact .inr z
theorem LamK.has {X : Cx} {scope : Scope} {x : Str} (L : LamK X.env.scope scope x) (ok : X.Ok) : ∀ y ∈ scope.names, y.2 = .free → ∃ c, X.env.cells.lookup y.1 = some c := fun y hy e => by
  rcases L.free y hy e with k | k
  · exact ok.has _ (.inl k)
  · exact ok.has _ (.inr k)
section
variable {X : Cx} {pins : List (Addr × Obj)} {σ : L2.St} {H Fo G : Hp} {s0 s : Shared} {tp : Tb} {δ : Dl.Env} {A : Around} {B : Addr → Prop}
/-- the lambda is called with v, which stands for d -/
theorem key_callC {f c' : Addr} {params : Arguments} {body : Expr} {scope : Scope} {pm ctv v : Value} {x : Str} {j : Nat} {d kd : D} {g : Ev} {Q : Value → Shared → Prop}
    (I : Inv X pins σ H s0) (er : ER (kwX X) tp Fo G H δ σ) (g0 : Grow s0.heap s.heap) (hroom : A.depth < recursionLimit) (L : LamK X.env.scope scope x) (hN : X.N.Nodup) (hj : X.N[j]? = some x)
    (hf : s.heap.get? f = some (PySem.W.kla_obj "<lambda>" (X.env.qual ++ "<lambda>") params body scope (cloFrom X.env.cells scope.names []) pm c' ctv)) (hcd : s.heap.CodeRec (.ref c') (X.env.qual ++ "<lambda>"))
    (hbind : bindArgs (kla_fn "<lambda>" (X.env.qual ++ "<lambda>") params body scope (cloFrom X.env.cells scope.names []) pm (.ref c') ctv) ⟨[v], []⟩ = pure [(x, v)])
    (hb : KX X.N scope body g) (nb : ∀ b, B b → s0.heap.get? b = none) (hB : ∀ b, B b → b < s.heap.objs.size) (hv : KP B s.heap d v) (hk : g (δ.set j (.val d)) = .ok kd)
    (h : ∀ h' tk' k, Grow s.heap h' → KP B h' kd k → Q k { s with heap := h', toks := tk' }) :
    wpAny (model X.prog X.w) A (call (.ref f) [v]) Q (fun _ _ => False) s := by
  refine wpAny_call (kla_callFunE (R := fun r s' => match r with | .ok (.ret k) => Q k s' | .ok _ => False | .error e => False) hroom hf rfl L.co L.gen rfl hcd ?_)
  rw [hbind]
  have hlim : s.heap.NoLimit := I.nolimit.keeps g0
  refine wpAny_pure (wpAny_newFunctionEnv L.nocell (fun y hy => by rw [List.mem_singleton.mp hy]; exact L.loc) (fun h₁ hns hsb => ⟨hlim.fresh _ hsb, ?_⟩) L.kind)
  have kp : Grow s.heap h₁ := fun b o e => hsb.extBut b o (Nat.ne_of_lt (Heap.lt_size e)) (Heap.get?_push_of_some _ e)
  have hsz : s.heap.objs.size ≤ h₁.objs.size := Nat.le_of_lt hns.lt
  refine kla_codeExpr (hb.run (δ := δ.set j (.val d)) (B := B) rfl (fun b q => Nat.lt_of_lt_of_le (hB b q) hsz) ⟨L.kind, _, hns, fun i y d' e1 e2 e3 e4 => ?_⟩ hk fun h' tk' k g1 _ r => ?_)
  · by_cases hyx : y = x
    · subst hyx
      have hij : i = j := by
        obtain ⟨l1, q1⟩ := List.getElem?_eq_some_iff.mp e1
        obtain ⟨l2, q2⟩ := List.getElem?_eq_some_iff.mp hj
        exact (List.getElem_inj hN).mp (q1.trans q2.symm)
      subst hij
      have ed : d' = d := by
        rcases get_set_cases e2 with ⟨_, q, _⟩ | ⟨q, _⟩
        · cases q; rfl
        · exact absurd rfl q
      subst ed
      refine ⟨v, hv.grow kp, .inl ⟨L.loc, ?_⟩⟩
      simp
    · have hij : i ≠ j := fun z => by
        subst z
        rw [hj] at e1
        exact hyx (Option.some.inj e1).symm
      have e2' : δ[i]? = some (.val d') := by
        rcases get_set_cases e2 with ⟨q, _, _⟩ | ⟨_, q⟩
        · exact absurd q hij
        · exact q
      have e4 : Vis scope y := e4
      have hfree : scope.names.lookup y = some .free := by
        rcases e4 with k | k | k
        · exact absurd (L.only _ (PySem.mem_of_lookup k) rfl) hyx
        · exact absurd rfl (L.nocell _ (PySem.mem_of_lookup k))
        · exact k
      have hpar := L.free _ (PySem.mem_of_lookup hfree) rfl
      obtain ⟨w, hw, rw'⟩ := er.val i d' e2'
      obtain ⟨m, hn, hl⟩ := I.loc
      obtain ⟨u, ru, q⟩ := hl i y w e1 hw (hpar.elim (fun k => .inr (.inl k)) (fun k => .inr (.inr k)))
      obtain ⟨as, rd⟩ := Dp.reads I d'.py w u (Rep.dp d' w e3 (Rep.mono er.gh d' w rw')) ru
      have hkp : KP B h₁ d' u := ((KP.of nb d' u as e3 rd).grow g0).grow kp
      obtain ⟨c2, h2⟩ : ∃ c, (cloFrom X.env.cells scope.names []).lookup y = some c := by
        have hy : (y, NameKind.free) ∈ scope.names := PySem.mem_of_lookup hfree
        exact mem_lookup (cloFrom_has (cells := X.env.cells) (acc := []) hy)
      have c1 : X.env.cells.lookup y = some c2 := by
        rcases cloFrom_mem (PySem.mem_of_lookup h2) with hm | ⟨h1, h3⟩
        · cases hm
        · obtain ⟨c3, hc⟩ := L.has I.ok _ h1 rfl
          have hc : X.env.cells.lookup y = some c3 := hc
          have e5 : c2 = c3 := by
            rw [h3, hc] <;> rfl
          rw [e5]; exact hc
      refine ⟨u, hkp, .inr ⟨.inr hfree, c2, h2, ?_⟩⟩
      rcases q with ⟨k', _⟩ | ⟨_, c3, e', o, ho, hd⟩
      · have k' : X.env.scope.names.lookup y = some .local := k'
        rcases hpar with k2 | k2 <;> rw [show X.env.scope.names.lookup y = _ from k2] at k' <;> cases k'
      · rw [c1] at e'
        cases e'
        exact ⟨o, kp _ _ (g0 _ _ ho), hd⟩
  · exact h h' tk' k (fun b o e => g1 _ _ (kp _ _ e)) r
end
end Dl

set_option Elab.async false
set_option linter.all false
set_option maxRecDepth 100000
set_option maxHeartbeats 2000000
/-! min(xs, key=lambda y: ..), sorted(xs, key=lambda y: ..) as readings. -/
namespace Dl
open PySem PySem.Spec PyProof.Rows L2 LamX PySem.W MinDt SrtD
def keysF (j : Nat) (g : Ev) (δ : Env) : List D → R (List D)
  | [] => .ok []
  | x :: xs => match g (δ.set j (.val x)) with
    | .ok k => (match keysF j g δ xs with
      | .ok r => .ok (k :: r)
      | _ => .bad)
    | _ => .bad
theorem keysF_at {j : Nat} {g : Ev} {δ : Env} : ∀ {xs ks : List D}, keysF j g δ xs = .ok ks → ks.length = xs.length ∧ ∀ (i : Nat) (x : D), xs[i]? = some x → ∃ k, ks[i]? = some k ∧ g (δ.set j (.val x)) = .ok k
  | [], _, h => by cases h; exact ⟨rfl, fun i x e => by simp at e⟩
  | x :: xs, ks, h => by
    unfold keysF at h
    cases h1 : g (δ.set j (.val x)) with
    | bad => rw [h1] at h; cases h
    | exc _ => rw [h1] at h; cases h
    | ok k =>
      rw [h1] at h
      simp only at h
      cases h2 : keysF j g δ xs with
      | bad => rw [h2] at h; cases h
      | exc _ => rw [h2] at h; cases h
      | ok r =>
        rw [h2] at h
        cases h
        obtain ⟨q1, q2⟩ := keysF_at h2
        refine ⟨by rw [List.length_cons, List.length_cons, q1], fun i y e => ?_⟩
        cases i with
        | zero => simp at e; subst e; exact ⟨k, rfl, h1⟩
        | succ i => obtain ⟨k', q3, q4⟩ := q2 i y (by simpa using e); exact ⟨k', by simpa using q3, q4⟩
def eSortX (j : Nat) (f g : Ev) : Ev := fun δ => f δ >>= fun d => match d with
  | .lst xs => (match keysF j g δ xs with
    | .ok ks => if (D.dats xs && srtOk ks && D.pures ks) = true then .ok (.lst (((xs.zip ks).mergeSort fun a b => leqD a.2 b.2).map (·.1))) else .bad
    | _ => .bad)
  | _ => .bad
theorem dats_mem : ∀ {xs : List D}, D.dats xs = true → ∀ x ∈ xs, x.dat = true
  | [], _, x, h => by cases h
  | y :: xs, hd, x, h => by
    rw [D.dats, Bool.and_eq_true] at hd
    rcases List.mem_cons.mp h with rfl | h
    · exact hd.1
    · exact dats_mem hd.2 x h
theorem pures_mem : ∀ {xs : List D}, D.pures xs = true → ∀ x ∈ xs, x.pure = true
  | [], _, x, h => by cases h
  | y :: xs, hd, x, h => by
    rw [D.pures, Bool.and_eq_true] at hd
    rcases List.mem_cons.mp h with rfl | h
    · exact hd.1
    · exact pures_mem hd.2 x h
section
variable {X : Cx} {M : Mo} {W : WX} {pos p kpos lpos : Pos} {a body : Expr} {f g : Ev} {x : Str} {params : Arguments} {scope : Scope} {c P : Addr} {k : Nat}
end
end Dl

set_option Elab.async false
set_option linter.all false
set_option maxRecDepth 100000
set_option maxHeartbeats 2000000
/-! sorted(xs, key=lambda y: ..). -/
namespace Dl
open PySem PySem.Spec PyProof.Rows L2 LamX PySem.W MinDt SrtD
section
variable {X : Cx} {M : Mo} {W : WX} {pos p kpos lpos : Pos} {a body : Expr} {f g : Ev} {x : Str} {params : Arguments} {scope : Scope} {c P : Addr} {k : Nat}
theorem reps_zip3 {K : Kw} {G : Hp} : ∀ {ds ks : List D} {vs : List V}, Reps K G ds vs → ks.length = ds.length → ∃ L : List ((D × D) × V), L.map (·.1) = ds.zip ks ∧ L.map (·.2) = vs ∧ ∀ z ∈ L, Rep K G z.1.1 z.2
  | [], [], _, h, _ => by cases h; exact ⟨[], rfl, rfl, fun z hz => by cases hz⟩
  | d :: ds, k :: ks, _, ⟨v, r, e, h1, h2⟩, hl => by
    subst e
    obtain ⟨L, e1, e2, h3⟩ := reps_zip3 h2 (by simpa using hl)
    refine ⟨((d, k), v) :: L, by rw [List.map_cons, e1]; rfl, by rw [List.map_cons, e2], fun z hz => ?_⟩
    rcases List.mem_cons.mp hz with rfl | hz
    · exact h1
    · exact h3 z hz
  | [], _ :: _, _, _, hl => by simp at hl
  | _ :: _, [], _, _, hl => by simp at hl
theorem bSortX (j : Nat) (hr : Room k X.A) (hm : X.mg "sorted" = none) (TB : LamX.TabB X.base X.mg c P) (hP : M.tp.lam P (pk lpos) (X.env.qual ++ "<lambda>")) (hcode : X.env.code = .ref c) (L : LamK X.env.scope scope x) (hN : X.N.Nodup) (hj : X.N[j]? = some x) (ha : PE X a (tE (kwX X) M W f)) (hb : KX X.N scope body g)
    (hdef : defaultsOf params X.env = ([], []))
    (hbind : ∀ pm ct ctv v, bindArgs (kla_fn "<lambda>" (X.env.qual ++ "<lambda>") params body scope (cloFrom X.env.cells scope.names []) pm ct ctv) ⟨[v], []⟩ = pure [(x, v)])
    (hg : Gl X "sorted" := by rfl) (he0 : starEach [a] X.env = (false, eval a X.env) :: starEach [] X.env := by rfl) (he : backTo pos (starEach [a] X.env) = (false, eval a X.env) :: backTo pos (starEach [] X.env) := by rfl) (hpl : (backTo pos (starEach [a] X.env)).any (·.1) = false := by rfl) :
    PE X (.Call (.Name "sorted" p) [a] [⟨some "key", .Lambda params body scope lpos, kpos⟩] pos) (tE (kwX X) M W (eSortX j f g)) := by
  refine ⟨fun pins s σ H Q I ⟨Fo, G, δ, er, q⟩ => ?_⟩
  have hPt : M.tp P := .inr ⟨_, _, hP⟩
  have q0 : tCons (tE (kwX X) M W f) tNil σ H fun vs H1 => ∃ (xs ks : List D) (v : V) (G1 : Hp), vs = [v] ∧ ER (kwX X) M.tp Fo G1 H1 δ σ ∧ Rep (kwX X) G1 (.lst xs) v ∧ keysF j g δ xs = .ok ks ∧ (D.dats xs && srtOk ks && D.pures ks) = true ∧
      QX (kwX X) M.tp G1 H1 (some (.lst (((xs.zip ks).mergeSort fun a b => leqD a.2 b.2).map (·.1)))) Q := by
    refine ⟨Fo, G, δ, er, PX.mono (PX.bind q) fun G1 H1 d t1 q1 v rv => ?_⟩
    cases d with
    | lst xs =>
      cases hks : keysF j g δ xs with
      | bad => simp only [hks] at q1; exact False.elim q1
      | exc _ => simp only [hks] at q1; exact False.elim q1
      | ok ks =>
        simp only [hks] at q1
        by_cases hz : (D.dats xs && srtOk ks && D.pures ks) = true
        · rw [if_pos hz] at q1
          exact ⟨xs, ks, v, G1, rfl, er.tr t1, rv, hks, hz, q1⟩
        · rw [if_neg hz] at q1; exact False.elim q1
    | _ => exact False.elim q1
  refine wpAny_Call_Name_kw (ld_blt I hg hm bt_sorted ?_ (by decide) (by decide))
  refine PyProof.Rows.callWith_kw (thn ((pa_cons ha pa_nil he0).run pos pins s σ H _ I q0) fun us s1 ⟨vs, H1, I1, r1, q1⟩ => ?_) he hpl (by rfl) (by rfl)
  obtain ⟨xs, ks, v, G1, rfl, er1, rv, hks, hall, qf⟩ := q1
  obtain ⟨tb, gP⟩ := er1.tb P hPt
  obtain ⟨u, rfl, ru⟩ := vals1 r1
  show wpAny (model X.prog X.w) X.A (evalAll [(do let v ← eval (.Lambda params body scope lpos) X.env; standAt pos; pure v)]) _ _ s1
  refine wpAny_evalAll_cons (wpAny_bind (lam_makeC I1 TB hcode er1.gh gP tb hP hdef (L.has I1.ok) fun q c' pm ctv G2 H2 s2 I2 t2 hgo hgn hcd => wpAny_bind (wpAny_standAt (wpAny_pure (wpAny_evalAll_nil ?_)))))
  show wpAny (model X.prog X.w) X.A (call (.builtin "sorted") [u] [(Str.ofString "key", .ref q)]) _ _ s2
  have er2 := er1.tr t2
  have l2 := t2.2.1
  obtain ⟨la, ws, rfl, sq, rs⟩ := rv
  obtain rfl : u = Value.ref la := ru
  have rs2 := Reps.mono t2.1 _ _ rs
  obtain ⟨its, rvl, pl, hz⟩ := I2.list (er2.gh.sqL (t2.1.sqL sq))
  rw [Bool.and_eq_true, Bool.and_eq_true] at hall
  obtain ⟨⟨hdat, hmn⟩, hpur⟩ := hall
  obtain ⟨klen, kat⟩ := keysF_at hks
  unfold srtOk at hmn
  rw [Bool.and_eq_true, Bool.and_eq_true, Bool.or_eq_true] at hmn
  obtain ⟨⟨m1, m2⟩, m3⟩ := hmn
  rw [List.all_eq_true] at m1 m2 m3
  obtain ⟨L3, e1, e2, hL⟩ := reps_zip3 rs2 klen
  have hev : EachIs (fun w (z : (D × D) × V) => RelV z.2 w) its L3 := each_vals (fun z : (D × D) × V => z.2) (by rw [e2]; exact rvl)
  have hlen : L3.length = ws.length := by rw [← e2, List.length_map]
  have hzip : ∀ z ∈ L3, z.1 ∈ xs.zip ks := fun z hz => by rw [← e1]; exact List.mem_map_of_mem hz
  have hkz : ∀ z ∈ L3, z.1.2 ∈ ks := fun z hz => (List.of_mem_zip (hzip z hz)).2
  have hxz : ∀ z ∈ L3, z.1.1 ∈ xs := fun z hz => (List.of_mem_zip (hzip z hz)).1
  have hgz : ∀ z ∈ L3, g (δ.set j (.val z.1.1)) = .ok z.1.2 := fun z hz => by
    obtain ⟨i, hi, e⟩ := List.getElem_of_mem (hzip z hz)
    have h1 : xs[i]? = some z.1.1 ∧ ks[i]? = some z.1.2 := by
      have := List.getElem?_eq_some_iff.mpr ⟨hi, e⟩
      rw [List.getElem?_zip_eq_some] at this
      exact this
    obtain ⟨k', e3, e4⟩ := kat i _ h1.1
    rw [h1.2] at e3
    cases e3
    exact e4
  have hsk : Sortable (L3.map fun z : (D × D) × V => z.1.2.py) := by
    rcases m3 with m3 | m3
    · refine .inl fun d hd => ?_
      obtain ⟨z, hz, rfl⟩ := List.mem_map.mp hd
      have := m3 _ (hkz z hz)
      cases e : z.1.2 with
      | tup ys =>
        rw [e] at this
        cases ys with
        | nil => cases this
        | cons b ys => exact ⟨_, _, by rw [D.py, D.pys]⟩
      | _ => rw [e] at this; cases this
    · refine .inr fun d hd => ?_
      obtain ⟨z, hz, rfl⟩ := List.mem_map.mp hd
      have := List.all_eq_true.mp m3 _ (hkz z hz)
      cases e : z.1.2 with
      | int _ => exact ⟨fun z => by simp [D.py] at z, fun ys z => by simp [D.py] at z⟩
      | str _ => exact ⟨fun z => by simp [D.py] at z, fun ys z => by simp [D.py] at z⟩
      | lst _ => exact ⟨fun z => by simp [D.py] at z, fun ys z => by simp [D.py] at z⟩
      | _ => rw [e] at this; cases this
  refine sorted_key_data (β := (D × D) × V) (R := fun w z => RelV z.2 w) (fun z : (D × D) × V => z.1.2.py) pl.isList hev (fun d hd d' hd' => ?_) hsk (by rw [hlen]; exact hz) (fun z hz => ?_) (ksk_s1 _ _) (fun _ => ksk_l1 _ _) (fun _ => ksk_t1 _ _) (fun w z hw hz h tk kp => ?_) fun out cc h' tk kp fr hD hln he' => ?_
  · obtain ⟨z, hz, rfl⟩ := List.mem_map.mp hd
    obtain ⟨z', hz', rfl⟩ := List.mem_map.mp hd'
    exact List.all_eq_true.mp (m2 _ (hkz z hz)) _ (hkz z' hz')
  · have h1 := SeqAt.depth_of_shaped (m1 _ (hkz z hz))
    have := u130 hr
    omega
  · have hd0 := dats_mem hdat _ (hxz z hz)
    obtain ⟨as, rd⟩ := Dp.reads I2 z.1.1.py z.2 w (Rep.dp z.1.1 z.2 hd0 (Rep.mono er2.gh _ _ (hL z hz))) hw
    have hkp : KP (fun _ => False) s2.heap z.1.1 w := KP.of (fun _ z => z.elim) z.1.1 w as hd0 rd
    refine wpAny_mono (key_callC (A := X.A.in1.in1) (B := fun _ => False) (s := { s2 with heap := h, toks := tk }) (Q := KeyPure z.1.2.py { s2 with heap := h, toks := tk }) I2 er2 kp (by have := hr.dp; show X.A.depth < _; omega) L hN hj (kp _ _ hgo) (hcd.keeps kp) (hbind _ _ _ _) hb (fun _ z => z.elim) (fun _ z => z.elim) (hkp.grow kp) (hgz z hz) fun h' tk' kv gr rk => ?_) (fun _ _ z => z) fun _ _ z => z.elim
    exact ⟨h', tk', rfl, gr, KP.reads _ _ (pures_mem hpur _ (hkz z hz)) rk⟩
  · have hn : H2 (s2.heap.objs.size + 1) = none := I2.hok.fresh (Nat.le_succ _)
    have em : ((L3.mergeSort (dataLe false fun z : (D × D) × V => z.1.2.py)).map (·.1.1)) = ((xs.zip ks).mergeSort fun a b => leqD a.2 b.2).map (·.1) := by
      rw [← e1, ← merge_map (fun z : (D × D) × V => z.1) (fun a b => leqD a.2 b.2) L3, List.map_map]
      rfl
    refine ⟨.ref (s2.heap.objs.size + 1), upd H2 (s2.heap.objs.size + 1) (.lst ((L3.mergeSort (dataLe false fun z : (D × D) × V => z.1.2.py)).map (·.2))), I2.laid (t' := tk) kp (Nat.le_succ _) ⟨by rw [List.length_map, List.length_mergeSort, hlen]; exact hz, out, cc, vals_each (fun z : (D × D) × V => z.2) he', hD⟩, rfl, ?_⟩
    refine qf _ _ (t2.trans (Tr.new l2 hn)) _ ⟨_, _, rfl, SqL.of upd_same, ?_⟩
    rw [← em]
    have hr3 : Reps (kwX X) G2 ((L3.mergeSort (dataLe false fun z : (D × D) × V => z.1.2.py)).map (·.1.1)) ((L3.mergeSort (dataLe false fun z : (D × D) × V => z.1.2.py)).map (·.2)) := by
      have : ∀ l : List ((D × D) × V), (∀ z ∈ l, Rep (kwX X) G2 z.1.1 z.2) → Reps (kwX X) G2 (l.map (·.1.1)) (l.map (·.2)) := by
        intro l
        induction l with
        | nil => intro _; exact rfl
        | cons z l ih => intro h; exact ⟨_, _, rfl, h z List.mem_cons_self, ih fun y hy => h y (List.mem_cons_of_mem _ hy)⟩
      exact this _ fun z hz => hL z ((List.mergeSort_perm L3 _).mem_iff.mp hz)
    exact Reps.mono (Le.new (none_of_le l2 hn)) _ _ hr3
end
end Dl

set_option Elab.async false
set_option linter.all false
set_option maxRecDepth 100000
set_option maxHeartbeats 2000000
/-! d.get(k), d.get(k, x) of dicts whose keys are tuples. -/
namespace Dl
open PySem PySem.Spec PyProof.Rows L2
section
variable {X : Cx} {M : Mo} {W : WX} {apos cpos : Pos} {o e e2 : Expr} {f g h : Ev} {k : Nat}
end
end Dl

set_option Elab.async false
set_option linter.all false
set_option maxRecDepth 100000
set_option maxHeartbeats 2000000
/-! x = [..for..], two own things lent. -/
namespace Dl
open PySem PySem.Spec PyProof.Rows L2
section
variable {X : Cx} {M : Mo} {W : WX} {pos : Pos}
end
end Dl

set_option Elab.async false
set_option linter.all false
set_option maxRecDepth 100000
set_option maxHeartbeats 2000000
/-! len(d) of a dict. -/
namespace Dl
open PySem PySem.Spec PyProof.Rows L2
def lenKD : List D → Option D := a1 fun d => match d with
  | .dt ks _ => some (.int (ks.length : Nat))
  | .dk ks _ => some (.int (ks.length : Nat))
  | _ => none
section
variable {X : Cx} {M : Mo} {W : WX} {pos : Pos} {a : Expr} {f : Ev}
end
@[simp] theorem lenK_dt (ks xs : List D) : lenKD [.dt ks xs] = some (.int (ks.length : Nat)) := rfl
@[simp] theorem lenK_dk (ks : List Key) (xs : List D) : lenKD [.dk ks xs] = some (.int (ks.length : Nat)) := rfl
end Dl

set_option Elab.async false
set_option linter.all false
set_option maxRecDepth 100000
set_option maxHeartbeats 1000000
/-! Plain facts of the data functions. -/
namespace Dl
open PySem PySem.Spec PyProof.Rows L2

/-! ### equality of data with no truth values -/
mutual
def D.nb : D → Bool
  | .bl _ => false
  | .obj .. => false
  | .dk .. => false
  | .dt .. => false
  | .tup xs => D.nbs xs
  | .lst xs => D.nbs xs
  | _ => true
def D.nbs : List D → Bool
  | [] => true
  | x :: xs => D.nb x && D.nbs xs
end
mutual
theorem eqv_nb : ∀ d e : D, d.nb = true → e.nb = true → (PyData.eqv d.py e.py = true ↔ d = e)
  | .non, e, _, h => by cases e <;> simp_all [D.py, PyData.eqv, D.nb]
  | .int i, e, _, h => by cases e <;> simp_all [D.py, PyData.eqv, D.nb]
  | .str x, e, _, h => by cases e <;> simp_all [D.py, PyData.eqv, D.nb]
  | .bl b, e, h, _ => by simp [D.nb] at h
  | .obj _ _ _, e, h, _ => by simp [D.nb] at h
  | .dk _ _, e, h, _ => by simp [D.nb] at h
  | .dt _ _, e, h, _ => by simp [D.nb] at h
  | .tup xs, e, h1, h2 => by
    cases e with
    | tup ys => simpa [D.py, PyData.eqv] using eqvs_nb xs ys (by simpa [D.nb] using h1) (by simpa [D.nb] using h2)
    | _ => simp_all [D.py, PyData.eqv, D.nb]
  | .lst xs, e, h1, h2 => by
    cases e with
    | lst ys => simpa [D.py, PyData.eqv] using eqvs_nb xs ys (by simpa [D.nb] using h1) (by simpa [D.nb] using h2)
    | _ => simp_all [D.py, PyData.eqv, D.nb]
theorem eqvs_nb : ∀ xs ys : List D, D.nbs xs = true → D.nbs ys = true → (PyData.eqvAll (D.pys xs) (D.pys ys) = true ↔ xs = ys)
  | [], ys, _, _ => by cases ys <;> simp [D.pys, PyData.eqvAll]
  | x :: xs, [], _, _ => by simp [D.pys, PyData.eqvAll]
  | x :: xs, y :: ys, h1, h2 => by
    simp only [D.nbs, Bool.and_eq_true] at h1 h2
    simp only [D.pys, PyData.eqvAll, Bool.and_eq_true, List.cons.injEq, eqv_nb x y h1.1 h2.1, eqvs_nb xs ys h1.2 h2.2]
end
theorem eqv_dec {d e : D} (h1 : d.nb = true) (h2 : e.nb = true) : eqv d e = decide (d = e) := by
  unfold eqv
  rw [Bool.eq_iff_iff, decide_eq_true_eq]
  exact eqv_nb d e h1 h2
theorem eqD_nb {d e : D} (h1 : d.nb = true) (h2 : e.nb = true) (s1 : sh d = true) (s2 : sh e = true) : eqD d e = some (.bl (decide (d = e))) := by
  unfold eqD
  rw [s1, s2, eqv_dec h1 h2]; rfl
theorem neD_nb {d e : D} (h1 : d.nb = true) (h2 : e.nb = true) (s1 : sh d = true) (s2 : sh e = true) : neD d e = some (.bl (!decide (d = e))) := by
  unfold neD
  rw [s1, s2, eqv_dec h1 h2]; rfl
/-! ### shapes -/
mutual
def D.dep : D → Nat
  | .tup xs => D.deps xs + 1
  | .lst xs => D.deps xs + 1
  | .obj .. => 1
  | .dk .. => 1
  | .dt .. => 1
  | _ => 0
def D.deps : List D → Nat
  | [] => 0
  | x :: xs => max (D.dep x) (D.deps xs)
end
mutual
def D.txt : D → Bool
  | .str x => x.cps.all (· < 0x110000)
  | .tup xs => D.txts xs
  | .lst xs => D.txts xs
  | .obj .. => false
  | .dk .. => false
  | .dt .. => false
  | _ => true
def D.txts : List D → Bool
  | [] => true
  | x :: xs => D.txt x && D.txts xs
end
mutual
theorem can_txt : ∀ d : D, PyData.canLay0 d.py = d.txt
  | .non => rfl
  | .bl _ => rfl
  | .int _ => rfl
  | .str x => rfl
  | .tup xs => by rw [D.py, PyData.canLay0, can_txts xs, D.txt]
  | .lst xs => by rw [D.py, PyData.canLay0, can_txts xs, D.txt]
  | .obj .. => rfl
  | .dk .. => rfl
  | .dt .. => rfl
theorem can_txts : ∀ xs : List D, PyData.canLayAll0 (D.pys xs) = D.txts xs
  | [] => rfl
  | x :: xs => by rw [D.pys, PyData.canLayAll0, can_txt x, can_txts xs, D.txts]
theorem dep_py : ∀ d : D, PyData.depth d.py = d.dep
  | .non => rfl
  | .bl _ => rfl
  | .int _ => rfl
  | .str x => rfl
  | .tup xs => by rw [D.py, PyData.depth, dep_pys xs, D.dep]
  | .lst xs => by rw [D.py, PyData.depth, dep_pys xs, D.dep]
  | .obj .. => rfl
  | .dk .. => rfl
  | .dt .. => rfl
theorem dep_pys : ∀ xs : List D, PyData.depthAll (D.pys xs) = D.deps xs
  | [] => rfl
  | x :: xs => by rw [D.pys, PyData.depthAll, dep_py x, dep_pys xs, D.deps]
end
theorem sh_eq (d : D) : sh d = (d.txt && decide (d.dep ≤ 64)) := by
  unfold sh SeqAt.shaped
  rw [can_txt, dep_py]
theorem sh_of {d : D} (h1 : d.txt = true) (h2 : d.dep ≤ 64) : sh d = true := by rw [sh_eq, h1, decide_eq_true h2]; rfl

/-! ### texts by their signs -/
def Tx (l : List Nat) : Str := ⟨l.toArray⟩
theorem S_list (l : List Nat) : (Tx l).cps.toList = l := rfl
theorem S_eta (x : Str) : Tx x.cps.toList = x := by cases x; rfl
theorem S_len (l : List Nat) : (Tx l).length = l.length := by simp [Tx, Str.length]
theorem len_S {a : List Nat} (h : a.length ≤ sizeLine) : lenD [.str (Tx a)] = some (.int a.length) := by
  show (if (Tx a).length ≤ sizeLine then some (D.int ((Tx a).length : Int)) else none) = _
  rw [S_len, if_pos h]
theorem atI_nat {α : Type} (xs : List α) (i : Nat) : atI xs (i : Int) = xs[i]? := by
  unfold atI ixN
  by_cases h : i < xs.length
  · rw [if_pos (by omega), if_pos (by omega)]
    simp
  · rw [if_pos (by omega), if_neg (by omega)]
    simp; omega
theorem ix_S {l : List Nat} (h : l.length ≤ sizeLine) (i : Nat) : ixD (.str (Tx l)) (.int (i : Int)) = l[i]?.map fun c => .str (Tx [c]) := by
  show (if (Tx l).length ≤ sizeLine then (atI (Tx l).cps.toList (i : Int)).map (fun c => D.str ⟨#[c]⟩) else none) = _
  rw [S_len, if_pos h, S_list, atI_nat]
  rfl
theorem ix_tup (xs : List D) (i : Nat) : ixD (.tup xs) (.int (i : Int)) = xs[i]? := atI_nat xs i
theorem ix_lst (xs : List D) (i : Nat) : ixD (.lst xs) (.int (i : Int)) = xs[i]? := atI_nat xs i
theorem in_S1 (c : Nat) (l : List Nat) : inD (.str (Tx [c])) (.str (Tx l)) = some (.bl (decide (c ∈ l))) := rfl
theorem nin_S1 (c : Nat) (l : List Nat) : ninD (.str (Tx [c])) (.str (Tx l)) = some (.bl (!decide (c ∈ l))) := rfl
theorem cut_tup (xs : List D) (a : Nat) : slD (.tup xs) (some (a : Int)) none = some (.tup (xs.drop a)) := by
  show some (D.tup (cutD xs (some (a : Int)) none)) = _
  unfold cutD
  rw [HT.sIx_nat, HT.sIx_none]
  congr 2
  by_cases ha : a ≤ xs.length
  · rw [Nat.min_eq_left ha, List.take_of_length_le (by simp)]
  · rw [Nat.min_eq_right (by omega)]
    simp [List.drop_eq_nil_of_le (show xs.length ≤ a by omega)]

/-! ### evaluation -/
section
variable (f g : Ev) (c t u : Tv) (a b : Sv) (fs : Env → R (List D)) (δ : Env)
@[simp] theorem ev_bind_ok {α β : Type} (a : α) (f : α → R β) : (R.ok a >>= f) = f a := rfl
@[simp] theorem ev_bind_exc {α β : Type} (c : String) (f : α → R β) : ((R.exc c : R α) >>= f) = R.exc c := rfl
@[simp] theorem ev_bindF_ok {α : Type} (a : α) (k : α → Fl) : bindF (.ok a) δ k = k a := rfl
@[simp] theorem ev_bindF_exc {α : Type} (c : String) (k : α → Fl) : bindF (.exc c) δ k = .exc c δ := rfl
@[simp] theorem ev_sNext : sNext δ = .next δ := rfl
@[simp] theorem ev_sSeq : sSeq a b δ = (match a δ with | .next δ' => b δ' | .brk δ' => .brk δ' | .cont δ' => .cont δ' | .ret d => .ret d | .exc c δ' => .exc c δ' | .bad => .bad) := rfl
@[simp] theorem ev_sIf : sIf c a b δ = bindF (c δ) δ fun x => if x = true then a δ else b δ := by
  unfold sIf; congr 1 <;> (funext x; cases x <;> rfl)
@[simp] theorem ev_sRet : sRet f δ = bindF (f δ) δ fun d => .ret d := rfl
@[simp] theorem ev_sSet (i : Nat) : sSet i f δ = bindF (f δ) δ fun d => .next (δ.set i (.val d)) := rfl
@[simp] theorem ev_sOwn (i : Nat) : sOwn i fs δ = bindF (fs δ) δ fun ds => .next (δ.set i (.own ds)) := rfl
@[simp] theorem ev_sDrop : sDrop f δ = bindF (f δ) δ fun _ => .next δ := rfl
@[simp] theorem ev_sRaise (x : String) : sRaise x δ = .exc x δ := rfl
@[simp] theorem ev_sFrz (i : Nat) : sFrz i a δ = a (frz i δ) := rfl
@[simp] theorem ev_sUnp (t : Tg) : sUnp t f δ = bindF (f δ) δ fun d => match t.put d δ with | some δ' => .next δ' | none => .bad := rfl
@[simp] theorem ev_sFor (t : Tg) : sFor t fs a δ = bindF (fs δ) δ fun ds => forF t a ds δ := rfl
@[simp] theorem ev_eC (d : D) : eC d δ = .ok d := rfl
@[simp] theorem ev_e1 (h : D → Option D) : e1 h f δ = (f δ >>= fun x => ofO (h x)) := rfl
@[simp] theorem ev_e2 (h : D → D → Option D) : e2 h f g δ = (f δ >>= fun x => g δ >>= fun y => ofO (h x y)) := rfl
@[simp] theorem ev_eB (m : List D → Option D) : eB m fs δ = (fs δ >>= fun xs => ofO (m xs)) := rfl
@[simp] theorem ev_eCall (m : List D → R D) : eCall m fs δ = (fs δ >>= fun xs => m xs) := rfl
@[simp] theorem ev_eIsi (T : String) : eIsi T f δ = (f δ >>= fun d => ofO ((tyN d).bind fun t => (kitB t T).map .bl)) := rfl
@[simp] theorem ev_aNil : aNil δ = .ok [] := rfl
@[simp] theorem ev_aCons : aCons f fs δ = (f δ >>= fun x => fs δ >>= fun xs => .ok (x :: xs)) := rfl
@[simp] theorem ev_eIf : eIf c f g δ = (c δ >>= fun x => if x = true then f δ else g δ) := by
  unfold eIf; congr 1 <;> (funext x; cases x <;> rfl)
def blR : D → R Bool
  | .bl b => .ok b
  | _ => .bad
@[simp] theorem blR_bl (b : Bool) : blR (.bl b) = .ok b := rfl
@[simp] theorem ev_tB1 : tB1 f δ = (f δ >>= blR) := by
  unfold tB1; congr 1 <;> (funext x; cases x <;> rfl)
@[simp] theorem ev_tAnd : tAnd' t u δ = (t δ >>= fun x => if x = true then u δ else .ok false) := by
  unfold tAnd'; congr 1 <;> (funext x; cases x <;> rfl)
@[simp] theorem ev_tOr : tOr' t u δ = (t δ >>= fun x => if x = true then .ok true else u δ) := by
  unfold tOr'; congr 1 <;> (funext x; cases x <;> rfl)
def andK (x : D) (k : R D) : R D := match x with
  | .bl true => k
  | .bl false => .ok (.bl false)
  | _ => .bad
def orK (x : D) (k : R D) : R D := match x with
  | .bl true => .ok (.bl true)
  | .bl false => k
  | _ => .bad
def notK : D → R D
  | .bl b => .ok (.bl !b)
  | _ => .bad
@[simp] theorem andK_bl (b : Bool) (k : R D) : andK (.bl b) k = if b = true then k else .ok (.bl false) := by cases b <;> rfl
@[simp] theorem orK_bl (b : Bool) (k : R D) : orK (.bl b) k = if b = true then .ok (.bl true) else k := by cases b <;> rfl
@[simp] theorem notK_bl (b : Bool) : notK (.bl b) = .ok (.bl !b) := rfl
@[simp] theorem ev_eAnd : eAnd f g δ = (f δ >>= fun x => andK x (g δ)) := by
  unfold eAnd; congr 1 <;> (funext x; cases x <;> rfl)
@[simp] theorem ev_eOr : eOr f g δ = (f δ >>= fun x => orK x (g δ)) := by
  unfold eOr; congr 1 <;> (funext x; cases x <;> rfl)
@[simp] theorem ev_eNot : eNot f δ = (f δ >>= notK) := by
  unfold eNot; congr 1 <;> (funext x; cases x <;> rfl)
@[simp] theorem ev_tNot : tNot' t δ = (t δ >>= fun x => .ok !x) := rfl
@[simp] theorem ev_tYes : tYesD δ = .ok true := rfl
@[simp] theorem ev_oNone : oNone δ = .ok none := rfl
@[simp] theorem ev_oSome : oSome f δ = (f δ >>= fun x => match x with | .int i => .ok (some i) | _ => .bad) := rfl
@[simp] theorem ev_eSl (l h : Env → R (Option Int)) : eSl f l h δ = (f δ >>= fun x => l δ >>= fun a => h δ >>= fun b => ofO (slD x a b)) := rfl
@[simp] theorem ev_iSeq : iSeq f δ = (f δ >>= fun d => ofO (itD d)) := rfl
@[simp] theorem ev_iRng : iRng fs δ = (fs δ >>= fun ds => ofO (rngD ds)) := rfl
@[simp] theorem ev_eN : eN fs δ = (fs δ >>= fun xs => .ok (.lst xs)) := rfl
@[simp] theorem ev_ofO_some {α : Type} (x : α) : ofO (some x) = .ok x := rfl
@[simp] theorem ev_ofO_none {α : Type} : (ofO none : R α) = .bad := rfl
@[simp] theorem ev_eV0 (x : S) (δ : Env) : eV 0 (x :: δ) = (match x with | .val d => .ok d | _ => .bad) := by cases x <;> rfl
@[simp] theorem ev_eVs (i : Nat) (x : S) (δ : Env) : eV (i + 1) (x :: δ) = eV i δ := by unfold eV; simp
@[simp] theorem lt_int (i j : Int) : ltD (.int i) (.int j) = some (.bl (decide (i < j))) := rfl
@[simp] theorem le_int (i j : Int) : leD (.int i) (.int j) = some (.bl (decide (i ≤ j))) := rfl
@[simp] theorem gt_int (i j : Int) : gtD (.int i) (.int j) = some (.bl (decide (j < i))) := rfl
@[simp] theorem ge_int (i j : Int) : geD (.int i) (.int j) = some (.bl (decide (j ≤ i))) := rfl
@[simp] theorem add_int (i j : Int) : addD (.int i) (.int j) = some (.int (i + j)) := rfl
@[simp] theorem sub_int (i j : Int) : subD (.int i) (.int j) = some (.int (i - j)) := rfl
@[simp] theorem iadd_int (i j : Int) : iaddD (.int i) (.int j) = some (.int (i + j)) := rfl
@[simp] theorem len_tup (xs : List D) : lenD [.tup xs] = some (.int xs.length) := rfl
@[simp] theorem len_lst (xs : List D) : lenD [.lst xs] = some (.int xs.length) := rfl
@[simp] theorem eq_int (i j : Int) : eqD (.int i) (.int j) = some (.bl (decide (i = j))) := by
  rw [eqD_nb rfl rfl (sh_of rfl (Nat.zero_le _)) (sh_of rfl (Nat.zero_le _))]; simp
@[simp] theorem ne_int (i j : Int) : neD (.int i) (.int j) = some (.bl (!decide (i = j))) := by
  rw [neD_nb rfl rfl (sh_of rfl (Nat.zero_le _)) (sh_of rfl (Nat.zero_le _))]; simp
@[simp] theorem itD_tup (xs : List D) : itD (.tup xs) = some xs := rfl
@[simp] theorem itD_lst (xs : List D) : itD (.lst xs) = some xs := rfl
theorem itD_str (l : List Nat) : itD (.str (Tx l)) = some (l.map fun c => .str (Tx [c])) := rfl
@[simp] theorem put_one (i : Nat) (d : D) : (Tg.one i).put d δ = some (δ.set i (.val d)) := rfl
theorem sz_eq : (sizeLine : Nat) = 16777216 := rfl
end
theorem kit_str_str : kitB "str" "str" = some true := by decide +kernel
theorem kit_tuple_tuple : kitB "tuple" "tuple" = some true := by decide +kernel
theorem kit_str_tuple : kitB "str" "tuple" = some false := by decide +kernel
theorem kit_tuple_str : kitB "tuple" "str" = some false := by decide +kernel
theorem kit_none_str : kitB "NoneType" "str" = some false := by decide +kernel
theorem kit_int_str : kitB "int" "str" = some false := by decide +kernel

/-! ### loops -/
end Dl

set_option Elab.async false
set_option linter.all false
set_option maxRecDepth 100000
set_option maxHeartbeats 1000000
/-! The laws' cells and draws. -/
namespace Dl
open PySem PySem.Spec PyProof.Rows L2
theorem mod_nat (a b : Nat) (h : 0 < b) : modD (.int (a : Int)) (.int (b : Int)) = some (.int ((a % b : Nat) : Int)) := by
  show (if decide ((0 : Int) < (b : Int)) = true then some (D.int ((a : Int) % (b : Int))) else none) = _
  rw [if_pos (by rw [decide_eq_true_eq]; omega), Int.natCast_emod]
theorem mod_pos (i b : Int) (h : 0 < b) : modD (.int i) (.int b) = some (.int (((i % b).toNat : Nat) : Int)) := by
  have : 0 ≤ i % b := Int.emod_nonneg _ (by omega)
  unfold modD iOp
  simp [h, Int.toNat_of_nonneg this]
theorem fdiv_nat (a b : Nat) (h : 0 < b) (h' : b < 2 ^ 30) : fdivD (.int (a : Int)) (.int (b : Int)) = some (.int ((a / b : Nat) : Int)) := by
  have h1 : (0 : Int) < (b : Int) := by omega
  have h2 : lg (b : Int) 30 = true := lg_of (by simpa using h') (by decide)
  unfold fdivD iOp
  simp only [h1, h2, decide_true, Bool.and_self, if_true, Int.natCast_ediv]
theorem mul_r (i j : Int) (h : j.natAbs < 2 ^ 64) : mulD (.int i) (.int j) = some (.int (i * j)) := by
  have h2 : lg j 64 = true := lg_of h (by decide)
  unfold mulD iOp
  simp only [h2, Bool.or_true, if_true]
theorem rng1 (n : Nat) (h : n < 2 ^ 62) : rngD [.int (n : Int)] = some ((List.range n).map fun (k : Nat) => .int (k : Int)) := by
  have h2 : lg (n : Int) 62 = true := lg_of (by simpa using h) (by decide)
  unfold rngD
  simp only [h2, if_true, Int.toNat_natCast]
def ntl (L : List Nat) : List D := L.map fun (x : Nat) => D.int (x : Int)
theorem ntl_len (L : List Nat) : (ntl L).length = L.length := by simp [ntl]
theorem ntl_snoc (L : List Nat) (x : Nat) : ntl (L ++ [x]) = ntl L ++ [.int (x : Int)] := by simp [ntl]
/-- the item at i, the place taken modulo the length -/
def gt (L : List Nat) (i : Nat) : Nat := L.getD (i % L.length) 0
theorem ntl_at {L : List Nat} (h : 0 < L.length) (i : Nat) : ixD (.lst (ntl L)) (.int ((i % L.length : Nat) : Int)) = some (.int ((gt L i : Nat) : Int)) := by
  rw [ix_lst]
  have hl : i % L.length < L.length := Nat.mod_lt _ h
  unfold ntl gt
  rw [List.getElem?_map, List.getElem?_eq_getElem hl, List.getD_eq_getElem?_getD, List.getElem?_eq_getElem hl]
  rfl
theorem ntl_ix {L : List Nat} (i : Nat) (h : i < L.length) : ixD (.lst (ntl L)) (.int (i : Int)) = some (.int ((L.getD i 0 : Nat) : Int)) := by
  rw [ix_lst]
  unfold ntl
  rw [List.getElem?_map, List.getElem?_eq_getElem h, List.getD_eq_getElem?_getD, List.getElem?_eq_getElem h]
  rfl
/-! ### _law_cell -/
abbrev bCell : Sv :=
    (sSeq (sIf (tB1 (e2 ltD (eV 1) (eB lenD (aCons (eV 0) aNil))))
    (sRet (e2 ixD (eV 0) (eV 1)))
    sNext)
    (sRet (eC (.int 0))))
theorem cell_ok (ns : List Int) (k : Nat) : ∃ c : Int, runF 2 bCell [.lst (ns.map D.int), .int (k : Int)] = .ok (.int c) := by
  have hi : ∀ a b, initE 2 [a, b] = [.val a, .val b] := fun _ _ => rfl
  unfold runF
  rw [hi]
  by_cases h : k < ns.length
  · refine ⟨ns[k], ?_⟩
    have e : ixD (.lst (ns.map D.int)) (.int (k : Int)) = some (.int ns[k]) := by
      rw [ix_lst, List.getElem?_map, List.getElem?_eq_getElem h]; rfl
    have h' : (k : Int) < (ns.length : Int) := by omega
    simp [h', e]
  · have h' : ¬ ((k : Int) < (ns.length : Int)) := by omega
    exact ⟨0, by simp [h']⟩
/-! ### _law_draws -/
theorem pow18 : powD (.int 10) (.int 18) = some (.int 1000000000000000000) := by decide +kernel
theorem fdiv_pos (i b : Int) (h : 0 < b) (h' : lg b 30 = true) : fdivD (.int i) (.int b) = some (.int (i / b)) := by
  unfold fdivD iOp
  simp only [h, h', decide_true, Bool.and_self, if_true]
end Dl

set_option Elab.async false
set_option linter.all false
set_option maxRecDepth 100000
set_option maxHeartbeats 1000000
/-! More plain facts: words, loops, equality of good data. -/
namespace Dl
open PySem PySem.Spec PyProof.Rows L2

/-! ### words -/
section
variable (f g h : Ev) (c t u : Tv) (a b : Sv) (fs : Env → R (List D)) (δ : Env)
@[simp] theorem sz_1 : (sizeLine : Nat) = 16777216 := rfl
@[simp] theorem fz_nil (i : Nat) : Dl.frz i [] = [] := by unfold Dl.frz; simp
@[simp] theorem fz_val (d : D) : Dl.frz 0 (.val d :: δ) = .val d :: δ := rfl
@[simp] theorem fz_no : Dl.frz 0 (.no :: δ) = .no :: δ := rfl
@[simp] theorem fz_own (o : O) : Dl.frz 0 (.own o :: δ) = .val o.d :: δ := rfl
@[simp] theorem fz_succ (i : Nat) (x : S) : Dl.frz (i + 1) (x :: δ) = x :: Dl.frz i δ := by
  unfold Dl.frz
  rw [List.getElem?_cons_succ]
  cases δ[i]? with
  | none => rfl
  | some y => cases y <;> rfl
@[simp] theorem od_lst (ds : List D) : O.d (.lst ds) = .lst ds := rfl
@[simp] theorem od_lol (ds : List (List D)) : O.d (.lol ds) = .lst (ds.map .lst) := rfl
@[simp] theorem od_ins (cc : String) (x : Addr) (fl : List String) (xs : List D) : O.d (.ins cc x fl xs) = .obj cc fl xs := rfl
@[simp] theorem od_dk (ks : List Key) (xs : List D) : O.d (.dk ks xs) = .dk ks xs := rfl
@[simp] theorem od_dt (ks xs : List D) : O.d (.dt ks xs) = .dt ks xs := rfl
@[simp] theorem odict_lst (ds : List D) : O.dict (.lst ds) = false := rfl
@[simp] theorem odict_dk (ks : List Key) (xs : List D) : O.dict (.dk ks xs) = true := rfl
@[simp] theorem odict_dt (ks xs : List D) : O.dict (.dt ks xs) = true := rfl
@[simp] theorem wp_nil : wipeE δ [] = δ := rfl
@[simp] theorem wp_cons (v : Nat) (vs : List Nat) : wipeE δ (v :: vs) = (wipeE δ vs).set v .no := rfl
@[simp] theorem sa_nil (ds : List D) : setAll [] ds δ = δ := by unfold setAll; rfl
@[simp] theorem sa_cons (i : Nat) (is : List Nat) (d : D) (ds : List D) : setAll (i :: is) (d :: ds) δ = setAll is ds (δ.set i (.val d)) := rfl
@[simp] theorem put_all (is : List Nat) (ds : List D) : (Tg.all is).put (.tup ds) δ = if ds.length = is.length then some (setAll is ds δ) else none := rfl
@[simp] theorem ev_eTup' : eTup fs δ = (fs δ >>= fun xs => ofO (if xs.length ≤ 16777216 then some (.tup xs) else none)) := rfl
@[simp] theorem ev_eLst' : eLst fs δ = (fs δ >>= fun xs => ofO (if xs.length ≤ 16777216 then some (.lst xs) else none)) := rfl
@[simp] theorem ev_nLst : nLst fs δ = (fs δ >>= fun xs => ofO (if xs.length ≤ 16777216 then some xs else none)) := rfl
@[simp] theorem ev_nLc (vs : List Nat) (tg : Tg) : nLc vs tg fs c f δ = (fs δ >>= fun ds => mapF tg c f (wipeE δ vs) ds >>= fun ys => ofO (if ys.length ≤ 16777216 then some ys else none)) := rfl
@[simp] theorem ev_eGen' (stop : Bool) (vs : List Nat) (tg : Tg) : eGen stop vs tg fs c f δ = (fs δ >>= fun ds => genF stop tg c f (wipeE δ vs) ds) := rfl
@[simp] theorem ev_tBor (i : Nat) : tBor i t δ = t (Dl.frz i δ) := rfl
@[simp] theorem ev_eBor (i : Nat) : eBor i f δ = (f (Dl.frz i δ) >>= fun d => if d.pure = true then .ok d else .bad) := rfl
theorem ev_sApp {i : Nat} {ds : List D} (h0 : δ[i]? = some (.own (.lst ds))) (hz : ds.length < 16777216) : sApp i f δ = bindF (f δ) δ fun d => .next (δ.set i (.own (ds ++ [d]))) := by
  unfold sApp
  simp only [h0]
  have hz : ds.length < sizeLine := hz
  simp only [if_pos hz]
@[simp] theorem ev_sPar (is : List Nat) : sPar is fs δ = bindF (fs δ) δ fun ds => if ds.length = is.length then .next (setAll is ds δ) else .bad := rfl
@[simp] theorem ev_eM (ok : D → Bool) (m : D → List D → Option D) : eM ok m f fs δ = (f δ >>= fun x => if ok x = true then fs δ >>= fun ys => ofO (m x ys) else .bad) := rfl
@[simp] theorem ev_eM0 (ok : D → Bool) (m : D → Option D) : eM0 ok m f δ = (f δ >>= fun x => if ok x = true then ofO (m x) else .bad) := rfl
@[simp] theorem ev_eCallM (cc : String) (m : Str) (hm : List D → R D) : eCallM cc m hm f fs δ = (f δ >>= fun x => if isO cc m x = true then fs δ >>= fun xs => hm (x :: xs) else .bad) := rfl
@[simp] theorem ev_aSnoc : aSnoc fs f δ = (fs δ >>= fun xs => f δ >>= fun x => .ok (xs ++ [x])) := rfl
@[simp] theorem ok_tup (xs : List D) : isSq (.tup xs) = true := rfl
@[simp] theorem ok_lst (xs : List D) : isSq (.lst xs) = true := rfl
@[simp] theorem ok_str (x : Str) : isS (.str x) = true := rfl
@[simp] theorem ev_tIf : tIf' c t u δ = (c δ >>= fun x => if x = true then t δ else u δ) := by
  unfold tIf'; congr 1 <;> (funext x; cases x <;> rfl)
@[simp] theorem notB_eq (d : D) (b : Bool) : notBD d (.bl b) = some (.bl (!decide (d = .bl b))) := rfl
@[simp] theorem isB_eq (d : D) (b : Bool) : isBD d (.bl b) = some (.bl (decide (d = .bl b))) := rfl
@[simp] theorem isN_eq (d : D) : isND d .non = some (.bl (decide (d = .non))) := rfl
@[simp] theorem notN_eq (d : D) : notND d .non = some (.bl (!decide (d = .non))) := rfl
@[simp] theorem neg_int (i : Int) : negD (.int i) = some (.int (-i)) := rfl
@[simp] theorem tupD_lst (xs : List D) : tupleD [.lst xs] = some (.tup xs) := rfl
@[simp] theorem tupD_tup (xs : List D) : tupleD [.tup xs] = some (.tup xs) := rfl
@[simp] theorem listD_lst (xs : List D) : listD [.lst xs] = some (.lst xs) := rfl
@[simp] theorem listD_tup (xs : List D) : listD [.tup xs] = some (.lst xs) := rfl
@[simp] theorem pure_int (i : Int) : (D.int i).pure = true := rfl
@[simp] theorem pure_bl (i : Bool) : (D.bl i).pure = true := rfl
@[simp] theorem pure_str (i : Str) : (D.str i).pure = true := rfl
@[simp] theorem pure_non : D.non.pure = true := rfl
@[simp] theorem pureL_int (i : Int) : (D.int i).pureL = true := rfl
@[simp] theorem ev_eIsi' (T : String) : eIsi T f δ = (f δ >>= fun d => ofO ((tyN d).bind fun t => (kitB t T).map .bl)) := rfl
@[simp] theorem addD_lst (xs ys : List D) : addD (.lst xs) (.lst ys) = if xs.length + ys.length ≤ 16777216 then some (.lst (xs ++ ys)) else none := rfl
@[simp] theorem addD_tup (xs ys : List D) : addD (.tup xs) (.tup ys) = if xs.length + ys.length ≤ 16777216 then some (.tup (xs ++ ys)) else none := rfl
end
theorem kit_int_tuple : kitB "int" "tuple" = some false := by decide +kernel
theorem kit_bool_tuple : kitB "bool" "tuple" = some false := by decide +kernel
theorem kit_none_tuple : kitB "NoneType" "tuple" = some false := by decide +kernel
theorem kit_list_tuple : kitB "list" "tuple" = some false := by decide +kernel
theorem kit_bool_str : kitB "bool" "str" = some false := by decide +kernel
theorem kit_list_str : kitB "list" "str" = some false := by decide +kernel
theorem isi_str (d : D) {t : String} (h : tyN d = some t) : (tyN d).bind (fun t => (kitB t "str").map D.bl) = some (.bl (isS d)) := by
  cases d <;> first | (simp only [tyN] at h; cases h; done) | simp [isS, tyN, kit_str_str, kit_tuple_str, kit_none_str, kit_int_str, kit_bool_str, kit_list_str]
theorem isi_tuple (d : D) {t : String} (h : tyN d = some t) : (tyN d).bind (fun t => (kitB t "tuple").map D.bl) = some (.bl (isT d)) := by
  cases d <;> first | (simp only [tyN] at h; cases h; done) | simp [isT, tyN, kit_tuple_tuple, kit_str_tuple, kit_none_tuple, kit_int_tuple, kit_bool_tuple, kit_list_tuple]
/-! ### loops -/
/-- what a body's end means for a loop -/
def After (P : Fl → Prop) (I : Env → Prop) : Fl → Prop
  | .next δ => I δ
  | .cont δ => I δ
  | .brk δ => P (.next δ)
  | .ret d => P (.ret d)
  | .exc c δ => P (.exc c δ)
  | .bad => False
@[simp] theorem aft_next {P I δ} : After P I (.next δ) = I δ := rfl
@[simp] theorem aft_cont {P I δ} : After P I (.cont δ) = I δ := rfl
@[simp] theorem aft_brk {P I δ} : After P I (.brk δ) = P (.next δ) := rfl
@[simp] theorem aft_ret {P I d} : After P I (.ret d) = P (.ret d) := rfl
@[simp] theorem aft_exc {P I c δ} : After P I (.exc c δ) = P (.exc c δ) := rfl
theorem forF_gen {β : Type} {t : Tg} {f : Sv} {enc : β → D} (P : Fl → Prop) (I : List β → Env → Prop) : ∀ (bs done : List β) (δ : Env), I done δ →
    (∀ pre b δ, pre <+: done ++ bs → done.length ≤ pre.length → pre ++ [b] <+: done ++ bs → I pre δ → ∃ δ1, t.put (enc b) δ = some δ1 ∧ After P (I (pre ++ [b])) (f δ1)) →
    (∀ δ, I (done ++ bs) δ → P (.next δ)) → P (forF t f (bs.map enc) δ)
  | [], done, δ, h0, _, hf => by
    rw [List.map_nil, forF]
    exact hf δ (by rw [List.append_nil]; exact h0)
  | b :: bs, done, δ, h0, hs, hf => by
    obtain ⟨δ1, h1, h2⟩ := hs done b δ (List.prefix_append _ _) (Nat.le_refl _) ⟨bs, by simp⟩ h0
    have ih := fun δ' (hi : I (done ++ [b]) δ') => forF_gen P I bs (done ++ [b]) δ' hi (fun pre b' δ'' q1 q2 q3 q4 => hs pre b' δ'' (by simpa using q1) (by simp at q2; omega) (by simpa using q3) q4) (fun δ'' q => hf δ'' (by simpa using q))
    simp only [List.map_cons, forF, h1]
    cases hfl : f δ1 with
    | next δ' => rw [hfl] at h2; exact ih δ' h2
    | cont δ' => rw [hfl] at h2; exact ih δ' h2
    | brk δ' => rw [hfl] at h2; exact h2
    | ret d => rw [hfl] at h2; exact h2
    | exc c δ' => rw [hfl] at h2; exact h2
    | bad => rw [hfl] at h2; exact False.elim h2
/-- a loop that goes through -/
theorem forF_run {β : Type} {t : Tg} {f : Sv} {enc : β → D} (I : List β → Env → Prop) (bs : List β) {δ : Env} (h0 : I [] δ)
    (hs : ∀ pre b δ, pre ++ [b] <+: bs → I pre δ → ∃ δ1, t.put (enc b) δ = some δ1 ∧ ∃ δ2, f δ1 = .next δ2 ∧ I (pre ++ [b]) δ2) : ∃ δ', forF t f (bs.map enc) δ = .next δ' ∧ I bs δ' := by
  refine forF_gen (P := fun r => ∃ δ', r = .next δ' ∧ I bs δ') I bs [] δ h0 (fun pre b δ _ _ q3 q4 => ?_) (fun δ q => ⟨δ, rfl, q⟩)
  obtain ⟨δ1, h1, δ2, h2, h3⟩ := hs pre b δ q3 q4
  exact ⟨δ1, h1, by rw [h2]; exact h3⟩
/-- comprehensions: every element kept -/
theorem mapF_enc {β : Type} {t : Tg} {c : Tv} {f : Ev} {δ : Env} {enc : β → D} {g : β → D} : ∀ {bs : List β}, (∀ b ∈ bs, ∃ δ1, t.put (enc b) δ = some δ1 ∧ c δ1 = .ok true ∧ f δ1 = .ok (g b)) → mapF t c f δ (bs.map enc) = .ok (bs.map g)
  | [], _ => rfl
  | b :: bs, h => by
    obtain ⟨δ1, h1, h2, h3⟩ := h b List.mem_cons_self
    rw [List.map_cons, mapF]
    simp only [h1, h2, h3]
    rw [mapF_enc fun e he => h e (List.mem_cons_of_mem _ he)]
    rfl
/-- comprehensions with a condition -/
theorem mapF_filter {β : Type} {t : Tg} {c : Tv} {f : Ev} {δ : Env} {enc : β → D} {p : β → Bool} {g : β → D} : ∀ {bs : List β}, (∀ b ∈ bs, ∃ δ1, t.put (enc b) δ = some δ1 ∧ c δ1 = .ok (p b) ∧ (p b = true → f δ1 = .ok (g b))) → mapF t c f δ (bs.map enc) = .ok ((bs.filter p).map g)
  | [], _ => rfl
  | b :: bs, h => by
    obtain ⟨δ1, h1, h2, h3⟩ := h b List.mem_cons_self
    have ih := mapF_filter (bs := bs) fun e he => h e (List.mem_cons_of_mem _ he)
    rw [List.map_cons, mapF, List.filter_cons]
    cases hp : p b with
    | true =>
      rw [hp] at h2
      simp only [h1, h2, h3 hp, ih, if_true, List.map_cons]
      rfl
    | false =>
      rw [hp] at h2
      simp only [h1, h2, ih, Bool.false_eq_true, if_false]
theorem genF_enc_all {β : Type} {t : Tg} {c : Tv} {f : Ev} {δ : Env} {enc : β → D} {p : β → Bool} : ∀ {bs : List β}, (∀ b ∈ bs, ∃ δ1, t.put (enc b) δ = some δ1 ∧ c δ1 = .ok true ∧ f δ1 = .ok (.bl (p b))) → genF false t c f δ (bs.map enc) = .ok (.bl (bs.all p))
  | [], _ => rfl
  | b :: bs, h => by
    obtain ⟨δ1, h1, h2, h3⟩ := h b List.mem_cons_self
    have ih := genF_enc_all (bs := bs) fun e he => h e (List.mem_cons_of_mem _ he)
    rw [List.map_cons, genF]
    simp only [h1, h2, h3]
    rw [List.all_cons]
    cases hp : p b with
    | false => rfl
    | true => simp only [Bool.true_eq_false, if_false, Bool.true_and]; exact ih
theorem genF_enc_any {β : Type} {t : Tg} {c : Tv} {f : Ev} {δ : Env} {enc : β → D} {p : β → Bool} : ∀ {bs : List β}, (∀ b ∈ bs, ∃ δ1, t.put (enc b) δ = some δ1 ∧ c δ1 = .ok true ∧ f δ1 = .ok (.bl (p b))) → genF true t c f δ (bs.map enc) = .ok (.bl (bs.any p))
  | [], _ => rfl
  | b :: bs, h => by
    obtain ⟨δ1, h1, h2, h3⟩ := h b List.mem_cons_self
    have ih := genF_enc_any (bs := bs) fun e he => h e (List.mem_cons_of_mem _ he)
    rw [List.map_cons, genF]
    simp only [h1, h2, h3]
    rw [List.any_cons]
    cases hp : p b with
    | true => rfl
    | false => simp only [Bool.false_eq_true, if_false, Bool.false_or]; exact ih

/-! ### good data -/
def D.gd (k : Nat) (d : D) : Prop := d.nb = true ∧ d.txt = true ∧ d.dep ≤ k
theorem gd_mono {k k' : Nat} {d : D} (h : k ≤ k') (g : d.gd k) : d.gd k' := ⟨g.1, g.2.1, Nat.le_trans g.2.2 h⟩
theorem gd_int {k : Nat} (i : Int) : (D.int i).gd k := ⟨rfl, rfl, Nat.zero_le _⟩
theorem gd_non {k : Nat} : (D.non).gd k := ⟨rfl, rfl, Nat.zero_le _⟩
/-- a text of signs -/
def goodS (x : Str) : Bool := x.cps.all (· < 0x110000)
theorem gd_str {k : Nat} {x : Str} (h : goodS x = true) : (D.str x).gd k := ⟨rfl, h, Nat.zero_le _⟩
theorem nbs_of : ∀ {xs : List D}, (∀ x ∈ xs, x.nb = true) → D.nbs xs = true
  | [], _ => rfl
  | x :: xs, h => by rw [D.nbs, h x List.mem_cons_self, nbs_of fun y hy => h y (List.mem_cons_of_mem _ hy)]; rfl
theorem txts_of : ∀ {xs : List D}, (∀ x ∈ xs, x.txt = true) → D.txts xs = true
  | [], _ => rfl
  | x :: xs, h => by rw [D.txts, h x List.mem_cons_self, txts_of fun y hy => h y (List.mem_cons_of_mem _ hy)]; rfl
theorem deps_of {k : Nat} : ∀ {xs : List D}, (∀ x ∈ xs, x.dep ≤ k) → D.deps xs ≤ k
  | [], _ => Nat.zero_le _
  | x :: xs, h => by rw [D.deps]; exact Nat.max_le.mpr ⟨h x List.mem_cons_self, deps_of fun y hy => h y (List.mem_cons_of_mem _ hy)⟩
theorem gd_tup {k : Nat} {xs : List D} (h : ∀ x ∈ xs, x.gd k) : (D.tup xs).gd (k + 1) := ⟨by rw [D.nb]; exact nbs_of fun x hx => (h x hx).1, by rw [D.txt]; exact txts_of fun x hx => (h x hx).2.1, by rw [D.dep]; exact Nat.succ_le_succ (deps_of fun x hx => (h x hx).2.2)⟩
theorem gd_lst {k : Nat} {xs : List D} (h : ∀ x ∈ xs, x.gd k) : (D.lst xs).gd (k + 1) := ⟨by rw [D.nb]; exact nbs_of fun x hx => (h x hx).1, by rw [D.txt]; exact txts_of fun x hx => (h x hx).2.1, by rw [D.dep]; exact Nat.succ_le_succ (deps_of fun x hx => (h x hx).2.2)⟩
theorem gd_sh {k : Nat} {d : D} (h : d.gd k) (hk : k ≤ 64 := by decide) : sh d = true := sh_of h.2.1 (Nat.le_trans h.2.2 hk)
theorem eq_gd {d e : D} (h1 : d.gd 64) (h2 : e.gd 64) : eqD d e = some (.bl (decide (d = e))) := eqD_nb h1.1 h2.1 (gd_sh h1) (gd_sh h2)
theorem ne_gd {d e : D} (h1 : d.gd 64) (h2 : e.gd 64) : neD d e = some (.bl (!decide (d = e))) := neD_nb h1.1 h2.1 (gd_sh h1) (gd_sh h2)
theorem any_eqv {x : D} (hx : x.nb = true) : ∀ {ys : List D}, (∀ y ∈ ys, y.nb = true) → (ys.any fun z => eqv z x) = decide (x ∈ ys)
  | [], _ => rfl
  | y :: ys, h => by
    rw [List.any_cons, any_eqv hx fun z hz => h z (List.mem_cons_of_mem _ hz), eqv_dec (h y List.mem_cons_self) hx]
    rw [Bool.eq_iff_iff, Bool.or_eq_true, decide_eq_true_eq, decide_eq_true_eq, decide_eq_true_eq, List.mem_cons]
    exact ⟨fun z => z.imp Eq.symm id, fun z => z.imp Eq.symm id⟩
theorem in_lst {x : D} {ys : List D} (hx : x.gd 64) (hy : ∀ y ∈ ys, y.gd 63) : inD x (.lst ys) = some (.bl (decide (x ∈ ys))) := by
  have e : inD x (.lst ys) = if sh x && sh (.lst ys) then some (.bl (ys.any fun z => eqv z x)) else none := by cases x <;> rfl
  rw [e, gd_sh hx, gd_sh (gd_lst hy), any_eqv hx.1 fun y h => (hy y h).1]
  rfl
theorem nin_lst {x : D} {ys : List D} (hx : x.gd 64) (hy : ∀ y ∈ ys, y.gd 63) : ninD x (.lst ys) = some (.bl (!decide (x ∈ ys))) := by
  unfold ninD; rw [in_lst hx hy]
/-! ### along an injection -/
theorem mem_enc {α β : Type} {enc : α → β} (inj : ∀ a b, enc a = enc b → a = b) {a : α} {l : List α} : enc a ∈ l.map enc ↔ a ∈ l := by
  constructor
  · intro h
    obtain ⟨b, hb, e⟩ := List.mem_map.mp h
    rw [← inj b a e]; exact hb
  · exact List.mem_map_of_mem
/-- a tuple of numbers -/
abbrev nt (m : List Nat) : D := .tup (ntl m)
abbrev stl (l : List Str) : List D := l.map D.str
theorem str_inj : ∀ a b, D.str a = D.str b → a = b := fun a b h => D.str.inj h
theorem gd_stl {k : Nat} {l : List Str} (h : ∀ x ∈ l, goodS x = true) : ∀ x ∈ stl l, x.gd k := fun x hx => by
  obtain ⟨y, hy, rfl⟩ := List.mem_map.mp hx
  exact gd_str (h y hy)
end Dl

set_option Elab.async false
set_option linter.all false
set_option maxRecDepth 100000
set_option maxHeartbeats 1000000
/-! Dicts with good keys. -/
namespace Dl
open PySem
mutual
theorem key_some : ∀ d : D, d.pure = true → ∃ k, d.key = some k ∧ k.depth = d.dep
  | .non, _ => ⟨_, rfl, rfl⟩
  | .bl b, _ => ⟨_, rfl, rfl⟩
  | .int i, _ => ⟨_, rfl, rfl⟩
  | .str x, _ => ⟨_, rfl, rfl⟩
  | .tup xs, h => by
    rw [D.pure] at h
    obtain ⟨ks, h1, h2⟩ := keys_some xs h
    exact ⟨.tup ks, by rw [D.key, h1]; rfl, by rw [NestedKey.depth, h2, D.dep]⟩
  | .lst _, h => by simp [D.pure] at h
  | .obj .., h => by simp [D.pure] at h
  | .dk .., h => by simp [D.pure] at h
  | .dt .., h => by simp [D.pure] at h
theorem keys_some : ∀ ds : List D, D.pures ds = true → ∃ ks, D.keyAll ds = some ks ∧ NestedKey.depthAll ks = D.deps ds
  | [], _ => ⟨[], rfl, rfl⟩
  | d :: ds, h => by
    rw [D.pures, Bool.and_eq_true] at h
    obtain ⟨k, h1, h2⟩ := key_some d h.1
    obtain ⟨ks, h3, h4⟩ := keys_some ds h.2
    exact ⟨k :: ks, by rw [D.keyAll, h1, h3]; rfl, by rw [NestedKey.depthAll, h2, h4, D.deps]⟩
end
mutual
theorem key_inj : ∀ (d e : D) (k : NestedKey), d.nb = true → e.nb = true → d.key = some k → e.key = some k → d = e
  | .non, e, k, _, h2, h3, h4 => by
    have h := h3.trans h4.symm
    clear h3 h4
    cases e <;> first | (simp_all [D.key, D.nb]; done) | (rw [D.key, D.key] at h; obtain ⟨a, _, b⟩ := Option.map_eq_some_iff.mp h.symm; cases b)
  | .int _, e, k, _, h2, h3, h4 => by
    have h := h3.trans h4.symm
    clear h3 h4
    cases e <;> first | (simp_all [D.key, D.nb]; done) | (rw [D.key, D.key] at h; obtain ⟨a, _, b⟩ := Option.map_eq_some_iff.mp h.symm; cases b)
  | .str _, e, k, _, h2, h3, h4 => by
    have h := h3.trans h4.symm
    clear h3 h4
    cases e <;> first | (simp_all [D.key, D.nb]; done) | (rw [D.key, D.key] at h; obtain ⟨a, _, b⟩ := Option.map_eq_some_iff.mp h.symm; cases b)
  | .bl _, _, _, h1, _, _, _ => by simp [D.nb] at h1
  | .tup xs, e, k, h1, h2, h3, h4 => by
    cases e with
    | tup ys =>
      rw [D.key] at h3 h4
      obtain ⟨ks, a1, rfl⟩ := Option.map_eq_some_iff.mp h3
      obtain ⟨ls, b1, b2⟩ := Option.map_eq_some_iff.mp h4
      cases b2
      rw [keys_inj xs ys _ h1 h2 a1 b1]
    | non =>
      have h := h3.trans h4.symm
      clear h3 h4
      simp [D.key] at h
    | int i =>
      have h := h3.trans h4.symm
      clear h3 h4
      simp [D.key] at h
    | str x =>
      have h := h3.trans h4.symm
      clear h3 h4
      simp [D.key] at h
    | bl b => simp [D.nb] at h2
    | lst _ => simp [D.key] at h4
    | obj _ _ _ => simp [D.key] at h4
    | dk _ _ => simp [D.key] at h4
    | dt _ _ => simp [D.key] at h4
  | .lst _, _, _, _, _, h3, _ => by simp [D.key] at h3
  | .obj .., _, _, _, _, h3, _ => by simp [D.key] at h3
  | .dk .., _, _, _, _, h3, _ => by simp [D.key] at h3
  | .dt .., _, _, _, _, h3, _ => by simp [D.key] at h3
theorem keys_inj : ∀ (ds es : List D) (ks : List NestedKey), D.nbs ds = true → D.nbs es = true → D.keyAll ds = some ks → D.keyAll es = some ks → ds = es
  | [], [], _, _, _, _, _ => rfl
  | [], e :: es, ks, _, _, h3, h4 => by
    simp only [D.keyAll, Option.some.injEq] at h3
    subst h3
    rw [D.keyAll] at h4
    obtain ⟨k, _, h5⟩ := Option.bind_eq_some_iff.mp h4
    obtain ⟨r, _, h6⟩ := Option.map_eq_some_iff.mp h5
    cases h6
  | d :: ds, [], ks, _, _, h3, h4 => by
    simp only [D.keyAll, Option.some.injEq] at h4
    subst h4
    rw [D.keyAll] at h3
    obtain ⟨k, _, h5⟩ := Option.bind_eq_some_iff.mp h3
    obtain ⟨r, _, h6⟩ := Option.map_eq_some_iff.mp h5
    cases h6
  | d :: ds, e :: es, ks, h1, h2, h3, h4 => by
    rw [D.nbs, Bool.and_eq_true] at h1 h2
    rw [D.keyAll] at h3 h4
    obtain ⟨k, a1, a2⟩ := Option.bind_eq_some_iff.mp h3
    obtain ⟨r, a3, a4⟩ := Option.map_eq_some_iff.mp a2
    obtain ⟨k', b1, b2⟩ := Option.bind_eq_some_iff.mp h4
    obtain ⟨r', b3, b4⟩ := Option.map_eq_some_iff.mp b2
    subst a4
    injection b4 with c1 c2
    subst c1 c2
    rw [key_inj d e _ h1.1 h2.1 a1 b1, keys_inj ds es _ h1.2 h2.2 a3 b3]
end
theorem key_eq {d e : D} (h1 : d.nb = true) (h2 : e.nb = true) (p1 : d.pure = true) : (d.key = e.key) ↔ d = e := by
  constructor
  · intro h
    obtain ⟨k, h3, _⟩ := key_some d p1
    exact key_inj d e k h1 h2 h3 (by rw [← h, h3])
  · intro h; rw [h]
/-- good keys -/
def D.gk (d : D) : Prop := d.nb = true ∧ d.pure = true ∧ d.dep ≤ 8 ∧ ∃ xs, d = .tup xs
theorem tkey_ok {d : D} (h : d.gk) : tkey d = true := by
  obtain ⟨_, h2, h3, xs, rfl⟩ := h
  obtain ⟨k, h4, h5⟩ := key_some (.tup xs) h2
  unfold tkey
  simp only [h4]
  rw [decide_eq_true_eq, h5]; exact h3
theorem any_key {y : D} {ks : List D} (hy : y.gk) (h : ∀ k ∈ ks, k.gk) : (ks.any fun z => decide (D.key z = D.key y)) = decide (y ∈ ks) := by
  rw [Bool.eq_iff_iff, List.any_eq_true, decide_eq_true_eq]
  constructor
  · rintro ⟨z, hz, e⟩
    rw [decide_eq_true_eq, key_eq (h z hz).1 hy.1 (h z hz).2.1] at e
    rw [← e]; exact hz
  · intro m; exact ⟨y, m, by simp⟩
theorem dput_new {y v : D} {ks xs : List D} (hy : y.gk) (h : ∀ k ∈ ks, k.gk) (m : y ∉ ks) (hz : ks.length < 16777216) : dputO (.dt ks xs) y v = some (.dt (ks ++ [y]) (xs ++ [v])) := by
  have hz : ks.length < sizeLine := hz
  unfold dputO
  simp only [tkey_ok hy, if_pos hz]
  unfold zput
  rw [any_key hy h, decide_eq_false m]
  rfl
theorem dput_old {y v : D} {ks xs : List D} (hy : y.gk) (h : ∀ k ∈ ks, k.gk) (m : y ∈ ks) (nd : ks.Nodup) (hl : ks.length = xs.length) (hz : ks.length < 16777216) : dputO (.dt ks xs) y v = some (.dt ks (xs.set (ks.idxOf y) v)) := by
  have hz' : ks.length < sizeLine := hz
  unfold dputO
  simp only [tkey_ok hy, if_pos hz']
  clear hz'
  unfold zput
  rw [any_key hy h, decide_eq_true m]
  simp only [if_true]
  congr 2
  clear hz m
  induction ks generalizing xs with
  | nil => cases xs <;> simp_all
  | cons k ks ih =>
    cases xs with
    | nil => simp at hl
    | cons x xs =>
      have h0 := h k List.mem_cons_self
      rw [List.nodup_cons] at nd
      have e0 : decide (k.key = y.key) = decide (k = y) := by
        rw [Bool.eq_iff_iff, decide_eq_true_eq, decide_eq_true_eq]; exact key_eq h0.1 hy.1 h0.2.1
      simp only [List.zipWith_cons_cons, e0, List.idxOf_cons]
      by_cases e : k = y
      · subst e
        simp only [decide_true, if_true, beq_self_eq_true, cond_true, List.set_cons_zero]
        congr 1
        have : ∀ (ks xs : List D), k ∉ ks → (∀ z ∈ ks, z.gk) → ks.length = xs.length → List.zipWith (fun z x => if decide (D.key z = D.key k) = true then v else x) ks xs = xs := by
          intro ks
          induction ks with
          | nil => intro xs _ _ q; cases xs <;> simp_all
          | cons z ks ih2 =>
            intro xs q1 q2 q3
            cases xs with
            | nil => simp at q3
            | cons x xs =>
              have hz0 := q2 z List.mem_cons_self
              rw [List.zipWith_cons_cons, ih2 xs (fun w => q1 (List.mem_cons_of_mem _ w)) (fun w hw => q2 w (List.mem_cons_of_mem _ hw)) (by simpa using q3)]
              have : ¬ (z.key = k.key) := by
                rw [key_eq hz0.1 hy.1 hz0.2.1]
                intro w; exact q1 (w ▸ List.mem_cons_self)
              simp [this]
        exact this ks xs nd.1 (fun z hz => h z (List.mem_cons_of_mem _ hz)) (by simpa using hl)
      · have e2 : (k == y) = false := by simpa using e
        rw [ih (fun z hz => h z (List.mem_cons_of_mem _ hz)) nd.2 (by simpa using hl), e2]
        simp [e]
theorem pures_of : ∀ {xs : List D}, (∀ x ∈ xs, x.pure = true) → D.pures xs = true
  | [], _ => rfl
  | x :: xs, h => by rw [D.pures, h x List.mem_cons_self, pures_of fun y hy => h y (List.mem_cons_of_mem _ hy)]; rfl
theorem pure_tup {xs : List D} (h : ∀ x ∈ xs, x.pure = true) : (D.tup xs).pure = true := by rw [D.pure]; exact pures_of h
end Dl

set_option Elab.async false
set_option linter.all false
set_option maxRecDepth 100000
set_option maxHeartbeats 1000000
/-! Fixed texts. -/
namespace Dl
open PySem
@[simp] theorem ofS_inj (a b : String) : (Str.ofString a = Str.ofString b) ↔ a = b := by
  constructor
  · intro h
    rw [Str.ofString_eq_toList, Str.ofString_eq_toList] at h
    have h1 := congrArg (fun x : Str => x.cps.toList) h
    apply String.ext
    have h2 : a.toList.map Char.toNat = b.toList.map Char.toNat := by simpa using h1
    exact (List.map_inj_right fun x y h => Char.ext (UInt32.toNat_inj.mp h)).mp h2
  · intro h; rw [h]
@[simp] theorem good_ofS (a : String) : goodS (Str.ofString a) = true := by
  unfold goodS
  rw [Str.ofString_eq_toList, ← Array.all_toList, List.all_eq_true]
  intro c hc
  have hc : c ∈ a.toList.map Char.toNat := by simpa using hc
  obtain ⟨x, _, rfl⟩ := List.mem_map.mp hc
  rw [decide_eq_true_eq]
  have := x.valid
  simp only [UInt32.isValidChar, Nat.isValidChar] at this
  show x.val.toNat < 0x110000
  omega
@[simp] theorem gd_str_iff {k : Nat} {x : Str} : (D.str x).gd k ↔ goodS x = true := ⟨fun h => h.2.1, gd_str⟩
@[simp] theorem gd_int_iff {k : Nat} {i : Int} : (D.int i).gd k ↔ True := ⟨fun _ => trivial, fun _ => gd_int i⟩
@[simp] theorem gd_non_iff {k : Nat} : (D.non).gd k ↔ True := ⟨fun _ => trivial, fun _ => gd_non⟩
theorem eq_str {x y : Str} (h1 : goodS x = true) (h2 : goodS y = true) : eqD (.str x) (.str y) = some (.bl (decide (x = y))) := by
  rw [eq_gd (gd_str h1) (gd_str h2)]; simp
theorem ne_str {x y : Str} (h1 : goodS x = true) (h2 : goodS y = true) : neD (.str x) (.str y) = some (.bl (!decide (x = y))) := by
  rw [ne_gd (gd_str h1) (gd_str h2)]; simp
section
variable (x y z : D) (xs : List D)
@[simp] theorem ix_t0 : ixD (.tup (x :: xs)) (.int 0) = some x := ix_tup (x :: xs) 0
@[simp] theorem ix_t1 : ixD (.tup (x :: y :: xs)) (.int 1) = some y := ix_tup (x :: y :: xs) 1
@[simp] theorem ix_t2 : ixD (.tup (x :: y :: z :: xs)) (.int 2) = some z := ix_tup (x :: y :: z :: xs) 2
@[simp] theorem ix_l0 : ixD (.lst (x :: xs)) (.int 0) = some x := ix_lst (x :: xs) 0
@[simp] theorem ix_l1 : ixD (.lst (x :: y :: xs)) (.int 1) = some y := ix_lst (x :: y :: xs) 1
@[simp] theorem ix_l2 : ixD (.lst (x :: y :: z :: xs)) (.int 2) = some z := ix_lst (x :: y :: z :: xs) 2
end
theorem eq_of (a b : String) : eqD (.str (Str.ofString a)) (.str (Str.ofString b)) = some (.bl (decide (a = b))) := by
  rw [eq_str (by simp) (by simp)]; simp
theorem ne_of (a b : String) : neD (.str (Str.ofString a)) (.str (Str.ofString b)) = some (.bl (!decide (a = b))) := by
  rw [ne_str (by simp) (by simp)]; simp
@[simp] theorem isT_tup (xs : List D) : isT (.tup xs) = true := rfl
@[simp] theorem isS_str (x : Str) : isS (.str x) = true := rfl
@[simp] theorem isi_tt (xs : List D) : ((tyN (.tup xs)).bind fun t => (L2.kitB t "tuple").map D.bl) = some (.bl true) := isi_tuple (.tup xs) rfl
@[simp] theorem isi_ss (x : Str) : ((tyN (.str x)).bind fun t => (L2.kitB t "str").map D.bl) = some (.bl true) := isi_str (.str x) rfl
end Dl

set_option Elab.async false
set_option linter.all false
set_option maxRecDepth 100000
set_option maxHeartbeats 4000000
namespace Sh
open PySem PySem.Spec PyProof.Rows L2 Dl
noncomputable section

/-! ### is_number -/
/-! ### is_name -/
def y1_is_name : Ev :=
    (e2 inD (eV 1) (eC (.str "abcdefghijklmnopqrstuvwxyz0123456789")))
def b_is_name : Sv :=
    (sSeq (sIf (tOr' (tNot' (tB1 (eIsi "str" (eV 0)))) (tOr' (tB1 (e2 ltD (eB lenD (aCons (eV 0) aNil)) (eC (.int 1)))) (tOr' (tB1 (e2 gtD (eB lenD (aCons (eV 0) aNil)) (eC (.int 8)))) (tB1 (e2 ninD (e2 ixD (eV 0) (eC (.int 0))) (eC (.str "abcdefghijklmnopqrstuvwxyz")))))))
    (sRet (eC (.bl false)))
    sNext)
    (sRet (eGen false [1] (.one 1) (iSeq (eV 0)) tYesD y1_is_name)))
def m_is_name : List D → R D := runF 2 b_is_name

/-! ### is_side -/
/-! ### is_move -/
/-! ### check_mark -/
/-! ### row_of -/
/-! ### rows_of -/
/-! ### is_enough -/
/-! ### moved -/
/-! ### explored -/
/-! ### Graph_size -/
/-! ### Graph -/
/-! ### _law_cell -/
def b__law_cell : Sv :=
    (sSeq (sIf (tB1 (e2 ltD (eV 1) (eB lenD (aCons (eV 0) aNil))))
    (sRet (e2 ixD (eV 0) (eV 1)))
    sNext)
    (sRet (eC (.int 0))))
def m__law_cell : List D → R D := runF 2 b__law_cell

/-! ### _law_draws -/
def l1__law_draws : Sv :=
    (sSeq (sSet 5 (e2 modD (eB intTD (aCons (e2 addD (e2 addD (e2 mulD (eV 0) (eC (.int 48271))) (e2 mulD (eV 4) (eC (.int 69621)))) (eC (.int 1))) aNil)) (eC (.int 2147483647))))
    (sIf (tB1 (e2 geD (eV 0) (e2 powD (eC (.int 10)) (eC (.int 18)))))
    (sSeq (sApp 2 (e2 modD (eV 3) (eC (.int 1009))))
    (sSet 3 (e2 fdivD (eV 3) (eC (.int 1009)))))
    (sApp 2 (e2 fdivD (e2 modD (eB intTD (aCons (e2 addD (e2 mulD (eV 5) (eV 5)) (e2 mulD (eV 5) (eC (.int 40692)))) aNil)) (eC (.int 2147483399))) (eC (.int 7))))))
def b__law_draws : Sv :=
    (sSeq (sOwn 2 (nLst aNil))
    (sSeq (sSet 3 (eB intTD (aCons (eV 0) aNil)))
    (sSeq (sFor (.one 4) (iRng (aCons (eV 1) aNil))
    l1__law_draws)
    (sFrz 2 (sRet (eV 2))))))
def m__law_draws : List D → R D := runF 6 b__law_draws

/-! ### _law_side -/
/-! ### _law_shifted -/
/-! ### _law_net -/
/-! ### _law_mark -/
/-! ### _law_row -/
/-! ### _law_rows -/
/-! ### _law_enough -/
/-! ### _law_behind -/
/-! ### _law_reached -/
/-! ### _law_ahead -/
/-! ### _law_flood -/
/-! ### Net -/
/-! ### Graph_steps -/
end
end Sh

set_option Elab.async false
set_option linter.all false
set_option maxRecDepth 100000
set_option maxHeartbeats 4000000
namespace K89
open PySem PySem.Spec PyProof.Rows L2 Dl Sh
noncomputable section
abbrev d_KINDS : Ev := eC (.tup [.str "seq", .str "xor", .str "and"])

/-! ### check_part -/
def l1_check_part (s_check_part : List D → R D) : Sv :=
    (sDrop (eCall s_check_part (aCons (eV 2) (aCons (e2 addD (eV 1) (eC (.int 1))) aNil))))
def b_check_part (s_check_part : List D → R D) : Sv :=
    (sSeq (sIf (tOr' (tNot' (tB1 (eIsi "tuple" (eV 0)))) (tOr' (tB1 (e2 ltD (eB lenD (aCons (eV 0) aNil)) (eC (.int 1)))) (tOr' (tNot' (tB1 (eIsi "str" (e2 ixD (eV 0) (eC (.int 0)))))) (tB1 (e2 gtD (eV 1) (eC (.int 6)))))))
    (sRaise "BadTree")
    sNext)
    (sIf (tB1 (e2 eqD (e2 ixD (eV 0) (eC (.int 0))) (eC (.str "do"))))
    (sIf (tOr' (tB1 (e2 neD (eB lenD (aCons (eV 0) aNil)) (eC (.int 2)))) (tNot' (tB1 (eCall m_is_name (aCons (e2 ixD (eV 0) (eC (.int 1))) aNil)))))
    (sRaise "BadTree")
    sNext)
    (sIf (tB1 (e2 eqD (e2 ixD (eV 0) (eC (.int 0))) (eC (.str "skip"))))
    (sIf (tB1 (e2 neD (eB lenD (aCons (eV 0) aNil)) (eC (.int 1))))
    (sRaise "BadTree")
    sNext)
    (sIf (tAnd' (tB1 (e2 inD (e2 ixD (eV 0) (eC (.int 0))) d_KINDS)) (tB1 (e2 geD (eB lenD (aCons (eV 0) aNil)) (eC (.int 3)))))
    (sFor (.one 2) (iSeq (eSl (eV 0) (oSome (eC (.int 1))) oNone))
    (l1_check_part s_check_part))
    (sIf (tAnd' (tB1 (e2 eqD (e2 ixD (eV 0) (eC (.int 0))) (eC (.str "loop")))) (tB1 (e2 eqD (eB lenD (aCons (eV 0) aNil)) (eC (.int 3)))))
    (sSeq (sDrop (eCall s_check_part (aCons (e2 ixD (eV 0) (eC (.int 1))) (aCons (e2 addD (eV 1) (eC (.int 1))) aNil))))
    (sDrop (eCall s_check_part (aCons (e2 ixD (eV 0) (eC (.int 2))) (aCons (e2 addD (eV 1) (eC (.int 1))) aNil)))))
    (sRaise "BadTree"))))))
def m_check_part : Nat → List D → R D
  | 0 => fun _ => .bad
  | n + 1 => runF 3 (b_check_part (m_check_part n))

/-! ### leaves_of -/
def l1_leaves_of (s_leaves_of : List D → R D) : Sv :=
    (sSet 1 (e2 addD (eV 1) (eCall s_leaves_of (aCons (eV 2) aNil))))
def b_leaves_of (s_leaves_of : List D → R D) : Sv :=
    (sSeq (sIf (tB1 (e2 eqD (e2 ixD (eV 0) (eC (.int 0))) (eC (.str "do"))))
    (sRet (eLst (aCons (e2 ixD (eV 0) (eC (.int 1))) aNil)))
    sNext)
    (sSeq (sIf (tB1 (e2 eqD (e2 ixD (eV 0) (eC (.int 0))) (eC (.str "skip"))))
    (sRet (eLst (aCons (eC .non) aNil)))
    sNext)
    (sSeq (sSet 1 (eLst aNil))
    (sSeq (sFor (.one 2) (iSeq (eSl (eV 0) (oSome (eC (.int 1))) oNone))
    (l1_leaves_of s_leaves_of))
    (sRet (eV 1))))))
def m_leaves_of : Nat → List D → R D
  | 0 => fun _ => .bad
  | n + 1 => runF 3 (b_leaves_of (m_leaves_of n))

/-! ### check_tree -/
def b_check_tree : Sv :=
    (sSeq (sDrop (eCall (m_check_part 60) (aCons (eV 0) (aCons (eC (.int 0)) aNil))))
    (sIf (tB1 (e2 gtD (eB lenD (aCons (eCall (m_leaves_of 60) (aCons (eV 0) aNil)) aNil)) (eC (.int 24))))
    (sRaise "BadTree")
    sNext))
def m_check_tree : List D → R D := runF 1 b_check_tree

/-! ### deeds_of -/
def c1_deeds_of : Tv :=
    (tB1 (e2 notND (eV 1) (eC .non)))
def y1_deeds_of : Ev :=
    (eV 1)
def b_deeds_of : Sv :=
    (sSeq (sDrop (eCall m_check_tree (aCons (eV 0) aNil)))
    (sRet (eB tupleD (aCons (eSrtS (nSc [1] (.one 1) (iSeq (eCall (m_leaves_of 60) (aCons (eV 0) aNil))) c1_deeds_of y1_deeds_of)) aNil))))
def m_deeds_of : List D → R D := runF 2 b_deeds_of

/-! ### is_nullable -/
def y1_is_nullable (s_is_nullable : List D → R D) : Ev :=
    (eCall s_is_nullable (aCons (eV 1) aNil))
def y2_is_nullable (s_is_nullable : List D → R D) : Ev :=
    (eCall s_is_nullable (aCons (eV 1) aNil))
def b_is_nullable (s_is_nullable : List D → R D) : Sv :=
    (sSeq (sIf (tB1 (e2 eqD (e2 ixD (eV 0) (eC (.int 0))) (eC (.str "do"))))
    (sRet (eC (.bl false)))
    sNext)
    (sSeq (sIf (tB1 (e2 eqD (e2 ixD (eV 0) (eC (.int 0))) (eC (.str "skip"))))
    (sRet (eC (.bl true)))
    sNext)
    (sSeq (sIf (tB1 (e2 eqD (e2 ixD (eV 0) (eC (.int 0))) (eC (.str "xor"))))
    (sRet (eGen true [1] (.one 1) (iSeq (eSl (eV 0) (oSome (eC (.int 1))) oNone)) tYesD (y1_is_nullable s_is_nullable)))
    sNext)
    (sSeq (sIf (tB1 (e2 eqD (e2 ixD (eV 0) (eC (.int 0))) (eC (.str "loop"))))
    (sRet (eCall s_is_nullable (aCons (e2 ixD (eV 0) (eC (.int 1))) aNil)))
    sNext)
    (sRet (eGen false [1] (.one 1) (iSeq (eSl (eV 0) (oSome (eC (.int 1))) oNone)) tYesD (y2_is_nullable s_is_nullable)))))))
def m_is_nullable : Nat → List D → R D
  | 0 => fun _ => .bad
  | n + 1 => runF 2 (b_is_nullable (m_is_nullable n))

/-! ### and_of -/
def c1_and_of : Tv :=
    (tB1 (e2 neD (e2 ixD (eV 2) (eC (.int 0))) (eC (.str "skip"))))
def y1_and_of : Ev :=
    (eV 2)
def b_and_of : Sv :=
    (sSeq (sSet 1 (eN (nLc [2] (.one 2) (iSeq (eV 0)) c1_and_of y1_and_of)))
    (sSeq (sIf (tB1 (e2 eqD (eB lenD (aCons (eV 1) aNil)) (eC (.int 0))))
    (sRet (eTup (aCons (eC (.str "skip")) aNil)))
    sNext)
    (sRet (eIf (tB1 (e2 eqD (eB lenD (aCons (eV 1) aNil)) (eC (.int 1)))) (e2 ixD (eV 1) (eC (.int 0))) (e2 addD (eTup (aCons (eC (.str "and")) aNil)) (eB tupleD (aCons (eV 1) aNil)))))))
def m_and_of : List D → R D := runF 3 b_and_of

/-! ### without_twins -/
def l1_without_twins : Sv :=
    (sIf (tBor 1 (tB1 (e2 ninD (eV 2) (eV 1))))
    (sApp 1 (eV 2))
    sNext)
def b_without_twins : Sv :=
    (sSeq (sOwn 1 (nLst aNil))
    (sSeq (sFor (.one 2) (iSeq (eV 0))
    l1_without_twins)
    (sFrz 1 (sRet (eV 1)))))
def m_without_twins : List D → R D := runF 3 b_without_twins

/-! ### seq_of -/
def y1_seq_of : Ev :=
    (eV 3)
def l1_seq_of : Sv :=
    (sIf (tB1 (e2 eqD (e2 ixD (eV 2) (eC (.int 0))) (eC (.str "seq"))))
    (sFrz 1 (sOwn 1 (nCat (eV 1) (eN (nLc [3] (.one 3) (iSeq (eSl (eV 2) (oSome (eC (.int 1))) oNone)) tYesD y1_seq_of)))))
    (sIf (tB1 (e2 neD (e2 ixD (eV 2) (eC (.int 0))) (eC (.str "skip"))))
    (sApp 1 (eV 2))
    sNext))
def b_seq_of : Sv :=
    (sSeq (sOwn 1 (nLst aNil))
    (sSeq (sFor (.one 2) (iSeq (eV 0))
    l1_seq_of)
    (sSeq (sFrz 1 (sIf (tB1 (e2 eqD (eB lenD (aCons (eV 1) aNil)) (eC (.int 0))))
    (sRet (eTup (aCons (eC (.str "skip")) aNil)))
    sNext))
    (sRet (eIf (tB1 (e2 eqD (eB lenD (aCons (eV 1) aNil)) (eC (.int 1)))) (e2 ixD (eV 1) (eC (.int 0))) (e2 addD (eTup (aCons (eC (.str "seq")) aNil)) (eB tupleD (aCons (eV 1) aNil))))))))
def m_seq_of : List D → R D := runF 4 b_seq_of

/-! ### rests -/
def i1_rests (s_rests : List D → R D) (s_seq_rests : List D → R D) (s_and_rests : List D → R D) (s_loop_rests : List D → R D) : Dl.Env → R (List D) :=
    (iSeq (eCall s_rests (aCons (eV 2) (aCons (eV 1) aNil))))
def y1_rests (s_rests : List D → R D) (s_seq_rests : List D → R D) (s_and_rests : List D → R D) (s_loop_rests : List D → R D) : Ev :=
    (eV 3)
def b_rests (s_rests : List D → R D) (s_seq_rests : List D → R D) (s_and_rests : List D → R D) (s_loop_rests : List D → R D) : Sv :=
    (sSeq (sIf (tB1 (e2 eqD (e2 ixD (eV 0) (eC (.int 0))) (eC (.str "do"))))
    (sRet (eIf (tB1 (e2 eqD (e2 ixD (eV 0) (eC (.int 1))) (eV 1))) (eLst (aCons (eTup (aCons (eC (.str "skip")) aNil)) aNil)) (eLst aNil)))
    sNext)
    (sSeq (sIf (tB1 (e2 eqD (e2 ixD (eV 0) (eC (.int 0))) (eC (.str "skip"))))
    (sRet (eLst aNil))
    sNext)
    (sSeq (sIf (tB1 (e2 eqD (e2 ixD (eV 0) (eC (.int 0))) (eC (.str "xor"))))
    (sRet (eCall m_without_twins (aCons (eN (nLc2 [2, 3] [3] (.one 2) (iSeq (eSl (eV 0) (oSome (eC (.int 1))) oNone)) tYesD (.one 3) (i1_rests s_rests s_seq_rests s_and_rests s_loop_rests) tYesD (y1_rests s_rests s_seq_rests s_and_rests s_loop_rests))) aNil)))
    sNext)
    (sSeq (sIf (tB1 (e2 eqD (e2 ixD (eV 0) (eC (.int 0))) (eC (.str "loop"))))
    (sRet (eCall s_loop_rests (aCons (eV 0) (aCons (eV 1) aNil))))
    sNext)
    (sRet (eIf (tB1 (e2 eqD (e2 ixD (eV 0) (eC (.int 0))) (eC (.str "seq")))) (eCall s_seq_rests (aCons (eV 0) (aCons (eV 1) aNil))) (eCall s_and_rests (aCons (eV 0) (aCons (eV 1) aNil)))))))))

/-! ### seq_rests -/
def y1_seq_rests (s_rests : List D → R D) (s_seq_rests : List D → R D) (s_and_rests : List D → R D) (s_loop_rests : List D → R D) : Ev :=
    (eCall m_seq_of (aCons (e2 addD (eTup (aCons (eV 4) aNil)) (eSl (eV 0) (oSome (e2 addD (eV 3) (eC (.int 1)))) oNone)) aNil))
def l1_seq_rests (s_rests : List D → R D) (s_seq_rests : List D → R D) (s_and_rests : List D → R D) (s_loop_rests : List D → R D) : Sv :=
    (sSeq (sSet 2 (e2 addD (eV 2) (eN (nLc [4] (.one 4) (iSeq (eCall s_rests (aCons (e2 ixD (eV 0) (eV 3)) (aCons (eV 1) aNil)))) tYesD (y1_seq_rests s_rests s_seq_rests s_and_rests s_loop_rests)))))
    (sIf (tNot' (tB1 (eCall (m_is_nullable 60) (aCons (e2 ixD (eV 0) (eV 3)) aNil))))
    (sRet (eCall m_without_twins (aCons (eV 2) aNil)))
    sNext))
def b_seq_rests (s_rests : List D → R D) (s_seq_rests : List D → R D) (s_and_rests : List D → R D) (s_loop_rests : List D → R D) : Sv :=
    (sSeq (sSet 2 (eLst aNil))
    (sSeq (sFor (.one 3) (iRng (aCons (eC (.int 1)) (aCons (eB lenD (aCons (eV 0) aNil)) aNil)))
    (l1_seq_rests s_rests s_seq_rests s_and_rests s_loop_rests))
    (sRet (eCall m_without_twins (aCons (eV 2) aNil)))))

/-! ### and_rests -/
def y1_and_rests (s_rests : List D → R D) (s_seq_rests : List D → R D) (s_and_rests : List D → R D) (s_loop_rests : List D → R D) : Ev :=
    (eCall m_and_of (aCons (e2 addD (e2 addD (eSl (eV 0) (oSome (eC (.int 1))) (oSome (eV 3))) (eTup (aCons (eV 4) aNil))) (eSl (eV 0) (oSome (e2 addD (eV 3) (eC (.int 1)))) oNone)) aNil))
def l1_and_rests (s_rests : List D → R D) (s_seq_rests : List D → R D) (s_and_rests : List D → R D) (s_loop_rests : List D → R D) : Sv :=
    (sSet 2 (e2 addD (eV 2) (eN (nLc [4] (.one 4) (iSeq (eCall s_rests (aCons (e2 ixD (eV 0) (eV 3)) (aCons (eV 1) aNil)))) tYesD (y1_and_rests s_rests s_seq_rests s_and_rests s_loop_rests)))))
def b_and_rests (s_rests : List D → R D) (s_seq_rests : List D → R D) (s_and_rests : List D → R D) (s_loop_rests : List D → R D) : Sv :=
    (sSeq (sSet 2 (eLst aNil))
    (sSeq (sFor (.one 3) (iRng (aCons (eC (.int 1)) (aCons (eB lenD (aCons (eV 0) aNil)) aNil)))
    (l1_and_rests s_rests s_seq_rests s_and_rests s_loop_rests))
    (sRet (eCall m_without_twins (aCons (eV 2) aNil)))))

/-! ### loop_rests -/
def y1_loop_rests (s_rests : List D → R D) (s_seq_rests : List D → R D) (s_and_rests : List D → R D) (s_loop_rests : List D → R D) : Ev :=
    (eCall m_seq_of (aCons (eTup (aCons (eV 4) (aCons (eV 2) aNil))) aNil))
def y2_loop_rests (s_rests : List D → R D) (s_seq_rests : List D → R D) (s_and_rests : List D → R D) (s_loop_rests : List D → R D) : Ev :=
    (eCall m_seq_of (aCons (eTup (aCons (eV 4) (aCons (eV 0) aNil))) aNil))
def b_loop_rests (s_rests : List D → R D) (s_seq_rests : List D → R D) (s_and_rests : List D → R D) (s_loop_rests : List D → R D) : Sv :=
    (sSeq (sSet 2 (eTup (aCons (eC (.str "xor")) (aCons (eTup (aCons (eC (.str "skip")) aNil)) (aCons (eTup (aCons (eC (.str "seq")) (aCons (e2 ixD (eV 0) (eC (.int 2))) (aCons (eV 0) aNil)))) aNil)))))
    (sSeq (sSet 3 (eN (nLc [4] (.one 4) (iSeq (eCall s_rests (aCons (e2 ixD (eV 0) (eC (.int 1))) (aCons (eV 1) aNil)))) tYesD (y1_loop_rests s_rests s_seq_rests s_and_rests s_loop_rests))))
    (sSeq (sIf (tB1 (eCall (m_is_nullable 60) (aCons (e2 ixD (eV 0) (eC (.int 1))) aNil)))
    (sSet 3 (e2 addD (eV 3) (eN (nLc [4] (.one 4) (iSeq (eCall s_rests (aCons (e2 ixD (eV 0) (eC (.int 2))) (aCons (eV 1) aNil)))) tYesD (y2_loop_rests s_rests s_seq_rests s_and_rests s_loop_rests)))))
    sNext)
    (sRet (eCall m_without_twins (aCons (eV 3) aNil))))))
def m_rests_seq_rests_and_rests_loop_rests_grp : Nat → Nat → List D → R D
  | 0, _ => fun _ => .bad
  | n + 1, 0 => runF 4 (b_rests (m_rests_seq_rests_and_rests_loop_rests_grp n 0) (m_rests_seq_rests_and_rests_loop_rests_grp n 1) (m_rests_seq_rests_and_rests_loop_rests_grp n 2) (m_rests_seq_rests_and_rests_loop_rests_grp n 3))
  | n + 1, 1 => runF 5 (b_seq_rests (m_rests_seq_rests_and_rests_loop_rests_grp n 0) (m_rests_seq_rests_and_rests_loop_rests_grp n 1) (m_rests_seq_rests_and_rests_loop_rests_grp n 2) (m_rests_seq_rests_and_rests_loop_rests_grp n 3))
  | n + 1, 2 => runF 5 (b_and_rests (m_rests_seq_rests_and_rests_loop_rests_grp n 0) (m_rests_seq_rests_and_rests_loop_rests_grp n 1) (m_rests_seq_rests_and_rests_loop_rests_grp n 2) (m_rests_seq_rests_and_rests_loop_rests_grp n 3))
  | n + 1, _ => runF 5 (b_loop_rests (m_rests_seq_rests_and_rests_loop_rests_grp n 0) (m_rests_seq_rests_and_rests_loop_rests_grp n 1) (m_rests_seq_rests_and_rests_loop_rests_grp n 2) (m_rests_seq_rests_and_rests_loop_rests_grp n 3))
def m_rests (n : Nat) : List D → R D := m_rests_seq_rests_and_rests_loop_rests_grp n 0
def m_seq_rests (n : Nat) : List D → R D := m_rests_seq_rests_and_rests_loop_rests_grp n 1
def m_and_rests (n : Nat) : List D → R D := m_rests_seq_rests_and_rests_loop_rests_grp n 2
def m_loop_rests (n : Nat) : List D → R D := m_rests_seq_rests_and_rests_loop_rests_grp n 3
theorem m_rests_succ (n : Nat) : m_rests (n + 1) = runF 4 (b_rests (m_rests n) (m_seq_rests n) (m_and_rests n) (m_loop_rests n)) := rfl
theorem m_seq_rests_succ (n : Nat) : m_seq_rests (n + 1) = runF 5 (b_seq_rests (m_rests n) (m_seq_rests n) (m_and_rests n) (m_loop_rests n)) := rfl
theorem m_and_rests_succ (n : Nat) : m_and_rests (n + 1) = runF 5 (b_and_rests (m_rests n) (m_seq_rests n) (m_and_rests n) (m_loop_rests n)) := rfl
theorem m_loop_rests_succ (n : Nat) : m_loop_rests (n + 1) = runF 5 (b_loop_rests (m_rests n) (m_seq_rests n) (m_and_rests n) (m_loop_rests n)) := rfl

/-! ### check_names -/
def y1_check_names : Ev :=
    (eCall m_is_name (aCons (eV 1) aNil))
def b_check_names : Sv :=
    (sIf (tOr' (tNot' (tB1 (eIsi "tuple" (eV 0)))) (tNot' (tB1 (eGen false [1] (.one 1) (iSeq (eV 0)) tYesD y1_check_names))))
    (sRaise "BadWord")
    sNext)
def m_check_names : List D → R D := runF 2 b_check_names

/-! ### is_word_of -/
def i1_is_word_of : Dl.Env → R (List D) :=
    (iSeq (eCall (m_rests 60) (aCons (eV 4) (aCons (eV 3) aNil))))
def y1_is_word_of : Ev :=
    (eV 5)
def l1_is_word_of : Sv :=
    (sSet 2 (eCall m_without_twins (aCons (eN (nLc2 [4, 5] [5] (.one 4) (iSeq (eV 2)) tYesD (.one 5) i1_is_word_of tYesD y1_is_word_of)) aNil)))
def y2_is_word_of : Ev :=
    (eCall (m_is_nullable 60) (aCons (eV 4) aNil))
def b_is_word_of : Sv :=
    (sSeq (sDrop (eCall m_check_tree (aCons (eV 0) aNil)))
    (sSeq (sDrop (eCall m_check_names (aCons (eV 1) aNil)))
    (sSeq (sSet 2 (eLst (aCons (eV 0) aNil)))
    (sSeq (sFor (.one 3) (iSeq (eV 1))
    l1_is_word_of)
    (sRet (eGen true [4] (.one 4) (iSeq (eV 2)) tYesD y2_is_word_of))))))
def m_is_word_of : List D → R D := runF 6 b_is_word_of

/-! ### words_of -/
def y1_words_of : Ev :=
    (eCall (m_is_nullable 60) (aCons (eV 11) aNil))
def c1_words_of : Tv :=
    (tB1 (eGen true [11] (.one 11) (iSeq (eV 8)) tYesD y1_words_of))
def y2_words_of : Ev :=
    (eV 7)
def i1_words_of : Dl.Env → R (List D) :=
    (iSeq (eCall (m_rests 60) (aCons (eV 11) (aCons (eV 9) aNil))))
def y3_words_of : Ev :=
    (eV 12)
def l1_words_of : Sv :=
    (sSeq (sSet 10 (eCall m_without_twins (aCons (eN (nLc2 [11, 12] [12] (.one 11) (iSeq (eV 8)) tYesD (.one 12) i1_words_of tYesD y3_words_of)) aNil)))
    (sIf (tB1 (e2 gtD (eB lenD (aCons (eV 10) aNil)) (eC (.int 0))))
    (sApp 6 (eTup (aCons (e2 addD (eV 7) (eTup (aCons (eV 9) aNil))) (aCons (eV 10) aNil))))
    sNext))
def l2_words_of : Sv :=
    (sFor (.one 9) (iSeq (eCall m_deeds_of (aCons (eV 0) aNil)))
    l1_words_of)
def k1_words_of : Ev :=
    (e2 kix (eVd 13) (eC (.int 0)))
def l3_words_of : Sv :=
    (sSeq (sSet 4 (e2 addD (eV 4) (eN (nLc [7, 8] (.all [7, 8]) (iSeq (eV 3)) c1_words_of y2_words_of))))
    (sSeq (sOwn 6 (nLst aNil))
    (sSeq (sFor (.all [7, 8]) (iSeq (eIf (tB1 (e2 ltD (eV 5) (eV 1))) (eV 3) (eLst aNil)))
    l2_words_of)
    (sSeq (sFrz 6 (sIf (tOr' (tB1 (e2 gtD (eB lenD (aCons (eV 6) aNil)) (eV 2))) (tB1 (e2 gtD (eB lenD (aCons (eV 4) aNil)) (eV 2))))
    (sRaise "TooMany")
    sNext))
    (sSet 3 (eSortX 13 (eV 6) k1_words_of))))))
def b_words_of : Sv :=
    (sSeq (sDrop (eCall m_check_tree (aCons (eV 0) aNil)))
    (sSeq (sSet 3 (eLst (aCons (eTup (aCons (eTup aNil) (aCons (eLst (aCons (eV 0) aNil)) aNil))) aNil)))
    (sSeq (sSet 4 (eLst aNil))
    (sSeq (sFor (.one 5) (iRng (aCons (e2 addD (eV 1) (eC (.int 1))) aNil))
    l3_words_of)
    (sRet (eB tupleD (aCons (eV 4) aNil)))))))
def m_words_of : List D → R D := runF 14 b_words_of

/-! ### _law_tree -/
def b__law_tree (s__law_tree : List D → R D) : Sv :=
    (sSeq (sSet 3 (e2 modD (e2 ixD (eV 0) (e2 modD (eV 1) (eB lenD (aCons (eV 0) aNil)))) (eIf (tB1 (e2 ltD (eV 2) (eC (.int 3)))) (eC (.int 9)) (eC (.int 3)))))
    (sSeq (sIf (tB1 (e2 ltD (eV 3) (eC (.int 3))))
    (sRet (eIf (tB1 (e2 eqD (e2 modD (e2 ixD (eV 0) (e2 modD (e2 addD (eV 1) (eC (.int 1))) (eB lenD (aCons (eV 0) aNil)))) (eC (.int 6))) (eC (.int 0)))) (eTup (aCons (eC (.str "skip")) aNil)) (eTup (aCons (eC (.str "do")) (aCons (e2 ixD (eC (.str "abc")) (e2 modD (e2 ixD (eV 0) (e2 modD (e2 addD (eV 1) (eC (.int 1))) (eB lenD (aCons (eV 0) aNil)))) (eC (.int 3)))) aNil)))))
    sNext)
    (sSeq (sSet 4 (eCall s__law_tree (aCons (eV 0) (aCons (e2 addD (eV 1) (eC (.int 3))) (aCons (e2 addD (eV 2) (eC (.int 1))) aNil)))))
    (sSeq (sSet 5 (eCall s__law_tree (aCons (eV 0) (aCons (e2 addD (eV 1) (eC (.int 8))) (aCons (e2 addD (eV 2) (eC (.int 1))) aNil)))))
    (sSeq (sIf (tAnd' (tB1 (e2 gtD (eV 3) (eC (.int 6)))) (tB1 (e2 ltD (eV 2) (eC (.int 2)))))
    (sRet (eTup (aCons (eC (.str "loop")) (aCons (eV 4) (aCons (eV 5) aNil)))))
    sNext)
    (sSeq (sSet 6 (e2 ixD (eTup (aCons (eC (.str "seq")) (aCons (eC (.str "xor")) (aCons (eC (.str "and")) aNil)))) (e2 modD (eV 3) (eC (.int 3)))))
    (sSeq (sIf (tAnd' (tB1 (e2 eqD (e2 modD (e2 ixD (eV 0) (e2 modD (e2 addD (eV 1) (eC (.int 2))) (eB lenD (aCons (eV 0) aNil)))) (eC (.int 4))) (eC (.int 0)))) (tB1 (e2 ltD (eV 2) (eC (.int 2)))))
    (sRet (eTup (aCons (eV 6) (aCons (eV 4) (aCons (eV 5) (aCons (eCall s__law_tree (aCons (eV 0) (aCons (e2 addD (eV 1) (eC (.int 14))) (aCons (e2 addD (eV 2) (eC (.int 1))) aNil)))) aNil))))))
    sNext)
    (sRet (eTup (aCons (eV 6) (aCons (eV 4) (aCons (eV 5) aNil))))))))))))
def m__law_tree : Nat → List D → R D
  | 0 => fun _ => .bad
  | n + 1 => runF 7 (b__law_tree (m__law_tree n))

/-! ### _law_mixed -/
def y1__law_mixed (s__law_mixed : List D → R D) : Ev :=
    (e2 addD (eSl (eV 0) oNone (oSome (eC (.int 1)))) (eV 3))
def c1__law_mixed (s__law_mixed : List D → R D) : Tv :=
    (tB1 (e2 ninD (e2 addD (eSl (eV 1) oNone (oSome (eC (.int 1)))) (eV 3)) (eV 2)))
def y2__law_mixed (s__law_mixed : List D → R D) : Ev :=
    (e2 addD (eSl (eV 1) oNone (oSome (eC (.int 1)))) (eV 3))
def b__law_mixed (s__law_mixed : List D → R D) : Sv :=
    (sSeq (sIf (tOr' (tB1 (e2 eqD (eB lenD (aCons (eV 0) aNil)) (eC (.int 0)))) (tB1 (e2 eqD (eB lenD (aCons (eV 1) aNil)) (eC (.int 0)))))
    (sRet (eLst (aCons (e2 addD (eV 0) (eV 1)) aNil)))
    sNext)
    (sSeq (sSet 2 (eN (nLc [3] (.one 3) (iSeq (eCall s__law_mixed (aCons (eSl (eV 0) (oSome (eC (.int 1))) oNone) (aCons (eV 1) aNil)))) tYesD (y1__law_mixed s__law_mixed))))
    (sRet (e2 addD (eV 2) (eN (nLc [3] (.one 3) (iSeq (eCall s__law_mixed (aCons (eV 0) (aCons (eSl (eV 1) (oSome (eC (.int 1))) oNone) aNil)))) (c1__law_mixed s__law_mixed) (y2__law_mixed s__law_mixed)))))))
def m__law_mixed : Nat → List D → R D
  | 0 => fun _ => .bad
  | n + 1 => runF 4 (b__law_mixed (m__law_mixed n))

/-! ### _law_once -/
def l1__law_once : Sv :=
    (sDPut 1 (eV 2) (eC (.bl true)))
def b__law_once : Sv :=
    (sSeq (sOwnO 1 nDt0)
    (sSeq (sFor (.one 2) (iSeq (eV 0))
    l1__law_once)
    (sFrz 1 (sRet (eB sortGD (aCons (eB keysD (aCons (eV 1) aNil)) aNil))))))
def m__law_once : List D → R D := runF 3 b__law_once

/-! ### _law_joined -/
def c1__law_joined : Tv :=
    (tB1 (e2 leD (e2 addD (eB lenD (aCons (eV 4) aNil)) (eB lenD (aCons (eV 5) aNil))) (eV 2)))
def y1__law_joined : Ev :=
    (e2 addD (eV 4) (eV 5))
def l1__law_joined : Sv :=
    (sSet 3 (e2 addD (eV 3) (eN (nLc [5] (.one 5) (iSeq (eV 1)) c1__law_joined y1__law_joined))))
def b__law_joined : Sv :=
    (sSeq (sSet 3 (eLst aNil))
    (sSeq (sFor (.one 4) (iSeq (eV 0))
    l1__law_joined)
    (sRet (eCall m__law_once (aCons (eV 3) aNil)))))
def m__law_joined : List D → R D := runF 6 b__law_joined

/-! ### _law_words -/
def y1__law_words (s__law_words : List D → R D) : Ev :=
    (eCall s__law_words (aCons (eV 4) (aCons (eV 1) aNil)))
def l1__law_words (s__law_words : List D → R D) : Sv :=
    (sSet 3 (eCall m__law_once (aCons (e2 addD (eV 3) (eCall m__law_joined (aCons (eCall m__law_joined (aCons (eV 3) (aCons (e2 ixD (eV 2) (eC (.int 1))) (aCons (eV 1) aNil)))) (aCons (e2 ixD (eV 2) (eC (.int 0))) (aCons (eV 1) aNil))))) aNil)))
def c1__law_words (s__law_words : List D → R D) : Tv :=
    (tB1 (e2 leD (e2 addD (eB lenD (aCons (eV 9) aNil)) (eB lenD (aCons (eV 7) aNil))) (eV 1)))
def y2__law_words (s__law_words : List D → R D) : Ev :=
    (eV 9)
def l2__law_words (s__law_words : List D → R D) : Sv :=
    (sSet 6 (e2 addD (eV 6) (eCall (m__law_mixed 60) (aCons (eV 7) (aCons (eV 8) aNil)))))
def l3__law_words (s__law_words : List D → R D) : Sv :=
    (sFor (.one 8) (iSeq (eN (nLc [9] (.one 9) (iSeq (eV 4)) (c1__law_words s__law_words) (y2__law_words s__law_words))))
    (l2__law_words s__law_words))
def l4__law_words (s__law_words : List D → R D) : Sv :=
    (sIf (tB1 (e2 eqD (e2 ixD (eV 0) (eC (.int 0))) (eC (.str "xor"))))
    (sSet 3 (eCall m__law_once (aCons (e2 addD (eV 3) (eV 4)) aNil)))
    (sIf (tB1 (e2 eqD (e2 ixD (eV 0) (eC (.int 0))) (eC (.str "seq"))))
    (sSet 3 (eCall m__law_joined (aCons (eV 3) (aCons (eV 4) (aCons (eV 1) aNil)))))
    (sSeq (sSet 6 (eLst aNil))
    (sSeq (sFor (.one 7) (iSeq (eV 3))
    (l3__law_words s__law_words))
    (sSet 3 (eCall m__law_once (aCons (eV 6) aNil)))))))
def b__law_words (s__law_words : List D → R D) : Sv :=
    (sSeq (sIf (tB1 (e2 eqD (e2 ixD (eV 0) (eC (.int 0))) (eC (.str "do"))))
    (sRet (eIf (tB1 (e2 gtD (eV 1) (eC (.int 0)))) (eLst (aCons (eTup (aCons (e2 ixD (eV 0) (eC (.int 1))) aNil)) aNil)) (eLst aNil)))
    sNext)
    (sSeq (sIf (tB1 (e2 eqD (e2 ixD (eV 0) (eC (.int 0))) (eC (.str "skip"))))
    (sRet (eLst (aCons (eTup aNil) aNil)))
    sNext)
    (sSeq (sSet 2 (eN (nLc [4] (.one 4) (iSeq (eSl (eV 0) (oSome (eC (.int 1))) oNone)) tYesD (y1__law_words s__law_words))))
    (sSeq (sIf (tB1 (e2 eqD (e2 ixD (eV 0) (eC (.int 0))) (eC (.str "loop"))))
    (sSeq (sSet 3 (e2 ixD (eV 2) (eC (.int 0))))
    (sSeq (sFor (.one 5) (iRng (aCons (e2 addD (eV 1) (eC (.int 1))) aNil))
    (l1__law_words s__law_words))
    (sRet (eV 3))))
    sNext)
    (sSeq (sSet 3 (e2 ixD (eV 2) (eC (.int 0))))
    (sSeq (sFor (.one 4) (iSeq (eSl (eV 2) (oSome (eC (.int 1))) oNone))
    (l4__law_words s__law_words))
    (sRet (eV 3))))))))
def m__law_words : Nat → List D → R D
  | 0 => fun _ => .bad
  | n + 1 => runF 10 (b__law_words (m__law_words n))

/-! ### _law_names -/
def c1__law_names (s__law_names : List D → R D) : Tv :=
    (tB1 (e2 ninD (eV 3) (eV 1)))
def y1__law_names (s__law_names : List D → R D) : Ev :=
    (eV 3)
def l1__law_names (s__law_names : List D → R D) : Sv :=
    (sSet 1 (e2 addD (eV 1) (eN (nLc [3] (.one 3) (iSeq (eCall s__law_names (aCons (eV 2) aNil))) (c1__law_names s__law_names) (y1__law_names s__law_names)))))
def b__law_names (s__law_names : List D → R D) : Sv :=
    (sSeq (sIf (tB1 (e2 eqD (e2 ixD (eV 0) (eC (.int 0))) (eC (.str "do"))))
    (sRet (eLst (aCons (e2 ixD (eV 0) (eC (.int 1))) aNil)))
    sNext)
    (sSeq (sSet 1 (eLst aNil))
    (sSeq (sFor (.one 2) (iSeq (eSl (eV 0) (oSome (eC (.int 1))) oNone))
    (l1__law_names s__law_names))
    (sRet (eB sortGD (aCons (eV 1) aNil))))))
def m__law_names : Nat → List D → R D
  | 0 => fun _ => .bad
  | n + 1 => runF 4 (b__law_names (m__law_names n))

/-! ### _law_refusal -/
def b__law_refusal : Sv :=
    (sSeq (sTryM [(subL [("TooMany", false), ("BadTree", true), ("BadWord", false)], (sRet (eC (.str "tree")))), (subL [("TooMany", false), ("BadTree", false), ("BadWord", true)], (sRet (eC (.str "word"))))] (sIf (tB1 (e2 eqD (eV 2) (eC (.int 0))))
    (sDrop (eCall m_is_word_of (aCons (eV 0) (aCons (eV 1) aNil))))
    (sIf (tB1 (e2 eqD (eV 2) (eC (.int 1))))
    (sDrop (eCall m_words_of (aSnoc (aCons (eV 0) (aCons (eC (.int 1)) aNil)) (eC (.int 500)))))
    (sDrop (eCall m_deeds_of (aCons (eV 0) aNil))))))
    (sRet (eC (.str "none"))))
def m__law_refusal : List D → R D := runF 3 b__law_refusal

/-! ### law -/
def y1_law : Ev :=
    (eTup (aCons (eB lenD (aCons (eV 10) aNil)) (aCons (eV 10) aNil)))
def y2_law : Ev :=
    (eV 10)
def l1_law : Sv :=
    (sSet 6 (eTup (aCons (eC (.str "seq")) (aCons (eV 6) (aCons (eTup (aCons (eC (.str "skip")) aNil)) aNil)))))
def y3_law : Ev :=
    (e2 ixD (eC (.str "abc")) (e2 modD (e2 ixD (eV 3) (e2 addD (eC (.int 4)) (eV 13))) (eC (.int 3))))
def b_law : Sv :=
    (sSeq (sSet 1 (eCall m__law_draws (aCons (eCall m__law_cell (aCons (eV 0) (aCons (eC (.int 0)) aNil))) (aCons (eC (.int 60)) aNil))))
    (sSeq (sSet 2 (eCall (m__law_tree 60) (aCons (eV 1) (aCons (eC (.int 0)) (aCons (eC (.int 0)) aNil)))))
    (sSeq (sSet 3 (eCall m__law_draws (aCons (eCall m__law_cell (aCons (eV 0) (aCons (eC (.int 1)) aNil))) (aCons (eC (.int 12)) aNil))))
    (sSeq (sSet 4 (e2 modD (e2 ixD (eV 3) (eC (.int 0))) (eC (.int 5))))
    (sSeq (sSet 5 (eN (nLc [12, 10] (.all [12, 10]) (iSeq (eB sortGD (aCons (eN (nLc [10] (.one 10) (iSeq (eCall (m__law_words 60) (aCons (eV 2) (aCons (eV 4) aNil)))) tYesD y1_law)) aNil))) tYesD y2_law)))
    (sSeq (sSet 6 (eV 2))
    (sSeq (sFor (.one 7) (iRng (aCons (eC (.int 7)) aNil))
    l1_law)
    (sSeq (sSet 8 (e2 addD (eTup (aCons (eC (.str "xor")) aNil)) (e2 repD (eTup (aCons (eTup (aCons (eC (.str "do")) (aCons (eC (.str "a")) aNil))) aNil)) (eC (.int 25)))))
    (sSeq (sSet 9 (eTup (aCons (eC .non) (aCons (eTup aNil) (aCons (eTup (aCons (eC (.str "do")) aNil)) (aCons (eTup (aCons (eC (.str "do")) (aCons (eC (.str "A")) aNil))) (aCons (eTup (aCons (eC (.str "skip")) (aCons (eC (.int 1)) aNil))) (aCons (eTup (aCons (eC (.str "seq")) (aCons (eV 2) aNil))) (aCons (eTup (aCons (eC (.str "loop")) (aCons (eV 2) aNil))) (aCons (eTup (aCons (eC (.str "loop")) (aCons (eV 2) (aCons (eV 2) (aCons (eV 2) aNil))))) (aCons (eTup (aCons (eC (.str "none")) (aCons (eV 2) (aCons (eV 2) aNil)))) (aCons (eLst (aCons (eC (.str "do")) (aCons (eC (.str "a")) aNil))) (aCons (eV 6) (aCons (eV 8) (aCons (eTup (aCons (eC (.str "and")) (aCons (eV 2) (aCons (eC .non) aNil)))) (aCons (eTup (aCons (eC (.str "do")) (aCons (eC (.str "a")) (aCons (eC (.str "b")) aNil)))) (aCons (eTup (aCons (eC (.int 1)) aNil)) aNil)))))))))))))))))
    (sSeq (sIf (tOr' (tB1 (e2 neD (eCall m__law_refusal (aCons (e2 ixD (eV 9) (e2 modD (e2 ixD (eV 3) (eC (.int 1))) (eC (.int 15)))) (aCons (eC .non) (aCons (e2 modD (e2 ixD (eV 3) (eC (.int 2))) (eC (.int 3))) aNil)))) (eC (.str "tree")))) (tB1 (e2 neD (eCall m__law_refusal (aCons (eV 2) (aCons (e2 ixD (eTup (aCons (eC .non) (aCons (eLst (aCons (eC (.str "a")) aNil)) (aCons (eTup (aCons (eC (.str "A")) aNil)) (aCons (eTup (aCons (eC (.int 1)) aNil)) (aCons (eC (.str "a")) aNil)))))) (e2 modD (e2 ixD (eV 3) (eC (.int 3))) (eC (.int 5)))) (aCons (eC (.int 0)) aNil)))) (eC (.str "word")))))
    (sRet (eC (.bl false)))
    sNext)
    (sSeq (sIf (tB1 (e2 neD (eCall m_deeds_of (aCons (eV 2) aNil)) (eB tupleD (aCons (eCall (m__law_names 60) (aCons (eV 2) aNil)) aNil))))
    (sRet (eC (.bl false)))
    sNext)
    (sSeq (sSet 10 (eB tupleD (aCons (eN (nLc [13] (.one 13) (iRng (aCons (eV 4) aNil)) tYesD y3_law)) aNil)))
    (sSeq (sIf (tB1 (e2 neD (eCall m_is_word_of (aCons (eV 2) (aCons (eV 10) aNil))) (e2 inD (eV 10) (eV 5))))
    (sRet (eC (.bl false)))
    sNext)
    (sSeq (sIf (tAnd' (tB1 (e2 gtD (eB lenD (aCons (eV 5) aNil)) (eC (.int 0)))) (tNot' (tB1 (eCall m_is_word_of (aCons (eV 2) (aCons (e2 ixD (eV 5) (e2 modD (e2 ixD (eV 3) (eC (.int 9))) (eB lenD (aCons (eV 5) aNil)))) aNil))))))
    (sRet (eC (.bl false)))
    sNext)
    (sSeq (sIf (tB1 (e2 gtD (eB lenD (aCons (eV 5) aNil)) (eC (.int 60))))
    (sRet (eC (.bl true)))
    sNext)
    (sSeq (sIf (tB1 (e2 neD (eCall m_words_of (aSnoc (aCons (eV 2) (aCons (eV 4) aNil)) (eC (.int 500)))) (eB tupleD (aCons (eV 5) aNil))))
    (sRet (eC (.bl false)))
    sNext)
    (sSeq (sTry (subL [("TooMany", true), ("BadTree", false), ("BadWord", false)]) (sSet 11 (eCall m_words_of (aSnoc (aCons (eV 2) (aCons (eV 4) aNil)) (eB max2D (aCons (eC (.int 0)) (aCons (e2 subD (eB lenD (aCons (eV 5) aNil)) (eC (.int 1))) aNil))))))
    (sRet (eC (.bl true))))
    (sRet (eAnd (e2 eqD (eB lenD (aCons (eV 5) aNil)) (eC (.int 0))) (e2 eqD (eV 11) (eTup aNil)))))))))))))))))))))
def m_law : List D → R D := runF 14 b_law
end
end K89

set_option Elab.async false
set_option linter.all false
set_option maxRecDepth 100000
set_option maxHeartbeats 4000000
namespace K89
open PySem PySem.Spec PyProof.Rows L2 Dl Sh
def top (i : Nat) : Stmt := PySem.Challenge.pw_tokenworks_k89_words_of_trees.main.body.getD i (.Pass ⟨0, 0, 0, 0⟩)
/-! ### the facts that the head is to tell -/
def d_fn_is_name : He.DefD := ⟨("is_name", none), "is_name", "is_name", defArgs (top 8), defBody (top 8), defScope (top 8), [], []⟩
def d_fn_check_part : He.DefD := ⟨("check_part", none), "check_part", "check_part", defArgs (top 14), defBody (top 14), defScope (top 14), [], []⟩
def d_fn_leaves_of : He.DefD := ⟨("leaves_of", none), "leaves_of", "leaves_of", defArgs (top 15), defBody (top 15), defScope (top 15), [], []⟩
def d_fn_check_tree : He.DefD := ⟨("check_tree", none), "check_tree", "check_tree", defArgs (top 13), defBody (top 13), defScope (top 13), [], []⟩
def d_fn_deeds_of : He.DefD := ⟨("deeds_of", none), "deeds_of", "deeds_of", defArgs (top 16), defBody (top 16), defScope (top 16), [], []⟩
def d_fn_is_nullable : He.DefD := ⟨("is_nullable", none), "is_nullable", "is_nullable", defArgs (top 17), defBody (top 17), defScope (top 17), [], []⟩
def d_fn_and_of : He.DefD := ⟨("and_of", none), "and_of", "and_of", defArgs (top 21), defBody (top 21), defScope (top 21), [], []⟩
def d_fn_without_twins : He.DefD := ⟨("without_twins", none), "without_twins", "without_twins", defArgs (top 19), defBody (top 19), defScope (top 19), [], []⟩
def d_fn_seq_of : He.DefD := ⟨("seq_of", none), "seq_of", "seq_of", defArgs (top 20), defBody (top 20), defScope (top 20), [], []⟩
def d_fn_seq_rests : He.DefD := ⟨("seq_rests", none), "seq_rests", "seq_rests", defArgs (top 22), defBody (top 22), defScope (top 22), [], []⟩
def d_fn_loop_rests : He.DefD := ⟨("loop_rests", none), "loop_rests", "loop_rests", defArgs (top 24), defBody (top 24), defScope (top 24), [], []⟩
def d_fn_and_rests : He.DefD := ⟨("and_rests", none), "and_rests", "and_rests", defArgs (top 23), defBody (top 23), defScope (top 23), [], []⟩
def d_fn_rests : He.DefD := ⟨("rests", none), "rests", "rests", defArgs (top 18), defBody (top 18), defScope (top 18), [], []⟩
def d_fn_check_names : He.DefD := ⟨("check_names", none), "check_names", "check_names", defArgs (top 25), defBody (top 25), defScope (top 25), [], []⟩
def d_fn_is_word_of : He.DefD := ⟨("is_word_of", none), "is_word_of", "is_word_of", defArgs (top 26), defBody (top 26), defScope (top 26), [], []⟩
def d_fn_words_of : He.DefD := ⟨("words_of", none), "words_of", "words_of", defArgs (top 27), defBody (top 27), defScope (top 27), [], [("most", .int (500))]⟩
def d_fn__law_cell : He.DefD := ⟨("_law_cell", none), "_law_cell", "_law_cell", defArgs (top 29), defBody (top 29), defScope (top 29), [], []⟩
def d_fn__law_draws : He.DefD := ⟨("_law_draws", none), "_law_draws", "_law_draws", defArgs (top 30), defBody (top 30), defScope (top 30), [], []⟩
def d_fn__law_tree : He.DefD := ⟨("_law_tree", none), "_law_tree", "_law_tree", defArgs (top 31), defBody (top 31), defScope (top 31), [], []⟩
def d_fn__law_mixed : He.DefD := ⟨("_law_mixed", none), "_law_mixed", "_law_mixed", defArgs (top 32), defBody (top 32), defScope (top 32), [], []⟩
def d_fn__law_once : He.DefD := ⟨("_law_once", none), "_law_once", "_law_once", defArgs (top 33), defBody (top 33), defScope (top 33), [], []⟩
def d_fn__law_joined : He.DefD := ⟨("_law_joined", none), "_law_joined", "_law_joined", defArgs (top 34), defBody (top 34), defScope (top 34), [], []⟩
def d_fn__law_words : He.DefD := ⟨("_law_words", none), "_law_words", "_law_words", defArgs (top 35), defBody (top 35), defScope (top 35), [], []⟩
def d_fn__law_names : He.DefD := ⟨("_law_names", none), "_law_names", "_law_names", defArgs (top 36), defBody (top 36), defScope (top 36), [], []⟩
def d_fn__law_refusal : He.DefD := ⟨("_law_refusal", none), "_law_refusal", "_law_refusal", defArgs (top 37), defBody (top 37), defScope (top 37), [], []⟩
def d_fn_law : He.DefD := ⟨("law", none), "law", "law", defArgs (top 38), defBody (top 38), defScope (top 38), [], []⟩
def fn : List He.DefD := [d_fn_is_name, d_fn_check_part, d_fn_leaves_of, d_fn_check_tree, d_fn_deeds_of, d_fn_is_nullable, d_fn_and_of, d_fn_without_twins, d_fn_seq_of, d_fn_seq_rests, d_fn_loop_rests, d_fn_and_rests, d_fn_rests, d_fn_check_names, d_fn_is_word_of, d_fn_words_of, d_fn__law_cell, d_fn__law_draws, d_fn__law_tree, d_fn__law_mixed, d_fn__law_once, d_fn__law_joined, d_fn__law_words, d_fn__law_names, d_fn__law_refusal, d_fn_law]
def fa : List He.Fa := [.free "isinstance", .free "str", .free "len", .str "LETTERS" "abcdefghijklmnopqrstuvwxyz", .str "SIGNS" "abcdefghijklmnopqrstuvwxyz0123456789", .free "all", .glo "is_name", .free "tuple", .int "MOST_DEEP" (6), .glo "BadTree", .exc "BadTree", .glo "KINDS", .glo "check_part", .glo "leaves_of", .int "MOST_LEAVES" (24), .glo "check_tree", .free "sorted", .glo "deeds_of", .free "any", .glo "is_nullable", .glo "and_of", .glo "without_twins", .glo "seq_of", .free "range", .glo "rests", .glo "seq_rests", .glo "and_rests", .glo "loop_rests", .glo "BadWord", .exc "BadWord", .glo "check_names", .glo "is_word_of", .glo "TooMany", .exc "TooMany", .glo "words_of", .glo "_law_cell", .free "int", .glo "_law_draws", .glo "_law_tree", .glo "_law_mixed", .free "list", .glo "_law_once", .glo "_law_joined", .glo "_law_words", .glo "_law_names", .exm "BadWord" "BadWord" true, .exm "BadTree" "BadWord" false, .exm "TooMany" "BadWord" false, .exm "BadWord" "BadTree" false, .exm "BadTree" "BadTree" true, .exm "TooMany" "BadTree" false, .glo "_law_refusal", .exm "BadWord" "TooMany" false, .exm "BadTree" "TooMany" false, .exm "TooMany" "TooMany" true, .free "max", .glo "law"]
def tg : List He.Defn := [("is_name", none), ("is_nullable", none), ("check_names", none), ("is_word_of", none), ("words_of", none)]
def tl : List (He.Defn × (Nat × Nat) × Str) := [(("words_of", none), (137, 34), (("words_of" : Str) ++ ".<locals>.") ++ "<lambda>")]
def tf : List He.Defn := tg ++ tl.map (·.1)
def ex (K : PySem.W.Frag) : Bool := ((He.tupB K "KINDS" [.str "seq", .str "xor", .str "and"] && ndB K "KINDS")) && apartT K tg tl
abbrev Fx (K : PySem.W.Frag) (mg : Str → Option Value) (base : Heap) : Prop := Wd fa fn tf ex K mg base
section
variable {P : Program} {w : World} {K : PySem.W.Frag} {mg : Str → Option Value} {base : Heap}
theorem lap (E : Fx K mg base) : apartT K tg tl = true := and_r E.more
theorem rep_KINDS (E : Fx K mg base) : ∀ G, Rep ⟨K, P, w⟩ G (.tup [.str "seq", .str "xor", .str "and"]) (.ref (He.ga K "KINDS")) := fun G => ⟨_, _, rfl, ⟨He.tupB_ok (and_l (and_l E.more)) G, ndB_ok (and_r (and_l E.more)) G⟩, ⟨_, _, rfl, rfl, ⟨_, _, rfl, rfl, ⟨_, _, rfl, rfl, rfl⟩⟩⟩⟩

/-! ### is_name -/
abbrev N_is_name : List Str := ["value", "sign"]
theorem sc_is_name : FnScope N_is_name ["value"] (defScope (top 8)) := ⟨rfl, rfl, rfl, by decide +kernel, rfl, by decide +kernel, by decide +kernel⟩
theorem can_is_name (E : Fx K mg base) : Can P w K mg base (MoL K tg tl) 2 "is_name" 1 m_is_name := by
  refine can_mk (ps := ["value"]) (E.fun_ 0 (d := d_fn_is_name)) (E.glo 6) sc_is_name (fun _ _ _ _ _ _ us hl => match us, hl with | [_], _ => rfl) fun A outer s H E0 hr => ?_
  have tk := takes_of (X := (cxOf (L2.CX P w) P w K mg base N_is_name "is_name" (defScope (top 8)) (He.fAd K ("is_name", none)) (.ref (He.codeOf K ("is_name", none))) A outer s H E0)) rfl rfl rfl rfl
  have hp := passes_of (X := (cxOf (L2.CX P w) P w K mg base N_is_name "is_name" (defScope (top 8)) (He.fAd K ("is_name", none)) (.ref (He.codeOf K ("is_name", none))) A outer s H E0)) rfl
  exact (dss_cons (ds_if (dt_w (dw_or (dt_not (dt_val (de_isi rfl (E.fre 0) bt_isinstance rfl (E.fre 1) bt_str (dv 0)))) (dw_or (tLt (bLen (E.fre 2) (dv 0)) de_int) (dw_or (tGt (bLen (E.fre 2) (dv 0)) de_int) (dw_or1 (tNin hr (de_ix (dv 0) de_int) (de_gstr (E.str 3))))))))
    (dss_one (ds_ret de_bl))
    dss_nil)
    (dss_one (ds_ret (de_allG [(("sign" : Str), 1)] hr rfl (E.fre 5) bt_all (E.tab (p := ("is_name", none)) (by unfold tf tg tl; simp)) (gen_of (q := ("is_name", none)) (lap E) (by unfold tg; simp) (by decide +kernel)) rfl rfl sc_is_name.nd (gn_of (N := N_is_name) (sc := defScope (top 8)) (own := [(("sign" : Str), 1)]) (by decide +kernel)) (by decide) (di_seq (dv 0)) (fun _ _ _ _ _ _ _ _ => (dg_one 1 sc_is_name.nd)) (fun _ _ _ _ _ _ _ _ hr1 => dts_nil) (fun _ _ _ _ _ _ _ _ hr1 => (cIn hr1 (dv 1) (de_gstr (E.str 4))))))))

/-! ### check_part -/
abbrev N_check_part : List Str := ["tree", "deep", "part"]
theorem sc_check_part : FnScope N_check_part ["tree", "deep"] (defScope (top 14)) := ⟨rfl, rfl, rfl, by decide +kernel, rfl, by decide +kernel, by decide +kernel⟩
theorem can_check_part (E : Fx K mg base) : ∀ j : Nat, Can P w K mg base (MoL K tg tl) (2 + j) "check_part" 2 (m_check_part j)
  | 0 => can_bad (st := (top 14)) (ps := ["tree", "deep"]) (E.fun_ 1 (d := d_fn_check_part)) (E.glo 12) (fun _ _ _ _ _ _ us hl => match us, hl with | [_, _], _ => rfl)
  | j + 1 => by
    have ih_check_part := can_check_part E j
    refine can_mk (ps := ["tree", "deep"]) (E.fun_ 1 (d := d_fn_check_part)) (E.glo 12) sc_check_part (fun _ _ _ _ _ _ us hl => match us, hl with | [_, _], _ => rfl) fun A outer s H E0 hr => ?_
    replace hr := (show Room (2 + j) _ from hr)
    have tk := takes_of (X := (cxOf (L2.CX P w) P w K mg base N_check_part "check_part" (defScope (top 14)) (He.fAd K ("check_part", none)) (.ref (He.codeOf K ("check_part", none))) A outer s H E0)) rfl rfl rfl rfl
    have hp := passes_of (X := (cxOf (L2.CX P w) P w K mg base N_check_part "check_part" (defScope (top 14)) (He.fAd K ("check_part", none)) (.ref (He.codeOf K ("check_part", none))) A outer s H E0)) rfl
    exact (dss_cons (ds_if (dt_w (dw_or (dt_not (dt_val (de_isi rfl (E.fre 0) bt_isinstance rfl (E.fre 7) bt_tuple (dv 0)))) (dw_or (tLt (bLen (E.fre 2) (dv 0)) de_int) (dw_or (dt_not (dt_val (de_isi rfl (E.fre 0) bt_isinstance rfl (E.fre 1) bt_str (de_ix (dv 0) de_int)))) (dw_or1 (tGt (dv 1) (de_gint (E.int 8))))))))
    (dss_one (ds_raiseE (c := "BadTree") tk (E.glo 9) (E.exc 10)))
    dss_nil)
    (dss_one (ds_if (tEq hr (de_ix (dv 0) de_int) de_str)
    (dss_one (ds_if (dt_w (dw_or (tNe hr (bLen (E.fre 2) (dv 0)) de_int) (dw_or1 (dt_not (dt_val (de_callC (can_is_name E) (hr.mono (by omega)) tk rfl (da_cons (de_ix (dv 0) de_int) da_nil) (hn_cons hn_nil)))))))
    (dss_one (ds_raiseE (c := "BadTree") tk (E.glo 9) (E.exc 10)))
    dss_nil))
    (dss_one (ds_if (tEq hr (de_ix (dv 0) de_int) de_str)
    (dss_one (ds_if (tNe hr (bLen (E.fre 2) (dv 0)) de_int)
    (dss_one (ds_raiseE (c := "BadTree") tk (E.glo 9) (E.exc 10)))
    dss_nil))
    (dss_one (ds_if (dt_w (dw_and (tIn hr (de_ix (dv 0) de_int) (de_gref (E.glo 11) (rep_KINDS E))) (dw_and1 (tGe (bLen (E.fre 2) (dv 0)) de_int))))
    (dss_one (ds_for hp rfl (di_seq (de_slice (dv 0) (do_some de_int) do_none)) (dg_one 2 sc_check_part.nd)
    (dss_one (ds_drop (de_callC ih_check_part (hr.mono (by omega)) tk rfl (da_cons (dv 2) (da_cons (xAdd (dv 1) de_int) da_nil)) (hn_cons (hn_cons hn_nil)))))))
    (dss_one (ds_if (dt_w (dw_and (tEq hr (de_ix (dv 0) de_int) de_str) (dw_and1 (tEq hr (bLen (E.fre 2) (dv 0)) de_int))))
    (dss_cons (ds_drop (de_callC ih_check_part (hr.mono (by omega)) tk rfl (da_cons (de_ix (dv 0) de_int) (da_cons (xAdd (dv 1) de_int) da_nil)) (hn_cons (hn_cons hn_nil))))
    (dss_one (ds_drop (de_callC ih_check_part (hr.mono (by omega)) tk rfl (da_cons (de_ix (dv 0) de_int) (da_cons (xAdd (dv 1) de_int) da_nil)) (hn_cons (hn_cons hn_nil))))))
    (dss_one (ds_raiseE (c := "BadTree") tk (E.glo 9) (E.exc 10))))))))))))

/-! ### leaves_of -/
abbrev N_leaves_of : List Str := ["tree", "found", "part"]
theorem sc_leaves_of : FnScope N_leaves_of ["tree"] (defScope (top 15)) := ⟨rfl, rfl, rfl, by decide +kernel, rfl, by decide +kernel, by decide +kernel⟩
theorem can_leaves_of (E : Fx K mg base) : ∀ j : Nat, Can P w K mg base (MoL K tg tl) (1 + j) "leaves_of" 1 (m_leaves_of j)
  | 0 => can_bad (st := (top 15)) (ps := ["tree"]) (E.fun_ 2 (d := d_fn_leaves_of)) (E.glo 13) (fun _ _ _ _ _ _ us hl => match us, hl with | [_], _ => rfl)
  | j + 1 => by
    have ih_leaves_of := can_leaves_of E j
    refine can_mk (ps := ["tree"]) (E.fun_ 2 (d := d_fn_leaves_of)) (E.glo 13) sc_leaves_of (fun _ _ _ _ _ _ us hl => match us, hl with | [_], _ => rfl) fun A outer s H E0 hr => ?_
    replace hr := (show Room (1 + j) _ from hr)
    have tk := takes_of (X := (cxOf (L2.CX P w) P w K mg base N_leaves_of "leaves_of" (defScope (top 15)) (He.fAd K ("leaves_of", none)) (.ref (He.codeOf K ("leaves_of", none))) A outer s H E0)) rfl rfl rfl rfl
    have hp := passes_of (X := (cxOf (L2.CX P w) P w K mg base N_leaves_of "leaves_of" (defScope (top 15)) (He.fAd K ("leaves_of", none)) (.ref (He.codeOf K ("leaves_of", none))) A outer s H E0)) rfl
    exact (dss_cons (ds_if (tEq hr (de_ix (dv 0) de_int) de_str)
    (dss_one (ds_ret (de_lst (da_cons (de_ix (dv 0) de_int) da_nil))))
    dss_nil)
    (dss_cons (ds_if (tEq hr (de_ix (dv 0) de_int) de_str)
    (dss_one (ds_ret (de_lst (da_cons de_non da_nil))))
    dss_nil)
    (dss_cons (ds_set 1 sc_leaves_of.nd (de_lst da_nil))
    (dss_cons (ds_for hp rfl (di_seq (de_slice (dv 0) (do_some de_int) do_none)) (dg_one 2 sc_leaves_of.nd)
    (dss_one (ds_set 1 sc_leaves_of.nd (xAdd (dv 1) (de_callC ih_leaves_of (hr.mono (by omega)) tk rfl (da_cons (dv 2) da_nil) (hn_cons hn_nil))))))
    (dss_one (ds_ret (dv 1)))))))

/-! ### check_tree -/
abbrev N_check_tree : List Str := ["tree"]
theorem sc_check_tree : FnScope N_check_tree ["tree"] (defScope (top 13)) := ⟨rfl, rfl, rfl, by decide +kernel, rfl, by decide +kernel, by decide +kernel⟩
theorem can_check_tree (E : Fx K mg base) : Can P w K mg base (MoL K tg tl) 63 "check_tree" 1 m_check_tree := by
  refine can_mk (ps := ["tree"]) (E.fun_ 3 (d := d_fn_check_tree)) (E.glo 15) sc_check_tree (fun _ _ _ _ _ _ us hl => match us, hl with | [_], _ => rfl) fun A outer s H E0 hr => ?_
  have tk := takes_of (X := (cxOf (L2.CX P w) P w K mg base N_check_tree "check_tree" (defScope (top 13)) (He.fAd K ("check_tree", none)) (.ref (He.codeOf K ("check_tree", none))) A outer s H E0)) rfl rfl rfl rfl
  have hp := passes_of (X := (cxOf (L2.CX P w) P w K mg base N_check_tree "check_tree" (defScope (top 13)) (He.fAd K ("check_tree", none)) (.ref (He.codeOf K ("check_tree", none))) A outer s H E0)) rfl
  exact (dss_cons (ds_drop (de_callC (can_check_part E 60) (hr.mono (by omega)) tk rfl (da_cons (dv 0) (da_cons de_int da_nil)) (hn_cons (hn_cons hn_nil))))
    (dss_one (ds_if (tGt (bLen (E.fre 2) (de_callC (can_leaves_of E 60) (hr.mono (by omega)) tk rfl (da_cons (dv 0) da_nil) (hn_cons hn_nil))) (de_gint (E.int 14)))
    (dss_one (ds_raiseE (c := "BadTree") tk (E.glo 9) (E.exc 10)))
    dss_nil)))

/-! ### deeds_of -/
abbrev N_deeds_of : List Str := ["tree", "name"]
theorem sc_deeds_of : FnScope N_deeds_of ["tree"] (defScope (top 16)) := ⟨rfl, rfl, rfl, by decide +kernel, rfl, by decide +kernel, by decide +kernel⟩
theorem can_deeds_of (E : Fx K mg base) : Can P w K mg base (MoL K tg tl) 64 "deeds_of" 1 m_deeds_of := by
  refine can_mk (ps := ["tree"]) (E.fun_ 4 (d := d_fn_deeds_of)) (E.glo 17) sc_deeds_of (fun _ _ _ _ _ _ us hl => match us, hl with | [_], _ => rfl) fun A outer s H E0 hr => ?_
  have tk := takes_of (X := (cxOf (L2.CX P w) P w K mg base N_deeds_of "deeds_of" (defScope (top 16)) (He.fAd K ("deeds_of", none)) (.ref (He.codeOf K ("deeds_of", none))) A outer s H E0)) rfl rfl rfl rfl
  have hp := passes_of (X := (cxOf (L2.CX P w) P w K mg base N_deeds_of "deeds_of" (defScope (top 16)) (He.fAd K ("deeds_of", none)) (.ref (He.codeOf K ("deeds_of", none))) A outer s H E0)) rfl
  exact (dss_cons (ds_drop (de_callC (can_check_tree E) (hr.mono (by omega)) tk rfl (da_cons (dv 0) da_nil) (hn_cons hn_nil)))
    (dss_one (ds_ret (bTuple (E.fre 7) (bSortS hr (E.fre 16) (dn_sc [(("name" : Str), 1)] rfl sc_deeds_of.nd (di_seq (de_callC (can_leaves_of E 60) (hr.mono (by omega)) tk rfl (da_cons (dv 0) da_nil) (hn_cons hn_nil))) (blk_of (N := N_deeds_of) (sc := defScope (top 16)) (own := [(("name" : Str), 1)]) (by decide +kernel)) (by decide) (fun _ _ _ _ _ => (dg_one 1 sc_deeds_of.nd)) (fun _ _ _ _ _ => (dts_one (tIsn (dv 1) de_non))) (fun _ _ _ _ _ => (dv 1))))))))

/-! ### is_nullable -/
abbrev N_is_nullable : List Str := ["tree", "part"]
theorem sc_is_nullable : FnScope N_is_nullable ["tree"] (defScope (top 17)) := ⟨rfl, rfl, rfl, by decide +kernel, rfl, by decide +kernel, by decide +kernel⟩
theorem can_is_nullable (E : Fx K mg base) : ∀ j : Nat, Can P w K mg base (MoL K tg tl) (1 + 2 * j) "is_nullable" 1 (m_is_nullable j)
  | 0 => can_bad (st := (top 17)) (ps := ["tree"]) (E.fun_ 5 (d := d_fn_is_nullable)) (E.glo 19) (fun _ _ _ _ _ _ us hl => match us, hl with | [_], _ => rfl)
  | j + 1 => by
    have ih_is_nullable := can_is_nullable E j
    refine can_mk (ps := ["tree"]) (E.fun_ 5 (d := d_fn_is_nullable)) (E.glo 19) sc_is_nullable (fun _ _ _ _ _ _ us hl => match us, hl with | [_], _ => rfl) fun A outer s H E0 hr => ?_
    replace hr := (show Room (1 + 2 * j + 1) _ from hr)
    have tk := takes_of (X := (cxOf (L2.CX P w) P w K mg base N_is_nullable "is_nullable" (defScope (top 17)) (He.fAd K ("is_nullable", none)) (.ref (He.codeOf K ("is_nullable", none))) A outer s H E0)) rfl rfl rfl rfl
    have hp := passes_of (X := (cxOf (L2.CX P w) P w K mg base N_is_nullable "is_nullable" (defScope (top 17)) (He.fAd K ("is_nullable", none)) (.ref (He.codeOf K ("is_nullable", none))) A outer s H E0)) rfl
    exact (dss_cons (ds_if (tEq hr (de_ix (dv 0) de_int) de_str)
    (dss_one (ds_ret de_bl))
    dss_nil)
    (dss_cons (ds_if (tEq hr (de_ix (dv 0) de_int) de_str)
    (dss_one (ds_ret de_bl))
    dss_nil)
    (dss_cons (ds_if (tEq hr (de_ix (dv 0) de_int) de_str)
    (dss_one (ds_ret (de_anyG [(("part" : Str), 1)] hr rfl (E.fre 18) (E.tab (p := ("is_nullable", none)) (by unfold tf tg tl; simp)) (gen_of (q := ("is_nullable", none)) (lap E) (by unfold tg; simp) (by decide +kernel)) rfl rfl sc_is_nullable.nd (gn_of (N := N_is_nullable) (sc := defScope (top 17)) (own := [(("part" : Str), 1)]) (by decide +kernel)) (by decide) (di_seq (de_slice (dv 0) (do_some de_int) do_none)) (fun _ _ _ _ _ _ _ _ => (dg_one 1 sc_is_nullable.nd)) (fun _ _ _ _ _ _ _ _ hr1 => dts_nil) (fun _ _ _ _ _ _ _ _ hr1 => (de_callC ih_is_nullable (hr1.mono (by omega)) Dl.takes0 rfl (da_cons (dv 1) da_nil) (hn_cons hn_nil))))))
    dss_nil)
    (dss_cons (ds_if (tEq hr (de_ix (dv 0) de_int) de_str)
    (dss_one (ds_ret (de_callC ih_is_nullable (hr.mono (by omega)) tk rfl (da_cons (de_ix (dv 0) de_int) da_nil) (hn_cons hn_nil))))
    dss_nil)
    (dss_one (ds_ret (de_allG [(("part" : Str), 1)] hr rfl (E.fre 5) bt_all (E.tab (p := ("is_nullable", none)) (by unfold tf tg tl; simp)) (gen_of (q := ("is_nullable", none)) (lap E) (by unfold tg; simp) (by decide +kernel)) rfl rfl sc_is_nullable.nd (gn_of (N := N_is_nullable) (sc := defScope (top 17)) (own := [(("part" : Str), 1)]) (by decide +kernel)) (by decide) (di_seq (de_slice (dv 0) (do_some de_int) do_none)) (fun _ _ _ _ _ _ _ _ => (dg_one 1 sc_is_nullable.nd)) (fun _ _ _ _ _ _ _ _ hr1 => dts_nil) (fun _ _ _ _ _ _ _ _ hr1 => (de_callC ih_is_nullable (hr1.mono (by omega)) Dl.takes0 rfl (da_cons (dv 1) da_nil) (hn_cons hn_nil))))))))))

/-! ### and_of -/
abbrev N_and_of : List Str := ["parts", "kept", "part"]
theorem sc_and_of : FnScope N_and_of ["parts"] (defScope (top 21)) := ⟨rfl, rfl, rfl, by decide +kernel, rfl, by decide +kernel, by decide +kernel⟩
theorem can_and_of (E : Fx K mg base) : Can P w K mg base (MoL K tg tl) 1 "and_of" 1 m_and_of := by
  refine can_mk (ps := ["parts"]) (E.fun_ 6 (d := d_fn_and_of)) (E.glo 20) sc_and_of (fun _ _ _ _ _ _ us hl => match us, hl with | [_], _ => rfl) fun A outer s H E0 hr => ?_
  have tk := takes_of (X := (cxOf (L2.CX P w) P w K mg base N_and_of "and_of" (defScope (top 21)) (He.fAd K ("and_of", none)) (.ref (He.codeOf K ("and_of", none))) A outer s H E0)) rfl rfl rfl rfl
  have hp := passes_of (X := (cxOf (L2.CX P w) P w K mg base N_and_of "and_of" (defScope (top 21)) (He.fAd K ("and_of", none)) (.ref (He.codeOf K ("and_of", none))) A outer s H E0)) rfl
  exact (dss_cons (by first | exact (ds_setLc 1 [(("part" : Str), 2)] rfl sc_and_of.nd (di_seq (dv 0)) (blk_of (N := N_and_of) (sc := defScope (top 21)) (own := [(("part" : Str), 2)]) (by decide +kernel)) (by decide) (fun _ _ _ _ _ => (dg_one 2 sc_and_of.nd)) (fun _ _ _ _ _ => (dts_one (tNe hr (de_ix (dv 2) de_int) de_str))) (fun _ _ _ _ _ => (dv 2))) | exact (ds_set 1 sc_and_of.nd (de_n (dn_lc [(("part" : Str), 2)] rfl sc_and_of.nd (di_seq (dv 0)) (blk_of (N := N_and_of) (sc := defScope (top 21)) (own := [(("part" : Str), 2)]) (by decide +kernel)) (by decide) (fun _ _ _ _ _ => (dg_one 2 sc_and_of.nd)) (fun _ _ _ _ _ => (dts_one (tNe hr (de_ix (dv 2) de_int) de_str))) (fun _ _ _ _ _ => (dv 2))))))
    (dss_cons (ds_if (tEq hr (bLen (E.fre 2) (dv 1)) de_int)
    (dss_one (ds_ret (de_tup (da_cons de_str da_nil))))
    dss_nil)
    (dss_one (ds_ret (de_if (tEq hr (bLen (E.fre 2) (dv 1)) de_int) (de_ix (dv 1) de_int) (xAdd (de_tup (da_cons de_str da_nil)) (bTuple (E.fre 7) (dv 1))))))))

/-! ### without_twins -/
abbrev N_without_twins : List Str := ["trees", "found", "tree"]
theorem sc_without_twins : FnScope N_without_twins ["trees"] (defScope (top 19)) := ⟨rfl, rfl, rfl, by decide +kernel, rfl, by decide +kernel, by decide +kernel⟩
theorem can_without_twins (E : Fx K mg base) : Can P w K mg base (MoL K tg tl) 1 "without_twins" 1 m_without_twins := by
  refine can_mk (ps := ["trees"]) (E.fun_ 7 (d := d_fn_without_twins)) (E.glo 21) sc_without_twins (fun _ _ _ _ _ _ us hl => match us, hl with | [_], _ => rfl) fun A outer s H E0 hr => ?_
  have tk := takes_of (X := (cxOf (L2.CX P w) P w K mg base N_without_twins "without_twins" (defScope (top 19)) (He.fAd K ("without_twins", none)) (.ref (He.codeOf K ("without_twins", none))) A outer s H E0)) rfl rfl rfl rfl
  have hp := passes_of (X := (cxOf (L2.CX P w) P w K mg base N_without_twins "without_twins" (defScope (top 19)) (He.fAd K ("without_twins", none)) (.ref (He.codeOf K ("without_twins", none))) A outer s H E0)) rfl
  exact (dss_cons (ds_own 1 sc_without_twins.nd (dn_lst da_nil))
    (dss_cons (ds_for hp rfl (di_seq (dv 0)) (dg_one 2 sc_without_twins.nd)
    (dss_one (ds_if (dt_bor 1 (tNin hr (dv 2) (dv 1)))
    (dss_one (ds_app 1 (dv 2)))
    dss_nil)))
    (dss_one (ds_frz 1 (ds_ret (dv 1))))))

/-! ### seq_of -/
abbrev N_seq_of : List Str := ["parts", "kept", "part", "one"]
theorem sc_seq_of : FnScope N_seq_of ["parts"] (defScope (top 20)) := ⟨rfl, rfl, rfl, by decide +kernel, rfl, by decide +kernel, by decide +kernel⟩
theorem can_seq_of (E : Fx K mg base) : Can P w K mg base (MoL K tg tl) 1 "seq_of" 1 m_seq_of := by
  refine can_mk (ps := ["parts"]) (E.fun_ 8 (d := d_fn_seq_of)) (E.glo 22) sc_seq_of (fun _ _ _ _ _ _ us hl => match us, hl with | [_], _ => rfl) fun A outer s H E0 hr => ?_
  have tk := takes_of (X := (cxOf (L2.CX P w) P w K mg base N_seq_of "seq_of" (defScope (top 20)) (He.fAd K ("seq_of", none)) (.ref (He.codeOf K ("seq_of", none))) A outer s H E0)) rfl rfl rfl rfl
  have hp := passes_of (X := (cxOf (L2.CX P w) P w K mg base N_seq_of "seq_of" (defScope (top 20)) (He.fAd K ("seq_of", none)) (.ref (He.codeOf K ("seq_of", none))) A outer s H E0)) rfl
  exact (dss_cons (ds_own 1 sc_seq_of.nd (dn_lst da_nil))
    (dss_cons (ds_for hp rfl (di_seq (dv 0)) (dg_one 2 sc_seq_of.nd)
    (dss_one (ds_if (tEq hr (de_ix (dv 2) de_int) de_str)
    (dss_one (ds_frz 1 (ds_own 1 sc_seq_of.nd (dn_cat (dv 1) (de_n (dn_lc [(("one" : Str), 3)] rfl sc_seq_of.nd (di_seq (de_slice (dv 2) (do_some de_int) do_none)) (blk_of (N := N_seq_of) (sc := defScope (top 20)) (own := [(("one" : Str), 3)]) (by decide +kernel)) (by decide) (fun _ _ _ _ _ => (dg_one 3 sc_seq_of.nd)) (fun _ _ _ _ _ => dts_nil) (fun _ _ _ _ _ => (dv 3))))))))
    (dss_one (ds_if (tNe hr (de_ix (dv 2) de_int) de_str)
    (dss_one (ds_app 1 (dv 2)))
    dss_nil)))))
    (dss_cons (ds_frz 1 (ds_if (tEq hr (bLen (E.fre 2) (dv 1)) de_int)
    (dss_one (ds_ret (de_tup (da_cons de_str da_nil))))
    dss_nil))
    (dss_one (ds_ret (de_if (tEq hr (bLen (E.fre 2) (dv 1)) de_int) (de_ix (dv 1) de_int) (xAdd (de_tup (da_cons de_str da_nil)) (bTuple (E.fre 7) (dv 1)))))))))

/-! ### rests -/
abbrev N_rests : List Str := ["tree", "name", "part", "one"]
theorem sc_rests : FnScope N_rests ["tree", "name"] (defScope (top 18)) := ⟨rfl, rfl, rfl, by decide +kernel, rfl, by decide +kernel, by decide +kernel⟩

/-! ### seq_rests -/
abbrev N_seq_rests : List Str := ["tree", "name", "found", "k", "one"]
theorem sc_seq_rests : FnScope N_seq_rests ["tree", "name"] (defScope (top 22)) := ⟨rfl, rfl, rfl, by decide +kernel, rfl, by decide +kernel, by decide +kernel⟩

/-! ### and_rests -/
abbrev N_and_rests : List Str := ["tree", "name", "found", "k", "one"]
theorem sc_and_rests : FnScope N_and_rests ["tree", "name"] (defScope (top 23)) := ⟨rfl, rfl, rfl, by decide +kernel, rfl, by decide +kernel, by decide +kernel⟩

/-! ### loop_rests -/
abbrev N_loop_rests : List Str := ["tree", "name", "more", "found", "one"]
theorem sc_loop_rests : FnScope N_loop_rests ["tree", "name"] (defScope (top 24)) := ⟨rfl, rfl, rfl, by decide +kernel, rfl, by decide +kernel, by decide +kernel⟩
theorem can_rests_seq_rests_and_rests_loop_rests_grp (E : Fx K mg base) : ∀ j : Nat, (Can P w K mg base (MoL K tg tl) (121 + j) "rests" 2 (m_rests j)) ∧ (Can P w K mg base (MoL K tg tl) (121 + j) "seq_rests" 2 (m_seq_rests j)) ∧ (Can P w K mg base (MoL K tg tl) (121 + j) "and_rests" 2 (m_and_rests j)) ∧ (Can P w K mg base (MoL K tg tl) (121 + j) "loop_rests" 2 (m_loop_rests j))
  | 0 => ⟨can_bad (st := (top 18)) (ps := ["tree", "name"]) (E.fun_ 12 (d := d_fn_rests)) (E.glo 24) (fun _ _ _ _ _ _ us hl => match us, hl with | [_, _], _ => rfl), can_bad (st := (top 22)) (ps := ["tree", "name"]) (E.fun_ 9 (d := d_fn_seq_rests)) (E.glo 25) (fun _ _ _ _ _ _ us hl => match us, hl with | [_, _], _ => rfl), can_bad (st := (top 23)) (ps := ["tree", "name"]) (E.fun_ 11 (d := d_fn_and_rests)) (E.glo 26) (fun _ _ _ _ _ _ us hl => match us, hl with | [_, _], _ => rfl), can_bad (st := (top 24)) (ps := ["tree", "name"]) (E.fun_ 10 (d := d_fn_loop_rests)) (E.glo 27) (fun _ _ _ _ _ _ us hl => match us, hl with | [_, _], _ => rfl)⟩
  | j + 1 => by
    obtain ⟨ih_rests, ih_seq_rests, ih_and_rests, ih_loop_rests⟩ := can_rests_seq_rests_and_rests_loop_rests_grp E j
    refine ⟨?_, ?_, ?_, ?_⟩
    · refine can_mk (ps := ["tree", "name"]) (E.fun_ 12 (d := d_fn_rests)) (E.glo 24) sc_rests (fun _ _ _ _ _ _ us hl => match us, hl with | [_, _], _ => rfl) fun A outer s H E0 hr => ?_
      replace hr := (show Room (121 + j) _ from hr)
      have tk := takes_of (X := (cxOf (L2.CX P w) P w K mg base N_rests "rests" (defScope (top 18)) (He.fAd K ("rests", none)) (.ref (He.codeOf K ("rests", none))) A outer s H E0)) rfl rfl rfl rfl
      have hp := passes_of (X := (cxOf (L2.CX P w) P w K mg base N_rests "rests" (defScope (top 18)) (He.fAd K ("rests", none)) (.ref (He.codeOf K ("rests", none))) A outer s H E0)) rfl
      exact (dss_cons (ds_if (tEq hr (de_ix (dv 0) de_int) de_str)
    (dss_one (ds_ret (de_if (tEq hr (de_ix (dv 0) de_int) (dv 1)) (de_lst (da_cons (de_tup (da_cons de_str da_nil)) da_nil)) (de_lst da_nil))))
    dss_nil)
    (dss_cons (ds_if (tEq hr (de_ix (dv 0) de_int) de_str)
    (dss_one (ds_ret (de_lst da_nil)))
    dss_nil)
    (dss_cons (ds_if (tEq hr (de_ix (dv 0) de_int) de_str)
    (dss_one (ds_ret (de_callC (can_without_twins E) (hr.mono (by omega)) tk rfl (da_cons (de_n (dn_lc2 [(("part" : Str), 2), (("one" : Str), 3)] [3] rfl sc_rests.nd (di_seq (de_slice (dv 0) (do_some de_int) do_none)) (blk_of (N := N_rests) (sc := defScope (top 18)) (own := [(("part" : Str), 2), (("one" : Str), 3)]) (by decide +kernel)) (by decide) (by decide) (by decide) (fun _ _ _ _ _ => (dg_one 2 sc_rests.nd)) (fun _ _ _ _ _ => dts_nil) (fun _ _ _ _ _ => (di_seq (de_callC ih_rests (hr.mono (by omega)) Dl.takes0 rfl (da_cons (dv 2) (da_cons (dv 1) da_nil)) (hn_cons (hn_cons hn_nil))))) (fun _ _ _ _ _ => (dg_one 3 sc_rests.nd)) (fun _ _ _ _ _ => dts_nil) (fun _ _ _ _ _ => (dv 3)))) da_nil) (hn_cons hn_nil))))
    dss_nil)
    (dss_cons (ds_if (tEq hr (de_ix (dv 0) de_int) de_str)
    (dss_one (ds_ret (de_callC ih_loop_rests (hr.mono (by omega)) tk rfl (da_cons (dv 0) (da_cons (dv 1) da_nil)) (hn_cons (hn_cons hn_nil)))))
    dss_nil)
    (dss_one (ds_ret (de_if (tEq hr (de_ix (dv 0) de_int) de_str) (de_callC ih_seq_rests (hr.mono (by omega)) tk rfl (da_cons (dv 0) (da_cons (dv 1) da_nil)) (hn_cons (hn_cons hn_nil))) (de_callC ih_and_rests (hr.mono (by omega)) tk rfl (da_cons (dv 0) (da_cons (dv 1) da_nil)) (hn_cons (hn_cons hn_nil))))))))))
    · refine can_mk (ps := ["tree", "name"]) (E.fun_ 9 (d := d_fn_seq_rests)) (E.glo 25) sc_seq_rests (fun _ _ _ _ _ _ us hl => match us, hl with | [_, _], _ => rfl) fun A outer s H E0 hr => ?_
      replace hr := (show Room (121 + j) _ from hr)
      have tk := takes_of (X := (cxOf (L2.CX P w) P w K mg base N_seq_rests "seq_rests" (defScope (top 22)) (He.fAd K ("seq_rests", none)) (.ref (He.codeOf K ("seq_rests", none))) A outer s H E0)) rfl rfl rfl rfl
      have hp := passes_of (X := (cxOf (L2.CX P w) P w K mg base N_seq_rests "seq_rests" (defScope (top 22)) (He.fAd K ("seq_rests", none)) (.ref (He.codeOf K ("seq_rests", none))) A outer s H E0)) rfl
      exact (dss_cons (ds_set 2 sc_seq_rests.nd (de_lst da_nil))
    (dss_cons (ds_for hp rfl (di_range2 rfl (E.fre 23) (da_cons de_int (da_cons (bLen (E.fre 2) (dv 0)) da_nil)) (h1 := (hn_cons (hn_cons hn_nil)))) (dg_one 3 sc_seq_rests.nd)
    (dss_cons (ds_set 2 sc_seq_rests.nd (xAdd (dv 2) (de_n (dn_lc [(("one" : Str), 4)] rfl sc_seq_rests.nd (di_seq (de_callC ih_rests (hr.mono (by omega)) tk rfl (da_cons (de_ix (dv 0) (dv 3)) (da_cons (dv 1) da_nil)) (hn_cons (hn_cons hn_nil)))) (blk_of (N := N_seq_rests) (sc := defScope (top 22)) (own := [(("one" : Str), 4)]) (by decide +kernel)) (by decide) (fun _ _ _ _ _ => (dg_one 4 sc_seq_rests.nd)) (fun _ _ _ _ _ => dts_nil) (fun _ _ _ _ _ => (de_callC (can_seq_of E) (hr.mono (by omega)) Dl.takes0 rfl (da_cons (xAdd (de_tup (da_cons (dv 4) da_nil)) (de_slice (dv 0) (do_some (xAdd (dv 3) de_int)) do_none)) da_nil) (hn_cons hn_nil)))))))
    (dss_one (ds_if (dt_not (dt_val (de_callC (can_is_nullable E 60) (hr.mono (by omega)) tk rfl (da_cons (de_ix (dv 0) (dv 3)) da_nil) (hn_cons hn_nil))))
    (dss_one (ds_ret (de_callC (can_without_twins E) (hr.mono (by omega)) tk rfl (da_cons (dv 2) da_nil) (hn_cons hn_nil))))
    dss_nil))))
    (dss_one (ds_ret (de_callC (can_without_twins E) (hr.mono (by omega)) tk rfl (da_cons (dv 2) da_nil) (hn_cons hn_nil))))))
    · refine can_mk (ps := ["tree", "name"]) (E.fun_ 11 (d := d_fn_and_rests)) (E.glo 26) sc_and_rests (fun _ _ _ _ _ _ us hl => match us, hl with | [_, _], _ => rfl) fun A outer s H E0 hr => ?_
      replace hr := (show Room (121 + j) _ from hr)
      have tk := takes_of (X := (cxOf (L2.CX P w) P w K mg base N_and_rests "and_rests" (defScope (top 23)) (He.fAd K ("and_rests", none)) (.ref (He.codeOf K ("and_rests", none))) A outer s H E0)) rfl rfl rfl rfl
      have hp := passes_of (X := (cxOf (L2.CX P w) P w K mg base N_and_rests "and_rests" (defScope (top 23)) (He.fAd K ("and_rests", none)) (.ref (He.codeOf K ("and_rests", none))) A outer s H E0)) rfl
      exact (dss_cons (ds_set 2 sc_and_rests.nd (de_lst da_nil))
    (dss_cons (ds_for hp rfl (di_range2 rfl (E.fre 23) (da_cons de_int (da_cons (bLen (E.fre 2) (dv 0)) da_nil)) (h1 := (hn_cons (hn_cons hn_nil)))) (dg_one 3 sc_and_rests.nd)
    (dss_one (ds_set 2 sc_and_rests.nd (xAdd (dv 2) (de_n (dn_lc [(("one" : Str), 4)] rfl sc_and_rests.nd (di_seq (de_callC ih_rests (hr.mono (by omega)) tk rfl (da_cons (de_ix (dv 0) (dv 3)) (da_cons (dv 1) da_nil)) (hn_cons (hn_cons hn_nil)))) (blk_of (N := N_and_rests) (sc := defScope (top 23)) (own := [(("one" : Str), 4)]) (by decide +kernel)) (by decide) (fun _ _ _ _ _ => (dg_one 4 sc_and_rests.nd)) (fun _ _ _ _ _ => dts_nil) (fun _ _ _ _ _ => (de_callC (can_and_of E) (hr.mono (by omega)) Dl.takes0 rfl (da_cons (xAdd (xAdd (de_slice (dv 0) (do_some de_int) (do_some (dv 3))) (de_tup (da_cons (dv 4) da_nil))) (de_slice (dv 0) (do_some (xAdd (dv 3) de_int)) do_none)) da_nil) (hn_cons hn_nil)))))))))
    (dss_one (ds_ret (de_callC (can_without_twins E) (hr.mono (by omega)) tk rfl (da_cons (dv 2) da_nil) (hn_cons hn_nil))))))
    · refine can_mk (ps := ["tree", "name"]) (E.fun_ 10 (d := d_fn_loop_rests)) (E.glo 27) sc_loop_rests (fun _ _ _ _ _ _ us hl => match us, hl with | [_, _], _ => rfl) fun A outer s H E0 hr => ?_
      replace hr := (show Room (121 + j) _ from hr)
      have tk := takes_of (X := (cxOf (L2.CX P w) P w K mg base N_loop_rests "loop_rests" (defScope (top 24)) (He.fAd K ("loop_rests", none)) (.ref (He.codeOf K ("loop_rests", none))) A outer s H E0)) rfl rfl rfl rfl
      have hp := passes_of (X := (cxOf (L2.CX P w) P w K mg base N_loop_rests "loop_rests" (defScope (top 24)) (He.fAd K ("loop_rests", none)) (.ref (He.codeOf K ("loop_rests", none))) A outer s H E0)) rfl
      exact (dss_cons (ds_set 2 sc_loop_rests.nd (de_tup (da_cons de_str (da_cons (de_tup (da_cons de_str da_nil)) (da_cons (de_tup (da_cons de_str (da_cons (de_ix (dv 0) de_int) (da_cons (dv 0) da_nil)))) da_nil)))))
    (dss_cons (by first | exact (ds_setLc 3 [(("one" : Str), 4)] rfl sc_loop_rests.nd (di_seq (de_callC ih_rests (hr.mono (by omega)) tk rfl (da_cons (de_ix (dv 0) de_int) (da_cons (dv 1) da_nil)) (hn_cons (hn_cons hn_nil)))) (blk_of (N := N_loop_rests) (sc := defScope (top 24)) (own := [(("one" : Str), 4)]) (by decide +kernel)) (by decide) (fun _ _ _ _ _ => (dg_one 4 sc_loop_rests.nd)) (fun _ _ _ _ _ => dts_nil) (fun _ _ _ _ _ => (de_callC (can_seq_of E) (hr.mono (by omega)) Dl.takes0 rfl (da_cons (de_tup (da_cons (dv 4) (da_cons (dv 2) da_nil))) da_nil) (hn_cons hn_nil)))) | exact (ds_set 3 sc_loop_rests.nd (de_n (dn_lc [(("one" : Str), 4)] rfl sc_loop_rests.nd (di_seq (de_callC ih_rests (hr.mono (by omega)) tk rfl (da_cons (de_ix (dv 0) de_int) (da_cons (dv 1) da_nil)) (hn_cons (hn_cons hn_nil)))) (blk_of (N := N_loop_rests) (sc := defScope (top 24)) (own := [(("one" : Str), 4)]) (by decide +kernel)) (by decide) (fun _ _ _ _ _ => (dg_one 4 sc_loop_rests.nd)) (fun _ _ _ _ _ => dts_nil) (fun _ _ _ _ _ => (de_callC (can_seq_of E) (hr.mono (by omega)) Dl.takes0 rfl (da_cons (de_tup (da_cons (dv 4) (da_cons (dv 2) da_nil))) da_nil) (hn_cons hn_nil)))))))
    (dss_cons (ds_if (dt_val (de_callC (can_is_nullable E 60) (hr.mono (by omega)) tk rfl (da_cons (de_ix (dv 0) de_int) da_nil) (hn_cons hn_nil)))
    (dss_one (ds_set 3 sc_loop_rests.nd (xAdd (dv 3) (de_n (dn_lc [(("one" : Str), 4)] rfl sc_loop_rests.nd (di_seq (de_callC ih_rests (hr.mono (by omega)) tk rfl (da_cons (de_ix (dv 0) de_int) (da_cons (dv 1) da_nil)) (hn_cons (hn_cons hn_nil)))) (blk_of (N := N_loop_rests) (sc := defScope (top 24)) (own := [(("one" : Str), 4)]) (by decide +kernel)) (by decide) (fun _ _ _ _ _ => (dg_one 4 sc_loop_rests.nd)) (fun _ _ _ _ _ => dts_nil) (fun _ _ _ _ _ => (de_callC (can_seq_of E) (hr.mono (by omega)) Dl.takes0 rfl (da_cons (de_tup (da_cons (dv 4) (da_cons (dv 0) da_nil))) da_nil) (hn_cons hn_nil))))))))
    dss_nil)
    (dss_one (ds_ret (de_callC (can_without_twins E) (hr.mono (by omega)) tk rfl (da_cons (dv 3) da_nil) (hn_cons hn_nil)))))))
theorem can_rests (E : Fx K mg base) (j : Nat) : Can P w K mg base (MoL K tg tl) (121 + j) "rests" 2 (m_rests j) := (can_rests_seq_rests_and_rests_loop_rests_grp E j).1
/-! ### check_names -/
abbrev N_check_names : List Str := ["word", "name"]
theorem sc_check_names : FnScope N_check_names ["word"] (defScope (top 25)) := ⟨rfl, rfl, rfl, by decide +kernel, rfl, by decide +kernel, by decide +kernel⟩
theorem can_check_names (E : Fx K mg base) : Can P w K mg base (MoL K tg tl) 4 "check_names" 1 m_check_names := by
  refine can_mk (ps := ["word"]) (E.fun_ 13 (d := d_fn_check_names)) (E.glo 30) sc_check_names (fun _ _ _ _ _ _ us hl => match us, hl with | [_], _ => rfl) fun A outer s H E0 hr => ?_
  have tk := takes_of (X := (cxOf (L2.CX P w) P w K mg base N_check_names "check_names" (defScope (top 25)) (He.fAd K ("check_names", none)) (.ref (He.codeOf K ("check_names", none))) A outer s H E0)) rfl rfl rfl rfl
  have hp := passes_of (X := (cxOf (L2.CX P w) P w K mg base N_check_names "check_names" (defScope (top 25)) (He.fAd K ("check_names", none)) (.ref (He.codeOf K ("check_names", none))) A outer s H E0)) rfl
  exact (dss_one (ds_if (dt_w (dw_or (dt_not (dt_val (de_isi rfl (E.fre 0) bt_isinstance rfl (E.fre 7) bt_tuple (dv 0)))) (dw_or1 (dt_not (dt_val (de_allG [(("name" : Str), 1)] hr rfl (E.fre 5) bt_all (E.tab (p := ("check_names", none)) (by unfold tf tg tl; simp)) (gen_of (q := ("check_names", none)) (lap E) (by unfold tg; simp) (by decide +kernel)) rfl rfl sc_check_names.nd (gn_of (N := N_check_names) (sc := defScope (top 25)) (own := [(("name" : Str), 1)]) (by decide +kernel)) (by decide) (di_seq (dv 0)) (fun _ _ _ _ _ _ _ _ => (dg_one 1 sc_check_names.nd)) (fun _ _ _ _ _ _ _ _ hr1 => dts_nil) (fun _ _ _ _ _ _ _ _ hr1 => (de_callC (can_is_name E) (hr1.mono (by omega)) Dl.takes0 rfl (da_cons (dv 1) da_nil) (hn_cons hn_nil)))))))))
    (dss_one (ds_raiseE (c := "BadWord") tk (E.glo 28) (E.exc 29)))
    dss_nil))

/-! ### is_word_of -/
abbrev N_is_word_of : List Str := ["tree", "word", "trees", "name", "own", "one"]
theorem sc_is_word_of : FnScope N_is_word_of ["tree", "word"] (defScope (top 26)) := ⟨rfl, rfl, rfl, by decide +kernel, rfl, by decide +kernel, by decide +kernel⟩
theorem can_is_word_of (E : Fx K mg base) : Can P w K mg base (MoL K tg tl) 182 "is_word_of" 2 m_is_word_of := by
  refine can_mk (ps := ["tree", "word"]) (E.fun_ 14 (d := d_fn_is_word_of)) (E.glo 31) sc_is_word_of (fun _ _ _ _ _ _ us hl => match us, hl with | [_, _], _ => rfl) fun A outer s H E0 hr => ?_
  have tk := takes_of (X := (cxOf (L2.CX P w) P w K mg base N_is_word_of "is_word_of" (defScope (top 26)) (He.fAd K ("is_word_of", none)) (.ref (He.codeOf K ("is_word_of", none))) A outer s H E0)) rfl rfl rfl rfl
  have hp := passes_of (X := (cxOf (L2.CX P w) P w K mg base N_is_word_of "is_word_of" (defScope (top 26)) (He.fAd K ("is_word_of", none)) (.ref (He.codeOf K ("is_word_of", none))) A outer s H E0)) rfl
  exact (dss_cons (ds_drop (de_callC (can_check_tree E) (hr.mono (by omega)) tk rfl (da_cons (dv 0) da_nil) (hn_cons hn_nil)))
    (dss_cons (ds_drop (de_callC (can_check_names E) (hr.mono (by omega)) tk rfl (da_cons (dv 1) da_nil) (hn_cons hn_nil)))
    (dss_cons (ds_set 2 sc_is_word_of.nd (de_lst (da_cons (dv 0) da_nil)))
    (dss_cons (ds_for hp rfl (di_seq (dv 1)) (dg_one 3 sc_is_word_of.nd)
    (dss_one (ds_set 2 sc_is_word_of.nd (de_callC (can_without_twins E) (hr.mono (by omega)) tk rfl (da_cons (de_n (dn_lc2 [(("own" : Str), 4), (("one" : Str), 5)] [5] rfl sc_is_word_of.nd (di_seq (dv 2)) (blk_of (N := N_is_word_of) (sc := defScope (top 26)) (own := [(("own" : Str), 4), (("one" : Str), 5)]) (by decide +kernel)) (by decide) (by decide) (by decide) (fun _ _ _ _ _ => (dg_one 4 sc_is_word_of.nd)) (fun _ _ _ _ _ => dts_nil) (fun _ _ _ _ _ => (di_seq (de_callC (can_rests E 60) (hr.mono (by omega)) Dl.takes0 rfl (da_cons (dv 4) (da_cons (dv 3) da_nil)) (hn_cons (hn_cons hn_nil))))) (fun _ _ _ _ _ => (dg_one 5 sc_is_word_of.nd)) (fun _ _ _ _ _ => dts_nil) (fun _ _ _ _ _ => (dv 5)))) da_nil) (hn_cons hn_nil)))))
    (dss_one (ds_ret (de_anyG [(("own" : Str), 4)] hr rfl (E.fre 18) (E.tab (p := ("is_word_of", none)) (by unfold tf tg tl; simp)) (gen_of (q := ("is_word_of", none)) (lap E) (by unfold tg; simp) (by decide +kernel)) rfl rfl sc_is_word_of.nd (gn_of (N := N_is_word_of) (sc := defScope (top 26)) (own := [(("own" : Str), 4)]) (by decide +kernel)) (by decide) (di_seq (dv 2)) (fun _ _ _ _ _ _ _ _ => (dg_one 4 sc_is_word_of.nd)) (fun _ _ _ _ _ _ _ _ hr1 => dts_nil) (fun _ _ _ _ _ _ _ _ hr1 => (de_callC (can_is_nullable E 60) (hr1.mono (by omega)) Dl.takes0 rfl (da_cons (dv 4) da_nil) (hn_cons hn_nil))))))))))

/-! ### words_of -/
abbrev N_words_of : List Str := ["tree", "length", "most", "layer", "found", "step", "later", "word", "trees", "name", "rest", "own", "one", "pair"]
theorem sc_words_of : FnScope N_words_of ["tree", "length", "most"] (defScope (top 27)) := ⟨rfl, rfl, rfl, by decide +kernel, rfl, by decide +kernel, by decide +kernel⟩
theorem can_words_of (E : Fx K mg base) : CanW P w K mg base (MoL K tg tl) 182 "words_of" 2 "most" (.int 500) m_words_of := by
  refine canW_mk (st := (top 27)) (ps := ["tree", "length", "most"]) (n := 2) (kw := "most") (dv := .int 500) (E.fun_ 15 (d := d_fn_words_of)) (E.glo 34) sc_words_of rfl (fun _ _ _ _ _ _ us ks hl hk => match us, ks, hl, hk with | [_, _], [_], _, _ => ⟨_, _, _, _, _, _, rfl, rfl, rfl⟩) (fun _ _ _ _ _ _ us ks hl hk => match us, ks, hl, hk with | [_, _], [_], _, _ => rfl) fun A outer s H E0 hr => ?_
  have tk := takes_of (X := (cxOf (L2.CX P w) P w K mg base N_words_of "words_of" (defScope (top 27)) (He.fAd K ("words_of", none)) (.ref (He.codeOf K ("words_of", none))) A outer s H E0)) rfl rfl rfl rfl
  have hp := passes_of (X := (cxOf (L2.CX P w) P w K mg base N_words_of "words_of" (defScope (top 27)) (He.fAd K ("words_of", none)) (.ref (He.codeOf K ("words_of", none))) A outer s H E0)) rfl
  exact (dss_cons (ds_drop (de_callC (can_check_tree E) (hr.mono (by omega)) tk rfl (da_cons (dv 0) da_nil) (hn_cons hn_nil)))
    (dss_cons (ds_set 3 sc_words_of.nd (de_lst (da_cons (de_tup (da_cons (de_tup da_nil) (da_cons (de_lst (da_cons (dv 0) da_nil)) da_nil))) da_nil)))
    (dss_cons (ds_set 4 sc_words_of.nd (de_lst da_nil))
    (dss_cons (ds_for hp rfl (di_range1 rfl (E.fre 23) (da_cons (xAdd (dv 1) de_int) da_nil) (h1 := (hn_cons hn_nil))) (dg_one 5 sc_words_of.nd)
    (dss_cons (ds_set 4 sc_words_of.nd (xAdd (dv 4) (de_n (dn_lc [(("word" : Str), 7), (("trees" : Str), 8)] rfl sc_words_of.nd (di_seq (dv 3)) (blk_of (N := N_words_of) (sc := defScope (top 27)) (own := [(("word" : Str), 7), (("trees" : Str), 8)]) (by decide +kernel)) (by decide) (fun _ _ _ _ _ => (dg_all rfl sc_words_of.nd (nm_cons 7 (nm_cons 8 .nil)))) (fun _ _ _ _ _ => (dts_one (dt_val (de_anyG [(("own" : Str), 11)] hr rfl (E.fre 18) (E.tab (p := ("words_of", none)) (by unfold tf tg tl; simp)) (gen_of (q := ("words_of", none)) (lap E) (by unfold tg; simp) (by decide +kernel)) rfl rfl sc_words_of.nd (gn_of (own := [(("own" : Str), 11)]) (by kernel_rfl)) (by decide) (di_seq (dv 8)) (fun _ _ _ _ _ _ _ _ => (dg_one 11 sc_words_of.nd)) (fun _ _ _ _ _ _ _ _ hr1 => dts_nil) (fun _ _ _ _ _ _ _ _ hr1 => (de_callC (can_is_nullable E 60) (hr1.mono (by omega)) Dl.takes0 rfl (da_cons (dv 11) da_nil) (hn_cons hn_nil))))))) (fun _ _ _ _ _ => (dv 7))))))
    (dss_cons (ds_own 6 sc_words_of.nd (dn_lst da_nil))
    (dss_cons (ds_for hp rfl (di_seq (de_if (tLt (dv 5) (dv 1)) (dv 3) (de_lst da_nil))) (dg_all rfl sc_words_of.nd (nm_cons 7 (nm_cons 8 .nil)))
    (dss_one (ds_for hp rfl (di_seq (de_callC (can_deeds_of E) (hr.mono (by omega)) tk rfl (da_cons (dv 0) da_nil) (hn_cons hn_nil))) (dg_one 9 sc_words_of.nd)
    (dss_cons (ds_set 10 sc_words_of.nd (de_callC (can_without_twins E) (hr.mono (by omega)) tk rfl (da_cons (de_n (dn_lc2 [(("own" : Str), 11), (("one" : Str), 12)] [12] rfl sc_words_of.nd (di_seq (dv 8)) (blk_of (N := N_words_of) (sc := defScope (top 27)) (own := [(("own" : Str), 11), (("one" : Str), 12)]) (by decide +kernel)) (by decide) (by decide) (by decide) (fun _ _ _ _ _ => (dg_one 11 sc_words_of.nd)) (fun _ _ _ _ _ => dts_nil) (fun _ _ _ _ _ => (di_seq (de_callC (can_rests E 60) (hr.mono (by omega)) Dl.takes0 rfl (da_cons (dv 11) (da_cons (dv 9) da_nil)) (hn_cons (hn_cons hn_nil))))) (fun _ _ _ _ _ => (dg_one 12 sc_words_of.nd)) (fun _ _ _ _ _ => dts_nil) (fun _ _ _ _ _ => (dv 12)))) da_nil) (hn_cons hn_nil)))
    (dss_one (ds_if (tGt (bLen (E.fre 2) (dv 10)) de_int)
    (dss_one (ds_app 6 (de_tup (da_cons (xAdd (dv 7) (de_tup (da_cons (dv 9) da_nil))) (da_cons (dv 10) da_nil)))))
    dss_nil))))))
    (dss_cons (ds_frz 6 (ds_if (dt_w (dw_or (tGt (bLen (E.fre 2) (dv 6)) (dv 2)) (dw_or1 (tGt (bLen (E.fre 2) (dv 4)) (dv 2)))))
    (dss_one (ds_raiseE (c := "TooMany") tk (E.glo 32) (E.exc 33)))
    dss_nil))
    (dss_one (ds_set 3 sc_words_of.nd (bSortX 13 hr (E.fre 16) (E.tabs ("words_of", none) (by unfold tf tg tl; simp)) (lam_of (p := (("words_of", none), (137, 34), (("words_of" : Str) ++ ".<locals>.") ++ "<lambda>")) (lap E) (by unfold tl; simp) (by decide +kernel)) rfl (lamK_by (by kernel_rfl)) sc_words_of.nd rfl (dv 6) (kx_ix (kx_var 13) kx_int) rfl (fun _ _ _ _ => rfl)))))))))
    (dss_one (ds_ret (bTuple (E.fre 7) (dv 4))))))))

/-! ### _law_cell -/
abbrev N__law_cell : List Str := ["script", "k"]
theorem sc__law_cell : FnScope N__law_cell ["script", "k"] (defScope (top 29)) := ⟨rfl, rfl, rfl, by decide +kernel, rfl, by decide +kernel, by decide +kernel⟩
theorem can__law_cell (E : Fx K mg base) : Can P w K mg base (MoL K tg tl) 1 "_law_cell" 2 m__law_cell := by
  refine can_mk (ps := ["script", "k"]) (E.fun_ 16 (d := d_fn__law_cell)) (E.glo 35) sc__law_cell (fun _ _ _ _ _ _ us hl => match us, hl with | [_, _], _ => rfl) fun A outer s H E0 hr => ?_
  have tk := takes_of (X := (cxOf (L2.CX P w) P w K mg base N__law_cell "_law_cell" (defScope (top 29)) (He.fAd K ("_law_cell", none)) (.ref (He.codeOf K ("_law_cell", none))) A outer s H E0)) rfl rfl rfl rfl
  have hp := passes_of (X := (cxOf (L2.CX P w) P w K mg base N__law_cell "_law_cell" (defScope (top 29)) (He.fAd K ("_law_cell", none)) (.ref (He.codeOf K ("_law_cell", none))) A outer s H E0)) rfl
  exact (dss_cons (ds_if (tLt (dv 1) (bLen (E.fre 2) (dv 0)))
    (dss_one (ds_ret (de_ix (dv 0) (dv 1))))
    dss_nil)
    (dss_one (ds_ret de_int)))

/-! ### _law_draws -/
abbrev N__law_draws : List Str := ["cell", "count", "result", "rest", "k", "mixed"]
theorem sc__law_draws : FnScope N__law_draws ["cell", "count"] (defScope (top 30)) := ⟨rfl, rfl, rfl, by decide +kernel, rfl, by decide +kernel, by decide +kernel⟩
theorem can__law_draws (E : Fx K mg base) : Can P w K mg base (MoL K tg tl) 1 "_law_draws" 2 m__law_draws := by
  refine can_mk (ps := ["cell", "count"]) (E.fun_ 17 (d := d_fn__law_draws)) (E.glo 37) sc__law_draws (fun _ _ _ _ _ _ us hl => match us, hl with | [_, _], _ => rfl) fun A outer s H E0 hr => ?_
  have tk := takes_of (X := (cxOf (L2.CX P w) P w K mg base N__law_draws "_law_draws" (defScope (top 30)) (He.fAd K ("_law_draws", none)) (.ref (He.codeOf K ("_law_draws", none))) A outer s H E0)) rfl rfl rfl rfl
  have hp := passes_of (X := (cxOf (L2.CX P w) P w K mg base N__law_draws "_law_draws" (defScope (top 30)) (He.fAd K ("_law_draws", none)) (.ref (He.codeOf K ("_law_draws", none))) A outer s H E0)) rfl
  exact (dss_cons (ds_own 2 sc__law_draws.nd (dn_lst da_nil))
    (dss_cons (ds_set 3 sc__law_draws.nd (bIntT (E.fre 36) (dv 0)))
    (dss_cons (ds_for hp rfl (di_range1 rfl (E.fre 23) (da_cons (dv 1) da_nil) (h1 := (hn_cons hn_nil))) (dg_one 4 sc__law_draws.nd)
    (dss_cons (ds_set 5 sc__law_draws.nd (xMod (bIntT (E.fre 36) (xAdd (xAdd (xMul (dv 0) de_int) (xMul (dv 4) de_int)) de_int)) de_int))
    (dss_one (ds_if (tGe (dv 0) (xPow de_int de_int))
    (dss_cons (ds_app 2 (xMod (dv 3) de_int))
    (dss_one (ds_set 3 sc__law_draws.nd (xFdv (dv 3) de_int))))
    (dss_one (ds_app 2 (xFdv (xMod (bIntT (E.fre 36) (xAdd (xMul (dv 5) (dv 5)) (xMul (dv 5) de_int))) de_int) de_int)))))))
    (dss_one (ds_frz 2 (ds_ret (dv 2)))))))

/-! ### _law_tree -/
abbrev N__law_tree : List Str := ["n", "at", "deep", "kind", "first", "second", "word"]
theorem sc__law_tree : FnScope N__law_tree ["n", "at", "deep"] (defScope (top 31)) := ⟨rfl, rfl, rfl, by decide +kernel, rfl, by decide +kernel, by decide +kernel⟩
theorem can__law_tree (E : Fx K mg base) : ∀ j : Nat, Can P w K mg base (MoL K tg tl) (1 + j) "_law_tree" 3 (m__law_tree j)
  | 0 => can_bad (st := (top 31)) (ps := ["n", "at", "deep"]) (E.fun_ 18 (d := d_fn__law_tree)) (E.glo 38) (fun _ _ _ _ _ _ us hl => match us, hl with | [_, _, _], _ => rfl)
  | j + 1 => by
    have ih__law_tree := can__law_tree E j
    refine can_mk (ps := ["n", "at", "deep"]) (E.fun_ 18 (d := d_fn__law_tree)) (E.glo 38) sc__law_tree (fun _ _ _ _ _ _ us hl => match us, hl with | [_, _, _], _ => rfl) fun A outer s H E0 hr => ?_
    replace hr := (show Room (1 + j) _ from hr)
    have tk := takes_of (X := (cxOf (L2.CX P w) P w K mg base N__law_tree "_law_tree" (defScope (top 31)) (He.fAd K ("_law_tree", none)) (.ref (He.codeOf K ("_law_tree", none))) A outer s H E0)) rfl rfl rfl rfl
    have hp := passes_of (X := (cxOf (L2.CX P w) P w K mg base N__law_tree "_law_tree" (defScope (top 31)) (He.fAd K ("_law_tree", none)) (.ref (He.codeOf K ("_law_tree", none))) A outer s H E0)) rfl
    exact (dss_cons (ds_set 3 sc__law_tree.nd (xMod (de_ix (dv 0) (xMod (dv 1) (bLen (E.fre 2) (dv 0)))) (de_if (tLt (dv 2) de_int) de_int de_int)))
    (dss_cons (ds_if (tLt (dv 3) de_int)
    (dss_one (ds_ret (de_if (tEq hr (xMod (de_ix (dv 0) (xMod (xAdd (dv 1) de_int) (bLen (E.fre 2) (dv 0)))) de_int) de_int) (de_tup (da_cons de_str da_nil)) (de_tup (da_cons de_str (da_cons (de_ix de_str (xMod (de_ix (dv 0) (xMod (xAdd (dv 1) de_int) (bLen (E.fre 2) (dv 0)))) de_int)) da_nil))))))
    dss_nil)
    (dss_cons (ds_set 4 sc__law_tree.nd (de_callC ih__law_tree (hr.mono (by omega)) tk rfl (da_cons (dv 0) (da_cons (xAdd (dv 1) de_int) (da_cons (xAdd (dv 2) de_int) da_nil))) (hn_cons (hn_cons (hn_cons hn_nil)))))
    (dss_cons (ds_set 5 sc__law_tree.nd (de_callC ih__law_tree (hr.mono (by omega)) tk rfl (da_cons (dv 0) (da_cons (xAdd (dv 1) de_int) (da_cons (xAdd (dv 2) de_int) da_nil))) (hn_cons (hn_cons (hn_cons hn_nil)))))
    (dss_cons (ds_if (dt_w (dw_and (tGt (dv 3) de_int) (dw_and1 (tLt (dv 2) de_int))))
    (dss_one (ds_ret (de_tup (da_cons de_str (da_cons (dv 4) (da_cons (dv 5) da_nil))))))
    dss_nil)
    (dss_cons (ds_set 6 sc__law_tree.nd (de_ix (de_tup (da_cons de_str (da_cons de_str (da_cons de_str da_nil)))) (xMod (dv 3) de_int)))
    (dss_cons (ds_if (dt_w (dw_and (tEq hr (xMod (de_ix (dv 0) (xMod (xAdd (dv 1) de_int) (bLen (E.fre 2) (dv 0)))) de_int) de_int) (dw_and1 (tLt (dv 2) de_int))))
    (dss_one (ds_ret (de_tup (da_cons (dv 6) (da_cons (dv 4) (da_cons (dv 5) (da_cons (de_callC ih__law_tree (hr.mono (by omega)) tk rfl (da_cons (dv 0) (da_cons (xAdd (dv 1) de_int) (da_cons (xAdd (dv 2) de_int) da_nil))) (hn_cons (hn_cons (hn_cons hn_nil)))) da_nil)))))))
    dss_nil)
    (dss_one (ds_ret (de_tup (da_cons (dv 6) (da_cons (dv 4) (da_cons (dv 5) da_nil)))))))))))))

/-! ### _law_mixed -/
abbrev N__law_mixed : List Str := ["first", "second", "found", "rest"]
theorem sc__law_mixed : FnScope N__law_mixed ["first", "second"] (defScope (top 32)) := ⟨rfl, rfl, rfl, by decide +kernel, rfl, by decide +kernel, by decide +kernel⟩
theorem can__law_mixed (E : Fx K mg base) : ∀ j : Nat, Can P w K mg base (MoL K tg tl) (1 + j) "_law_mixed" 2 (m__law_mixed j)
  | 0 => can_bad (st := (top 32)) (ps := ["first", "second"]) (E.fun_ 19 (d := d_fn__law_mixed)) (E.glo 39) (fun _ _ _ _ _ _ us hl => match us, hl with | [_, _], _ => rfl)
  | j + 1 => by
    have ih__law_mixed := can__law_mixed E j
    refine can_mk (ps := ["first", "second"]) (E.fun_ 19 (d := d_fn__law_mixed)) (E.glo 39) sc__law_mixed (fun _ _ _ _ _ _ us hl => match us, hl with | [_, _], _ => rfl) fun A outer s H E0 hr => ?_
    replace hr := (show Room (1 + j) _ from hr)
    have tk := takes_of (X := (cxOf (L2.CX P w) P w K mg base N__law_mixed "_law_mixed" (defScope (top 32)) (He.fAd K ("_law_mixed", none)) (.ref (He.codeOf K ("_law_mixed", none))) A outer s H E0)) rfl rfl rfl rfl
    have hp := passes_of (X := (cxOf (L2.CX P w) P w K mg base N__law_mixed "_law_mixed" (defScope (top 32)) (He.fAd K ("_law_mixed", none)) (.ref (He.codeOf K ("_law_mixed", none))) A outer s H E0)) rfl
    exact (dss_cons (ds_if (dt_w (dw_or (tEq hr (bLen (E.fre 2) (dv 0)) de_int) (dw_or1 (tEq hr (bLen (E.fre 2) (dv 1)) de_int))))
    (dss_one (ds_ret (de_lst (da_cons (xAdd (dv 0) (dv 1)) da_nil))))
    dss_nil)
    (dss_cons (by first | exact (ds_setLc 2 [(("rest" : Str), 3)] rfl sc__law_mixed.nd (di_seq (de_callC ih__law_mixed (hr.mono (by omega)) tk rfl (da_cons (de_slice (dv 0) (do_some de_int) do_none) (da_cons (dv 1) da_nil)) (hn_cons (hn_cons hn_nil)))) (blk_of (N := N__law_mixed) (sc := defScope (top 32)) (own := [(("rest" : Str), 3)]) (by decide +kernel)) (by decide) (fun _ _ _ _ _ => (dg_one 3 sc__law_mixed.nd)) (fun _ _ _ _ _ => dts_nil) (fun _ _ _ _ _ => (xAdd (de_slice (dv 0) do_none (do_some de_int)) (dv 3)))) | exact (ds_set 2 sc__law_mixed.nd (de_n (dn_lc [(("rest" : Str), 3)] rfl sc__law_mixed.nd (di_seq (de_callC ih__law_mixed (hr.mono (by omega)) tk rfl (da_cons (de_slice (dv 0) (do_some de_int) do_none) (da_cons (dv 1) da_nil)) (hn_cons (hn_cons hn_nil)))) (blk_of (N := N__law_mixed) (sc := defScope (top 32)) (own := [(("rest" : Str), 3)]) (by decide +kernel)) (by decide) (fun _ _ _ _ _ => (dg_one 3 sc__law_mixed.nd)) (fun _ _ _ _ _ => dts_nil) (fun _ _ _ _ _ => (xAdd (de_slice (dv 0) do_none (do_some de_int)) (dv 3)))))))
    (dss_one (ds_ret (xAdd (dv 2) (de_n (dn_lc [(("rest" : Str), 3)] rfl sc__law_mixed.nd (di_seq (de_callC ih__law_mixed (hr.mono (by omega)) tk rfl (da_cons (dv 0) (da_cons (de_slice (dv 1) (do_some de_int) do_none) da_nil)) (hn_cons (hn_cons hn_nil)))) (blk_of (N := N__law_mixed) (sc := defScope (top 32)) (own := [(("rest" : Str), 3)]) (by decide +kernel)) (by decide) (fun _ _ _ _ _ => (dg_one 3 sc__law_mixed.nd)) (fun _ _ _ _ _ => (dts_one (tNin hr (xAdd (de_slice (dv 1) do_none (do_some de_int)) (dv 3)) (dv 2)))) (fun _ _ _ _ _ => (xAdd (de_slice (dv 1) do_none (do_some de_int)) (dv 3))))))))))

/-! ### _law_once -/
abbrev N__law_once : List Str := ["words", "found", "word"]
theorem sc__law_once : FnScope N__law_once ["words"] (defScope (top 33)) := ⟨rfl, rfl, rfl, by decide +kernel, rfl, by decide +kernel, by decide +kernel⟩
theorem can__law_once (E : Fx K mg base) : Can P w K mg base (MoL K tg tl) 1 "_law_once" 1 m__law_once := by
  refine can_mk (ps := ["words"]) (E.fun_ 20 (d := d_fn__law_once)) (E.glo 41) sc__law_once (fun _ _ _ _ _ _ us hl => match us, hl with | [_], _ => rfl) fun A outer s H E0 hr => ?_
  have tk := takes_of (X := (cxOf (L2.CX P w) P w K mg base N__law_once "_law_once" (defScope (top 33)) (He.fAd K ("_law_once", none)) (.ref (He.codeOf K ("_law_once", none))) A outer s H E0)) rfl rfl rfl rfl
  have hp := passes_of (X := (cxOf (L2.CX P w) P w K mg base N__law_once "_law_once" (defScope (top 33)) (He.fAd K ("_law_once", none)) (.ref (He.codeOf K ("_law_once", none))) A outer s H E0)) rfl
  exact (dss_cons (ds_ownO 1 sc__law_once.nd dn_dt0)
    (dss_cons (ds_for hp rfl (di_seq (dv 0)) (dg_one 2 sc__law_once.nd)
    (dss_one (ds_dput 1 hr de_bl (dv 2))))
    (dss_one (ds_frz 1 (ds_ret (bSortG hr (E.fre 16) (bKeys rfl (E.fre 40) (dv 1))))))))

/-! ### _law_joined -/
abbrev N__law_joined : List Str := ["first", "second", "most", "found", "one", "two"]
theorem sc__law_joined : FnScope N__law_joined ["first", "second", "most"] (defScope (top 34)) := ⟨rfl, rfl, rfl, by decide +kernel, rfl, by decide +kernel, by decide +kernel⟩
theorem can__law_joined (E : Fx K mg base) : Can P w K mg base (MoL K tg tl) 2 "_law_joined" 3 m__law_joined := by
  refine can_mk (ps := ["first", "second", "most"]) (E.fun_ 21 (d := d_fn__law_joined)) (E.glo 42) sc__law_joined (fun _ _ _ _ _ _ us hl => match us, hl with | [_, _, _], _ => rfl) fun A outer s H E0 hr => ?_
  have tk := takes_of (X := (cxOf (L2.CX P w) P w K mg base N__law_joined "_law_joined" (defScope (top 34)) (He.fAd K ("_law_joined", none)) (.ref (He.codeOf K ("_law_joined", none))) A outer s H E0)) rfl rfl rfl rfl
  have hp := passes_of (X := (cxOf (L2.CX P w) P w K mg base N__law_joined "_law_joined" (defScope (top 34)) (He.fAd K ("_law_joined", none)) (.ref (He.codeOf K ("_law_joined", none))) A outer s H E0)) rfl
  exact (dss_cons (ds_set 3 sc__law_joined.nd (de_lst da_nil))
    (dss_cons (ds_for hp rfl (di_seq (dv 0)) (dg_one 4 sc__law_joined.nd)
    (dss_one (ds_set 3 sc__law_joined.nd (xAdd (dv 3) (de_n (dn_lc [(("two" : Str), 5)] rfl sc__law_joined.nd (di_seq (dv 1)) (blk_of (N := N__law_joined) (sc := defScope (top 34)) (own := [(("two" : Str), 5)]) (by decide +kernel)) (by decide) (fun _ _ _ _ _ => (dg_one 5 sc__law_joined.nd)) (fun _ _ _ _ _ => (dts_one (tLe (xAdd (bLen (E.fre 2) (dv 4)) (bLen (E.fre 2) (dv 5))) (dv 2)))) (fun _ _ _ _ _ => (xAdd (dv 4) (dv 5)))))))))
    (dss_one (ds_ret (de_callC (can__law_once E) (hr.mono (by omega)) tk rfl (da_cons (dv 3) da_nil) (hn_cons hn_nil))))))

/-! ### _law_words -/
abbrev N__law_words : List Str := ["tree", "most", "parts", "found", "part", "turn", "both", "one", "two", "word"]
theorem sc__law_words : FnScope N__law_words ["tree", "most"] (defScope (top 35)) := ⟨rfl, rfl, rfl, by decide +kernel, rfl, by decide +kernel, by decide +kernel⟩
theorem can__law_words (E : Fx K mg base) : ∀ j : Nat, Can P w K mg base (MoL K tg tl) (61 + j) "_law_words" 2 (m__law_words j)
  | 0 => can_bad (st := (top 35)) (ps := ["tree", "most"]) (E.fun_ 22 (d := d_fn__law_words)) (E.glo 43) (fun _ _ _ _ _ _ us hl => match us, hl with | [_, _], _ => rfl)
  | j + 1 => by
    have ih__law_words := can__law_words E j
    refine can_mk (ps := ["tree", "most"]) (E.fun_ 22 (d := d_fn__law_words)) (E.glo 43) sc__law_words (fun _ _ _ _ _ _ us hl => match us, hl with | [_, _], _ => rfl) fun A outer s H E0 hr => ?_
    replace hr := (show Room (61 + j) _ from hr)
    have tk := takes_of (X := (cxOf (L2.CX P w) P w K mg base N__law_words "_law_words" (defScope (top 35)) (He.fAd K ("_law_words", none)) (.ref (He.codeOf K ("_law_words", none))) A outer s H E0)) rfl rfl rfl rfl
    have hp := passes_of (X := (cxOf (L2.CX P w) P w K mg base N__law_words "_law_words" (defScope (top 35)) (He.fAd K ("_law_words", none)) (.ref (He.codeOf K ("_law_words", none))) A outer s H E0)) rfl
    exact (dss_cons (ds_if (tEq hr (de_ix (dv 0) de_int) de_str)
    (dss_one (ds_ret (de_if (tGt (dv 1) de_int) (de_lst (da_cons (de_tup (da_cons (de_ix (dv 0) de_int) da_nil)) da_nil)) (de_lst da_nil))))
    dss_nil)
    (dss_cons (ds_if (tEq hr (de_ix (dv 0) de_int) de_str)
    (dss_one (ds_ret (de_lst (da_cons (de_tup da_nil) da_nil))))
    dss_nil)
    (dss_cons (by first | exact (ds_setLc 2 [(("part" : Str), 4)] rfl sc__law_words.nd (di_seq (de_slice (dv 0) (do_some de_int) do_none)) (blk_of (N := N__law_words) (sc := defScope (top 35)) (own := [(("part" : Str), 4)]) (by decide +kernel)) (by decide) (fun _ _ _ _ _ => (dg_one 4 sc__law_words.nd)) (fun _ _ _ _ _ => dts_nil) (fun _ _ _ _ _ => (de_callC ih__law_words (hr.mono (by omega)) Dl.takes0 rfl (da_cons (dv 4) (da_cons (dv 1) da_nil)) (hn_cons (hn_cons hn_nil))))) | exact (ds_set 2 sc__law_words.nd (de_n (dn_lc [(("part" : Str), 4)] rfl sc__law_words.nd (di_seq (de_slice (dv 0) (do_some de_int) do_none)) (blk_of (N := N__law_words) (sc := defScope (top 35)) (own := [(("part" : Str), 4)]) (by decide +kernel)) (by decide) (fun _ _ _ _ _ => (dg_one 4 sc__law_words.nd)) (fun _ _ _ _ _ => dts_nil) (fun _ _ _ _ _ => (de_callC ih__law_words (hr.mono (by omega)) Dl.takes0 rfl (da_cons (dv 4) (da_cons (dv 1) da_nil)) (hn_cons (hn_cons hn_nil))))))))
    (dss_cons (ds_if (tEq hr (de_ix (dv 0) de_int) de_str)
    (dss_cons (ds_set 3 sc__law_words.nd (de_ix (dv 2) de_int))
    (dss_cons (ds_for hp rfl (di_range1 rfl (E.fre 23) (da_cons (xAdd (dv 1) de_int) da_nil) (h1 := (hn_cons hn_nil))) (dg_one 5 sc__law_words.nd)
    (dss_one (ds_set 3 sc__law_words.nd (de_callC (can__law_once E) (hr.mono (by omega)) tk rfl (da_cons (xAdd (dv 3) (de_callC (can__law_joined E) (hr.mono (by omega)) tk rfl (da_cons (de_callC (can__law_joined E) (hr.mono (by omega)) tk rfl (da_cons (dv 3) (da_cons (de_ix (dv 2) de_int) (da_cons (dv 1) da_nil))) (hn_cons (hn_cons (hn_cons hn_nil)))) (da_cons (de_ix (dv 2) de_int) (da_cons (dv 1) da_nil))) (hn_cons (hn_cons (hn_cons hn_nil))))) da_nil) (hn_cons hn_nil)))))
    (dss_one (ds_ret (dv 3)))))
    dss_nil)
    (dss_cons (ds_set 3 sc__law_words.nd (de_ix (dv 2) de_int))
    (dss_cons (ds_for hp rfl (di_seq (de_slice (dv 2) (do_some de_int) do_none)) (dg_one 4 sc__law_words.nd)
    (dss_one (ds_if (tEq hr (de_ix (dv 0) de_int) de_str)
    (dss_one (ds_set 3 sc__law_words.nd (de_callC (can__law_once E) (hr.mono (by omega)) tk rfl (da_cons (xAdd (dv 3) (dv 4)) da_nil) (hn_cons hn_nil))))
    (dss_one (ds_if (tEq hr (de_ix (dv 0) de_int) de_str)
    (dss_one (ds_set 3 sc__law_words.nd (de_callC (can__law_joined E) (hr.mono (by omega)) tk rfl (da_cons (dv 3) (da_cons (dv 4) (da_cons (dv 1) da_nil))) (hn_cons (hn_cons (hn_cons hn_nil))))))
    (dss_cons (ds_set 6 sc__law_words.nd (de_lst da_nil))
    (dss_cons (ds_for hp rfl (di_seq (dv 3)) (dg_one 7 sc__law_words.nd)
    (dss_one (ds_for hp rfl (di_seq (de_n (dn_lc [(("word" : Str), 9)] rfl sc__law_words.nd (di_seq (dv 4)) (blk_of (N := N__law_words) (sc := defScope (top 35)) (own := [(("word" : Str), 9)]) (by decide +kernel)) (by decide) (fun _ _ _ _ _ => (dg_one 9 sc__law_words.nd)) (fun _ _ _ _ _ => (dts_one (tLe (xAdd (bLen (E.fre 2) (dv 9)) (bLen (E.fre 2) (dv 7))) (dv 1)))) (fun _ _ _ _ _ => (dv 9))))) (dg_one 8 sc__law_words.nd)
    (dss_one (ds_set 6 sc__law_words.nd (xAdd (dv 6) (de_callC (can__law_mixed E 60) (hr.mono (by omega)) tk rfl (da_cons (dv 7) (da_cons (dv 8) da_nil)) (hn_cons (hn_cons hn_nil)))))))))
    (dss_one (ds_set 3 sc__law_words.nd (de_callC (can__law_once E) (hr.mono (by omega)) tk rfl (da_cons (dv 6) da_nil) (hn_cons hn_nil)))))))))))
    (dss_one (ds_ret (dv 3)))))))))

/-! ### _law_names -/
abbrev N__law_names : List Str := ["tree", "found", "part", "name"]
theorem sc__law_names : FnScope N__law_names ["tree"] (defScope (top 36)) := ⟨rfl, rfl, rfl, by decide +kernel, rfl, by decide +kernel, by decide +kernel⟩
theorem can__law_names (E : Fx K mg base) : ∀ j : Nat, Can P w K mg base (MoL K tg tl) (1 + j) "_law_names" 1 (m__law_names j)
  | 0 => can_bad (st := (top 36)) (ps := ["tree"]) (E.fun_ 23 (d := d_fn__law_names)) (E.glo 44) (fun _ _ _ _ _ _ us hl => match us, hl with | [_], _ => rfl)
  | j + 1 => by
    have ih__law_names := can__law_names E j
    refine can_mk (ps := ["tree"]) (E.fun_ 23 (d := d_fn__law_names)) (E.glo 44) sc__law_names (fun _ _ _ _ _ _ us hl => match us, hl with | [_], _ => rfl) fun A outer s H E0 hr => ?_
    replace hr := (show Room (1 + j) _ from hr)
    have tk := takes_of (X := (cxOf (L2.CX P w) P w K mg base N__law_names "_law_names" (defScope (top 36)) (He.fAd K ("_law_names", none)) (.ref (He.codeOf K ("_law_names", none))) A outer s H E0)) rfl rfl rfl rfl
    have hp := passes_of (X := (cxOf (L2.CX P w) P w K mg base N__law_names "_law_names" (defScope (top 36)) (He.fAd K ("_law_names", none)) (.ref (He.codeOf K ("_law_names", none))) A outer s H E0)) rfl
    exact (dss_cons (ds_if (tEq hr (de_ix (dv 0) de_int) de_str)
    (dss_one (ds_ret (de_lst (da_cons (de_ix (dv 0) de_int) da_nil))))
    dss_nil)
    (dss_cons (ds_set 1 sc__law_names.nd (de_lst da_nil))
    (dss_cons (ds_for hp rfl (di_seq (de_slice (dv 0) (do_some de_int) do_none)) (dg_one 2 sc__law_names.nd)
    (dss_one (ds_set 1 sc__law_names.nd (xAdd (dv 1) (de_n (dn_lc [(("name" : Str), 3)] rfl sc__law_names.nd (di_seq (de_callC ih__law_names (hr.mono (by omega)) tk rfl (da_cons (dv 2) da_nil) (hn_cons hn_nil))) (blk_of (N := N__law_names) (sc := defScope (top 36)) (own := [(("name" : Str), 3)]) (by decide +kernel)) (by decide) (fun _ _ _ _ _ => (dg_one 3 sc__law_names.nd)) (fun _ _ _ _ _ => (dts_one (tNin hr (dv 3) (dv 1)))) (fun _ _ _ _ _ => (dv 3))))))))
    (dss_one (ds_ret (bSortG hr (E.fre 16) (dv 1)))))))

/-! ### _law_refusal -/
abbrev N__law_refusal : List Str := ["tree", "word", "k"]
theorem sc__law_refusal : FnScope N__law_refusal ["tree", "word", "k"] (defScope (top 37)) := ⟨rfl, rfl, rfl, by decide +kernel, rfl, by decide +kernel, by decide +kernel⟩
theorem can__law_refusal (E : Fx K mg base) : Can P w K mg base (MoL K tg tl) 183 "_law_refusal" 3 m__law_refusal := by
  refine can_mk (ps := ["tree", "word", "k"]) (E.fun_ 24 (d := d_fn__law_refusal)) (E.glo 51) sc__law_refusal (fun _ _ _ _ _ _ us hl => match us, hl with | [_, _, _], _ => rfl) fun A outer s H E0 hr => ?_
  have tk := takes_of (X := (cxOf (L2.CX P w) P w K mg base N__law_refusal "_law_refusal" (defScope (top 37)) (He.fAd K ("_law_refusal", none)) (.ref (He.codeOf K ("_law_refusal", none))) A outer s H E0)) rfl rfl rfl rfl
  have hp := passes_of (X := (cxOf (L2.CX P w) P w K mg base N__law_refusal "_law_refusal" (defScope (top 37)) (He.fAd K ("_law_refusal", none)) (.ref (He.codeOf K ("_law_refusal", none))) A outer s H E0)) rfl
  exact (dss_cons (ds_tryM rfl rfl tk (fun _ _ _ tk hp => (dss_one (ds_if (tEq hr (dv 2) de_int)
    (dss_one (ds_drop (de_callC (can_is_word_of E) (hr.mono (by omega)) tk rfl (da_cons (dv 0) (da_cons (dv 1) da_nil)) (hn_cons (hn_cons hn_nil)))))
    (dss_one (ds_if (tEq hr (dv 2) de_int)
    (dss_one (ds_drop (de_callD (can_words_of E) (hr.mono (by omega)) tk rfl (da_cons (dv 0) (da_cons de_int da_nil)) (fun _ => rfl) (hn_cons (hn_cons hn_nil)))))
    (dss_one (ds_drop (de_callC (can_deeds_of E) (hr.mono (by omega)) tk rfl (da_cons (dv 0) da_nil) (hn_cons hn_nil)))))))))
    (.cons ⟨rfl, by decide, .inl (E.glo 9)⟩ (sub_cons (E.exm 50) (sub_cons (E.exm 49) (sub_cons (E.exm 48) sub_nil))) (fun _ _ _ => (dss_one (ds_ret de_str))) (.cons ⟨rfl, by decide, .inl (E.glo 28)⟩ (sub_cons (E.exm 47) (sub_cons (E.exm 46) (sub_cons (E.exm 45) sub_nil))) (fun _ _ _ => (dss_one (ds_ret de_str))) .nil)))
    (dss_one (ds_ret de_str)))

/-! ### law -/
abbrev N_law : List Str := ["script", "n", "tree", "m", "length", "words", "deep", "turn", "wide", "wrong", "word", "told", "size", "k"]
theorem sc_law : FnScope N_law ["script"] (defScope (top 38)) := ⟨rfl, rfl, rfl, by decide +kernel, rfl, by decide +kernel, by decide +kernel⟩
theorem ok_law (E : Fx K mg base) {fd : FuncData} {kws : List (Str × V)} (F : FunD K "law" "law" (defArgs (top 38)) (defBody (top 38)) (defScope (top 38)) [] kws (He.fAd K ("law", none)) fd) : FnOk P w K mg base (L2.CX P w) 184 (He.fAd K ("law", none)) fd ["script"] (spD ⟨K, P, w⟩ (MoL K tg tl) 1 m_law) := by
  refine fn_of_data (N := N_law) F sc_law fun A outer s H E0 hr => ?_
  have tk := takes_of (X := (cxOf (L2.CX P w) P w K mg base N_law "law" (defScope (top 38)) (He.fAd K ("law", none)) (.ref (He.codeOf K ("law", none))) A outer s H E0)) rfl rfl rfl rfl
  have hp := passes_of (X := (cxOf (L2.CX P w) P w K mg base N_law "law" (defScope (top 38)) (He.fAd K ("law", none)) (.ref (He.codeOf K ("law", none))) A outer s H E0)) rfl
  exact (dss_cons (ds_set 1 sc_law.nd (de_callC (can__law_draws E) (hr.mono (by omega)) tk rfl (da_cons (de_callC (can__law_cell E) (hr.mono (by omega)) tk rfl (da_cons (dv 0) (da_cons de_int da_nil)) (hn_cons (hn_cons hn_nil))) (da_cons de_int da_nil)) (hn_cons (hn_cons hn_nil))))
    (dss_cons (ds_set 2 sc_law.nd (de_callC (can__law_tree E 60) (hr.mono (by omega)) tk rfl (da_cons (dv 1) (da_cons de_int (da_cons de_int da_nil))) (hn_cons (hn_cons (hn_cons hn_nil)))))
    (dss_cons (ds_set 3 sc_law.nd (de_callC (can__law_draws E) (hr.mono (by omega)) tk rfl (da_cons (de_callC (can__law_cell E) (hr.mono (by omega)) tk rfl (da_cons (dv 0) (da_cons de_int da_nil)) (hn_cons (hn_cons hn_nil))) (da_cons de_int da_nil)) (hn_cons (hn_cons hn_nil))))
    (dss_cons (ds_set 4 sc_law.nd (xMod (de_ix (dv 3) de_int) de_int))
    (dss_cons (by first | exact (ds_setLc 5 [(("size" : Str), 12), (("word" : Str), 10)] rfl sc_law.nd (di_seq (bSortG hr (E.fre 16) (de_n (dn_lc [(("word" : Str), 10)] rfl sc_law.nd (di_seq (de_callC (can__law_words E 60) (hr.mono (by omega)) tk rfl (da_cons (dv 2) (da_cons (dv 4) da_nil)) (hn_cons (hn_cons hn_nil)))) (blk_of (N := N_law) (sc := defScope (top 38)) (own := [(("word" : Str), 10)]) (by decide +kernel)) (by decide) (fun _ _ _ _ _ => (dg_one 10 sc_law.nd)) (fun _ _ _ _ _ => dts_nil) (fun _ _ _ _ _ => (de_tup (da_cons (bLen (E.fre 2) (dv 10)) (da_cons (dv 10) da_nil)))))))) (blk_of (N := N_law) (sc := defScope (top 38)) (own := [(("size" : Str), 12), (("word" : Str), 10)]) (by decide +kernel)) (by decide) (fun _ _ _ _ _ => (dg_all rfl sc_law.nd (nm_cons 12 (nm_cons 10 .nil)))) (fun _ _ _ _ _ => dts_nil) (fun _ _ _ _ _ => (dv 10))) | exact (ds_set 5 sc_law.nd (de_n (dn_lc [(("size" : Str), 12), (("word" : Str), 10)] rfl sc_law.nd (di_seq (bSortG hr (E.fre 16) (de_n (dn_lc [(("word" : Str), 10)] rfl sc_law.nd (di_seq (de_callC (can__law_words E 60) (hr.mono (by omega)) tk rfl (da_cons (dv 2) (da_cons (dv 4) da_nil)) (hn_cons (hn_cons hn_nil)))) (blk_of (N := N_law) (sc := defScope (top 38)) (own := [(("word" : Str), 10)]) (by decide +kernel)) (by decide) (fun _ _ _ _ _ => (dg_one 10 sc_law.nd)) (fun _ _ _ _ _ => dts_nil) (fun _ _ _ _ _ => (de_tup (da_cons (bLen (E.fre 2) (dv 10)) (da_cons (dv 10) da_nil)))))))) (blk_of (N := N_law) (sc := defScope (top 38)) (own := [(("size" : Str), 12), (("word" : Str), 10)]) (by decide +kernel)) (by decide) (fun _ _ _ _ _ => (dg_all rfl sc_law.nd (nm_cons 12 (nm_cons 10 .nil)))) (fun _ _ _ _ _ => dts_nil) (fun _ _ _ _ _ => (dv 10))))))
    (dss_cons (ds_set 6 sc_law.nd (dv 2))
    (dss_cons (ds_for hp rfl (di_range1 rfl (E.fre 23) (da_cons de_int da_nil) (h1 := (hn_cons hn_nil))) (dg_one 7 sc_law.nd)
    (dss_one (ds_set 6 sc_law.nd (de_tup (da_cons de_str (da_cons (dv 6) (da_cons (de_tup (da_cons de_str da_nil)) da_nil)))))))
    (dss_cons (ds_set 8 sc_law.nd (xAdd (de_tup (da_cons de_str da_nil)) (xRep (de_tup (da_cons (de_tup (da_cons de_str (da_cons de_str da_nil))) da_nil)) de_int)))
    (dss_cons (ds_set 9 sc_law.nd (de_tup (da_cons de_non (da_cons (de_tup da_nil) (da_cons (de_tup (da_cons de_str da_nil)) (da_cons (de_tup (da_cons de_str (da_cons de_str da_nil))) (da_cons (de_tup (da_cons de_str (da_cons de_int da_nil))) (da_cons (de_tup (da_cons de_str (da_cons (dv 2) da_nil))) (da_cons (de_tup (da_cons de_str (da_cons (dv 2) da_nil))) (da_cons (de_tup (da_cons de_str (da_cons (dv 2) (da_cons (dv 2) (da_cons (dv 2) da_nil))))) (da_cons (de_tup (da_cons de_str (da_cons (dv 2) (da_cons (dv 2) da_nil)))) (da_cons (de_lst (da_cons de_str (da_cons de_str da_nil))) (da_cons (dv 6) (da_cons (dv 8) (da_cons (de_tup (da_cons de_str (da_cons (dv 2) (da_cons de_non da_nil)))) (da_cons (de_tup (da_cons de_str (da_cons de_str (da_cons de_str da_nil)))) (da_cons (de_tup (da_cons de_int da_nil)) da_nil)))))))))))))))))
    (dss_cons (ds_if (dt_w (dw_or (tNe hr (de_callC (can__law_refusal E) (hr.mono (by omega)) tk rfl (da_cons (de_ix (dv 9) (xMod (de_ix (dv 3) de_int) de_int)) (da_cons de_non (da_cons (xMod (de_ix (dv 3) de_int) de_int) da_nil))) (hn_cons (hn_cons (hn_cons hn_nil)))) de_str) (dw_or1 (tNe hr (de_callC (can__law_refusal E) (hr.mono (by omega)) tk rfl (da_cons (dv 2) (da_cons (de_ix (de_tup (da_cons de_non (da_cons (de_lst (da_cons de_str da_nil)) (da_cons (de_tup (da_cons de_str da_nil)) (da_cons (de_tup (da_cons de_int da_nil)) (da_cons de_str da_nil)))))) (xMod (de_ix (dv 3) de_int) de_int)) (da_cons de_int da_nil))) (hn_cons (hn_cons (hn_cons hn_nil)))) de_str))))
    (dss_one (ds_ret de_bl))
    dss_nil)
    (dss_cons (ds_if (tNe hr (de_callC (can_deeds_of E) (hr.mono (by omega)) tk rfl (da_cons (dv 2) da_nil) (hn_cons hn_nil)) (bTuple (E.fre 7) (de_callC (can__law_names E 60) (hr.mono (by omega)) tk rfl (da_cons (dv 2) da_nil) (hn_cons hn_nil))))
    (dss_one (ds_ret de_bl))
    dss_nil)
    (dss_cons (ds_set 10 sc_law.nd (bTuple (E.fre 7) (de_n (dn_lc [(("k" : Str), 13)] rfl sc_law.nd (di_range1 rfl (E.fre 23) (da_cons (dv 4) da_nil) (h1 := (hn_cons hn_nil))) (blk_of (N := N_law) (sc := defScope (top 38)) (own := [(("k" : Str), 13)]) (by decide +kernel)) (by decide) (fun _ _ _ _ _ => (dg_one 13 sc_law.nd)) (fun _ _ _ _ _ => dts_nil) (fun _ _ _ _ _ => (de_ix de_str (xMod (de_ix (dv 3) (xAdd de_int (dv 13))) de_int)))))))
    (dss_cons (ds_if (tNe hr (de_callC (can_is_word_of E) (hr.mono (by omega)) tk rfl (da_cons (dv 2) (da_cons (dv 10) da_nil)) (hn_cons (hn_cons hn_nil))) (cIn hr (dv 10) (dv 5)))
    (dss_one (ds_ret de_bl))
    dss_nil)
    (dss_cons (ds_if (dt_w (dw_and (tGt (bLen (E.fre 2) (dv 5)) de_int) (dw_and1 (dt_not (dt_val (de_callC (can_is_word_of E) (hr.mono (by omega)) tk rfl (da_cons (dv 2) (da_cons (de_ix (dv 5) (xMod (de_ix (dv 3) de_int) (bLen (E.fre 2) (dv 5)))) da_nil)) (hn_cons (hn_cons hn_nil))))))))
    (dss_one (ds_ret de_bl))
    dss_nil)
    (dss_cons (ds_if (tGt (bLen (E.fre 2) (dv 5)) de_int)
    (dss_one (ds_ret de_bl))
    dss_nil)
    (dss_cons (ds_if (tNe hr (de_callD (can_words_of E) (hr.mono (by omega)) tk rfl (da_cons (dv 2) (da_cons (dv 4) da_nil)) (fun _ => rfl) (hn_cons (hn_cons hn_nil))) (bTuple (E.fre 7) (dv 5)))
    (dss_one (ds_ret de_bl))
    dss_nil)
    (dss_cons (ds_try rfl rfl ⟨rfl, by decide, .inl (E.glo 32)⟩ tk (sub_cons (E.exm 54) (sub_cons (E.exm 53) (sub_cons (E.exm 52) sub_nil))) (fun _ _ _ tk hp => (dss_one (ds_set 11 sc_law.nd (de_callKw (can_words_of E) (hr.mono (by omega)) tk rfl (da_cons (dv 2) (da_cons (dv 4) da_nil)) (bMax2 rfl (E.fre 55) de_int (xSub (bLen (E.fre 2) (dv 5)) de_int)) (hn_cons (hn_cons hn_nil))))))
    (fun _ _ _ => (dss_one (ds_ret de_bl))))
    (dss_one (ds_ret (de_and (cEq hr (bLen (E.fre 2) (dv 5)) de_int) (de_one (cEq hr (dv 11) (de_tup da_nil)))))))))))))))))))))))
end
end K89

set_option Elab.async false
set_option linter.all false
set_option maxRecDepth 100000
set_option maxHeartbeats 0
namespace K89
open PySem PySem.Spec PyProof.Rows L2 Dl
abbrev RR : PySem.W.OpenRow := PySem.W.OpenLaw.row PySem.Challenge.rw_tokenworks_k89_words_of_trees
abbrev hk : PySem.W.Hook := He.hookX 6 fa fn [] tf ex
def ob (s : PySem.W.SharedT) : He.AlX := He.obsX 6 fa fn [] tf ex (HandSHeadRun.getT s)
theorem ob_eq (s : PySem.W.SharedT) : ob s = hk.obs s.abs := He.obsX_eq (HandSHeadRun.getT_eq s)
def loose : List Str := (["__name__", "NetError", "TooMany", "BadTree", "BadWord", "LETTERS", "SIGNS", "is_name", "KINDS", "MOST_DEEP", "MOST_LEAVES", "check_tree", "check_part", "leaves_of", "deeds_of", "is_nullable", "rests", "without_twins", "seq_of", "and_of", "seq_rests", "and_rests", "loop_rests", "check_names", "is_word_of", "words_of", "_law_cell", "_law_draws", "_law_tree", "_law_mixed"] : List Str) ++ (["_law_once", "_law_joined", "_law_words", "_law_names", "_law_refusal"] : List Str)
theorem run (w : World) : HandSHeadRun.RunEq RR (PySem.W.view RR.prog [38]) hk ob 4000 loose w := by
  intro os
  kernel_rfl
end K89

set_option Elab.async false
set_option linter.all false
set_option maxRecDepth 100000
set_option maxHeartbeats 2000000
/-! min(.., key=..) over numbers, its key a pair of a number and the item. -/
namespace Dl
open PySem PySem.Spec PyProof.Rows MinDt PySem.W SrtD
theorem keysF_enc {β : Type} {j : Nat} {g : Ev} {δ : Env} {enc k : β → D} : ∀ {bs : List β}, (∀ b ∈ bs, g (δ.set j (.val (enc b))) = .ok (k b)) → keysF j g δ (bs.map enc) = .ok (bs.map k)
  | [], _ => rfl
  | b :: bs, q => by
    rw [List.map_cons]
    unfold keysF
    rw [q b List.mem_cons_self, keysF_enc fun y hy => q y (List.mem_cons_of_mem _ hy)]
    rfl
theorem kix_c {i : Int} {α : Type} {x y : α} (h0 : 0 ≤ i) (h1 : i < 16777216) : (if 0 ≤ i ∧ i < 16777216 then x else y) = x := if_pos ⟨h0, h1⟩
theorem kix_tup {xs : List D} {a : Nat} (h : a < 16777216) : kix (.tup xs) (.int (a : Nat)) = xs[a]? := by
  have e : ∀ i : Int, 0 ≤ i → i < 16777216 → kix (.tup xs) (.int i) = xs[i.toNat]? := fun i h0 h1 => kix_c h0 h1
  rw [e _ (by omega) (by omega), Int.toNat_natCast]
@[simp] theorem ev_eVd0 (d : D) (δ : Env) : eVd 0 (.val d :: δ) = if d.dat = true then .ok d else .bad := rfl
@[simp] theorem ev_eVds (i : Nat) (x : S) (δ : Env) : eVd (i + 1) (x :: δ) = eVd i δ := by unfold eVd; rw [List.getElem?_cons_succ]
@[simp] theorem dat_int (i : Int) : (D.int i).dat = true := rfl
end Dl

set_option Elab.async false
set_option linter.all false
set_option maxRecDepth 100000
set_option maxHeartbeats 2000000
/-! k89: trees and their words, with no program in sight. -/
namespace K89
open PySem Dl
inductive Kd
  | seq | xor | and
inductive Tr
  | sk
  | act (n : Str)
  | nd (k : Kd) (ts : List Tr)
  | lp (a b : Tr)
/-! ### words mixed -/
inductive Mix {α : Type} : List α → List α → List α → Prop
  | nil : Mix [] [] []
  | l {a : α} {u v w : List α} : Mix u v w → Mix (a :: u) v (a :: w)
  | r {b : α} {u v w : List α} : Mix u v w → Mix u (b :: v) (b :: w)
section
variable {α : Type} {u v w x y p q : List α}
theorem mix_len (h : Mix u v w) : w.length = u.length + v.length := by
  induction h with
  | nil => rfl
  | l _ ih => simp only [List.length_cons]; omega
  | r _ ih => simp only [List.length_cons]; omega
theorem mix_comm (h : Mix u v w) : Mix v u w := by
  induction h with
  | nil => exact .nil
  | l _ ih => exact .r ih
  | r _ ih => exact .l ih
theorem mix_nl : ∀ v : List α, Mix [] v v
  | [] => .nil
  | _ :: v => .r (mix_nl v)
theorem mix_nl' {u v w : List α} (h : Mix u v w) : u = [] → w = v := by
  induction h with
  | nil => intro _; rfl
  | l _ ih => intro h; cases h
  | r _ ih => intro h; rw [ih h]
theorem mix_nil {w' : List α} (h : Mix u v w') : w' = [] → u = [] ∧ v = [] := by
  induction h with
  | nil => intro _; exact ⟨rfl, rfl⟩
  | l _ ih => intro h; cases h
  | r _ ih => intro h; cases h
theorem mix_cons {a : α} {w' : List α} (h : Mix u v w') : w' = a :: w → (∃ u', u = a :: u' ∧ Mix u' v w) ∨ (∃ v', v = a :: v' ∧ Mix u v' w) := by
  intro e
  cases h with
  | nil => cases e
  | l h => cases e; exact .inl ⟨_, rfl, h⟩
  | r h => cases e; exact .inr ⟨_, rfl, h⟩
theorem mix_assoc (h2 : Mix w x y) : ∀ {u v : List α}, Mix u v w → ∃ z, Mix v x z ∧ Mix u z y := by
  induction h2 with
  | nil => intro u v h; obtain ⟨rfl, rfl⟩ := mix_nil h rfl; exact ⟨[], .nil, .nil⟩
  | l _ ih =>
    intro u v h
    rcases mix_cons h rfl with ⟨u', rfl, h'⟩ | ⟨v', rfl, h'⟩
    · obtain ⟨z, h3, h4⟩ := ih h'
      exact ⟨z, h3, .l h4⟩
    · obtain ⟨z, h3, h4⟩ := ih h'
      exact ⟨_ :: z, .l h3, .r h4⟩
  | r _ ih =>
    intro u v h
    obtain ⟨z, h3, h4⟩ := ih h
    exact ⟨_ :: z, .r h3, .r h4⟩
theorem mix_assoc' (h1 : Mix p q w) (h2 : Mix u v q) : ∃ z, Mix p u z ∧ Mix z v w := by
  obtain ⟨z, h3, h4⟩ := mix_assoc (mix_comm h1) (mix_comm h2)
  exact ⟨z, mix_comm h3, mix_comm h4⟩
end
/-! ### words of a loop -/
inductive Star (A B : List Str → Prop) : List Str → Prop
  | one {w : List Str} : A w → Star A B w
  | more {u v x : List Str} : A u → B v → Star A B x → Star A B (u ++ (v ++ x))
section
variable {A B : List Str → Prop} {w : List Str} {x : Str}
theorem star_nil {w : List Str} (h : Star A B w) : w = [] → A [] := by
  intro e
  cases h with
  | one h => rw [e] at h; exact h
  | more h1 h2 h3 =>
    rw [List.append_eq_nil_iff] at e
    rw [e.1] at h1
    exact h1
theorem star_cons {w' : List Str} (h : Star A B w') : ∀ {w : List Str}, w' = x :: w → (∃ u v, w = u ++ v ∧ A (x :: u) ∧ (v = [] ∨ ∃ p q, v = p ++ q ∧ B p ∧ Star A B q)) ∨ (A [] ∧ ∃ u v, w = u ++ v ∧ B (x :: u) ∧ Star A B v) := by
  induction h with
  | one h => intro w e; subst e; exact .inl ⟨w, [], by simp, h, .inl rfl⟩
  | @more u v y h1 h2 h3 ih =>
    intro w e
    cases u with
    | cons c u =>
      cases e
      exact .inl ⟨u, v ++ y, rfl, h1, .inr ⟨v, y, rfl, h2, h3⟩⟩
    | nil =>
      cases v with
      | cons c v =>
        cases e
        exact .inr ⟨h1, v, y, rfl, h2, h3⟩
      | nil => exact ih e
theorem star_back1 {u v : List Str} (h1 : A u) (h2 : v = [] ∨ ∃ p q, v = p ++ q ∧ B p ∧ Star A B q) : Star A B (u ++ v) := by
  rcases h2 with rfl | ⟨p, q, rfl, h3, h4⟩
  · rw [List.append_nil]; exact .one h1
  · exact .more h1 h3 h4
theorem star_back2 {u v : List Str} (h0 : A []) (h1 : B u) (h2 : Star A B v) : Star A B (u ++ v) := .more h0 h1 h2
def Pw (A B : List Str → Prop) : Nat → List Str → Prop
  | 0 => A
  | k + 1 => fun w => Pw A B k w ∨ ∃ u v x, w = u ++ (v ++ x) ∧ Pw A B k u ∧ B v ∧ A x
theorem pw_mono {k m : Nat} (h : k ≤ m) (q : Pw A B k w) : Pw A B m w := by
  induction h with
  | refl => exact q
  | step _ ih => exact .inl ih
theorem star_snoc {u v x : List Str} (h : Star A B u) (h1 : B v) (h2 : A x) : Star A B (u ++ (v ++ x)) := by
  induction h with
  | one h => exact .more h h1 (.one h2)
  | more g1 g2 g3 ih =>
    have := Star.more g1 g2 ih
    simpa [List.append_assoc] using this
theorem pw_star : ∀ (k : Nat) (w : List Str), Pw A B k w → Star A B w
  | 0, _, h => .one h
  | k + 1, _, .inl h => pw_star k _ h
  | k + 1, _, .inr ⟨u, v, x, e, h1, h2, h3⟩ => by rw [e]; exact star_snoc (pw_star k u h1) h2 h3
theorem pw_left {u v : List Str} (h1 : A u) (h2 : B v) : ∀ (k : Nat) (x : List Str), Pw A B k x → Pw A B (k + 1) (u ++ (v ++ x))
  | 0, x, h => .inr ⟨u, v, x, rfl, h1, h2, h⟩
  | k + 1, x, .inl h => .inl (pw_left h1 h2 k x h)
  | k + 1, _, .inr ⟨p, q, r, e, g1, g2, g3⟩ => .inr ⟨u ++ (v ++ p), q, r, by rw [e]; simp [List.append_assoc], pw_left h1 h2 k p g1, g2, g3⟩
theorem star_pw {w : List Str} (h : Star A B w) : ∃ k, Pw A B k w := by
  induction h with
  | one h => exact ⟨0, h⟩
  | more h1 h2 _ ih => obtain ⟨k, hk⟩ := ih; exact ⟨k + 1, pw_left h1 h2 k _ hk⟩
theorem pw_len : ∀ (k : Nat) (w : List Str), Pw A B k w → Pw A B w.length w
  | 0, w, h => pw_mono (Nat.zero_le _) h
  | k + 1, w, .inl h => pw_len k w h
  | k + 1, w, .inr ⟨u, v, x, e, h1, h2, h3⟩ => by
    have hu := pw_len k u h1
    by_cases hz : v ++ x = []
    · have : w = u := by rw [e, hz, List.append_nil]
      rw [this]; exact hu
    · have hl : u.length + 1 ≤ w.length := by
        rw [e, List.length_append]
        have := List.length_pos_iff.mpr hz
        omega
      exact pw_mono hl (.inr ⟨u, v, x, e, hu, h2, h3⟩)
theorem star_pwl (h : Star A B w) {m : Nat} (hm : w.length ≤ m) : Pw A B m w := by
  obtain ⟨k, hk⟩ := star_pw h
  exact pw_mono hm (pw_len k w hk)
end
/-! ### words of a tree -/
mutual
def Lang : Tr → List Str → Prop
  | .sk => fun w => w = []
  | .act n => fun w => w = [n]
  | .nd .seq ts => LSeq ts
  | .nd .xor ts => LXor ts
  | .nd .and ts => LAnd ts
  | .lp a b => Star (Lang a) (Lang b)
def LSeq : List Tr → List Str → Prop
  | [] => fun w => w = []
  | t :: ts => fun w => ∃ u v, w = u ++ v ∧ Lang t u ∧ LSeq ts v
def LXor : List Tr → List Str → Prop
  | [] => fun _ => False
  | t :: ts => fun w => Lang t w ∨ LXor ts w
def LAnd : List Tr → List Str → Prop
  | [] => fun w => w = []
  | t :: ts => fun w => ∃ u v, Lang t u ∧ LAnd ts v ∧ Mix u v w
end
theorem lxor_iff : ∀ {ts : List Tr} {w : List Str}, LXor ts w ↔ ∃ t ∈ ts, Lang t w
  | [], w => ⟨fun h => False.elim h, fun ⟨_, h, _⟩ => by cases h⟩
  | t :: ts, w => by
    show (Lang t w ∨ LXor ts w) ↔ _
    rw [lxor_iff]
    simp
theorem lseq_app : ∀ {as bs : List Tr} {w : List Str}, LSeq (as ++ bs) w ↔ ∃ u v, w = u ++ v ∧ LSeq as u ∧ LSeq bs v
  | [], bs, w => ⟨fun h => ⟨[], w, rfl, rfl, h⟩, fun ⟨u, v, e, h1, h2⟩ => by
      have h1 : u = [] := h1
      subst h1; rw [e]; exact h2⟩
  | t :: as, bs, w => by
    constructor
    · rintro ⟨u, v, e, h1, h2⟩
      obtain ⟨p, q, e', h3, h4⟩ := lseq_app.mp h2
      exact ⟨u ++ p, q, by rw [e, e', List.append_assoc], ⟨u, p, rfl, h1, h3⟩, h4⟩
    · rintro ⟨u, v, e, ⟨p, q, e', h1, h2⟩, h3⟩
      exact ⟨p, q ++ v, by rw [e, e', List.append_assoc], h1, lseq_app.mpr ⟨q, v, rfl, h2, h3⟩⟩
theorem lseq_one {t : Tr} {w : List Str} : LSeq [t] w ↔ Lang t w := ⟨fun ⟨u, v, e, h1, h2⟩ => by
    have h2 : v = [] := h2
    subst h2; rw [e, List.append_nil]; exact h1, fun h => ⟨w, [], by rw [List.append_nil], h, rfl⟩⟩
theorem land_app : ∀ {as bs : List Tr} {w : List Str}, LAnd (as ++ bs) w ↔ ∃ u v, LAnd as u ∧ LAnd bs v ∧ Mix u v w
  | [], bs, w => ⟨fun h => ⟨[], w, rfl, h, mix_nl w⟩, fun ⟨u, v, h1, h2, h3⟩ => by
      have h1 : u = [] := h1
      rw [mix_nl' h3 h1]; exact h2⟩
  | t :: as, bs, w => by
    constructor
    · rintro ⟨p, q, h1, h2, h3⟩
      obtain ⟨u, v, h4, h5, h6⟩ := land_app.mp h2
      obtain ⟨z, h7, h8⟩ := mix_assoc' h3 h6
      exact ⟨z, v, ⟨p, u, h1, h4, h7⟩, h5, h8⟩
    · rintro ⟨u, v, ⟨p, q, h1, h2, h3⟩, h4, h5⟩
      obtain ⟨z, h6, h7⟩ := mix_assoc h5 h3
      exact ⟨p, z, h1, land_app.mpr ⟨q, v, h2, h4, h6⟩, h7⟩
theorem land_one {t : Tr} {w : List Str} : LAnd [t] w ↔ Lang t w := ⟨fun ⟨u, v, h1, h2, h3⟩ => by
    have h2 : v = [] := h2
    rw [mix_nl' (mix_comm h3) h2]; exact h1, fun h => ⟨w, [], h, rfl, mix_comm (mix_nl w)⟩⟩
theorem land_mid {pre post : List Tr} {t : Tr} {w : List Str} : LAnd (pre ++ t :: post) w ↔ ∃ u v, Lang t u ∧ LAnd (pre ++ post) v ∧ Mix u v w := by
  constructor
  · intro h
    obtain ⟨p, q, h1, ⟨u, v, h2, h3, h4⟩, h5⟩ := land_app.mp h
    obtain ⟨z, h6, h7⟩ := mix_assoc (mix_comm h5) h4
    exact ⟨u, z, h2, land_app.mpr ⟨p, v, h1, h3, mix_comm h6⟩, h7⟩
  · rintro ⟨u, v, h1, h2, h3⟩
    obtain ⟨p, q, h4, h5, h6⟩ := land_app.mp h2
    obtain ⟨z, h7, h8⟩ := mix_assoc (mix_comm h3) h6
    exact land_app.mpr ⟨p, z, h4, ⟨u, q, h1, h5, mix_comm h7⟩, h8⟩
theorem land_d {x : Str} : ∀ {ts : List Tr} {w : List Str}, LAnd ts (x :: w) ↔ ∃ pre t post, ts = pre ++ t :: post ∧ ∃ u v, Lang t (x :: u) ∧ LAnd (pre ++ post) v ∧ Mix u v w := by
  intro ts
  induction ts with
  | nil => intro w; exact ⟨fun h => (by cases h), fun ⟨pre, t, post, e, _⟩ => by simp at e⟩
  | cons t ts ih =>
    intro w
    constructor
    · rintro ⟨p, q, h1, h2, h3⟩
      rcases mix_cons h3 rfl with ⟨p', rfl, h4⟩ | ⟨q', rfl, h4⟩
      · exact ⟨[], t, ts, rfl, p', q, h1, h2, h4⟩
      · obtain ⟨pre, s, post, e, u, v, h5, h6, h7⟩ := ih.mp h2
        obtain ⟨z, h8, h9⟩ := mix_assoc (mix_comm h4) h7
        exact ⟨t :: pre, s, post, by rw [e]; rfl, u, z, h5, ⟨p, v, h1, h6, mix_comm h8⟩, h9⟩
    · rintro ⟨pre, s, post, e, u, v, h1, h2, h3⟩
      rw [e]
      exact land_mid.mpr ⟨x :: u, v, h1, h2, .l h3⟩
/-! ### the empty word -/
mutual
def nul : Tr → Bool
  | .sk => true
  | .act _ => false
  | .nd .seq ts => nulA ts
  | .nd .xor ts => nulE ts
  | .nd .and ts => nulA ts
  | .lp a _ => nul a
def nulA : List Tr → Bool
  | [] => true
  | t :: ts => nul t && nulA ts
def nulE : List Tr → Bool
  | [] => false
  | t :: ts => nul t || nulE ts
end
theorem nulA_all : ∀ ts : List Tr, nulA ts = ts.all nul
  | [] => rfl
  | t :: ts => by rw [nulA, nulA_all ts]; rfl
theorem nulE_any : ∀ ts : List Tr, nulE ts = ts.any nul
  | [] => rfl
  | t :: ts => by rw [nulE, nulE_any ts]; rfl
mutual
theorem nul_iff : ∀ t : Tr, nul t = true ↔ Lang t []
  | .sk => ⟨fun _ => rfl, fun _ => rfl⟩
  | .act _ => ⟨fun h => (by cases h), fun h => by cases h⟩
  | .nd .seq ts => nulS_iff ts
  | .nd .xor ts => nulE_iff ts
  | .nd .and ts => nulA_iff ts
  | .lp a b => (nul_iff a).trans ⟨fun h => .one h, fun h => star_nil h rfl⟩
theorem nulS_iff : ∀ ts : List Tr, nulA ts = true ↔ LSeq ts []
  | [] => ⟨fun _ => rfl, fun _ => rfl⟩
  | t :: ts => by
    show (nul t && nulA ts) = true ↔ _
    rw [Bool.and_eq_true, nul_iff t, nulS_iff ts]
    constructor
    · rintro ⟨h1, h2⟩; exact ⟨[], [], rfl, h1, h2⟩
    · rintro ⟨u, v, e, h1, h2⟩
      obtain ⟨rfl, rfl⟩ := List.append_eq_nil_iff.mp e.symm
      exact ⟨h1, h2⟩
theorem nulE_iff : ∀ ts : List Tr, nulE ts = true ↔ LXor ts []
  | [] => ⟨fun h => (by cases h), fun h => False.elim h⟩
  | t :: ts => by
    show (nul t || nulE ts) = true ↔ (Lang t [] ∨ LXor ts [])
    rw [Bool.or_eq_true, nul_iff t, nulE_iff ts]
theorem nulA_iff : ∀ ts : List Tr, nulA ts = true ↔ LAnd ts []
  | [] => ⟨fun _ => rfl, fun _ => rfl⟩
  | t :: ts => by
    show (nul t && nulA ts) = true ↔ _
    rw [Bool.and_eq_true, nul_iff t, nulA_iff ts]
    constructor
    · rintro ⟨h1, h2⟩; exact ⟨[], [], h1, h2, .nil⟩
    · rintro ⟨u, v, h1, h2, h3⟩
      obtain ⟨rfl, rfl⟩ := mix_nil h3 rfl
      exact ⟨h1, h2⟩
end
/-! ### parts put together -/
def isSk : Tr → Bool
  | .sk => true
  | _ => false
def cut1 : Tr → List Tr
  | .nd .seq ts => ts
  | .sk => []
  | t => [t]
def flat : List Tr → List Tr
  | [] => []
  | t :: ts => cut1 t ++ flat ts
def pack (k : Kd) : List Tr → Tr
  | [] => .sk
  | [t] => t
  | ts => .nd k ts
def seqOf (ts : List Tr) : Tr := pack .seq (flat ts)
def andOf (ts : List Tr) : Tr := pack .and (ts.filter fun t => !isSk t)
theorem lang_cut1 {w : List Str} : ∀ t : Tr, LSeq (cut1 t) w ↔ Lang t w
  | .nd .seq ts => Iff.rfl
  | .sk => Iff.rfl
  | .act _ => lseq_one
  | .nd .xor _ => lseq_one
  | .nd .and _ => lseq_one
  | .lp _ _ => lseq_one
theorem lang_flat : ∀ {ts : List Tr} {w : List Str}, LSeq (flat ts) w ↔ LSeq ts w
  | [], w => Iff.rfl
  | t :: ts, w => by
    show LSeq (cut1 t ++ flat ts) w ↔ ∃ u v, w = u ++ v ∧ Lang t u ∧ LSeq ts v
    rw [lseq_app]
    constructor
    · rintro ⟨u, v, e, h1, h2⟩; exact ⟨u, v, e, (lang_cut1 t).mp h1, lang_flat.mp h2⟩
    · rintro ⟨u, v, e, h1, h2⟩; exact ⟨u, v, e, (lang_cut1 t).mpr h1, lang_flat.mpr h2⟩
theorem lang_seqOf {ts : List Tr} {w : List Str} : Lang (seqOf ts) w ↔ LSeq ts w := by
  rw [← lang_flat]
  unfold seqOf
  generalize flat ts = l
  match l with
  | [] => exact Iff.rfl
  | [t] => exact lseq_one.symm
  | _ :: _ :: _ => exact Iff.rfl
theorem lang_filt : ∀ {ts : List Tr} {w : List Str}, LAnd (ts.filter fun t => !isSk t) w ↔ LAnd ts w
  | [], w => Iff.rfl
  | t :: ts, w => by
    cases h : isSk t with
    | true =>
      rw [List.filter_cons_of_neg (by rw [h]; decide), lang_filt]
      have : t = .sk := by cases t <;> first | rfl | cases h
      subst this
      constructor
      · intro h; exact ⟨[], w, rfl, h, mix_nl w⟩
      · rintro ⟨u, v, h1, h2, h3⟩
        rw [mix_nl' h3 h1]; exact h2
    | false =>
      rw [List.filter_cons_of_pos (by rw [h]; decide)]
      constructor
      · rintro ⟨u, v, h1, h2, h3⟩; exact ⟨u, v, h1, lang_filt.mp h2, h3⟩
      · rintro ⟨u, v, h1, h2, h3⟩; exact ⟨u, v, h1, lang_filt.mpr h2, h3⟩
theorem lang_andOf {ts : List Tr} {w : List Str} : Lang (andOf ts) w ↔ LAnd ts w := by
  rw [← lang_filt]
  unfold andOf
  generalize (ts.filter fun t => !isSk t) = l
  match l with
  | [] => exact Iff.rfl
  | [t] => exact land_one.symm
  | _ :: _ :: _ => exact Iff.rfl
end K89

set_option Elab.async false
set_option linter.all false
set_option maxRecDepth 100000
set_option maxHeartbeats 1000000
/-! Nets as plain data: names, sides, moves, nets, marks. -/
namespace Sh
open PySem Dl

/-! ### numbers -/
/-! ### names -/
def lets : List Nat := [97,98,99,100,101,102,103,104,105,106,107,108,109,110,111,112,113,114,115,116,117,118,119,120,121,122]
def sgs : List Nat := lets ++ [48,49,50,51,52,53,54,55,56,57]
theorem s_lets : (Str.ofString "abcdefghijklmnopqrstuvwxyz") = Tx lets := by rfl
theorem s_sgs : (Str.ofString "abcdefghijklmnopqrstuvwxyz0123456789") = Tx sgs := by rfl
def isNm : List Nat → Bool
  | [] => false
  | c :: r => decide ((c :: r).length ≤ 8) && decide (c ∈ lets) && (c :: r).all fun c => decide (c ∈ sgs)
def nmS (x : Str) : Bool := isNm x.cps.toList
theorem nm_text (w : List Nat) (h : w.length ≤ 1000000) : m_is_name [.str (Tx w)] = .ok (.bl (isNm w)) := by
  have hz : w.length ≤ sizeLine := by rw [sz_eq]; omega
  unfold m_is_name runF b_is_name y1_is_name
  have hi : ∀ d, initE 2 [d] = [.val d, .no] := fun _ => rfl
  cases w with
  | nil => simp [hi, len_S hz, isNm, tyN, kit_str_str]
  | cons c r =>
    have e0 : ixD (.str (Tx (c :: r))) (.int 0) = some (.str (Tx [c])) := ix_S hz 0
    have hl := len_S hz
    have hl' : lenD [.str (Tx (c :: r))] = some (.int ((r.length : Int) + 1)) := hl
    have h1'' : ¬ ((r.length : Int) + 1 < 1) := by omega
    by_cases h1 : r.length + 1 ≤ 8
    · have h1' : ¬ (8 < ((r.length : Int) + 1)) := by omega
      by_cases h2 : c ∈ lets
      · have g : genF false (.one 1) tYesD (e2 inD (eV 1) (eC (.str (Tx sgs)))) (wipeE [.val (.str (Tx (c :: r))), .no] [1]) ((c :: r).map fun c => .str (Tx [c])) = .ok (.bl ((c :: r).all fun c => decide (c ∈ sgs))) := by
          refine genF_enc_all (enc := fun c => D.str (Tx [c])) fun b _ => ⟨_, rfl, rfl, ?_⟩
          simp [in_S1]
        simp [hi, hl', isNm, e0, s_lets, nin_S1, h2, tyN, kit_str_str, h1', h1'', itD_str, s_sgs, -List.map_cons, -wp_cons, -wp_nil, g, h1]
      · simp [hi, hl', isNm, e0, s_lets, nin_S1, h2, tyN, kit_str_str, h1', h1'']
    · have h1' : (8 < ((r.length : Int) + 1)) := by omega
      simp [hi, hl', isNm, tyN, kit_str_str, h1', h1'', h1]
theorem nm_str (x : Str) (h : x.length ≤ 1000000) : m_is_name [.str x] = .ok (.bl (nmS x)) := by
  have := nm_text x.cps.toList (by simpa [Str.length] using h)
  rw [S_eta] at this
  exact this
theorem nm_no (d : D) {t : String} (h : tyN d = some t) (hs : ∀ x, d ≠ .str x) : m_is_name [d] = .ok (.bl false) := by
  unfold m_is_name runF b_is_name
  have hi : initE 2 [d] = [.val d, .no] := rfl
  rw [hi]
  have e : isS d = false := by cases d <;> first | rfl | exact absurd rfl (hs _)
  simp [isi_str d h, e]
theorem nm_len {x : Str} (h : nmS x = true) : x.length ≤ 8 := by
  unfold nmS at h
  have e : x.length = x.cps.toList.length := by simp [Str.length]
  rw [e]
  cases hx : x.cps.toList with
  | nil => simp
  | cons c r =>
    rw [hx] at h
    simp only [isNm, Bool.and_eq_true, decide_eq_true_eq] at h
    exact h.1.1
theorem sgs_lt : ∀ c ∈ sgs, c < 0x110000 := by decide
theorem nm_good {x : Str} (h : nmS x = true) : goodS x = true := by
  unfold nmS at h
  unfold goodS
  rw [← Array.all_toList]
  cases hx : x.cps.toList with
  | nil => rfl
  | cons c r =>
    rw [hx] at h
    simp only [isNm, Bool.and_eq_true, List.all_eq_true, decide_eq_true_eq] at h
    rw [List.all_eq_true]
    intro a ha
    rw [decide_eq_true_eq]
    exact sgs_lt a (h.2 a ha)
theorem name_ok {x : Str} (h : nmS x = true) : m_is_name [.str x] = .ok (.bl true) := by
  rw [nm_str x (by have := nm_len h; omega), h]

/-! ### sides, moves, nets -/
abbrev Sd := List (Str × Nat)
abbrev Mv := Str × Sd × Sd
structure PlOk (ps : List Str) : Prop where
  nm : ∀ x ∈ ps, nmS x = true
  nd : ps.Nodup
  pos : 1 ≤ ps.length
  few : ps.length ≤ 8
def SdOk (ps : List Str) (s : Sd) : Prop := (∀ p ∈ s, p.1 ∈ ps ∧ 1 ≤ p.2 ∧ p.2 ≤ 9) ∧ s.Pairwise fun a b => ps.idxOf a.1 < ps.idxOf b.1
structure NetOk (ps : List Str) (ms : List Mv) : Prop where
  pl : PlOk ps
  mv : ∀ m ∈ ms, nmS m.1 = true ∧ SdOk ps m.2.1 ∧ SdOk ps m.2.2
  nd : (ps ++ ms.map (·.1)).Nodup
  few : ms.length ≤ 9
end Sh

set_option Elab.async false
set_option linter.all false
set_option maxRecDepth 100000
set_option maxHeartbeats 1000000
/-! Marks, rows, firing. -/
namespace Sh
open PySem Dl

abbrev ni (k : Nat) : D := .int k
/-! ### check_mark -/
/-! ### rows -/
/-! ### firing -/
end Sh

set_option Elab.async false
set_option linter.all false
set_option maxRecDepth 100000
set_option maxHeartbeats 1000000
/-! The law's draws, nets and marks. -/
namespace Sh
open PySem Dl

theorem cellS_ok (ns : List Int) (k : Nat) : ∃ c : Int, m__law_cell [.lst (ns.map D.int), .int (k : Int)] = .ok (.int c) := cell_ok ns k
theorem intT1 (i : Int) : intTD [.int i] = some (.int i) := rfl
theorem drawS_loop (c : Int) (cnt : D) : ∀ (ks : List Nat) (L : List Nat) (r : Int) (x4 x5 : S), L.length + ks.length ≤ 100000 → (∀ k ∈ ks, k < 100000) → ∃ (L' : List Nat) (r' : Int) (y4 y5 : S), L'.length = L.length + ks.length ∧
    forF (.one 4) l1__law_draws (ks.map fun (k : Nat) => D.int (k : Int)) [.val (.int c), .val cnt, .own (ntl L), .val (.int r), x4, x5] = .next [.val (.int c), .val cnt, .own (ntl L'), .val (.int r'), y4, y5]
  | [], L, r, x4, x5, _, _ => ⟨L, r, x4, x5, rfl, rfl⟩
  | k :: ks, L, r, x4, x5, hl, hk => by
    rw [List.length_cons] at hl
    have hk0 := hk k List.mem_cons_self
    have m1 := mul_r c 48271 (by decide)
    have m2 := mul_r (k : Int) 69621 (by decide)
    have md := mod_pos (c * 48271 + (k : Int) * 69621 + 1) 2147483647 (by decide)
    have hxl0 : ((c * 48271 + (k : Int) * 69621 + 1) % 2147483647).toNat < 2147483648 := by
      have h1 : (c * 48271 + (k : Int) * 69621 + 1) % 2147483647 < 2147483647 := Int.emod_lt_of_pos _ (by decide)
      omega
    generalize hx : ((c * 48271 + (k : Int) * 69621 + 1) % 2147483647).toNat = x at md hxl0
    have hxl : (x : Int) < 2147483648 := by omega
    have a3 := mul_r (x : Int) (x : Int) (by omega)
    have a4 := mul_r (x : Int) 40692 (by decide)
    have hap : ∀ (f : Ev) (y : Nat) (δ0 : Dl.Env), f [.val (.int c), .val cnt, .own (ntl L), .val (.int r), .val (.int (k : Int)), .val (.int (x : Int))] = .ok (.int (y : Int)) →
        sApp 2 f [.val (.int c), .val cnt, .own (ntl L), .val (.int r), .val (.int (k : Int)), .val (.int (x : Int))] = .next [.val (.int c), .val cnt, .own (ntl (L ++ [y])), .val (.int r), .val (.int (k : Int)), .val (.int (x : Int))] := fun f y δ0 h => by
      rw [ntl_snoc, ev_sApp (ds := ntl L) _ _ rfl (by rw [ntl_len]; omega), h]
      rfl
    rw [List.map_cons]
    by_cases hc : c ≥ 1000000000000000000
    · obtain ⟨L', r', y4, y5, h1, h2⟩ := drawS_loop c cnt ks (L ++ [(r % 1009).toNat]) (r / 1009) (.val (.int (k : Int))) (.val (.int (x : Int))) (by rw [List.length_append, List.length_singleton]; omega) fun j hj => hk j (List.mem_cons_of_mem _ hj)
      refine ⟨L', r', y4, y5, by rw [h1, List.length_append, List.length_singleton, List.length_cons]; omega, ?_⟩
      have d1 := mod_pos r 1009 (by decide)
      have d2 := fdiv_pos r 1009 (by decide) (by decide)
      have ap := hap (e2 modD (eV 3) (eC (.int 1009))) (r % 1009).toNat [] (by simp only [ev_e2, ev_eVs, ev_eV0, ev_eC, ev_bind_ok, d1, ev_ofO_some])
      simp only [forF, put_one, List.set_cons_succ, List.set_cons_zero, l1__law_draws, ev_sSeq, ev_sSet, ev_e2, ev_eB, ev_aCons, ev_aNil, ev_eVs, ev_eV0, ev_eC, ev_bind_ok, m1, m2, ev_ofO_some, add_int, intT1, md, ev_bindF_ok, ev_sIf, ev_tB1, pow18, ge_int, decide_eq_true hc, blR_bl, if_true, ap, d2]
      exact h2
    · generalize hy : (((x : Int) * (x : Int) + (x : Int) * 40692) % 2147483399).toNat = y
      obtain ⟨L', r', y4, y5, h1, h2⟩ := drawS_loop c cnt ks (L ++ [y / 7]) r (.val (.int (k : Int))) (.val (.int (x : Int))) (by rw [List.length_append, List.length_singleton]; omega) fun j hj => hk j (List.mem_cons_of_mem _ hj)
      refine ⟨L', r', y4, y5, by rw [h1, List.length_append, List.length_singleton, List.length_cons]; omega, ?_⟩
      have d1 := mod_pos ((x : Int) * (x : Int) + (x : Int) * 40692) 2147483399 (by decide)
      rw [hy] at d1
      have d2 : fdivD (.int (y : Int)) (.int 7) = some (.int ((y / 7 : Nat) : Int)) := fdiv_nat y 7 (by decide) (by decide)
      have ap := hap (e2 fdivD (e2 modD (eB intTD (aCons (e2 addD (e2 mulD (eV 5) (eV 5)) (e2 mulD (eV 5) (eC (.int 40692)))) aNil)) (eC (.int 2147483399))) (eC (.int 7))) (y / 7) [] (by
        simp only [ev_e2, ev_eB, ev_aCons, ev_aNil, ev_eVs, ev_eV0, ev_eC, ev_bind_ok, a3, a4, ev_ofO_some, add_int, intT1, d1, d2])
      simp only [forF, put_one, List.set_cons_succ, List.set_cons_zero, l1__law_draws, ev_sSeq, ev_sSet, ev_e2, ev_eB, ev_aCons, ev_aNil, ev_eVs, ev_eV0, ev_eC, ev_bind_ok, m1, m2, ev_ofO_some, add_int, intT1, md, ev_bindF_ok, ev_sIf, ev_tB1, pow18, ge_int, decide_eq_false hc, blR_bl, Bool.false_eq_true, if_false, ap]
      exact h2
theorem drawsS_ok (c : Int) (n : Nat) (hn : n ≤ 100000) : ∃ L : List Nat, L.length = n ∧ m__law_draws [.int c, .int (n : Int)] = .ok (.lst (ntl L)) := by
  have hi : ∀ a b, initE 6 [a, b] = [.val a, .val b, .no, .no, .no, .no] := fun _ _ => rfl
  obtain ⟨L, r, y4, y5, h1, h2⟩ := drawS_loop c (.int (n : Int)) (List.range n) [] c .no .no (by simp; omega) (fun k hk => by have := List.mem_range.mp hk; omega)
  refine ⟨L, by simpa using h1, ?_⟩
  unfold m__law_draws runF b__law_draws
  rw [hi]
  have rg := rng1 n (by omega)
  have e0 : (ntl [] : List D) = [] := rfl
  rw [e0] at h2
  simp only [ev_sSeq, ev_sOwn, ev_nLst, List.length_nil, Nat.zero_le, if_true, ev_bindF_ok, List.set_cons_succ, List.set_cons_zero, ev_sSet, ev_eB, ev_aCons, ev_aNil, ev_eV0, ev_eVs, ev_bind_ok, intT1, ev_ofO_some, ev_sFor, ev_iRng, rg, h2, ev_sFrz, fz_succ, fz_own, od_lst, ev_sRet]
theorem range_pre {n : Nat} {pre : List Nat} {b : Nat} (h : pre ++ [b] <+: List.range n) : b = pre.length ∧ b < n := by
  have h1 : (pre ++ [b])[pre.length]? = some b := by simp
  have hlt : pre.length < n := by have := h.length_le; simp at this; omega
  have h2 : (List.range n)[pre.length]? = some b := by
    obtain ⟨t, ht⟩ := h
    rw [← ht, List.getElem?_append_left (by simp), h1]
  rw [List.getElem?_range hlt] at h2
  injection h2 with h2
  exact ⟨h2.symm, h2 ▸ hlt⟩
end Sh

set_option Elab.async false
set_option linter.all false
set_option maxRecDepth 100000
set_option maxHeartbeats 2000000
/-! k89: trees as data; the empty word, parts put together, each once. -/
namespace K89
open PySem Dl Sh
local macro_rules | `(tactic| simp_arith [$ts,*]) => `(tactic| simp only [ev_bind_ok, ev_bind_exc, ev_bindF_ok, ev_bindF_exc, ev_sNext, ev_sSeq, ev_sIf, ev_sRet, ev_sSet, ev_sOwn, ev_sDrop, ev_sRaise, ev_sFrz, ev_sUnp, ev_sFor, ev_eC, Dl.ev_e1, Dl.ev_e2, ev_eB, ev_eCall, ev_aNil, ev_aCons, ev_eIf, blR_bl, ev_tB1, ev_tAnd, ev_tOr, andK_bl, orK_bl, notK_bl, ev_eAnd, ev_eOr, ev_eNot, ev_tNot, ev_tYes, ev_oNone, ev_oSome, ev_eSl, ev_iSeq, ev_iRng, ev_eN, ev_ofO_some, ev_eV0, ev_eVs, lt_int, le_int, gt_int, ge_int, add_int, sub_int, iadd_int, len_tup, len_lst, eq_int, ne_int, itD_tup, itD_lst, put_one, fz_nil, fz_val, fz_no, fz_own, fz_succ, od_lst, od_lol, od_dk, od_dt, odict_lst, odict_dk, odict_dt, wp_nil, wp_cons, sa_nil, sa_cons, put_all, ev_eTup', ev_eLst', ev_nLst, ev_nLc, ev_eGen', ev_tBor, ev_eBor, ev_sPar, ev_eM, ev_eM0, ev_eCallM, ev_aSnoc, ok_tup, ok_lst, ok_str, ev_tIf, notB_eq, isB_eq, isN_eq, notN_eq, neg_int, tupD_lst, tupD_tup, listD_lst, listD_tup, pure_int, pure_bl, pure_str, pure_non, pureL_int, ev_eIsi, addD_lst, addD_tup, ix_t0, ix_t1, ix_t2, ix_l0, ix_l1, ix_l2, isi_tt, isi_ss, isT_tup, isS_str, List.set_cons_succ, List.set_cons_zero, List.length_cons, List.length_nil, Nat.reduceAdd, Nat.reduceLeDiff, Nat.zero_add, Nat.zero_le, if_true, if_false, Bool.false_eq_true, decide_true, decide_false, Bool.not_true, Bool.not_false, Bool.true_or, Bool.false_or, Bool.or_true, Bool.or_false, Bool.true_and, Bool.false_and, Bool.and_true, Bool.and_false, Int.cast_ofNat_Int, Int.reduceEq, Int.reduceLT, Int.reduceLE, Int.reduceNeg, reduceCtorEq, List.cons_append, List.nil_append, eq_of, ne_of, String.reduceEq, $ts,*])
abbrev sD (x : String) : D := .str (Str.ofString x)
def Kd.nm : Kd → String
  | .seq => "seq"
  | .xor => "xor"
  | .and => "and"
mutual
def td : Tr → D
  | .sk => .tup [sD "skip"]
  | .act n => .tup [sD "do", .str n]
  | .nd k ts => .tup (sD k.nm :: tds ts)
  | .lp a b => .tup [sD "loop", td a, td b]
def tds : List Tr → List D
  | [] => []
  | t :: ts => td t :: tds ts
end
theorem tds_map : ∀ ts : List Tr, tds ts = ts.map td
  | [] => rfl
  | t :: ts => by rw [tds, tds_map ts]; rfl
mutual
def ht : Tr → Nat
  | .sk => 0
  | .act _ => 0
  | .nd _ ts => hts ts
  | .lp a b => max (ht a) (ht b) + 1
def hts : List Tr → Nat
  | [] => 0
  | t :: ts => max (ht t + 1) (hts ts)
end
mutual
def gn : Tr → Prop
  | .sk => True
  | .act n => goodS n = true
  | .nd _ ts => ts ≠ [] ∧ gns ts
  | .lp a b => gn a ∧ gn b
def gns : List Tr → Prop
  | [] => True
  | t :: ts => gn t ∧ gns ts
end
mutual
def kp : Tr → Nat
  | .sk => 1
  | .act _ => 1
  | .nd _ ts => kps ts
  | .lp a b => kp a + kp b
def kps : List Tr → Nat
  | [] => 0
  | t :: ts => kp t + kps ts
end
mutual
def lm : Tr → Nat
  | .sk => 0
  | .act _ => 0
  | .nd _ ts => lms ts
  | .lp a b => kp a + kp b + 1 + max (lm a) (lm b)
def lms : List Tr → Nat
  | [] => 0
  | t :: ts => max (lm t) (lms ts)
end
theorem hts_le {N : Nat} : ∀ {ts : List Tr}, hts ts ≤ N ↔ ∀ t ∈ ts, ht t + 1 ≤ N
  | [] => ⟨fun _ _ h => (by cases h), fun _ => Nat.zero_le _⟩
  | t :: ts => by
    rw [hts, Nat.max_le, hts_le]
    simp
theorem lms_le {N : Nat} : ∀ {ts : List Tr}, lms ts ≤ N ↔ ∀ t ∈ ts, lm t ≤ N
  | [] => ⟨fun _ _ h => (by cases h), fun _ => Nat.zero_le _⟩
  | t :: ts => by
    rw [lms, Nat.max_le, lms_le]
    simp
theorem gns_iff : ∀ {ts : List Tr}, gns ts ↔ ∀ t ∈ ts, gn t
  | [] => ⟨fun _ _ h => (by cases h), fun _ => trivial⟩
  | t :: ts => by
    rw [gns, gns_iff]
    simp
theorem kps_app : ∀ (as bs : List Tr), kps (as ++ bs) = kps as + kps bs
  | [], bs => by rw [List.nil_append, kps, Nat.zero_add]
  | t :: as, bs => by rw [List.cons_append, kps, kps, kps_app as bs, Nat.add_assoc]
theorem kp_mem : ∀ {ts : List Tr} {t : Tr}, t ∈ ts → kp t ≤ kps ts
  | s :: ts, t, h => by
    rw [kps]
    rcases List.mem_cons.mp h with rfl | h
    · omega
    · have := kp_mem h; omega
theorem lt_of_hts {n : Nat} {ts : List Tr} (h : hts ts < n + 1) : ∀ t ∈ ts, ht t < n := fun t ht' => by
  have := hts_le.mp (Nat.le_of_lt_succ h) t ht'
  omega
mutual
theorem gd_td : ∀ t : Tr, gn t → (td t).gd (ht t + 1)
  | .sk, _ => gd_tup fun x hx => by
    rw [List.mem_singleton] at hx; subst hx
    exact gd_str (good_ofS _)
  | .act n, h => gd_tup fun x hx => by
    rcases List.mem_cons.mp hx with rfl | hx
    · exact gd_str (good_ofS _)
    · rw [List.mem_singleton] at hx; subst hx
      exact gd_str h
  | .nd k ts, h => gd_tup fun x hx => by
    rcases List.mem_cons.mp hx with rfl | hx
    · exact gd_str (good_ofS _)
    · exact gd_tds ts h.2 x hx
  | .lp a b, h => gd_tup fun x hx => by
    rcases List.mem_cons.mp hx with rfl | hx
    · exact gd_str (good_ofS _)
    · rcases List.mem_cons.mp hx with rfl | hx
      · exact gd_mono (by rw [ht]; omega) (gd_td a h.1)
      · rw [List.mem_singleton] at hx; subst hx
        exact gd_mono (by rw [ht]; omega) (gd_td b h.2)
theorem gd_tds : ∀ ts : List Tr, gns ts → ∀ d ∈ tds ts, d.gd (hts ts)
  | [], _, d, hd => by cases hd
  | t :: ts, h, d, hd => by
    rcases List.mem_cons.mp hd with rfl | hd
    · exact gd_mono (by rw [hts]; omega) (gd_td t h.1)
    · exact gd_mono (by rw [hts]; omega) (gd_tds ts h.2 d hd)
end
theorem nm_inj {k l : Kd} (h : k.nm = l.nm) : k = l := by
  cases k <;> cases l <;> first | rfl | (exact absurd h (by decide))
mutual
theorem td_inj : ∀ a b : Tr, td a = td b → a = b
  | .sk, b, h => by
    cases b with
    | sk => rfl
    | act n => simp [td] at h
    | nd k ts => cases k <;> simp [td, Kd.nm] at h
    | lp a b => simp [td] at h
  | .act n, b, h => by
    cases b with
    | sk => simp [td] at h
    | act m => simp [td] at h; rw [h]
    | nd k ts => cases k <;> simp [td, Kd.nm] at h
    | lp a b => simp [td] at h
  | .nd k ts, b, h => by
    cases b with
    | sk => cases k <;> simp [td, Kd.nm] at h
    | act n => cases k <;> simp [td, Kd.nm] at h
    | nd l us =>
      simp only [td, D.tup.injEq, List.cons.injEq, D.str.injEq, ofS_inj] at h
      rw [nm_inj h.1, tds_inj ts us h.2]
    | lp a b => cases k <;> simp [td, Kd.nm] at h
  | .lp a b, c, h => by
    cases c with
    | sk => simp [td] at h
    | act n => simp [td] at h
    | nd k ts => cases k <;> simp [td, Kd.nm] at h
    | lp c d =>
      simp only [td, D.tup.injEq, List.cons.injEq, and_true, true_and] at h
      rw [td_inj a c h.1, td_inj b d h.2]
theorem tds_inj : ∀ as bs : List Tr, tds as = tds bs → as = bs
  | [], [], _ => rfl
  | [], _ :: _, h => by simp [tds] at h
  | _ :: _, [], h => by simp [tds] at h
  | a :: as, b :: bs, h => by
    simp only [tds, List.cons.injEq] at h
    rw [td_inj a b h.1, tds_inj as bs h.2]
end
theorem cut1t {x : D} {xs : List D} : slD (.tup (x :: xs)) (some 1) none = some (.tup xs) := cut_tup (x :: xs) 1
/-! ### the empty word -/
theorem nul_ok : ∀ (n : Nat) (t : Tr), ht t < n → m_is_nullable n [td t] = .ok (.bl (nul t))
  | 0, t, h => absurd h (Nat.not_lt_zero _)
  | n + 1, t, h => by
    have hi : ∀ d : D, initE 2 [d] = [.val d, .no] := fun _ => rfl
    have ga (ts : List Tr) (hs : ∀ s ∈ ts, ht s < n) (x : S) : genF false (.one 1) tYesD (y2_is_nullable (m_is_nullable n)) [x, .no] (tds ts) = .ok (.bl (nulA ts)) := by
      rw [tds_map, nulA_all]
      exact genF_enc_all fun s hs' => ⟨_, rfl, rfl, by unfold y2_is_nullable; simp_arith [nul_ok n s (hs s hs')]⟩
    have ge (ts : List Tr) (hs : ∀ s ∈ ts, ht s < n) (x : S) : genF true (.one 1) tYesD (y1_is_nullable (m_is_nullable n)) [x, .no] (tds ts) = .ok (.bl (nulE ts)) := by
      rw [tds_map, nulE_any]
      exact genF_enc_any fun s hs' => ⟨_, rfl, rfl, by unfold y1_is_nullable; simp_arith [nul_ok n s (hs s hs')]⟩
    show runF 2 (b_is_nullable (m_is_nullable n)) [td t] = _
    rw [runF, hi, b_is_nullable]
    cases t with
    | sk => simp_arith [td]; rfl
    | act n => simp_arith [td]; rfl
    | nd k ts =>
      cases k with
      | seq => simp_arith [td, Kd.nm, cut1t, ga ts (lt_of_hts h)]; rfl
      | xor => simp_arith [td, Kd.nm, cut1t, ge ts (lt_of_hts h)]; rfl
      | and => simp_arith [td, Kd.nm, cut1t, ga ts (lt_of_hts h)]; rfl
    | lp a b =>
      have ha : ht a < n := by rw [ht] at h; omega
      simp_arith [td, nul_ok n a ha]; rfl
end K89

set_option Elab.async false
set_option linter.all false
set_option maxRecDepth 100000
set_option maxHeartbeats 2000000
/-! Plain facts: members each once, sorted names, sorted data. -/
namespace Dl
open PySem L2 PySem.W PyProof.Rows
local macro_rules | `(tactic| simp_arith [$ts,*]) => `(tactic| simp only [ev_bind_ok, ev_bind_exc, ev_bindF_ok, ev_bindF_exc, ev_sNext, ev_sSeq, ev_sIf, ev_sRet, ev_sSet, ev_sOwn, ev_sDrop, ev_sRaise, ev_sFrz, ev_sUnp, ev_sFor, ev_eC, Dl.ev_e1, Dl.ev_e2, ev_eB, ev_eCall, ev_aNil, ev_aCons, ev_eIf, blR_bl, ev_tB1, ev_tAnd, ev_tOr, andK_bl, orK_bl, notK_bl, ev_eAnd, ev_eOr, ev_eNot, ev_tNot, ev_tYes, ev_oNone, ev_oSome, ev_eSl, ev_iSeq, ev_iRng, ev_eN, ev_ofO_some, ev_eV0, ev_eVs, lt_int, le_int, gt_int, ge_int, add_int, sub_int, iadd_int, len_tup, len_lst, eq_int, ne_int, itD_tup, itD_lst, put_one, fz_nil, fz_val, fz_no, fz_own, fz_succ, od_lst, od_lol, od_dk, od_dt, odict_lst, odict_dk, odict_dt, wp_nil, wp_cons, sa_nil, sa_cons, put_all, ev_eTup', ev_eLst', ev_nLst, ev_nLc, ev_eGen', ev_tBor, ev_eBor, ev_sPar, ev_eM, ev_eM0, ev_eCallM, ev_aSnoc, ok_tup, ok_lst, ok_str, ev_tIf, notB_eq, isB_eq, isN_eq, notN_eq, neg_int, tupD_lst, tupD_tup, listD_lst, listD_tup, pure_int, pure_bl, pure_str, pure_non, pureL_int, ev_eIsi, addD_lst, addD_tup, ix_t0, ix_t1, ix_t2, ix_l0, ix_l1, ix_l2, isi_tt, isi_ss, isT_tup, isS_str, List.set_cons_succ, List.set_cons_zero, List.length_cons, List.length_nil, Nat.reduceAdd, Nat.reduceLeDiff, Nat.zero_add, Nat.zero_le, if_true, if_false, Bool.false_eq_true, decide_true, decide_false, Bool.not_true, Bool.not_false, Bool.true_or, Bool.false_or, Bool.or_true, Bool.or_false, Bool.true_and, Bool.false_and, Bool.and_true, Bool.and_false, Int.cast_ofNat_Int, Int.reduceEq, Int.reduceLT, Int.reduceLE, Int.reduceNeg, reduceCtorEq, List.cons_append, List.nil_append, eq_of, ne_of, String.reduceEq, $ts,*])
/-! ### each once -/
section
variable {α : Type} [DecidableEq α]
def addL (acc : List α) : List α → List α
  | [] => acc
  | x :: l => addL (if x ∈ acc then acc else acc ++ [x]) l
theorem addL_mem : ∀ (l acc : List α) (x : α), x ∈ addL acc l ↔ x ∈ acc ∨ x ∈ l
  | [], acc, x => by simp [addL]
  | y :: l, acc, x => by
    rw [addL, addL_mem l]
    split
    · rename_i h
      rw [List.mem_cons]
      constructor
      · rintro (z | z)
        · exact .inl z
        · exact .inr (.inr z)
      · rintro (z | z | z)
        · exact .inl z
        · rw [z]; exact .inl h
        · exact .inr z
    · rw [List.mem_append, List.mem_singleton, List.mem_cons, or_assoc]
theorem addL_nd : ∀ (l acc : List α), acc.Nodup → (addL acc l).Nodup
  | [], acc, h => h
  | y :: l, acc, h => by
    rw [addL]
    refine addL_nd l _ ?_
    split
    · exact h
    · rename_i hn
      exact (List.perm_append_singleton y acc).nodup_iff.mpr (List.nodup_cons.mpr ⟨hn, h⟩)
theorem addL_app : ∀ (l m acc : List α), addL acc (l ++ m) = addL (addL acc l) m
  | [], m, acc => rfl
  | y :: l, m, acc => by rw [List.cons_append, addL, addL, addL_app l m]
theorem addL_len : ∀ (l acc : List α), (addL acc l).length ≤ acc.length + l.length
  | [], acc => by simp [addL]
  | y :: l, acc => by
    rw [addL]
    have := addL_len l (if y ∈ acc then acc else acc ++ [y])
    rw [List.length_cons]
    split at this <;> simp_all <;> omega
theorem perm_nd {l m : List α} (hl : l.Nodup) (hm : m.Nodup) (h : ∀ x, x ∈ l ↔ x ∈ m) : l.Perm m := by
  induction l generalizing m with
  | nil =>
    cases m with
    | nil => exact .refl _
    | cons y m => exact absurd ((h y).mpr List.mem_cons_self) (by simp)
  | cons x l ih =>
    have hx : x ∈ m := (h x).mp List.mem_cons_self
    obtain ⟨h1, h2⟩ := List.nodup_cons.mp hl
    have hp : m.Perm (x :: m.erase x) := List.perm_cons_erase hx
    have hm2 := hp.nodup_iff.mp hm
    obtain ⟨g1, g2⟩ := List.nodup_cons.mp hm2
    refine ((ih h2 g2 fun y => ?_).cons x).trans hp.symm
    constructor
    · intro hy
      have hy2 := hp.mem_iff.mp ((h y).mp (List.mem_cons_of_mem _ hy))
      rcases List.mem_cons.mp hy2 with e | e
      · rw [e] at hy; exact absurd hy h1
      · exact e
    · intro hy
      have hy2 := (h y).mpr (hp.mem_iff.mpr (List.mem_cons_of_mem _ hy))
      rcases List.mem_cons.mp hy2 with e | e
      · rw [e] at hy; exact absurd hy g1
      · exact e
theorem nd_sub_len {l m : List α} (hl : l.Nodup) (h : ∀ x ∈ l, x ∈ m) : l.length ≤ m.length := by
  induction l generalizing m with
  | nil => exact Nat.zero_le _
  | cons x l ih =>
    obtain ⟨h1, h2⟩ := List.nodup_cons.mp hl
    have hx := h x List.mem_cons_self
    have := ih (m := m.erase x) h2 fun y hy => by
      have hne : y ≠ x := fun e => h1 (e ▸ hy)
      exact (List.mem_erase_of_ne hne).mpr (h y (List.mem_cons_of_mem _ hy))
    rw [List.length_erase_of_mem hx] at this
    have hp := List.length_pos_of_mem hx
    rw [List.length_cons]; omega
end
/-! ### sets of texts -/
theorem asKeys_stl : ∀ l : List Str, asKeys (stl l) = some (l.map Sum.inr)
  | [] => rfl
  | x :: l => by
    show (match asKey (.str x) with | none => none | some k => (match asKeys (stl l) with | none => none | some ks => some (k :: ks))) = _
    rw [asKeys_stl l]; rfl
theorem memM_inr (acc : List Str) (x : Str) : Sx.memM (acc.map Sum.inr) (Sum.inr x) = decide (x ∈ acc) := by
  rw [Bool.eq_iff_iff, Sx.memM_iff, decide_eq_true_eq, List.mem_map]
  constructor
  · rintro ⟨y, hy, e⟩
    rw [← Sum.inr.inj e]; exact hy
  · intro h
    exact ⟨x, h, rfl⟩
theorem addAll_inr : ∀ (l acc : List Str), addAll (acc.map Sum.inr) (l.map Sum.inr) = (addL acc l).map Sum.inr
  | [], acc => rfl
  | x :: l, acc => by
    show addAll (Sx.addM (acc.map Sum.inr) (Sum.inr x)) (l.map Sum.inr) = (addL (if x ∈ acc then acc else acc ++ [x]) l).map Sum.inr
    rw [← addAll_inr l]
    congr 1
    unfold Sx.addM
    rw [memM_inr]
    by_cases h : x ∈ acc
    · rw [decide_eq_true h, if_pos rfl, if_pos h]
    · rw [decide_eq_false h, if_neg Bool.false_ne_true, if_neg h, List.map_append]; rfl
theorem setOf_stl {l : List Str} (h : l.length + 1 < 4096) : setOf (stl l) = some ((addL [] l).map Sum.inr) := by
  unfold setOf
  rw [if_pos (show (stl l).length + 1 < scanBound by rw [List.length_map]; exact h), asKeys_stl]
  exact congrArg some (addAll_inr l [])
/-! ### texts in order -/
def leN (x y : Str) : Bool := leqD (.str x) (.str y)
def sortN (l : List Str) : List Str := l.mergeSort leN
theorem sortD_stl (l : List Str) : sortD (stl l) = stl (sortN l) := (merge_map D.str leqD l).symm
theorem sortN_perm (l : List Str) : (sortN l).Perm l := List.mergeSort_perm l _
theorem sortN_mem {l : List Str} {x : Str} : x ∈ sortN l ↔ x ∈ l := (sortN_perm l).mem_iff
theorem sortN_len (l : List Str) : (sortN l).length = l.length := (sortN_perm l).length_eq
theorem sortN_nd {l : List Str} (h : l.Nodup) : (sortN l).Nodup := (sortN_perm l).nodup_iff.mpr h
theorem sortN_pw (l : List Str) : (sortN l).Pairwise fun x y => leN x y = true := srt_pw (fun x => (D.str x).py) l
theorem leN_anti {x y : Str} (h1 : leN x y = true) (h2 : leN y x = true) : x = y := by
  have e := anti_le D.py (.str x) (.str y) h1 h2
  have e2 := SrtD.enc_inj (k := .inr x) (l := .inr y) e
  exact Sum.inr.inj e2
theorem sorted_same {l m : List Str} (p : l.Perm m) (h1 : l.Pairwise fun x y => leN x y = true) (h2 : m.Pairwise fun x y => leN x y = true) : l = m :=
  pw_uniq p h1 h2 fun a _ b _ => leN_anti
theorem alk_str (x y : Str) : alkD (.str x) (.str y) = true := rfl
theorem srtOk_stl {l : List Str} (h : ∀ x ∈ l, goodS x = true) : srtOk (stl l) = true := by
  unfold srtOk
  rw [Bool.and_eq_true, Bool.and_eq_true, Bool.or_eq_true]
  refine ⟨⟨List.all_eq_true.mpr fun d hd => ?_, List.all_eq_true.mpr fun d hd => List.all_eq_true.mpr fun e he => ?_⟩, .inr (List.all_eq_true.mpr fun d hd => ?_)⟩
  · obtain ⟨x, hx, rfl⟩ := List.mem_map.mp hd
    exact gd_sh (gd_str (k := 0) (h x hx))
  · obtain ⟨x, hx, rfl⟩ := List.mem_map.mp hd
    obtain ⟨y, hy, rfl⟩ := List.mem_map.mp he
    exact alk_str x y
  · obtain ⟨x, hx, rfl⟩ := List.mem_map.mp hd
    rfl
theorem sortG_lst {l : List Str} (h : ∀ x ∈ l, goodS x = true) : sortGD [.lst (stl l)] = some (.lst (stl (sortN l))) := by
  show sortGL (stl l) = _
  unfold sortGL
  rw [if_pos (srtG_of (srtOk_stl h)), sortD_stl]
theorem srtS_inr {l : List Str} (hz : l.length ≤ 10000) : srtS (l.map Sum.inr) = some (.lst (stl (sortN l))) := by
  unfold srtS
  have h1 : ((l.map (Sum.inr : Str → L2.Key)).all fun k => (l.map (Sum.inr : Str → L2.Key)).all fun l => alkD (keyD k) (keyD l)) = true := List.all_eq_true.mpr fun d hd => List.all_eq_true.mpr fun e he => by
    obtain ⟨x, hx, rfl⟩ := List.mem_map.mp hd
    obtain ⟨y, hy, rfl⟩ := List.mem_map.mp he
    exact alk_str x y
  rw [if_pos ⟨h1, by rw [List.length_map, sz_eq]; omega⟩, List.map_map, ← sortD_stl]
  rfl
/-! ### data in order -/
theorem toks_inj {x y : PyData} (h : alike x y = true) (e : keyToks x = keyToks y) : PyData.eqv x y = true := by
  cases he : PyData.eqv x y with
  | true => rfl
  | false =>
    have h1 := (toks_eqv x y h).2 he [] [Sum.inl 0]
    rw [e, lex_pre, show lexLt itemOrd (keyToks y) (keyToks y) = false from (listOrd itemOrd).irrefl _] at h1
    exact absurd h1 (by decide)
/-! ### generators of two clauses -/
theorem ev_nSc (vs : List Nat) (t : Tg) (it : Dl.Env → Dl.R (List D)) (c : Tv) (f : Ev) (δ : Dl.Env) : eSrtS (nSc vs t it c f) δ = (it δ >>= fun ds => mapF t c f (wipeE δ vs) ds >>= fun ys => ofO (setOf ys) >>= fun ks => ofO (srtS ks)) := by
  unfold eSrtS nSc
  cases it δ with
  | ok ds =>
    simp only [ev_bind_ok]
    cases mapF t c f (wipeE δ vs) ds <;> rfl
  | exc _ => rfl
  | bad => rfl
/-- a comprehension of two clauses, everything kept -/
theorem map2F_all {β γ : Type} {t : Tg} {c : Tv} {it1 : Dl.Env → Dl.R (List D)} {vs1 : List Nat} {t1 : Tg} {c1 : Tv} {f : Ev} {δ : Dl.Env} {enc : β → D} {g : β → List γ} {e2 : γ → D} : ∀ {bs : List β}, (∀ b ∈ bs, ∃ δ1 es, t.put (enc b) δ = some δ1 ∧ c δ1 = .ok true ∧ it1 δ1 = .ok es ∧ mapF t1 c1 f (wipeE δ1 vs1) es = .ok ((g b).map e2)) → map2F t c it1 vs1 t1 c1 f δ (bs.map enc) = .ok ((bs.flatMap g).map e2)
  | [], _ => rfl
  | b :: bs, h => by
    obtain ⟨δ1, es, h1, h2, h3, h4⟩ := h b List.mem_cons_self
    have ih := map2F_all (bs := bs) fun e he => h e (List.mem_cons_of_mem _ he)
    rw [List.map_cons, map2F]
    simp only [h1, h2, h3, h4, ih]
    rw [List.flatMap_cons, List.map_append]
    rfl
end Dl

set_option Elab.async false
set_option linter.all false
set_option maxRecDepth 100000
set_option maxHeartbeats 2000000
/-! k89: each once, parts put together. -/
namespace K89
open PySem Dl Sh
local macro_rules | `(tactic| simp_arith [$ts,*]) => `(tactic| simp only [ev_bind_ok, ev_bind_exc, ev_bindF_ok, ev_bindF_exc, ev_sNext, ev_sSeq, ev_sIf, ev_sRet, ev_sSet, ev_sOwn, ev_sDrop, ev_sRaise, ev_sFrz, ev_sUnp, ev_sFor, ev_eC, Dl.ev_e1, Dl.ev_e2, ev_eB, ev_eCall, ev_aNil, ev_aCons, ev_eIf, blR_bl, ev_tB1, ev_tAnd, ev_tOr, andK_bl, orK_bl, notK_bl, ev_eAnd, ev_eOr, ev_eNot, ev_tNot, ev_tYes, ev_oNone, ev_oSome, ev_eSl, ev_iSeq, ev_iRng, ev_eN, ev_ofO_some, ev_eV0, ev_eVs, lt_int, le_int, gt_int, ge_int, add_int, sub_int, iadd_int, len_tup, len_lst, eq_int, ne_int, itD_tup, itD_lst, put_one, fz_nil, fz_val, fz_no, fz_own, fz_succ, od_lst, od_lol, od_dk, od_dt, odict_lst, odict_dk, odict_dt, wp_nil, wp_cons, sa_nil, sa_cons, put_all, ev_eTup', ev_eLst', ev_nLst, ev_nLc, ev_eGen', ev_tBor, ev_eBor, ev_sPar, ev_eM, ev_eM0, ev_eCallM, ev_aSnoc, ok_tup, ok_lst, ok_str, ev_tIf, notB_eq, isB_eq, isN_eq, notN_eq, neg_int, tupD_lst, tupD_tup, listD_lst, listD_tup, pure_int, pure_bl, pure_str, pure_non, pureL_int, ev_eIsi, addD_lst, addD_tup, ix_t0, ix_t1, ix_t2, ix_l0, ix_l1, ix_l2, isi_tt, isi_ss, isT_tup, isS_str, List.set_cons_succ, List.set_cons_zero, List.length_cons, List.length_nil, Nat.reduceAdd, Nat.reduceLeDiff, Nat.zero_add, Nat.zero_le, if_true, if_false, Bool.false_eq_true, decide_true, decide_false, Bool.not_true, Bool.not_false, Bool.true_or, Bool.false_or, Bool.or_true, Bool.or_false, Bool.true_and, Bool.false_and, Bool.and_true, Bool.and_false, Int.cast_ofNat_Int, Int.reduceEq, Int.reduceLT, Int.reduceLE, Int.reduceNeg, reduceCtorEq, List.cons_append, List.nil_append, eq_of, ne_of, String.reduceEq, $ts,*])
theorem addL_snoc {l : List D} {b : D} : addL [] (l ++ [b]) = if b ∈ addL [] l then addL [] l else addL [] l ++ [b] := by
  rw [addL_app, addL, addL]
theorem twins_ok {l : List D} (hg : ∀ d ∈ l, d.gd 62) (hz : l.length ≤ 16777216) : m_without_twins [.lst l] = .ok (.lst (addL [] l)) := by
  have hi : initE 3 [.lst l] = [.val (.lst l), .no, .no] := rfl
  have hm : ∀ {pre : List D}, pre <+: l → ∀ d ∈ addL [] pre, d.gd 62 := fun hp d hd => by
    rcases (addL_mem _ _ _).mp hd with h | h
    · cases h
    · exact hg d (hp.subset h)
  obtain ⟨δ', h1, y, h2⟩ := forF_run (t := .one 2) (f := l1_without_twins) (enc := fun d => d) (fun pre δ => ∃ y, δ = [.val (.lst l), .own (.lst (addL [] pre)), y]) l (δ := [.val (.lst l), .own (.lst []), .no]) ⟨.no, rfl⟩ (fun pre b δ hp ⟨y, q⟩ => by
    subst q
    have hp' : pre <+: l := (List.prefix_append pre [b]).trans hp
    have hb : b ∈ l := hp.subset (by simp)
    have hl : pre.length < l.length := by have := hp.length_le; rw [List.length_append] at this; simp at this; omega
    have hn := nin_lst (gd_mono (by decide) (hg b hb)) fun d hd => gd_mono (by decide) (hm hp' d hd)
    have hs : (addL [] pre).length < 16777216 := by have := addL_len pre ([] : List D); simp at this; omega
    refine ⟨_, rfl, [.val (.lst l), .own (.lst (addL [] (pre ++ [b]))), .val b], ?_, _, rfl⟩
    unfold l1_without_twins
    by_cases h : b ∈ addL [] pre
    · simp_arith [hn, decide_eq_true h, addL_snoc, h]
    · simp_arith [hn, decide_eq_false h, addL_snoc, h]
      rw [ev_sApp (h0 := rfl) (hz := hs)]
      simp_arith [])
  rw [List.map_id'] at h1
  unfold m_without_twins
  rw [runF, hi, b_without_twins]
  simp_arith [h1, h2]
theorem pull {l : List Tr} : ∀ {L : List D}, (∀ x ∈ L, x ∈ l.map td) → ∃ l' : List Tr, L = l'.map td
  | [], _ => ⟨[], rfl⟩
  | x :: L, h => by
    obtain ⟨t, _, ht⟩ := List.mem_map.mp (h x List.mem_cons_self)
    obtain ⟨l', e⟩ := pull fun y hy => h y (List.mem_cons_of_mem _ hy)
    exact ⟨t :: l', by rw [e, ← ht]; rfl⟩
theorem twins_tr {l : List Tr} (hg : ∀ t ∈ l, gn t ∧ ht t ≤ 60) (hz : l.length ≤ 16777216) : ∃ l' : List Tr, m_without_twins [.lst (l.map td)] = .ok (.lst (l'.map td)) ∧ (∀ t, t ∈ l' ↔ t ∈ l) ∧ l'.length ≤ l.length := by
  have h1 := twins_ok (l := l.map td) (fun d hd => by
    obtain ⟨t, h, rfl⟩ := List.mem_map.mp hd
    exact gd_mono (by have := (hg t h).2; omega) (gd_td t (hg t h).1)) (by rw [List.length_map]; exact hz)
  have h2 : ∀ x, x ∈ addL [] (l.map td) ↔ x ∈ l.map td := fun x => by rw [addL_mem]; simp
  obtain ⟨l', e⟩ := pull fun x hx => (h2 x).mp hx
  refine ⟨l', by rw [h1, e], fun t => ?_, ?_⟩
  · rw [← mem_enc (enc := td) td_inj, ← e, h2, mem_enc td_inj]
  · have := addL_len (l.map td) ([] : List D)
    rw [e, List.length_map, List.length_map] at this
    simpa using this
/-! ### and -/
theorem hd_td (t : Tr) : ∃ k : String, ixD (td t) (.int 0) = some (.str (Str.ofString k)) ∧ (isSk t = decide (k = "skip")) := by
  cases t with
  | sk => exact ⟨"skip", by simp_arith [td], by simp [isSk]⟩
  | act n => exact ⟨"do", by simp_arith [td], by simp [isSk]⟩
  | nd k ts => exact ⟨k.nm, by simp_arith [td], by cases k <;> simp [isSk, Kd.nm]⟩
  | lp a b => exact ⟨"loop", by simp_arith [td], by simp [isSk]⟩
theorem tup_app {x : D} {xs : List D} (h : xs.length + 1 ≤ 16777216) : addD (.tup [x]) (.tup xs) = some (.tup (x :: xs)) := by
  rw [addD_tup, if_pos (by show 1 + xs.length ≤ _; omega)]; rfl
theorem and_ok {ts : List Tr} (hz : ts.length ≤ 1000000) : m_and_of [.tup (ts.map td)] = .ok (td (andOf ts)) := by
  have hi : initE 3 [.tup (ts.map td)] = [.val (.tup (ts.map td)), .no, .no] := rfl
  have hm : mapF (.one 2) c1_and_of y1_and_of [.val (.tup (ts.map td)), .no, .no] (ts.map td) = .ok ((ts.filter fun t => !isSk t).map td) := mapF_filter fun t _ => by
    obtain ⟨k, h1, h2⟩ := hd_td t
    refine ⟨_, rfl, ?_, fun _ => by unfold y1_and_of; simp_arith []⟩
    unfold c1_and_of
    simp_arith [h1, h2]
  have hl := List.length_filter_le (fun t => !isSk t) ts
  unfold andOf
  generalize (ts.filter fun t => !isSk t) = l at hm hl ⊢
  unfold m_and_of
  rw [runF, hi, b_and_of]
  match l, hl, hm with
  | [], _, hm =>
    rw [List.map_nil] at hm
    simp_arith [hm, pack, td]
  | [t], _, hm =>
    rw [List.map_cons, List.map_nil] at hm
    simp_arith [hm, pack]
  | a :: b :: r, hl, hm =>
    have hz' : ((a :: b :: r).map td).length ≤ 16777216 := by rw [List.length_map]; omega
    have e1 : ¬ ((((a :: b :: r).map td).length : Nat) : Int) = 0 := by simp; omega
    have e2 : ¬ ((((a :: b :: r).map td).length : Nat) : Int) = 1 := by simp; omega
    have e3 : addD (.tup [sD "and"]) (.tup ((a :: b :: r).map td)) = some (td (pack .and (a :: b :: r))) := by
      rw [tup_app (by rw [List.length_map]; omega)]
      rw [show pack .and (a :: b :: r) = .nd .and (a :: b :: r) from rfl, td, tds_map]; rfl
    generalize pack .and (a :: b :: r) = res at e3 ⊢
    generalize (a :: b :: r).map td = ds at hm hz' e1 e2 e3
    simp_arith [hm, hz', decide_eq_false e1, decide_eq_false e2, e3]
end K89

set_option Elab.async false
set_option linter.all false
set_option maxRecDepth 100000
set_option maxHeartbeats 2000000
/-! k89: parts in a row. -/
namespace K89
open PySem Dl Sh
local macro_rules | `(tactic| simp_arith [$ts,*]) => `(tactic| simp only [ev_bind_ok, ev_bind_exc, ev_bindF_ok, ev_bindF_exc, ev_sNext, ev_sSeq, ev_sIf, ev_sRet, ev_sSet, ev_sOwn, ev_sDrop, ev_sRaise, ev_sFrz, ev_sUnp, ev_sFor, ev_eC, Dl.ev_e1, Dl.ev_e2, ev_eB, ev_eCall, ev_aNil, ev_aCons, ev_eIf, blR_bl, ev_tB1, ev_tAnd, ev_tOr, andK_bl, orK_bl, notK_bl, ev_eAnd, ev_eOr, ev_eNot, ev_tNot, ev_tYes, ev_oNone, ev_oSome, ev_eSl, ev_iSeq, ev_iRng, ev_eN, ev_ofO_some, ev_eV0, ev_eVs, lt_int, le_int, gt_int, ge_int, add_int, sub_int, iadd_int, len_tup, len_lst, eq_int, ne_int, itD_tup, itD_lst, put_one, fz_nil, fz_val, fz_no, fz_own, fz_succ, od_lst, od_lol, od_dk, od_dt, odict_lst, odict_dk, odict_dt, wp_nil, wp_cons, sa_nil, sa_cons, put_all, ev_eTup', ev_eLst', ev_nLst, ev_nLc, ev_eGen', ev_tBor, ev_eBor, ev_sPar, ev_eM, ev_eM0, ev_eCallM, ev_aSnoc, ok_tup, ok_lst, ok_str, ev_tIf, notB_eq, isB_eq, isN_eq, notN_eq, neg_int, tupD_lst, tupD_tup, listD_lst, listD_tup, pure_int, pure_bl, pure_str, pure_non, pureL_int, ev_eIsi, addD_lst, addD_tup, ix_t0, ix_t1, ix_t2, ix_l0, ix_l1, ix_l2, isi_tt, isi_ss, isT_tup, isS_str, List.set_cons_succ, List.set_cons_zero, List.length_cons, List.length_nil, Nat.reduceAdd, Nat.reduceLeDiff, Nat.zero_add, Nat.zero_le, if_true, if_false, Bool.false_eq_true, decide_true, decide_false, Bool.not_true, Bool.not_false, Bool.true_or, Bool.false_or, Bool.or_true, Bool.or_false, Bool.true_and, Bool.false_and, Bool.and_true, Bool.and_false, Int.cast_ofNat_Int, Int.reduceEq, Int.reduceLT, Int.reduceLE, Int.reduceNeg, reduceCtorEq, List.cons_append, List.nil_append, eq_of, ne_of, String.reduceEq, $ts,*])
def catO (x y : D) : Option (List D) := match x, y with
  | .lst xs, .lst ys => if xs.length + ys.length ≤ 16777216 then some (xs ++ ys) else none
  | _, _ => none
theorem ev_nCat (f g : Ev) (δ : Dl.Env) : nCat f g δ = (f δ >>= fun x => g δ >>= fun y => ofO (catO x y)) := rfl
theorem catO_lst {xs ys : List D} (h : xs.length + ys.length ≤ 16777216) : catO (.lst xs) (.lst ys) = some (xs ++ ys) := if_pos h
theorem flat_app : ∀ (as bs : List Tr), flat (as ++ bs) = flat as ++ flat bs
  | [], bs => rfl
  | t :: as, bs => by rw [List.cons_append, flat, flat, flat_app as bs, List.append_assoc]
theorem flat_one (t : Tr) : flat [t] = cut1 t := by rw [flat, flat, List.append_nil]
def isSq : Tr → Bool
  | .nd .seq _ => true
  | _ => false
theorem hd_sq (t : Tr) : ∃ k : String, ixD (td t) (.int 0) = some (.str (Str.ofString k)) ∧ (isSk t = decide (k = "skip")) ∧ isSq t = decide (k = "seq") := by
  cases t with
  | sk => exact ⟨"skip", by simp_arith [td], by simp [isSk], by simp [isSq]⟩
  | act n => exact ⟨"do", by simp_arith [td], by simp [isSk], by simp [isSq]⟩
  | nd k ts => exact ⟨k.nm, by simp_arith [td], by cases k <;> simp [isSk, Kd.nm], by cases k <;> simp [isSq, Kd.nm]⟩
  | lp a b => exact ⟨"loop", by simp_arith [td], by simp [isSk], by simp [isSq]⟩
theorem cut_eq (t : Tr) (h1 : isSk t = false) (h2 : isSq t = false) : cut1 t = [t] := by
  cases t with
  | sk => cases h1
  | nd k ts => cases k <;> first | rfl | cases h2
  | _ => rfl
theorem seq_body {ts : List Tr} {acc : List Tr} {t : Tr} {y z : Dl.S} (hz : (acc ++ cut1 t).length ≤ 1000000) : ∃ z' : Dl.S, l1_seq_of [.val (.tup (ts.map td)), .own (.lst (acc.map td)), .val (td t), z] = .next [.val (.tup (ts.map td)), .own (.lst ((acc ++ cut1 t).map td)), .val (td t), z'] := by
  rw [List.length_append] at hz
  obtain ⟨k, h1, h2, h3⟩ := hd_sq t
  unfold l1_seq_of
  by_cases hq : isSq t = true
  · have : ∃ cs, t = .nd .seq cs := by
      cases t with
      | nd k cs => cases k <;> first | exact ⟨cs, rfl⟩ | cases hq
      | _ => cases hq
    obtain ⟨cs, rfl⟩ := this
    have hz1 : (tds cs).length ≤ 16777216 := by rw [tds_map, List.length_map]; have : cs.length = (cut1 (.nd .seq cs)).length := rfl; omega
    have hm : mapF (.one 3) tYesD y1_seq_of [.val (.tup (ts.map td)), .val (.lst (acc.map td)), .val (.tup (sD "seq" :: tds cs)), .no] (tds cs) = .ok (tds cs) := by
      have := mapF_enc (t := .one 3) (c := tYesD) (f := y1_seq_of) (δ := [.val (.tup (ts.map td)), .val (.lst (acc.map td)), .val (.tup (sD "seq" :: tds cs)), .no]) (enc := fun d => d) (g := fun d => d) (bs := tds cs) fun d _ => ⟨_, rfl, rfl, by unfold y1_seq_of; simp_arith []⟩
      rwa [List.map_id'] at this
    refine ⟨z, ?_⟩
    have hcz : (acc.map td).length + (tds cs).length ≤ 16777216 := by rw [List.length_map, tds_map, List.length_map]; have : cs.length = (cut1 (.nd .seq cs)).length := rfl; omega
    have e : acc.map td ++ tds cs = (acc ++ cut1 (.nd .seq cs)).map td := by rw [List.map_append, tds_map]; rfl
    simp_arith [td, Kd.nm, ev_nCat, cut1t, hm, hz1, catO_lst hcz, e]
  · have hq' : isSq t = false := by simpa using hq
    have hk : ¬ k = "seq" := by rw [hq'] at h3; exact of_decide_eq_false h3.symm
    refine ⟨z, ?_⟩
    cases hs : isSk t with
    | true =>
      have : t = .sk := by cases t <;> first | rfl | cases hs
      subst this
      simp_arith [td, cut1, List.append_nil]
    | false =>
      rw [hs] at h2
      have hk2 := of_decide_eq_false h2.symm
      rw [cut_eq t hs hq'] at hz ⊢
      simp_arith [h1, hk, hk2]
      rw [ev_sApp (h0 := rfl) (hz := by rw [List.length_map]; simp at hz; omega)]
      simp_arith [List.map_append, List.map_cons, List.map_nil]
theorem seq_ok {ts : List Tr} (hz : (flat ts).length ≤ 1000000) : m_seq_of [.tup (ts.map td)] = .ok (td (seqOf ts)) := by
  have hi : initE 4 [.tup (ts.map td)] = [.val (.tup (ts.map td)), .no, .no, .no] := rfl
  obtain ⟨δ', h1, y, z, h2⟩ := forF_run (t := .one 2) (f := l1_seq_of) (enc := td) (fun pre δ => ∃ y z, δ = [.val (.tup (ts.map td)), .own (.lst ((flat pre).map td)), y, z]) ts (δ := [.val (.tup (ts.map td)), .own (.lst []), .no, .no]) ⟨.no, .no, rfl⟩ (fun pre b δ hp ⟨y, z, q⟩ => by
    subst q
    have hl : (flat pre ++ cut1 b).length ≤ 1000000 := by
      obtain ⟨r, hr⟩ := hp
      have e : flat ts = flat pre ++ cut1 b ++ flat r := by rw [← hr, flat_app, flat_app, flat_one]
      rw [e, List.length_append] at hz; omega
    obtain ⟨z', h⟩ := seq_body (ts := ts) (acc := flat pre) (t := b) (y := y) (z := z) hl
    exact ⟨_, rfl, _, h, .val (td b), z', by rw [flat_app, flat_one]⟩)
  subst h2
  unfold m_seq_of
  rw [runF, hi, b_seq_of]
  unfold seqOf
  generalize flat ts = l at hz h1 ⊢
  match l, hz, h1 with
  | [], _, h1 =>
    rw [List.map_nil] at h1
    simp_arith [h1, pack, td]
  | [t], _, h1 =>
    rw [List.map_cons, List.map_nil] at h1
    simp_arith [h1, pack]
  | a :: b :: r, hl, h1 =>
    have e1 : ¬ ((((a :: b :: r).map td).length : Nat) : Int) = 0 := by simp; omega
    have e2 : ¬ ((((a :: b :: r).map td).length : Nat) : Int) = 1 := by simp; omega
    have e3 : addD (.tup [sD "seq"]) (.tup ((a :: b :: r).map td)) = some (td (pack .seq (a :: b :: r))) := by
      rw [tup_app (by rw [List.length_map]; omega)]
      rw [show pack .seq (a :: b :: r) = .nd .seq (a :: b :: r) from rfl, td, tds_map]; rfl
    generalize pack .seq (a :: b :: r) = res at e3 ⊢
    generalize (a :: b :: r).map td = ds at h1 e1 e2 e3
    simp_arith [h1, decide_eq_false e1, decide_eq_false e2, e3]
end K89

set_option Elab.async false
set_option linter.all false
set_option maxRecDepth 100000
set_option maxHeartbeats 2000000
/-! k89: what is left of a tree behind a deed: its words, its size. -/
namespace K89
open PySem Dl Sh
theorem kp_pos : ∀ t : Tr, gn t → 1 ≤ kp t
  | .sk, _ => Nat.le_refl 1
  | .act _, _ => Nat.le_refl 1
  | .nd _ [], h => absurd rfl h.1
  | .nd _ (t :: ts), h => by
    have := kp_pos t h.2.1
    show 1 ≤ kp t + kps ts
    omega
  | .lp a b, h => by
    have := kp_pos a h.1
    show 1 ≤ kp a + kp b
    omega
theorem len_kps : ∀ {ts : List Tr}, gns ts → ts.length ≤ kps ts
  | [], _ => Nat.le_refl 0
  | t :: ts, h => by
    have h1 := kp_pos t h.1
    have h2 := len_kps h.2
    rw [kps, List.length_cons]; omega
theorem pack_kp (k : Kd) : ∀ l : List Tr, kp (pack k l) ≤ max 1 (kps l)
  | [] => Nat.le_refl 1
  | [t] => by show kp t ≤ max 1 (kp t + 0); omega
  | a :: b :: r => by show kps (a :: b :: r) ≤ _; omega
theorem pack_lm (k : Kd) {N : Nat} : ∀ {l : List Tr}, (∀ t ∈ l, lm t ≤ N) → lm (pack k l) ≤ N
  | [], _ => Nat.zero_le _
  | [t], h => h t (by simp)
  | a :: b :: r, h => lms_le.mpr h
theorem pack_ht (k : Kd) {N : Nat} : ∀ {l : List Tr}, (∀ t ∈ l, ht t ≤ N) → ht (pack k l) ≤ N + 1
  | [], _ => Nat.zero_le _
  | [t], h => Nat.le_succ_of_le (h t (by simp))
  | a :: b :: r, h => hts_le.mpr fun t ht' => Nat.succ_le_succ (h t ht')
theorem pack_gn (k : Kd) : ∀ {l : List Tr}, (∀ t ∈ l, gn t) → gn (pack k l)
  | [], _ => trivial
  | [t], h => h t (by simp)
  | a :: b :: r, h => ⟨by simp, gns_iff.mpr h⟩
theorem cut1_kp : ∀ t : Tr, kps (cut1 t) ≤ kp t
  | .sk => Nat.zero_le _
  | .act _ => Nat.le_refl _
  | .nd .seq ts => Nat.le_refl _
  | .nd .xor ts => Nat.le_refl _
  | .nd .and ts => Nat.le_refl _
  | .lp a b => Nat.le_refl _
theorem cut1_mem {s : Tr} : ∀ {t : Tr}, s ∈ cut1 t → lm s ≤ lm t ∧ ht s ≤ ht t ∧ (gn t → gn s)
  | .sk, h => by cases h
  | .act _, h => by rw [show cut1 (.act _) = [_] from rfl, List.mem_singleton] at h; subst h; exact ⟨Nat.le_refl _, Nat.le_refl _, id⟩
  | .nd .seq ts, h => ⟨lms_le.mp (Nat.le_refl (lms ts)) s h, by have := hts_le.mp (Nat.le_refl (hts ts)) s h; show ht s ≤ hts ts; omega, fun g => gns_iff.mp g.2 s h⟩
  | .nd .xor ts, h => by rw [show cut1 (.nd .xor _) = [_] from rfl, List.mem_singleton] at h; subst h; exact ⟨Nat.le_refl _, Nat.le_refl _, id⟩
  | .nd .and ts, h => by rw [show cut1 (.nd .and _) = [_] from rfl, List.mem_singleton] at h; subst h; exact ⟨Nat.le_refl _, Nat.le_refl _, id⟩
  | .lp a b, h => by rw [show cut1 (.lp _ _) = [_] from rfl, List.mem_singleton] at h; subst h; exact ⟨Nat.le_refl _, Nat.le_refl _, id⟩
theorem flat_kp : ∀ ts : List Tr, kps (flat ts) ≤ kps ts
  | [] => Nat.le_refl _
  | t :: ts => by
    have h1 := cut1_kp t
    have h2 := flat_kp ts
    rw [flat, kps_app, kps]; omega
theorem flat_mem {s : Tr} : ∀ {ts : List Tr}, s ∈ flat ts → ∃ t ∈ ts, s ∈ cut1 t
  | [], h => by cases h
  | t :: ts, h => by
    rw [flat, List.mem_append] at h
    rcases h with h | h
    · exact ⟨t, List.mem_cons_self, h⟩
    · obtain ⟨u, h1, h2⟩ := flat_mem h
      exact ⟨u, List.mem_cons_of_mem _ h1, h2⟩
/-- sizes: leaves, growth, height, good names -/
def Ms (K N H : Nat) (t : Tr) : Prop := kp t ≤ K ∧ lm t ≤ N ∧ ht t ≤ H ∧ gn t
theorem seqOf_ms {ts : List Tr} {K N H : Nat} (h0 : ts ≠ []) (h : ∀ t ∈ ts, lm t ≤ N ∧ ht t ≤ H ∧ gn t) (hk : kps ts ≤ K) : Ms K N (H + 1) (seqOf ts) ∧ (flat ts).length ≤ K := by
  have hg : ∀ s ∈ flat ts, lm s ≤ N ∧ ht s ≤ H ∧ gn s := fun s hs => by
    obtain ⟨t, h1, h2⟩ := flat_mem hs
    obtain ⟨h3, h4, h5⟩ := cut1_mem h2
    obtain ⟨h6, h7, h8⟩ := h t h1
    exact ⟨by omega, by omega, h5 h8⟩
  have hf := flat_kp ts
  have hp : 1 ≤ kps ts := by
    cases ts with
    | nil => exact absurd rfl h0
    | cons t ts =>
      have := kp_pos t (h t List.mem_cons_self).2.2
      rw [kps]; omega
  have hl := len_kps (gns_iff.mpr fun s hs => (hg s hs).2.2)
  refine ⟨⟨?_, pack_lm _ fun s hs => (hg s hs).1, pack_ht _ fun s hs => (hg s hs).2.1, pack_gn _ fun s hs => (hg s hs).2.2⟩, by omega⟩
  have := pack_kp .seq (flat ts)
  show kp (pack .seq (flat ts)) ≤ K
  omega
theorem filt_kp (p : Tr → Bool) : ∀ ts : List Tr, kps (ts.filter p) ≤ kps ts
  | [] => Nat.le_refl _
  | t :: ts => by
    have h2 := filt_kp p ts
    rw [List.filter_cons]
    split
    · rw [kps, kps]; omega
    · rw [kps]; omega
theorem andOf_ms {ts : List Tr} {K N H : Nat} (h0 : ts ≠ []) (h : ∀ t ∈ ts, lm t ≤ N ∧ ht t ≤ H ∧ gn t) (hk : kps ts ≤ K) : Ms K N (H + 1) (andOf ts) ∧ ts.length ≤ K := by
  have hg : ∀ s ∈ ts.filter (fun t => !isSk t), lm s ≤ N ∧ ht s ≤ H ∧ gn s := fun s hs => h s (List.mem_filter.mp hs).1
  have hf := filt_kp (fun t => !isSk t) ts
  have hp : 1 ≤ kps ts := by
    cases ts with
    | nil => exact absurd rfl h0
    | cons t ts =>
      have := kp_pos t (h t List.mem_cons_self).2.2
      rw [kps]; omega
  have hl := len_kps (gns_iff.mpr fun s hs => (h s hs).2.2)
  refine ⟨⟨?_, pack_lm _ fun s hs => (hg s hs).1, pack_ht _ fun s hs => (hg s hs).2.1, pack_gn _ fun s hs => (hg s hs).2.2⟩, by omega⟩
  have := pack_kp .and (ts.filter fun t => !isSk t)
  show kp (pack .and _) ≤ K
  omega
/-- l is what is left of t behind x -/
structure RestOk (t : Tr) (x : Str) (l : List Tr) : Prop where
  lang : ∀ w, (∃ s ∈ l, Lang s w) ↔ Lang t (x :: w)
  len : l.length ≤ kp t
  mem : ∀ s ∈ l, Ms (kp t + lm t) (lm t) (ht t + 3) s
theorem RestOk.same {t : Tr} {x : Str} {l l' : List Tr} (h : RestOk t x l) (h1 : ∀ s, s ∈ l' ↔ s ∈ l) (h2 : l'.length ≤ l.length) : RestOk t x l' :=
  ⟨fun w => by rw [← h.lang w]; exact ⟨fun ⟨s, a, b⟩ => ⟨s, (h1 s).mp a, b⟩, fun ⟨s, a, b⟩ => ⟨s, (h1 s).mpr a, b⟩⟩, Nat.le_trans h2 h.len, fun s hs => h.mem s ((h1 s).mp hs)⟩
section
variable {x : Str} {f : Tr → List Tr}
theorem rest_sk : RestOk .sk x [] := ⟨fun w => ⟨fun ⟨_, h, _⟩ => (by cases h), fun h => by cases h⟩, Nat.zero_le _, fun _ h => by cases h⟩
theorem rest_act_no {n : Str} (h : n ≠ x) : RestOk (.act n) x [] := ⟨fun w => ⟨fun ⟨_, h, _⟩ => (by cases h), fun h' => by
  have h' : x :: w = [n] := h'
  injection h' with e _
  exact absurd e.symm h⟩, Nat.zero_le _, fun _ h => (by cases h)⟩
theorem rest_act : RestOk (.act x) x [.sk] := ⟨fun w => ⟨fun ⟨s, h, h1⟩ => by
    rw [List.mem_singleton] at h
    subst h
    have h1 : w = [] := h1
    rw [h1]
    rfl, fun h => ⟨.sk, by simp, by
    have h : x :: w = [x] := h
    injection h⟩⟩, Nat.le_refl _, fun s h => by
    rw [List.mem_singleton] at h; subst h
    exact ⟨by show 1 ≤ 1 + 0; omega, Nat.le_refl _, Nat.zero_le _, trivial⟩⟩
theorem len_flatMap : ∀ {ts : List Tr}, (∀ t ∈ ts, (f t).length ≤ kp t) → (ts.flatMap f).length ≤ kps ts
  | [], _ => Nat.le_refl _
  | t :: ts, h => by
    have h1 := h t List.mem_cons_self
    have h2 := len_flatMap fun s hs => h s (List.mem_cons_of_mem _ hs)
    rw [List.flatMap_cons, List.length_append, kps]; omega
theorem rest_xor {ts : List Tr} (h : ∀ t ∈ ts, RestOk t x (f t)) : RestOk (.nd .xor ts) x (ts.flatMap f) := by
  refine ⟨fun w => ?_, len_flatMap fun t ht' => (h t ht').len, fun s hs => ?_⟩
  · show _ ↔ LXor ts (x :: w)
    rw [lxor_iff]
    constructor
    · rintro ⟨s, h1, h2⟩
      obtain ⟨t, h3, h4⟩ := List.mem_flatMap.mp h1
      exact ⟨t, h3, ((h t h3).lang w).mp ⟨s, h4, h2⟩⟩
    · rintro ⟨t, h1, h2⟩
      obtain ⟨s, h3, h4⟩ := ((h t h1).lang w).mpr h2
      exact ⟨s, List.mem_flatMap.mpr ⟨t, h1, h3⟩, h4⟩
  · obtain ⟨t, h3, h4⟩ := List.mem_flatMap.mp hs
    obtain ⟨m1, m2, m3, m4⟩ := (h t h3).mem s h4
    have q1 := kp_mem h3
    have q2 := lms_le.mp (Nat.le_refl (lms ts)) t h3
    have q3 := hts_le.mp (Nat.le_refl (hts ts)) t h3
    exact ⟨by show kp s ≤ kps ts + lms ts; omega, by show lm s ≤ lms ts; omega, by show ht s ≤ hts ts + 3; omega, m4⟩
/-- behind a deed of a row -/
def sq (f : Tr → List Tr) : List Tr → List Tr
  | [] => []
  | t :: ts => (f t).map (fun o => seqOf (o :: ts)) ++ if nul t = true then sq f ts else []
theorem sq_lang : ∀ {ts : List Tr}, (∀ t ∈ ts, RestOk t x (f t)) → ∀ w, (∃ s ∈ sq f ts, Lang s w) ↔ LSeq ts (x :: w)
  | [], _, w => ⟨fun ⟨_, h, _⟩ => (by cases h), fun h => by cases h⟩
  | t :: ts, h, w => by
    have hL := (h t List.mem_cons_self).lang
    have ih := sq_lang (fun s hs => h s (List.mem_cons_of_mem _ hs)) w
    constructor
    · rintro ⟨s, h1, h2⟩
      rw [sq, List.mem_append] at h1
      rcases h1 with h1 | h1
      · obtain ⟨o, h3, rfl⟩ := List.mem_map.mp h1
        obtain ⟨u, v, e, h4, h5⟩ := lang_seqOf.mp h2
        exact ⟨x :: u, v, by rw [e]; rfl, (hL u).mp ⟨o, h3, h4⟩, h5⟩
      · by_cases hn : nul t = true
        · rw [if_pos hn] at h1
          exact ⟨[], x :: w, rfl, (nul_iff t).mp hn, ih.mp ⟨s, h1, h2⟩⟩
        · rw [if_neg hn] at h1; cases h1
    · rintro ⟨u, v, e, h1, h2⟩
      cases u with
      | cons c u =>
        cases e
        obtain ⟨o, h3, h4⟩ := (hL u).mpr h1
        exact ⟨seqOf (o :: ts), by rw [sq, List.mem_append]; exact .inl (List.mem_map.mpr ⟨o, h3, rfl⟩), lang_seqOf.mpr ⟨u, v, rfl, h4, h2⟩⟩
      | nil =>
        cases e
        obtain ⟨s, h3, h4⟩ := ih.mpr h2
        exact ⟨s, by rw [sq, List.mem_append, if_pos ((nul_iff t).mpr h1)]; exact .inr h3, h4⟩
theorem sq_len : ∀ {ts : List Tr}, (∀ t ∈ ts, (f t).length ≤ kp t) → (sq f ts).length ≤ kps ts
  | [], _ => Nat.le_refl _
  | t :: ts, h => by
    have h1 := h t List.mem_cons_self
    have h2 := sq_len fun s hs => h s (List.mem_cons_of_mem _ hs)
    rw [sq, List.length_append, List.length_map, kps]
    split
    · omega
    · simp; omega
theorem row_ms {K N H : Nat} {t : Tr} {post : List Tr} {o : Tr} (h1 : RestOk t x (f t)) (ho : o ∈ f t) (hK : kp t + lm t + kps post ≤ K) (hN : ∀ s ∈ t :: post, lm s ≤ N) (hH : ∀ s ∈ t :: post, ht s + 1 ≤ H) (hg : ∀ s ∈ t :: post, gn s) :
    Ms K N (H + 3) (seqOf (o :: post)) ∧ (flat (o :: post)).length ≤ K := by
  obtain ⟨m1, m2, m3, m4⟩ := h1.mem o ho
  have a1 := hN t List.mem_cons_self
  have a2 := hH t List.mem_cons_self
  refine seqOf_ms (H := H + 2) (by simp) (fun s hs => ?_) (by rw [kps]; omega)
  rcases List.mem_cons.mp hs with rfl | hs
  · exact ⟨by omega, by omega, m4⟩
  · have b1 := hN s (List.mem_cons_of_mem _ hs)
    have b2 := hH s (List.mem_cons_of_mem _ hs)
    exact ⟨b1, by omega, hg s (List.mem_cons_of_mem _ hs)⟩
theorem sq_ms {K N H : Nat} : ∀ {ts : List Tr}, (∀ t ∈ ts, RestOk t x (f t)) → (∀ t ∈ ts, lm t ≤ N) → kps ts + N ≤ K → (∀ s ∈ ts, ht s + 1 ≤ H) → (∀ s ∈ ts, gn s) → ∀ s ∈ sq f ts, Ms K N (H + 3) s
  | [], _, _, _, _, _, s, hs => by cases hs
  | t :: ts, h, hN, hK, hH, hg, s, hs => by
    rw [kps] at hK
    rw [sq, List.mem_append] at hs
    rcases hs with hs | hs
    · obtain ⟨o, h3, rfl⟩ := List.mem_map.mp hs
      have a1 := hN t List.mem_cons_self
      exact (row_ms (h t List.mem_cons_self) h3 (by omega) hN hH hg).1
    · by_cases hn : nul t = true
      · rw [if_pos hn] at hs
        exact sq_ms (fun s hs => h s (List.mem_cons_of_mem _ hs)) (fun s hs => hN s (List.mem_cons_of_mem _ hs)) (by omega) (fun s hs => hH s (List.mem_cons_of_mem _ hs)) (fun s hs => hg s (List.mem_cons_of_mem _ hs)) s hs
      · rw [if_neg hn] at hs; cases hs
theorem rest_seq {ts : List Tr} (hg : gns ts) (h : ∀ t ∈ ts, RestOk t x (f t)) : RestOk (.nd .seq ts) x (sq f ts) :=
  ⟨sq_lang h, sq_len fun t ht' => (h t ht').len, sq_ms h (lms_le.mp (Nat.le_refl _)) (Nat.le_refl _) (hts_le.mp (Nat.le_refl _)) (gns_iff.mp hg)⟩
/-- behind a deed of parts side by side -/
def an (f : Tr → List Tr) (pre : List Tr) : List Tr → List Tr
  | [] => []
  | t :: post => (f t).map (fun o => andOf (pre ++ o :: post)) ++ an f (pre ++ [t]) post
theorem an_mem {s : Tr} : ∀ {post pre : List Tr}, s ∈ an f pre post ↔ ∃ a t b, post = a ++ t :: b ∧ ∃ o ∈ f t, s = andOf (pre ++ a ++ o :: b)
  | [], pre => ⟨fun h => (by cases h), fun ⟨a, t, b, e, _⟩ => by simp at e⟩
  | t :: post, pre => by
    rw [an, List.mem_append, an_mem]
    constructor
    · rintro (h | ⟨a, t', b, e, o, h1, h2⟩)
      · obtain ⟨o, h3, rfl⟩ := List.mem_map.mp h
        exact ⟨[], t, post, rfl, o, h3, by simp⟩
      · exact ⟨t :: a, t', b, by rw [e]; rfl, o, h1, by rw [h2]; simp⟩
    · rintro ⟨a, t', b, e, o, h1, h2⟩
      cases a with
      | nil =>
        cases e
        exact .inl (List.mem_map.mpr ⟨o, h1, by rw [h2]; simp⟩)
      | cons c a =>
        cases e
        exact .inr ⟨a, t', b, rfl, o, h1, by rw [h2]; simp⟩
theorem an_len : ∀ {post pre : List Tr}, (∀ t ∈ post, (f t).length ≤ kp t) → (an f pre post).length ≤ kps post
  | [], _, _ => Nat.le_refl _
  | t :: ts, pre, h => by
    have h1 := h t List.mem_cons_self
    have h2 := an_len (pre := pre ++ [t]) fun s hs => h s (List.mem_cons_of_mem _ hs)
    rw [an, List.length_append, List.length_map, kps]; omega
theorem side_ms {K N H : Nat} {t : Tr} {pre post : List Tr} {o : Tr} (h1 : RestOk t x (f t)) (ho : o ∈ f t) (hK : kps pre + (kp t + lm t) + kps post ≤ K) (hN : ∀ s ∈ pre ++ t :: post, lm s ≤ N) (hH : ∀ s ∈ pre ++ t :: post, ht s + 1 ≤ H) (hg : ∀ s ∈ pre ++ t :: post, gn s) :
    Ms K N (H + 3) (andOf (pre ++ o :: post)) ∧ (pre ++ o :: post).length ≤ K := by
  obtain ⟨m1, m2, m3, m4⟩ := h1.mem o ho
  have a1 := hN t (by simp)
  have a2 := hH t (by simp)
  refine andOf_ms (H := H + 2) (by simp) (fun s hs => ?_) (by rw [kps_app, kps]; omega)
  rw [List.mem_append, List.mem_cons] at hs
  rcases hs with hs | rfl | hs
  · have b2 := hH s (by simp [hs])
    exact ⟨hN s (by simp [hs]), by omega, hg s (by simp [hs])⟩
  · exact ⟨by omega, by omega, m4⟩
  · have b2 := hH s (by simp [hs])
    exact ⟨hN s (by simp [hs]), by omega, hg s (by simp [hs])⟩
theorem rest_and {ts : List Tr} (hg : gns ts) (h : ∀ t ∈ ts, RestOk t x (f t)) : RestOk (.nd .and ts) x (an f [] ts) := by
  refine ⟨fun w => ?_, an_len fun t ht' => (h t ht').len, fun s hs => ?_⟩
  · show _ ↔ LAnd ts (x :: w)
    rw [land_d]
    constructor
    · rintro ⟨s, h1, h2⟩
      obtain ⟨a, t, b, e, o, h3, rfl⟩ := an_mem.mp h1
      rw [List.nil_append] at h2
      obtain ⟨u, v, h4, h5, h6⟩ := land_mid.mp (lang_andOf.mp h2)
      exact ⟨a, t, b, e, u, v, ((h t (by rw [e]; simp)).lang u).mp ⟨o, h3, h4⟩, h5, h6⟩
    · rintro ⟨a, t, b, e, u, v, h1, h2, h3⟩
      obtain ⟨o, h4, h5⟩ := ((h t (by rw [e]; simp)).lang u).mpr h1
      exact ⟨andOf ([] ++ a ++ o :: b), an_mem.mpr ⟨a, t, b, e, o, h4, rfl⟩, lang_andOf.mpr (land_mid.mpr ⟨u, v, h5, h2, h3⟩)⟩
  · obtain ⟨a, t, b, e, o, h3, rfl⟩ := an_mem.mp hs
    have q2 := lms_le.mp (Nat.le_refl (lms ts))
    have q3 := hts_le.mp (Nat.le_refl (hts ts))
    have q4 := gns_iff.mp hg
    have ht' : t ∈ ts := by rw [e]; simp
    have q5 := q2 t ht'
    rw [List.nil_append]
    refine (side_ms (K := kps ts + lms ts) (N := lms ts) (H := hts ts) (h t ht') h3 ?_ (e ▸ q2) (e ▸ q3) (e ▸ q4)).1
    have : kps ts = kps a + (kp t + kps b) := by rw [e, kps_app, kps]
    omega
def again (a b : Tr) : Tr := .nd .xor [.sk, .nd .seq [b, .lp a b]]
theorem rest_lp {a b : Tr} (hg : gn (.lp a b)) (ha : RestOk a x (f a)) (hb : RestOk b x (f b)) :
    RestOk (.lp a b) x ((f a).map (fun o => seqOf [o, again a b]) ++ if nul a = true then (f b).map (fun o => seqOf [o, .lp a b]) else []) := by
  have e0 : ht (.lp a b) = max (ht a) (ht b) + 1 := rfl
  have e1 : kp (.lp a b) = kp a + kp b := rfl
  have e2 : lm (.lp a b) = kp a + kp b + 1 + max (lm a) (lm b) := rfl
  have e3 : kp (again a b) = 1 + (kp b + (kp a + kp b + 0) + 0) := rfl
  have e4 : lm (again a b) = max 0 (max (max (lm b) (max (lm (.lp a b)) 0)) 0) := rfl
  have e5 : ht (again a b) = max (0 + 1) (max (max (ht b + 1) (max (ht (.lp a b) + 1) 0) + 1) 0) := rfl
  refine ⟨fun w => ?_, ?_, fun s hs => ?_⟩
  · show _ ↔ Star (Lang a) (Lang b) (x :: w)
    have hag : ∀ v, Lang (again a b) v ↔ (v = [] ∨ ∃ p q, v = p ++ q ∧ Lang b p ∧ Star (Lang a) (Lang b) q) := fun v => by
      show (v = [] ∨ (∃ p q, v = p ++ q ∧ Lang b p ∧ LSeq [.lp a b] q) ∨ False) ↔ _
      rw [or_false]
      have : ∀ q, LSeq [.lp a b] q ↔ Star (Lang a) (Lang b) q := fun q => lseq_one
      simp only [this]
    constructor
    · rintro ⟨s, h1, h2⟩
      rw [List.mem_append] at h1
      rcases h1 with h1 | h1
      · obtain ⟨o, h3, rfl⟩ := List.mem_map.mp h1
        obtain ⟨u, v, e, h4, h5⟩ := lang_seqOf.mp h2
        have h5 := (hag v).mp (lseq_one.mp h5)
        rw [e]
        exact star_back1 (u := x :: u) ((ha.lang u).mp ⟨o, h3, h4⟩) h5
      · by_cases hn : nul a = true
        · rw [if_pos hn] at h1
          obtain ⟨o, h3, rfl⟩ := List.mem_map.mp h1
          obtain ⟨u, v, e, h4, h5⟩ := lang_seqOf.mp h2
          rw [e]
          exact star_back2 (u := x :: u) ((nul_iff a).mp hn) ((hb.lang u).mp ⟨o, h3, h4⟩) (lseq_one.mp h5)
        · rw [if_neg hn] at h1; cases h1
    · intro h
      rcases star_cons h rfl with ⟨u, v, e, h1, h2⟩ | ⟨h0, u, v, e, h1, h2⟩
      · obtain ⟨o, h3, h4⟩ := (ha.lang u).mpr h1
        exact ⟨seqOf [o, again a b], List.mem_append_left _ (List.mem_map.mpr ⟨o, h3, rfl⟩), lang_seqOf.mpr ⟨u, v, e, h4, lseq_one.mpr ((hag v).mpr h2)⟩⟩
      · obtain ⟨o, h3, h4⟩ := (hb.lang u).mpr h1
        refine ⟨seqOf [o, .lp a b], List.mem_append_right _ ?_, lang_seqOf.mpr ⟨u, v, e, h4, lseq_one.mpr h2⟩⟩
        rw [if_pos ((nul_iff a).mpr h0)]
        exact List.mem_map.mpr ⟨o, h3, rfl⟩
  · have h1 := ha.len
    have h2 := hb.len
    rw [List.length_append, List.length_map, e1]
    split
    · rw [List.length_map]; omega
    · simp; omega
  · rw [List.mem_append] at hs
    have gag : gn (again a b) := ⟨by simp, trivial, ⟨by simp, hg.2, hg, trivial⟩, trivial⟩
    rcases hs with hs | hs
    · obtain ⟨o, h3, rfl⟩ := List.mem_map.mp hs
      obtain ⟨m1, m2, m3, m4⟩ := ha.mem o h3
      refine (seqOf_ms (H := ht (.lp a b) + 2) (by simp) (fun s hs => ?_) (by rw [kps, kps, kps]; omega)).1
      rcases List.mem_cons.mp hs with rfl | hs
      · exact ⟨by omega, by omega, m4⟩
      · rw [List.mem_singleton] at hs; subst hs
        exact ⟨by omega, by omega, gag⟩
    · by_cases hn : nul a = true
      · rw [if_pos hn] at hs
        obtain ⟨o, h3, rfl⟩ := List.mem_map.mp hs
        obtain ⟨m1, m2, m3, m4⟩ := hb.mem o h3
        refine (seqOf_ms (H := ht (.lp a b) + 2) (by simp) (fun s hs => ?_) (by rw [kps, kps, kps]; omega)).1
        rcases List.mem_cons.mp hs with rfl | hs
        · exact ⟨by omega, by omega, m4⟩
        · rw [List.mem_singleton] at hs; subst hs
          exact ⟨by omega, by omega, hg⟩
      · rw [if_neg hn] at hs; cases hs
end
end K89

set_option Elab.async false
set_option linter.all false
set_option maxRecDepth 100000
set_option maxHeartbeats 2000000
/-! Plain facts: slices of lists and tuples, ranges from a to b. -/
namespace Dl
open PySem
theorem slF_lst (xs : List D) (a : Nat) : slD (.lst xs) (some (a : Int)) none = some (.lst (xs.drop a)) := by
  have h := cut_tup xs a
  have h : some (D.tup (cutD xs (some (a : Int)) none)) = some (D.tup (xs.drop a)) := h
  injection h with h
  injection h with h
  show some (D.lst (cutD xs (some (a : Int)) none)) = _
  rw [h]
theorem cutT (xs : List D) (b : Nat) : cutD xs none (some (b : Int)) = xs.take b := by
  unfold cutD
  rw [HT.sIx_nat, HT.sIx_none, List.drop_zero, Nat.sub_zero]
  by_cases hb : b ≤ xs.length
  · rw [Nat.min_eq_left hb]
  · rw [Nat.min_eq_right (by omega), List.take_of_length_le (Nat.le_refl _), List.take_of_length_le (by omega)]
theorem slT_tup (xs : List D) (b : Nat) : slD (.tup xs) none (some (b : Int)) = some (.tup (xs.take b)) := by
  rw [← cutT]; rfl
theorem cutA (xs : List D) (a b : Nat) : cutD xs (some (a : Int)) (some (b : Int)) = (xs.drop a).take (b - a) := by
  unfold cutD
  rw [HT.sIx_nat, HT.sIx_nat]
  by_cases ha : a ≤ xs.length
  · rw [Nat.min_eq_left ha]
    by_cases hb : b ≤ xs.length
    · rw [Nat.min_eq_left hb]
    · rw [Nat.min_eq_right (Nat.le_of_not_le hb), List.take_of_length_le (by simp), List.take_of_length_le (by simp; omega)]
  · have e : min a xs.length = xs.length := Nat.min_eq_right (Nat.le_of_not_le ha)
    rw [e, List.drop_length, List.drop_eq_nil_of_le (show xs.length ≤ a by omega), List.take_nil, List.take_nil]
theorem slA_tup (xs : List D) (a b : Nat) : slD (.tup xs) (some (a : Int)) (some (b : Int)) = some (.tup ((xs.drop a).take (b - a))) := by
  rw [← cutA]; rfl
theorem rg2 (a b : Nat) (ha : a < 2 ^ 62) (hb : b < 2 ^ 62) : rngD [.int (a : Int), .int (b : Int)] = some ((List.range (b - a)).map fun (k : Nat) => D.int ((a + k : Nat) : Int)) := by
  have h1 : lg (a : Int) 62 = true := lg_of (by simpa using ha) (by decide)
  have h2 : lg (b : Int) 62 = true := lg_of (by simpa using hb) (by decide)
  show (if lg (a : Int) 62 = true ∧ lg (b : Int) 62 = true then _ else _) = _
  rw [if_pos ⟨h1, h2⟩]
  have e : ((b : Int) - (a : Int)).toNat = b - a := by omega
  rw [e]
  congr 1
theorem ev_lc2 (vs vs1 : List Nat) (t : Tg) (it : Dl.Env → Dl.R (List D)) (c : Tv) (t1 : Tg) (it1 : Dl.Env → Dl.R (List D)) (c1 : Tv) (f : Ev) (δ : Dl.Env) : nLc2 vs vs1 t it c t1 it1 c1 f δ = (it δ >>= fun ds => map2F t c it1 vs1 t1 c1 f (wipeE δ vs) ds >>= fun ys => ofO (if ys.length ≤ 16777216 then some ys else none)) := rfl
end Dl

set_option Elab.async false
set_option linter.all false
set_option maxRecDepth 100000
set_option maxHeartbeats 2000000
/-! k89: what is left, by the program: rows. -/
namespace K89
open PySem Dl Sh
local macro_rules | `(tactic| simp_arith [$ts,*]) => `(tactic| simp only [ev_bind_ok, ev_bind_exc, ev_bindF_ok, ev_bindF_exc, ev_sNext, ev_sSeq, ev_sIf, ev_sRet, ev_sSet, ev_sOwn, ev_sDrop, ev_sRaise, ev_sFrz, ev_sUnp, ev_sFor, ev_eC, Dl.ev_e1, Dl.ev_e2, ev_eB, ev_eCall, ev_aNil, ev_aCons, ev_eIf, blR_bl, ev_tB1, ev_tAnd, ev_tOr, andK_bl, orK_bl, notK_bl, ev_eAnd, ev_eOr, ev_eNot, ev_tNot, ev_tYes, ev_oNone, ev_oSome, ev_eSl, ev_iSeq, ev_iRng, ev_eN, ev_ofO_some, ev_eV0, ev_eVs, lt_int, le_int, gt_int, ge_int, add_int, sub_int, iadd_int, len_tup, len_lst, eq_int, ne_int, itD_tup, itD_lst, put_one, fz_nil, fz_val, fz_no, fz_own, fz_succ, od_lst, od_lol, od_dk, od_dt, odict_lst, odict_dk, odict_dt, wp_nil, wp_cons, sa_nil, sa_cons, put_all, ev_eTup', ev_eLst', ev_nLst, ev_nLc, ev_eGen', ev_tBor, ev_eBor, ev_sPar, ev_eM, ev_eM0, ev_eCallM, ev_aSnoc, ok_tup, ok_lst, ok_str, ev_tIf, notB_eq, isB_eq, isN_eq, notN_eq, neg_int, tupD_lst, tupD_tup, listD_lst, listD_tup, pure_int, pure_bl, pure_str, pure_non, pureL_int, ev_eIsi, addD_lst, addD_tup, ix_t0, ix_t1, ix_t2, ix_l0, ix_l1, ix_l2, isi_tt, isi_ss, isT_tup, isS_str, List.set_cons_succ, List.set_cons_zero, List.length_cons, List.length_nil, Nat.reduceAdd, Nat.reduceLeDiff, Nat.zero_add, Nat.zero_le, if_true, if_false, Bool.false_eq_true, decide_true, decide_false, Bool.not_true, Bool.not_false, Bool.true_or, Bool.false_or, Bool.or_true, Bool.or_false, Bool.true_and, Bool.false_and, Bool.and_true, Bool.and_false, Int.cast_ofNat_Int, Int.reduceEq, Int.reduceLT, Int.reduceLE, Int.reduceNeg, reduceCtorEq, List.cons_append, List.nil_append, eq_of, ne_of, String.reduceEq, $ts,*])
def Same (l' l : List Tr) : Prop := (∀ s, s ∈ l' ↔ s ∈ l) ∧ l'.length ≤ l.length
def Sm (s : Tr) : Prop := gn s ∧ ht s ≤ 60
theorem twins_s {l : List Tr} (hg : ∀ t ∈ l, Sm t) (hz : l.length ≤ 16777216) : ∃ l' : List Tr, m_without_twins [.lst (l.map td)] = .ok (.lst (l'.map td)) ∧ Same l' l := twins_tr hg hz
section
variable {x : Str} {f : Tr → List Tr} {g0 g1 g2 g3 : List D → Dl.R D}
theorem ch_ix {k : Kd} {pre post : List Tr} {t : Tr} : ixD (td (.nd k (pre ++ t :: post))) (.int ((1 + pre.length : Nat) : Int)) = some (td t) := by
  show ixD (.tup (sD k.nm :: tds (pre ++ t :: post))) _ = _
  rw [ix_tup, Nat.add_comm, List.getElem?_cons_succ, tds_map, List.map_append, List.getElem?_append_right (by rw [List.length_map]; exact Nat.le_refl _), List.length_map, Nat.sub_self]
  rfl
theorem ch_from {k : Kd} {pre post : List Tr} {t : Tr} : slD (td (.nd k (pre ++ t :: post))) (some (((1 + pre.length : Nat) : Int) + 1)) none = some (.tup (post.map td)) := by
  have h := cut_tup (sD k.nm :: tds (pre ++ t :: post)) (1 + pre.length + 1)
  rw [List.drop_succ_cons, tds_map, List.map_append, List.map_cons, Nat.add_comm 1 pre.length] at h
  have e : List.drop (pre.length + 1) (pre.map td ++ td t :: post.map td) = post.map td := by
    rw [show pre.map td ++ td t :: post.map td = (pre.map td ++ [td t]) ++ post.map td by simp, List.drop_left' (by simp)]
  rw [e] at h
  rw [Nat.add_comm 1 pre.length]
  show slD (.tup (sD k.nm :: tds (pre ++ t :: post))) _ _ = _
  rw [tds_map, List.map_append, List.map_cons]
  exact h
theorem row_map {ts pre post : List Tr} {t : Tr} {K N H : Nat} {d2 : Dl.S} (e : ts = pre ++ t :: post) (h : RestOk t x (f t)) (hK : kp t + lm t + kps post ≤ K) (hK2 : K ≤ 100000) (hN : ∀ s ∈ t :: post, lm s ≤ N) (hH : ∀ s ∈ t :: post, ht s + 1 ≤ H) (hg : ∀ s ∈ t :: post, gn s) :
    mapF (.one 4) tYesD (y1_seq_rests g0 g1 g2 g3) [.val (td (.nd .seq ts)), .val (.str x), d2, .val (.int ((1 + pre.length : Nat) : Int)), .no] ((f t).map td) = .ok (((f t).map fun o => seqOf (o :: post)).map td) := by
  rw [List.map_map]
  refine mapF_enc fun o ho => ⟨_, rfl, rfl, ?_⟩
  have hm := row_ms h ho hK hN hH hg
  have hpl : post.length ≤ K := by
    have := len_kps (gns_iff.mpr fun s hs => hg s (List.mem_cons_of_mem _ hs)); omega
  have h1 := ch_from (k := .seq) (pre := pre) (post := post) (t := t)
  have h2 : addD (.tup [td o]) (.tup (post.map td)) = some (.tup ((o :: post).map td)) := tup_app (by rw [List.length_map]; omega)
  have h3 := seq_ok (ts := o :: post) (by have := hm.2; omega)
  rw [← e] at h1
  unfold y1_seq_rests
  simp_arith [h1, h2, h3]
  rfl
theorem seq_loop {ts : List Tr} {K N H : Nat} (hR : ∀ t ∈ ts, g0 [td t, .str x] = .ok (.lst ((f t).map td)) ∧ RestOk t x (f t)) (hK : kps ts + N ≤ K) (hK2 : K ≤ 100000) (hN : ∀ s ∈ ts, lm s ≤ N) (hH : ∀ s ∈ ts, ht s + 1 ≤ H) (hH2 : H ≤ 40) (hg : ∀ s ∈ ts, gn s) :
    ∀ (post pre A : List Tr) (s3 s4 : Dl.S), ts = pre ++ post → A.length + kps post ≤ 1000000 → (∀ s ∈ A, Sm s) →
    (∃ l', forF (.one 3) (l1_seq_rests g0 g1 g2 g3) ((List.range' pre.length post.length).map fun k => ni (1 + k)) [.val (td (.nd .seq ts)), .val (.str x), .val (.lst (A.map td)), s3, s4] = .ret (.lst (l'.map td)) ∧ Same l' (A ++ sq f post)) ∨
    (∃ s3' s4', forF (.one 3) (l1_seq_rests g0 g1 g2 g3) ((List.range' pre.length post.length).map fun k => ni (1 + k)) [.val (td (.nd .seq ts)), .val (.str x), .val (.lst (A.map td)), s3, s4] = .next [.val (td (.nd .seq ts)), .val (.str x), .val (.lst ((A ++ sq f post).map td)), s3', s4'])
  | [], pre, A, s3, s4, _, _, _ => .inr ⟨s3, s4, by rw [sq, List.append_nil]; rfl⟩
  | t :: post, pre, A, s3, s4, e, hz, hA => by
    have sub : ∀ s ∈ t :: post, s ∈ ts := fun s hs => by rw [e]; exact List.mem_append_right _ hs
    have ht1 := sub t List.mem_cons_self
    have hkk : kps ts = kps pre + (kp t + kps post) := by rw [e, kps_app, kps]
    have n1 := hN t ht1
    rw [kps] at hz
    have hm := row_map (g0 := g0) (g1 := g1) (g2 := g2) (g3 := g3) (d2 := .val (.lst (A.map td))) e (hR t ht1).2 (K := K) (N := N) (H := H) (by omega) hK2 (fun s hs => hN s (sub s hs)) (fun s hs => hH s (sub s hs)) (fun s hs => hg s (sub s hs))
    have h1 := ch_ix (k := .seq) (pre := pre) (post := post) (t := t)
    rw [← e] at h1
    have h2 := (hR t ht1).1
    have hl := (hR t ht1).2.len
    generalize hB : ((f t).map fun o => seqOf (o :: post)) = B at hm
    have hBl : B.length ≤ kp t := by rw [← hB, List.length_map]; exact hl
    have hB1 : (B.map td).length ≤ 16777216 := by rw [List.length_map]; omega
    have hB2 : (A.map td).length + (B.map td).length ≤ 16777216 := by rw [List.length_map, List.length_map]; omega
    have hBS : ∀ s ∈ B, Sm s := fun s hs => by
      rw [← hB] at hs
      obtain ⟨o, ho, rfl⟩ := List.mem_map.mp hs
      have := (row_ms (H := H) (hR t ht1).2 ho (K := K) (N := N) (by omega) (fun s hs => hN s (sub s hs)) (fun s hs => hH s (sub s hs)) (fun s hs => hg s (sub s hs))).1
      exact ⟨this.2.2.2, by have := this.2.2.1; omega⟩
    have hAB : ∀ s ∈ A ++ B, Sm s := fun s hs => by
      rcases List.mem_append.mp hs with h | h
      · exact hA s h
      · exact hBS s h
    have hn := nul_ok 60 t (by have := hH t ht1; omega)
    have hadd : addD (.lst (A.map td)) (.lst (B.map td)) = some (.lst ((A ++ B).map td)) := by
      rw [addD_lst, if_pos hB2, List.map_append]
    rw [List.length_cons, List.range'_succ, List.map_cons, sq, hB, ← List.append_assoc]
    by_cases hnl : nul t = true
    · rw [if_pos hnl]
      have ih := seq_loop hR hK hK2 hN hH hH2 hg post (pre ++ [t]) (A ++ B) (.val (.int ((1 + pre.length : Nat) : Int))) s4 (by rw [e]; simp) (by rw [List.length_append]; omega) hAB
      have body : l1_seq_rests g0 g1 g2 g3 [.val (td (.nd .seq ts)), .val (.str x), .val (.lst (A.map td)), .val (.int ((1 + pre.length : Nat) : Int)), s4] = .next [.val (td (.nd .seq ts)), .val (.str x), .val (.lst ((A ++ B).map td)), .val (.int ((1 + pre.length : Nat) : Int)), s4] := by
        unfold l1_seq_rests
        simp_arith [h1, h2, hm, hB1, hadd, hn, hnl]
      simp only [forF, put_one, List.set_cons_succ, List.set_cons_zero, body]
      rw [List.length_append, List.length_singleton] at ih
      exact ih
    · rw [if_neg hnl, List.append_nil]
      obtain ⟨l', h5, h6⟩ := twins_s hAB (by rw [List.length_append]; omega)
      have body : l1_seq_rests g0 g1 g2 g3 [.val (td (.nd .seq ts)), .val (.str x), .val (.lst (A.map td)), .val (.int ((1 + pre.length : Nat) : Int)), s4] = .ret (.lst (l'.map td)) := by
        unfold l1_seq_rests
        simp_arith [h1, h2, hm, hB1, hadd, hn, hnl, h5]
      refine .inl ⟨l', ?_, h6⟩
      simp only [forF, put_one, List.set_cons_succ, List.set_cons_zero, body]
end
end K89

set_option Elab.async false
set_option linter.all false
set_option maxRecDepth 100000
set_option maxHeartbeats 2000000
/-! k89: what is left, by the program: parts side by side, loops, all trees. -/
namespace K89
open PySem Dl Sh
local macro_rules | `(tactic| simp_arith [$ts,*]) => `(tactic| simp only [ev_bind_ok, ev_bind_exc, ev_bindF_ok, ev_bindF_exc, ev_sNext, ev_sSeq, ev_sIf, ev_sRet, ev_sSet, ev_sOwn, ev_sDrop, ev_sRaise, ev_sFrz, ev_sUnp, ev_sFor, ev_eC, Dl.ev_e1, Dl.ev_e2, ev_eB, ev_eCall, ev_aNil, ev_aCons, ev_eIf, blR_bl, ev_tB1, ev_tAnd, ev_tOr, andK_bl, orK_bl, notK_bl, ev_eAnd, ev_eOr, ev_eNot, ev_tNot, ev_tYes, ev_oNone, ev_oSome, ev_eSl, ev_iSeq, ev_iRng, ev_eN, ev_ofO_some, ev_eV0, ev_eVs, lt_int, le_int, gt_int, ge_int, add_int, sub_int, iadd_int, len_tup, len_lst, eq_int, ne_int, itD_tup, itD_lst, put_one, fz_nil, fz_val, fz_no, fz_own, fz_succ, od_lst, od_lol, od_dk, od_dt, odict_lst, odict_dk, odict_dt, wp_nil, wp_cons, sa_nil, sa_cons, put_all, ev_eTup', ev_eLst', ev_nLst, ev_nLc, ev_eGen', ev_tBor, ev_eBor, ev_sPar, ev_eM, ev_eM0, ev_eCallM, ev_aSnoc, ok_tup, ok_lst, ok_str, ev_tIf, notB_eq, isB_eq, isN_eq, notN_eq, neg_int, tupD_lst, tupD_tup, listD_lst, listD_tup, pure_int, pure_bl, pure_str, pure_non, pureL_int, ev_eIsi, addD_lst, addD_tup, ix_t0, ix_t1, ix_t2, ix_l0, ix_l1, ix_l2, isi_tt, isi_ss, isT_tup, isS_str, List.set_cons_succ, List.set_cons_zero, List.length_cons, List.length_nil, Nat.reduceAdd, Nat.reduceLeDiff, Nat.zero_add, Nat.zero_le, if_true, if_false, Bool.false_eq_true, decide_true, decide_false, Bool.not_true, Bool.not_false, Bool.true_or, Bool.false_or, Bool.or_true, Bool.or_false, Bool.true_and, Bool.false_and, Bool.and_true, Bool.and_false, Int.cast_ofNat_Int, Int.reduceEq, Int.reduceLT, Int.reduceLE, Int.reduceNeg, reduceCtorEq, List.cons_append, List.nil_append, eq_of, ne_of, String.reduceEq, $ts,*])
section
variable {x : Str} {f : Tr → List Tr} {g0 g1 g2 g3 : List D → Dl.R D}
theorem rng_ch {k : Kd} {ts : List Tr} (h : ts.length ≤ 100000) : rngD [.int 1, .int (((sD k.nm :: tds ts).length : Nat) : Int)] = some ((List.range' 0 ts.length).map fun k => ni (1 + k)) := by
  have h2 := rg2 1 (ts.length + 1) (by omega) (by omega)
  rw [List.length_cons, tds_map, List.length_map, ← List.range_eq_range']
  exact h2
theorem seq_run {ts : List Tr} {K N H : Nat} (hR : ∀ t ∈ ts, g0 [td t, .str x] = .ok (.lst ((f t).map td)) ∧ RestOk t x (f t)) (hK : kps ts + N ≤ K) (hK2 : K ≤ 100000) (hN : ∀ s ∈ ts, lm s ≤ N) (hH : ∀ s ∈ ts, ht s + 1 ≤ H) (hH2 : H ≤ 40) (hg : ∀ s ∈ ts, gn s) :
    ∃ l', runF 5 (b_seq_rests g0 g1 g2 g3) [td (.nd .seq ts), .str x] = .ok (.lst (l'.map td)) ∧ Same l' (sq f ts) := by
  have hi : initE 5 [td (.nd .seq ts), .str x] = [.val (td (.nd .seq ts)), .val (.str x), .no, .no, .no] := rfl
  have hl := len_kps (gns_iff.mpr hg)
  have hr := rng_ch (k := .seq) (ts := ts) (by omega)
  have hs := seq_loop (g1 := g1) (g2 := g2) (g3 := g3) hR hK hK2 hN hH hH2 hg ts [] [] .no .no rfl (by simp; omega) (fun s hs => by cases hs)
  rw [List.nil_append, List.map_nil] at hs
  rw [runF, hi, b_seq_rests]
  have hln : lenD [td (.nd .seq ts)] = some (.int (((sD Kd.seq.nm :: tds ts).length : Nat) : Int)) := rfl
  rcases hs with ⟨l', h1, h2⟩ | ⟨s3, s4, h1⟩
  · refine ⟨l', ?_, h2⟩
    simp_arith [hln, hr, -List.length_cons]
    rw [show List.length ([] : List Tr) = 0 from rfl] at h1
    simp_arith [h1]
  · have hm := sq_ms (x := x) (fun t h => (hR t h).2) hN hK hH hg
    have hln2 := sq_len (f := f) (ts := ts) fun t h => (hR t h).2.len
    obtain ⟨l', h5, h6⟩ := twins_s (l := sq f ts) (fun s hs => ⟨(hm s hs).2.2.2, by have := (hm s hs).2.2.1; omega⟩) (by omega)
    refine ⟨l', ?_, h6⟩
    rw [show List.length ([] : List Tr) = 0 from rfl] at h1
    simp_arith [hln, hr, -List.length_cons]
    simp_arith [h1, h5]
theorem ch_to {k : Kd} {pre post : List Tr} {t : Tr} : slD (td (.nd k (pre ++ t :: post))) (some 1) (some ((1 + pre.length : Nat) : Int)) = some (.tup (pre.map td)) := by
  have h := slA_tup (sD k.nm :: tds (pre ++ t :: post)) 1 (1 + pre.length)
  show slD (.tup (sD k.nm :: tds (pre ++ t :: post))) _ _ = _
  rw [List.drop_succ_cons, List.drop_zero, tds_map, List.map_append, show 1 + pre.length - 1 = (pre.map td).length by rw [List.length_map]; omega, List.take_left'] at h
  · rw [tds_map, List.map_append]; exact h
  · rfl
theorem side_map {ts pre post : List Tr} {t : Tr} {K N H : Nat} {d2 : Dl.S} (e : ts = pre ++ t :: post) (h : RestOk t x (f t)) (hK : kps ts + N ≤ K) (hK2 : K ≤ 100000) (hN : ∀ s ∈ ts, lm s ≤ N) (hH : ∀ s ∈ ts, ht s + 1 ≤ H) (hg : ∀ s ∈ ts, gn s) :
    mapF (.one 4) tYesD (y1_and_rests g0 g1 g2 g3) [.val (td (.nd .and ts)), .val (.str x), d2, .val (.int ((1 + pre.length : Nat) : Int)), .no] ((f t).map td) = .ok (((f t).map fun o => andOf (pre ++ o :: post)).map td) := by
  rw [List.map_map]
  refine mapF_enc fun o ho => ⟨_, rfl, rfl, ?_⟩
  have hkk : kps ts = kps pre + (kp t + kps post) := by rw [e, kps_app, kps]
  have n1 := hN t (by rw [e]; simp)
  have hm := side_ms (K := K) (N := N) (H := H) (pre := pre) (post := post) h ho (by omega) (by rw [← e]; exact hN) (by rw [← e]; exact hH) (by rw [← e]; exact hg)
  have hpl := hm.2
  rw [List.length_append, List.length_cons] at hpl
  have h1 := ch_from (k := .and) (pre := pre) (post := post) (t := t)
  have h0 := ch_to (k := .and) (pre := pre) (post := post) (t := t)
  have ha : addD (.tup (pre.map td)) (.tup [td o]) = some (.tup (pre.map td ++ [td o])) := by rw [addD_tup, if_pos (by rw [List.length_map]; show _ + 1 ≤ _; omega)]
  have hb : addD (.tup (pre.map td ++ [td o])) (.tup (post.map td)) = some (.tup ((pre ++ o :: post).map td)) := by
    rw [addD_tup, if_pos (by rw [List.length_append, List.length_map, List.length_map]; show _ + 1 + _ ≤ _; omega)]
    simp
  have h3 := and_ok (ts := pre ++ o :: post) (by rw [List.length_append, List.length_cons]; omega)
  rw [← e] at h1 h0
  unfold y1_and_rests
  simp_arith [h1, h0, ha, hb, h3]
  rfl
theorem and_loop {ts : List Tr} {K N H : Nat} (hR : ∀ t ∈ ts, g0 [td t, .str x] = .ok (.lst ((f t).map td)) ∧ RestOk t x (f t)) (hK : kps ts + N ≤ K) (hK2 : K ≤ 100000) (hN : ∀ s ∈ ts, lm s ≤ N) (hH : ∀ s ∈ ts, ht s + 1 ≤ H) (hg : ∀ s ∈ ts, gn s) :
    ∀ (post pre A : List Tr) (s3 s4 : Dl.S), ts = pre ++ post → A.length + kps post ≤ 1000000 →
    ∃ s3' s4', forF (.one 3) (l1_and_rests g0 g1 g2 g3) ((List.range' pre.length post.length).map fun k => ni (1 + k)) [.val (td (.nd .and ts)), .val (.str x), .val (.lst (A.map td)), s3, s4] = .next [.val (td (.nd .and ts)), .val (.str x), .val (.lst ((A ++ an f pre post).map td)), s3', s4']
  | [], pre, A, s3, s4, _, _ => ⟨s3, s4, by rw [an, List.append_nil]; rfl⟩
  | t :: post, pre, A, s3, s4, e, hz => by
    have ht1 : t ∈ ts := by rw [e]; simp
    rw [kps] at hz
    have hm := side_map (g0 := g0) (g1 := g1) (g2 := g2) (g3 := g3) (d2 := .val (.lst (A.map td))) e (hR t ht1).2 hK hK2 hN hH hg
    have h1 := ch_ix (k := .and) (pre := pre) (post := post) (t := t)
    rw [← e] at h1
    have h2 := (hR t ht1).1
    have hl := (hR t ht1).2.len
    have hkk : kps ts = kps pre + (kp t + kps post) := by rw [e, kps_app, kps]
    generalize hB : ((f t).map fun o => andOf (pre ++ o :: post)) = B at hm
    have hBl : B.length ≤ kp t := by rw [← hB, List.length_map]; exact hl
    have hB1 : (B.map td).length ≤ 16777216 := by rw [List.length_map]; omega
    have hB2 : (A.map td).length + (B.map td).length ≤ 16777216 := by rw [List.length_map, List.length_map]; omega
    have hadd : addD (.lst (A.map td)) (.lst (B.map td)) = some (.lst ((A ++ B).map td)) := by
      rw [addD_lst, if_pos hB2, List.map_append]
    rw [List.length_cons, List.range'_succ, List.map_cons, an, hB, ← List.append_assoc]
    have ih := and_loop hR hK hK2 hN hH hg post (pre ++ [t]) (A ++ B) (.val (.int ((1 + pre.length : Nat) : Int))) s4 (by rw [e]; simp) (by rw [List.length_append]; omega)
    have body : l1_and_rests g0 g1 g2 g3 [.val (td (.nd .and ts)), .val (.str x), .val (.lst (A.map td)), .val (.int ((1 + pre.length : Nat) : Int)), s4] = .next [.val (td (.nd .and ts)), .val (.str x), .val (.lst ((A ++ B).map td)), .val (.int ((1 + pre.length : Nat) : Int)), s4] := by
      unfold l1_and_rests
      simp_arith [h1, h2, hm, hB1, hadd]
    simp only [forF, put_one, List.set_cons_succ, List.set_cons_zero, body]
    rw [List.length_append, List.length_singleton] at ih
    exact ih
theorem and_run {ts : List Tr} {K N H : Nat} (hR : ∀ t ∈ ts, g0 [td t, .str x] = .ok (.lst ((f t).map td)) ∧ RestOk t x (f t)) (hK : kps ts + N ≤ K) (hK2 : K ≤ 100000) (hN : ∀ s ∈ ts, lm s ≤ N) (hH : ∀ s ∈ ts, ht s + 1 ≤ H) (hH2 : H ≤ 40) (hg : gns ts) (hS : ∀ s ∈ an f [] ts, Sm s) :
    ∃ l', runF 5 (b_and_rests g0 g1 g2 g3) [td (.nd .and ts), .str x] = .ok (.lst (l'.map td)) ∧ Same l' (an f [] ts) := by
  have hi : initE 5 [td (.nd .and ts), .str x] = [.val (td (.nd .and ts)), .val (.str x), .no, .no, .no] := rfl
  have hl := len_kps hg
  have hr := rng_ch (k := .and) (ts := ts) (by omega)
  obtain ⟨s3, s4, h1⟩ := and_loop (g1 := g1) (g2 := g2) (g3 := g3) hR hK hK2 hN hH (gns_iff.mp hg) ts [] [] .no .no rfl (by simp; omega)
  rw [List.nil_append, List.map_nil] at h1
  rw [runF, hi, b_and_rests]
  have hln : lenD [td (.nd .and ts)] = some (.int (((sD Kd.and.nm :: tds ts).length : Nat) : Int)) := rfl
  have hln2 := an_len (f := f) (pre := []) (post := ts) fun t h => (hR t h).2.len
  obtain ⟨l', h5, h6⟩ := twins_s (l := an f [] ts) hS (by omega)
  refine ⟨l', ?_, h6⟩
  rw [show List.length ([] : List Tr) = 0 from rfl] at h1
  simp_arith [hln, hr, -List.length_cons]
  simp_arith [h1, h5]
end
end K89

set_option Elab.async false
set_option linter.all false
set_option maxRecDepth 100000
set_option maxHeartbeats 2000000
/-! k89: what is left of any tree, by the program. -/
namespace K89
open PySem Dl Sh
local macro_rules | `(tactic| simp_arith [$ts,*]) => `(tactic| simp only [ev_bind_ok, ev_bind_exc, ev_bindF_ok, ev_bindF_exc, ev_sNext, ev_sSeq, ev_sIf, ev_sRet, ev_sSet, ev_sOwn, ev_sDrop, ev_sRaise, ev_sFrz, ev_sUnp, ev_sFor, ev_eC, Dl.ev_e1, Dl.ev_e2, ev_eB, ev_eCall, ev_aNil, ev_aCons, ev_eIf, blR_bl, ev_tB1, ev_tAnd, ev_tOr, andK_bl, orK_bl, notK_bl, ev_eAnd, ev_eOr, ev_eNot, ev_tNot, ev_tYes, ev_oNone, ev_oSome, ev_eSl, ev_iSeq, ev_iRng, ev_eN, ev_ofO_some, ev_eV0, ev_eVs, lt_int, le_int, gt_int, ge_int, add_int, sub_int, iadd_int, len_tup, len_lst, eq_int, ne_int, itD_tup, itD_lst, put_one, fz_nil, fz_val, fz_no, fz_own, fz_succ, od_lst, od_lol, od_dk, od_dt, odict_lst, odict_dk, odict_dt, wp_nil, wp_cons, sa_nil, sa_cons, put_all, ev_eTup', ev_eLst', ev_nLst, ev_nLc, ev_eGen', ev_tBor, ev_eBor, ev_sPar, ev_eM, ev_eM0, ev_eCallM, ev_aSnoc, ok_tup, ok_lst, ok_str, ev_tIf, notB_eq, isB_eq, isN_eq, notN_eq, neg_int, tupD_lst, tupD_tup, listD_lst, listD_tup, pure_int, pure_bl, pure_str, pure_non, pureL_int, ev_eIsi, addD_lst, addD_tup, ix_t0, ix_t1, ix_t2, ix_l0, ix_l1, ix_l2, isi_tt, isi_ss, isT_tup, isS_str, List.set_cons_succ, List.set_cons_zero, List.length_cons, List.length_nil, Nat.reduceAdd, Nat.reduceLeDiff, Nat.zero_add, Nat.zero_le, if_true, if_false, Bool.false_eq_true, decide_true, decide_false, Bool.not_true, Bool.not_false, Bool.true_or, Bool.false_or, Bool.or_true, Bool.or_false, Bool.true_and, Bool.false_and, Bool.and_true, Bool.and_false, Int.cast_ofNat_Int, Int.reduceEq, Int.reduceLT, Int.reduceLE, Int.reduceNeg, reduceCtorEq, List.cons_append, List.nil_append, eq_of, ne_of, String.reduceEq, $ts,*])
section
variable {x : Str} {f : Tr → List Tr} {g0 g1 g2 g3 : List D → Dl.R D}
theorem td_again (a b : Tr) : D.tup [sD "xor", .tup [sD "skip"], .tup [sD "seq", td b, td (.lp a b)]] = td (again a b) := rfl
theorem flat2 (o t : Tr) {K : Nat} (h : kp o + kp t ≤ K) (hg : gn o ∧ gn t) : (flat [o, t]).length ≤ K := by
  have h1 := flat_kp [o, t]
  have h2 : gns (flat [o, t]) := gns_iff.mpr fun s hs => by
    obtain ⟨u, h3, h4⟩ := flat_mem hs
    rcases List.mem_cons.mp h3 with rfl | h3
    · exact (cut1_mem h4).2.2 hg.1
    · rw [List.mem_singleton] at h3; subst h3
      exact (cut1_mem h4).2.2 hg.2
  have h3 := len_kps h2
  rw [kps, kps, kps] at h1
  omega
theorem lp_run {a b : Tr} (ha : g0 [td a, .str x] = .ok (.lst ((f a).map td)) ∧ RestOk a x (f a)) (hb : g0 [td b, .str x] = .ok (.lst ((f b).map td)) ∧ RestOk b x (f b)) (hg : gn (.lp a b)) (hH : ht (.lp a b) ≤ 40) (hK : kp (.lp a b) + lm (.lp a b) ≤ 100000) :
    ∃ l', runF 5 (b_loop_rests g0 g1 g2 g3) [td (.lp a b), .str x] = .ok (.lst (l'.map td)) ∧ RestOk (.lp a b) x l' := by
  have hi : initE 5 [td (.lp a b), .str x] = [.val (td (.lp a b)), .val (.str x), .no, .no, .no] := rfl
  have e0 : ht (.lp a b) = max (ht a) (ht b) + 1 := rfl
  have e1 : kp (.lp a b) = kp a + kp b := rfl
  have e2 : lm (.lp a b) = kp a + kp b + 1 + max (lm a) (lm b) := rfl
  have e3 : kp (again a b) = 1 + (kp b + (kp a + kp b + 0) + 0) := rfl
  have gag : gn (again a b) := ⟨by simp, trivial, ⟨by simp, hg.2, hg, trivial⟩, trivial⟩
  have hr := rest_lp hg ha.2 hb.2
  have hn := nul_ok 60 a (by omega)
  have x1 : ixD (td (.lp a b)) (.int 1) = some (td a) := by simp_arith [td]
  have x2 : ixD (td (.lp a b)) (.int 2) = some (td b) := by simp_arith [td]
  have m1 : ∀ x3 : Dl.S, mapF (.one 4) tYesD (y1_loop_rests g0 g1 g2 g3) [.val (td (.lp a b)), .val (.str x), .val (td (again a b)), x3, .no] ((f a).map td) = .ok (((f a).map fun o => seqOf [o, again a b]).map td) := fun x3 => by
    rw [List.map_map]
    refine mapF_enc fun o ho => ⟨_, rfl, rfl, ?_⟩
    obtain ⟨q1, _, _, q4⟩ := ha.2.mem o ho
    have h3 := seq_ok (ts := [o, again a b]) (flat2 o _ (by omega) ⟨q4, gag⟩)
    rw [List.map_cons, List.map_cons, List.map_nil] at h3
    unfold y1_loop_rests
    simp_arith [h3]
    rfl
  have m2 : ∀ x2 x3 : Dl.S, mapF (.one 4) tYesD (y2_loop_rests g0 g1 g2 g3) [.val (td (.lp a b)), .val (.str x), x2, x3, .no] ((f b).map td) = .ok (((f b).map fun o => seqOf [o, .lp a b]).map td) := fun x2 x3 => by
    rw [List.map_map]
    refine mapF_enc fun o ho => ⟨_, rfl, rfl, ?_⟩
    obtain ⟨q1, _, _, q4⟩ := hb.2.mem o ho
    have h3 := seq_ok (ts := [o, .lp a b]) (flat2 o _ (by omega) ⟨q4, hg⟩)
    rw [List.map_cons, List.map_cons, List.map_nil] at h3
    unfold y2_loop_rests
    simp_arith [h3]
    rfl
  have hS : ∀ s ∈ ((f a).map (fun o => seqOf [o, again a b]) ++ if nul a = true then (f b).map (fun o => seqOf [o, .lp a b]) else []), Sm s := fun s hs => by
    have := hr.mem s hs
    exact ⟨this.2.2.2, by have := this.2.2.1; omega⟩
  have hla := ha.2.len
  have hlb := hb.2.len
  obtain ⟨l', h5, h6⟩ := twins_s hS (by have := hr.len; omega)
  refine ⟨l', ?_, hr.same h6.1 h6.2⟩
  generalize hA : ((f a).map fun o => seqOf [o, again a b]) = A at m1 h5
  generalize hB : ((f b).map fun o => seqOf [o, .lp a b]) = B at m2 h5
  have hA1 : A.length ≤ kp a := by rw [← hA, List.length_map]; exact hla
  have hB1 : B.length ≤ kp b := by rw [← hB, List.length_map]; exact hlb
  have hA2 : (A.map td).length ≤ 16777216 := by rw [List.length_map]; omega
  have hB2 : (B.map td).length ≤ 16777216 := by rw [List.length_map]; omega
  rw [runF, hi, b_loop_rests]
  by_cases hnl : nul a = true
  · rw [if_pos hnl] at h5
    have hadd : addD (.lst (A.map td)) (.lst (B.map td)) = some (.lst ((A ++ B).map td)) := by
      rw [addD_lst, if_pos (by rw [List.length_map, List.length_map]; omega), List.map_append]
    simp_arith [x1, x2, td_again, ha.1, hb.1, m1, m2, hA2, hB2, hn, hnl, hadd, h5]
  · rw [if_neg hnl, List.append_nil] at h5
    simp_arith [x1, x2, td_again, ha.1, hb.1, m1, hA2, hn, hnl, h5]
theorem xor_run {ts : List Tr} (hR : ∀ t ∈ ts, g0 [td t, .str x] = .ok (.lst ((f t).map td)) ∧ RestOk t x (f t)) (hS : ∀ s ∈ ts.flatMap f, Sm s) (hz : (ts.flatMap f).length ≤ 100000) :
    ∃ l', runF 4 (b_rests g0 g1 g2 g3) [td (.nd .xor ts), .str x] = .ok (.lst (l'.map td)) ∧ Same l' (ts.flatMap f) := by
  have hi : initE 4 [td (.nd .xor ts), .str x] = [.val (td (.nd .xor ts)), .val (.str x), .no, .no] := rfl
  have hm : map2F (.one 2) tYesD (i1_rests g0 g1 g2 g3) [3] (.one 3) tYesD (y1_rests g0 g1 g2 g3) [.val (.tup (sD "xor" :: tds ts)), .val (.str x), .no, .no] (tds ts) = .ok ((ts.flatMap f).map td) := by
    rw [tds_map]
    refine map2F_all fun t h => ⟨_, (f t).map td, rfl, rfl, ?_, ?_⟩
    · unfold i1_rests
      simp_arith [(hR t h).1]
    · exact mapF_enc fun o ho => ⟨_, rfl, rfl, by unfold y1_rests; simp_arith []⟩
  obtain ⟨l', h5, h6⟩ := twins_s hS (by omega)
  refine ⟨l', ?_, h6⟩
  rw [runF, hi, b_rests]
  have hz2 : ((ts.flatMap f).map td).length ≤ 16777216 := by rw [List.length_map]; omega
  simp_arith [td, Kd.nm, cut1t, hm, hz2, h5, ev_lc2]
/-- the sizes that the program's steps bear -/
def Sz (t : Tr) : Prop := gn t ∧ ht t ≤ 25 ∧ kp t + lm t ≤ 1000
theorem sz_mem {k : Kd} {ts : List Tr} (h : Sz (.nd k ts)) : ∀ t ∈ ts, Sz t := fun t ht' => by
  obtain ⟨h1, h2, h3⟩ := h
  have q1 := kp_mem ht'
  have q2 := lms_le.mp (Nat.le_refl (lms ts)) t ht'
  have q3 := hts_le.mp (Nat.le_refl (hts ts)) t ht'
  have e1 : kp (.nd k ts) = kps ts := rfl
  have e2 : lm (.nd k ts) = lms ts := rfl
  have e3 : ht (.nd k ts) = hts ts := rfl
  exact ⟨gns_iff.mp h1.2 t ht', by omega, by omega⟩
theorem pick {P : Tr → List Tr → Prop} {ts : List Tr} (h : ∀ t ∈ ts, ∃ l, P t l) : ∃ f : Tr → List Tr, ∀ t ∈ ts, P t (f t) := by
  classical
  refine ⟨fun t => if q : ∃ l, P t l then q.choose else [], fun t ht' => ?_⟩
  have q := h t ht'
  simp only [dif_pos q]
  exact q.choose_spec
theorem rests_ev (hx : goodS x = true) : ∀ (n : Nat) (t : Tr), Sz t → 2 * ht t < n → ∃ l, m_rests n [td t, .str x] = .ok (.lst (l.map td)) ∧ RestOk t x l := by
  intro n
  induction n using Nat.strongRecOn with
  | ind n ih =>
    intro t hz hn
    obtain ⟨h1, h2, h3⟩ := hz
    match n, ih, hn with
    | 0, _, hn => exact absurd hn (Nat.not_lt_zero _)
    | n + 1, ih, hn =>
      rw [m_rests_succ]
      have hi : ∀ d : D, initE 4 [d, .str x] = [.val d, .val (.str x), .no, .no] := fun _ => rfl
      match t, h1, h2, h3, hn with
      | .sk, _, _, _, _ =>
        refine ⟨[], ?_, rest_sk⟩
        rw [runF, hi, b_rests]
        simp_arith [td, List.map_nil]
      | .act m, h1, _, _, _ =>
        have hm : goodS m = true := h1
        have he := eq_str hm hx
        by_cases e : m = x
        · subst e
          refine ⟨[.sk], ?_, rest_act⟩
          rw [runF, hi, b_rests]
          simp_arith [td, he, List.map_cons, List.map_nil]
        · refine ⟨[], ?_, rest_act_no e⟩
          rw [runF, hi, b_rests]
          simp_arith [td, he, e, List.map_nil]
      | .nd .xor ts, h1, h2, h3, hn =>
        have hz : Sz (.nd .xor ts) := ⟨h1, h2, h3⟩
        have e3 : ht (.nd .xor ts) = hts ts := rfl
        have q3 := hts_le.mp (Nat.le_refl (hts ts))
        obtain ⟨f, hf⟩ := pick fun t ht' => ih n (Nat.lt_succ_self n) t (sz_mem hz t ht') (by have := q3 t ht'; omega)
        have hr := rest_xor fun t ht' => (hf t ht').2
        obtain ⟨l', h5, h6⟩ := xor_run (g1 := m_seq_rests n) (g2 := m_and_rests n) (g3 := m_loop_rests n) hf (fun s hs => by
          have := hr.mem s hs
          exact ⟨this.2.2.2, by have := this.2.2.1; omega⟩) (by have := hr.len; omega)
        exact ⟨l', h5, hr.same h6.1 h6.2⟩
      | .nd .seq ts, h1, h2, h3, hn =>
        have hz : Sz (.nd .seq ts) := ⟨h1, h2, h3⟩
        have e3 : ht (.nd .seq ts) = hts ts := rfl
        have e1 : kp (.nd .seq ts) = kps ts := rfl
        have e2 : lm (.nd .seq ts) = lms ts := rfl
        have q3 := hts_le.mp (Nat.le_refl (hts ts))
        match n, ih, hn with
        | 0, _, hn =>
          exfalso
          obtain ⟨a, ha⟩ := List.exists_mem_of_ne_nil _ h1.1
          have := q3 a ha; omega
        | n + 1, ih, hn =>
          obtain ⟨f, hf⟩ := pick fun t ht' => ih n (by omega) t (sz_mem hz t ht') (by have := q3 t ht'; omega)
          obtain ⟨l', h5, h6⟩ := seq_run (g1 := m_seq_rests n) (g2 := m_and_rests n) (g3 := m_loop_rests n) hf (K := 1000) (N := lms ts) (H := hts ts) (by omega) (by omega) (lms_le.mp (Nat.le_refl _)) q3 (by omega) (gns_iff.mp h1.2)
          have hr := rest_seq (f := f) h1.2 fun t ht' => (hf t ht').2
          refine ⟨l', ?_, hr.same h6.1 h6.2⟩
          rw [← m_seq_rests_succ] at h5
          rw [runF, hi, b_rests]
          have hd : ixD (td (.nd .seq ts)) (.int 0) = some (sD "seq") := by simp_arith [td, Kd.nm]
          simp_arith [hd, h5]
      | .nd .and ts, h1, h2, h3, hn =>
        have hz : Sz (.nd .and ts) := ⟨h1, h2, h3⟩
        have e3 : ht (.nd .and ts) = hts ts := rfl
        have e1 : kp (.nd .and ts) = kps ts := rfl
        have e2 : lm (.nd .and ts) = lms ts := rfl
        have q3 := hts_le.mp (Nat.le_refl (hts ts))
        match n, ih, hn with
        | 0, _, hn =>
          exfalso
          obtain ⟨a, ha⟩ := List.exists_mem_of_ne_nil _ h1.1
          have := q3 a ha; omega
        | n + 1, ih, hn =>
          obtain ⟨f, hf⟩ := pick fun t ht' => ih n (by omega) t (sz_mem hz t ht') (by have := q3 t ht'; omega)
          have hr := rest_and (f := f) h1.2 fun t ht' => (hf t ht').2
          obtain ⟨l', h5, h6⟩ := and_run (g1 := m_seq_rests n) (g2 := m_and_rests n) (g3 := m_loop_rests n) hf (K := 1000) (N := lms ts) (H := hts ts) (by omega) (by omega) (lms_le.mp (Nat.le_refl _)) q3 (by omega) h1.2 (fun s hs => by
            have := hr.mem s hs
            exact ⟨this.2.2.2, by have := this.2.2.1; omega⟩)
          refine ⟨l', ?_, hr.same h6.1 h6.2⟩
          rw [← m_and_rests_succ] at h5
          rw [runF, hi, b_rests]
          have hd : ixD (td (.nd .and ts)) (.int 0) = some (sD "and") := by simp_arith [td, Kd.nm]
          simp_arith [hd, h5]
      | .lp a b, h1, h2, h3, hn =>
        have e0 : ht (.lp a b) = max (ht a) (ht b) + 1 := rfl
        have e1 : kp (.lp a b) = kp a + kp b := rfl
        have e2 : lm (.lp a b) = kp a + kp b + 1 + max (lm a) (lm b) := rfl
        match n, ih, hn with
        | 0, _, hn => exfalso; omega
        | n + 1, ih, hn =>
          obtain ⟨la, ha⟩ := ih n (by omega) a ⟨h1.1, by omega, by omega⟩ (by omega)
          obtain ⟨lb, hb⟩ := ih n (by omega) b ⟨h1.2, by omega, by omega⟩ (by omega)
          classical
          by_cases e : b = a
          · obtain ⟨l', h5, h6⟩ := lp_run (f := fun _ => la) (g1 := m_seq_rests n) (g2 := m_and_rests n) (g3 := m_loop_rests n) ha (by rw [e]; exact ha) h1 (by omega) (by omega)
            refine ⟨l', ?_, h6⟩
            rw [← m_loop_rests_succ] at h5
            rw [runF, hi, b_rests]
            have hd : ixD (td (.lp a b)) (.int 0) = some (sD "loop") := by simp_arith [td]
            simp_arith [hd, h5]
          · obtain ⟨l', h5, h6⟩ := lp_run (f := fun t => if t = a then la else lb) (g1 := m_seq_rests n) (g2 := m_and_rests n) (g3 := m_loop_rests n) (by rw [if_pos rfl]; exact ha) (by rw [if_neg e]; exact hb) h1 (by omega) (by omega)
            refine ⟨l', ?_, h6⟩
            rw [← m_loop_rests_succ] at h5
            rw [runF, hi, b_rests]
            have hd : ixD (td (.lp a b)) (.int 0) = some (sD "loop") := by simp_arith [td]
            simp_arith [hd, h5]
end
end K89

set_option Elab.async false
set_option linter.all false
set_option maxRecDepth 100000
set_option maxHeartbeats 2000000
/-! k89: leaves, deeds, what check_tree takes. -/
namespace K89
open PySem Dl Sh
local macro_rules | `(tactic| simp_arith [$ts,*]) => `(tactic| simp only [ev_bind_ok, ev_bind_exc, ev_bindF_ok, ev_bindF_exc, ev_sNext, ev_sSeq, ev_sIf, ev_sRet, ev_sSet, ev_sOwn, ev_sDrop, ev_sRaise, ev_sFrz, ev_sUnp, ev_sFor, ev_eC, Dl.ev_e1, Dl.ev_e2, ev_eB, ev_eCall, ev_aNil, ev_aCons, ev_eIf, blR_bl, ev_tB1, ev_tAnd, ev_tOr, andK_bl, orK_bl, notK_bl, ev_eAnd, ev_eOr, ev_eNot, ev_tNot, ev_tYes, ev_oNone, ev_oSome, ev_eSl, ev_iSeq, ev_iRng, ev_eN, ev_ofO_some, ev_eV0, ev_eVs, lt_int, le_int, gt_int, ge_int, add_int, sub_int, iadd_int, len_tup, len_lst, eq_int, ne_int, itD_tup, itD_lst, put_one, fz_nil, fz_val, fz_no, fz_own, fz_succ, od_lst, od_lol, od_dk, od_dt, odict_lst, odict_dk, odict_dt, wp_nil, wp_cons, sa_nil, sa_cons, put_all, ev_eTup', ev_eLst', ev_nLst, ev_nLc, ev_eGen', ev_tBor, ev_eBor, ev_sPar, ev_eM, ev_eM0, ev_eCallM, ev_aSnoc, ok_tup, ok_lst, ok_str, ev_tIf, notB_eq, isB_eq, isN_eq, notN_eq, neg_int, tupD_lst, tupD_tup, listD_lst, listD_tup, pure_int, pure_bl, pure_str, pure_non, pureL_int, ev_eIsi, addD_lst, addD_tup, ix_t0, ix_t1, ix_t2, ix_l0, ix_l1, ix_l2, isi_tt, isi_ss, isT_tup, isS_str, List.set_cons_succ, List.set_cons_zero, List.length_cons, List.length_nil, Nat.reduceAdd, Nat.reduceLeDiff, Nat.zero_add, Nat.zero_le, if_true, if_false, Bool.false_eq_true, decide_true, decide_false, Bool.not_true, Bool.not_false, Bool.true_or, Bool.false_or, Bool.or_true, Bool.or_false, Bool.true_and, Bool.false_and, Bool.and_true, Bool.and_false, Int.cast_ofNat_Int, Int.reduceEq, Int.reduceLT, Int.reduceLE, Int.reduceNeg, reduceCtorEq, List.cons_append, List.nil_append, eq_of, ne_of, String.reduceEq, $ts,*])
mutual
def lv : Tr → List (Option Str)
  | .sk => [none]
  | .act n => [some n]
  | .nd _ ts => lvs ts
  | .lp a b => lv a ++ lv b
def lvs : List Tr → List (Option Str)
  | [] => []
  | t :: ts => lv t ++ lvs ts
end
mutual
theorem lv_len : ∀ t : Tr, (lv t).length = kp t
  | .sk => rfl
  | .act _ => rfl
  | .nd _ ts => lvs_len ts
  | .lp a b => by rw [lv, List.length_append, lv_len a, lv_len b]; rfl
theorem lvs_len : ∀ ts : List Tr, (lvs ts).length = kps ts
  | [] => rfl
  | t :: ts => by rw [lvs, List.length_append, lv_len t, lvs_len ts]; rfl
end
theorem mix_mem {α : Type} {u v w : List α} (h : Mix u v w) : ∀ x, x ∈ w ↔ x ∈ u ∨ x ∈ v := by
  induction h with
  | nil => intro x; simp
  | l _ ih => intro x; rw [List.mem_cons, List.mem_cons, ih, or_assoc]
  | r _ ih => intro x; rw [List.mem_cons, List.mem_cons, ih]; constructor <;> (rintro (h | h | h) <;> simp [h])
mutual
theorem lang_lv : ∀ (t : Tr) (w : List Str), Lang t w → ∀ x ∈ w, some x ∈ lv t
  | .sk, w, h, x, hx => by
    have h : w = [] := h
    rw [h] at hx; cases hx
  | .act n, w, h, x, hx => by
    have h : w = [n] := h
    rw [h, List.mem_singleton] at hx
    rw [hx]; simp [lv]
  | .nd .seq ts, w, h, x, hx => lseq_lv ts w h x hx
  | .nd .xor ts, w, h, x, hx => lxor_lv ts w h x hx
  | .nd .and ts, w, h, x, hx => land_lv ts w h x hx
  | .lp a b, w, h, x, hx => by
    have ha := lang_lv a
    have hb := lang_lv b
    have h' : Star (Lang a) (Lang b) w := h
    clear h
    rw [lv, List.mem_append]
    revert hx
    induction h' with
    | one h => intro hx; exact .inl (ha _ h x hx)
    | more h1 h2 _ ih =>
      intro hx
      rw [List.mem_append, List.mem_append] at hx
      rcases hx with hx | hx | hx
      · exact .inl (ha _ h1 x hx)
      · exact .inr (hb _ h2 x hx)
      · exact ih hx
theorem lseq_lv : ∀ (ts : List Tr) (w : List Str), LSeq ts w → ∀ x ∈ w, some x ∈ lvs ts
  | [], w, h, x, hx => by
    have h : w = [] := h
    rw [h] at hx; cases hx
  | t :: ts, w, ⟨u, v, e, h1, h2⟩, x, hx => by
    rw [e, List.mem_append] at hx
    rw [lvs, List.mem_append]
    rcases hx with hx | hx
    · exact .inl (lang_lv t u h1 x hx)
    · exact .inr (lseq_lv ts v h2 x hx)
theorem lxor_lv : ∀ (ts : List Tr) (w : List Str), LXor ts w → ∀ x ∈ w, some x ∈ lvs ts
  | [], w, h, x, hx => False.elim h
  | t :: ts, w, h, x, hx => by
    have h : Lang t w ∨ LXor ts w := h
    rw [lvs, List.mem_append]
    rcases h with h | h
    · exact .inl (lang_lv t w h x hx)
    · exact .inr (lxor_lv ts w h x hx)
theorem land_lv : ∀ (ts : List Tr) (w : List Str), LAnd ts w → ∀ x ∈ w, some x ∈ lvs ts
  | [], w, h, x, hx => by
    have h : w = [] := h
    rw [h] at hx; cases hx
  | t :: ts, w, ⟨u, v, h1, h2, h3⟩, x, hx => by
    rw [lvs, List.mem_append]
    rcases (mix_mem h3 x).mp hx with hx | hx
    · exact .inl (lang_lv t u h1 x hx)
    · exact .inr (land_lv ts v h2 x hx)
end
mutual
def gw : Tr → Prop
  | .sk => True
  | .act n => nmS n = true
  | .nd _ ts => 2 ≤ ts.length ∧ gws ts
  | .lp a b => gw a ∧ gw b
def gws : List Tr → Prop
  | [] => True
  | t :: ts => gw t ∧ gws ts
end
theorem gws_iff : ∀ {ts : List Tr}, gws ts ↔ ∀ t ∈ ts, gw t
  | [] => ⟨fun _ _ h => (by cases h), fun _ => trivial⟩
  | t :: ts => by
    rw [gws, gws_iff]
    simp
mutual
theorem gw_gn : ∀ t : Tr, gw t → gn t
  | .sk, _ => trivial
  | .act n, h => nm_good h
  | .nd _ ts, h => ⟨fun e => by have := h.1; rw [e] at this; exact absurd this (by decide), gws_gns ts h.2⟩
  | .lp a b, h => ⟨gw_gn a h.1, gw_gn b h.2⟩
theorem gws_gns : ∀ ts : List Tr, gws ts → gns ts
  | [], _ => trivial
  | t :: ts, h => ⟨gw_gn t h.1, gws_gns ts h.2⟩
end
mutual
theorem gw_lv : ∀ t : Tr, gw t → ∀ x, some x ∈ lv t → nmS x = true
  | .sk, _, x, h => by simp [lv] at h
  | .act n, h, x, hx => by
    simp only [lv, List.mem_singleton, Option.some.injEq] at hx
    rw [hx]; exact h
  | .nd _ ts, h, x, hx => gws_lv ts h.2 x hx
  | .lp a b, h, x, hx => by
    rw [lv, List.mem_append] at hx
    rcases hx with hx | hx
    · exact gw_lv a h.1 x hx
    · exact gw_lv b h.2 x hx
theorem gws_lv : ∀ ts : List Tr, gws ts → ∀ x, some x ∈ lvs ts → nmS x = true
  | [], _, x, h => by cases h
  | t :: ts, h, x, hx => by
    rw [lvs, List.mem_append] at hx
    rcases hx with hx | hx
    · exact gw_lv t h.1 x hx
    · exact gws_lv ts h.2 x hx
end
/-! ### the program's checks -/
theorem part_ok : ∀ (n : Nat) (t : Tr) (d : Nat), gw t → ht t < n → d + ht t ≤ 6 → m_check_part n [td t, .int (d : Nat)] = .ok .non
  | 0, t, d, _, h, _ => absurd h (Nat.not_lt_zero _)
  | n + 1, t, d, hg, h, hd => by
    have hi : ∀ x : D, initE 3 [x, .int (d : Nat)] = [.val x, .val (.int (d : Nat)), .no] := fun _ => rfl
    have hdp : ¬ ((6 : Int) < (d : Int)) := by omega
    have hda : ((d : Nat) : Int) + 1 = ((d + 1 : Nat) : Int) := by simp
    show runF 3 (b_check_part (m_check_part n)) [td t, .int (d : Nat)] = _
    have hk : ∀ k : Kd, inD (.str (Str.ofString k.nm)) (.tup [.str "seq", .str "xor", .str "and"]) = some (.bl true) := fun k => by cases k <;> decide +kernel
    have hlp : inD (.str (Str.ofString "loop")) (.tup [.str "seq", .str "xor", .str "and"]) = some (.bl false) := by decide +kernel
    rw [runF, hi, b_check_part]
    cases t with
    | sk => simp_arith [td, hdp]
    | act m =>
      have hm := name_ok (x := m) hg
      simp_arith [td, hdp, hm]
    | nd k ts =>
      have hts := hts_le.mp (show hts ts ≤ ht (.nd k ts) from Nat.le_refl _)
      have hl : ((3 : Int) ≤ (((tds ts).length + 1 : Nat) : Int)) := by
        have := hg.1
        rw [tds_map, List.length_map]; omega
      have hl1 : ¬ ((((tds ts).length + 1 : Nat) : Int) < 1) := by omega
      obtain ⟨δ', h1, y, h2⟩ := forF_run (t := .one 2) (f := l1_check_part (m_check_part n)) (enc := td) (fun pre δ => ∃ y, δ = [.val (td (.nd k ts)), .val (.int (d : Nat)), y]) ts (δ := [.val (td (.nd k ts)), .val (.int (d : Nat)), .no]) ⟨.no, rfl⟩ (fun pre b δ hp ⟨y, q⟩ => by
        subst q
        have hb : b ∈ ts := hp.subset (by simp)
        have hr := part_ok n b (d + 1) (gws_iff.mp hg.2 b hb) (by have := hts b hb; omega) (by have := hts b hb; omega)
        refine ⟨_, rfl, [.val (td (.nd k ts)), .val (.int (d : Nat)), .val (td b)], ?_, _, rfl⟩
        unfold l1_check_part
        simp_arith [hda, hr])
      rw [← tds_map] at h1
      subst h2
      have e1 : ¬ k.nm = "do" := by cases k <;> decide
      have e2 : ¬ k.nm = "skip" := by cases k <;> decide
      rw [show td (.nd k ts) = .tup (sD k.nm :: tds ts) from rfl] at h1 ⊢
      simp_arith [hdp, hl1, hl, e1, e2, hk, d_KINDS, cut1t, h1]
    | lp a b =>
      have ha := part_ok n a (d + 1) hg.1 (by rw [ht] at h; omega) (by rw [ht] at hd; omega)
      have hb := part_ok n b (d + 1) hg.2 (by rw [ht] at h; omega) (by rw [ht] at hd; omega)
      simp_arith [td, hdp, hlp, d_KINDS, hda, ha, hb]
end K89

set_option Elab.async false
set_option linter.all false
set_option maxRecDepth 100000
set_option maxHeartbeats 2000000
/-! k89: leaves, deeds and the law's names. -/
namespace K89
open PySem Dl Sh
local macro_rules | `(tactic| simp_arith [$ts,*]) => `(tactic| simp only [ev_bind_ok, ev_bind_exc, ev_bindF_ok, ev_bindF_exc, ev_sNext, ev_sSeq, ev_sIf, ev_sRet, ev_sSet, ev_sOwn, ev_sDrop, ev_sRaise, ev_sFrz, ev_sUnp, ev_sFor, ev_eC, Dl.ev_e1, Dl.ev_e2, ev_eB, ev_eCall, ev_aNil, ev_aCons, ev_eIf, blR_bl, ev_tB1, ev_tAnd, ev_tOr, andK_bl, orK_bl, notK_bl, ev_eAnd, ev_eOr, ev_eNot, ev_tNot, ev_tYes, ev_oNone, ev_oSome, ev_eSl, ev_iSeq, ev_iRng, ev_eN, ev_ofO_some, ev_eV0, ev_eVs, lt_int, le_int, gt_int, ge_int, add_int, sub_int, iadd_int, len_tup, len_lst, eq_int, ne_int, itD_tup, itD_lst, put_one, fz_nil, fz_val, fz_no, fz_own, fz_succ, od_lst, od_lol, od_dk, od_dt, odict_lst, odict_dk, odict_dt, wp_nil, wp_cons, sa_nil, sa_cons, put_all, ev_eTup', ev_eLst', ev_nLst, ev_nLc, ev_eGen', ev_tBor, ev_eBor, ev_sPar, ev_eM, ev_eM0, ev_eCallM, ev_aSnoc, ok_tup, ok_lst, ok_str, ev_tIf, notB_eq, isB_eq, isN_eq, notN_eq, neg_int, tupD_lst, tupD_tup, listD_lst, listD_tup, pure_int, pure_bl, pure_str, pure_non, pureL_int, ev_eIsi, addD_lst, addD_tup, ix_t0, ix_t1, ix_t2, ix_l0, ix_l1, ix_l2, isi_tt, isi_ss, isT_tup, isS_str, List.set_cons_succ, List.set_cons_zero, List.length_cons, List.length_nil, Nat.reduceAdd, Nat.reduceLeDiff, Nat.zero_add, Nat.zero_le, if_true, if_false, Bool.false_eq_true, decide_true, decide_false, Bool.not_true, Bool.not_false, Bool.true_or, Bool.false_or, Bool.or_true, Bool.or_false, Bool.true_and, Bool.false_and, Bool.and_true, Bool.and_false, Int.cast_ofNat_Int, Int.reduceEq, Int.reduceLT, Int.reduceLE, Int.reduceNeg, reduceCtorEq, List.cons_append, List.nil_append, eq_of, ne_of, String.reduceEq, $ts,*])
def oD : Option Str → D
  | none => .non
  | some n => .str n
theorem leaves_run {g : List D → Dl.R D} {d : D} : ∀ (ts : List Tr) (A : List (Option Str)) (s2 : Dl.S), (∀ t ∈ ts, g [td t] = .ok (.lst ((lv t).map oD))) → A.length + kps ts ≤ 100000 →
    ∃ s2', forF (.one 2) (l1_leaves_of g) (ts.map td) [.val d, .val (.lst (A.map oD)), s2] = .next [.val d, .val (.lst ((A ++ lvs ts).map oD)), s2']
  | [], A, s2, _, _ => ⟨s2, by rw [lvs, List.append_nil]; rfl⟩
  | t :: ts, A, s2, h, hz => by
    rw [kps] at hz
    have h1 := h t List.mem_cons_self
    have hl := lv_len t
    obtain ⟨s2', ih⟩ := leaves_run (g := g) (d := d) ts (A ++ lv t) (.val (td t)) (fun s hs => h s (List.mem_cons_of_mem _ hs)) (by rw [List.length_append]; omega)
    refine ⟨s2', ?_⟩
    have hadd : addD (.lst (A.map oD)) (.lst ((lv t).map oD)) = some (.lst ((A ++ lv t).map oD)) := by
      rw [addD_lst, if_pos (by rw [List.length_map, List.length_map]; omega), List.map_append]
    have body : l1_leaves_of g [.val d, .val (.lst (A.map oD)), .val (td t)] = .next [.val d, .val (.lst ((A ++ lv t).map oD)), .val (td t)] := by
      unfold l1_leaves_of
      simp_arith [h1, hadd]
    rw [List.map_cons]
    simp only [forF, put_one, List.set_cons_succ, List.set_cons_zero, body, ih]
    rw [lvs, List.append_assoc]
theorem leaves_ok : ∀ (n : Nat) (t : Tr), ht t < n → kp t ≤ 1000 → m_leaves_of n [td t] = .ok (.lst ((lv t).map oD))
  | 0, t, h, _ => absurd h (Nat.not_lt_zero _)
  | n + 1, t, h, hk => by
    have hi : ∀ x : D, initE 3 [x] = [.val x, .no, .no] := fun _ => rfl
    show runF 3 (b_leaves_of (m_leaves_of n)) [td t] = _
    rw [runF, hi, b_leaves_of]
    cases t with
    | sk => simp_arith [td, lv, List.map_cons, List.map_nil, oD]
    | act m => simp_arith [td, lv, List.map_cons, List.map_nil, oD]
    | nd k ts =>
      have hts := lt_of_hts (ts := ts) h
      have e1 : ¬ k.nm = "do" := by cases k <;> decide
      have e2 : ¬ k.nm = "skip" := by cases k <;> decide
      obtain ⟨s2, h1⟩ := leaves_run (g := m_leaves_of n) (d := td (.nd k ts)) ts [] .no (fun t ht' => leaves_ok n t (hts t ht') (Nat.le_trans (kp_mem ht') hk)) (by simp; exact Nat.le_trans hk (by decide))
      rw [← tds_map, List.map_nil, List.nil_append] at h1
      rw [show td (.nd k ts) = .tup (sD k.nm :: tds ts) from rfl] at h1 ⊢
      simp_arith [e1, e2, cut1t, h1]
      rfl
    | lp a b =>
      have e1 : kp (.lp a b) = kp a + kp b := rfl
      have e0 : ht (.lp a b) = max (ht a) (ht b) + 1 := rfl
      obtain ⟨s2, h1⟩ := leaves_run (g := m_leaves_of n) (d := td (.lp a b)) [a, b] [] .no (fun t ht' => by
        rcases List.mem_cons.mp ht' with rfl | ht'
        · exact leaves_ok n _ (by omega) (by omega)
        · rw [List.mem_singleton] at ht'; subst ht'
          exact leaves_ok n _ (by omega) (by omega)) (by rw [kps, kps, kps]; simp; omega)
      have e3 : lvs [a, b] = lv a ++ lv b := by rw [lvs, lvs, lvs, List.append_nil]
      rw [List.map_cons, List.map_cons, List.map_nil, List.map_nil, List.nil_append, e3] at h1
      rw [show td (.lp a b) = .tup [sD "loop", td a, td b] from rfl] at h1 ⊢
      simp_arith [cut1t, h1]
      rfl
theorem tree_ok {t : Tr} (hg : gw t) (hh : ht t ≤ 6) (hk : kp t ≤ 24) : m_check_tree [td t] = .ok .non := by
  have hi : initE 1 [td t] = [.val (td t)] := rfl
  have h1 := part_ok 60 t 0 hg (by omega) (by omega)
  have h2 := leaves_ok 60 t (by omega) (by omega)
  have hl : ¬ ((24 : Int) < ((((lv t).map oD).length : Nat) : Int)) := by rw [List.length_map, lv_len]; omega
  unfold m_check_tree
  rw [runF, hi, b_check_tree]
  have h1 : m_check_part 60 [td t, .int 0] = .ok .non := h1
  simp_arith [h1, h2, hl]
def acts (t : Tr) : List Str := (lv t).filterMap id
theorem mem_acts {t : Tr} {x : Str} : x ∈ acts t ↔ some x ∈ lv t := by
  unfold acts
  rw [List.mem_filterMap]
  constructor
  · rintro ⟨a, h1, h2⟩
    have h2 : a = some x := h2
    rw [← h2]; exact h1
  · intro h; exact ⟨_, h, rfl⟩
def deeds (t : Tr) : List Str := sortN (addL [] (acts t))
theorem mem_deeds {t : Tr} {x : Str} : x ∈ deeds t ↔ some x ∈ lv t := by
  unfold deeds
  rw [sortN_mem, addL_mem, mem_acts]
  simp
theorem deeds_nd (t : Tr) : (deeds t).Nodup := sortN_nd (addL_nd _ _ List.nodup_nil)
theorem fm_map (l : List (Option Str)) : (l.filter fun o => o.isSome).map oD = stl (l.filterMap id) := by
  induction l with
  | nil => rfl
  | cons o l ih =>
    cases o with
    | none => simpa using ih
    | some x =>
      rw [List.filter_cons_of_pos rfl, List.map_cons, ih]
      rfl
theorem deeds_ok {t : Tr} (hg : gw t) (hh : ht t ≤ 6) (hk : kp t ≤ 24) : m_deeds_of [td t] = .ok (.tup (stl (deeds t))) := by
  have hi : initE 2 [td t] = [.val (td t), .no] := rfl
  have h1 := tree_ok hg hh hk
  have h2 := leaves_ok 60 t (by omega) (by omega)
  have hm : mapF (.one 1) c1_deeds_of y1_deeds_of [.val (td t), .no] ((lv t).map oD) = .ok (stl (acts t)) := by
    have := mapF_filter (t := .one 1) (c := c1_deeds_of) (f := y1_deeds_of) (δ := [.val (td t), .no]) (enc := oD) (p := fun o => o.isSome) (g := oD) (bs := lv t) fun o _ => ⟨_, rfl, by
      unfold c1_deeds_of
      cases o with
      | none => simp_arith [oD]; rfl
      | some x => simp_arith [oD]; rfl, fun _ => by unfold y1_deeds_of; simp_arith []⟩
    rw [this]
    exact congrArg _ (fm_map _)
  have hla : (acts t).length ≤ 24 := by
    have h := List.length_filterMap_le id (lv t)
    have := lv_len t
    unfold acts; omega
  have hs := setOf_stl (l := acts t) (by omega)
  have hsr := srtS_inr (l := addL [] (acts t)) (by have := addL_len (acts t) ([] : List Str); simp at this; omega)
  unfold m_deeds_of
  rw [runF, hi, b_deeds_of]
  simp_arith [h1, ev_nSc, h2, hm, hs, hsr]
  rfl
/-! ### the law's names -/
theorem names_run {g : List D → Dl.R D} {d : D} : ∀ (ts : List Tr) (A : List Str) (s2 s3 : Dl.S), (∀ t ∈ ts, ∃ L : List Str, g [td t] = .ok (.lst (stl L)) ∧ L.Nodup ∧ ∀ x, x ∈ L ↔ some x ∈ lv t) → (∀ x, some x ∈ lvs ts → goodS x = true) → (∀ x ∈ A, goodS x = true) → A.Nodup → A.length + kps ts ≤ 100000 →
    ∃ s2' s3' B, forF (.one 2) (l1__law_names g) (ts.map td) [.val d, .val (.lst (stl A)), s2, s3] = .next [.val d, .val (.lst (stl B)), s2', s3'] ∧ B.Nodup ∧ ∀ x, x ∈ B ↔ x ∈ A ∨ some x ∈ lvs ts
  | [], A, s2, s3, _, _, _, hn, _ => ⟨s2, s3, A, rfl, hn, fun x => by simp [lvs]⟩
  | t :: ts, A, s2, s3, h, hg, hA, hn, hz => by
    rw [kps] at hz
    obtain ⟨L, h1, h2, h3⟩ := h t List.mem_cons_self
    have hgL : ∀ x ∈ L, goodS x = true := fun x hx => hg x (by rw [lvs]; exact List.mem_append_left _ ((h3 x).mp hx))
    have hLl : L.length ≤ kp t := by
      have hac : ∀ x ∈ L, x ∈ acts t := fun x hx => mem_acts.mpr ((h3 x).mp hx)
      have q1 := nd_sub_len h2 hac
      have q2 := List.length_filterMap_le id (lv t)
      have q3 := lv_len t
      unfold acts at q1; omega
    have hm : mapF (.one 3) (c1__law_names g) (y1__law_names g) [.val d, .val (.lst (stl A)), .val (td t), .no] (stl L) = .ok (stl (L.filter fun x => !decide (x ∈ A))) := mapF_filter (enc := D.str) (p := fun x => !decide (x ∈ A)) fun x hx => ⟨_, rfl, by
      have hni := nin_lst (x := .str x) (ys := stl A) (gd_str (hgL x hx)) (gd_stl hA)
      have e : decide (D.str x ∈ stl A) = decide (x ∈ A) := decide_eq_decide.mpr (mem_enc str_inj)
      unfold c1__law_names
      simp_arith [hni, e], fun _ => by unfold y1__law_names; simp_arith []⟩
    generalize hF : (L.filter fun x => !decide (x ∈ A)) = F at hm
    have hFm : ∀ x, x ∈ F ↔ x ∈ L ∧ x ∉ A := fun x => by rw [← hF, List.mem_filter]; simp
    have hFl : F.length ≤ kp t := by rw [← hF]; exact Nat.le_trans (List.length_filter_le _ _) hLl
    have hFn : (A ++ F).Nodup := by
      rw [List.nodup_append]
      refine ⟨hn, by rw [← hF]; exact h2.filter _, fun a ha b hb e => ?_⟩
      subst e
      exact ((hFm a).mp hb).2 ha
    have hz1 : (stl F).length ≤ 16777216 := by rw [List.length_map]; omega
    have hadd : addD (.lst (stl A)) (.lst (stl F)) = some (.lst (stl (A ++ F))) := by
      rw [addD_lst, if_pos (by rw [List.length_map, List.length_map]; omega)]
      unfold stl; rw [List.map_append]
    obtain ⟨s2', s3', B, q1, q2, q3⟩ := names_run (g := g) (d := d) ts (A ++ F) (.val (td t)) s3 (fun s hs => h s (List.mem_cons_of_mem _ hs)) (fun x hx => hg x (by rw [lvs]; exact List.mem_append_right _ hx)) (fun x hx => by
      rcases List.mem_append.mp hx with hx | hx
      · exact hA x hx
      · exact hgL x ((hFm x).mp hx).1) hFn (by rw [List.length_append]; omega)
    refine ⟨s2', s3', B, ?_, q2, fun x => ?_⟩
    · have body : l1__law_names g [.val d, .val (.lst (stl A)), .val (td t), s3] = .next [.val d, .val (.lst (stl (A ++ F))), .val (td t), s3] := by
        unfold l1__law_names
        simp_arith [h1, hm, hz1, hadd]
      rw [List.map_cons]
      simp only [forF, put_one, List.set_cons_succ, List.set_cons_zero, body, q1]
    · rw [q3, List.mem_append, hFm, lvs, List.mem_append, ← h3]
      by_cases ha : x ∈ A <;> simp [ha]
theorem names_ok : ∀ (n : Nat) (t : Tr), gw t → ht t < n → kp t ≤ 1000 → ∃ L : List Str, m__law_names n [td t] = .ok (.lst (stl L)) ∧ L.Nodup ∧ (∀ x, x ∈ L ↔ some x ∈ lv t) ∧ L.Pairwise fun x y => leN x y = true
  | 0, t, _, h, _ => absurd h (Nat.not_lt_zero _)
  | n + 1, t, hg, h, hk => by
    have hi : ∀ x : D, initE 4 [x] = [.val x, .no, .no, .no] := fun _ => rfl
    show ∃ L, runF 4 (b__law_names (m__law_names n)) [td t] = _ ∧ _
    rw [runF, hi, b__law_names]
    cases t with
    | sk =>
      refine ⟨[], ?_, List.nodup_nil, fun x => by simp [lv], .nil⟩
      have hs : sortGD [.lst (stl [])] = some (.lst (stl (sortN []))) := sortG_lst fun x hx => by cases hx
      have hs' : sortGD [.lst []] = some (.lst []) := by rw [show sortN [] = [] from by rw [← List.length_eq_zero_iff, sortN_len]; rfl] at hs; exact hs
      have hc : slD (.tup [sD "skip"]) (some 1) none = some (.tup []) := cut1t
      simp_arith [td, hc, forF, hs']
      rfl
    | act m =>
      refine ⟨[m], ?_, by simp, fun x => by simp [lv], by simp⟩
      simp_arith [td]
      rfl
    | nd k ts =>
      have hts := lt_of_hts (ts := ts) h
      have e1 : ¬ k.nm = "do" := by cases k <;> decide
      obtain ⟨s2, s3, B, h1, h2, h3⟩ := names_run (g := m__law_names n) (d := td (.nd k ts)) ts [] .no .no (fun t ht' => by
        obtain ⟨L, q1, q2, q3, _⟩ := names_ok n t (gws_iff.mp hg.2 t ht') (hts t ht') (Nat.le_trans (kp_mem ht') hk)
        exact ⟨L, q1, q2, q3⟩) (fun x hx => nm_good (gws_lv ts hg.2 x hx)) (fun x hx => by cases hx) List.nodup_nil (by simp; exact Nat.le_trans hk (by decide))
      have hm : ∀ x, x ∈ B ↔ some x ∈ lvs ts := fun x => by rw [h3]; simp
      have hs := sortG_lst (l := B) fun x hx => nm_good (gws_lv ts hg.2 x ((hm x).mp hx))
      refine ⟨sortN B, ?_, sortN_nd h2, fun x => by rw [sortN_mem]; exact hm x, sortN_pw B⟩
      rw [← tds_map, show stl [] = [] from rfl] at h1
      rw [show td (.nd k ts) = .tup (sD k.nm :: tds ts) from rfl] at h1 ⊢
      simp_arith [e1, cut1t, h1, hs]
    | lp a b =>
      have e1 : kp (.lp a b) = kp a + kp b := rfl
      have e0 : ht (.lp a b) = max (ht a) (ht b) + 1 := rfl
      have e3 : lvs [a, b] = lv a ++ lv b := by rw [lvs, lvs, lvs, List.append_nil]
      obtain ⟨s2, s3, B, h1, h2, h3⟩ := names_run (g := m__law_names n) (d := td (.lp a b)) [a, b] [] .no .no (fun t ht' => by
        rcases List.mem_cons.mp ht' with rfl | ht'
        · obtain ⟨L, q1, q2, q3, _⟩ := names_ok n _ hg.1 (by omega) (by omega)
          exact ⟨L, q1, q2, q3⟩
        · rw [List.mem_singleton] at ht'; subst ht'
          obtain ⟨L, q1, q2, q3, _⟩ := names_ok n _ hg.2 (by omega) (by omega)
          exact ⟨L, q1, q2, q3⟩) (fun x hx => by rw [e3] at hx; exact nm_good (gw_lv (.lp a b) hg x hx)) (fun x hx => by cases hx) List.nodup_nil (by rw [kps, kps, kps]; simp; omega)
      have hm : ∀ x, x ∈ B ↔ some x ∈ lv (.lp a b) := fun x => by rw [h3, e3]; simp [lv]
      have hs := sortG_lst (l := B) fun x hx => nm_good (gw_lv (.lp a b) hg x ((hm x).mp hx))
      refine ⟨sortN B, ?_, sortN_nd h2, fun x => by rw [sortN_mem]; exact hm x, sortN_pw B⟩
      rw [List.map_cons, List.map_cons, List.map_nil, show stl [] = [] from rfl] at h1
      rw [show td (.lp a b) = .tup [sD "loop", td a, td b] from rfl] at h1 ⊢
      simp_arith [cut1t, h1, hs]
theorem names_deeds {t : Tr} {L : List Str} (h1 : L.Nodup) (h2 : ∀ x, x ∈ L ↔ some x ∈ lv t) (h3 : L.Pairwise fun x y => leN x y = true) : L = deeds t :=
  sorted_same (perm_nd h1 (deeds_nd t) fun x => by rw [h2, mem_deeds]) h3 (sortN_pw _)
end K89

set_option Elab.async false
set_option linter.all false
set_option maxRecDepth 100000
set_option maxHeartbeats 2000000
/-! k89: the law's tree. -/
namespace K89
open PySem Dl Sh
local macro_rules | `(tactic| simp_arith [$ts,*]) => `(tactic| simp only [ev_bind_ok, ev_bind_exc, ev_bindF_ok, ev_bindF_exc, ev_sNext, ev_sSeq, ev_sIf, ev_sRet, ev_sSet, ev_sOwn, ev_sDrop, ev_sRaise, ev_sFrz, ev_sUnp, ev_sFor, ev_eC, Dl.ev_e1, Dl.ev_e2, ev_eB, ev_eCall, ev_aNil, ev_aCons, ev_eIf, blR_bl, ev_tB1, ev_tAnd, ev_tOr, andK_bl, orK_bl, notK_bl, ev_eAnd, ev_eOr, ev_eNot, ev_tNot, ev_tYes, ev_oNone, ev_oSome, ev_eSl, ev_iSeq, ev_iRng, ev_eN, ev_ofO_some, ev_eV0, ev_eVs, lt_int, le_int, gt_int, ge_int, add_int, sub_int, iadd_int, len_tup, len_lst, eq_int, ne_int, itD_tup, itD_lst, put_one, fz_nil, fz_val, fz_no, fz_own, fz_succ, od_lst, od_lol, od_dk, od_dt, odict_lst, odict_dk, odict_dt, wp_nil, wp_cons, sa_nil, sa_cons, put_all, ev_eTup', ev_eLst', ev_nLst, ev_nLc, ev_eGen', ev_tBor, ev_eBor, ev_sPar, ev_eM, ev_eM0, ev_eCallM, ev_aSnoc, ok_tup, ok_lst, ok_str, ev_tIf, notB_eq, isB_eq, isN_eq, notN_eq, neg_int, tupD_lst, tupD_tup, listD_lst, listD_tup, pure_int, pure_bl, pure_str, pure_non, pureL_int, ev_eIsi, addD_lst, addD_tup, ix_t0, ix_t1, ix_t2, ix_l0, ix_l1, ix_l2, isi_tt, isi_ss, isT_tup, isS_str, List.set_cons_succ, List.set_cons_zero, List.length_cons, List.length_nil, Nat.reduceAdd, Nat.reduceLeDiff, Nat.zero_add, Nat.zero_le, if_true, if_false, Bool.false_eq_true, decide_true, decide_false, Bool.not_true, Bool.not_false, Bool.true_or, Bool.false_or, Bool.or_true, Bool.or_false, Bool.true_and, Bool.false_and, Bool.and_true, Bool.and_false, Int.cast_ofNat_Int, Int.reduceEq, Int.reduceLT, Int.reduceLE, Int.reduceNeg, reduceCtorEq, List.cons_append, List.nil_append, eq_of, ne_of, String.reduceEq, $ts,*])
def abc : List Str := [Str.ofString "a", Str.ofString "b", Str.ofString "c"]
def lt3 (k : Nat) : Str := abc.getD k (Str.ofString "a")
theorem lt3_mem (k : Nat) (h : k < 3) : lt3 k ∈ abc := by
  match k, h with
  | 0, _ => simp [lt3, abc]
  | 1, _ => simp [lt3, abc]
  | 2, _ => simp [lt3, abc]
theorem abc_ix (k : Nat) (h : k < 3) : ixD (.str "abc") (.int (k : Nat)) = some (.str (lt3 k)) := by
  match k, h with
  | 0, _ => rfl
  | 1, _ => rfl
  | 2, _ => rfl
theorem abc_nm : ∀ x ∈ abc, nmS x = true := fun x h => by
  simp only [abc, List.mem_cons, List.not_mem_nil, or_false] at h
  rcases h with rfl | rfl | rfl <;> decide +kernel
def KB : Nat → Nat
  | 0 => 1
  | 1 => 2
  | 2 => 6
  | _ => 18
def MB : Nat → Nat
  | 0 => 0
  | 1 => 0
  | 2 => 5
  | _ => 18
/-- a tree of the law, d levels high -/
structure LT (d : Nat) (t : Tr) : Prop where
  w : gw t
  h : ht t ≤ d
  k : kp t ≤ KB d
  m : lm t ≤ MB d
  a : ∀ x, some x ∈ lv t → x ∈ abc
theorem LT.leaf {d : Nat} {t : Tr} (hd : d ≤ 3) (h : t = .sk ∨ ∃ x ∈ abc, t = .act x) : LT d t := by
  have h1 : 1 ≤ KB d := by
    match d, hd with
    | 0, _ => decide
    | 1, _ => decide
    | 2, _ => decide
    | 3, _ => decide
  rcases h with rfl | ⟨x, hx, rfl⟩
  · exact ⟨trivial, Nat.zero_le _, h1, Nat.zero_le _, fun x h => by simp [lv] at h⟩
  · exact ⟨abc_nm x hx, Nat.zero_le _, h1, Nat.zero_le _, fun y h => by
      simp only [lv, List.mem_singleton, Option.some.injEq] at h
      rw [h]; exact hx⟩
theorem LT.two {d : Nat} {a b : Tr} (hd : d < 3) (k : Kd) (ha : LT d a) (hb : LT d b) : LT (d + 1) (.nd k [a, b]) := by
  have q1 := ha.h; have q2 := hb.h; have q3 := ha.k; have q4 := hb.k; have q5 := ha.m; have q6 := hb.m
  refine ⟨⟨by simp, ha.w, hb.w, trivial⟩, ?_, ?_, ?_, fun x hx => ?_⟩
  · show max (ht a + 1) (max (ht b + 1) 0) ≤ d + 1
    omega
  · show kp a + (kp b + 0) ≤ _
    match d, hd with
    | 0, _ => simp only [KB] at *; omega
    | 1, _ => simp only [KB] at *; omega
    | 2, _ => simp only [KB] at *; omega
  · show max (lm a) (max (lm b) 0) ≤ _
    match d, hd with
    | 0, _ => simp only [MB] at *; omega
    | 1, _ => simp only [MB] at *; omega
    | 2, _ => simp only [MB] at *; omega
  · have hx : some x ∈ lv a ++ (lv b ++ []) := hx
    simp only [List.append_nil, List.mem_append] at hx
    rcases hx with hx | hx
    · exact ha.a x hx
    · exact hb.a x hx
theorem LT.three {d : Nat} {a b c : Tr} (hd : d < 3) (hd1 : 1 ≤ d) (k : Kd) (ha : LT d a) (hb : LT d b) (hc : LT d c) : LT (d + 1) (.nd k [a, b, c]) := by
  have q1 := ha.h; have q2 := hb.h; have q3 := ha.k; have q4 := hb.k; have q5 := ha.m; have q6 := hb.m
  have r1 := hc.h; have r2 := hc.k; have r3 := hc.m
  refine ⟨⟨by simp, ha.w, hb.w, hc.w, trivial⟩, ?_, ?_, ?_, fun x hx => ?_⟩
  · show max (ht a + 1) (max (ht b + 1) (max (ht c + 1) 0)) ≤ d + 1
    omega
  · show kp a + (kp b + (kp c + 0)) ≤ _
    match d, hd, hd1 with
    | 1, _, _ => simp only [KB] at *; omega
    | 2, _, _ => simp only [KB] at *; omega
  · show max (lm a) (max (lm b) (max (lm c) 0)) ≤ _
    match d, hd, hd1 with
    | 1, _, _ => simp only [MB] at *; omega
    | 2, _, _ => simp only [MB] at *; omega
  · have hx : some x ∈ lv a ++ (lv b ++ (lv c ++ [])) := hx
    simp only [List.append_nil, List.mem_append] at hx
    rcases hx with hx | hx | hx
    · exact ha.a x hx
    · exact hb.a x hx
    · exact hc.a x hx
theorem LT.loop {d : Nat} {a b : Tr} (hd : d < 3) (hd1 : 1 ≤ d) (ha : LT d a) (hb : LT d b) : LT (d + 1) (.lp a b) := by
  have q1 := ha.h; have q2 := hb.h; have q3 := ha.k; have q4 := hb.k; have q5 := ha.m; have q6 := hb.m
  refine ⟨⟨ha.w, hb.w⟩, ?_, ?_, ?_, fun x hx => ?_⟩
  · show max (ht a) (ht b) + 1 ≤ d + 1
    omega
  · show kp a + kp b ≤ _
    match d, hd, hd1 with
    | 1, _, _ => simp only [KB] at *; omega
    | 2, _, _ => simp only [KB] at *; omega
  · show kp a + kp b + 1 + max (lm a) (lm b) ≤ _
    match d, hd, hd1 with
    | 1, _, _ => simp only [MB, KB] at *; omega
    | 2, _, _ => simp only [MB, KB] at *; omega
  · have hx : some x ∈ lv a ++ lv b := hx
    rw [List.mem_append] at hx
    rcases hx with hx | hx
    · exact ha.a x hx
    · exact hb.a x hx
theorem ltree_ok {L : List Nat} (hL : 0 < L.length) : ∀ (n deep a : Nat), deep ≤ 3 → 3 - deep < n → ∃ t, m__law_tree n [.lst (ntl L), .int (a : Nat), .int (deep : Nat)] = .ok (td t) ∧ LT (3 - deep) t
  | 0, _, _, _, h => absurd h (Nat.not_lt_zero _)
  | n + 1, deep, a, hd, hn => by
    have hi : initE 7 [.lst (ntl L), .int (a : Nat), .int (deep : Nat)] = [.val (.lst (ntl L)), .val (.int (a : Nat)), .val (.int (deep : Nat)), .no, .no, .no, .no] := rfl
    have c : ∀ (b k : Nat), ((b : Nat) : Int) + ((k : Nat) : Int) = ((b + k : Nat) : Int) := fun b k => rfl
    have c1 : ((a : Nat) : Int) + 1 = ((a + 1 : Nat) : Int) := rfl
    have c2 : ((a : Nat) : Int) + 2 = ((a + 2 : Nat) : Int) := rfl
    have c3 : ((a : Nat) : Int) + 3 = ((a + 3 : Nat) : Int) := rfl
    have c8 : ((a : Nat) : Int) + 8 = ((a + 8 : Nat) : Int) := rfl
    have c14 : ((a : Nat) : Int) + 14 = ((a + 14 : Nat) : Int) := rfl
    have d1 : ((deep : Nat) : Int) + 1 = ((deep + 1 : Nat) : Int) := rfl
    have ml : ∀ b : Nat, modD (.int (b : Nat)) (.int (L.length : Nat)) = some (.int ((b % L.length : Nat) : Int)) := fun b => mod_nat b _ hL
    have ix : ∀ b : Nat, ixD (.lst (ntl L)) (.int ((b % L.length : Nat) : Int)) = some (.int ((gt L b : Nat) : Int)) := fun b => ntl_at hL b
    have m9 : ∀ g : Nat, modD (.int (g : Nat)) (.int 9) = some (.int ((g % 9 : Nat) : Int)) := fun g => mod_nat g 9 (by decide)
    have m3 : ∀ g : Nat, modD (.int (g : Nat)) (.int 3) = some (.int ((g % 3 : Nat) : Int)) := fun g => mod_nat g 3 (by decide)
    have m6 : ∀ g : Nat, modD (.int (g : Nat)) (.int 6) = some (.int ((g % 6 : Nat) : Int)) := fun g => mod_nat g 6 (by decide)
    have m4 : ∀ g : Nat, modD (.int (g : Nat)) (.int 4) = some (.int ((g % 4 : Nat) : Int)) := fun g => mod_nat g 4 (by decide)
    have ab := abc_ix (gt L (a + 1) % 3) (Nat.mod_lt _ (by decide))
    have abm := lt3_mem (gt L (a + 1) % 3) (Nat.mod_lt _ (by decide))
    show ∃ t, runF 7 (b__law_tree (m__law_tree n)) _ = _ ∧ _
    rw [runF, hi, b__law_tree]
    obtain ⟨kd, hkd, hk3⟩ : ∃ kd : Nat, (gt L a % (if deep < 3 then 9 else 3) = kd) ∧ (¬ deep < 3 → kd < 3) := ⟨_, rfl, fun h => by rw [if_neg h]; exact Nat.mod_lt _ (by decide)⟩
    have hset : (do
        let x ← (if decide (((deep : Nat) : Int) < 3) = true then Dl.R.ok (D.int 9) else Dl.R.ok (D.int 3))
        ofO (modD (.int ((gt L a : Nat) : Int)) x)) = Dl.R.ok (.int (kd : Nat)) := by
      by_cases h : deep < 3
      · rw [if_pos h] at hkd
        rw [if_pos (decide_eq_true (by omega))]
        rw [ev_bind_ok, m9, hkd]; rfl
      · rw [if_neg h] at hkd
        rw [if_neg (by rw [decide_eq_false (by omega)]; decide)]
        rw [ev_bind_ok, m3, hkd]; rfl
    by_cases hk : kd < 3
    · have hk' : ((kd : Nat) : Int) < 3 := by omega
      by_cases h6 : gt L (a + 1) % 6 = 0
      · have h6' : ((gt L (a + 1) % 6 : Nat) : Int) = 0 := by omega
        refine ⟨.sk, ?_, .leaf (by omega) (.inl rfl)⟩
        simp_arith [ntl_len, ml, ix, hset, hk', c1, m6, h6', td]
      · have h6' : ¬ ((gt L (a + 1) % 6 : Nat) : Int) = 0 := by omega
        refine ⟨.act (lt3 (gt L (a + 1) % 3)), ?_, .leaf (by omega) (.inr ⟨_, abm, rfl⟩)⟩
        simp_arith [ntl_len, ml, ix, hset, hk', c1, m6, h6', m3, ab, td]
    · have hk' : ¬ ((kd : Nat) : Int) < 3 := by omega
      have hdp : deep < 3 := by
        by_cases h : deep < 3
        · exact h
        · exact absurd (hk3 h) hk
      obtain ⟨t1, q1, l1⟩ := ltree_ok hL n (deep + 1) (a + 3) (by omega) (by omega)
      obtain ⟨t2, q2, l2⟩ := ltree_ok hL n (deep + 1) (a + 8) (by omega) (by omega)
      obtain ⟨t3, q3, l3⟩ := ltree_ok hL n (deep + 1) (a + 14) (by omega) (by omega)
      have hdd : 3 - deep = (3 - (deep + 1)) + 1 := by omega
      rw [hdd]
      obtain ⟨kk, hkk⟩ : ∃ kk : Kd, ixD (.tup [.str "seq", .str "xor", .str "and"]) (.int ((kd % 3 : Nat) : Int)) = some (sD kk.nm) := by
        have : kd % 3 < 3 := Nat.mod_lt _ (by decide)
        generalize kd % 3 = z at this
        match z, this with
        | 0, _ => exact ⟨.seq, rfl⟩
        | 1, _ => exact ⟨.xor, rfl⟩
        | 2, _ => exact ⟨.and, rfl⟩
      by_cases g2 : deep < 2
      · have h2 : ((deep : Nat) : Int) < 2 := by omega
        by_cases g1 : 6 < kd
        · have h1 : (6 : Int) < ((kd : Nat) : Int) := by omega
          refine ⟨.lp t1 t2, ?_, .loop (by omega) (by omega) l1 l2⟩
          simp_arith [ntl_len, ml, ix, hset, hk', c3, c8, d1, q1, q2, h1, h2, td]
        · have h1 : ¬ (6 : Int) < ((kd : Nat) : Int) := by omega
          by_cases g3 : gt L (a + 2) % 4 = 0
          · have h3 : ((gt L (a + 2) % 4 : Nat) : Int) = 0 := by omega
            refine ⟨.nd kk [t1, t2, t3], ?_, .three (by omega) (by omega) kk l1 l2 l3⟩
            simp_arith [ntl_len, ml, ix, hset, hk', c3, c8, c14, c2, d1, q1, q2, q3, h1, h2, m3, hkk, m4, h3, td, tds]
          · have h3 : ¬ ((gt L (a + 2) % 4 : Nat) : Int) = 0 := by omega
            refine ⟨.nd kk [t1, t2], ?_, .two (by omega) kk l1 l2⟩
            simp_arith [ntl_len, ml, ix, hset, hk', c3, c8, c14, c2, d1, q1, q2, h1, h2, m3, hkk, m4, h3, td, tds]
      · have h2 : ¬ ((deep : Nat) : Int) < 2 := by omega
        refine ⟨.nd kk [t1, t2], ?_, .two (by omega) kk l1 l2⟩
        simp_arith [ntl_len, ml, ix, hset, hk', c3, c8, c14, c2, d1, q1, q2, h2, m3, hkk, m4, td, tds, ite_self]
end K89

set_option Elab.async false
set_option linter.all false
set_option maxRecDepth 100000
set_option maxHeartbeats 2000000
/-! k89: the law's lists of words. -/
namespace K89
open PySem Dl Sh PySem.W
local macro_rules | `(tactic| simp_arith [$ts,*]) => `(tactic| simp only [ev_bind_ok, ev_bind_exc, ev_bindF_ok, ev_bindF_exc, ev_sNext, ev_sSeq, ev_sIf, ev_sRet, ev_sSet, ev_sOwn, ev_sDrop, ev_sRaise, ev_sFrz, ev_sUnp, ev_sFor, ev_eC, Dl.ev_e1, Dl.ev_e2, ev_eB, ev_eCall, ev_aNil, ev_aCons, ev_eIf, blR_bl, ev_tB1, ev_tAnd, ev_tOr, andK_bl, orK_bl, notK_bl, ev_eAnd, ev_eOr, ev_eNot, ev_tNot, ev_tYes, ev_oNone, ev_oSome, ev_eSl, ev_iSeq, ev_iRng, ev_eN, ev_ofO_some, ev_eV0, ev_eVs, lt_int, le_int, gt_int, ge_int, add_int, sub_int, iadd_int, len_tup, len_lst, eq_int, ne_int, itD_tup, itD_lst, put_one, fz_nil, fz_val, fz_no, fz_own, fz_succ, od_lst, od_lol, od_dk, od_dt, odict_lst, odict_dk, odict_dt, wp_nil, wp_cons, sa_nil, sa_cons, put_all, ev_eTup', ev_eLst', ev_nLst, ev_nLc, ev_eGen', ev_tBor, ev_eBor, ev_sPar, ev_eM, ev_eM0, ev_eCallM, ev_aSnoc, ok_tup, ok_lst, ok_str, ev_tIf, notB_eq, isB_eq, isN_eq, notN_eq, neg_int, tupD_lst, tupD_tup, listD_lst, listD_tup, pure_int, pure_bl, pure_str, pure_non, pureL_int, ev_eIsi, addD_lst, addD_tup, ix_t0, ix_t1, ix_t2, ix_l0, ix_l1, ix_l2, isi_tt, isi_ss, isT_tup, isS_str, List.set_cons_succ, List.set_cons_zero, List.length_cons, List.length_nil, Nat.reduceAdd, Nat.reduceLeDiff, Nat.zero_add, Nat.zero_le, if_true, if_false, Bool.false_eq_true, decide_true, decide_false, Bool.not_true, Bool.not_false, Bool.true_or, Bool.false_or, Bool.or_true, Bool.or_false, Bool.true_and, Bool.false_and, Bool.and_true, Bool.and_false, Int.cast_ofNat_Int, Int.reduceEq, Int.reduceLT, Int.reduceLE, Int.reduceNeg, reduceCtorEq, List.cons_append, List.nil_append, eq_of, ne_of, String.reduceEq, $ts,*])
abbrev wD (w : List Str) : D := .tup (stl w)
theorem stl_inj {a b : List Str} (h : stl a = stl b) : a = b := (List.map_inj_right fun _ _ h => str_inj _ _ h).mp h
theorem wD_inj : ∀ a b : List Str, wD a = wD b → a = b := fun a b h => stl_inj (D.tup.inj h)
theorem gd_wD {w : List Str} (h : ∀ x ∈ w, goodS x = true) : (wD w).gd 1 := gd_tup (gd_stl h)
theorem gd_wDs {W : List (List Str)} (h : ∀ w ∈ W, ∀ x ∈ w, goodS x = true) : ∀ d ∈ W.map wD, d.gd 1 := fun d hd => by
  obtain ⟨w, hw, rfl⟩ := List.mem_map.mp hd
  exact gd_wD (h w hw)
theorem nb_wD (w : List Str) : (wD w).nb = true := by
  show D.nb (.tup _) = true
  rw [D.nb]
  exact nbs_of fun x hx => by
    obtain ⟨y, _, rfl⟩ := List.mem_map.mp hx
    rfl
theorem gk_wD (w : List Str) : (wD w).gk := ⟨nb_wD w, pure_tup fun x hx => by
    obtain ⟨y, _, rfl⟩ := List.mem_map.mp hx
    rfl, by
    show D.dep (.tup _) ≤ 8
    rw [D.dep]
    have : D.deps (stl w) ≤ 0 := deps_of fun x hx => by
      obtain ⟨y, _, rfl⟩ := List.mem_map.mp hx
      exact Nat.zero_le _
    omega, _, rfl⟩
theorem gk_wDs (W : List (List Str)) : ∀ d ∈ W.map wD, d.gk := fun d hd => by
  obtain ⟨w, _, rfl⟩ := List.mem_map.mp hd
  exact gk_wD w
theorem alk_all : ∀ (l m : List Str), alikeAll (D.pys (stl l)) (D.pys (stl m)) = true
  | [], _ => by show alikeAll (D.pys []) _ = true; rw [D.pys, alikeAll]
  | x :: l, [] => by show alikeAll (D.pys (D.str x :: stl l)) (D.pys []) = true; rw [D.pys, D.pys, alikeAll]
  | x :: l, y :: m => by
    show alikeAll (D.pys (D.str x :: stl l)) (D.pys (D.str y :: stl m)) = true
    rw [D.pys, D.pys, alikeAll, alk_all l m]
    simp [alike, D.py]
theorem alk_wD (a b : List Str) : alkD (wD a) (wD b) = true := by
  show alike (wD a).py (wD b).py = true
  rw [D.py, D.py, alike]
  exact alk_all a b
/-! ### words in order -/
def leW (a b : List Str) : Bool := leqD (wD a) (wD b)
def sortW (l : List (List Str)) : List (List Str) := l.mergeSort leW
theorem sortW_map (l : List (List Str)) : sortD (l.map wD) = (sortW l).map wD := (merge_map wD leqD l).symm
theorem sortW_perm (l : List (List Str)) : (sortW l).Perm l := List.mergeSort_perm l _
theorem sortW_mem {l : List (List Str)} {x : List Str} : x ∈ sortW l ↔ x ∈ l := (sortW_perm l).mem_iff
theorem sortW_nd {l : List (List Str)} (h : l.Nodup) : (sortW l).Nodup := (sortW_perm l).nodup_iff.mpr h
theorem sort_ok {l : List (List Str)} (h : ∀ w ∈ l, ∀ x ∈ w, goodS x = true) : sortGD [.lst (l.map wD)] = some (.lst ((sortW l).map wD)) := by
  show sortGL (l.map wD) = _
  unfold sortGL
  rw [if_pos, sortW_map]
  refine srtG_tp ?_
  unfold srtTp
  rw [Bool.and_eq_true, Bool.and_eq_true]
  refine ⟨⟨List.all_eq_true.mpr fun d hd => gd_sh (gd_wDs h d hd), List.all_eq_true.mpr fun d hd => List.all_eq_true.mpr fun e he => ?_⟩, List.all_eq_true.mpr fun d hd => ?_⟩
  · obtain ⟨a, _, rfl⟩ := List.mem_map.mp hd
    obtain ⟨b, _, rfl⟩ := List.mem_map.mp he
    exact alk_wD a b
  · obtain ⟨a, _, rfl⟩ := List.mem_map.mp hd
    rfl
/-! ### each once -/
abbrev trs (n : Nat) : List D := List.replicate n (.bl true)
theorem addL_in {α : Type} [DecidableEq α] {B : List α} {p : α} (h : p ∈ B) : addL B [p] = B := by rw [addL, addL, if_pos h]
theorem addL_nin {α : Type} [DecidableEq α] {B : List α} {p : α} (h : p ∉ B) : addL B [p] = B ++ [p] := by rw [addL, addL, if_neg h]
theorem dput_w {B : List (List Str)} {p : List Str} (nd : B.Nodup) (hz : B.length < 16777216) : dputO (.dt (B.map wD) (trs B.length)) (wD p) (.bl true) = some (.dt ((addL B [p]).map wD) (trs (addL B [p]).length)) := by
  have hnd : (B.map wD).Nodup := List.Pairwise.map _ (fun a b h z => h (wD_inj a b z)) nd
  by_cases hm : p ∈ B
  · rw [addL_in hm, dput_old (gk_wD p) (gk_wDs B) ((mem_enc wD_inj).mpr hm) hnd (by simp) (by rw [List.length_map]; omega)]
    congr 1
    congr 1
    apply List.ext_getElem
    · simp
    · intro i h1 h2
      rw [List.getElem_set]
      split <;> simp
  · rw [addL_nin hm, dput_new (gk_wD p) (gk_wDs B) (fun z => hm ((mem_enc wD_inj).mp z)) (by rw [List.length_map]; omega)]
    rw [List.map_append, List.length_append, List.length_singleton]
    congr 1
    congr 1
    exact List.replicate_succ'.symm
theorem once_ok {W : List (List Str)} (h : ∀ w ∈ W, ∀ x ∈ w, goodS x = true) (hz : W.length ≤ 1000000) : m__law_once [.lst (W.map wD)] = .ok (.lst ((sortW (addL [] W)).map wD)) := by
  have hi : initE 3 [.lst (W.map wD)] = [.val (.lst (W.map wD)), .no, .no] := rfl
  obtain ⟨δ', e, y2, hδ⟩ := forF_run (t := .one 2) (f := l1__law_once) (enc := wD) (fun pre δ => ∃ y2, δ = [.val (.lst (W.map wD)), .own (.dt ((addL [] pre).map wD) (trs (addL [] pre).length)), y2]) W (δ := [.val (.lst (W.map wD)), .own (.dt [] []), .no]) ⟨.no, rfl⟩ (fun pre w δ hw ⟨y2, hδ⟩ => by
    subst hδ
    have hl := hw.length_le
    rw [List.length_append, List.length_singleton] at hl
    have hlen := addL_len pre ([] : List (List Str))
    rw [List.length_nil] at hlen
    have hp := dput_w (B := addL [] pre) (p := w) (addL_nd _ _ List.nodup_nil) (by omega)
    refine ⟨[.val (.lst (W.map wD)), .own (.dt ((addL [] pre).map wD) (trs (addL [] pre).length)), .val (wD w)], rfl, [.val (.lst (W.map wD)), .own (.dt ((addL [] (pre ++ [w])).map wD) (trs (addL [] (pre ++ [w])).length)), .val (wD w)], ?_, _, rfl⟩
    rw [addL_app]
    have e2 : eV 2 [.val (.lst (W.map wD)), .own (.dt ((addL [] pre).map wD) (trs (addL [] pre).length)), .val (wD w)] = .ok (wD w) := by simp_arith []
    unfold l1__law_once sDPut
    simp only [List.getElem?_cons_succ, List.getElem?_cons_zero, O.one, ev_eC, ev_bindF_ok, e2, hp, List.set_cons_succ, List.set_cons_zero])
  have hs := sort_ok (l := addL [] W) fun w hw => h w (by
    rcases (addL_mem _ _ _).mp hw with z | z
    · cases z
    · exact z)
  have hOwn : ∀ δ : Dl.Env, sOwnO 1 nDt0 δ = .next (δ.set 1 (.own (.dt [] []))) := fun δ => rfl
  have hk : ∀ xs : List D, keysD [.dt ((addL [] W).map wD) xs] = some (.lst ((addL [] W).map wD)) := fun xs => rfl
  unfold m__law_once runF b__law_once
  rw [hi]
  simp_arith [hOwn, e, hδ, hk, hs]
/-! ### words put together -/
theorem add_wD {u v : List Str} (h : u.length + v.length ≤ 1000) : addD (wD u) (wD v) = some (wD (u ++ v)) := by
  show addD (.tup (stl u)) (.tup (stl v)) = some (.tup (stl (u ++ v)))
  rw [addD_tup, if_pos (by rw [List.length_map, List.length_map]; omega)]
  unfold stl; rw [List.map_append]
def cat1 (m : Nat) (u : List Str) (B : List (List Str)) : List (List Str) := (B.filter fun v => decide (u.length + v.length ≤ m)).map fun v => u ++ v
def catW (m : Nat) (A B : List (List Str)) : List (List Str) := A.flatMap fun u => cat1 m u B
theorem mem_catW {m : Nat} {A B : List (List Str)} {w : List Str} : w ∈ catW m A B ↔ ∃ u ∈ A, ∃ v ∈ B, u.length + v.length ≤ m ∧ w = u ++ v := by
  unfold catW cat1
  simp only [List.mem_flatMap, List.mem_map, List.mem_filter, decide_eq_true_eq]
  constructor
  · rintro ⟨u, hu, v, ⟨hv, h⟩, rfl⟩; exact ⟨u, hu, v, hv, h, rfl⟩
  · rintro ⟨u, hu, v, hv, h, rfl⟩; exact ⟨u, hu, v, ⟨hv, h⟩, rfl⟩
theorem cat1_len {m : Nat} {u : List Str} {B : List (List Str)} : (cat1 m u B).length ≤ B.length := by
  unfold cat1
  rw [List.length_map]
  exact List.length_filter_le _ _
theorem catW_len {m : Nat} {B : List (List Str)} : ∀ A : List (List Str), (catW m A B).length ≤ A.length * B.length
  | [] => Nat.zero_le _
  | u :: A => by
    have h1 := catW_len (m := m) (B := B) A
    have h2 := cat1_len (m := m) (u := u) (B := B)
    have e : catW m (u :: A) B = cat1 m u B ++ catW m A B := rfl
    rw [e, List.length_append, List.length_cons, Nat.succ_mul]
    omega
theorem catW_app {m : Nat} {A A' B : List (List Str)} : catW m (A ++ A') B = catW m A B ++ catW m A' B := by unfold catW; rw [List.flatMap_append]
theorem joined_ok {A B : List (List Str)} {m : Nat} (hA : ∀ w ∈ A, (∀ x ∈ w, goodS x = true) ∧ w.length ≤ 60) (hB : ∀ w ∈ B, (∀ x ∈ w, goodS x = true) ∧ w.length ≤ 60) (zA : A.length ≤ 500) (zB : B.length ≤ 500) :
    m__law_joined [.lst (A.map wD), .lst (B.map wD), .int (m : Nat)] = .ok (.lst ((sortW (addL [] (catW m A B))).map wD)) := by
  have hi : initE 6 [.lst (A.map wD), .lst (B.map wD), .int (m : Nat)] = [.val (.lst (A.map wD)), .val (.lst (B.map wD)), .val (.int (m : Nat)), .no, .no, .no] := rfl
  obtain ⟨δ', e, y4, y5, hδ⟩ := forF_run (t := .one 4) (f := l1__law_joined) (enc := wD) (fun pre δ => ∃ y4 y5, δ = [.val (.lst (A.map wD)), .val (.lst (B.map wD)), .val (.int (m : Nat)), .val (.lst ((catW m pre B).map wD)), y4, y5]) A (δ := [.val (.lst (A.map wD)), .val (.lst (B.map wD)), .val (.int (m : Nat)), .val (.lst []), .no, .no]) ⟨.no, .no, rfl⟩ (fun pre u δ hw ⟨y4, y5, hδ⟩ => by
    subst hδ
    have hu : u ∈ A := hw.subset (by simp)
    have hl := hw.length_le
    rw [List.length_append, List.length_singleton] at hl
    have hm : mapF (.one 5) c1__law_joined y1__law_joined [.val (.lst (A.map wD)), .val (.lst (B.map wD)), .val (.int (m : Nat)), .val (.lst ((catW m pre B).map wD)), .val (wD u), .no] (B.map wD) = .ok ((cat1 m u B).map wD) := by
      unfold cat1
      rw [List.map_map]
      refine mapF_filter (enc := wD) fun v hv => ⟨_, rfl, ?_, fun _ => ?_⟩
      · unfold c1__law_joined
        have e1 : decide ((((stl u).length : Nat) : Int) + (((stl v).length : Nat) : Int) ≤ ((m : Nat) : Int)) = decide (u.length + v.length ≤ m) := decide_eq_decide.mpr (by rw [List.length_map, List.length_map]; omega)
        simp_arith [e1]
      · unfold y1__law_joined
        have := add_wD (u := u) (v := v) (by have := (hA u hu).2; have := (hB v hv).2; omega)
        simp_arith [this]
        rfl
    have z1 : ((cat1 m u B).map wD).length ≤ 16777216 := by rw [List.length_map]; have := cat1_len (m := m) (u := u) (B := B); omega
    have z2 := catW_len (m := m) (B := B) pre
    have z3 : pre.length * B.length ≤ 500 * 500 := Nat.mul_le_mul (by omega) zB
    have hadd : addD (.lst ((catW m pre B).map wD)) (.lst ((cat1 m u B).map wD)) = some (.lst ((catW m (pre ++ [u]) B).map wD)) := by
      rw [addD_lst, if_pos (by rw [List.length_map] at z1 ⊢; rw [List.length_map]; have := cat1_len (m := m) (u := u) (B := B); omega), ← List.map_append, catW_app]
      simp [catW]
    refine ⟨[.val (.lst (A.map wD)), .val (.lst (B.map wD)), .val (.int (m : Nat)), .val (.lst ((catW m pre B).map wD)), .val (wD u), y5], rfl, _, ?_, .val (wD u), y5, rfl⟩
    unfold l1__law_joined
    simp_arith [hm, z1, hadd])
  have hz := catW_len (m := m) (B := B) A
  have z3 : A.length * B.length ≤ 500 * 500 := Nat.mul_le_mul zA zB
  have ho := once_ok (W := catW m A B) (fun w hw x hx => by
    obtain ⟨u, hu, v, hv, _, rfl⟩ := mem_catW.mp hw
    rcases List.mem_append.mp hx with hx | hx
    · exact (hA u hu).1 x hx
    · exact (hB v hv).1 x hx) (by omega)
  unfold m__law_joined runF b__law_joined
  rw [hi]
  simp_arith [e, hδ, ho]
end K89

set_option Elab.async false
set_option linter.all false
set_option maxRecDepth 100000
set_option maxHeartbeats 2000000
/-! k89: words mixed by the law. -/
namespace K89
open PySem Dl Sh PySem.W
local macro_rules | `(tactic| simp_arith [$ts,*]) => `(tactic| simp only [ev_bind_ok, ev_bind_exc, ev_bindF_ok, ev_bindF_exc, ev_sNext, ev_sSeq, ev_sIf, ev_sRet, ev_sSet, ev_sOwn, ev_sDrop, ev_sRaise, ev_sFrz, ev_sUnp, ev_sFor, ev_eC, Dl.ev_e1, Dl.ev_e2, ev_eB, ev_eCall, ev_aNil, ev_aCons, ev_eIf, blR_bl, ev_tB1, ev_tAnd, ev_tOr, andK_bl, orK_bl, notK_bl, ev_eAnd, ev_eOr, ev_eNot, ev_tNot, ev_tYes, ev_oNone, ev_oSome, ev_eSl, ev_iSeq, ev_iRng, ev_eN, ev_ofO_some, ev_eV0, ev_eVs, lt_int, le_int, gt_int, ge_int, add_int, sub_int, iadd_int, len_tup, len_lst, eq_int, ne_int, itD_tup, itD_lst, put_one, fz_nil, fz_val, fz_no, fz_own, fz_succ, od_lst, od_lol, od_dk, od_dt, odict_lst, odict_dk, odict_dt, wp_nil, wp_cons, sa_nil, sa_cons, put_all, ev_eTup', ev_eLst', ev_nLst, ev_nLc, ev_eGen', ev_tBor, ev_eBor, ev_sPar, ev_eM, ev_eM0, ev_eCallM, ev_aSnoc, ok_tup, ok_lst, ok_str, ev_tIf, notB_eq, isB_eq, isN_eq, notN_eq, neg_int, tupD_lst, tupD_tup, listD_lst, listD_tup, pure_int, pure_bl, pure_str, pure_non, pureL_int, ev_eIsi, addD_lst, addD_tup, ix_t0, ix_t1, ix_t2, ix_l0, ix_l1, ix_l2, isi_tt, isi_ss, isT_tup, isS_str, List.set_cons_succ, List.set_cons_zero, List.length_cons, List.length_nil, Nat.reduceAdd, Nat.reduceLeDiff, Nat.zero_add, Nat.zero_le, if_true, if_false, Bool.false_eq_true, decide_true, decide_false, Bool.not_true, Bool.not_false, Bool.true_or, Bool.false_or, Bool.or_true, Bool.or_false, Bool.true_and, Bool.false_and, Bool.and_true, Bool.and_false, Int.cast_ofNat_Int, Int.reduceEq, Int.reduceLT, Int.reduceLE, Int.reduceNeg, reduceCtorEq, List.cons_append, List.nil_append, eq_of, ne_of, String.reduceEq, $ts,*])
theorem sl1 {x : Str} {u : List Str} : slD (wD (x :: u)) none (some 1) = some (wD [x]) := slT_tup (stl (x :: u)) 1
theorem sl2 {x : Str} {u : List Str} : slD (wD (x :: u)) (some 1) none = some (wD u) := cut1t
theorem mixed_ok : ∀ (n : Nat) (u v : List Str), u.length + v.length < n → u.length + v.length ≤ 10 → (∀ x ∈ u, goodS x = true) → (∀ x ∈ v, goodS x = true) →
    ∃ L : List (List Str), m__law_mixed n [wD u, wD v] = .ok (.lst (L.map wD)) ∧ (∀ w, w ∈ L ↔ Mix u v w) ∧ L.length ≤ 2 ^ (u.length + v.length)
  | 0, u, v, h, _, _, _ => absurd h (Nat.not_lt_zero _)
  | n + 1, u, v, h, hz, hu, hv => by
    have hi : initE 4 [wD u, wD v] = [.val (wD u), .val (wD v), .no, .no] := rfl
    show ∃ L, runF 4 (b__law_mixed (m__law_mixed n)) [wD u, wD v] = _ ∧ _
    rw [runF, hi, b__law_mixed]
    have hadd := add_wD (u := u) (v := v) (by omega)
    match u, v, h, hz, hu, hv, hadd with
    | [], v, h, hz, hu, hv, hadd =>
      refine ⟨[v], ?_, fun w => ?_, Nat.one_le_two_pow⟩
      · have e : lenD [wD []] = some (.int 0) := rfl
        simp_arith [e, hadd]
        rfl
      · rw [List.mem_singleton]
        exact ⟨fun e => e ▸ mix_nl v, fun h => mix_nl' h rfl⟩
    | x :: u, [], h, hz, hu, hv, hadd =>
      refine ⟨[x :: u], ?_, fun w => ?_, Nat.one_le_two_pow⟩
      · have e1 : ¬ ((((stl (x :: u)).length : Nat)) : Int) = 0 := by rw [List.length_map, List.length_cons]; omega
        have e2 : lenD [wD []] = some (.int 0) := rfl
        have e3 : lenD [wD (x :: u)] = some (.int ((stl (x :: u)).length : Nat)) := rfl
        rw [List.append_nil] at hadd
        simp_arith [e3, e1, e2, hadd, -len_tup]
        rfl
      · rw [List.mem_singleton]
        exact ⟨fun e => e ▸ mix_comm (mix_nl _), fun h => mix_nl' (mix_comm h) rfl⟩
    | x :: u, y :: v, h, hz, hu, hv, hadd =>
      have e1 : ¬ ((((stl (x :: u)).length : Nat)) : Int) = 0 := by rw [List.length_map, List.length_cons]; omega
      have e2 : ¬ ((((stl (y :: v)).length : Nat)) : Int) = 0 := by rw [List.length_map, List.length_cons]; omega
      have e3 : ∀ w, lenD [wD w] = some (.int ((stl w).length : Nat)) := fun _ => rfl
      rw [List.length_cons, List.length_cons] at h hz
      obtain ⟨L1, a1, a2, a3⟩ := mixed_ok n u (y :: v) (by rw [List.length_cons]; omega) (by rw [List.length_cons]; omega) (fun z hz => hu z (List.mem_cons_of_mem _ hz)) hv
      obtain ⟨L2, b1, b2, b3⟩ := mixed_ok n (x :: u) v (by rw [List.length_cons]; omega) (by rw [List.length_cons]; omega) hu (fun z hz => hv z (List.mem_cons_of_mem _ hz))
      have gx : goodS x = true := hu x List.mem_cons_self
      have gy : goodS y = true := hv y List.mem_cons_self
      have l1 : ∀ w ∈ L1, w.length ≤ 100 := fun w hw => by have := mix_len ((a2 w).mp hw); rw [List.length_cons] at this; omega
      have l2 : ∀ w ∈ L2, w.length ≤ 100 := fun w hw => by have := mix_len ((b2 w).mp hw); rw [List.length_cons] at this; omega
      have g1 : ∀ w ∈ L1, ∀ z ∈ w, goodS z = true := fun w hw z hz => by
        rcases (mix_mem ((a2 w).mp hw) z).mp hz with q | q
        · exact hu z (List.mem_cons_of_mem _ q)
        · exact hv z q
      have g2 : ∀ w ∈ L2, ∀ z ∈ w, goodS z = true := fun w hw z hz => by
        rcases (mix_mem ((b2 w).mp hw) z).mp hz with q | q
        · exact hu z q
        · exact hv z (List.mem_cons_of_mem _ q)
      have p1 : L1.length ≤ 1024 := Nat.le_trans a3 (Nat.le_trans (Nat.pow_le_pow_right (by decide) (by rw [List.length_cons]; omega)) (show 2 ^ 10 ≤ 1024 by decide))
      have p2 : L2.length ≤ 1024 := Nat.le_trans b3 (Nat.le_trans (Nat.pow_le_pow_right (by decide) (by rw [List.length_cons]; omega)) (show 2 ^ 10 ≤ 1024 by decide))
      generalize hF : L1.map (fun w => x :: w) = F
      have hFg : ∀ w ∈ F, ∀ z ∈ w, goodS z = true := fun w hw z hz => by
        rw [← hF] at hw
        obtain ⟨w', h', rfl⟩ := List.mem_map.mp hw
        rcases List.mem_cons.mp hz with rfl | hz
        · exact gx
        · exact g1 w' h' z hz
      have hFl : F.length ≤ 1024 := by rw [← hF, List.length_map]; exact p1
      have m1 : mapF (.one 3) tYesD (y1__law_mixed (m__law_mixed n)) [.val (wD (x :: u)), .val (wD (y :: v)), .no, .no] (L1.map wD) = .ok (F.map wD) := by
        rw [← hF, List.map_map]
        refine mapF_enc (enc := wD) fun w hw => ⟨_, rfl, rfl, ?_⟩
        have q := add_wD (u := [x]) (v := w) (by have := l1 w hw; simp; omega)
        unfold y1__law_mixed
        simp_arith [sl1, q]
        rfl
      have m2 : mapF (.one 3) (c1__law_mixed (m__law_mixed n)) (y2__law_mixed (m__law_mixed n)) [.val (wD (x :: u)), .val (wD (y :: v)), .val (.lst (F.map wD)), .no] (L2.map wD) = .ok (((L2.filter fun w => !decide (y :: w ∈ F)).map fun w => y :: w).map wD) := by
        rw [List.map_map]
        refine mapF_filter (enc := wD) fun w hw => ⟨_, rfl, ?_, fun _ => ?_⟩
        · have q := add_wD (u := [y]) (v := w) (by have := l2 w hw; simp; omega)
          have hni := nin_lst (x := wD (y :: w)) (ys := F.map wD) (gd_mono (by decide) (gd_wD fun z hz => by
            rcases List.mem_cons.mp hz with rfl | hz
            · exact gy
            · exact g2 w hw z hz)) fun d hd => gd_mono (by decide) (gd_wDs hFg d hd)
          have e : decide (wD (y :: w) ∈ F.map wD) = decide (y :: w ∈ F) := decide_eq_decide.mpr (mem_enc wD_inj)
          rw [List.cons_append, List.nil_append] at q
          unfold c1__law_mixed
          simp_arith [sl1, q, hni, e]
        · have q := add_wD (u := [y]) (v := w) (by have := l2 w hw; simp; omega)
          unfold y2__law_mixed
          simp_arith [sl1, q]
          rfl
      generalize hG : ((L2.filter fun w => !decide (y :: w ∈ F)).map fun w => y :: w) = G at m2
      have hGl : G.length ≤ L2.length := by rw [← hG, List.length_map]; exact List.length_filter_le _ _
      have z1 : (F.map wD).length ≤ 16777216 := by rw [List.length_map]; omega
      have z2 : (G.map wD).length ≤ 16777216 := by rw [List.length_map]; omega
      have hfg : addD (.lst (F.map wD)) (.lst (G.map wD)) = some (.lst ((F ++ G).map wD)) := by
        rw [addD_lst, if_pos (by rw [List.length_map, List.length_map]; omega), List.map_append]
      refine ⟨F ++ G, ?_, fun w => ?_, ?_⟩
      · simp_arith [e3, e1, e2, sl2, a1, b1, m1, m2, z1, z2, hfg, -len_tup]
      · rw [List.mem_append]
        constructor
        · rintro (hw | hw)
          · rw [← hF] at hw
            obtain ⟨w', h', rfl⟩ := List.mem_map.mp hw
            exact .l ((a2 w').mp h')
          · rw [← hG] at hw
            obtain ⟨w', h', rfl⟩ := List.mem_map.mp hw
            exact .r ((b2 w').mp (List.mem_filter.mp h').1)
        · intro hm
          by_cases hwF : w ∈ F
          · exact .inl hwF
          · right
            cases hm with
            | l hm => exact absurd (by rw [← hF]; exact List.mem_map.mpr ⟨_, (a2 _).mpr hm, rfl⟩) hwF
            | r hm =>
              rw [← hG]
              exact List.mem_map.mpr ⟨_, List.mem_filter.mpr ⟨(b2 _).mpr hm, by simpa using hwF⟩, rfl⟩
      · have q1 : F.length = L1.length := by rw [← hF, List.length_map]
        rw [List.length_append, q1]
        rw [List.length_cons] at a3 b3 ⊢
        rw [List.length_cons]
        have e4 : u.length + (v.length + 1) = u.length + 1 + v.length := by omega
        rw [e4] at a3
        have e5 : u.length + 1 + (v.length + 1) = (u.length + 1 + v.length) + 1 := by omega
        rw [e5, Nat.pow_succ]
        omega
end K89

set_option Elab.async false
set_option linter.all false
set_option maxRecDepth 100000
set_option maxHeartbeats 2000000
/-! k89: the law's words are the words of the tree. -/
namespace K89
open PySem Dl Sh PySem.W
local macro_rules | `(tactic| simp_arith [$ts,*]) => `(tactic| simp only [ev_bind_ok, ev_bind_exc, ev_bindF_ok, ev_bindF_exc, ev_sNext, ev_sSeq, ev_sIf, ev_sRet, ev_sSet, ev_sOwn, ev_sDrop, ev_sRaise, ev_sFrz, ev_sUnp, ev_sFor, ev_eC, Dl.ev_e1, Dl.ev_e2, ev_eB, ev_eCall, ev_aNil, ev_aCons, ev_eIf, blR_bl, ev_tB1, ev_tAnd, ev_tOr, andK_bl, orK_bl, notK_bl, ev_eAnd, ev_eOr, ev_eNot, ev_tNot, ev_tYes, ev_oNone, ev_oSome, ev_eSl, ev_iSeq, ev_iRng, ev_eN, ev_ofO_some, ev_eV0, ev_eVs, lt_int, le_int, gt_int, ge_int, add_int, sub_int, iadd_int, len_tup, len_lst, eq_int, ne_int, itD_tup, itD_lst, put_one, fz_nil, fz_val, fz_no, fz_own, fz_succ, od_lst, od_lol, od_dk, od_dt, odict_lst, odict_dk, odict_dt, wp_nil, wp_cons, sa_nil, sa_cons, put_all, ev_eTup', ev_eLst', ev_nLst, ev_nLc, ev_eGen', ev_tBor, ev_eBor, ev_sPar, ev_eM, ev_eM0, ev_eCallM, ev_aSnoc, ok_tup, ok_lst, ok_str, ev_tIf, notB_eq, isB_eq, isN_eq, notN_eq, neg_int, tupD_lst, tupD_tup, listD_lst, listD_tup, pure_int, pure_bl, pure_str, pure_non, pureL_int, ev_eIsi, addD_lst, addD_tup, ix_t0, ix_t1, ix_t2, ix_l0, ix_l1, ix_l2, isi_tt, isi_ss, isT_tup, isS_str, List.set_cons_succ, List.set_cons_zero, List.length_cons, List.length_nil, Nat.reduceAdd, Nat.reduceLeDiff, Nat.zero_add, Nat.zero_le, if_true, if_false, Bool.false_eq_true, decide_true, decide_false, Bool.not_true, Bool.not_false, Bool.true_or, Bool.false_or, Bool.or_true, Bool.or_false, Bool.true_and, Bool.false_and, Bool.and_true, Bool.and_false, Int.cast_ofNat_Int, Int.reduceEq, Int.reduceLT, Int.reduceLE, Int.reduceNeg, reduceCtorEq, List.cons_append, List.nil_append, eq_of, ne_of, String.reduceEq, $ts,*])
def WP (P : List Str → Prop) (m : Nat) (W : List (List Str)) : Prop := W.Nodup ∧ ∀ w, w ∈ W ↔ P w ∧ w.length ≤ m
def OvA (P : List Str → Prop) : Prop := ∀ w, P w → ∀ x ∈ w, x ∈ abc
def allW : Nat → List (List Str)
  | 0 => [[]]
  | k + 1 => [] :: abc.flatMap fun x => (allW k).map fun w => x :: w
theorem mem_allW : ∀ (k : Nat) (w : List Str), (∀ x ∈ w, x ∈ abc) → w.length ≤ k → w ∈ allW k
  | 0, w, _, h => by
    have : w = [] := List.eq_nil_of_length_eq_zero (Nat.le_zero.mp h)
    rw [this]; exact List.mem_singleton.mpr rfl
  | k + 1, [], _, _ => List.mem_cons_self
  | k + 1, x :: w, h, hl => List.mem_cons_of_mem _ (List.mem_flatMap.mpr ⟨x, h x List.mem_cons_self, List.mem_map.mpr ⟨w, mem_allW k w (fun y hy => h y (List.mem_cons_of_mem _ hy)) (Nat.le_of_succ_le_succ hl), rfl⟩⟩)
theorem len_allW : (allW 4).length = 121 := rfl
theorem abc_good {x : Str} (h : x ∈ abc) : goodS x = true := nm_good (abc_nm x h)
section
variable {P Q : List Str → Prop} {m : Nat} {A B L : List (List Str)}
theorem WP.few (h : WP P m A) (hP : OvA P) (hm : m ≤ 4) : A.length ≤ 121 := by
  rw [← len_allW]
  exact nd_sub_len h.1 fun w hw => mem_allW 4 w (hP w ((h.2 w).mp hw).1) (by have := ((h.2 w).mp hw).2; omega)
theorem WP.good (h : WP P m A) (hP : OvA P) (hm : m ≤ 4) : ∀ w ∈ A, (∀ x ∈ w, goodS x = true) ∧ w.length ≤ 60 := fun w hw =>
  ⟨fun x hx => abc_good (hP w ((h.2 w).mp hw).1 x hx), by have := ((h.2 w).mp hw).2; omega⟩
theorem once_wp (h : ∀ w, w ∈ L ↔ P w ∧ w.length ≤ m) : WP P m (sortW (addL [] L)) :=
  ⟨sortW_nd (addL_nd _ _ List.nodup_nil), fun w => by
    rw [sortW_mem, addL_mem, ← h w]
    simp⟩
def comb (k : Kd) (P Q : List Str → Prop) : List Str → Prop := match k with
  | .seq => fun w => ∃ u v, w = u ++ v ∧ P u ∧ Q v
  | .xor => fun w => P w ∨ Q w
  | .and => fun w => ∃ u v, P u ∧ Q v ∧ Mix u v w
theorem comb_ov {k : Kd} (hP : OvA P) (hQ : OvA Q) : OvA (comb k P Q) := fun w h x hx => by
  cases k with
  | seq =>
    obtain ⟨u, v, e, h1, h2⟩ := h
    rw [e, List.mem_append] at hx
    rcases hx with hx | hx
    · exact hP u h1 x hx
    · exact hQ v h2 x hx
  | xor =>
    rcases h with h | h
    · exact hP w h x hx
    · exact hQ w h x hx
  | and =>
    obtain ⟨u, v, h1, h2, h3⟩ := h
    rcases (mix_mem h3 x).mp hx with hx | hx
    · exact hP u h1 x hx
    · exact hQ v h2 x hx
theorem catW_wp (hA : WP P m A) (hB : WP Q m B) (w : List Str) : w ∈ catW m A B ↔ comb .seq P Q w ∧ w.length ≤ m := by
  rw [mem_catW]
  constructor
  · rintro ⟨u, hu, v, hv, h, rfl⟩
    exact ⟨⟨u, v, rfl, ((hA.2 u).mp hu).1, ((hB.2 v).mp hv).1⟩, by rw [List.length_append]; exact h⟩
  · rintro ⟨⟨u, v, e, h1, h2⟩, h3⟩
    rw [e, List.length_append] at h3
    exact ⟨u, (hA.2 u).mpr ⟨h1, by omega⟩, v, (hB.2 v).mpr ⟨h2, by omega⟩, h3, e⟩
/-! ### side by side -/
variable {g : List D → Dl.R D}
abbrev ew (t : D) (m : Nat) (s2 s3 s4 s5 s6 s7 s8 s9 : Dl.S) : Dl.Env := [.val t, .val (.int (m : Nat)), s2, s3, s4, s5, s6, s7, s8, s9]
theorem and_in {t : D} {s2 s3 s4 s5 s9 : Dl.S} {u : List Str} (hu : ∀ x ∈ u, goodS x = true) (hm : m ≤ 4) (hul : u.length ≤ m) : ∀ (vs : List (List Str)) (X : List (List Str)) (s8 : Dl.S), (∀ v ∈ vs, (∀ x ∈ v, goodS x = true) ∧ u.length + v.length ≤ m) → X.length + 16 * vs.length ≤ 1000000 →
    ∃ (s8' : Dl.S) (Y : List (List Str)), forF (.one 8) (l2__law_words g) (vs.map wD) (ew t m s2 s3 s4 s5 (.val (.lst (X.map wD))) (.val (wD u)) s8 s9) = .next (ew t m s2 s3 s4 s5 (.val (.lst (Y.map wD))) (.val (wD u)) s8' s9) ∧ (∀ w, w ∈ Y ↔ w ∈ X ∨ ∃ v ∈ vs, Mix u v w) ∧ Y.length ≤ X.length + 16 * vs.length
  | [], X, s8, _, _ => ⟨s8, X, rfl, fun w => by simp, by simp⟩
  | v :: vs, X, s8, hv, hz => by
    obtain ⟨v1, v2⟩ := hv v List.mem_cons_self
    rw [List.length_cons] at hz
    obtain ⟨M, q1, q2, q3⟩ := mixed_ok 60 u v (by omega) (by omega) hu v1
    have q4 : M.length ≤ 16 := Nat.le_trans q3 (Nat.le_trans (Nat.pow_le_pow_right (by decide) (show _ ≤ 4 by omega)) (show 2 ^ 4 ≤ 16 by decide))
    have hadd : addD (.lst (X.map wD)) (.lst (M.map wD)) = some (.lst ((X ++ M).map wD)) := by
      rw [addD_lst, if_pos (by rw [List.length_map, List.length_map]; omega), List.map_append]
    obtain ⟨s8', Y, r1, r2, r3⟩ := and_in (t := t) (s2 := s2) (s3 := s3) (s4 := s4) (s5 := s5) (s9 := s9) hu hm hul vs (X ++ M) (.val (wD v)) (fun z hz => hv z (List.mem_cons_of_mem _ hz)) (by rw [List.length_append]; omega)
    refine ⟨s8', Y, ?_, fun w => ?_, by rw [List.length_append] at r3; rw [List.length_cons]; omega⟩
    · have body : l2__law_words g (ew t m s2 s3 s4 s5 (.val (.lst (X.map wD))) (.val (wD u)) (.val (wD v)) s9) = .next (ew t m s2 s3 s4 s5 (.val (.lst ((X ++ M).map wD))) (.val (wD u)) (.val (wD v)) s9) := by
        unfold l2__law_words
        simp_arith [q1, hadd]
      rw [List.map_cons]
      simp only [forF, put_one, List.set_cons_succ, List.set_cons_zero, body, r1]
    · rw [r2, List.mem_append, q2]
      simp [or_assoc]
theorem and_out {t : D} {s2 s3 s5 : Dl.S} (hB : ∀ w ∈ B, (∀ x ∈ w, goodS x = true) ∧ w.length ≤ 60) (zB : B.length ≤ 121) (hm : m ≤ 4) : ∀ (us : List (List Str)) (X : List (List Str)) (s7 s8 s9 : Dl.S), (∀ u ∈ us, (∀ x ∈ u, goodS x = true) ∧ u.length ≤ m) → X.length + 16 * 121 * us.length ≤ 1000000 →
    ∃ (s7' s8' s9' : Dl.S) (Y : List (List Str)), forF (.one 7) (l3__law_words g) (us.map wD) (ew t m s2 s3 (.val (.lst (B.map wD))) s5 (.val (.lst (X.map wD))) s7 s8 s9) = .next (ew t m s2 s3 (.val (.lst (B.map wD))) s5 (.val (.lst (Y.map wD))) s7' s8' s9') ∧ (∀ w, w ∈ Y ↔ w ∈ X ∨ ∃ u ∈ us, ∃ v ∈ B, u.length + v.length ≤ m ∧ Mix u v w) ∧ Y.length ≤ X.length + 16 * 121 * us.length
  | [], X, s7, s8, s9, _, _ => ⟨s7, s8, s9, X, rfl, fun w => by simp, by simp⟩
  | u :: us, X, s7, s8, s9, hu, hz => by
    obtain ⟨u1, u2⟩ := hu u List.mem_cons_self
    rw [List.length_cons] at hz
    have hF : mapF (.one 9) (c1__law_words g) (y2__law_words g) (ew t m s2 s3 (.val (.lst (B.map wD))) s5 (.val (.lst (X.map wD))) (.val (wD u)) s8 .no) (B.map wD) = .ok ((B.filter fun v => decide (u.length + v.length ≤ m)).map wD) := mapF_filter (enc := wD) (g := wD) fun v hv => ⟨_, rfl, by
      unfold c1__law_words
      have e1 : decide ((((stl v).length : Nat) : Int) + (((stl u).length : Nat) : Int) ≤ ((m : Nat) : Int)) = decide (u.length + v.length ≤ m) := decide_eq_decide.mpr (by rw [List.length_map, List.length_map]; omega)
      simp_arith [e1], fun _ => by unfold y2__law_words; simp_arith []⟩
    have hfl := List.length_filter_le (fun v => decide (u.length + v.length ≤ m)) B
    have hfz : ((B.filter fun v => decide (u.length + v.length ≤ m)).map wD).length ≤ 16777216 := by rw [List.length_map]; omega
    obtain ⟨s8', Y1, r1, r2, r3⟩ := and_in (g := g) (t := t) (s2 := s2) (s3 := s3) (s4 := .val (.lst (B.map wD))) (s5 := s5) (s9 := s9) u1 hm u2 (B.filter fun v => decide (u.length + v.length ≤ m)) X s8 (fun v hv => ⟨(hB v (List.mem_filter.mp hv).1).1, by simpa using (List.mem_filter.mp hv).2⟩) (by omega)
    obtain ⟨s7', s8'', s9', Y, k1, k2, k3⟩ := and_out (t := t) (s2 := s2) (s3 := s3) (s5 := s5) hB zB hm us Y1 (.val (wD u)) s8' s9 (fun z hz => hu z (List.mem_cons_of_mem _ hz)) (by omega)
    refine ⟨s7', s8'', s9', Y, ?_, fun w => ?_, by rw [List.length_cons]; omega⟩
    · have body : l3__law_words g (ew t m s2 s3 (.val (.lst (B.map wD))) s5 (.val (.lst (X.map wD))) (.val (wD u)) s8 s9) = .next (ew t m s2 s3 (.val (.lst (B.map wD))) s5 (.val (.lst (Y1.map wD))) (.val (wD u)) s8' s9) := by
        unfold l3__law_words
        simp_arith [hF, hfz, r1]
      rw [List.map_cons]
      simp only [forF, put_one, List.set_cons_succ, List.set_cons_zero, body, k1]
    · rw [k2, r2]
      simp only [List.mem_filter, decide_eq_true_eq, List.mem_cons, exists_eq_or_imp, or_assoc, and_assoc]
end
end K89

set_option Elab.async false
set_option linter.all false
set_option maxRecDepth 100000
set_option maxHeartbeats 2000000
/-! k89: the law's words of any tree. -/
namespace K89
open PySem Dl Sh PySem.W
local macro_rules | `(tactic| simp_arith [$ts,*]) => `(tactic| simp only [ev_bind_ok, ev_bind_exc, ev_bindF_ok, ev_bindF_exc, ev_sNext, ev_sSeq, ev_sIf, ev_sRet, ev_sSet, ev_sOwn, ev_sDrop, ev_sRaise, ev_sFrz, ev_sUnp, ev_sFor, ev_eC, Dl.ev_e1, Dl.ev_e2, ev_eB, ev_eCall, ev_aNil, ev_aCons, ev_eIf, blR_bl, ev_tB1, ev_tAnd, ev_tOr, andK_bl, orK_bl, notK_bl, ev_eAnd, ev_eOr, ev_eNot, ev_tNot, ev_tYes, ev_oNone, ev_oSome, ev_eSl, ev_iSeq, ev_iRng, ev_eN, ev_ofO_some, ev_eV0, ev_eVs, lt_int, le_int, gt_int, ge_int, add_int, sub_int, iadd_int, len_tup, len_lst, eq_int, ne_int, itD_tup, itD_lst, put_one, fz_nil, fz_val, fz_no, fz_own, fz_succ, od_lst, od_lol, od_dk, od_dt, odict_lst, odict_dk, odict_dt, wp_nil, wp_cons, sa_nil, sa_cons, put_all, ev_eTup', ev_eLst', ev_nLst, ev_nLc, ev_eGen', ev_tBor, ev_eBor, ev_sPar, ev_eM, ev_eM0, ev_eCallM, ev_aSnoc, ok_tup, ok_lst, ok_str, ev_tIf, notB_eq, isB_eq, isN_eq, notN_eq, neg_int, tupD_lst, tupD_tup, listD_lst, listD_tup, pure_int, pure_bl, pure_str, pure_non, pureL_int, ev_eIsi, addD_lst, addD_tup, ix_t0, ix_t1, ix_t2, ix_l0, ix_l1, ix_l2, isi_tt, isi_ss, isT_tup, isS_str, List.set_cons_succ, List.set_cons_zero, List.length_cons, List.length_nil, Nat.reduceAdd, Nat.reduceLeDiff, Nat.zero_add, Nat.zero_le, if_true, if_false, Bool.false_eq_true, decide_true, decide_false, Bool.not_true, Bool.not_false, Bool.true_or, Bool.false_or, Bool.or_true, Bool.or_false, Bool.true_and, Bool.false_and, Bool.and_true, Bool.and_false, Int.cast_ofNat_Int, Int.reduceEq, Int.reduceLT, Int.reduceLE, Int.reduceNeg, reduceCtorEq, List.cons_append, List.nil_append, eq_of, ne_of, String.reduceEq, $ts,*])
section
variable {P Q : List Str → Prop} {m : Nat} {A B L : List (List Str)} {g : List D → Dl.R D}
theorem l4_ok {k : Kd} {ts : List Tr} {s2 s5 s6 s7 s8 s9 : Dl.S} (hP : OvA P) (hQ : OvA Q) (hm : m ≤ 4) (hA : WP P m A) (hB : WP Q m B) :
    ∃ (s6' s7' s8' s9' : Dl.S) (C : List (List Str)), l4__law_words g (ew (td (.nd k ts)) m s2 (.val (.lst (A.map wD))) (.val (.lst (B.map wD))) s5 s6 s7 s8 s9) = .next (ew (td (.nd k ts)) m s2 (.val (.lst (C.map wD))) (.val (.lst (B.map wD))) s5 s6' s7' s8' s9') ∧ WP (comb k P Q) m C := by
  have zA := hA.few hP hm
  have zB := hB.few hQ hm
  have gA := hA.good hP hm
  have gB := hB.good hQ hm
  have hd : ixD (td (.nd k ts)) (.int 0) = some (.str (Str.ofString k.nm)) := by simp_arith [td]
  cases k with
  | xor =>
    have ho := once_ok (W := A ++ B) (fun w hw => by
      rcases List.mem_append.mp hw with h | h
      · exact (gA w h).1
      · exact (gB w h).1) (by rw [List.length_append]; omega)
    have hadd : addD (.lst (A.map wD)) (.lst (B.map wD)) = some (.lst ((A ++ B).map wD)) := by
      rw [addD_lst, if_pos (by rw [List.length_map, List.length_map]; omega), List.map_append]
    refine ⟨s6, s7, s8, s9, sortW (addL [] (A ++ B)), ?_, once_wp fun w => ?_⟩
    · unfold l4__law_words
      simp_arith [hd, Kd.nm, hadd, ho]
    · rw [List.mem_append, hA.2, hB.2]
      show _ ↔ (P w ∨ Q w) ∧ _
      constructor
      · rintro (⟨h1, h2⟩ | ⟨h1, h2⟩)
        · exact ⟨.inl h1, h2⟩
        · exact ⟨.inr h1, h2⟩
      · rintro ⟨h1 | h1, h2⟩
        · exact .inl ⟨h1, h2⟩
        · exact .inr ⟨h1, h2⟩
  | seq =>
    have hj := joined_ok (m := m) gA gB (by omega) (by omega)
    refine ⟨s6, s7, s8, s9, sortW (addL [] (catW m A B)), ?_, once_wp (catW_wp hA hB)⟩
    unfold l4__law_words
    simp_arith [hd, Kd.nm, hj]
  | and =>
    obtain ⟨s7', s8', s9', Y, h1, h2, h3⟩ := and_out (g := g) (t := td (.nd .and ts)) (s2 := s2) (s3 := .val (.lst (A.map wD))) (s5 := s5) gB zB hm A [] s7 s8 s9 (fun u hu => ⟨(gA u hu).1, ((hA.2 u).mp hu).2⟩) (by simp; omega)
    rw [List.length_nil] at h3
    have hmem : ∀ w, w ∈ Y ↔ comb .and P Q w ∧ w.length ≤ m := fun w => by
      rw [h2]
      constructor
      · rintro (h | ⟨u, hu, v, hv, hl, hx⟩)
        · cases h
        · exact ⟨⟨u, v, ((hA.2 u).mp hu).1, ((hB.2 v).mp hv).1, hx⟩, by rw [mix_len hx]; exact hl⟩
      · rintro ⟨⟨u, v, q1, q2, q3⟩, hl⟩
        rw [mix_len q3] at hl
        exact .inr ⟨u, (hA.2 u).mpr ⟨q1, by omega⟩, v, (hB.2 v).mpr ⟨q2, by omega⟩, hl, q3⟩
    have ho := once_ok (W := Y) (fun w hw => fun x hx => abc_good (comb_ov (k := .and) hP hQ w ((hmem w).mp hw).1 x hx)) (by omega)
    refine ⟨.val (.lst (Y.map wD)), s7', s8', s9', sortW (addL [] Y), ?_, once_wp hmem⟩
    rw [List.map_nil] at h1
    unfold l4__law_words
    simp_arith [hd, Kd.nm, h1, ho]
/-- the words of the parts put together -/
def LK (k : Kd) (ts : List Tr) : List Str → Prop := Lang (.nd k ts)
theorem LK_snoc {k : Kd} {ts : List Tr} {t : Tr} {w : List Str} : LK k (ts ++ [t]) w ↔ comb k (LK k ts) (Lang t) w := by
  cases k with
  | seq =>
    show LSeq (ts ++ [t]) w ↔ ∃ u v, w = u ++ v ∧ LSeq ts u ∧ Lang t v
    rw [lseq_app]
    simp only [lseq_one]
  | xor =>
    show LXor (ts ++ [t]) w ↔ LXor ts w ∨ Lang t w
    rw [lxor_iff, lxor_iff]
    simp only [List.mem_append, List.mem_singleton]
    constructor
    · rintro ⟨s, h1 | rfl, h2⟩
      · exact .inl ⟨s, h1, h2⟩
      · exact .inr h2
    · rintro (⟨s, h1, h2⟩ | h)
      · exact ⟨s, .inl h1, h2⟩
      · exact ⟨t, .inr rfl, h⟩
  | and =>
    show LAnd (ts ++ [t]) w ↔ ∃ u v, LAnd ts u ∧ Lang t v ∧ Mix u v w
    rw [land_app]
    simp only [land_one]
theorem LK_one {k : Kd} {t : Tr} {w : List Str} : LK k [t] w ↔ Lang t w := by
  cases k with
  | seq => exact lseq_one
  | xor => exact ⟨fun h => h.elim id False.elim, .inl⟩
  | and => exact land_one
theorem WP.congr {P' : List Str → Prop} (h : WP P m A) (e : ∀ w, P w ↔ P' w) : WP P' m A := ⟨h.1, fun w => by rw [h.2, e]⟩
theorem nd_run {k : Kd} {ts0 : List Tr} {s2 : Dl.S} (hm : m ≤ 4) {f : Tr → List (List Str)} (ha : ∀ t ∈ ts0, OvA (Lang t)) (hf : ∀ t ∈ ts0, WP (Lang t) m (f t)) : ∀ (ts done : List Tr) (A : List (List Str)) (s4 s5 s6 s7 s8 s9 : Dl.S), (∀ t ∈ ts, t ∈ ts0) → OvA (LK k done) → WP (LK k done) m A →
    ∃ (s4' s5' s6' s7' s8' s9' : Dl.S) (C : List (List Str)), forF (.one 4) (l4__law_words g) (ts.map fun t => .lst ((f t).map wD)) (ew (td (.nd k ts0)) m s2 (.val (.lst (A.map wD))) s4 s5 s6 s7 s8 s9) = .next (ew (td (.nd k ts0)) m s2 (.val (.lst (C.map wD))) s4' s5' s6' s7' s8' s9') ∧ WP (LK k (done ++ ts)) m C
  | [], done, A, s4, s5, s6, s7, s8, s9, _, _, hA => ⟨s4, s5, s6, s7, s8, s9, A, rfl, by rw [List.append_nil]; exact hA⟩
  | t :: ts, done, A, s4, s5, s6, s7, s8, s9, hs, hP, hA => by
    have ht0 := hs t List.mem_cons_self
    obtain ⟨s6', s7', s8', s9', C, h1, h2⟩ := l4_ok (g := g) (k := k) (ts := ts0) (s2 := s2) (s5 := s5) (s6 := s6) (s7 := s7) (s8 := s8) (s9 := s9) hP (ha t ht0) hm hA (hf t ht0)
    have hP2 : OvA (LK k (done ++ [t])) := fun w hw => comb_ov hP (ha t ht0) w (LK_snoc.mp hw)
    have hC : WP (LK k (done ++ [t])) m C := h2.congr fun w => LK_snoc.symm
    obtain ⟨t4, t5, t6, t7, t8, t9, C', h3, h4⟩ := nd_run hm ha hf ts (done ++ [t]) C (.val (.lst ((f t).map wD))) s5 s6' s7' s8' s9' (fun z hz => hs z (List.mem_cons_of_mem _ hz)) hP2 hC
    refine ⟨t4, t5, t6, t7, t8, t9, C', ?_, by rw [List.append_assoc] at h4; exact h4⟩
    rw [List.map_cons]
    simp only [forF, put_one, List.set_cons_succ, List.set_cons_zero, h1]; exact h3
/-! ### loops -/
theorem pw_ov {P Q : List Str → Prop} (hP : OvA P) (hQ : OvA Q) : ∀ k, OvA (Pw P Q k)
  | 0 => hP
  | k + 1 => fun w h x hx => by
    rcases h with h | ⟨u, v, z, e, h1, h2, h3⟩
    · exact pw_ov hP hQ k w h x hx
    · rw [e, List.mem_append, List.mem_append] at hx
      rcases hx with hx | hx | hx
      · exact pw_ov hP hQ k u h1 x hx
      · exact hQ v h2 x hx
      · exact hP z h3 x hx
theorem lp_body {d : D} {s4 s5 s6 s7 s8 s9 : Dl.S} {k : Nat} {F : List (List Str)} (hP : OvA P) (hQ : OvA Q) (hm : m ≤ 4) (hA : WP P m A) (hB : WP Q m B) (hF : WP (Pw P Q k) m F) :
    ∃ C : List (List Str), l1__law_words g (ew d m (.val (.lst [.lst (A.map wD), .lst (B.map wD)])) (.val (.lst (F.map wD))) s4 s5 s6 s7 s8 s9) = .next (ew d m (.val (.lst [.lst (A.map wD), .lst (B.map wD)])) (.val (.lst (C.map wD))) s4 s5 s6 s7 s8 s9) ∧ WP (Pw P Q (k + 1)) m C := by
  have hPk := pw_ov hP hQ k
  have zF := hF.few hPk hm
  have hj := joined_ok (m := m) (hF.good hPk hm) (hB.good hQ hm) (by omega) (by have := hB.few hQ hm; omega)
  have w1 := once_wp (catW_wp hF hB)
  have ov1 : OvA (comb .seq (Pw P Q k) Q) := comb_ov hPk hQ
  generalize sortW (addL [] (catW m F B)) = J at hj w1
  have hj2 := joined_ok (m := m) (w1.good ov1 hm) (hA.good hP hm) (by have := w1.few ov1 hm; omega) (by have := hA.few hP hm; omega)
  have w2 := once_wp (catW_wp w1 hA)
  have ov2 : OvA (comb .seq (comb .seq (Pw P Q k) Q) P) := comb_ov ov1 hP
  generalize sortW (addL [] (catW m J A)) = J2 at hj2 w2
  have zJ := w2.few ov2 hm
  have hadd : addD (.lst (F.map wD)) (.lst (J2.map wD)) = some (.lst ((F ++ J2).map wD)) := by
    rw [addD_lst, if_pos (by rw [List.length_map, List.length_map]; omega), List.map_append]
  have ho := once_ok (W := F ++ J2) (fun w hw => by
    rcases List.mem_append.mp hw with h | h
    · exact (hF.good hPk hm w h).1
    · exact (w2.good ov2 hm w h).1) (by rw [List.length_append]; omega)
  refine ⟨sortW (addL [] (F ++ J2)), by
    unfold l1__law_words
    simp_arith [hj, hj2, hadd, ho], once_wp fun w => ?_⟩
  rw [List.mem_append, hF.2, w2.2]
  show _ ↔ (Pw P Q k w ∨ ∃ u v x, w = u ++ (v ++ x) ∧ Pw P Q k u ∧ Q v ∧ P x) ∧ _
  constructor
  · rintro (⟨h1, h2⟩ | ⟨⟨u, x, e, ⟨u', v, e', h3, h4⟩, h5⟩, h2⟩)
    · exact ⟨.inl h1, h2⟩
    · exact ⟨.inr ⟨u', v, x, by rw [e, e', List.append_assoc], h3, h4, h5⟩, h2⟩
  · rintro ⟨h1 | ⟨u, v, x, e, h3, h4, h5⟩, h2⟩
    · exact .inl ⟨h1, h2⟩
    · exact .inr ⟨⟨u ++ v, x, by rw [e, List.append_assoc], ⟨u, v, rfl, h3, h4⟩, h5⟩, h2⟩
theorem lp_loop {d : D} {s4 s6 s7 s8 s9 : Dl.S} (hP : OvA P) (hQ : OvA Q) (hm : m ≤ 4) (hA : WP P m A) (hB : WP Q m B) : ∀ (ks : List Nat) (k : Nat) (F : List (List Str)) (s5 : Dl.S), WP (Pw P Q k) m F →
    ∃ (s5' : Dl.S) (C : List (List Str)), forF (.one 5) (l1__law_words g) (ks.map fun k : Nat => D.int (k : Int)) (ew d m (.val (.lst [.lst (A.map wD), .lst (B.map wD)])) (.val (.lst (F.map wD))) s4 s5 s6 s7 s8 s9) = .next (ew d m (.val (.lst [.lst (A.map wD), .lst (B.map wD)])) (.val (.lst (C.map wD))) s4 s5' s6 s7 s8 s9) ∧ WP (Pw P Q (k + ks.length)) m C
  | [], k, F, s5, hF => ⟨s5, F, rfl, hF⟩
  | z :: ks, k, F, s5, hF => by
    obtain ⟨C, h1, h2⟩ := lp_body (g := g) (d := d) (s4 := s4) (s5 := .val (.int (z : Nat))) (s6 := s6) (s7 := s7) (s8 := s8) (s9 := s9) hP hQ hm hA hB hF
    obtain ⟨s5', C', h3, h4⟩ := lp_loop hP hQ hm hA hB ks (k + 1) C (.val (.int (z : Nat))) h2
    refine ⟨s5', C', ?_, ?_⟩
    · rw [List.map_cons]
      simp only [forF, put_one, List.set_cons_succ, List.set_cons_zero, h1]; exact h3
    · rw [List.length_cons, show k + (ks.length + 1) = k + 1 + ks.length by omega]; exact h4
end
def AbcT (t : Tr) : Prop := ∀ x, some x ∈ lv t → x ∈ abc
theorem AbcT.ov {t : Tr} (h : AbcT t) : OvA (Lang t) := fun w hw x hx => h x (lang_lv t w hw x hx)
theorem lvs_mem {t : Tr} {x : Option Str} : ∀ {ts : List Tr}, t ∈ ts → x ∈ lv t → x ∈ lvs ts
  | s :: ts, h, hx => by
    rw [lvs, List.mem_append]
    rcases List.mem_cons.mp h with rfl | h
    · exact .inl hx
    · exact .inr (lvs_mem h hx)
theorem pickW {P : Tr → List (List Str) → Prop} {ts : List Tr} (h : ∀ t ∈ ts, ∃ l, P t l) : ∃ f : Tr → List (List Str), ∀ t ∈ ts, P t (f t) := by
  classical
  refine ⟨fun t => if q : ∃ l, P t l then q.choose else [], fun t ht' => ?_⟩
  have q := h t ht'
  simp only [dif_pos q]
  exact q.choose_spec
theorem lwords_ok {m : Nat} (hm : m ≤ 4) : ∀ (n : Nat) (t : Tr), ht t < n → gn t → kp t ≤ 1000 → AbcT t → ∃ W, m__law_words n [td t, .int (m : Nat)] = .ok (.lst (W.map wD)) ∧ WP (Lang t) m W
  | 0, t, h, _, _, _ => absurd h (Nat.not_lt_zero _)
  | n + 1, t, h, hg, hk, ha => by
    have hi : ∀ d : D, initE 10 [d, .int (m : Nat)] = [.val d, .val (.int (m : Nat)), .no, .no, .no, .no, .no, .no, .no, .no] := fun _ => rfl
    show ∃ W, runF 10 (b__law_words (m__law_words n)) [td t, .int (m : Nat)] = _ ∧ _
    rw [runF, hi, b__law_words]
    cases t with
    | sk =>
      refine ⟨[[]], ?_, by simp, fun w => ?_⟩
      · simp_arith [td]; rfl
      · rw [List.mem_singleton]
        show _ ↔ w = [] ∧ _
        exact ⟨fun e => ⟨e, by rw [e]; exact Nat.zero_le _⟩, fun e => e.1⟩
    | act x =>
      by_cases h0 : 0 < m
      · have h0' : (0 : Int) < ((m : Nat) : Int) := by omega
        refine ⟨[[x]], ?_, by simp, fun w => ?_⟩
        · simp_arith [td, h0']; rfl
        · rw [List.mem_singleton]
          show _ ↔ w = [x] ∧ _
          exact ⟨fun e => ⟨e, by rw [e]; exact h0⟩, fun e => e.1⟩
      · have h0' : ¬ (0 : Int) < ((m : Nat) : Int) := by omega
        refine ⟨[], ?_, by simp, fun w => ?_⟩
        · simp_arith [td, h0']; rfl
        · show _ ↔ w = [x] ∧ _
          refine ⟨fun e => (by cases e), fun ⟨e, hl⟩ => ?_⟩
          rw [e] at hl
          exact absurd hl h0
    | nd k ts =>
      have hts := lt_of_hts (ts := ts) h
      have haa : ∀ t ∈ ts, AbcT t := fun t ht' x hx => ha x (lvs_mem ht' hx)
      obtain ⟨f, hf⟩ := pickW fun t ht' => lwords_ok hm n t (hts t ht') (gns_iff.mp hg.2 t ht') (Nat.le_trans (kp_mem ht') hk) (haa t ht')
      have hlen := len_kps hg.2
      have hk' : kps ts ≤ 1000 := hk
      have hmp : mapF (.one 4) tYesD (y1__law_words (m__law_words n)) [.val (td (.nd k ts)), .val (.int (m : Nat)), .no, .no, .no, .no, .no, .no, .no, .no] (tds ts) = .ok (ts.map fun t => D.lst ((f t).map wD)) := by
        rw [tds_map]
        exact mapF_enc fun t ht' => ⟨_, rfl, rfl, by
          have := (hf t ht').1
          unfold y1__law_words
          simp_arith [this]⟩
      have e1 : ¬ k.nm = "do" := by cases k <;> decide
      have e2 : ¬ k.nm = "skip" := by cases k <;> decide
      have e3 : ¬ k.nm = "loop" := by cases k <;> decide
      match ts, hg, hts, haa, hf, hlen, hk', hmp with
      | [], hg, _, _, _, _, _, _ => exact absurd rfl hg.1
      | t :: ts, hg, hts, haa, hf, hlen, hk', hmp =>
        have ha1 := (haa t List.mem_cons_self).ov
        obtain ⟨s4, s5, s6, s7, s8, s9, C, h1, h2⟩ := nd_run (g := m__law_words n) (k := k) (ts0 := t :: ts) (s2 := .val (.lst ((t :: ts).map fun t => D.lst ((f t).map wD)))) hm (fun z hz => (haa z hz).ov) (fun z hz => (hf z hz).2) ts [t] (f t) .no .no .no .no .no .no (fun z hz => List.mem_cons_of_mem _ hz) (fun w hw => ha1 w (LK_one.mp hw)) ((hf t List.mem_cons_self).2.congr fun w => LK_one.symm)
        refine ⟨C, ?_, h2⟩
        have z1 : ((t :: ts).map fun t => D.lst ((f t).map wD)).length ≤ 16777216 := by rw [List.length_map]; omega
        have x0 : ixD (.lst ((t :: ts).map fun t => D.lst ((f t).map wD))) (.int 0) = some (.lst ((f t).map wD)) := by rw [List.map_cons]; exact ix_l0 _ _
        have x1 : slD (.lst ((t :: ts).map fun t => D.lst ((f t).map wD))) (some 1) none = some (.lst (ts.map fun t => D.lst ((f t).map wD))) := by rw [List.map_cons]; exact slF_lst _ 1
        generalize ((t :: ts).map fun t => D.lst ((f t).map wD)) = PS at hmp h1 z1 x0 x1
        have hd : ixD (td (.nd k (t :: ts))) (.int 0) = some (.str (Str.ofString k.nm)) := by simp_arith [td]
        have hc : slD (td (.nd k (t :: ts))) (some 1) none = some (.tup (tds (t :: ts))) := cut1t
        simp_arith [hd, hc, e1, e2, e3, hmp, z1, x0, x1, h1]
    | lp a b =>
      have k1 : kp (.lp a b) = kp a + kp b := rfl
      have k0 : ht (.lp a b) = max (ht a) (ht b) + 1 := rfl
      have haa : AbcT a := fun x hx => ha x (by rw [lv, List.mem_append]; exact .inl hx)
      have hab : AbcT b := fun x hx => ha x (by rw [lv, List.mem_append]; exact .inr hx)
      obtain ⟨A, a1, a2⟩ := lwords_ok hm n a (by omega) hg.1 (by omega) haa
      obtain ⟨B, b1, b2⟩ := lwords_ok hm n b (by omega) hg.2 (by omega) hab
      have hmp : mapF (.one 4) tYesD (y1__law_words (m__law_words n)) [.val (td (.lp a b)), .val (.int (m : Nat)), .no, .no, .no, .no, .no, .no, .no, .no] [td a, td b] = .ok [.lst (A.map wD), .lst (B.map wD)] := by
        have e : ∀ d r, m__law_words n [d, .int (m : Nat)] = .ok r → y1__law_words (m__law_words n) [.val (td (.lp a b)), .val (.int (m : Nat)), .no, .no, .val d, .no, .no, .no, .no, .no] = .ok r := fun d r q => by
          unfold y1__law_words
          simp_arith [q]
        simp only [mapF, put_one, List.set_cons_succ, List.set_cons_zero, ev_tYes, e _ _ a1, e _ _ b1, ev_bind_ok]
      have hr : rngD [.int (((m : Nat) : Int) + 1)] = some ((List.range (m + 1)).map fun k : Nat => D.int (k : Int)) := rng1 (m + 1) (by omega)
      obtain ⟨s5, C, h1, h2⟩ := lp_loop (g := m__law_words n) (d := td (.lp a b)) (s4 := .no) (s6 := .no) (s7 := .no) (s8 := .no) (s9 := .no) haa.ov hab.ov hm a2 b2 (List.range (m + 1)) 0 A .no a2
      rw [List.length_range, Nat.zero_add] at h2
      refine ⟨C, ?_, h2.1, fun w => ?_⟩
      · have hd : ixD (td (.lp a b)) (.int 0) = some (.str (Str.ofString "loop")) := by simp_arith [td]
        have hc : slD (td (.lp a b)) (some 1) none = some (.tup [td a, td b]) := cut1t
        simp_arith [hd, hc, hmp, hr, h1]
      · rw [h2.2]
        show _ ↔ Star (Lang a) (Lang b) w ∧ _
        exact ⟨fun ⟨q1, q2⟩ => ⟨pw_star _ _ q1, q2⟩, fun ⟨q1, q2⟩ => ⟨star_pwl q1 (by omega), q2⟩⟩
end K89

set_option Elab.async false
set_option linter.all false
set_option maxRecDepth 100000
set_option maxHeartbeats 2000000
/-! k89: words in order of length. -/
namespace K89
open PySem Dl Sh PySem.W
open PySem.SeqAt (firstLt firstLt_yes firstLt_no pairEq)
local macro_rules | `(tactic| simp_arith [$ts,*]) => `(tactic| simp only [ev_bind_ok, ev_bind_exc, ev_bindF_ok, ev_bindF_exc, ev_sNext, ev_sSeq, ev_sIf, ev_sRet, ev_sSet, ev_sOwn, ev_sDrop, ev_sRaise, ev_sFrz, ev_sUnp, ev_sFor, ev_eC, Dl.ev_e1, Dl.ev_e2, ev_eB, ev_eCall, ev_aNil, ev_aCons, ev_eIf, blR_bl, ev_tB1, ev_tAnd, ev_tOr, andK_bl, orK_bl, notK_bl, ev_eAnd, ev_eOr, ev_eNot, ev_tNot, ev_tYes, ev_oNone, ev_oSome, ev_eSl, ev_iSeq, ev_iRng, ev_eN, ev_ofO_some, ev_eV0, ev_eVs, lt_int, le_int, gt_int, ge_int, add_int, sub_int, iadd_int, len_tup, len_lst, eq_int, ne_int, itD_tup, itD_lst, put_one, fz_nil, fz_val, fz_no, fz_own, fz_succ, od_lst, od_lol, od_dk, od_dt, odict_lst, odict_dk, odict_dt, wp_nil, wp_cons, sa_nil, sa_cons, put_all, ev_eTup', ev_eLst', ev_nLst, ev_nLc, ev_eGen', ev_tBor, ev_eBor, ev_sPar, ev_eM, ev_eM0, ev_eCallM, ev_aSnoc, ok_tup, ok_lst, ok_str, ev_tIf, notB_eq, isB_eq, isN_eq, notN_eq, neg_int, tupD_lst, tupD_tup, listD_lst, listD_tup, pure_int, pure_bl, pure_str, pure_non, pureL_int, ev_eIsi, addD_lst, addD_tup, ix_t0, ix_t1, ix_t2, ix_l0, ix_l1, ix_l2, isi_tt, isi_ss, isT_tup, isS_str, List.set_cons_succ, List.set_cons_zero, List.length_cons, List.length_nil, Nat.reduceAdd, Nat.reduceLeDiff, Nat.zero_add, Nat.zero_le, if_true, if_false, Bool.false_eq_true, decide_true, decide_false, Bool.not_true, Bool.not_false, Bool.true_or, Bool.false_or, Bool.or_true, Bool.or_false, Bool.true_and, Bool.false_and, Bool.and_true, Bool.and_false, Int.cast_ofNat_Int, Int.reduceEq, Int.reduceLT, Int.reduceLE, Int.reduceNeg, reduceCtorEq, List.cons_append, List.nil_append, eq_of, ne_of, String.reduceEq, $ts,*])
abbrev pW (w : List Str) : D := .tup [.int (w.length : Nat), wD w]
theorem pW_inj : ∀ a b : List Str, pW a = pW b → a = b := fun a b h => by
  injection h with h
  injection h with _ h
  injection h with h _
  exact wD_inj _ _ h
theorem gd_pW {w : List Str} (h : ∀ x ∈ w, goodS x = true) : (pW w).gd 2 := gd_tup fun x hx => by
  rcases List.mem_cons.mp hx with rfl | hx
  · exact gd_int _
  · rw [List.mem_singleton] at hx; subst hx
    exact gd_wD h
theorem alk_pW (a b : List Str) : alkD (pW a) (pW b) = true := by
  show alike (.tuple (D.pys [.int (a.length : Nat), wD a])) (.tuple (D.pys [.int (b.length : Nat), wD b])) = true
  have h := alk_wD a b
  have h : alike (wD a).py (wD b).py = true := h
  rw [alike, D.pys, D.pys, D.pys, D.pys, D.pys, D.pys, alikeAll, alikeAll, h]
  simp [alikeAll, alike, D.py]
theorem lt_pW (a b : List Str) : dataLt (pW a).py (pW b).py = if a.length = b.length then (if a = b then false else dataLt (wD a).py (wD b).py) else decide (a.length < b.length) := by
  have h := alk_pW a b
  have h : alike (pW a).py (pW b).py = true := h
  rw [show (pW a).py = .tuple [.int (a.length : Nat), (wD a).py] by rw [D.py, D.pys, D.pys, D.pys, D.py], show (pW b).py = .tuple [.int (b.length : Nat), (wD b).py] by rw [D.py, D.pys, D.pys, D.pys, D.py]] at *
  have h : alikeAll [.int (a.length : Nat), (wD a).py] [.int (b.length : Nat), (wD b).py] = true := by simpa [alike] using h
  rw [dataLt_tuple, ← firstLt_toks _ _ h]
  show firstLt _ _ _ [0, 1] = _
  have p0 : pairEq [.int (a.length : Nat), (wD a).py] [.int (b.length : Nat), (wD b).py] 0 = decide (a.length = b.length) := by
    show PyData.eqv (.int (a.length : Nat)) (.int (b.length : Nat)) = _
    rw [PyData.eqv]
    exact decide_eq_decide.mpr (by omega)
  have p1 : pairEq [.int (a.length : Nat), (wD a).py] [.int (b.length : Nat), (wD b).py] 1 = decide (a = b) := by
    show PyData.eqv (wD a).py (wD b).py = _
    have := eqv_nb (wD a) (wD b) (nb_wD a) (nb_wD b)
    rw [Bool.eq_iff_iff, this, decide_eq_true_eq]
    exact ⟨wD_inj a b, fun h => by rw [h]⟩
  by_cases e : a.length = b.length
  · rw [if_pos e, firstLt_yes (by rw [p0]; exact decide_eq_true e)]
    by_cases e2 : a = b
    · rw [if_pos e2, firstLt_yes (by rw [p1]; exact decide_eq_true e2)]
      rfl
    · rw [if_neg e2, firstLt_no (by rw [p1]; exact decide_eq_false e2)]
      rfl
  · rw [if_neg e, firstLt_no (by rw [p0]; exact decide_eq_false e)]
    show dataLt (.int (a.length : Nat)) (.int (b.length : Nat)) = _
    rw [dataLt_int]
    exact decide_eq_decide.mpr (by omega)
def leP (a b : List Str) : Bool := leqD (pW a) (pW b)
theorem leP_anti {a b : List Str} (h1 : leP a b = true) (h2 : leP b a = true) : a = b := by
  have h := anti_le D.py _ _ h1 h2
  have nb : ∀ w, (pW w).nb = true := fun w => by
    show D.nb (.tup _) = true
    rw [D.nb, D.nbs, D.nbs, D.nbs, nb_wD]; rfl
  exact pW_inj _ _ ((eqv_nb _ _ (nb a) (nb b)).mp (toks_inj (alk_pW a b) h))
theorem leP_of {a b : List Str} (h : a.length < b.length ∨ (a.length = b.length ∧ leW a b = true)) : leP a b = true := by
  show (!dataLt (pW b).py (pW a).py) = true
  rw [lt_pW]
  rcases h with h | ⟨h1, h2⟩
  · rw [if_neg (by omega), decide_eq_false (by omega)]; rfl
  · rw [if_pos h1.symm]
    split
    · rfl
    · exact h2
def sortP (l : List (List Str)) : List (List Str) := l.mergeSort leP
theorem sortP_map (l : List (List Str)) : sortD (l.map pW) = (sortP l).map pW := (merge_map pW leqD l).symm
theorem sortP_perm (l : List (List Str)) : (sortP l).Perm l := List.mergeSort_perm l _
theorem sortP_pw (l : List (List Str)) : (sortP l).Pairwise fun x y => leP x y = true := srt_pw (fun x => (pW x).py) l
theorem sortP_eq {l m : List (List Str)} (p : l.Perm m) (h : m.Pairwise fun x y => leP x y = true) : sortP l = m :=
  pw_uniq ((sortP_perm l).trans p) (sortP_pw l) h fun a _ b _ h1 h2 => leP_anti h1 h2
theorem sortp_ok {l : List (List Str)} (h : ∀ w ∈ l, ∀ x ∈ w, goodS x = true) : sortGD [.lst (l.map pW)] = some (.lst ((sortP l).map pW)) := by
  show sortGL (l.map pW) = _
  unfold sortGL
  rw [if_pos, sortP_map]
  refine srtG_tp ?_
  unfold srtTp
  rw [Bool.and_eq_true, Bool.and_eq_true]
  refine ⟨⟨List.all_eq_true.mpr fun d hd => ?_, List.all_eq_true.mpr fun d hd => List.all_eq_true.mpr fun e he => ?_⟩, List.all_eq_true.mpr fun d hd => ?_⟩
  · obtain ⟨a, ha, rfl⟩ := List.mem_map.mp hd
    exact gd_sh (gd_pW (h a ha))
  · obtain ⟨a, _, rfl⟩ := List.mem_map.mp hd
    obtain ⟨b, _, rfl⟩ := List.mem_map.mp he
    exact alk_pW a b
  · obtain ⟨a, _, rfl⟩ := List.mem_map.mp hd
    rfl
end K89

set_option Elab.async false
set_option linter.all false
set_option maxRecDepth 100000
set_option maxHeartbeats 2000000
/-! k89: deed by deed. -/
namespace K89
open PySem Dl Sh
local macro_rules | `(tactic| simp_arith [$ts,*]) => `(tactic| simp only [ev_bind_ok, ev_bind_exc, ev_bindF_ok, ev_bindF_exc, ev_sNext, ev_sSeq, ev_sIf, ev_sRet, ev_sSet, ev_sOwn, ev_sDrop, ev_sRaise, ev_sFrz, ev_sUnp, ev_sFor, ev_eC, Dl.ev_e1, Dl.ev_e2, ev_eB, ev_eCall, ev_aNil, ev_aCons, ev_eIf, blR_bl, ev_tB1, ev_tAnd, ev_tOr, andK_bl, orK_bl, notK_bl, ev_eAnd, ev_eOr, ev_eNot, ev_tNot, ev_tYes, ev_oNone, ev_oSome, ev_eSl, ev_iSeq, ev_iRng, ev_eN, ev_ofO_some, ev_eV0, ev_eVs, lt_int, le_int, gt_int, ge_int, add_int, sub_int, iadd_int, len_tup, len_lst, eq_int, ne_int, itD_tup, itD_lst, put_one, fz_nil, fz_val, fz_no, fz_own, fz_succ, od_lst, od_lol, od_dk, od_dt, odict_lst, odict_dk, odict_dt, wp_nil, wp_cons, sa_nil, sa_cons, put_all, ev_eTup', ev_eLst', ev_nLst, ev_nLc, ev_eGen', ev_tBor, ev_eBor, ev_sPar, ev_eM, ev_eM0, ev_eCallM, ev_aSnoc, ok_tup, ok_lst, ok_str, ev_tIf, notB_eq, isB_eq, isN_eq, notN_eq, neg_int, tupD_lst, tupD_tup, listD_lst, listD_tup, pure_int, pure_bl, pure_str, pure_non, pureL_int, ev_eIsi, addD_lst, addD_tup, ix_t0, ix_t1, ix_t2, ix_l0, ix_l1, ix_l2, isi_tt, isi_ss, isT_tup, isS_str, List.set_cons_succ, List.set_cons_zero, List.length_cons, List.length_nil, Nat.reduceAdd, Nat.reduceLeDiff, Nat.zero_add, Nat.zero_le, if_true, if_false, Bool.false_eq_true, decide_true, decide_false, Bool.not_true, Bool.not_false, Bool.true_or, Bool.false_or, Bool.or_true, Bool.or_false, Bool.true_and, Bool.false_and, Bool.and_true, Bool.and_false, Int.cast_ofNat_Int, Int.reduceEq, Int.reduceLT, Int.reduceLE, Int.reduceNeg, reduceCtorEq, List.cons_append, List.nil_append, eq_of, ne_of, String.reduceEq, $ts,*])
def BB : Nat → Nat
  | 0 => 1
  | k + 1 => BB k * (18 + 18 * k)
theorem BB_le : ∀ k, k ≤ 4 → BB k ≤ 2519424
  | 0, _ => by decide
  | 1, _ => by decide
  | 2, _ => by decide
  | 3, _ => by decide
  | 4, _ => by decide
structure St (t : Tr) (w : List Str) (L : List Tr) : Prop where
  lang : ∀ v, (∃ s ∈ L, Lang s v) ↔ Lang t (w ++ v)
  sz : ∀ s ∈ L, gn s ∧ kp s ≤ 18 + 18 * w.length ∧ lm s ≤ 18 ∧ ht s ≤ 3 + 3 * w.length
  few : L.length ≤ BB w.length
theorem St.start {t : Tr} (h : LT 3 t) : St t [] [t] :=
  ⟨fun v => by simp, fun s hs => by
    rw [List.mem_singleton] at hs; subst hs
    exact ⟨gw_gn _ h.w, h.k, h.m, h.h⟩, Nat.le_refl _⟩
theorem kps_bound {N : Nat} : ∀ {L : List Tr}, (∀ s ∈ L, kp s ≤ N) → kps L ≤ L.length * N
  | [], _ => Nat.zero_le _
  | s :: L, h => by
    have h1 := h s List.mem_cons_self
    have h2 := kps_bound fun s hs => h s (List.mem_cons_of_mem _ hs)
    rw [kps, List.length_cons, Nat.succ_mul]
    omega
theorem St.step {t : Tr} {w : List Str} {L : List Tr} {x : Str} (st : St t w L) (hw : w.length ≤ 3) (hx : goodS x = true) :
    ∃ f : Tr → List Tr, (∀ s ∈ L, m_rests 60 [td s, .str x] = .ok (.lst ((f s).map td))) ∧ ((L.flatMap f).map td).length ≤ 16777216 ∧ ∃ L', m_without_twins [.lst ((L.flatMap f).map td)] = .ok (.lst (L'.map td)) ∧ St t (w ++ [x]) L' := by
  obtain ⟨f, hf⟩ := pick fun s hs => rests_ev hx 60 s ⟨(st.sz s hs).1, by have := (st.sz s hs).2.2.2; omega, by have := st.sz s hs; omega⟩ (by have := (st.sz s hs).2.2.2; omega)
  have hl := len_flatMap (f := f) (ts := L) fun s hs => (hf s hs).2.len
  have hk := kps_bound (N := 18 + 18 * w.length) (L := L) fun s hs => (st.sz s hs).2.1
  have hb := st.few
  have hb2 := BB_le (w.length + 1) (by omega)
  have hm : L.length * (18 + 18 * w.length) ≤ BB w.length * (18 + 18 * w.length) := Nat.mul_le_mul_right _ hb
  have hbe : BB (w.length + 1) = BB w.length * (18 + 18 * w.length) := rfl
  have hmem : ∀ s' ∈ L.flatMap f, gn s' ∧ kp s' ≤ 18 + 18 * (w.length + 1) ∧ lm s' ≤ 18 ∧ ht s' ≤ 3 + 3 * (w.length + 1) := fun s' hs' => by
    obtain ⟨s, h1, h2⟩ := List.mem_flatMap.mp hs'
    obtain ⟨a1, a2, a3, a4⟩ := st.sz s h1
    obtain ⟨m1, m2, m3, m4⟩ := (hf s h1).2.mem s' h2
    exact ⟨m4, by omega, by omega, by omega⟩
  obtain ⟨L', h5, h6, h7⟩ := twins_tr (l := L.flatMap f) (fun s hs => ⟨(hmem s hs).1, by have := (hmem s hs).2.2.2; omega⟩) (by omega)
  refine ⟨f, fun s hs => (hf s hs).1, by rw [List.length_map]; omega, L', h5, fun v => ?_, fun s hs => ?_, ?_⟩
  · rw [List.append_assoc, List.singleton_append, ← st.lang]
    constructor
    · rintro ⟨s', h1, h2⟩
      obtain ⟨s, h3, h4⟩ := List.mem_flatMap.mp ((h6 s').mp h1)
      exact ⟨s, h3, ((hf s h3).2.lang v).mp ⟨s', h4, h2⟩⟩
    · rintro ⟨s, h1, h2⟩
      obtain ⟨s', h3, h4⟩ := ((hf s h1).2.lang v).mpr h2
      exact ⟨s', (h6 s').mpr (List.mem_flatMap.mpr ⟨s, h1, h3⟩), h4⟩
  · rw [List.length_append, List.length_singleton]
    exact hmem s ((h6 s).mp hs)
  · rw [List.length_append, List.length_singleton, hbe]
    omega
theorem names_chk {w : List Str} (h : ∀ x ∈ w, nmS x = true) : m_check_names [wD w] = .ok .non := by
  have hi : initE 2 [wD w] = [.val (wD w), .no] := rfl
  have hg : genF false (.one 1) tYesD y1_check_names [.val (wD w), .no] (stl w) = .ok (.bl (w.all fun _ => true)) := genF_enc_all (enc := D.str) fun x hx => ⟨_, rfl, rfl, by
    have := name_ok (h x hx)
    unfold y1_check_names
    simp_arith [this]⟩
  have he : (w.all fun _ => true) = true := by simp
  rw [he] at hg
  unfold m_check_names
  rw [runF, hi, b_check_names]
  simp_arith [hg]
theorem any_nul {t : Tr} {w : List Str} {L : List Tr} (st : St t w L) : L.any nul = true ↔ Lang t w := by
  have := st.lang []
  rw [List.append_nil] at this
  rw [← this, List.any_eq_true]
  constructor
  · rintro ⟨s, h1, h2⟩; exact ⟨s, h1, (nul_iff s).mp h2⟩
  · rintro ⟨s, h1, h2⟩; exact ⟨s, h1, (nul_iff s).mpr h2⟩
theorem isw_ok {t : Tr} (h : LT 3 t) {w : List Str} (hw : w.length ≤ 4) (ha : ∀ x ∈ w, x ∈ abc) : ∃ b, m_is_word_of [td t, wD w] = .ok (.bl b) ∧ (b = true ↔ Lang t w) := by
  have hi : initE 6 [td t, wD w] = [.val (td t), .val (wD w), .no, .no, .no, .no] := rfl
  have hk := h.k
  have hh := h.h
  have hk' : kp t ≤ 18 := hk
  have h1 := tree_ok h.w (by omega) (by omega)
  have h2 := names_chk (w := w) fun x hx => abc_nm x (ha x hx)
  obtain ⟨δ', e, L, y3, y4, y5, hδ, st⟩ := forF_run (t := .one 3) (f := l1_is_word_of) (enc := D.str) (fun pre δ => ∃ L y3 y4 y5, δ = [.val (td t), .val (wD w), .val (.lst (L.map td)), y3, y4, y5] ∧ St t pre L) w (δ := [.val (td t), .val (wD w), .val (.lst [td t]), .no, .no, .no]) ⟨[t], .no, .no, .no, rfl, .start h⟩ (fun pre x δ hp ⟨L, y3, y4, y5, hδ, st⟩ => by
    subst hδ
    have hl := hp.length_le
    rw [List.length_append, List.length_singleton] at hl
    have hx : x ∈ w := hp.subset (by simp)
    obtain ⟨f, q1, q2, L', q3, q4⟩ := st.step (x := x) (by omega) (abc_good (ha x hx))
    refine ⟨[.val (td t), .val (wD w), .val (.lst (L.map td)), .val (.str x), y4, y5], rfl, [.val (td t), .val (wD w), .val (.lst (L'.map td)), .val (.str x), y4, y5], ?_, L', .val (.str x), y4, y5, rfl, q4⟩
    have hm : map2F (.one 4) tYesD i1_is_word_of [5] (.one 5) tYesD y1_is_word_of [.val (td t), .val (wD w), .val (.lst (L.map td)), .val (.str x), .no, .no] (L.map td) = .ok ((L.flatMap f).map td) := map2F_all fun s hs => ⟨_, (f s).map td, rfl, rfl, by
      unfold i1_is_word_of
      simp_arith [q1 s hs], mapF_enc fun o ho => ⟨_, rfl, rfl, by unfold y1_is_word_of; simp_arith []⟩⟩
    unfold l1_is_word_of
    simp_arith [ev_lc2, hm, q2, q3])
  refine ⟨L.any nul, ?_, any_nul st⟩
  subst hδ
  have hg : genF true (.one 4) tYesD y2_is_word_of [.val (td t), .val (wD w), .val (.lst (L.map td)), y3, .no, y5] (L.map td) = .ok (.bl (L.any nul)) := genF_enc_any fun s hs => ⟨_, rfl, rfl, by
    have := nul_ok 60 s (by have := (st.sz s hs).2.2.2; omega)
    unfold y2_is_word_of
    simp_arith [this]⟩
  unfold m_is_word_of
  rw [runF, hi, b_is_word_of]
  simp_arith [h1, h2, e, hg]
end K89

set_option Elab.async false
set_option linter.all false
set_option maxRecDepth 100000
set_option maxHeartbeats 2000000
/-! k89: the program's words, length by length. -/
namespace K89
open PySem Dl Sh
local macro_rules | `(tactic| simp_arith [$ts,*]) => `(tactic| simp only [ev_bind_ok, ev_bind_exc, ev_bindF_ok, ev_bindF_exc, ev_sNext, ev_sSeq, ev_sIf, ev_sRet, ev_sSet, ev_sOwn, ev_sDrop, ev_sRaise, ev_sFrz, ev_sUnp, ev_sFor, ev_eC, Dl.ev_e1, Dl.ev_e2, ev_eB, ev_eCall, ev_aNil, ev_aCons, ev_eIf, blR_bl, ev_tB1, ev_tAnd, ev_tOr, andK_bl, orK_bl, notK_bl, ev_eAnd, ev_eOr, ev_eNot, ev_tNot, ev_tYes, ev_oNone, ev_oSome, ev_eSl, ev_iSeq, ev_iRng, ev_eN, ev_ofO_some, ev_eV0, ev_eVs, lt_int, le_int, gt_int, ge_int, add_int, sub_int, iadd_int, len_tup, len_lst, eq_int, ne_int, itD_tup, itD_lst, put_one, fz_nil, fz_val, fz_no, fz_own, fz_succ, od_lst, od_lol, od_dk, od_dt, odict_lst, odict_dk, odict_dt, wp_nil, wp_cons, sa_nil, sa_cons, put_all, ev_eTup', ev_eLst', ev_nLst, ev_nLc, ev_eGen', ev_tBor, ev_eBor, ev_sPar, ev_eM, ev_eM0, ev_eCallM, ev_aSnoc, ok_tup, ok_lst, ok_str, ev_tIf, notB_eq, isB_eq, isN_eq, notN_eq, neg_int, tupD_lst, tupD_tup, listD_lst, listD_tup, pure_int, pure_bl, pure_str, pure_non, pureL_int, ev_eIsi, addD_lst, addD_tup, ix_t0, ix_t1, ix_t2, ix_l0, ix_l1, ix_l2, isi_tt, isi_ss, isT_tup, isS_str, List.set_cons_succ, List.set_cons_zero, List.length_cons, List.length_nil, Nat.reduceAdd, Nat.reduceLeDiff, Nat.zero_add, Nat.zero_le, if_true, if_false, Bool.false_eq_true, decide_true, decide_false, Bool.not_true, Bool.not_false, Bool.true_or, Bool.false_or, Bool.or_true, Bool.or_false, Bool.true_and, Bool.false_and, Bool.and_true, Bool.and_false, Int.cast_ofNat_Int, Int.reduceEq, Int.reduceLT, Int.reduceLE, Int.reduceNeg, reduceCtorEq, List.cons_append, List.nil_append, eq_of, ne_of, String.reduceEq, $ts,*])
abbrev Pr := List Str × List Tr
abbrev pD (p : Pr) : D := .tup [wD p.1, .lst (p.2.map td)]
abbrev ev14 (t : Tr) (d1 d2 d3 d4 d5 : Dl.S) (X : List Pr) (s7 s8 s9 s10 s11 s12 s13 : Dl.S) : Dl.Env := [.val (td t), d1, d2, d3, d4, d5, .own (.lst (X.map pD)), s7, s8, s9, s10, s11, s12, s13]
theorem in_names {t : Tr} {w : List Str} {L : List Tr} (st : St t w L) (hw : w.length ≤ 3) {d1 d2 d3 d4 d5 s11 s12 s13 : Dl.S} : ∀ (ds : List Str) (X : List Pr) (s9 s10 : Dl.S), (∀ x ∈ ds, x ∈ abc) → X.length + ds.length ≤ 100000 →
    ∃ (s9' s10' : Dl.S) (E : List Pr), forF (.one 9) l1_words_of (stl ds) (ev14 t d1 d2 d3 d4 d5 X (.val (wD w)) (.val (.lst (L.map td))) s9 s10 s11 s12 s13) = .next (ev14 t d1 d2 d3 d4 d5 (X ++ E) (.val (wD w)) (.val (.lst (L.map td))) s9' s10' s11 s12 s13) ∧
      (∀ p ∈ E, ∃ x ∈ ds, p.1 = w ++ [x] ∧ St t p.1 p.2) ∧ (E.map (·.1)).Sublist (ds.map fun x => w ++ [x]) ∧ ∀ x ∈ ds, (∃ v, Lang t (w ++ [x] ++ v)) → w ++ [x] ∈ E.map (·.1)
  | [], X, s9, s10, _, _ => ⟨s9, s10, [], by rw [List.append_nil]; rfl, fun p hp => (by cases hp), .slnil, fun x hx => by cases hx⟩
  | x :: ds, X, s9, s10, ha, hz => by
    rw [List.length_cons] at hz
    obtain ⟨f, q1, q2, L', q3, q4⟩ := st.step (x := x) hw (abc_good (ha x List.mem_cons_self))
    have hm : map2F (.one 11) tYesD i1_words_of [12] (.one 12) tYesD y3_words_of [.val (td t), d1, d2, d3, d4, d5, .own (.lst (X.map pD)), .val (wD w), .val (.lst (L.map td)), .val (.str x), s10, .no, .no, s13] (L.map td) = .ok ((L.flatMap f).map td) := map2F_all fun s hs => ⟨_, (f s).map td, rfl, rfl, by
      unfold i1_words_of
      simp_arith [q1 s hs], mapF_enc fun o ho => ⟨_, rfl, rfl, by unfold y3_words_of; simp_arith []⟩⟩
    have hadd := add_wD (u := w) (v := [x]) (by simp; omega)
    have hadd : addD (wD w) (.tup [.str x]) = some (wD (w ++ [x])) := hadd
    by_cases hL : L' = []
    · subst hL
      have body : l1_words_of (ev14 t d1 d2 d3 d4 d5 X (.val (wD w)) (.val (.lst (L.map td))) (.val (.str x)) s10 s11 s12 s13) = .next (ev14 t d1 d2 d3 d4 d5 X (.val (wD w)) (.val (.lst (L.map td))) (.val (.str x)) (.val (.lst [])) s11 s12 s13) := by
        rw [List.map_nil] at q3
        unfold l1_words_of
        simp_arith [ev_lc2, hm, q2, q3]
      obtain ⟨s9', s10', E, e1, e2, e3, e4⟩ := in_names st hw ds X (.val (.str x)) (.val (.lst [])) (fun y hy => ha y (List.mem_cons_of_mem _ hy)) (by omega)
      refine ⟨s9', s10', E, ?_, fun p hp => ?_, ?_, fun y hy hv => ?_⟩
      · show forF (.one 9) l1_words_of (.str x :: stl ds) _ = _
        simp only [forF, put_one, List.set_cons_succ, List.set_cons_zero, body]
        exact e1
      · obtain ⟨y, h1, h2⟩ := e2 p hp
        exact ⟨y, List.mem_cons_of_mem _ h1, h2⟩
      · rw [List.map_cons]
        exact .cons _ e3
      · rcases List.mem_cons.mp hy with rfl | hy
        · obtain ⟨v, hv⟩ := hv
          obtain ⟨s, hs, _⟩ := (q4.lang v).mpr hv
          cases hs
        · exact e4 y hy hv
    · have hpos : (0 : Int) < (((L'.map td).length : Nat) : Int) := by
        rw [List.length_map]
        have := List.length_pos_iff.mpr hL
        omega
      have body : l1_words_of (ev14 t d1 d2 d3 d4 d5 X (.val (wD w)) (.val (.lst (L.map td))) (.val (.str x)) s10 s11 s12 s13) = .next (ev14 t d1 d2 d3 d4 d5 (X ++ [(w ++ [x], L')]) (.val (wD w)) (.val (.lst (L.map td))) (.val (.str x)) (.val (.lst (L'.map td))) s11 s12 s13) := by
        have hX : (X.map pD).length < 16777216 := by rw [List.length_map]; omega
        unfold l1_words_of
        simp_arith [ev_lc2, hm, q2, q3, hpos]
        rw [ev_sApp (h0 := rfl) (hz := hX)]
        simp_arith [hadd, List.map_append, List.map_cons, List.map_nil]
        simp only [ev14, List.map_append, List.map_cons, List.map_nil]
      obtain ⟨s9', s10', E, e1, e2, e3, e4⟩ := in_names st hw ds (X ++ [(w ++ [x], L')]) (.val (.str x)) (.val (.lst (L'.map td))) (fun y hy => ha y (List.mem_cons_of_mem _ hy)) (by rw [List.length_append, List.length_singleton]; omega)
      refine ⟨s9', s10', (w ++ [x], L') :: E, ?_, fun p hp => ?_, ?_, fun y hy hv => ?_⟩
      · show forF (.one 9) l1_words_of (.str x :: stl ds) _ = _
        simp only [forF, put_one, List.set_cons_succ, List.set_cons_zero, body]
        rw [List.append_assoc] at e1
        exact e1
      · rcases List.mem_cons.mp hp with rfl | hp
        · exact ⟨x, List.mem_cons_self, rfl, q4⟩
        · obtain ⟨y, h1, h2⟩ := e2 p hp
          exact ⟨y, List.mem_cons_of_mem _ h1, h2⟩
      · rw [List.map_cons, List.map_cons]
        exact .cons₂ _ e3
      · rw [List.map_cons]
        rcases List.mem_cons.mp hy with rfl | hy
        · exact List.mem_cons_self
        · exact List.mem_cons_of_mem _ (e4 y hy hv)
structure Ly (t : Tr) (k : Nat) (l : List Pr) : Prop where
  mem : ∀ p ∈ l, p.1.length = k ∧ St t p.1 p.2 ∧ ∀ x ∈ p.1, x ∈ abc
  nd : (l.map (·.1)).Nodup
  all : ∀ w, w.length = k → (∃ v, Lang t (w ++ v)) → w ∈ l.map (·.1)
  pw : (l.map (·.1)).Pairwise fun a b => leW a b = true
theorem Ly.few {t : Tr} {k : Nat} {l : List Pr} (h : Ly t k l) (hk : k ≤ 4) : l.length ≤ 121 := by
  have := nd_sub_len h.nd (m := allW 4) fun w hw => by
    obtain ⟨p, hp, rfl⟩ := List.mem_map.mp hw
    obtain ⟨h1, _, h3⟩ := h.mem p hp
    exact mem_allW 4 _ h3 (by omega)
  rwa [List.length_map, len_allW] at this
def nx (ds : List Str) (w : List Str) : List (List Str) := ds.map fun x => w ++ [x]
theorem out_names {t : Tr} (h : LT 3 t) {k : Nat} (hk : k ≤ 3) {d1 d2 d3 d4 d5 s11 s12 s13 : Dl.S} : ∀ (l : List Pr) (X : List Pr) (s7 s8 s9 s10 : Dl.S), (∀ p ∈ l, p.1.length = k ∧ St t p.1 p.2 ∧ ∀ x ∈ p.1, x ∈ abc) → X.length + 30 * l.length ≤ 90000 →
    ∃ (s7' s8' s9' s10' : Dl.S) (E : List Pr), forF (.all [7, 8]) l2_words_of (l.map pD) (ev14 t d1 d2 d3 d4 d5 X s7 s8 s9 s10 s11 s12 s13) = .next (ev14 t d1 d2 d3 d4 d5 (X ++ E) s7' s8' s9' s10' s11 s12 s13) ∧
      (∀ p ∈ E, ∃ q ∈ l, ∃ x ∈ deeds t, p.1 = q.1 ++ [x] ∧ St t p.1 p.2) ∧ (E.map (·.1)).Sublist ((l.map (·.1)).flatMap (nx (deeds t))) ∧ ∀ q ∈ l, ∀ x ∈ deeds t, (∃ v, Lang t (q.1 ++ [x] ++ v)) → q.1 ++ [x] ∈ E.map (·.1)
  | [], X, s7, s8, s9, s10, _, _ => ⟨s7, s8, s9, s10, [], by rw [List.append_nil]; rfl, fun p hp => (by cases hp), .slnil, fun x hx => by cases hx⟩
  | p :: l, X, s7, s8, s9, s10, hp, hz => by
    rw [List.length_cons] at hz
    obtain ⟨p1, p2, p3⟩ := hp p List.mem_cons_self
    have hk' : kp t ≤ 18 := h.k
    have hh := h.h
    have hd := deeds_ok h.w (by omega) (by omega)
    have hda : ∀ x ∈ deeds t, x ∈ abc := fun x hx => h.a x (mem_deeds.mp hx)
    have hdl : (deeds t).length ≤ 3 := by
      have := nd_sub_len (deeds_nd t) hda
      exact this
    obtain ⟨s9', s10', E, e1, e2, e3, e4⟩ := in_names (d1 := d1) (d2 := d2) (d3 := d3) (d4 := d4) (d5 := d5) (s11 := s11) (s12 := s12) (s13 := s13) p2 (by omega) (deeds t) X s9 s10 hda (by omega)
    have hEl : E.length ≤ 3 := by
      have := e3.length_le
      rw [List.length_map, List.length_map] at this
      omega
    obtain ⟨t7, t8, t9, t10, E', f1, f2, f3, f4⟩ := out_names h hk l (X ++ E) (.val (wD p.1)) (.val (.lst (p.2.map td))) s9' s10' (fun q hq => hp q (List.mem_cons_of_mem _ hq)) (by rw [List.length_append]; omega)
    refine ⟨t7, t8, t9, t10, E ++ E', ?_, fun r hr => ?_, ?_, fun q hq x hx hv => ?_⟩
    · have put : (Tg.all [7, 8]).put (pD p) (ev14 t d1 d2 d3 d4 d5 X s7 s8 s9 s10 s11 s12 s13) = some (ev14 t d1 d2 d3 d4 d5 X (.val (wD p.1)) (.val (.lst (p.2.map td))) s9 s10 s11 s12 s13) := rfl
      have body : l2_words_of (ev14 t d1 d2 d3 d4 d5 X (.val (wD p.1)) (.val (.lst (p.2.map td))) s9 s10 s11 s12 s13) = .next (ev14 t d1 d2 d3 d4 d5 (X ++ E) (.val (wD p.1)) (.val (.lst (p.2.map td))) s9' s10' s11 s12 s13) := by
        unfold l2_words_of
        simp_arith [hd, e1]
      rw [List.map_cons]
      simp only [forF, put, body]
      rw [List.append_assoc] at f1
      exact f1
    · rcases List.mem_append.mp hr with hr | hr
      · obtain ⟨x, h1, h2⟩ := e2 r hr
        exact ⟨p, List.mem_cons_self, x, h1, h2⟩
      · obtain ⟨q, h1, h2⟩ := f2 r hr
        exact ⟨q, List.mem_cons_of_mem _ h1, h2⟩
    · rw [List.map_append, List.map_cons, List.flatMap_cons]
      exact e3.append f3
    · rw [List.map_append, List.mem_append]
      rcases List.mem_cons.mp hq with rfl | hq
      · exact .inl (e4 x hx hv)
      · exact .inr (f4 q hq x hx hv)
theorem nx_nd {ds : List Str} (hd : ds.Nodup) : ∀ {l : List (List Str)}, l.Nodup → (l.flatMap (nx ds)).Nodup
  | [], _ => List.nodup_nil
  | w :: l, h => by
    rw [List.nodup_cons] at h
    rw [List.flatMap_cons, List.nodup_append]
    refine ⟨?_, nx_nd hd h.2, fun a ha b hb e => ?_⟩
    · unfold nx
      exact List.Pairwise.map _ (fun x y hxy e => hxy (by simpa using e)) hd
    · subst e
      obtain ⟨x, _, rfl⟩ := List.mem_map.mp ha
      obtain ⟨w', h1, h2⟩ := List.mem_flatMap.mp hb
      obtain ⟨y, _, e⟩ := List.mem_map.mp h2
      have e : w' ++ [y] = w ++ [x] := e
      have : w' = w := (List.append_inj' e rfl).1
      rw [this] at h1
      exact h.1 h1
end K89

set_option Elab.async false
set_option linter.all false
set_option maxRecDepth 100000
set_option maxHeartbeats 2000000
/-! k89: rounds of words. -/
namespace K89
open PySem Dl Sh PySem.W
local macro_rules | `(tactic| simp_arith [$ts,*]) => `(tactic| simp only [ev_bind_ok, ev_bind_exc, ev_bindF_ok, ev_bindF_exc, ev_sNext, ev_sSeq, ev_sIf, ev_sRet, ev_sSet, ev_sOwn, ev_sDrop, ev_sRaise, ev_sFrz, ev_sUnp, ev_sFor, ev_eC, Dl.ev_e1, Dl.ev_e2, ev_eB, ev_eCall, ev_aNil, ev_aCons, ev_eIf, blR_bl, ev_tB1, ev_tAnd, ev_tOr, andK_bl, orK_bl, notK_bl, ev_eAnd, ev_eOr, ev_eNot, ev_tNot, ev_tYes, ev_oNone, ev_oSome, ev_eSl, ev_iSeq, ev_iRng, ev_eN, ev_ofO_some, ev_eV0, ev_eVs, lt_int, le_int, gt_int, ge_int, add_int, sub_int, iadd_int, len_tup, len_lst, eq_int, ne_int, itD_tup, itD_lst, put_one, fz_nil, fz_val, fz_no, fz_own, fz_succ, od_lst, od_lol, od_dk, od_dt, odict_lst, odict_dk, odict_dt, wp_nil, wp_cons, sa_nil, sa_cons, put_all, ev_eTup', ev_eLst', ev_nLst, ev_nLc, ev_eGen', ev_tBor, ev_eBor, ev_sPar, ev_eM, ev_eM0, ev_eCallM, ev_aSnoc, ok_tup, ok_lst, ok_str, ev_tIf, notB_eq, isB_eq, isN_eq, notN_eq, neg_int, tupD_lst, tupD_tup, listD_lst, listD_tup, pure_int, pure_bl, pure_str, pure_non, pureL_int, ev_eIsi, addD_lst, addD_tup, ix_t0, ix_t1, ix_t2, ix_l0, ix_l1, ix_l2, isi_tt, isi_ss, isT_tup, isS_str, List.set_cons_succ, List.set_cons_zero, List.length_cons, List.length_nil, Nat.reduceAdd, Nat.reduceLeDiff, Nat.zero_add, Nat.zero_le, if_true, if_false, Bool.false_eq_true, decide_true, decide_false, Bool.not_true, Bool.not_false, Bool.true_or, Bool.false_or, Bool.or_true, Bool.or_false, Bool.true_and, Bool.false_and, Bool.and_true, Bool.and_false, Int.cast_ofNat_Int, Int.reduceEq, Int.reduceLT, Int.reduceLE, Int.reduceNeg, reduceCtorEq, List.cons_append, List.nil_append, eq_of, ne_of, String.reduceEq, $ts,*])
def nextL (E : List Pr) : List Pr := E.mergeSort fun a b => leW a.1 b.1
theorem nextL_perm (E : List Pr) : (nextL E).Perm E := List.mergeSort_perm E _
theorem nextL_pw (E : List Pr) : ((nextL E).map (·.1)).Pairwise fun a b => leW a b = true := by
  rw [List.pairwise_map]
  exact srt_pw (fun p : Pr => (wD p.1).py) E
theorem Ly.next {t : Tr} {k : Nat} {l E : List Pr} (h : Ly t k l) (ha : AbcT t) (e2 : ∀ p ∈ E, ∃ q ∈ l, ∃ x ∈ deeds t, p.1 = q.1 ++ [x] ∧ St t p.1 p.2) (e3 : (E.map (·.1)).Sublist ((l.map (·.1)).flatMap (nx (deeds t)))) (e4 : ∀ q ∈ l, ∀ x ∈ deeds t, (∃ v, Lang t (q.1 ++ [x] ++ v)) → q.1 ++ [x] ∈ E.map (·.1)) :
    Ly t (k + 1) (nextL E) := by
  have pm := (nextL_perm E).map (·.1)
  refine ⟨fun p hp => ?_, pm.nodup_iff.mpr (e3.nodup (nx_nd (deeds_nd t) h.nd)), fun w hl ⟨v, hv⟩ => ?_, nextL_pw E⟩
  · obtain ⟨q, hq, x, hx, e, st⟩ := e2 p ((nextL_perm E).mem_iff.mp hp)
    obtain ⟨q1, q2, q3⟩ := h.mem q hq
    refine ⟨by rw [e, List.length_append, q1]; rfl, st, fun y hy => ?_⟩
    rw [e, List.mem_append, List.mem_singleton] at hy
    rcases hy with hy | rfl
    · exact q3 y hy
    · exact ha y (mem_deeds.mp hx)
  · rw [pm.mem_iff]
    have hne : w ≠ [] := fun e => by rw [e] at hl; cases hl
    obtain ⟨w0, x, rfl⟩ : ∃ w0 x, w = w0 ++ [x] := ⟨w.dropLast, w.getLast hne, (List.dropLast_concat_getLast hne).symm⟩
    rw [List.length_append, List.length_singleton] at hl
    obtain ⟨q, hq, rfl⟩ := List.mem_map.mp (h.all w0 (by omega) ⟨x :: v, by simpa using hv⟩)
    exact e4 q hq x (mem_deeds.mpr (lang_lv t _ hv x (by simp))) ⟨v, hv⟩
structure Fd (t : Tr) (k : Nat) (F : List (List Str)) : Prop where
  mem : ∀ w, w ∈ F ↔ Lang t w ∧ w.length < k
  nd : F.Nodup
  pw : F.Pairwise fun a b => leP a b = true
theorem Fd.few {t : Tr} {k : Nat} {F : List (List Str)} (h : Fd t k F) (ha : AbcT t) (hk : k ≤ 5) : F.length ≤ 121 := by
  rw [← len_allW]
  exact nd_sub_len h.nd fun w hw => mem_allW 4 w (ha.ov w ((h.mem w).mp hw).1) (by have := ((h.mem w).mp hw).2; omega)
theorem Fd.next {t : Tr} {k : Nat} {l : List Pr} {F : List (List Str)} (h : Fd t k F) (hl : Ly t k l) : Fd t (k + 1) (F ++ (l.filter fun p => p.2.any nul).map (·.1)) := by
  have hm : ∀ w, w ∈ (l.filter fun p => p.2.any nul).map (·.1) ↔ Lang t w ∧ w.length = k := fun w => by
    rw [List.mem_map]
    constructor
    · rintro ⟨p, hp, rfl⟩
      obtain ⟨h1, h2⟩ := List.mem_filter.mp hp
      obtain ⟨q1, q2, _⟩ := hl.mem p h1
      exact ⟨(any_nul q2).mp h2, q1⟩
    · rintro ⟨h1, h2⟩
      obtain ⟨p, hp, rfl⟩ := List.mem_map.mp (hl.all w h2 ⟨[], by rw [List.append_nil]; exact h1⟩)
      exact ⟨p, List.mem_filter.mpr ⟨hp, (any_nul (hl.mem p hp).2.1).mpr h1⟩, rfl⟩
  have hsub : ((l.filter fun p => p.2.any nul).map (·.1)).Sublist (l.map (·.1)) := List.filter_sublist.map _
  refine ⟨fun w => ?_, ?_, ?_⟩
  · rw [List.mem_append, h.mem, hm]
    constructor
    · rintro (⟨h1, h2⟩ | ⟨h1, h2⟩)
      · exact ⟨h1, by omega⟩
      · exact ⟨h1, by omega⟩
    · rintro ⟨h1, h2⟩
      by_cases e : w.length = k
      · exact .inr ⟨h1, e⟩
      · exact .inl ⟨h1, by omega⟩
  · rw [List.nodup_append]
    refine ⟨h.nd, hsub.nodup hl.nd, fun a ha b hb e => ?_⟩
    subst e
    have h1 := ((h.mem a).mp ha).2
    have h2 := ((hm a).mp hb).2
    omega
  · rw [List.pairwise_append]
    refine ⟨h.pw, ?_, fun a ha b hb => leP_of (.inl (by have h1 := ((h.mem a).mp ha).2; have h2 := ((hm b).mp hb).2; omega))⟩
    have hp := hl.pw.sublist hsub
    refine List.Pairwise.imp_of_mem (fun {a b} ha hb hab => leP_of (.inr ⟨?_, hab⟩)) hp
    rw [((hm a).mp ha).2, ((hm b).mp hb).2]
/-! ### sorted by the word -/
theorem gd_pD {t : Tr} {p : Pr} (st : St t p.1 p.2) (hl : p.1.length ≤ 4) (ha : ∀ x ∈ p.1, x ∈ abc) : (pD p).gd 40 := gd_tup fun x hx => by
  rcases List.mem_cons.mp hx with rfl | hx
  · exact gd_mono (by decide) (gd_wD fun x hx => abc_good (ha x hx))
  · rw [List.mem_singleton] at hx; subst hx
    refine gd_lst (k := 38) fun d hd => ?_
    obtain ⟨s, hs, rfl⟩ := List.mem_map.mp hd
    obtain ⟨h1, _, _, h4⟩ := st.sz s hs
    exact gd_mono (by omega) (gd_td s h1)
theorem dats_all : ∀ {xs : List D}, (∀ x ∈ xs, x.dat = true) → D.dats xs = true
  | [], _ => rfl
  | x :: xs, h => by
    rw [D.dats, h x List.mem_cons_self, dats_all fun y hy => h y (List.mem_cons_of_mem _ hy)]; rfl
theorem key_sort {t : Tr} {E : List Pr} {δ : Dl.Env} (h6 : eV 6 δ = .ok (.lst (E.map pD))) (hk : ∀ p ∈ E, (pD p).dat = true → k1_words_of (δ.set 13 (.val (pD p))) = .ok (wD p.1)) (hE : ∀ p ∈ E, St t p.1 p.2 ∧ p.1.length ≤ 4 ∧ (∀ x ∈ p.1, x ∈ abc) ∧ p.1 ≠ []) :
    eSortX 13 (eV 6) k1_words_of δ = .ok (.lst ((nextL E).map pD)) := by
  have hdat : ∀ p ∈ E, (pD p).dat = true := fun p hp => dat_of_can _ (by rw [can_txt]; exact (gd_pD (hE p hp).1 (hE p hp).2.1 (hE p hp).2.2.1).2.1)
  have hkf := keysF_enc (j := 13) (g := k1_words_of) (δ := δ) (enc := pD) (k := fun p : Pr => wD p.1) (bs := E) fun p hp => hk p hp (hdat p hp)
  have hd : D.dats (E.map pD) = true := dats_all fun x hx => by
    obtain ⟨p, hp, rfl⟩ := List.mem_map.mp hx
    exact hdat p hp
  have hs : srtOk (E.map fun p => wD p.1) = true := by
    unfold srtOk
    rw [Bool.and_eq_true, Bool.and_eq_true, Bool.or_eq_true]
    refine ⟨⟨List.all_eq_true.mpr fun d hd => ?_, List.all_eq_true.mpr fun d hd => List.all_eq_true.mpr fun e he => ?_⟩, .inl (List.all_eq_true.mpr fun d hd => ?_)⟩
    · obtain ⟨p, hp, rfl⟩ := List.mem_map.mp hd
      exact gd_sh (gd_wD fun x hx => abc_good ((hE p hp).2.2.1 x hx))
    · obtain ⟨p, _, rfl⟩ := List.mem_map.mp hd
      obtain ⟨q, _, rfl⟩ := List.mem_map.mp he
      exact alk_wD p.1 q.1
    · obtain ⟨p, hp, rfl⟩ := List.mem_map.mp hd
      have := (hE p hp).2.2.2
      cases hw : p.1 with
      | nil => exact absurd hw this
      | cons x w => rfl
  have hpu : D.pures (E.map fun p => wD p.1) = true := pures_of fun x hx => by
    obtain ⟨p, _, rfl⟩ := List.mem_map.mp hx
    exact (gk_wD p.1).2.1
  have hz : ((E.map pD).zip (E.map fun p => wD p.1)) = E.map fun p => (pD p, wD p.1) := by
    rw [List.zip_map']
  have hms : (E.map fun p : Pr => (pD p, wD p.1)).mergeSort (fun a b => leqD a.2 b.2) = (nextL E).map fun p => (pD p, wD p.1) := (merge_map (fun p : Pr => (pD p, wD p.1)) (fun a b => leqD a.2 b.2) E).symm
  unfold eSortX
  rw [h6, ev_bind_ok]
  simp only [hkf]
  rw [if_pos (by rw [hd, hs, hpu]; rfl), hz, hms, List.map_map]
  rfl
end K89

set_option Elab.async false
set_option linter.all false
set_option maxRecDepth 100000
set_option maxHeartbeats 2000000
/-! k89: words_of. -/
namespace K89
open PySem Dl Sh
local macro_rules | `(tactic| simp_arith [$ts,*]) => `(tactic| simp only [ev_bind_ok, ev_bind_exc, ev_bindF_ok, ev_bindF_exc, ev_sNext, ev_sSeq, ev_sIf, ev_sRet, ev_sSet, ev_sOwn, ev_sDrop, ev_sRaise, ev_sFrz, ev_sUnp, ev_sFor, ev_eC, Dl.ev_e1, Dl.ev_e2, ev_eB, ev_eCall, ev_aNil, ev_aCons, ev_eIf, blR_bl, ev_tB1, ev_tAnd, ev_tOr, andK_bl, orK_bl, notK_bl, ev_eAnd, ev_eOr, ev_eNot, ev_tNot, ev_tYes, ev_oNone, ev_oSome, ev_eSl, ev_iSeq, ev_iRng, ev_eN, ev_ofO_some, ev_eV0, ev_eVs, lt_int, le_int, gt_int, ge_int, add_int, sub_int, iadd_int, len_tup, len_lst, eq_int, ne_int, itD_tup, itD_lst, put_one, fz_nil, fz_val, fz_no, fz_own, fz_succ, od_lst, od_lol, od_dk, od_dt, odict_lst, odict_dk, odict_dt, wp_nil, wp_cons, sa_nil, sa_cons, put_all, ev_eTup', ev_eLst', ev_nLst, ev_nLc, ev_eGen', ev_tBor, ev_eBor, ev_sPar, ev_eM, ev_eM0, ev_eCallM, ev_aSnoc, ok_tup, ok_lst, ok_str, ev_tIf, notB_eq, isB_eq, isN_eq, notN_eq, neg_int, tupD_lst, tupD_tup, listD_lst, listD_tup, pure_int, pure_bl, pure_str, pure_non, pureL_int, ev_eIsi, addD_lst, addD_tup, ix_t0, ix_t1, ix_t2, ix_l0, ix_l1, ix_l2, isi_tt, isi_ss, isT_tup, isS_str, List.set_cons_succ, List.set_cons_zero, List.length_cons, List.length_nil, Nat.reduceAdd, Nat.reduceLeDiff, Nat.zero_add, Nat.zero_le, if_true, if_false, Bool.false_eq_true, decide_true, decide_false, Bool.not_true, Bool.not_false, Bool.true_or, Bool.false_or, Bool.or_true, Bool.or_false, Bool.true_and, Bool.false_and, Bool.and_true, Bool.and_false, Int.cast_ofNat_Int, Int.reduceEq, Int.reduceLT, Int.reduceLE, Int.reduceNeg, reduceCtorEq, List.cons_append, List.nil_append, eq_of, ne_of, String.reduceEq, $ts,*])
abbrev rE (t : Tr) (len most : Nat) (l : List Pr) (F : List (List Str)) (s5 s6 s7 s8 s9 s10 s11 s12 s13 : Dl.S) : Dl.Env :=
  [.val (td t), .val (.int (len : Nat)), .val (.int (most : Nat)), .val (.lst (l.map pD)), .val (.lst (F.map wD)), s5, s6, s7, s8, s9, s10, s11, s12, s13]
theorem round {t : Tr} (h : LT 3 t) {k len most : Nat} {l : List Pr} {F : List (List Str)} (hk : k ≤ len) (hlen : len ≤ 4) (hl : Ly t k l) (hF : Fd t k F) (s6 s7 s8 s9 s10 s11 s12 s13 : Dl.S) :
    (∃ δ', l3_words_of (rE t len most l F (.val (.int (k : Nat))) s6 s7 s8 s9 s10 s11 s12 s13) = .exc "TooMany" δ' ∧ most < 121) ∨
    ∃ (l' : List Pr) (F' : List (List Str)) (s6' s7' s8' s9' s10' : Dl.S), l3_words_of (rE t len most l F (.val (.int (k : Nat))) s6 s7 s8 s9 s10 s11 s12 s13) = .next (rE t len most l' F' (.val (.int (k : Nat))) s6' s7' s8' s9' s10' s11 s12 s13) ∧ Fd t (k + 1) F' ∧ F'.length ≤ most ∧ (k < len → Ly t (k + 1) l') := by
  have hlf := hl.few (by omega)
  have hFf := hF.few h.a (by omega)
  have hF2 := hF.next hl
  -- the words that end here
  have hmap : mapF (.all [7, 8]) c1_words_of y2_words_of [.val (td t), .val (.int (len : Nat)), .val (.int (most : Nat)), .val (.lst (l.map pD)), .val (.lst (F.map wD)), .val (.int (k : Nat)), s6, .no, .no, s9, s10, s11, s12, s13] (l.map pD) = .ok (((l.filter fun p => p.2.any nul).map (·.1)).map wD) := by
    rw [List.map_map]
    refine mapF_filter (enc := pD) (g := fun p => wD p.1) fun p hp => ⟨[.val (td t), .val (.int (len : Nat)), .val (.int (most : Nat)), .val (.lst (l.map pD)), .val (.lst (F.map wD)), .val (.int (k : Nat)), s6, .val (wD p.1), .val (.lst (p.2.map td)), s9, s10, s11, s12, s13], rfl, ?_, fun _ => by unfold y2_words_of; simp_arith []⟩
    have hg : genF true (.one 11) tYesD y1_words_of [.val (td t), .val (.int (len : Nat)), .val (.int (most : Nat)), .val (.lst (l.map pD)), .val (.lst (F.map wD)), .val (.int (k : Nat)), s6, .val (wD p.1), .val (.lst (p.2.map td)), s9, s10, .no, s12, s13] (p.2.map td) = .ok (.bl (p.2.any nul)) := genF_enc_any fun s hs => ⟨_, rfl, rfl, by
      obtain ⟨q1, q2, _⟩ := hl.mem p hp
      have := nul_ok 60 s (by have := (q2.sz s hs).2.2.2; omega)
      unfold y1_words_of
      simp_arith [this]⟩
    unfold c1_words_of
    simp_arith [hg]
  generalize hN : (l.filter fun p => p.2.any nul).map (·.1) = N at hF2 hmap
  have hNl : N.length ≤ 121 := by
    rw [← hN, List.length_map]
    exact Nat.le_trans (List.length_filter_le _ _) hlf
  have hN1 : (N.map wD).length ≤ 16777216 := by rw [List.length_map]; omega
  have hadd : addD (.lst (F.map wD)) (.lst (N.map wD)) = some (.lst ((F ++ N).map wD)) := by
    rw [addD_lst, if_pos (by rw [List.length_map, List.length_map]; omega), List.map_append]
  have hG := hF2.few h.a (by omega)
  generalize F ++ N = G at hF2 hadd hG
  -- the layer ahead
  have hloop : ∃ (s7' s8' s9' s10' : Dl.S) (E : List Pr), forF (.all [7, 8]) l2_words_of (if decide (((k : Nat) : Int) < ((len : Nat) : Int)) = true then l.map pD else []) (ev14 t (.val (.int (len : Nat))) (.val (.int (most : Nat))) (.val (.lst (l.map pD))) (.val (.lst (G.map wD))) (.val (.int (k : Nat))) [] s7 s8 s9 s10 s11 s12 s13) = .next (ev14 t (.val (.int (len : Nat))) (.val (.int (most : Nat))) (.val (.lst (l.map pD))) (.val (.lst (G.map wD))) (.val (.int (k : Nat))) E s7' s8' s9' s10' s11 s12 s13) ∧ E.length ≤ 121 ∧ (∀ p ∈ E, St t p.1 p.2 ∧ p.1.length ≤ 4 ∧ (∀ x ∈ p.1, x ∈ abc) ∧ p.1 ≠ []) ∧ (k < len → Ly t (k + 1) (nextL E)) := by
    by_cases hkl : k < len
    · rw [if_pos (decide_eq_true (by omega))]
      obtain ⟨s7', s8', s9', s10', E, e1, e2, e3, e4⟩ := out_names h (k := k) (by omega) (d1 := .val (.int (len : Nat))) (d2 := .val (.int (most : Nat))) (d3 := .val (.lst (l.map pD))) (d4 := .val (.lst (G.map wD))) (d5 := .val (.int (k : Nat))) (s11 := s11) (s12 := s12) (s13 := s13) l [] s7 s8 s9 s10 hl.mem (by simp; omega)
      have hn := hl.next h.a e2 e3 e4
      have hnf := hn.few (by omega)
      rw [(nextL_perm E).length_eq] at hnf
      refine ⟨s7', s8', s9', s10', E, e1, hnf, fun p hp => ?_, fun _ => hn⟩
      obtain ⟨q1, q2, q3⟩ := hn.mem p ((nextL_perm E).mem_iff.mpr hp)
      exact ⟨q2, by omega, q3, fun e => by rw [e] at q1; cases q1⟩
    · rw [if_neg (by rw [decide_eq_false (by omega)]; decide)]
      exact ⟨s7, s8, s9, s10, [], rfl, Nat.zero_le _, fun p hp => (by cases hp), fun hkl' => absurd hkl' hkl⟩
  obtain ⟨s7', s8', s9', s10', E, e1, eE, e2, e3⟩ := hloop
  have hit : (do
      let x ← (if decide (((k : Nat) : Int) < ((len : Nat) : Int)) = true then Dl.R.ok (D.lst (l.map pD)) else Dl.R.ok (D.lst []))
      ofO (itD x)) = Dl.R.ok (if decide (((k : Nat) : Int) < ((len : Nat) : Int)) = true then l.map pD else []) := by
    split <;> rfl
  generalize (if decide (((k : Nat) : Int) < ((len : Nat) : Int)) = true then l.map pD else []) = its at e1 hit
  rw [show ev14 t (.val (.int (len : Nat))) (.val (.int (most : Nat))) (.val (.lst (l.map pD))) (.val (.lst (G.map wD))) (.val (.int (k : Nat))) [] s7 s8 s9 s10 s11 s12 s13 = [.val (td t), .val (.int (len : Nat)), .val (.int (most : Nat)), .val (.lst (l.map pD)), .val (.lst (G.map wD)), .val (.int (k : Nat)), .own (.lst []), s7, s8, s9, s10, s11, s12, s13] from rfl] at e1
  have hks := key_sort (t := t) (E := E) (δ := [.val (td t), .val (.int (len : Nat)), .val (.int (most : Nat)), .val (.lst (l.map pD)), .val (.lst (G.map wD)), .val (.int (k : Nat)), .val (.lst (E.map pD)), s7', s8', s9', s10', s11, s12, s13]) rfl (fun p hp hd => by
    have hx : kix (pD p) (.int 0) = some (wD p.1) := kix_tup (xs := [wD p.1, .lst (p.2.map td)]) (a := 0) (by decide)
    unfold k1_words_of
    simp only [List.set_cons_succ, List.set_cons_zero, Dl.ev_e2, ev_eVds, ev_eVd0, hd, if_true, ev_eC, ev_bind_ok, hx, ev_ofO_some]) e2
  by_cases c1 : most < E.length
  · have c1' : ((most : Nat) : Int) < (((E.map pD).length : Nat) : Int) := by rw [List.length_map]; omega
    refine .inl ⟨[.val (td t), .val (.int (len : Nat)), .val (.int (most : Nat)), .val (.lst (l.map pD)), .val (.lst (G.map wD)), .val (.int (k : Nat)), .val (.lst (E.map pD)), s7', s8', s9', s10', s11, s12, s13], ?_, by omega⟩
    unfold l3_words_of
    simp_arith [hmap, hN1, hadd, hit, e1, c1']
  · have c1' : ¬ ((most : Nat) : Int) < (((E.map pD).length : Nat) : Int) := by rw [List.length_map]; omega
    by_cases c2 : most < G.length
    · have c2' : ((most : Nat) : Int) < (((G.map wD).length : Nat) : Int) := by rw [List.length_map]; omega
      refine .inl ⟨[.val (td t), .val (.int (len : Nat)), .val (.int (most : Nat)), .val (.lst (l.map pD)), .val (.lst (G.map wD)), .val (.int (k : Nat)), .val (.lst (E.map pD)), s7', s8', s9', s10', s11, s12, s13], ?_, by omega⟩
      unfold l3_words_of
      simp_arith [hmap, hN1, hadd, hit, e1, c1', c2']
    · have c2' : ¬ ((most : Nat) : Int) < (((G.map wD).length : Nat) : Int) := by rw [List.length_map]; omega
      refine .inr ⟨nextL E, G, .val (.lst (E.map pD)), s7', s8', s9', s10', ?_, hF2, by omega, e3⟩
      unfold l3_words_of
      simp_arith [hmap, hN1, hadd, hit, e1, c1', c2', hks]
theorem words_ok {t : Tr} (h : LT 3 t) {len most : Nat} (hlen : len ≤ 4) :
    (m_words_of [td t, .int (len : Nat), .int (most : Nat)] = .exc "TooMany" ∧ most < 121) ∨ ∃ F, m_words_of [td t, .int (len : Nat), .int (most : Nat)] = .ok (.tup (F.map wD)) ∧ Fd t (len + 1) F ∧ F.length ≤ most := by
  have hi : initE 14 [td t, .int (len : Nat), .int (most : Nat)] = [.val (td t), .val (.int (len : Nat)), .val (.int (most : Nat)), .no, .no, .no, .no, .no, .no, .no, .no, .no, .no, .no] := rfl
  have hk' : kp t ≤ 18 := h.k
  have hh := h.h
  have h1 := tree_ok h.w (by omega) (by omega)
  have hr : rngD [.int (((len : Nat) : Int) + 1)] = some ((List.range (len + 1)).map fun k : Nat => D.int (k : Int)) := rng1 (len + 1) (by omega)
  have l0 : Ly t 0 [([], [t])] := ⟨fun p hp => by
    rw [List.mem_singleton] at hp; subst hp
    exact ⟨rfl, .start h, fun x hx => by cases hx⟩, by simp, fun w hw _ => by
    rw [List.eq_nil_of_length_eq_zero hw]; simp, by simp⟩
  have f0 : Fd t 0 [] := ⟨fun w => ⟨fun h => (by cases h), fun h => absurd h.2 (Nat.not_lt_zero _)⟩, List.nodup_nil, .nil⟩
  have hloop := forF_gen (t := .one 5) (f := l3_words_of) (enc := fun k : Nat => D.int (k : Int))
    (fun fl => (∃ δ', fl = .exc "TooMany" δ' ∧ most < 121) ∨ ∃ (l : List Pr) (F : List (List Str)) (s5 s6 s7 s8 s9 s10 s11 s12 s13 : Dl.S), fl = .next (rE t len most l F s5 s6 s7 s8 s9 s10 s11 s12 s13) ∧ Fd t (len + 1) F ∧ F.length ≤ most)
    (fun pre δ => ∃ (l : List Pr) (F : List (List Str)) (s5 s6 s7 s8 s9 s10 s11 s12 s13 : Dl.S), δ = rE t len most l F s5 s6 s7 s8 s9 s10 s11 s12 s13 ∧ Fd t pre.length F ∧ (pre ≠ [] → F.length ≤ most) ∧ (pre.length ≤ len → Ly t pre.length l))
    (List.range (len + 1)) [] (rE t len most [([], [t])] [] .no .no .no .no .no .no .no .no .no)
    ⟨_, _, _, _, _, _, _, _, _, _, _, rfl, f0, fun q => absurd rfl q, fun _ => l0⟩
    (fun pre k δ _ _ hp ⟨l, F, s5, s6, s7, s8, s9, s10, s11, s12, s13, q, q1, q2, q3⟩ => by
      subst q
      rw [List.nil_append] at hp
      obtain ⟨e, hlt⟩ := range_pre hp
      subst e
      refine ⟨rE t len most l F (.val (.int (pre.length : Nat))) s6 s7 s8 s9 s10 s11 s12 s13, rfl, ?_⟩
      rcases round h (k := pre.length) (most := most) (by omega) hlen (q3 (by omega)) q1 s6 s7 s8 s9 s10 s11 s12 s13 with ⟨δ', r1, r2⟩ | ⟨l', F', s6', s7', s8', s9', s10', r1, r2, r3, r4⟩
      · rw [r1]
        exact .inl ⟨δ', rfl, r2⟩
      · rw [r1]
        refine ⟨l', F', _, s6', s7', s8', s9', s10', s11, s12, s13, rfl, ?_, fun _ => r3, fun hle => ?_⟩
        · rw [List.length_append]; exact r2
        · rw [List.length_append] at hle ⊢
          exact r4 (by simp at hle; omega))
    (fun δ ⟨l, F, s5, s6, s7, s8, s9, s10, s11, s12, s13, q, q1, q2, q3⟩ => by
      rw [List.nil_append] at q1 q2
      rw [List.length_range] at q1
      exact .inr ⟨l, F, s5, s6, s7, s8, s9, s10, s11, s12, s13, by rw [q], q1, q2 (by simp)⟩)
  have e0 : rE t len most [([], [t])] [] .no .no .no .no .no .no .no .no .no = [.val (td t), .val (.int (len : Nat)), .val (.int (most : Nat)), .val (.lst [.tup [.tup [], .lst [td t]]]), .val (.lst []), .no, .no, .no, .no, .no, .no, .no, .no, .no] := rfl
  rw [e0] at hloop
  rcases hloop with ⟨δ', r1, r2⟩ | ⟨l, F, s5, s6, s7, s8, s9, s10, s11, s12, s13, r1, r2, r3⟩
  · refine .inl ⟨?_, r2⟩
    unfold m_words_of
    rw [runF, hi, b_words_of]
    simp_arith [h1, hr, r1]
  · refine .inr ⟨F, ?_, r2, r3⟩
    unfold m_words_of
    rw [runF, hi, b_words_of]
    simp_arith [h1, hr, r1]
end K89

set_option Elab.async false
set_option linter.all false
set_option maxRecDepth 100000
set_option maxHeartbeats 2000000
/-! k89: what is refused. -/
namespace K89
open PySem Dl Sh
local macro_rules | `(tactic| simp_arith [$ts,*]) => `(tactic| simp only [ev_bind_ok, ev_bind_exc, ev_bindF_ok, ev_bindF_exc, ev_sNext, ev_sSeq, ev_sIf, ev_sRet, ev_sSet, ev_sOwn, ev_sDrop, ev_sRaise, ev_sFrz, ev_sUnp, ev_sFor, ev_eC, Dl.ev_e1, Dl.ev_e2, ev_eB, ev_eCall, ev_aNil, ev_aCons, ev_eIf, blR_bl, ev_tB1, ev_tAnd, ev_tOr, andK_bl, orK_bl, notK_bl, ev_eAnd, ev_eOr, ev_eNot, ev_tNot, ev_tYes, ev_oNone, ev_oSome, ev_eSl, ev_iSeq, ev_iRng, ev_eN, ev_ofO_some, ev_eV0, ev_eVs, lt_int, le_int, gt_int, ge_int, add_int, sub_int, iadd_int, len_tup, len_lst, eq_int, ne_int, itD_tup, itD_lst, put_one, fz_nil, fz_val, fz_no, fz_own, fz_succ, od_lst, od_lol, od_dk, od_dt, odict_lst, odict_dk, odict_dt, wp_nil, wp_cons, sa_nil, sa_cons, put_all, ev_eTup', ev_eLst', ev_nLst, ev_nLc, ev_eGen', ev_tBor, ev_eBor, ev_sPar, ev_eM, ev_eM0, ev_eCallM, ev_aSnoc, ok_tup, ok_lst, ok_str, ev_tIf, notB_eq, isB_eq, isN_eq, notN_eq, neg_int, tupD_lst, tupD_tup, listD_lst, listD_tup, pure_int, pure_bl, pure_str, pure_non, pureL_int, ev_eIsi, addD_lst, addD_tup, ix_t0, ix_t1, ix_t2, ix_l0, ix_l1, ix_l2, isi_tt, isi_ss, isT_tup, isS_str, List.set_cons_succ, List.set_cons_zero, List.length_cons, List.length_nil, Nat.reduceAdd, Nat.reduceLeDiff, Nat.zero_add, Nat.zero_le, if_true, if_false, Bool.false_eq_true, decide_true, decide_false, Bool.not_true, Bool.not_false, Bool.true_or, Bool.false_or, Bool.or_true, Bool.or_false, Bool.true_and, Bool.false_and, Bool.and_true, Bool.and_false, Int.cast_ofNat_Int, Int.reduceEq, Int.reduceLT, Int.reduceLE, Int.reduceNeg, reduceCtorEq, List.cons_append, List.nil_append, eq_of, ne_of, String.reduceEq, $ts,*])
section
variable {t : Tr}
theorem i60 (d : D) (k : Nat) : initE 3 [d, .int (k : Nat)] = [.val d, .val (.int (k : Nat)), .no] := rfl
theorem top_exc (n d : Nat) (h : 7 ≤ d) : m_check_part (n + 1) [td t, .int (d : Nat)] = .exc "BadTree" := by
  have hd : (6 : Int) < ((d : Nat) : Int) := by omega
  show runF 3 (b_check_part (m_check_part n)) [td t, .int (d : Nat)] = _
  rw [runF, i60, b_check_part]
  cases t with
  | sk => simp_arith [td, hd]
  | act m => simp_arith [td, hd]
  | nd k ts =>
    have hl1 : ¬ ((((tds ts).length + 1 : Nat) : Int) < 1) := by omega
    simp_arith [td, hd, hl1]
  | lp a b => simp_arith [td, hd]
def dpT (t : Tr) : Nat → Tr
  | 0 => t
  | j + 1 => .nd .seq [dpT t j, .sk]
theorem dp_exc : ∀ (j n d : Nat), j < n → 7 ≤ d + j → m_check_part n [td (dpT t j), .int (d : Nat)] = .exc "BadTree"
  | _, 0, _, h, _ => absurd h (Nat.not_lt_zero _)
  | 0, n + 1, d, _, h => top_exc n d h
  | j + 1, n + 1, d, hn, h => by
    by_cases hd : 7 ≤ d
    · exact top_exc n d hd
    · have hd' : ¬ (6 : Int) < ((d : Nat) : Int) := by omega
      have hda : ((d : Nat) : Int) + 1 = ((d + 1 : Nat) : Int) := by simp
      have ih := dp_exc j n (d + 1) (by omega) (by omega)
      have hk : inD (.str (Str.ofString "seq")) (.tup [.str "seq", .str "xor", .str "and"]) = some (.bl true) := by decide +kernel
      show runF 3 (b_check_part (m_check_part n)) [.tup [sD "seq", td (dpT t j), .tup [sD "skip"]], .int (d : Nat)] = _
      rw [runF, i60, b_check_part]
      have body : l1_check_part (m_check_part n) [.val (.tup [sD "seq", td (dpT t j), .tup [sD "skip"]]), .val (.int (d : Nat)), .val (td (dpT t j))] = .exc "BadTree" [.val (.tup [sD "seq", td (dpT t j), .tup [sD "skip"]]), .val (.int (d : Nat)), .val (td (dpT t j))] := by
        unfold l1_check_part
        simp_arith [hda, ih]
      have hf : forF (.one 2) (l1_check_part (m_check_part n)) [td (dpT t j), .tup [sD "skip"]] [.val (.tup [sD "seq", td (dpT t j), .tup [sD "skip"]]), .val (.int (d : Nat)), .no] = .exc "BadTree" [.val (.tup [sD "seq", td (dpT t j), .tup [sD "skip"]]), .val (.int (d : Nat)), .val (td (dpT t j))] := by
        simp only [forF, put_one, List.set_cons_succ, List.set_cons_zero, body]
      simp_arith [hd', hk, d_KINDS, cut1t, hf]
def wT : Tr := .nd .xor (List.replicate 25 (.act (Str.ofString "a")))
def wrongs (t : Tr) : List D := [.non, .tup [], .tup [sD "do"], .tup [sD "do", sD "A"], .tup [sD "skip", .int 1], .tup [sD "seq", td t], .tup [sD "loop", td t], .tup [sD "loop", td t, td t, td t], .tup [sD "none", td t, td t], .lst [sD "do", sD "a"], td (dpT t 7), td wT, .tup [sD "and", td t, .non], .tup [sD "do", sD "a", sD "b"], .tup [.int 1]]
theorem tree_exc {d : D} (h : m_check_part 60 [d, .int 0] = .exc "BadTree") : m_check_tree [d] = .exc "BadTree" := by
  have hi : initE 1 [d] = [.val d] := rfl
  unfold m_check_tree
  rw [runF, hi, b_check_tree]
  simp_arith [h]
theorem wrong_exc (h : LT 3 t) : ∀ d ∈ wrongs t, m_check_tree [d] = .exc "BadTree" := by
  have i0 : ∀ d : D, initE 3 [d, .int 0] = [.val d, .val (.int 0), .no] := fun _ => rfl
  have e0 : ∀ d : D, m_check_part 60 [d, .int 0] = runF 3 (b_check_part (m_check_part 59)) [d, .int 0] := fun _ => rfl
  have n6 : ¬ (6 : Int) < 0 := by decide
  have kseq : inD (.str (Str.ofString "seq")) (.tup [.str "seq", .str "xor", .str "and"]) = some (.bl true) := by decide +kernel
  have kand : inD (.str (Str.ofString "and")) (.tup [.str "seq", .str "xor", .str "and"]) = some (.bl true) := by decide +kernel
  have klp : inD (.str (Str.ofString "loop")) (.tup [.str "seq", .str "xor", .str "and"]) = some (.bl false) := by decide +kernel
  have kno : inD (.str (Str.ofString "none")) (.tup [.str "seq", .str "xor", .str "and"]) = some (.bl false) := by decide +kernel
  have tn : (tyN D.non).bind (fun t => (L2.kitB t "tuple").map D.bl) = some (.bl false) := isi_tuple .non (t := "NoneType") rfl
  have tl : ∀ xs, (tyN (D.lst xs)).bind (fun t => (L2.kitB t "tuple").map D.bl) = some (.bl false) := fun xs => isi_tuple (.lst xs) (t := "list") rfl
  have ti : (tyN (D.int 1)).bind (fun t => (L2.kitB t "str").map D.bl) = some (.bl false) := isi_str (.int 1) (t := "int") rfl
  have hA : m_is_name [sD "A"] = .ok (.bl false) := by
    have := nm_str (Str.ofString "A") (by decide +kernel)
    rw [this]
    have e : nmS (Str.ofString "A") = false := by decide +kernel
    rw [e]
  intro d hd
  simp only [wrongs, List.mem_cons, List.not_mem_nil, or_false] at hd
  rcases hd with rfl | rfl | rfl | rfl | rfl | rfl | rfl | rfl | rfl | rfl | rfl | rfl | rfl | rfl | rfl
  · refine tree_exc ?_
    rw [e0, runF, i0, b_check_part]
    simp_arith [tn]
  · refine tree_exc ?_
    rw [e0, runF, i0, b_check_part]
    simp_arith []
  · refine tree_exc ?_
    rw [e0, runF, i0, b_check_part]
    simp_arith [n6]
  · refine tree_exc ?_
    rw [e0, runF, i0, b_check_part]
    simp_arith [n6, hA]
  · refine tree_exc ?_
    rw [e0, runF, i0, b_check_part]
    simp_arith [n6]
  · refine tree_exc ?_
    rw [e0, runF, i0, b_check_part]
    simp_arith [n6, kseq, d_KINDS]
  · refine tree_exc ?_
    rw [e0, runF, i0, b_check_part]
    simp_arith [n6, klp, d_KINDS]
  · refine tree_exc ?_
    rw [e0, runF, i0, b_check_part]
    simp_arith [n6, klp, d_KINDS]
  · refine tree_exc ?_
    rw [e0, runF, i0, b_check_part]
    simp_arith [n6, kno, d_KINDS]
  · refine tree_exc ?_
    rw [e0, runF, i0, b_check_part]
    simp_arith [tl]
  · exact tree_exc (dp_exc (t := t) 7 60 0 (by decide) (by decide))
  · have hw : gw wT := ⟨by decide, gws_iff.mpr fun s hs => by
      rw [List.eq_of_mem_replicate hs]
      show nmS (Str.ofString "a") = true
      decide +kernel⟩
    have hh : ht wT ≤ 1 := hts_le.mpr fun s hs => by
      rw [List.eq_of_mem_replicate hs]
      exact Nat.le_refl _
    have hk : kp wT = 25 := by rfl
    have h1 := part_ok 60 wT 0 hw (by omega) (by omega)
    have h1 : m_check_part 60 [td wT, .int 0] = .ok .non := h1
    have h2 := leaves_ok 60 wT (by omega) (by omega)
    have hl : ((24 : Int) < ((((lv wT).map oD).length : Nat) : Int)) := by rw [List.length_map, lv_len, hk]; decide
    have hi : initE 1 [td wT] = [.val (td wT)] := rfl
    unfold m_check_tree
    rw [runF, hi, b_check_tree]
    simp_arith [h1, h2, hl]
  · refine tree_exc ?_
    have hh := h.h
    have q1 := part_ok 59 t 1 h.w (by omega) (by omega)
    have q1 : m_check_part 59 [td t, .int 1] = .ok .non := q1
    have q2 : m_check_part 59 [.non, .int 1] = .exc "BadTree" := by
      have i1 : ∀ d : D, initE 3 [d, .int 1] = [.val d, .val (.int 1), .no] := fun _ => rfl
      show runF 3 (b_check_part (m_check_part 58)) [.non, .int 1] = _
      rw [runF, i1, b_check_part]
      simp_arith [tn]
    have e01 : (0 : Int) + 1 = 1 := rfl
    have b1 : ∀ y, l1_check_part (m_check_part 59) [.val (.tup [sD "and", td t, .non]), .val (.int 0), .val y] = (match m_check_part 59 [y, .int 1] with | .ok _ => .next [.val (.tup [sD "and", td t, .non]), .val (.int 0), .val y] | .exc c => .exc c [.val (.tup [sD "and", td t, .non]), .val (.int 0), .val y] | .bad => .bad) := fun y => by
      unfold l1_check_part
      simp_arith [e01]
      cases m_check_part 59 [y, .int 1] <;> rfl
    have hf : forF (.one 2) (l1_check_part (m_check_part 59)) [td t, .non] [.val (.tup [sD "and", td t, .non]), .val (.int 0), .no] = .exc "BadTree" [.val (.tup [sD "and", td t, .non]), .val (.int 0), .val .non] := by
      simp only [forF, put_one, List.set_cons_succ, List.set_cons_zero, b1, q1, q2]
    rw [e0, runF, i0, b_check_part]
    simp_arith [n6, kand, d_KINDS, cut1t, hf]
  · refine tree_exc ?_
    rw [e0, runF, i0, b_check_part]
    simp_arith [n6]
  · refine tree_exc ?_
    rw [e0, runF, i0, b_check_part]
    simp_arith [ti]
def wrongw : List D := [.non, .lst [sD "a"], .tup [sD "A"], .tup [.int 1], sD "a"]
theorem word_exc : ∀ d ∈ wrongw, m_check_names [d] = .exc "BadWord" := by
  have hi : ∀ d : D, initE 2 [d] = [.val d, .no] := fun _ => rfl
  have tn : (tyN D.non).bind (fun t => (L2.kitB t "tuple").map D.bl) = some (.bl false) := isi_tuple .non (t := "NoneType") rfl
  have tl : ∀ xs, (tyN (D.lst xs)).bind (fun t => (L2.kitB t "tuple").map D.bl) = some (.bl false) := fun xs => isi_tuple (.lst xs) (t := "list") rfl
  have ts : ∀ x, (tyN (D.str x)).bind (fun t => (L2.kitB t "tuple").map D.bl) = some (.bl false) := fun x => isi_tuple (.str x) (t := "str") rfl
  have hA : m_is_name [sD "A"] = .ok (.bl false) := by
    have := nm_str (Str.ofString "A") (by decide +kernel)
    rw [this]
    have e : nmS (Str.ofString "A") = false := by decide +kernel
    rw [e]
  have h1 : m_is_name [.int 1] = .ok (.bl false) := nm_no (.int 1) (t := "int") rfl (fun x h => by cases h)
  have hg : ∀ x : D, m_is_name [x] = .ok (.bl false) → genF false (.one 1) tYesD y1_check_names [.val (.tup [x]), .no] [x] = .ok (.bl false) := fun x hx => by
    have := genF_enc_all (t := .one 1) (c := tYesD) (f := y1_check_names) (δ := [.val (.tup [x]), .no]) (enc := fun d : D => d) (p := fun _ => false) (bs := [x]) fun y hy => ⟨_, rfl, rfl, by
      rw [List.mem_singleton] at hy; subst hy
      unfold y1_check_names
      simp_arith [hx]⟩
    exact this
  intro d hd
  simp only [wrongw, List.mem_cons, List.not_mem_nil, or_false] at hd
  rcases hd with rfl | rfl | rfl | rfl | rfl
  · unfold m_check_names
    rw [runF, hi, b_check_names]
    simp_arith [tn]
  · unfold m_check_names
    rw [runF, hi, b_check_names]
    simp_arith [tl]
  · unfold m_check_names
    rw [runF, hi, b_check_names]
    simp_arith [hg _ hA]
  · unfold m_check_names
    rw [runF, hi, b_check_names]
    simp_arith [hg _ h1]
  · unfold m_check_names
    rw [runF, hi, b_check_names]
    simp_arith [ts]
/-! ### the law's refusals -/
theorem isw_exc {d w : D} (h : m_check_tree [d] = .exc "BadTree") : m_is_word_of [d, w] = .exc "BadTree" := by
  have hi : initE 6 [d, w] = [.val d, .val w, .no, .no, .no, .no] := rfl
  unfold m_is_word_of
  rw [runF, hi, b_is_word_of]
  simp_arith [h]
theorem isw_exc2 {d w : D} (h : m_check_tree [d] = .ok .non) (h2 : m_check_names [w] = .exc "BadWord") : m_is_word_of [d, w] = .exc "BadWord" := by
  have hi : initE 6 [d, w] = [.val d, .val w, .no, .no, .no, .no] := rfl
  unfold m_is_word_of
  rw [runF, hi, b_is_word_of]
  simp_arith [h, h2]
theorem wof_exc {d a b : D} (h : m_check_tree [d] = .exc "BadTree") : m_words_of [d, a, b] = .exc "BadTree" := by
  have hi : initE 14 [d, a, b] = [.val d, .val a, .val b, .no, .no, .no, .no, .no, .no, .no, .no, .no, .no, .no] := rfl
  unfold m_words_of
  rw [runF, hi, b_words_of]
  simp_arith [h]
theorem deeds_exc {d : D} (h : m_check_tree [d] = .exc "BadTree") : m_deeds_of [d] = .exc "BadTree" := by
  have hi : initE 2 [d] = [.val d, .no] := rfl
  unfold m_deeds_of
  rw [runF, hi, b_deeds_of]
  simp_arith [h]
theorem refuse1 {d w : D} {k : Nat} (hk : k < 3) (h : m_check_tree [d] = .exc "BadTree") : m__law_refusal [d, w, .int (k : Nat)] = .ok (.str "tree") := by
  have hi : initE 3 [d, w, .int (k : Nat)] = [.val d, .val w, .val (.int (k : Nat))] := rfl
  unfold m__law_refusal runF b__law_refusal
  rw [hi, ev_sSeq]
  unfold sTryM
  have hb : (sIf (tB1 (e2 eqD (eV 2) (eC (.int 0))))
    (sDrop (eCall m_is_word_of (aCons (eV 0) (aCons (eV 1) aNil))))
    (sIf (tB1 (e2 eqD (eV 2) (eC (.int 1))))
    (sDrop (eCall m_words_of (aSnoc (aCons (eV 0) (aCons (eC (.int 1)) aNil)) (eC (.int 500)))))
    (sDrop (eCall m_deeds_of (aCons (eV 0) aNil))))) [.val d, .val w, .val (.int (k : Nat))] = .exc "BadTree" [.val d, .val w, .val (.int (k : Nat))] := by
    match k, hk with
    | 0, _ => simp_arith [isw_exc h]
    | 1, _ => simp_arith [wof_exc h]
    | 2, _ => simp_arith [deeds_exc h]
  rw [hb]
  rfl
theorem refuse2 {d w : D} (h : m_check_tree [d] = .ok .non) (h2 : m_check_names [w] = .exc "BadWord") : m__law_refusal [d, w, .int 0] = .ok (.str "word") := by
  have hi : initE 3 [d, w, .int 0] = [.val d, .val w, .val (.int 0)] := rfl
  unfold m__law_refusal runF b__law_refusal
  rw [hi, ev_sSeq]
  unfold sTryM
  have hb : (sIf (tB1 (e2 eqD (eV 2) (eC (.int 0))))
    (sDrop (eCall m_is_word_of (aCons (eV 0) (aCons (eV 1) aNil))))
    (sIf (tB1 (e2 eqD (eV 2) (eC (.int 1))))
    (sDrop (eCall m_words_of (aSnoc (aCons (eV 0) (aCons (eC (.int 1)) aNil)) (eC (.int 500)))))
    (sDrop (eCall m_deeds_of (aCons (eV 0) aNil))))) [.val d, .val w, .val (.int 0)] = .exc "BadWord" [.val d, .val w, .val (.int 0)] := by
    simp_arith [isw_exc2 h h2]
  rw [hb]
  rfl
end
end K89

set_option Elab.async false
set_option linter.all false
set_option maxRecDepth 100000
set_option maxHeartbeats 2000000
/-! k89: the law. -/
namespace K89
open PySem Dl Sh
local macro_rules | `(tactic| simp_arith [$ts,*]) => `(tactic| simp only [ev_bind_ok, ev_bind_exc, ev_bindF_ok, ev_bindF_exc, ev_sNext, ev_sSeq, ev_sIf, ev_sRet, ev_sSet, ev_sOwn, ev_sDrop, ev_sRaise, ev_sFrz, ev_sUnp, ev_sFor, ev_eC, Dl.ev_e1, Dl.ev_e2, ev_eB, ev_eCall, ev_aNil, ev_aCons, ev_eIf, blR_bl, ev_tB1, ev_tAnd, ev_tOr, andK_bl, orK_bl, notK_bl, ev_eAnd, ev_eOr, ev_eNot, ev_tNot, ev_tYes, ev_oNone, ev_oSome, ev_eSl, ev_iSeq, ev_iRng, ev_eN, ev_ofO_some, ev_eV0, ev_eVs, lt_int, le_int, gt_int, ge_int, add_int, sub_int, iadd_int, len_tup, len_lst, eq_int, ne_int, itD_tup, itD_lst, put_one, fz_nil, fz_val, fz_no, fz_own, fz_succ, od_lst, od_lol, od_dk, od_dt, odict_lst, odict_dk, odict_dt, wp_nil, wp_cons, sa_nil, sa_cons, put_all, ev_eTup', ev_eLst', ev_nLst, ev_nLc, ev_eGen', ev_tBor, ev_eBor, ev_sPar, ev_eM, ev_eM0, ev_eCallM, ev_aSnoc, ok_tup, ok_lst, ok_str, ev_tIf, notB_eq, isB_eq, isN_eq, notN_eq, neg_int, tupD_lst, tupD_tup, listD_lst, listD_tup, pure_int, pure_bl, pure_str, pure_non, pureL_int, ev_eIsi, addD_lst, addD_tup, ix_t0, ix_t1, ix_t2, ix_l0, ix_l1, ix_l2, isi_tt, isi_ss, isT_tup, isS_str, List.set_cons_succ, List.set_cons_zero, List.length_cons, List.length_nil, Nat.reduceAdd, Nat.reduceLeDiff, Nat.zero_add, Nat.zero_le, if_true, if_false, Bool.false_eq_true, decide_true, decide_false, Bool.not_true, Bool.not_false, Bool.true_or, Bool.false_or, Bool.or_true, Bool.or_false, Bool.true_and, Bool.false_and, Bool.and_true, Bool.and_false, Int.cast_ofNat_Int, Int.reduceEq, Int.reduceLT, Int.reduceLE, Int.reduceNeg, reduceCtorEq, List.cons_append, List.nil_append, eq_of, ne_of, String.reduceEq, $ts,*])
noncomputable def rest3 : Sv :=
    (sSeq (sIf (tB1 (e2 gtD (eB lenD (aCons (eV 5) aNil)) (eC (.int 60))))
    (sRet (eC (.bl true)))
    sNext)
    (sSeq (sIf (tB1 (e2 neD (eCall m_words_of (aSnoc (aCons (eV 2) (aCons (eV 4) aNil)) (eC (.int 500)))) (eB tupleD (aCons (eV 5) aNil))))
    (sRet (eC (.bl false)))
    sNext)
    (sSeq (sTry (subL [("TooMany", true), ("BadTree", false), ("BadWord", false)]) (sSet 11 (eCall m_words_of (aSnoc (aCons (eV 2) (aCons (eV 4) aNil)) (eB max2D (aCons (eC (.int 0)) (aCons (e2 subD (eB lenD (aCons (eV 5) aNil)) (eC (.int 1))) aNil))))))
    (sRet (eC (.bl true))))
    (sRet (eAnd (e2 eqD (eB lenD (aCons (eV 5) aNil)) (eC (.int 0))) (e2 eqD (eV 11) (eTup aNil)))))))
noncomputable def rest2 : Sv :=
    (sSeq (sIf (tOr' (tB1 (e2 neD (eCall m__law_refusal (aCons (e2 ixD (eV 9) (e2 modD (e2 ixD (eV 3) (eC (.int 1))) (eC (.int 15)))) (aCons (eC .non) (aCons (e2 modD (e2 ixD (eV 3) (eC (.int 2))) (eC (.int 3))) aNil)))) (eC (.str "tree")))) (tB1 (e2 neD (eCall m__law_refusal (aCons (eV 2) (aCons (e2 ixD (eTup (aCons (eC .non) (aCons (eLst (aCons (eC (.str "a")) aNil)) (aCons (eTup (aCons (eC (.str "A")) aNil)) (aCons (eTup (aCons (eC (.int 1)) aNil)) (aCons (eC (.str "a")) aNil)))))) (e2 modD (e2 ixD (eV 3) (eC (.int 3))) (eC (.int 5)))) (aCons (eC (.int 0)) aNil)))) (eC (.str "word")))))
    (sRet (eC (.bl false)))
    sNext)
    (sSeq (sIf (tB1 (e2 neD (eCall m_deeds_of (aCons (eV 2) aNil)) (eB tupleD (aCons (eCall (m__law_names 60) (aCons (eV 2) aNil)) aNil))))
    (sRet (eC (.bl false)))
    sNext)
    (sSeq (sSet 10 (eB tupleD (aCons (eN (nLc [13] (.one 13) (iRng (aCons (eV 4) aNil)) tYesD y3_law)) aNil)))
    (sSeq (sIf (tB1 (e2 neD (eCall m_is_word_of (aCons (eV 2) (aCons (eV 10) aNil))) (e2 inD (eV 10) (eV 5))))
    (sRet (eC (.bl false)))
    sNext)
    (sSeq (sIf (tAnd' (tB1 (e2 gtD (eB lenD (aCons (eV 5) aNil)) (eC (.int 0)))) (tNot' (tB1 (eCall m_is_word_of (aCons (eV 2) (aCons (e2 ixD (eV 5) (e2 modD (e2 ixD (eV 3) (eC (.int 9))) (eB lenD (aCons (eV 5) aNil)))) aNil))))))
    (sRet (eC (.bl false)))
    sNext)
    rest3)))))
noncomputable def headLaw : Sv :=
    (sSeq (sSet 1 (eCall m__law_draws (aCons (eCall m__law_cell (aCons (eV 0) (aCons (eC (.int 0)) aNil))) (aCons (eC (.int 60)) aNil))))
    (sSeq (sSet 2 (eCall (m__law_tree 60) (aCons (eV 1) (aCons (eC (.int 0)) (aCons (eC (.int 0)) aNil)))))
    (sSeq (sSet 3 (eCall m__law_draws (aCons (eCall m__law_cell (aCons (eV 0) (aCons (eC (.int 1)) aNil))) (aCons (eC (.int 12)) aNil))))
    (sSeq (sSet 4 (e2 modD (e2 ixD (eV 3) (eC (.int 0))) (eC (.int 5))))
    (sSeq (sSet 5 (eN (nLc [12, 10] (.all [12, 10]) (iSeq (eB sortGD (aCons (eN (nLc [10] (.one 10) (iSeq (eCall (m__law_words 60) (aCons (eV 2) (aCons (eV 4) aNil)))) tYesD y1_law)) aNil))) tYesD y2_law)))
    (sSeq (sSet 6 (eV 2))
    (sSeq (sFor (.one 7) (iRng (aCons (eC (.int 7)) aNil))
    l1_law)
    (sSeq (sSet 8 (e2 addD (eTup (aCons (eC (.str "xor")) aNil)) (e2 repD (eTup (aCons (eTup (aCons (eC (.str "do")) (aCons (eC (.str "a")) aNil))) aNil)) (eC (.int 25)))))
    (sSeq (sSet 9 (eTup (aCons (eC .non) (aCons (eTup aNil) (aCons (eTup (aCons (eC (.str "do")) aNil)) (aCons (eTup (aCons (eC (.str "do")) (aCons (eC (.str "A")) aNil))) (aCons (eTup (aCons (eC (.str "skip")) (aCons (eC (.int 1)) aNil))) (aCons (eTup (aCons (eC (.str "seq")) (aCons (eV 2) aNil))) (aCons (eTup (aCons (eC (.str "loop")) (aCons (eV 2) aNil))) (aCons (eTup (aCons (eC (.str "loop")) (aCons (eV 2) (aCons (eV 2) (aCons (eV 2) aNil))))) (aCons (eTup (aCons (eC (.str "none")) (aCons (eV 2) (aCons (eV 2) aNil)))) (aCons (eLst (aCons (eC (.str "do")) (aCons (eC (.str "a")) aNil))) (aCons (eV 6) (aCons (eV 8) (aCons (eTup (aCons (eC (.str "and")) (aCons (eV 2) (aCons (eC .non) aNil)))) (aCons (eTup (aCons (eC (.str "do")) (aCons (eC (.str "a")) (aCons (eC (.str "b")) aNil)))) (aCons (eTup (aCons (eC (.int 1)) aNil)) aNil)))))))))))))))))
    rest2)))))))))

theorem law_cut (l : List D) : m_law l = runF 14 headLaw l := rfl
theorem neb_same (b : Bool) : neD (.bl b) (.bl b) = some (.bl false) := by cases b <;> decide +kernel
theorem ne_same {d : D} (h : d.gd 64) : neD d d = some (.bl false) := by rw [ne_gd h h]; simp
section
variable {t : Tr} {len : Nat} {V : List (List Str)} {M : List Nat}
/-- the law's words, in order -/
structure Vs (t : Tr) (len : Nat) (V : List (List Str)) : Prop where
  l : LT 3 t
  le : len ≤ 4
  nd : V.Nodup
  mem : ∀ w, w ∈ V ↔ Lang t w ∧ w.length ≤ len
  pw : V.Pairwise fun a b => leP a b = true
theorem Vs.good (h : Vs t len V) : ∀ w ∈ V, ∀ x ∈ w, x ∈ abc := fun w hw => AbcT.ov (fun x hx => h.l.a x hx) w ((h.mem w).mp hw).1
theorem Vs.gd (h : Vs t len V) : ∀ d ∈ V.map wD, d.gd 1 := gd_wDs fun w hw x hx => abc_good (h.good w hw x hx)
theorem Vs.eq (h : Vs t len V) {F : List (List Str)} (hF : Fd t (len + 1) F) : F = V := by
  have p : V.Perm F := perm_nd h.nd hF.nd fun w => by rw [h.mem, hF.mem, Nat.lt_succ_iff]
  have e1 := sortP_eq p hF.pw
  have e2 := sortP_eq (List.Perm.refl V) h.pw
  rw [← e1, e2]
theorem rest3_ok (h : Vs t len V) {x0 x1 x3 x6 x7 x8 x9 x10 x11 x12 x13 : S} :
    rest3 [x0, x1, .val (td t), x3, .val (.int (len : Nat)), .val (.lst (V.map wD)), x6, x7, x8, x9, x10, x11, x12, x13] = .ret (.bl true) := by
  unfold rest3
  by_cases h60 : 60 < V.length
  · have h60' : (60 : Int) < (((V.map wD).length : Nat) : Int) := by rw [List.length_map]; omega
    simp_arith [h60']
  · have h60' : ¬ (60 : Int) < (((V.map wD).length : Nat) : Int) := by rw [List.length_map]; omega
    have hw : m_words_of [td t, .int (len : Nat), .int 500] = .ok (.tup (V.map wD)) := by
      rcases words_ok h.l (len := len) (most := 500) h.le with ⟨_, q⟩ | ⟨F, q1, q2, _⟩
      · exact absurd q (by decide)
      · rw [← h.eq q2]; exact q1
    have hs : neD (.tup (V.map wD)) (.tup (V.map wD)) = some (.bl false) := ne_same (gd_mono (by decide) (gd_tup h.gd))
    have hmx : max2D [.int 0, .int ((((V.map wD).length : Nat) : Int) - 1)] = some (.int ((V.length - 1 : Nat) : Int)) := by
      show some (D.int (if (((V.map wD).length : Nat) : Int) - 1 > 0 then (((V.map wD).length : Nat) : Int) - 1 else 0)) = _
      rw [List.length_map]
      congr 2
      split <;> omega
    have hsub : subL [("TooMany", true), ("BadTree", false), ("BadWord", false)] "TooMany" = some true := by decide +kernel
    rcases words_ok h.l (len := len) (most := V.length - 1) h.le with ⟨q, _⟩ | ⟨F, q1, q2, q3⟩
    · simp_arith [h60', hw, hs, hmx, q, sTry, hsub, noX]
    · have e := h.eq q2
      subst e
      have hz : F = [] := by
        cases F with
        | nil => rfl
        | cons a F => rw [List.length_cons] at q3; omega
      subst hz
      have hs0 : eqD (.tup []) (.tup []) = some (.bl true) := by rw [eq_gd (gd_tup (k := 1) (by simp) |> gd_mono (by decide)) (gd_tup (k := 1) (by simp) |> gd_mono (by decide))]; rfl
      rw [List.map_nil] at hw hs q1 ⊢
      have hmx : max2D [.int 0, .int (0 - 1)] = some (.int 0) := rfl
      have q1 : m_words_of [td t, .int (len : Nat), .int 0] = .ok (.tup []) := q1
      have n60 : ¬ (60 : Int) < 0 := by decide
      simp_arith [n60, hw, hs, hmx, q1, sTry, hs0]
theorem rest2_ok (h : Vs t len V) (hM : M.length = 12) {x0 x1 x6 x7 x8 x10 x11 x12 x13 : S} :
    rest2 [x0, x1, .val (td t), .val (.lst (ntl M)), .val (.int (len : Nat)), .val (.lst (V.map wD)), x6, x7, x8, .val (.tup (wrongs t)), x10, x11, x12, x13] = .ret (.bl true) := by
  have hl := h.l
  have hk' : kp t ≤ 18 := hl.k
  have hh := hl.h
  have hle := h.le
  have i1 : ixD (.lst (ntl M)) (.int 1) = some (.int ((M.getD 1 0 : Nat) : Int)) := ntl_ix 1 (by omega)
  have i2 : ixD (.lst (ntl M)) (.int 2) = some (.int ((M.getD 2 0 : Nat) : Int)) := ntl_ix 2 (by omega)
  have i3 : ixD (.lst (ntl M)) (.int 3) = some (.int ((M.getD 3 0 : Nat) : Int)) := ntl_ix 3 (by omega)
  have i9 : ixD (.lst (ntl M)) (.int 9) = some (.int ((M.getD 9 0 : Nat) : Int)) := ntl_ix 9 (by omega)
  have m15 : ∀ g : Nat, modD (.int (g : Nat)) (.int 15) = some (.int ((g % 15 : Nat) : Int)) := fun g => mod_nat g 15 (by decide)
  have m3 : ∀ g : Nat, modD (.int (g : Nat)) (.int 3) = some (.int ((g % 3 : Nat) : Int)) := fun g => mod_nat g 3 (by decide)
  have m5 : ∀ g : Nat, modD (.int (g : Nat)) (.int 5) = some (.int ((g % 5 : Nat) : Int)) := fun g => mod_nat g 5 (by decide)
  obtain ⟨d1, a1, a2⟩ : ∃ d, ixD (.tup (wrongs t)) (.int ((M.getD 1 0 % 15 : Nat) : Int)) = some d ∧ d ∈ wrongs t := by
    have hlt : M.getD 1 0 % 15 < (wrongs t).length := Nat.mod_lt _ (by decide)
    exact ⟨_, by rw [ix_tup, List.getElem?_eq_getElem hlt], List.getElem_mem hlt⟩
  obtain ⟨d2, b1, b2⟩ : ∃ d, ixD (.tup wrongw) (.int ((M.getD 3 0 % 5 : Nat) : Int)) = some d ∧ d ∈ wrongw := by
    have hlt : M.getD 3 0 % 5 < wrongw.length := Nat.mod_lt _ (by decide)
    exact ⟨_, by rw [ix_tup, List.getElem?_eq_getElem hlt], List.getElem_mem hlt⟩
  have f1 := refuse1 (w := .non) (k := M.getD 2 0 % 3) (Nat.mod_lt _ (by decide)) (wrong_exc hl d1 a2)
  have htr := tree_ok hl.w (by omega) (by omega)
  have f2 := refuse2 htr (word_exc d2 b2)
  unfold wrongw at b1
  -- the deeds
  have hd := deeds_ok hl.w (by omega) (by omega)
  obtain ⟨L, n1, n2, n3, n4⟩ := names_ok 60 t hl.w (by omega) (by omega)
  rw [names_deeds n2 n3 n4] at n1
  have hdd : neD (.tup (stl (deeds t))) (.tup (stl (deeds t))) = some (.bl false) := ne_same (gd_mono (k := 1) (by decide) (gd_tup (gd_stl fun x hx => abc_good (hl.a x (mem_deeds.mp hx)))))
  -- a word drawn
  have hr : rngD [.int (len : Nat)] = some ((List.range len).map fun k : Nat => D.int (k : Int)) := rng1 len (by omega)
  have hmw : ∀ y10 y11 y12, mapF (.one 13) tYesD y3_law [x0, x1, .val (td t), .val (.lst (ntl M)), .val (.int (len : Nat)), .val (.lst (V.map wD)), x6, x7, x8, .val (.tup (wrongs t)), y10, y11, y12, .no] ((List.range len).map fun k : Nat => D.int (k : Int)) = .ok (stl ((List.range len).map fun k => lt3 (M.getD (4 + k) 0 % 3))) := fun y10 y11 y12 => by
    unfold stl
    rw [List.map_map]
    refine mapF_enc fun k hk => ⟨_, rfl, rfl, ?_⟩
    have hk := List.mem_range.mp hk
    have c4 : (4 : Int) + ((k : Nat) : Int) = ((4 + k : Nat) : Int) := rfl
    have ik : ixD (.lst (ntl M)) (.int ((4 + k : Nat) : Int)) = some (.int ((M.getD (4 + k) 0 : Nat) : Int)) := ntl_ix (4 + k) (by omega)
    have ia := abc_ix (M.getD (4 + k) 0 % 3) (Nat.mod_lt _ (by decide))
    unfold y3_law
    simp_arith [c4, ik, m3, ia]
    rfl
  obtain ⟨w, ew⟩ : ∃ w, w = (List.range len).map fun k => lt3 (M.getD (4 + k) 0 % 3) := ⟨_, rfl⟩
  rw [← ew] at hmw
  have hwl : w.length = len := by rw [ew, List.length_map, List.length_range]
  have hwa : ∀ x ∈ w, x ∈ abc := fun x hx => by
    rw [ew] at hx
    obtain ⟨k, _, rfl⟩ := List.mem_map.mp hx
    exact lt3_mem _ (Nat.mod_lt _ (by decide))
  have hz1 : (stl w).length ≤ 16777216 := by rw [List.length_map]; omega
  obtain ⟨b, w1, w2⟩ := isw_ok hl (w := w) (by omega) hwa
  have hin : inD (wD w) (.lst (V.map wD)) = some (.bl b) := by
    rw [in_lst (gd_mono (by decide) (gd_wD fun x hx => abc_good (hwa x hx))) fun d hd => gd_mono (by decide) (h.gd d hd)]
    congr 2
    rw [Bool.eq_iff_iff, w2, decide_eq_true_eq, mem_enc wD_inj, h.mem]
    exact ⟨fun q => q.1, fun q => ⟨q, by omega⟩⟩
  have hbb := neb_same b
  unfold rest2
  by_cases hV : V = []
  · subst hV
    have hl0 : ¬ (0 : Int) < (((([] : List (List Str)).map wD).length : Nat) : Int) := by simp
    have h3 := rest3_ok h (x0 := x0) (x1 := x1) (x3 := .val (.lst (ntl M))) (x6 := x6) (x7 := x7) (x8 := x8) (x9 := .val (.tup (wrongs t))) (x10 := .val (wD w)) (x11 := x11) (x12 := x12) (x13 := x13)
    generalize ([] : List (List Str)).map wD = VD at hl0 hin h3 hmw
    simp_arith [i1, m15, a1, i2, m3, f1, i3, m5, b1, f2, hd, n1, hdd, hr, hmw, hz1, w1, hin, hbb, hl0, h3]
  · have hpos := List.length_pos_iff.mpr hV
    have hl0 : (0 : Int) < (((V.map wD).length : Nat) : Int) := by rw [List.length_map]; omega
    have mV : modD (.int ((M.getD 9 0 : Nat) : Int)) (.int (((V.map wD).length : Nat) : Int)) = some (.int ((M.getD 9 0 % V.length : Nat) : Int)) := by
      rw [List.length_map]; exact mod_nat _ _ hpos
    have hlt := Nat.mod_lt (M.getD 9 0) hpos
    obtain ⟨v, v1, v2⟩ : ∃ v, ixD (.lst (V.map wD)) (.int ((M.getD 9 0 % V.length : Nat) : Int)) = some (wD v) ∧ v ∈ V := by
      refine ⟨V[M.getD 9 0 % V.length], ?_, List.getElem_mem hlt⟩
      rw [ix_lst, List.getElem?_map, List.getElem?_eq_getElem hlt]; rfl
    obtain ⟨b', u1, u2⟩ := isw_ok hl (w := v) (by have := ((h.mem v).mp v2).2; omega) (h.good v v2)
    have hb' : b' = true := u2.mpr ((h.mem v).mp v2).1
    subst hb'
    have h3 := rest3_ok h (x0 := x0) (x1 := x1) (x3 := .val (.lst (ntl M))) (x6 := x6) (x7 := x7) (x8 := x8) (x9 := .val (.tup (wrongs t))) (x10 := .val (wD w)) (x11 := x11) (x12 := x12) (x13 := x13)
    generalize V.map wD = VD at hl0 mV v1 hin h3 hmw
    simp_arith [i1, m15, a1, i2, m3, f1, i3, m5, b1, f2, hd, n1, hdd, hr, hmw, hz1, w1, hin, hbb, hl0, i9, mV, v1, u1, h3]
end
theorem plain89 (ns : List Int) : m_law [.lst (ns.map D.int)] = .ok (.bl true) := by
  obtain ⟨c0, k0⟩ := cellS_ok ns 0
  obtain ⟨c1, k1⟩ := cellS_ok ns 1
  have k0 : m__law_cell [.lst (ns.map D.int), .int 0] = .ok (.int c0) := k0
  have k1 : m__law_cell [.lst (ns.map D.int), .int 1] = .ok (.int c1) := k1
  obtain ⟨N, hN, kN⟩ := drawsS_ok c0 60 (by decide)
  obtain ⟨M, hM, kM⟩ := drawsS_ok c1 12 (by decide)
  have kN : m__law_draws [.int c0, .int 60] = .ok (.lst (ntl N)) := kN
  have kM : m__law_draws [.int c1, .int 12] = .ok (.lst (ntl M)) := kM
  obtain ⟨t, kt, hl⟩ := ltree_ok (L := N) (by omega) 60 0 0 (by decide) (by decide)
  have hl : LT 3 t := hl
  have kt : m__law_tree 60 [.lst (ntl N), .int 0, .int 0] = .ok (td t) := kt
  have hk' : kp t ≤ 18 := hl.k
  have hh := hl.h
  have i0 : ixD (.lst (ntl M)) (.int 0) = some (.int ((M.getD 0 0 : Nat) : Int)) := ntl_ix 0 (by omega)
  have m5 : modD (.int ((M.getD 0 0 : Nat) : Int)) (.int 5) = some (.int ((M.getD 0 0 % 5 : Nat) : Int)) := mod_nat _ 5 (by decide)
  have hlen : M.getD 0 0 % 5 ≤ 4 := by have := Nat.mod_lt (M.getD 0 0) (y := 5) (by decide); omega
  generalize M.getD 0 0 % 5 = len at m5 hlen
  obtain ⟨W, kW, hW⟩ := lwords_ok hlen 60 t (by omega) (gw_gn t hl.w) (by omega) (fun x hx => hl.a x hx)
  have hov : OvA (Lang t) := AbcT.ov fun x hx => hl.a x hx
  have zW := hW.few hov hlen
  have gW := hW.good hov hlen
  have V : Vs t len (sortP W) := ⟨hl, hlen, (sortP_perm W).nodup_iff.mpr hW.1, fun w => by rw [(sortP_perm W).mem_iff, hW.2], sortP_pw W⟩
  have hs := sortp_ok (l := W) fun w hw => (gW w hw).1
  have hi : initE 14 [.lst (ns.map D.int)] = [.val (.lst (ns.map D.int)), .no, .no, .no, .no, .no, .no, .no, .no, .no, .no, .no, .no, .no] := rfl
  have q1 : mapF (.one 10) tYesD y1_law [.val (.lst (ns.map D.int)), .val (.lst (ntl N)), .val (td t), .val (.lst (ntl M)), .val (.int (len : Nat)), .no, .no, .no, .no, .no, .no, .no, .no, .no] (W.map wD) = .ok (W.map pW) := mapF_enc (enc := wD) fun w _ => ⟨_, rfl, rfl, by
    have : (stl w).length = w.length := List.length_map ..
    unfold y1_law
    simp_arith [this]⟩
  have q2 : mapF (.all [12, 10]) tYesD y2_law [.val (.lst (ns.map D.int)), .val (.lst (ntl N)), .val (td t), .val (.lst (ntl M)), .val (.int (len : Nat)), .no, .no, .no, .no, .no, .no, .no, .no, .no] ((sortP W).map pW) = .ok ((sortP W).map wD) := mapF_enc (enc := pW) fun w _ => ⟨[.val (.lst (ns.map D.int)), .val (.lst (ntl N)), .val (td t), .val (.lst (ntl M)), .val (.int (len : Nat)), .no, .no, .no, .no, .no, .val (wD w), .no, .val (.int (w.length : Nat)), .no], rfl, rfl, by
    unfold y2_law
    simp_arith []⟩
  have z1 : (W.map pW).length ≤ 16777216 := by rw [List.length_map]; omega
  have z2 : ((sortP W).map wD).length ≤ 16777216 := by rw [List.length_map, (sortP_perm W).length_eq]; omega
  have r7 : rngD [.int 7] = some ((List.range 7).map fun k : Nat => D.int (k : Int)) := rng1 7 (by decide)
  obtain ⟨δ', e1, y7, e2⟩ := forF_run (t := .one 7) (f := l1_law) (enc := fun k : Nat => D.int (k : Int)) (fun pre δ => ∃ y7, δ = [.val (.lst (ns.map D.int)), .val (.lst (ntl N)), .val (td t), .val (.lst (ntl M)), .val (.int (len : Nat)), .val (.lst ((sortP W).map wD)), .val (td (dpT t pre.length)), y7, .no, .no, .no, .no, .no, .no]) (List.range 7) (δ := [.val (.lst (ns.map D.int)), .val (.lst (ntl N)), .val (td t), .val (.lst (ntl M)), .val (.int (len : Nat)), .val (.lst ((sortP W).map wD)), .val (td t), .no, .no, .no, .no, .no, .no, .no]) ⟨.no, rfl⟩ (fun pre k δ hp ⟨y7, q⟩ => by
    subst q
    refine ⟨_, rfl, [.val (.lst (ns.map D.int)), .val (.lst (ntl N)), .val (td t), .val (.lst (ntl M)), .val (.int (len : Nat)), .val (.lst ((sortP W).map wD)), .val (td (dpT t (pre.length + 1))), .val (.int (k : Nat)), .no, .no, .no, .no, .no, .no], ?_, .val (.int (k : Nat)), by rw [List.length_append]; rfl⟩
    unfold l1_law
    simp_arith []
    rfl)
  rw [List.length_range] at e2
  subst e2
  have hrep : repD (.tup [.tup [sD "do", sD "a"]]) (.int 25) = some (.tup (List.replicate 25 (D.tup [sD "do", sD "a"]))) := rfl
  have hwide : addD (.tup [sD "xor"]) (.tup (List.replicate 25 (D.tup [sD "do", sD "a"]))) = some (td wT) := rfl
  have h2 := rest2_ok V hM (x0 := .val (.lst (ns.map D.int))) (x1 := .val (.lst (ntl N))) (x6 := .val (td (dpT t 7))) (x7 := y7) (x8 := .val (td wT)) (x10 := .no) (x11 := .no) (x12 := .no) (x13 := .no)
  unfold wrongs at h2
  generalize hR : List.replicate 25 (D.tup [sD "do", sD "a"]) = R at hrep hwide
  generalize td wT = dw at hwide h2
  generalize td (dpT t 7) = dd at e1 h2
  generalize (sortP W).map wD = VD at q2 z2 e1 h2
  generalize (sortP W).map pW = VP at hs q2
  rw [law_cut]
  unfold headLaw
  rw [runF, hi]
  simp_arith [k0, kN, kt, k1, kM, i0, m5, kW, q1, z1, hs, q2, z2, r7, e1, hrep, hwide, h2]
theorem plain {p : Prop} (ns : List Int) (hl : ns.length ≤ 63) (hb : p) : m_law [.lst (ns.map D.int)] = .ok (.bl true) := plain89 ns
end K89

set_option Elab.async false
set_option linter.all false
set_option maxRecDepth 100000
set_option maxHeartbeats 0
namespace K89
open PySem PySem.Spec PyProof.Rows L2 Dl
theorem at_law {w : World} {mg : Str → Option Value} {a : Addr} {h : Heap} (Y : hk.says w h) (G : h.Ns mainGlobals mg) (hmg : mg ("law" : Str) = some (.ref a)) : ∃ K : PySem.W.Frag, K.In h ∧ LamX.LawAtS PySem.Challenge.rw_tokenworks_k89_words_of_trees w K (L2.CX (PySem.Challenge.rw_tokenworks_k89_words_of_trees).prog w) 184 63 "script" mg a h := by
  obtain ⟨K, KX, c⟩ := Y
  have gl : mg ("law" : Str) = some (.ref (He.ga K "law")) := He.glo_ok KX G (He.SaysD.facts c.t.d (f := .glo "law") (by unfold fa; simp))
  have e := hmg.symm.trans gl
  cases e
  obtain ⟨fd, F⟩ := He.SaysD.defs c.t.d (d := d_fn_law) (by unfold fn; simp)
  have b := FunD.bindsA (ps := ["script"]) F fun _ _ _ _ _ _ us hl => match us, hl with | [_], _ => rfl
  refine ⟨K, KX, fd, tf.map (He.cT K), spD ⟨K, (PySem.Challenge.rw_tokenworks_k89_words_of_trees).prog, w⟩ (MoL K tg tl) 1 m_law, fun p hp => ?_, fun p hp => ?_, fun p hp => ?_, fun s u => b s [u] rfl, fun H a ns hl hb ht hS => ?_, fun base hk hg ht => ?_⟩
  · obtain ⟨q, hq, rfl⟩ := List.mem_map.mp hp
    exact c.empty q hq
  · obtain ⟨q, hq, rfl⟩ := List.mem_map.mp hp
    exact c.out q hq
  · obtain ⟨q, hq, rfl⟩ := List.mem_map.mp hp
    exact PySem.W.codeHd_of_K KX (c.hd q hq)
  · refine ent_law (plain ns hl hb) (tabs_L fun q hq => ht (He.cT K q) (List.mem_map_of_mem hq)) hS
  · exact ok_law (P := (PySem.Challenge.rw_tokenworks_k89_words_of_trees).prog) (w := w) ⟨hk, hg, c.t.d, c.more, fun p hp => ht (He.cT K p) (List.mem_map_of_mem hp)⟩ F
end K89
open PySem PySem.W PySem.Calls PyProof.Rows
theorem PySem.Challenge.cw_tokenworks_k89_words_of_trees_holds : PySem.Challenge.rw_tokenworks_k89_words_of_trees.Holds := by
  w_on; o_law
  refine HandSHeadRun.head_any (r := OpenLaw.row PySem.Challenge.rw_tokenworks_k89_words_of_trees) (q := view (OpenLaw.row PySem.Challenge.rw_tokenworks_k89_words_of_trees).prog [38]) (H := K89.hk) (ob := K89.ob) (M := 4000) (loose := K89.loose) (d := HandSHeadRun.topDef (OpenLaw.row PySem.Challenge.rw_tokenworks_k89_words_of_trees).prog 38) (kwd := []) K89.ob_eq
    (by kernel_rfl) (fun s => by kernel_rfl) K89.run (by kernel_rfl) (by kernel_rfl) (by kernel_rfl) (by rfl) (by first | assumption | decide +kernel) (by decide +kernel) ⟨rfl, rfl, rfl, rfl, rfl, by decide +kernel⟩ ?hw ?hc
  case hw => w_witness2
  case hc =>
    refine LamX.walk_ofTsE (l := PySem.Challenge.rw_tokenworks_k89_words_of_trees) (n := 63) (k := 184) (x := "script") (CX := fun w => L2.CX (PySem.Challenge.rw_tokenworks_k89_words_of_trees).prog w) rfl (by decide) (by kernel_rfl) ⟨rfl, by decide, by decide⟩ ?F ?C
    case F =>
      intro w mg fa h Y G hmg0
      have hmg : mg ("law" : PySem.Str) = some (.ref fa) := by
        have e : (HandSHeadRun.topDef (OpenLaw.row PySem.Challenge.rw_tokenworks_k89_words_of_trees).prog 38).name = ("law" : PySem.Str) := by kernel_rfl
        rw [← e]
        exact hmg0
      exact K89.at_law Y G hmg
    case C =>
      intro w H s e s' z
      obtain ⟨_, _, _, _, _, _, _, _, _, _, _, w⟩ := z
      exact w.2

