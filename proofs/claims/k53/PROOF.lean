import PyProof.Rows.All
import Wide.All
import OpenK.AllK
import Wide.FinOn
import PyProof.EqAt
import PyProof.EqKinds
import PyProof.TupleCall
import HandS.ForMost
import HandS.ForExc
import HandS.Deep
import HandS.TupAny
import HandS.TupMul
import HandS.AnyAll
import HandS.HeadHook4
import HandS.Strs
import KE.KeyNested
import HandS.IsInst
import HandS.ReplaceLit
import PyProof.GenQ
import HandS.GenOver
import HandS.HeadWalk
import HandS.FStr
import HandS.Text
import HandS.RaiseMore
import HandS.CallSlots
import HandS.Conv
import KE.KDictDisplayH
import HandS.Rev
import HandS.Keys
import HandS.MakeKwOnly
import HandS.TryMany
import HandS.SortInts
import HandS.Style
import KE.DataMinMax
import HandS.RevTup
import PyProof.ListNew
import PyProof.SeqWrite
import PyProof.ListRange
import KE.KSortTupG
import KE.KSortTupUse
import HandS.DictComp
import PyProof.TupleIter
import HandS.SetBool
import KE.SortData
import PyProof.CollectStr
import HandS.Lambda
import HandS.SortKw
import KE.SortKeyHeap
import HandS.Iter
import KE.KDictCopyH
import HandS.TupSets
import HandS.Remove
import HandS.ReplaceList
import PySem.Challenge.RW_tokenworks_k53_paces_of_rings
import HandS.Head2
import HandS.HeadEnd
set_option Elab.async false
set_option linter.all false
set_option maxRecDepth 100000
set_option maxHeartbeats 2000000
/-! Tuples that are known to have no dict: made so, kept so; their index and count. -/
namespace Dl
open PySem PySem.Spec PyProof.Rows L2

/-- the object at a has no dict, as far as it is known -/
def Nd (K : PySem.W.Frag) (H : Hp) (a : Addr) : Prop := (∃ o u, H a = some (.frz o u) ∧ o.dict = none) ∨ ∃ o, K.lookup a = some o ∧ o.dict = none
def SqU (K : PySem.W.Frag) (H : Hp) (a : Addr) (xs : List V) : Prop := SqT K H a xs ∧ Nd K H a
/-- a new tuple, frozen with its object -/
def NewT (H : Hp) (xs : List V) (Q : VK) : Prop := ∀ p o, H p = none → o.dict = none → Q (.ref p) (upd H p (.frz o (.tup xs)))
theorem SqU.of {K : PySem.W.Frag} {H : Hp} {a : Addr} {o : Obj} {xs : List V} (h : H a = some (.frz o (.tup xs))) (d : o.dict = none) : SqU K H a xs := ⟨.inl (.inr ⟨o, h⟩), .inl ⟨o, _, h, d⟩⟩
section
variable {X : Cx} {pins : List (Addr × Obj)} {σ : L2.St} {H : Hp} {s : Shared} {Q : VK}
theorem Inv.nd (I : Inv X pins σ H s) {a : Addr} (h : Nd X.K H a) : ∃ o, s.heap.get? a = some o ∧ o.dict = none := by
  rcases h with ⟨o, u, h, d⟩ | ⟨o, h, d⟩
  · exact ⟨o, (I.hok a _ h).1, d⟩
  · exact ⟨o, I.kIn a o h, d⟩
theorem Inv.newT (I : Inv X pins σ H s) {xs : List V} {its : List Value} {t' : Nat} {h' : Heap} (k : ∀ b u, s.heap.get? b = some u → h'.get? b = some u) (hn : h'.objs.size = s.heap.objs.size) (r : Vals xs its) (z : xs.length ≤ sizeLine) (q : NewT H xs Q) :
    EP X pins σ Q (.ref s.heap.objs.size) { s with heap := s.heap.push { cls := .type "tuple", data := .seq its.toArray }, toks := t' } := by
  have hf : H s.heap.objs.size = none := I.hok.fresh (Nat.le_refl _)
  refine ⟨.ref s.heap.objs.size, upd H s.heap.objs.size (.frz { cls := .type "tuple", data := .seq its.toArray } (.tup xs)), I.laid (t' := t') (fun b u e => Heap.get?_push_of_some _ e) (Nat.le_refl _) ?_, rfl, q _ _ hf rfl⟩
  exact ⟨Heap.get?_push_size _ rfl, z, its, r, ⟨_, Heap.get?_push_size _ rfl, rfl, _, rfl⟩⟩
theorem Inv.newT0 (I : Inv X pins σ H s) {xs : List V} {its : List Value} {t' : Nat} (r : Vals xs its) (z : xs.length ≤ sizeLine) (q : NewT H xs Q) :
    EP X pins σ Q (.ref s.heap.objs.size) { s with heap := s.heap.push { cls := .type "tuple", data := .seq its.toArray }, toks := t' } := Inv.newT (h' := s.heap) I (fun _ _ e => e) rfl r z q
end
section
variable {X : Cx} {es : List Expr} {t : TA} {pos : Pos}
def tTupF (t : TA) : TE := fun σ H Q => t σ H fun xs H1 => xs.length ≤ sizeLine ∧ NewT H1 xs Q
theorem pe_tupF {x1} (h : PA X es t) : PE X (.Tuple es x1 pos) (tTupF t) := by
  refine ⟨fun pins s σ H Q I hq => ?_⟩
  refine wpAny_Tuple_spliced (thn (h.run pos pins s σ H _ I hq) fun us s1 ⟨xs, H1, I1, r, z, q⟩ => ⟨by rw [← r.length]; exact z, ?_⟩)
  exact Inv.newT0 I1 r z q
theorem call_tuple_ofF : CallR X (.type "tuple") (fun xs H Q => ∃ p ys, xs = [.ref p] ∧ ((SqL X.K H p ys ∧ NewT H ys Q) ∨ (SqT X.K H p ys ∧ Q (.ref p) H))) := by
  intro pins s σ H xs us Q I r h
  obtain ⟨p, ys, rfl, h⟩ := h
  obtain ⟨u, rfl, rx⟩ := vals1 r
  cases rx
  rcases h with ⟨hq, q⟩ | ⟨hq, q⟩
  · obtain ⟨its, r', pl, hz⟩ := I.list hq
    have hlen := r'.length
    refine call_tuple_list pl.isList (fun h' kp => ?_) (by simp only [List.size_toArray] <;> omega)
    have I1 : Inv X pins σ H { s with heap := h' } := I.kept (t' := s.toks) kp
    exact Inv.newT0 I1 r' hz q
  · obtain ⟨its, r', pl, hz⟩ := I.tuple hq
    exact call_tuple_same pl ⟨.ref p, H, I, rfl, q⟩
def rCatF (K : PySem.W.Frag) : R2 := fun x y H Q => ∃ a b xs ys, x = .ref a ∧ y = .ref b ∧ SqT K H a xs ∧ SqT K H b ys ∧ xs.length + ys.length ≤ sizeLine ∧
  (xs = [] → Q (.ref b) H) ∧ (xs ≠ [] → ys = [] → Q (.ref a) H) ∧ (xs ≠ [] → ys ≠ [] → NewT H (xs ++ ys) Q)
theorem op_catF : OpR X (binaryOp .Add) (rCatF X.K) := by
  intro pins s σ H x y v u Q I rx ry h
  obtain ⟨a, b, xs, ys, rfl, rfl, ha, hb, hz, q0, q1, q2⟩ := h
  cases rx
  cases ry
  obtain ⟨its, r1, p1, _⟩ := I.tuple ha
  obtain ⟨its2, r2, p2, _⟩ := I.tuple hb
  by_cases hx : xs = []
  · subst hx
    cases r1
    exact cat_tup0 p1 p2 ⟨.ref b, H, I, rfl, q0 rfl⟩
  · refine HT.cat_tup p1 p2 (fun z => hx (r1.nil_iff.mp z)) (fun z => ⟨.ref a, H, I, rfl, q1 hx (r2.nil_iff.mp z)⟩) (fun z => ?_) (by rw [← r1.length, ← r2.length]; exact hz)
    exact Inv.newT0 (t' := s.toks) I (r1.append r2) (by rw [List.length_append]; exact hz) (q2 hx fun w => z (r2.nil_iff.mpr w))
def rSlF (K : PySem.W.Frag) : V → Option Int → Option Int → Hp → VK → Prop := fun x lo hi H Q => ∃ a xs, x = .ref a ∧ SqT K H a xs ∧
  (HT.sIx xs.length 0 lo = 0 ∧ HT.sIx xs.length xs.length hi = xs.length → Q (.ref a) H) ∧ (¬ (HT.sIx xs.length 0 lo = 0 ∧ HT.sIx xs.length xs.length hi = xs.length) → NewT H (cutV xs lo hi) Q)
theorem sl_tupF : SlR X (rSlF X.K) := by
  intro pins s σ H x v vl vu lo hi sl Q I rx hs pl pu h
  obtain ⟨a, xs, rfl, hx, q1, q2⟩ := h
  cases rx
  obtain ⟨its, r, ht, hz⟩ := I.tuple hx
  have hlen : its.toArray.size = xs.length := by rw [List.size_toArray]; exact r.length.symm
  refine ⟨"tuple", _, PyProof.Rows.slot_tuple_getitem.lookup, ht.typeIs, ?_⟩
  by_cases hw : HT.sIx xs.length 0 lo = 0 ∧ HT.sIx xs.length xs.length hi = xs.length
  · exact getItem_tuple_whole ht hs pl pu (by rw [hlen]; exact hw) ⟨.ref a, H, I, rfl, q1 hw⟩
  · refine HT.getItem_tuple_cut ht hs pl pu (by rw [hlen]; exact hw) ?_ (by rw [hlen]; exact hz)
    rw [hlen]
    exact Inv.newT0 (t' := s.toks) I ((r.drop (HT.sIx xs.length 0 lo)).take (HT.sIx xs.length xs.length hi - HT.sIx xs.length 0 lo)) (Nat.le_trans (cutV_length xs lo hi) hz) (q2 hw)
end

/-! ### a builtin's method on a value without a dict -/
/-- the value is of the builtin type T, and no dict is in its way -/
def tyW (K : PySem.W.Frag) (T : String) (x : V) (H : Hp) : Prop := tyV K T x H ∨ ∃ a xs, x = .ref a ∧ T = "tuple" ∧ SqU K H a xs
section
variable {X : Cx} {o e : Expr} {es : List Expr} {to : TE} {t : TA} {name : Str} {apos cpos : Pos} {T id : String} {r : V → List V → Hp → VK → Prop}
theorem tyW_is {pins : List (Addr × Obj)} {σ : L2.St} {H : Hp} {s : Shared} {T : String} {x : V} {v : Value} (I : Inv X pins σ H s) (r : RelV x v) (ty : tyW X.K T x H) :
    s.TypeIs v T ∧ ∀ a, v = .ref a → ∃ ob, s.heap.get? a = some ob ∧ ob.dict = none := by
  rcases ty with ty | ⟨a, xs, rfl, rfl, hq, hn⟩
  · exact tyV_is I r ty
  · cases r
    obtain ⟨its, _, pl, _⟩ := I.tuple hq
    refine ⟨pl.typeIs, fun a' e => ?_⟩
    cases e
    exact Inv.nd I hn
def tBW (K : PySem.W.Frag) (T : String) (r : V → List V → Hp → VK → Prop) (to : TE) (t : TA) : TE := fun σ H Q => to σ H fun x H1 => tyW K T x H1 ∧ t σ H1 fun xs H2 => r x xs H2 Q
theorem pe_bw (pa : PlainAttrs T) (slot : Slot T name id) (hty : typeOf (.builtin id) = pure (.type "method_descriptor")) (hm : MtR X id r) (ho : PE X o to) (ha : PA X (e :: es) t)
    (hbase : attributeBase o name X.env (eval o X.env) = eval o X.env := by rfl)
    (hfew : ((backTo cpos (starEach (e :: es) X.env)).all (fun x => !x.1) && (backToKw cpos (keywordEach [] X.env)).all (fun x => x.1.isSome)
      && decide ((e :: es).length + ([] : List Keyword).length + (if ([] : List Keyword).isEmpty then 0 else 1) < 30)) = true := by rfl)
    (hline : (apos.endLine == cpos.line) = true := by rfl) (hs : starEach (e :: es) X.env = (false, eval e X.env) :: starEach es X.env := by rfl) (hplain : (backTo cpos (starEach es X.env)).any (·.1) = false := by rfl) :
    PE X (.Call (.Attribute o name apos) (e :: es) [] cpos) (tBW X.K T r to t) := by
  refine ⟨fun pins s σ H Q I h => ?_⟩
  refine wpAny_Call_method_late hbase hfew hline rfl (thn (ho.run pins s σ H _ I h) fun v s1 ⟨x, H1, I1, r1, ty, q1⟩ => ?_)
  obtain ⟨h1, h2⟩ := tyW_is I1 r1 ty
  refine ⟨T, id, pa, slot, hty, h1, h2, ?_⟩
  have hA := ha.run cpos pins s1 σ H1 _ I1 q1
  rw [hs] at hA ⊢
  refine Calls.callWith_builtin (by show (false || (backTo cpos (starEach es X.env)).any (·.1)) = false; rw [hplain] <;> rfl) (Calls.evalArgs_plain ?_)
  exact thn hA fun us s2 ⟨vs, H2, I2, r2, q2⟩ => hm pins s2 σ H2 x vs v us Q I2 r1 r2 q2

/-! ### index and count -/
theorem room_inT {A : Around} {d : PyData} {ds : List PyData} (h : SeqAt.shaped d = true) (hu : A.units + 65 < cLine) : A.units + 1 + min (PyData.depthAll ds) d.depth < cLine := by
  have h1 := SeqAt.depth_of_shaped h
  have h2 : min (PyData.depthAll ds) d.depth ≤ d.depth := Nat.min_le_right _ _
  omega
/-- t.index(x): the first place of an equal one -/
def rTIndex (K : PySem.W.Frag) : V → List V → Hp → VK → Prop := fun x xs H Q => ∃ (a : Addr) (y : V) (d : PyData) (ds : List PyData) (j : Nat) (z : PyData), x = V.ref a ∧ xs = [y] ∧ Dp K H (V.ref a) (.tuple ds) ∧ Dp K H y d ∧
  SeqAt.shaped (.tuple ds) = true ∧ SeqAt.shaped d = true ∧ ds[j]? = some z ∧ PyData.eqv z d = true ∧ (∀ (m : Nat) (z' : PyData), m < j → ds[m]? = some z' → PyData.eqv z' d = false) ∧ Q (.int (j : Nat)) H
theorem mt_tindex (hu : X.A.units + 65 < cLine) : MtR X "tuple.index" (rTIndex X.K) := by
  intro pins s σ H x xs v us Q I rx rxs h
  obtain ⟨a, y, d, ds, j, z, rfl, rfl, hl, hy, sl, sd, hz, hzj, hno, q⟩ := h
  cases rx
  cases rxs with
  | cons ry rt =>
    rename_i uy ut
    cases rt
    obtain ⟨bs, r1⟩ := Dp.reads I d y uy hy ry
    have hxs : PyData.canLayAll0 ds = true := SeqAt.canLay_of_shaped sl
    have hroom : X.A.units + 1 + min (PyData.depthAll ds) d.depth < cLine := room_inT sd hu
    cases hl with
    | tup hs ha =>
      obtain ⟨its, rv, ⟨⟨cls, dd, data, sls⟩, ho, hc, n, hdt⟩, hlen⟩ := I.tuple hs
      simp only at hc hdt
      subst hc hdt
      obtain ⟨as, h4⟩ := Dp.readsAll I ds _ its ha rv
      have hn : its.length = ds.length := SeqAt.ReadsAll.length ds its as h4
      have hmap : its.map (SeqAt.readOf s.heap) = ds := SeqAt.readsAll_map ds its as hxs h4
      obtain ⟨hjd, _⟩ := List.getElem?_eq_some_iff.mp hz
      have hjl : j < its.length := by omega
      have hj : j < its.toArray.size := by simpa using hjl
      have at_ : ∀ (m : Nat) (hm : m < its.toArray.size) (z' : PyData), ds[m]? = some z' → SeqAt.readOf s.heap its.toArray[m] = z' := by
        intro m hm z' hz'
        have hml : m < its.length := by simpa using hm
        rw [← hmap, List.getElem?_map, List.getElem?_eq_getElem hml] at hz'
        have e1 : SeqAt.readOf s.heap its[m] = z' := Option.some.inj (show some (SeqAt.readOf s.heap its[m]) = some z' from hz')
        simpa using e1
      refine call_meets PySem.F.slot_tuple_index ⟨_, ho, rfl⟩ PySem.F.entry_tuple_index (PySem.F.args_tuple_index_2 _ _)
        (TI.tuple_indexAt a its.toArray n dd sls uy (fun u => PyData.eqv (SeqAt.readOf s.heap u) d) j hj ?_ ?_) ⟨ho, SeqAt.items_eqAt (vs := its.toArray) (show ReadsAll s.heap its.toArray.toList ds as from h4) r1 hxs (SeqAt.canLay_of_shaped sd) hroom, ?_⟩
      · show PyData.eqv (SeqAt.readOf s.heap its.toArray[j]) d = true
        rw [at_ j hj z hz]
        exact hzj
      · intro m hm hmj
        have hmd : m < ds.length := by rw [← hn]; simpa using hm
        have hz' : ds[m]? = some ds[m] := List.getElem?_eq_getElem hmd
        show PyData.eqv (SeqAt.readOf s.heap its.toArray[m]) d = false
        rw [at_ m hm _ hz']
        exact hno m _ hmj hz'
      · exact ⟨.int (j : Nat), H, I.tok _, ⟨_, rfl⟩, q⟩
/-- l.count(x), t.count(x) -/
def rCount (K : PySem.W.Frag) : V → List V → Hp → VK → Prop := fun x xs H Q => ∃ (a : Addr) (y : V) (d : PyData) (ds : List PyData), x = V.ref a ∧ xs = [y] ∧ Dp K H (V.ref a) (.list ds) ∧ Dp K H y d ∧
  SeqAt.shaped (.list ds) = true ∧ SeqAt.shaped d = true ∧ Q (.int ((ds.countP fun z => PyData.eqv z d : Nat) : Int)) H
def rTCount (K : PySem.W.Frag) : V → List V → Hp → VK → Prop := fun x xs H Q => ∃ (a : Addr) (y : V) (d : PyData) (ds : List PyData), x = V.ref a ∧ xs = [y] ∧ Dp K H (V.ref a) (.tuple ds) ∧ Dp K H y d ∧
  SeqAt.shaped (.tuple ds) = true ∧ SeqAt.shaped d = true ∧ Q (.int ((ds.countP fun z => PyData.eqv z d : Nat) : Int)) H
theorem mt_count (hu : X.A.units + 65 < cLine) : MtR X "list.count" (rCount X.K) := by
  intro pins s σ H x xs v us Q I rx rxs h
  obtain ⟨a, y, d, ds, rfl, rfl, hl, hy, sl, sd, q⟩ := h
  cases rx
  cases rxs with
  | cons ry rt =>
    rename_i uy ut
    cases rt
    obtain ⟨bs, r1⟩ := Dp.reads I d y uy hy ry
    have hxs : PyData.canLayAll0 ds = true := SeqAt.canLay_of_shaped sl
    have hroom : X.A.units + 1 + min (PyData.depthAll ds) d.depth < cLine := room_inT sd hu
    cases hl with
    | lst hs ha =>
      obtain ⟨its, rv, ⟨⟨cls, dd, data, sls⟩, n, ho, hc, hdn, hdt⟩, hlen⟩ := I.list hs
      simp only at hc hdt
      subst hc hdt
      obtain ⟨as, h4⟩ := Dp.readsAll I ds _ its ha rv
      have hmap : its.map (SeqAt.readOf s.heap) = ds := SeqAt.readsAll_map ds its as hxs h4
      have hcnt : its.countP (fun u => PyData.eqv (SeqAt.readOf s.heap u) d) = ds.countP fun z => PyData.eqv z d := by
        rw [← hmap, List.countP_map]; rfl
      refine call_meets PySem.F.slot_list_count ⟨_, ho, rfl⟩ PySem.F.entry_list_count (PySem.F.args_list_count_2 _ _)
        (SeqAt.list_countAt a its.toArray n dd sls uy (fun u => PyData.eqv (SeqAt.readOf s.heap u) d)) ⟨ho, SeqAt.items_eqAt (vs := its.toArray) (show ReadsAll s.heap its.toArray.toList ds as from h4) r1 hxs (SeqAt.canLay_of_shaped sd) hroom, ?_⟩
      show EP X pins σ Q (.int ((its.countP (fun u => PyData.eqv (SeqAt.readOf s.heap u) d) : Nat) : Int) s.toks) _
      rw [hcnt]
      exact ⟨.int _, H, I.tok _, ⟨_, rfl⟩, q⟩
theorem mt_tcount (hu : X.A.units + 65 < cLine) : MtR X "tuple.count" (rTCount X.K) := by
  intro pins s σ H x xs v us Q I rx rxs h
  obtain ⟨a, y, d, ds, rfl, rfl, hl, hy, sl, sd, q⟩ := h
  cases rx
  cases rxs with
  | cons ry rt =>
    rename_i uy ut
    cases rt
    obtain ⟨bs, r1⟩ := Dp.reads I d y uy hy ry
    have hxs : PyData.canLayAll0 ds = true := SeqAt.canLay_of_shaped sl
    have hroom : X.A.units + 1 + min (PyData.depthAll ds) d.depth < cLine := room_inT sd hu
    cases hl with
    | tup hs ha =>
      obtain ⟨its, rv, ⟨⟨cls, dd, data, sls⟩, ho, hc, n, hdt⟩, hlen⟩ := I.tuple hs
      simp only at hc hdt
      subst hc hdt
      obtain ⟨as, h4⟩ := Dp.readsAll I ds _ its ha rv
      have hmap : its.map (SeqAt.readOf s.heap) = ds := SeqAt.readsAll_map ds its as hxs h4
      have hcnt : its.countP (fun u => PyData.eqv (SeqAt.readOf s.heap u) d) = ds.countP fun z => PyData.eqv z d := by
        rw [← hmap, List.countP_map]; rfl
      refine call_meets PySem.F.slot_tuple_count ⟨_, ho, rfl⟩ PySem.F.entry_tuple_count (PySem.F.args_tuple_count_2 _ _)
        (SeqAt.tuple_countAt a its.toArray n dd sls uy (fun u => PyData.eqv (SeqAt.readOf s.heap u) d)) ⟨ho, SeqAt.items_eqAt (vs := its.toArray) (show ReadsAll s.heap its.toArray.toList ds as from h4) r1 hxs (SeqAt.canLay_of_shaped sd) hroom, ?_⟩
      show EP X pins σ Q (.int ((its.countP (fun u => PyData.eqv (SeqAt.readOf s.heap u) d) : Nat) : Int) s.toks) _
      rw [hcnt]
      exact ⟨.int _, H, I.tok _, ⟨_, rfl⟩, q⟩
end
end Dl

set_option Elab.async false
set_option linter.all false
set_option maxRecDepth 100000
set_option maxHeartbeats 2000000
/-! A layer over HandS: values as plain data (D), defs as plain functions over data. -/
namespace Dl
open PySem PySem.Spec PyProof.Rows L2

/-! ### data -/
inductive D where
  | non
  | bl (b : Bool)
  | int (i : Int)
  | str (x : Str)
  | tup (xs : List D)
  | lst (xs : List D)
  /-- an instance of the class c: its attributes' names and values -/
  | obj (c : String) (fl : List String) (xs : List D)
  /-- a dict: keys that are ints and texts; keys that are tuples -/
  | dk (ks : List Key) (xs : List D)
  | dt (ks xs : List D)
  deriving Inhabited

mutual
def D.beq : D → D → Bool
  | .non, e => match e with | .non => true | _ => false
  | .bl a, e => match e with | .bl b => a == b | _ => false
  | .int a, e => match e with | .int b => a == b | _ => false
  | .str a, e => match e with | .str b => a == b | _ => false
  | .tup a, e => match e with | .tup b => D.beqs a b | _ => false
  | .lst a, e => match e with | .lst b => D.beqs a b | _ => false
  | .obj c fl a, e => match e with | .obj c' fl' b => decide (c = c') && (decide (fl = fl') && D.beqs a b) | _ => false
  | .dk ks a, e => match e with | .dk ks' b => decide (ks = ks') && D.beqs a b | _ => false
  | .dt ks a, e => match e with | .dt ks' b => D.beqs ks ks' && D.beqs a b | _ => false
def D.beqs : List D → List D → Bool
  | [], e => match e with | [] => true | _ => false
  | x :: xs, e => match e with | y :: ys => D.beq x y && D.beqs xs ys | [] => false
end
mutual
theorem D.beq_iff : ∀ a b : D, D.beq a b = true ↔ a = b
  | .non, b => by cases b <;> simp [D.beq]
  | .bl _, b => by cases b <;> simp [D.beq]
  | .int _, b => by cases b <;> simp [D.beq]
  | .str _, b => by cases b <;> simp [D.beq]
  | .tup xs, b => by cases b <;> simp [D.beq, D.beqs_iff xs]
  | .lst xs, b => by cases b <;> simp [D.beq, D.beqs_iff xs]
  | .obj c fl xs, b => by cases b <;> simp [D.beq, D.beqs_iff xs]
  | .dk ks xs, b => by cases b <;> simp [D.beq, D.beqs_iff xs]
  | .dt ks xs, b => by cases b <;> simp [D.beq, D.beqs_iff xs, D.beqs_iff ks]
theorem D.beqs_iff : ∀ a b : List D, D.beqs a b = true ↔ a = b
  | [], b => by cases b <;> simp [D.beqs]
  | x :: xs, b => by cases b <;> simp [D.beqs, D.beq_iff x, D.beqs_iff xs]
end
instance : DecidableEq D := fun a b => decidable_of_iff (D.beq a b = true) (D.beq_iff a b)

/-- a result: a value, an exception of a class, or what this layer does not speak of -/
inductive R (α : Type) where
  | ok (a : α)
  | exc (c : String)
  | bad
def R.bind {α β : Type} (r : R α) (f : α → R β) : R β := match r with
  | .ok a => f a
  | .exc c => .exc c
  | .bad => .bad
instance : Monad R where
  pure := R.ok
  bind := R.bind
theorem R.bind_ok {α β : Type} (a : α) (f : α → R β) : (R.ok a >>= f) = f a := rfl
theorem R.bind_exc {α β : Type} (c : String) (f : α → R β) : ((R.exc c : R α) >>= f) = R.exc c := rfl
theorem R.bind_bad {α β : Type} (f : α → R β) : ((R.bad : R α) >>= f) = R.bad := rfl
/-! ### keys -/
mutual
/-- the data as a key (True is 1) -/
def D.key : D → Option NestedKey
  | .non => some .none
  | .bl b => some (.num (if b then 1 else 0))
  | .int i => some (.num i)
  | .str x => some (.text x)
  | .tup xs => (D.keyAll xs).map .tup
  | .lst _ => none
  | .obj .. => none
  | .dk .. => none
  | .dt .. => none
def D.keyAll : List D → Option (List NestedKey)
  | [] => some []
  | x :: xs => (D.key x).bind fun k => (D.keyAll xs).map fun r => k :: r
end

/-! ### data in the heap -/
/-- the world of the module: what is known of it, the program, the outer world -/
structure Kw where
  k : PySem.W.Frag
  P : Program
  w : World
instance : Coe Kw PySem.W.Frag := ⟨Kw.k⟩
abbrev kwX (X : Cx) : Kw := ⟨X.K, X.prog, X.w⟩
/-- the object at p is just o -/
def dtO (p : Addr) (o : Obj) : HO := .ext fun h => h.get? p = some o
/-- o is a dict with the keys ks (standing at kas) and the values vs -/
def DtR (K : Kw) (p : Addr) (o : Obj) (ks : List D) (kas vs : List V) : Prop :=
  (p == sysModules) = false ∧ o.ExactDict ∧ ∃ (es : Array DictEntry) (ep : Nat) (xs : List (NestedKey × Addr × Value)), o.data = .dict es ep ∧ es.toList = xs.map (entryOfKey (nestedKind K.P K.w)) ∧ (xs.map (·.1)).Nodup ∧ xs.length ≤ sizeLine ∧
    ks.map D.key = xs.map (fun x => some x.1) ∧ (∀ x ∈ xs, x.1.depth ≤ 8) ∧ kas = xs.map (fun x => V.ref x.2.1) ∧ Vals vs (xs.map (·.2.2))
mutual
def Rep (K : Kw) (H : Hp) : D → V → Prop
  | .non, v => v = .non
  | .bl b, v => v = .bl b
  | .int i, v => v = .int i
  | .str x, v => v = .str x
  | .tup ds, v => ∃ a vs, v = .ref a ∧ SqU K H a vs ∧ Reps K H ds vs
  | .lst ds, v => ∃ a vs, v = .ref a ∧ SqL K H a vs ∧ Reps K H ds vs
  | .obj c fl ds, v => ∃ a q vs, v = .ref a ∧ H a = some (.ins (He.ga K (Str.ofString c)) q ((fl.map Str.ofString).zip vs)) ∧ Reps K H ds vs
  | .dk ks ds, v => ∃ a vs, v = .ref a ∧ H a = some (.dK (ks.zip vs)) ∧ ks.length = ds.length ∧ Reps K H ds vs
  | .dt ks ds, v => ∃ a o kas vs, v = .ref a ∧ H a = some (dtO a o) ∧ DtR K a o ks kas vs ∧ Reps K H ks kas ∧ Reps K H ds vs
def Reps (K : Kw) (H : Hp) : List D → List V → Prop
  | [], vs => vs = []
  | d :: ds, vs => ∃ v r, vs = v :: r ∧ Rep K H d v ∧ Reps K H ds r
end

/-- all that is tracked stays -/
def Le (H H' : Hp) : Prop := ∀ a o, H a = some o → H' a = some o
theorem Le.refl {H : Hp} : Le H H := fun _ _ h => h
theorem Le.trans {H H1 H2 : Hp} (a : Le H H1) (b : Le H1 H2) : Le H H2 := fun x o h => b x o (a x o h)
theorem Le.rd {H H' : Hp} (l : Le H H') {a : Addr} {u : HO} (r : Rd H a u) : Rd H' a u := by
  rcases r with r | ⟨o, r⟩
  · exact .inl (l _ _ r)
  · exact .inr ⟨o, l _ _ r⟩
section
variable {G G' H H' : Hp}
section
variable {K : PySem.W.Frag}
theorem Le.sqL (l : Le H H') {a : Addr} {xs : List V} (h : SqL K H a xs) : SqL K H' a xs := h.imp l.rd id
theorem Le.sqT (l : Le H H') {a : Addr} {xs : List V} (h : SqT K H a xs) : SqT K H' a xs := h.imp l.rd id
theorem Le.nd (l : Le H H') {a : Addr} (h : Nd K H a) : Nd K H' a := h.imp (fun ⟨o, u, h, d⟩ => ⟨o, u, l _ _ h, d⟩) id
theorem Le.sqU (l : Le H H') {a : Addr} {xs : List V} (h : SqU K H a xs) : SqU K H' a xs := ⟨l.sqT h.1, l.nd h.2⟩
end
variable {K : Kw}
mutual
theorem Rep.mono (l : Le H H') : ∀ (d : D) (v : V), Rep K H d v → Rep K H' d v
  | .non, _, h => h
  | .bl _, _, h => h
  | .int _, _, h => h
  | .str _, _, h => h
  | .tup ds, _, ⟨a, vs, e, s, r⟩ => ⟨a, vs, e, l.sqU s, Reps.mono l ds vs r⟩
  | .lst ds, _, ⟨a, vs, e, s, r⟩ => ⟨a, vs, e, l.sqL s, Reps.mono l ds vs r⟩
  | .obj _ _ ds, _, ⟨a, q, vs, e, s, r⟩ => ⟨a, q, vs, e, l a _ s, Reps.mono l ds vs r⟩
  | .dk _ ds, _, ⟨a, vs, e, s, hl, r⟩ => ⟨a, vs, e, l a _ s, hl, Reps.mono l ds vs r⟩
  | .dt ks ds, _, ⟨a, o, kas, vs, e, s, t, q, r⟩ => ⟨a, o, kas, vs, e, l a _ s, t, Reps.mono l ks kas q, Reps.mono l ds vs r⟩
theorem Reps.mono (l : Le H H') : ∀ (ds : List D) (vs : List V), Reps K H ds vs → Reps K H' ds vs
  | [], _, h => h
  | d :: ds, _, ⟨v, r, e, h1, h2⟩ => ⟨v, r, e, Rep.mono l d v h1, Reps.mono l ds r h2⟩
end
theorem Reps.length : ∀ {ds : List D} {vs : List V}, Reps K H ds vs → vs.length = ds.length
  | [], _, h => by cases h; rfl
  | d :: ds, _, ⟨v, r, e, _, h⟩ => by rw [e, List.length_cons, List.length_cons, Reps.length h]
theorem Reps.append : ∀ {ds es : List D} {vs ws : List V}, Reps K H ds vs → Reps K H es ws → Reps K H (ds ++ es) (vs ++ ws)
  | [], _, _, _, h, g => by cases h; exact g
  | d :: ds, _, _, _, ⟨v, r, e, h1, h2⟩, g => by rw [e]; exact ⟨v, _, rfl, h1, Reps.append h2 g⟩
theorem Reps.get : ∀ {ds : List D} {vs : List V} {i : Nat} {d : D}, Reps K H ds vs → ds[i]? = some d → ∃ v, vs[i]? = some v ∧ Rep K H d v
  | [], _, _, _, _, h => by simp at h
  | d :: ds, _, 0, _, ⟨v, r, e, h1, h2⟩, h => by rw [e]; simp at h; subst h; exact ⟨v, rfl, h1⟩
  | d :: ds, _, i + 1, _, ⟨v, r, e, h1, h2⟩, h => by
    rw [e]
    obtain ⟨w, e', h'⟩ := Reps.get (i := i) h2 (by simpa using h)
    exact ⟨w, by simpa using e', h'⟩
theorem Reps.take : ∀ {ds : List D} {vs : List V} (n : Nat), Reps K H ds vs → Reps K H (ds.take n) (vs.take n)
  | _, _, 0, _ => by rw [List.take_zero, List.take_zero]; exact rfl
  | [], _, n + 1, h => by cases h; exact rfl
  | d :: ds, _, n + 1, ⟨v, r, e, h1, h2⟩ => by rw [e]; exact ⟨v, _, rfl, h1, Reps.take n h2⟩
theorem Reps.drop : ∀ {ds : List D} {vs : List V} (n : Nat), Reps K H ds vs → Reps K H (ds.drop n) (vs.drop n)
  | _, _, 0, h => h
  | [], _, n + 1, h => by cases h; exact rfl
  | d :: ds, _, n + 1, ⟨v, r, e, h1, h2⟩ => by rw [e]; exact Reps.drop n h2
theorem Reps.set : ∀ {ds : List D} {vs : List V} (n : Nat) {d : D} {v : V}, Reps K H ds vs → Rep K H d v → Reps K H (ds.set n d) (vs.set n v)
  | [], _, _, _, _, h, _ => by cases h; exact rfl
  | d :: ds, _, 0, _, _, ⟨v, r, e, h1, h2⟩, g => by rw [e]; exact ⟨_, _, rfl, g, h2⟩
  | d :: ds, _, n + 1, _, _, ⟨v, r, e, h1, h2⟩, g => by rw [e]; exact ⟨_, _, rfl, h1, Reps.set n h2 g⟩
theorem Reps.one {d : D} {v : V} (h : Rep K H d v) : Reps K H [d] [v] := ⟨v, [], rfl, h, rfl⟩
theorem Reps.reverse : ∀ {ds : List D} {vs : List V}, Reps K H ds vs → Reps K H ds.reverse vs.reverse
  | [], _, h => by cases h; exact rfl
  | d :: ds, _, ⟨v, r, e, h1, h2⟩ => by
    rw [e, List.reverse_cons, List.reverse_cons]
    exact (Reps.reverse h2).append (.one h1)

/-- the tables of code objects: of generators, of lambdas (with the lambda's name) -/
structure Tb where
  gen : Addr → Prop
  lam : Addr → Str → Prop
  dis : ∀ a q, lam a q → ¬ gen a
  one : ∀ a q q', lam a q → lam a q' → q = q'
def Tb.on (t : Tb) (a : Addr) : Prop := t.gen a ∨ ∃ q, t.lam a q
instance : CoeFun Tb (fun _ => Addr → Prop) := ⟨Tb.on⟩
/-- the code object at c bears the name q, for good -/
def CodeK (G : Hp) (c : Addr) (q : Str) : Prop := ∃ (oc : Obj) (u : HO) (vs : Array Value) (t : Tok), G c = some (.frz oc u) ∧ oc.data = .fields vs ∧ vs[1]? = some (.str q t)
/-- a table of code objects; the codes of a lambda's table are known -/
def TabD (t : Tb) (G H : Hp) (a : Addr) : Prop := ∃ ps : Array Value, H a = some (.tbl ps) ∧ TriplesOk ps.toList ∧ ∀ q, t.lam a q → ∀ (pos : Pos) (cv : Value), codeAmong pos ps.toList = some cv → ∃ c, cv = .ref c ∧ CodeK G c q
theorem TabD.tab {t : Tb} {G H : Hp} {a : Addr} (h : TabD t G H a) : GxR.TabG H a := let ⟨ps, e, r, _⟩ := h; ⟨ps, e, r⟩
theorem TabD.mono {t : Tb} {G G' H : Hp} {a : Addr} (h : TabD t G H a) (l : Le G G') : TabD t G' H a := by
  obtain ⟨ps, e, r, k⟩ := h
  exact ⟨ps, e, r, fun q hq pos cv hc => let ⟨c, e1, oc, u, vs, t, e2, e3⟩ := k q hq pos cv hc; ⟨c, e1, oc, u, vs, t, l _ _ e2, e3⟩⟩
/-- what is frozen grows, what others own stays; tables of code objects (tp) grow -/
def Tr (tp : Tb) (G H G' H' : Hp) : Prop := Le G G' ∧ Le G' H' ∧ (∀ a o, G a = none → ¬ tp a → H a = some o → H' a = some o ∧ G' a = none) ∧ ∀ a, tp a → G a = none → TabD tp G H a → TabD tp G' H' a ∧ G' a = none
theorem Tr.refl {tp : Tb} (l : Le G H) : Tr tp G H G H := ⟨.refl, l, fun _ _ n _ h => ⟨h, n⟩, fun _ _ n h => ⟨h, n⟩⟩
theorem Tr.trans {tp : Tb} {G1 H1 G2 H2 : Hp} (a : Tr tp G H G1 H1) (b : Tr tp G1 H1 G2 H2) : Tr tp G H G2 H2 :=
  ⟨a.1.trans b.1, b.2.1, fun x o n nt h => let ⟨h1, n1⟩ := a.2.2.1 x o n nt h; b.2.2.1 x o n1 nt h1, fun x t n h => let ⟨h1, n1⟩ := a.2.2.2 x t n h; b.2.2.2 x t n1 h1⟩
theorem none_of_le (l : Le G H) {p : Addr} (n : H p = none) : G p = none := by
  cases e : G p with
  | none => rfl
  | some u => rw [l p u e] at n; cases n
theorem Le.up (l : Le G H) (p : Addr) (o : HO) : Le (upd G p o) (upd H p o) := fun a u h => by
  by_cases e : a = p
  · subst e; rw [upd_same] at h ⊢; exact h
  · rw [upd_ne e] at h ⊢; exact l a u h
theorem Le.new {p : Addr} {o : HO} (n : H p = none) : Le H (upd H p o) := fun a u h => by
  rw [upd_ne (ne_of_none h n)]; exact h
theorem tab_new {tp : Tb} {p a : Addr} {o : HO} (n : H p = none) (h : TabD tp G H a) : a ≠ p ∧ TabD tp G (upd H p o) a := by
  obtain ⟨ps, e, t⟩ := h
  have z : a ≠ p := ne_of_none e n
  exact ⟨z, ps, by rw [upd_ne z]; exact e, t⟩
/-- a new object, frozen at once -/
theorem Tr.new {tp : Tb} (l : Le G H) {p : Addr} {o : HO} (n : H p = none) : Tr tp G H (upd G p o) (upd H p o) :=
  ⟨Le.new (none_of_le l n), l.up p o, fun a u e _ h => by
    have z : a ≠ p := ne_of_none h n
    rw [upd_ne z, upd_ne z]; exact ⟨h, e⟩, fun a _ e h => by
    obtain ⟨z, t⟩ := tab_new (o := o) n h
    rw [upd_ne z]; exact ⟨t.mono (Le.new (none_of_le l n)), e⟩⟩
/-- a new object that is not spoken of -/
theorem Tr.junk {tp : Tb} (l : Le G H) {p : Addr} {o : HO} (n : H p = none) : Tr tp G H G (upd H p o) :=
  ⟨.refl, fun a u h => (by rw [upd_ne (ne_of_none (l a u h) n)]; exact l a u h), fun a u e _ h => ⟨by rw [upd_ne (ne_of_none h n)]; exact h, e⟩, fun a _ e h => ⟨(tab_new n h).2, e⟩⟩
end

/-! ### slots -/
/-- a thing of one's own, changed in its place (lol: a list of lists) -/
inductive O where
  | lst (ds : List D)
  | lol (dss : List (List D))
  | ins (c : String) (a : Addr) (fl : List String) (xs : List D)
  | dk (ks : List Key) (xs : List D)
  | dt (ks xs : List D)
  deriving Inhabited
instance : Coe (List D) O := ⟨O.lst⟩
def O.vals : O → List D
  | .lst ds => ds
  | .lol _ => []
  | .ins _ _ _ xs => xs
  | .dk _ xs => xs
  | .dt _ xs => xs
/-- one object alone -/
def O.one : O → Bool
  | .lol _ => false
  | _ => true
def O.ho (K : Kw) (q : Addr × Obj) (vs : List V) : O → HO
  | .lst _ => .lst vs
  | .lol _ => .lst vs
  | .ins c _ fl _ => .ins (He.ga K (Str.ofString c)) q.1 ((fl.map Str.ofString).zip vs)
  | .dk ks _ => .dK (ks.zip vs)
  | .dt _ _ => dtO q.1 q.2
/-- what is asked besides: an instance in the making stands at its own place; a dict's object has its keys -/
def O.loc (K : Kw) (G : Hp) (p : Addr) (q : Addr × Obj) (vs : List V) : O → Prop
  | .ins _ a _ _ => p = a
  | .dk ks xs => ks.length = xs.length
  | .dt ks _ => q.1 = p ∧ ∃ kas, DtR K p q.2 ks kas vs ∧ Reps K G ks kas
  | _ => True
/-- as data, when it changes no more -/
def O.d : O → D
  | .lst ds => .lst ds
  | .lol dss => .lst (dss.map .lst)
  | .ins c _ fl xs => .obj c fl xs
  | .dk ks xs => .dk ks xs
  | .dt ks xs => .dt ks xs
theorem O.loc_mono {K : Kw} {G G' : Hp} {p : Addr} {q : Addr × Obj} {vs : List V} {o : O} (l : Le G G') (h : o.loc K G p q vs) : o.loc K G' p q vs := by
  cases o with
  | dt ks xs => obtain ⟨e, kas, t, r⟩ := h; exact ⟨e, kas, t, Reps.mono l _ _ r⟩
  | _ => exact h
theorem O.not_tab {K : Kw} {q : Addr × Obj} {vs : List V} {o : O} {ps : Array Value} : o.ho K q vs ≠ .tbl ps := by
  cases o <;> exact fun h => by cases h
theorem O.rep {K : Kw} {G : Hp} {p : Addr} {q : Addr × Obj} {vs : List V} {o : O} (one : o.one = true) (h : G p = some (o.ho K q vs)) (lo : o.loc K G p q vs) (r : Reps K G o.vals vs) : Rep K G o.d (.ref p) := by
  cases o with
  | lst ds => exact ⟨p, vs, rfl, SqL.of h, r⟩
  | lol _ => cases one
  | ins c a fl xs => exact ⟨p, q.1, vs, rfl, h, r⟩
  | dk ks xs => exact ⟨p, vs, rfl, h, lo, r⟩
  | dt ks xs =>
    obtain ⟨e, kas, t, rk⟩ := lo
    obtain ⟨q1, q2⟩ := q
    cases e
    exact ⟨_, q2, kas, vs, rfl, h, t, rk, r⟩
/-- any -/
def noQ : Addr × Obj := (0, ⟨.none, none, .fields #[], #[]⟩)
inductive S where
  | no
  | val (d : D)
  | own (o : O)
  deriving Inhabited
abbrev Env := List S
/-- the inner lists stand at as -/
def Inner (K : Kw) (G H : Hp) : List (List D) → List Addr → Prop
  | [], as => as = []
  | ds :: dss, as => ∃ a r, as = a :: r ∧ (∃ ws, H a = some (.lst ws) ∧ Reps K G ds ws) ∧ Inner K G H dss r
/-- the thing o stands at p, its values frozen; fp: where it and its parts stand -/
def OwnAt (K : Kw) (Fo G H : Hp) (o : O) (p : Addr) (fp : List Addr) : Prop := (∀ a ∈ fp, G a = none ∧ Fo a = none) ∧
  ((∃ (q : Addr × Obj) (vs : List V), o.one = true ∧ fp = [p] ∧ o.loc K G p q vs ∧ H p = some (o.ho K q vs) ∧ Reps K G o.vals vs) ∨
   ∃ (dss : List (List D)) (as : List Addr), o = .lol dss ∧ fp = p :: as ∧ fp.Nodup ∧ H p = some (.lst (as.map V.ref)) ∧ Inner K G H dss as)

structure ER (K : Kw) (tp : Tb) (Fo G H : Hp) (δ : Env) (σ : L2.St) : Prop where
  gh : Le G H
  fh : Le Fo H
  fg : ∀ a o, Fo a = some o → G a = none ∧ ¬ tp a
  tb : ∀ a, tp a → TabD tp G H a ∧ G a = none
  len : δ.length = σ.length
  val : ∀ (i : Nat) (d : D), δ[i]? = some (.val d) → ∃ v : V, σ[i]? = some (some v) ∧ Rep K G d v
  own : ∃ ft : Nat → List Addr, (∀ (i : Nat) (o : O), δ[i]? = some (.own o) → ∃ p : Addr, σ[i]? = some (some (.ref p)) ∧ OwnAt K Fo G H o p (ft i)) ∧
    ∀ (i j : Nat) (o u : O), δ[i]? = some (.own o) → δ[j]? = some (.own u) → i ≠ j → ∀ a ∈ ft i, a ∉ ft j
section
variable {K : Kw} {tp : Tb} {Fo G H G' H' : Hp} {δ : Env} {σ : L2.St}
theorem OwnAt.mem {o : O} {p : Addr} {fp : List Addr} (h : OwnAt K Fo G H o p fp) : p ∈ fp := by
  obtain ⟨_, ⟨q, vs, _, e, _⟩ | ⟨dss, as, _, e, _⟩⟩ := h
  · rw [e]; exact List.mem_cons_self
  · rw [e]; exact List.mem_cons_self
theorem Inner.mem {dss : List (List D)} {as : List Addr} : Inner K G H dss as → ∀ a ∈ as, ∃ ws, H a = some (.lst ws) := by
  induction dss generalizing as with
  | nil => intro h a ha; cases h; cases ha
  | cons ds dss ih =>
    rintro ⟨b, r, e, ⟨ws, h1, _⟩, h2⟩ a ha
    subst e
    rcases List.mem_cons.mp ha with rfl | ha
    · exact ⟨ws, h1⟩
    · exact ih h2 a ha
theorem Inner.mono {dss : List (List D)} {as : List Addr} (l : Le G G') : (∀ a ∈ as, ∀ o, H a = some o → H' a = some o) → Inner K G H dss as → Inner K G' H' dss as := by
  induction dss generalizing as with
  | nil => intro _ h; exact h
  | cons ds dss ih =>
    rintro k ⟨b, r, e, ⟨ws, h1, h3⟩, h2⟩
    subst e
    exact ⟨b, r, rfl, ⟨ws, k b List.mem_cons_self _ h1, Reps.mono l _ _ h3⟩, ih (fun a ha => k a (List.mem_cons_of_mem _ ha)) h2⟩
/-- each of the places holds a thing -/
theorem OwnAt.there {o : O} {p : Addr} {fp : List Addr} (h : OwnAt K Fo G H o p fp) : ∀ a ∈ fp, ∃ u, H a = some u ∧ ∀ ps, u ≠ .tbl ps := by
  obtain ⟨_, ⟨q, vs, _, e, _, h4, _⟩ | ⟨dss, as, _, e, _, h4, h5⟩⟩ := h
  · intro a ha
    rw [e, List.mem_singleton] at ha
    subst ha
    exact ⟨_, h4, fun ps => O.not_tab⟩
  · intro a ha
    rw [e] at ha
    rcases List.mem_cons.mp ha with rfl | ha
    · exact ⟨_, h4, fun ps z => by cases z⟩
    · obtain ⟨ws, h6⟩ := h5.mem a ha
      exact ⟨_, h6, fun ps z => by cases z⟩
theorem OwnAt.mono {o : O} {p : Addr} {fp : List Addr} (h : OwnAt K Fo G H o p fp) (l : Le G G') (k : ∀ a ∈ fp, ∀ u, H a = some u → H' a = some u) (n : ∀ a ∈ fp, G' a = none) : OwnAt K Fo G' H' o p fp := by
  obtain ⟨h0, h⟩ := h
  refine ⟨fun a ha => ⟨n a ha, (h0 a ha).2⟩, ?_⟩
  rcases h with ⟨q, vs, e1, e2, h3, h4, h5⟩ | ⟨dss, as, e1, e2, h3, h4, h5⟩
  · exact .inl ⟨q, vs, e1, e2, O.loc_mono l h3, k p (by rw [e2]; exact List.mem_cons_self) _ h4, Reps.mono l _ _ h5⟩
  · exact .inr ⟨dss, as, e1, e2, h3, k p (by rw [e2]; exact List.mem_cons_self) _ h4, h5.mono l fun a ha => k a (by rw [e2]; exact List.mem_cons_of_mem _ ha)⟩
theorem not_tp_of (tb : ∀ a, tp a → TabD tp G H a ∧ G a = none) {p : Addr} {u : HO} (h : H p = some u) (n : ∀ ps, u ≠ .tbl ps) : ¬ tp p := fun t => by
  obtain ⟨⟨ps, z, _⟩, _⟩ := tb p t
  rw [h] at z
  exact n ps (Option.some.inj z)
/-- a thing that is one object -/
theorem ER.own1 (e : ER K tp Fo G H δ σ) (i : Nat) (o : O) (h : δ[i]? = some (.own o)) (one : o.one = true) : ∃ p : Addr, σ[i]? = some (some (.ref p)) ∧ ∃ (q : Addr × Obj) (vs : List V), o.loc K G p q vs ∧ G p = none ∧ Fo p = none ∧ H p = some (o.ho K q vs) ∧ Reps K G o.vals vs := by
  obtain ⟨ft, ow, _⟩ := e.own
  obtain ⟨p, h1, h0, ⟨q, vs, _, e2, h3, h4, h5⟩ | ⟨dss, as, e1, _⟩⟩ := ow i o h
  · obtain ⟨n1, n2⟩ := h0 p (by rw [e2]; exact List.mem_cons_self)
    exact ⟨p, h1, q, vs, h3, n1, n2, h4, h5⟩
  · subst e1; cases one
theorem ER.tr (e : ER K tp Fo G H δ σ) (t : Tr tp G H G' H') : ER K tp Fo G' H' δ σ where
  gh := t.2.1
  fh := fun a o h => (t.2.2.1 a o (e.fg a o h).1 (e.fg a o h).2 (e.fh a o h)).1
  fg := fun a o h => ⟨(t.2.2.1 a o (e.fg a o h).1 (e.fg a o h).2 (e.fh a o h)).2, (e.fg a o h).2⟩
  tb := fun a h => t.2.2.2 a h (e.tb a h).2 (e.tb a h).1
  len := e.len
  val := fun i d h => let ⟨v, h1, h2⟩ := e.val i d h; ⟨v, h1, Rep.mono t.1 d v h2⟩
  own := by
    obtain ⟨ft, ow, sp⟩ := e.own
    refine ⟨ft, fun i o h => ?_, sp⟩
    obtain ⟨p, h1, h2⟩ := ow i o h
    have k : ∀ a ∈ ft i, ∀ u, H a = some u → H' a = some u ∧ G' a = none := fun a ha u hu => by
      obtain ⟨u', hu', nt⟩ := h2.there a ha
      exact t.2.2.1 a u (h2.1 a ha).1 (not_tp_of e.tb hu' nt) hu
    exact ⟨p, h1, h2.mono t.1 (fun a ha u hu => (k a ha u hu).1) fun a ha => let ⟨u, hu, _⟩ := h2.there a ha; (k a ha u hu).2⟩
theorem get_set_cases {α : Type} {l : List α} {i j : Nat} {a b : α} (h : (l.set i a)[j]? = some b) : (j = i ∧ b = a ∧ i < l.length) ∨ (j ≠ i ∧ l[j]? = some b) := by
  by_cases e : j = i
  · subst e
    rw [List.getElem?_set] at h
    simp at h
    by_cases q : j < l.length
    · simp [q] at h; exact .inl ⟨rfl, h.symm, q⟩
    · simp [q] at h
  · rw [List.getElem?_set_ne (Ne.symm e)] at h
    exact .inr ⟨e, h⟩
/-- a slot gets a frozen value -/
theorem ER.setVal (e : ER K tp Fo G H δ σ) (i : Nat) {d : D} {v : V} (r : Rep K G d v) : ER K tp Fo G H (δ.set i (.val d)) (σ.set i (some v)) where
  gh := e.gh
  fh := e.fh
  fg := e.fg
  tb := e.tb
  len := by rw [List.length_set, List.length_set]; exact e.len
  val := fun j c h => by
    rcases get_set_cases h with ⟨rfl, q, l⟩ | ⟨n, h⟩
    · cases q
      exact ⟨v, by rw [List.getElem?_set_self (by rw [← e.len]; exact l)], r⟩
    · obtain ⟨w, h1, h2⟩ := e.val j c h
      exact ⟨w, by rw [List.getElem?_set_ne (Ne.symm n)]; exact h1, h2⟩
  own := by
    obtain ⟨ft, ow, sp⟩ := e.own
    refine ⟨ft, fun j c h => ?_, fun j k c d h g ne => ?_⟩
    · rcases get_set_cases h with ⟨_, q, _⟩ | ⟨n, h⟩
      · cases q
      · obtain ⟨p, h1, h2⟩ := ow j c h
        exact ⟨p, by rw [List.getElem?_set_ne (Ne.symm n)]; exact h1, h2⟩
    · rcases get_set_cases h with ⟨_, q, _⟩ | ⟨n, h⟩
      · cases q
      · rcases get_set_cases g with ⟨_, q, _⟩ | ⟨m, g⟩
        · cases q
        · exact sp j k c d h g ne
/-- a slot is forgotten -/
theorem ER.setNo (e : ER K tp Fo G H δ σ) (i : Nat) (x : Option V) : ER K tp Fo G H (δ.set i .no) (σ.set i x) where
  gh := e.gh
  fh := e.fh
  fg := e.fg
  tb := e.tb
  len := by rw [List.length_set, List.length_set]; exact e.len
  val := fun j c h => by
    rcases get_set_cases h with ⟨_, q, _⟩ | ⟨n, h⟩
    · cases q
    · obtain ⟨w, h1, h2⟩ := e.val j c h
      exact ⟨w, by rw [List.getElem?_set_ne (Ne.symm n)]; exact h1, h2⟩
  own := by
    obtain ⟨ft, ow, sp⟩ := e.own
    refine ⟨ft, fun j c h => ?_, fun j k c d h g ne => ?_⟩
    · rcases get_set_cases h with ⟨_, q, _⟩ | ⟨n, h⟩
      · cases q
      · obtain ⟨p, h1, h2⟩ := ow j c h
        exact ⟨p, by rw [List.getElem?_set_ne (Ne.symm n)]; exact h1, h2⟩
    · rcases get_set_cases h with ⟨_, q, _⟩ | ⟨n, h⟩
      · cases q
      · rcases get_set_cases g with ⟨_, q, _⟩ | ⟨m, g⟩
        · cases q
        · exact sp j k c d h g ne
/-- one place's footprint put -/
def selF (i : Nat) (fp : List Addr) (ft : Nat → List Addr) (j : Nat) : List Addr := if j = i then fp else ft j
theorem selF_eq {i : Nat} {fp : List Addr} {ft : Nat → List Addr} : selF i fp ft i = fp := if_pos rfl
theorem selF_ne {i j : Nat} {fp : List Addr} {ft : Nat → List Addr} (h : j ≠ i) : selF i fp ft j = ft j := if_neg h
/-- a slot gets a thing of its own, whose places are new: not known, not another's; the heap may have grown -/
theorem ER.setOwnF (e : ER K tp Fo G H δ σ) (i : Nat) {p : Addr} {o : O} {fp : List Addr} (ow1 : OwnAt K Fo G H' o p fp) (new : ∀ a ∈ fp, H a = none) (k : Le H H') (tk : ∀ a, tp a → TabD tp G H' a) :
    ER K tp Fo G H' (δ.set i (.own o)) (σ.set i (some (.ref p))) where
  gh := e.gh.trans k
  fh := e.fh.trans k
  fg := e.fg
  tb := fun a t => ⟨tk a t, (e.tb a t).2⟩
  len := by rw [List.length_set, List.length_set]; exact e.len
  val := fun j c h => by
    rcases get_set_cases h with ⟨_, q, _⟩ | ⟨m, h⟩
    · cases q
    · obtain ⟨w, h1, h2⟩ := e.val j c h
      exact ⟨w, by rw [List.getElem?_set_ne (Ne.symm m)]; exact h1, h2⟩
  own := by
    obtain ⟨ft, ow, sp⟩ := e.own
    have far : ∀ j c, δ[j]? = some (.own c) → ∀ a ∈ ft j, a ∉ fp := fun j c h a ha hb => by
      obtain ⟨p', _, h2⟩ := ow j c h
      obtain ⟨u, hu, _⟩ := h2.there a ha
      rw [new a hb] at hu; cases hu
    refine ⟨selF i fp ft, fun j c h => ?_, fun j l c d h g ne => ?_⟩
    · rcases get_set_cases h with ⟨rfl, z, l⟩ | ⟨m, h⟩
      · cases z
        exact ⟨p, by rw [List.getElem?_set_self (by rw [← e.len]; exact l)], by rw [selF_eq]; exact ow1⟩
      · obtain ⟨p', h1, h2⟩ := ow j c h
        refine ⟨p', by rw [List.getElem?_set_ne (Ne.symm m)]; exact h1, ?_⟩
        rw [selF_ne m]
        exact h2.mono .refl (fun a _ u hu => k a u hu) fun a ha => (h2.1 a ha).1
    · rcases get_set_cases h with ⟨rfl, _, _⟩ | ⟨m, h'⟩
      · rcases get_set_cases g with ⟨rfl, _, _⟩ | ⟨m', g'⟩
        · exact absurd rfl ne
        · intro a ha hb
          rw [selF_eq] at ha
          rw [selF_ne m'] at hb
          exact far l d g' a hb ha
      · rcases get_set_cases g with ⟨rfl, _, _⟩ | ⟨m', g'⟩
        · intro a ha hb
          rw [selF_ne m] at ha
          rw [selF_eq] at hb
          exact far j c h' a ha hb
        · intro a ha hb
          rw [selF_ne m] at ha
          rw [selF_ne m'] at hb
          exact sp j l c d h' g' ne a ha hb
/-- a slot gets a new thing of its own, at p -/
theorem ER.setOwn (e : ER K tp Fo G H δ σ) (i : Nat) {p : Addr} {q : Addr × Obj} {o : O} {vs : List V} (n : H p = none) (r : Reps K G o.vals vs) (lo : o.loc K G p q vs := by exact True.intro) (one : o.one = true := by rfl) :
    ER K tp Fo G (upd H p (o.ho K q vs)) (δ.set i (.own o)) (σ.set i (some (.ref p))) :=
  e.setOwnF i (fp := [p]) ⟨fun a ha => by rw [List.mem_singleton] at ha; subst ha; exact ⟨none_of_le e.gh n, none_of_le e.fh n⟩, .inl ⟨q, vs, one, rfl, lo, upd_same, r⟩⟩
    (fun a ha => by rw [List.mem_singleton] at ha; subst ha; exact n) (Le.new n) fun a t => (tab_new n (e.tb a t).1).2
/-- a thing of one's own is changed in its place, the places fp changed alone -/
theorem ER.chgOwnF (e : ER K tp Fo G H δ σ) (i : Nat) {p : Addr} {o u : O} (h : δ[i]? = some (.own o)) (hp : σ[i]? = some (some (.ref p)))
    (ch : ∀ fp, OwnAt K Fo G H o p fp → ∃ fq, OwnAt K Fo G H' u p fq ∧ (∀ a ∈ fq, a ∈ fp ∨ H a = none) ∧ ∀ a, a ∉ fp → ∀ w, H a = some w → H' a = some w) : ER K tp Fo G H' (δ.set i (.own u)) σ := by
  obtain ⟨ft, ow, sp⟩ := e.own
  obtain ⟨p', h1, h2⟩ := ow i o h
  rw [hp] at h1; cases h1
  obtain ⟨fq, o2, sub, keep⟩ := ch _ h2
  have out : ∀ a, G a ≠ none ∨ Fo a ≠ none → a ∉ ft i := fun a ha hb => by
    obtain ⟨n1, n2⟩ := h2.1 a hb
    rcases ha with ha | ha
    · exact ha n1
    · exact ha n2
  refine ⟨fun a x z => keep a (out a (.inl (by rw [z]; exact fun z => by cases z))) x (e.gh a x z), fun a x z => keep a (out a (.inr (by rw [z]; exact fun z => by cases z))) x (e.fh a x z), e.fg, fun a t => ?_, by rw [List.length_set]; exact e.len, fun j c g => ?_, ?_⟩
  · obtain ⟨⟨ps, z, z2⟩, z3⟩ := e.tb a t
    refine ⟨⟨ps, keep a (fun hb => ?_) _ z, z2⟩, z3⟩
    obtain ⟨w, hw, nt⟩ := h2.there a hb
    exact not_tp_of e.tb hw nt t
  · rcases get_set_cases g with ⟨_, q, _⟩ | ⟨m, g⟩
    · cases q
    · exact e.val j c g
  · have back : ∀ (j : Nat) (c : O), (δ.set i (.own u))[j]? = some (.own c) → ∃ c', δ[j]? = some (.own c') := fun j c g => by
      rcases get_set_cases g with ⟨rfl, _, _⟩ | ⟨_, g⟩
      · exact ⟨_, h⟩
      · exact ⟨_, g⟩
    have there : ∀ (j : Nat) (c : O), δ[j]? = some (.own c) → ∀ a ∈ ft j, H a ≠ none := fun j c g a ha z => by
      obtain ⟨pj, g1, g2⟩ := ow j c g
      obtain ⟨w, hw, _⟩ := g2.there a ha
      rw [z] at hw; cases hw
    refine ⟨selF i fq ft, fun j c g => ?_, fun j k c d g f ne => ?_⟩
    · rcases get_set_cases g with ⟨rfl, z, l⟩ | ⟨m, g⟩
      · cases z
        exact ⟨p, hp, by rw [selF_eq]; exact o2⟩
      · obtain ⟨p2, g1, g2⟩ := ow j c g
        refine ⟨p2, g1, ?_⟩
        rw [selF_ne m]
        exact g2.mono .refl (fun a ha w hw => keep a (fun hb => sp j i c o g h m a ha hb) w hw) fun a ha => (g2.1 a ha).1
    · obtain ⟨c', g'⟩ := back j c g
      obtain ⟨d', f'⟩ := back k d f
      intro a ha hb
      by_cases ej : j = i
      · subst ej
        have ek : k ≠ j := fun z => ne z.symm
        rw [selF_eq] at ha
        rw [selF_ne ek] at hb
        rcases sub a ha with ha | ha
        · exact sp j k c' d' g' f' ne a ha hb
        · exact there k d' f' a hb ha
      · rw [selF_ne ej] at ha
        by_cases ek : k = i
        · subst ek
          rw [selF_eq] at hb
          rcases sub a hb with hb | hb
          · exact sp j k c' d' g' f' ne a ha hb
          · exact there j c' g' a ha hb
        · rw [selF_ne ek] at hb
          exact sp j k c' d' g' f' ne a ha hb
/-- a thing that is one object is changed in its place -/
theorem ER.chgOwn (e : ER K tp Fo G H δ σ) (i : Nat) {p : Addr} {q : Addr × Obj} {o u : O} {ws : List V} (h : δ[i]? = some (.own o)) (hp : σ[i]? = some (some (.ref p))) (r : Reps K G u.vals ws) (lo : u.loc K G p q ws := by exact True.intro) (one : o.one = true := by rfl) (one' : u.one = true := by rfl) :
    ER K tp Fo G (upd H p (u.ho K q ws)) (δ.set i (.own u)) σ :=
  e.chgOwnF i h hp fun fp ⟨h0, hh⟩ => by
    rcases hh with ⟨q', vs, _, e2, _⟩ | ⟨dss, as, e1, _⟩
    · subst e2
      exact ⟨[p], ⟨h0, .inl ⟨q, ws, one', rfl, lo, upd_same, r⟩⟩, fun a ha => .inl ha, fun a ha w hw => by rw [upd_ne (fun z => ha (by rw [z]; exact List.mem_cons_self))]; exact hw⟩
    · subst e1; cases one
/-- a thing of one's own is frozen -/
def frz (i : Nat) (δ : Env) : Env := match δ[i]? with
  | some (.own o) => δ.set i (.val o.d)
  | _ => δ
/-- a dict -/
def O.dict : O → Bool
  | .dk .. => true
  | .dt .. => true
  | _ => false
/-- what is known, with the things at fp -/
def updF (G H : Hp) (fp : List Addr) : Hp := fun a => if a ∈ fp then H a else G a
theorem updF_in {fp : List Addr} {a : Addr} (h : a ∈ fp) : updF G H fp a = H a := if_pos h
theorem updF_out {fp : List Addr} {a : Addr} (h : a ∉ fp) : updF G H fp a = G a := if_neg h
theorem Inner.reps {dss : List (List D)} {as : List Addr} {fp : List Addr} (l : Le G (updF G H fp)) : (∀ a ∈ as, a ∈ fp) → Inner K G H dss as → Reps K (updF G H fp) (dss.map D.lst) (as.map V.ref) := by
  induction dss generalizing as with
  | nil => intro _ h; cases h; exact rfl
  | cons ds dss ih =>
    rintro k ⟨b, r, e, ⟨ws, h1, h3⟩, h2⟩
    subst e
    refine ⟨_, _, rfl, ⟨b, ws, rfl, SqL.of ?_, Reps.mono l _ _ h3⟩, ih (fun a ha => k a (List.mem_cons_of_mem _ ha)) h2⟩
    rw [updF_in (k b List.mem_cons_self)]; exact h1
theorem ER.frz (e : ER K tp Fo G H δ σ) (i : Nat) : ∃ fp, Le G (updF G H fp) ∧ ER K tp Fo (updF G H fp) H (frz i δ) σ ∧ (∀ a ∈ fp, G a = none ∧ Fo a = none ∧ ∃ u, H a = some u ∧ ¬ tp a ∧ (∀ xs, u ≠ .tup xs) ∧ ∀ ob w, u ≠ .frz ob w) ∧ (fp = [] → Dl.frz i δ = δ) ∧
    ∀ o, δ[i]? = some (.own o) → o.dict = true → ∀ a ∈ fp, ∀ u, H a = some u → (∀ xs, u ≠ .lst xs) ∧ ∀ C dx fs, u ≠ .ins C dx fs := by
  unfold Dl.frz
  split
  · rename_i o h
    obtain ⟨ft, ow, sp⟩ := e.own
    obtain ⟨p, h1, h2⟩ := ow i o h
    have lg : Le G (updF G H (ft i)) := fun a u z => by
      rw [updF_out (fun ha => by rw [(h2.1 a ha).1] at z; cases z)]; exact z
    refine ⟨ft i, lg, ⟨fun a x z => ?_, e.fh, fun a x z => ?_, fun a t => ?_, by rw [List.length_set]; exact e.len, fun j c g => ?_, ⟨ft, fun j c g => ?_, fun j k c d g f ne => ?_⟩⟩, fun a ha => ?_, fun z => ?_, fun o' ho' hd a ha u hu => ?_⟩
    · by_cases y : a ∈ ft i
      · rw [updF_in y] at z; exact z
      · rw [updF_out y] at z; exact e.gh a x z
    · refine ⟨?_, (e.fg a x z).2⟩
      rw [updF_out (fun ha => by rw [(h2.1 a ha).2] at z; cases z)]; exact (e.fg a x z).1
    · refine ⟨(e.tb a t).1.mono lg, ?_⟩
      rw [updF_out (fun ha => by
        obtain ⟨u, hu, nt⟩ := h2.there a ha
        exact not_tp_of e.tb hu nt t)]
      exact (e.tb a t).2
    · rcases get_set_cases g with ⟨rfl, z, l⟩ | ⟨m, g⟩
      · cases z
        refine ⟨_, h1, ?_⟩
        have hpm := h2.mem
        obtain ⟨h0, ⟨q, vs, one, e2, lo, h4, h5⟩ | ⟨dss, as, e1, e2, nd, h4, h5⟩⟩ := h2
        · exact O.rep one (by rw [updF_in hpm]; exact h4) (O.loc_mono lg lo) (Reps.mono lg _ _ h5)
        · subst e1
          exact ⟨p, as.map V.ref, rfl, SqL.of (by rw [updF_in hpm]; exact h4), h5.reps lg fun a ha => by rw [e2]; exact List.mem_cons_of_mem _ ha⟩
      · obtain ⟨w, g1, g2⟩ := e.val j c g
        exact ⟨w, g1, Rep.mono lg _ _ g2⟩
    · rcases get_set_cases g with ⟨_, z, _⟩ | ⟨m, g⟩
      · cases z
      · obtain ⟨p2, g1, g2⟩ := ow j c g
        exact ⟨p2, g1, g2.mono lg (fun a _ u hu => hu) fun a ha => by rw [updF_out (fun hb => sp j i c o g h m a ha hb)]; exact (g2.1 a ha).1⟩
    · rcases get_set_cases g with ⟨_, z, _⟩ | ⟨m, g⟩
      · cases z
      · rcases get_set_cases f with ⟨_, z, _⟩ | ⟨m', f⟩
        · cases z
        · exact sp j k c d g f ne
    · obtain ⟨u, hu, nt⟩ := h2.there a ha
      refine ⟨(h2.1 a ha).1, (h2.1 a ha).2, u, hu, not_tp_of e.tb hu nt, ?_⟩
      obtain ⟨h0, ⟨q, vs, one, e2, lo, h4, h5⟩ | ⟨dss, as, e1, e2, nd, h4, h5⟩⟩ := h2
      · rw [e2, List.mem_singleton] at ha
        subst ha
        rw [hu] at h4
        cases h4
        cases o <;> exact ⟨fun xs z => (by cases z), fun ob w z => (by cases z)⟩
      · rw [e2] at ha
        rcases List.mem_cons.mp ha with rfl | ha
        · rw [hu] at h4; cases h4; exact ⟨fun xs z => (by cases z), fun ob w z => (by cases z)⟩
        · obtain ⟨ws, h6⟩ := h5.mem a ha
          rw [hu] at h6; cases h6; exact ⟨fun xs z => (by cases z), fun ob w z => (by cases z)⟩
    · have := h2.mem
      rw [z] at this; cases this
    · rw [h] at ho'
      cases ho'
      obtain ⟨h0, ⟨q, vs, one, e2, lo, h4, h5⟩ | ⟨dss, as, e1, e2, nd, h4, h5⟩⟩ := h2
      · rw [e2, List.mem_singleton] at ha
        subst ha
        rw [hu] at h4
        cases h4
        cases o with
        | dk ks xs => exact ⟨fun xs z => (by cases z), fun C dx fs z => (by cases z)⟩
        | dt ks xs => exact ⟨fun xs z => (by cases z), fun C dx fs z => (by cases z)⟩
        | _ => cases hd
      · subst e1; cases hd
  · refine ⟨[], ?_, ?_, fun a ha => (by cases ha), fun _ => rfl, fun _ _ _ a ha => (by cases ha)⟩
    · have : updF G H [] = G := by funext a; exact updF_out (by exact List.not_mem_nil)
      rw [this]; exact .refl
    · have : updF G H [] = G := by funext a; exact updF_out (by exact List.not_mem_nil)
      rw [this]; exact e
end
end Dl

set_option Elab.async false
set_option linter.all false
set_option maxRecDepth 100000
set_option maxHeartbeats 2000000
/-! Expressions over data. -/
namespace Dl
open PySem PySem.Spec PyProof.Rows L2

/-- the program's own: its exceptions' classes by name, the tables of code objects of defs with generator expressions -/
structure Mo where
  ec : String → Value
  tp : Tb
def PX {α : Type} (M : Mo) (W : WX) (σ : L2.St) (G H : Hp) (r : R α) (k : Hp → Hp → α → Prop) : Prop := match r with
  | .ok a => ∀ G' H', Tr M.tp G H G' H' → k G' H' a
  | .exc c => ∀ G' H', Tr M.tp G H G' H' → W (M.ec c) none σ H'
  | .bad => False
section
variable {α β : Type} {M : Mo} {W : WX} {σ : L2.St} {G H : Hp}
theorem PX.bind {r : R α} {g : α → R β} {k : Hp → Hp → β → Prop} (h : PX M W σ G H (r >>= g) k) : PX M W σ G H r fun G' H' a => PX M W σ G' H' (g a) k := by
  cases r with
  | ok a =>
    intro G1 H1 t1
    have h' : PX M W σ G H (g a) k := h
    show PX M W σ G1 H1 (g a) k
    cases e : g a with
    | ok b => rw [e] at h'; intro G2 H2 t2; exact h' G2 H2 (t1.trans t2)
    | exc c => rw [e] at h'; intro G2 H2 t2; exact h' G2 H2 (t1.trans t2)
    | bad => rw [e] at h'; exact h'
  | exc c => exact h
  | bad => exact h
theorem PX.mono {r : R α} {k k' : Hp → Hp → α → Prop} (h : PX M W σ G H r k) (i : ∀ G' H' a, Tr M.tp G H G' H' → k G' H' a → k' G' H' a) : PX M W σ G H r k' := by
  cases r with
  | ok a => exact fun G' H' t => i G' H' a t (h G' H' t)
  | exc c => exact h
  | bad => exact h
end
def ofO {α : Type} : Option α → R α
  | some a => .ok a
  | none => .bad
/-- what a built-in operation must bring -/
def QX (K : Kw) (tp : Tb) (G H : Hp) (r : Option D) (Q : VK) : Prop := match r with
  | some z => ∀ G' H', Tr tp G H G' H' → ∀ u, Rep K G' z u → Q u H'
  | none => False
section
variable {K : Kw} {M : Mo} {tp : Tb} {W : WX} {σ : L2.St} {G H : Hp} {Q : VK}
theorem PX.qx {r : Option D} (h : PX M W σ G H (ofO r) fun G' H' z => ∀ u, Rep K G' z u → Q u H') : QX K M.tp G H r Q := by
  cases r with
  | none => exact h
  | some z => exact h
theorem QX.at {z : D} {u : V} (h : QX K tp G H (some z) Q) (l : Le G H) (r : Rep K G z u) : Q u H := h G H (.refl l) u r
theorem QX.newTup {ds : List D} {vs : List V} (h : QX K tp G H (some (.tup ds)) Q) (l : Le G H) (r : Reps K G ds vs) : NewT H vs Q := fun p o n d =>
  h _ _ (Tr.new l n) _ ⟨p, vs, rfl, SqU.of upd_same d, Reps.mono (Le.new (none_of_le l n)) ds vs r⟩
theorem QX.newLst {ds : List D} {vs : List V} (h : QX K tp G H (some (.lst ds)) Q) (l : Le G H) (r : Reps K G ds vs) {p : Addr} (n : H p = none) : Q (.ref p) (upd H p (.lst vs)) :=
  h _ _ (Tr.new l n) _ ⟨p, vs, rfl, SqL.of upd_same, Reps.mono (Le.new (none_of_le l n)) ds vs r⟩
end

/-! ### readings -/
def tE (K : Kw) (M : Mo) (W : WX) (f : Env → R D) : TE := fun σ H Q => ∃ Fo G δ, ER K M.tp Fo G H δ σ ∧ PX M W σ G H (f δ) fun G' H' d => ∀ v, Rep K G' d v → Q v H'
def tT (K : Kw) (M : Mo) (W : WX) (f : Env → R Bool) : TT := fun σ H Q => ∃ Fo G δ, ER K M.tp Fo G H δ σ ∧ PX M W σ G H (f δ) fun _ H' b => Q b H'
def tA (K : Kw) (M : Mo) (W : WX) (f : Env → R (List D)) : TA := fun σ H Q => ∃ Fo G δ, ER K M.tp Fo G H δ σ ∧ PX M W σ G H (f δ) fun G' H' ds => ∀ vs, Reps K G' ds vs → Q vs H'
def tO (K : Kw) (M : Mo) (W : WX) (f : Env → R (Option Int)) : TO := fun σ H Q => ∃ Fo G δ, ER K M.tp Fo G H δ σ ∧ PX M W σ G H (f δ) fun _ H' b => Q b H'

/-! ### the data functions' words -/
abbrev Ev := Env → R D
def eV (i : Nat) : Ev := fun δ => match δ[i]? with
  | some (.val d) => .ok d
  | _ => .bad
def eC (d : D) : Ev := fun _ => .ok d
def e1 (h : D → Option D) (f : Ev) : Ev := fun δ => f δ >>= fun x => ofO (h x)
def e2 (h : D → D → Option D) (f g : Ev) : Ev := fun δ => f δ >>= fun x => g δ >>= fun y => ofO (h x y)
def eAnd (f g : Ev) : Ev := fun δ => f δ >>= fun x => match x with
  | .bl true => g δ
  | .bl false => .ok (.bl false)
  | _ => .bad
def eOr (f g : Ev) : Ev := fun δ => f δ >>= fun x => match x with
  | .bl true => .ok (.bl true)
  | .bl false => g δ
  | _ => .bad
def eNot (f : Ev) : Ev := fun δ => f δ >>= fun x => match x with
  | .bl b => .ok (.bl !b)
  | _ => .bad
abbrev Tv := Env → R Bool
def tB1 (f : Ev) : Tv := fun δ => f δ >>= fun x => match x with
  | .bl b => .ok b
  | _ => .bad
def tAnd' (f g : Tv) : Tv := fun δ => f δ >>= fun x => match x with
  | true => g δ
  | false => .ok false
def tOr' (f g : Tv) : Tv := fun δ => f δ >>= fun x => match x with
  | true => .ok true
  | false => g δ
def tNot' (f : Tv) : Tv := fun δ => f δ >>= fun x => .ok !x
def eIf (c : Tv) (f g : Ev) : Ev := fun δ => c δ >>= fun x => match x with
  | true => f δ
  | false => g δ
def aNil : Env → R (List D) := fun _ => .ok []
def aCons (f : Ev) (g : Env → R (List D)) : Env → R (List D) := fun δ => f δ >>= fun x => g δ >>= fun xs => .ok (x :: xs)
def eTup (g : Env → R (List D)) : Ev := fun δ => g δ >>= fun xs => ofO (if xs.length ≤ sizeLine then some (.tup xs) else none)
def eLst (g : Env → R (List D)) : Ev := fun δ => g δ >>= fun xs => ofO (if xs.length ≤ sizeLine then some (.lst xs) else none)
def eCall (m : List D → R D) (g : Env → R (List D)) : Ev := fun δ => g δ >>= fun xs => m xs
def eB (m : List D → Option D) (g : Env → R (List D)) : Ev := fun δ => g δ >>= fun xs => ofO (m xs)

section
variable {X : Cx} {M : Mo} {W : WX} {a b c e : Expr} {es rest : List Expr} {pos : Pos} {f g : Ev} {fs : Env → R (List D)} {t u : Tv}
theorem PE.imp {t t' : TE} (h : PE X e t) (i : ∀ σ H Q, t' σ H Q → t σ H Q) : PE X e t' := ⟨fun pins s σ H Q I q => h.run pins s σ H Q I (i σ H Q q)⟩
theorem PT.imp {t t' : TT} (h : PT X e t) (i : ∀ σ H Q, t' σ H Q → t σ H Q) : PT X e t' := ⟨fun pins s σ H Q I q => h.run pins s σ H Q I (i σ H Q q)⟩
theorem PW.imp {t t' : TT} (h : PW X e t) (i : ∀ σ H Q, t' σ H Q → t σ H Q) : PW X e t' := ⟨fun wh pins s σ H Q I q => h.run wh pins s σ H Q I (i σ H Q q)⟩
theorem PA.imp {t t' : TA} (h : PA X es t) (i : ∀ σ H Q, t' σ H Q → t σ H Q) : PA X es t' := ⟨fun pos pins s σ H Q I q => h.run pos pins s σ H Q I (i σ H Q q)⟩

theorem de_var {i : Nat} {x : Str} (hN : X.N[i]? = some x) (hv : Vis X.env.scope x) (hd : (x == ("__debug__" : Str)) = false := by decide) (hcd : (x == ("__classdict__" : Str)) = false := by decide) : PE X (.Name x pos) (tE (kwX X) M W (eV i)) := by
  refine PE.imp (pe_var hN hv hd hcd) fun σ H Q ⟨Fo, G, δ, er, h⟩ => ?_
  unfold eV at h
  cases q : δ[i]? with
  | none => rw [q] at h; exact False.elim h
  | some z =>
    rw [q] at h
    cases z with
    | val d =>
      obtain ⟨v, e1, r⟩ := er.val i d q
      exact ⟨v, e1, h G H (.refl er.gh) v r⟩
    | no => exact False.elim h
    | own ds => exact False.elim h
theorem de_const {d : D} {v : V} (h : PE X e (tC v)) (r : ∀ G, Rep (kwX X) G d v) : PE X e (tE (kwX X) M W (eC d)) :=
  PE.imp h fun σ H Q ⟨Fo, G, δ, er, h⟩ => h G H (.refl er.gh) v (r G)
theorem de_int {i j} : PE X (.Constant (.int i) j pos) (tE (kwX X) M W (eC (.int i))) := de_const pe_int fun _ => rfl
theorem de_bl {x j} : PE X (.Constant (.bool x) j pos) (tE (kwX X) M W (eC (.bl x))) := de_const pe_bl fun _ => rfl
theorem de_non {j} : PE X (.Constant .none j pos) (tE (kwX X) M W (eC .non)) := de_const pe_non fun _ => rfl
theorem de_str {x j} : PE X (.Constant (.str x) j pos) (tE (kwX X) M W (eC (.str x))) := de_const pe_str fun _ => rfl
theorem de_glob {x : Str} {d : D} {v : V} {u : Value} (hg : Gl X x) (hm : X.mg x = some u) (r : RelV v u) (hr : ∀ G, Rep (kwX X) G d v) (hd : (x == ("__debug__" : Str)) = false := by decide) : PE X (.Name x pos) (tE (kwX X) M W (eC d)) :=
  de_const (pe_glob hg hm r hd) hr

/-- an operation of two values, over data -/
def OpS (K : Kw) (r : R2) (h : D → D → Option D) : Prop := ∀ (tp : Tb) (G H : Hp) (d e : D) (v w : V) (Q : VK), Le G H → Rep K G d v → Rep K G e w → QX K tp G H (h d e) Q → r v w H Q
theorem op_gen {r : R2} {h : D → D → Option D} (hs : OpS (kwX X) r h) {σ : L2.St} {H : Hp} {Q : VK} (q : tE (kwX X) M W (e2 h f g) σ H Q) : tOp r (tE (kwX X) M W f) (tE (kwX X) M W g) σ H Q := by
  obtain ⟨Fo, G, δ, er, q⟩ := q
  refine ⟨Fo, G, δ, er, PX.mono (PX.bind q) fun G1 H1 x t1 q1 v rv => ?_⟩
  refine ⟨Fo, G1, δ, er.tr t1, PX.mono (PX.bind q1) fun G2 H2 y t2 q2 w rw => ?_⟩
  exact hs M.tp G2 H2 x y v w Q t2.2.1 (Rep.mono t2.1 _ _ rv) rw (PX.qx q2)
theorem de_op {op : Operator} {r : R2} {h : D → D → Option D} (ho : OpR X (binaryOp op) r) (hs : OpS (kwX X) r h) (ha : PE X a (tE (kwX X) M W f)) (hb : PE X b (tE (kwX X) M W g)) : PE X (.BinOp a op b pos) (tE (kwX X) M W (e2 h f g)) :=
  PE.imp (pe_op ho ha hb) fun _ _ _ q => op_gen hs q
theorem de_cmp {op : CmpOp} {r : R2} {h : D → D → Option D} (ho : OpR X (compareOp op) r) (hs : OpS (kwX X) r h) (ha : PE X a (tE (kwX X) M W f)) (hb : PE X b (tE (kwX X) M W g)) (hm : behindInMarks op b = false := by first | exact nomark _ | rfl) : PE X (.Compare a [op] [b] pos) (tE (kwX X) M W (e2 h f g)) :=
  PE.imp (pe_cmpR ho ha hb hm) fun _ _ _ q => op_gen hs q

/-! ### tests -/
theorem test_gen {σ : L2.St} {H : Hp} {Q : Bool → Hp → Prop} {Q' : VK} (i : ∀ b H, Q b H → Q' (.bl b) H) (q : tT (kwX X) M W (tB1 f) σ H Q) : tE (kwX X) M W f σ H fun v H1 => ∃ b, v = .bl b ∧ Q b H1 := by
  obtain ⟨Fo, G, δ, er, q⟩ := q
  refine ⟨Fo, G, δ, er, PX.mono (PX.bind q) fun G1 H1 x t1 q1 v rv => ?_⟩
  cases x with
  | bl y => exact ⟨y, rv, q1 G1 H1 (.refl t1.2.1)⟩
  | _ => exact False.elim q1
theorem dt_val (h : PE X e (tE (kwX X) M W f)) (he : ∀ whole, isTrue e X.env whole = (do let v ← whole; standAt e.pos; holding [v] (truthy v)) := by intro _; rfl) : PT X e (tT (kwX X) M W (tB1 f)) := by
  refine PT.imp (pt_val h he) fun σ H Q q => ?_
  exact test_gen (Q' := fun v H => ∃ b, v = .bl b ∧ Q b H) (fun b H q => ⟨b, rfl, q⟩) q
theorem dt_cmp {op : CmpOp} {r : R2} {h : D → D → Option D} (ho : OpR X (compareOp op) r) (hs : OpS (kwX X) r h) (ha : PE X a (tE (kwX X) M W f)) (hb : PE X b (tE (kwX X) M W g)) (hm : behindInMarks op b = false := by first | exact nomark _ | rfl) : PT X (.Compare a [op] [b] pos) (tT (kwX X) M W (tB1 (e2 h f g))) := by
  refine PT.imp (pt_cmpR ho ha hb hm) fun σ H Q q => ?_
  have z := test_gen (X := X) (Q' := fun v H => ∃ b, v = .bl b ∧ Q b H) (fun b H q => ⟨b, rfl, q⟩) q
  exact op_gen hs z
theorem dw_and1 (h : PT X a (tT (kwX X) M W t)) : PW X (.BoolOp .And [a] pos) (tT (kwX X) M W t) := pw_and1 h
theorem dw_or1 (h : PT X a (tT (kwX X) M W t)) : PW X (.BoolOp .Or [a] pos) (tT (kwX X) M W t) := pw_or1 h
theorem dw_and (h : PT X a (tT (kwX X) M W t)) (hb : PW X (.BoolOp .And (b :: rest) pos) (tT (kwX X) M W u)) : PW X (.BoolOp .And (a :: b :: rest) pos) (tT (kwX X) M W (tAnd' t u)) := by
  refine PW.imp (pw_and h hb) fun σ H Q q => ?_
  obtain ⟨Fo, G, δ, er, q⟩ := q
  refine ⟨Fo, G, δ, er, PX.mono (PX.bind q) fun G1 H1 x t1 q1 => ?_⟩
  cases x with
  | true => exact ⟨Fo, G1, δ, er.tr t1, q1⟩
  | false => exact q1 G1 H1 (.refl t1.2.1)
theorem dw_or (h : PT X a (tT (kwX X) M W t)) (hb : PW X (.BoolOp .Or (b :: rest) pos) (tT (kwX X) M W u)) : PW X (.BoolOp .Or (a :: b :: rest) pos) (tT (kwX X) M W (tOr' t u)) := by
  refine PW.imp (pw_or h hb) fun σ H Q q => ?_
  obtain ⟨Fo, G, δ, er, q⟩ := q
  refine ⟨Fo, G, δ, er, PX.mono (PX.bind q) fun G1 H1 x t1 q1 => ?_⟩
  cases x with
  | true => exact q1 G1 H1 (.refl t1.2.1)
  | false => exact ⟨Fo, G1, δ, er.tr t1, q1⟩
theorem dt_w (h : PW X e (tT (kwX X) M W t)) : PT X e (tT (kwX X) M W t) := h.pt
theorem dt_not (h : PT X a (tT (kwX X) M W t)) : PT X (.UnaryOp .Not a pos) (tT (kwX X) M W (tNot' t)) := by
  refine PT.imp (pt_not h) fun σ H Q q => ?_
  obtain ⟨Fo, G, δ, er, q⟩ := q
  exact ⟨Fo, G, δ, er, PX.mono (PX.bind q) fun G1 H1 x t1 q1 => q1 G1 H1 (.refl t1.2.1)⟩

/-! ### and, or, not as values -/
theorem de_one {op} (h : PE X a (tE (kwX X) M W f)) : PE X (.BoolOp op [a] pos) (tE (kwX X) M W f) := pe_one h
theorem de_and (ha : PE X a (tE (kwX X) M W f)) (hb : PE X (.BoolOp .And (b :: rest) pos) (tE (kwX X) M W g)) : PE X (.BoolOp .And (a :: b :: rest) pos) (tE (kwX X) M W (eAnd f g)) := by
  refine PE.imp (pe_and ha hb) fun σ H Q q => ?_
  obtain ⟨Fo, G, δ, er, q⟩ := q
  refine ⟨Fo, G, δ, er, PX.mono (PX.bind q) fun G1 H1 x t1 q1 v rv => ?_⟩
  cases x with
  | bl y =>
    refine ⟨y, rv, ?_⟩
    cases y with
    | true => exact ⟨Fo, G1, δ, er.tr t1, q1⟩
    | false => exact q1 G1 H1 (.refl t1.2.1) _ rfl
  | _ => exact False.elim q1
theorem de_not (ha : PE X a (tE (kwX X) M W f)) : PE X (.UnaryOp .Not a pos) (tE (kwX X) M W (eNot f)) := by
  refine PE.imp (pe_not ha) fun σ H Q q => ?_
  obtain ⟨Fo, G, δ, er, q⟩ := q
  refine ⟨Fo, G, δ, er, PX.mono (PX.bind q) fun G1 H1 x t1 q1 v rv => ?_⟩
  cases x with
  | bl y => exact ⟨y, rv, q1 G1 H1 (.refl t1.2.1) _ rfl⟩
  | _ => exact False.elim q1
theorem de_if (hc : PT X c (tT (kwX X) M W t)) (ha : PE X a (tE (kwX X) M W f)) (hb : PE X b (tE (kwX X) M W g)) : PE X (.IfExp c a b pos) (tE (kwX X) M W (eIf t f g)) := by
  refine PE.imp (pe_ifExp hc ha hb) fun σ H Q q => ?_
  obtain ⟨Fo, G, δ, er, q⟩ := q
  refine ⟨Fo, G, δ, er, PX.mono (PX.bind q) fun G1 H1 x t1 q1 => ?_⟩
  cases x with
  | true => exact ⟨Fo, G1, δ, er.tr t1, q1⟩
  | false => exact ⟨Fo, G1, δ, er.tr t1, q1⟩

/-! ### arguments, displays, calls -/
theorem da_nil : PA X [] (tA (kwX X) M W aNil) := PA.imp pa_nil fun σ H Q ⟨Fo, G, δ, er, q⟩ => q G H (.refl er.gh) _ rfl
theorem da_cons (ha : PE X e (tE (kwX X) M W f)) (hr : PA X es (tA (kwX X) M W fs)) (hs : starEach (e :: es) X.env = (false, eval e X.env) :: starEach es X.env := by rfl) : PA X (e :: es) (tA (kwX X) M W (aCons f fs)) := by
  refine PA.imp (pa_cons ha hr hs) fun σ H Q q => ?_
  obtain ⟨Fo, G, δ, er, q⟩ := q
  refine ⟨Fo, G, δ, er, PX.mono (PX.bind q) fun G1 H1 x t1 q1 v rv => ?_⟩
  refine ⟨Fo, G1, δ, er.tr t1, PX.mono (PX.bind q1) fun G2 H2 xs t2 q2 vs rvs => ?_⟩
  exact q2 G2 H2 (.refl t2.2.1) _ ⟨v, vs, rfl, Rep.mono t2.1 _ _ rv, rvs⟩
theorem de_tup {x1} (h : PA X es (tA (kwX X) M W fs)) : PE X (.Tuple es x1 pos) (tE (kwX X) M W (eTup fs)) := by
  refine PE.imp (pe_tupF h) fun σ H Q q => ?_
  obtain ⟨Fo, G, δ, er, q⟩ := q
  refine ⟨Fo, G, δ, er, PX.mono (PX.bind q) fun G1 H1 xs t1 q1 vs rvs => ?_⟩
  have q2 := PX.qx q1
  by_cases z : xs.length ≤ sizeLine
  · rw [if_pos z] at q2
    exact ⟨by rw [rvs.length]; exact z, q2.newTup t1.2.1 rvs⟩
  · rw [if_neg z] at q2; exact False.elim q2
theorem de_lst (h : PA X es (tA (kwX X) M W fs)) : PE X (.List es pos) (tE (kwX X) M W (eLst fs)) := by
  refine PE.imp (pe_lst h) fun σ H Q q => ?_
  obtain ⟨Fo, G, δ, er, q⟩ := q
  refine ⟨Fo, G, δ, er, PX.mono (PX.bind q) fun G1 H1 xs t1 q1 vs rvs => ?_⟩
  have q2 := PX.qx q1
  by_cases z : xs.length ≤ sizeLine
  · rw [if_pos z] at q2
    exact ⟨by rw [rvs.length]; exact z, fun p n => q2.newLst t1.2.1 rvs n⟩
  · rw [if_neg z] at q2; exact False.elim q2
/-- a def's promise by a function over data -/
def spD (K : Kw) (M : Mo) (n : Nat) (m : List D → R D) : Sp := fun vs H Q E => ∃ G ds, Le G H ∧ (∀ a, M.tp a → TabD M.tp G H a ∧ G a = none) ∧ Reps K G ds vs ∧ ds.length = n ∧ match m ds with
  | .ok d => ∀ G' H', Tr M.tp G H G' H' → ∀ v, Rep K G' d v → Q v H'
  | .exc c => ∀ G' H', Tr M.tp G H G' H' → E (M.ec c) none H'
  | .bad => False
theorem de_call {k : Nat} {F : Addr} {fd : FuncData} {ps : List Str} {n : Nat} {m : List D → R D} {x : Str} {p : Pos} (Fn : FnOk X.prog X.w X.K X.mg X.base (L2.CX X.prog X.w) k F fd ps (spD (kwX X) M n m)) (hr : Room k X.A) (hg : Gl X x) (hm : X.mg x = some (.ref F)) (hk : PySem.W.keepIn X.K (.ref F) = true) (hb : Binds X.K fd ps []) (tk : Takes X W)
    (ha : PA X (e :: es) (tA (kwX X) M W fs)) (hl : (e :: es).length = n := by rfl) (hdb : (x == ("__debug__" : Str)) = false := by decide) (he : starEach (e :: es) X.env = (false, eval e X.env) :: starEach es X.env := by rfl) (hpl : (backTo pos (starEach es X.env)).any (·.1) = false := by rfl)
    (hn : ∀ δ ds, fs δ = .ok ds → ds.length = n) :
    PE X (.Call (.Name x p) (e :: es) [] pos) (tE (kwX X) M W (eCall m fs)) := by
  refine PE.imp (pe_callS Fn hr hg hm hk hb (fun σ => passAt tk σ) ha hdb he hpl) fun σ H Q q => ?_
  obtain ⟨Fo, G, δ, er, q⟩ := q
  cases z : fs δ with
  | bad => unfold eCall at q; rw [z] at q; exact False.elim q
  | exc c => exact ⟨Fo, G, δ, er, by unfold eCall at q; rw [z] at q ⊢; exact q⟩
  | ok ds0 =>
    refine ⟨Fo, G, δ, er, PX.mono (k := fun G1 H1 xs => xs = ds0 ∧ PX M W σ G1 H1 (m xs) fun G' H' d => ∀ v, Rep (kwX X) G' d v → Q v H') ?_ fun G1 H1 xs t1 ⟨ex, q1⟩ vs rvs => ?_⟩
    · rw [z]
      have q' := PX.bind q
      rw [z] at q'
      intro G1 H1 t1
      exact ⟨rfl, q' G1 H1 t1⟩
    · subst ex
      refine ⟨G1, xs, t1.2.1, (er.tr t1).tb, rvs, hn δ xs z, ?_⟩
      cases e : m xs with
      | ok d => rw [e] at q1; exact q1
      | exc c => rw [e] at q1; exact q1
      | bad => rw [e] at q1; exact q1
theorem hn_nil : ∀ δ ds, aNil δ = .ok ds → ds.length = 0 := fun δ ds h => by cases h; rfl
theorem hn_cons {n : Nat} (h : ∀ δ ds, fs δ = .ok ds → ds.length = n) : ∀ δ ds, aCons f fs δ = .ok ds → ds.length = n + 1 := fun δ ds q => by
  unfold aCons at q
  cases e : f δ with
  | ok x =>
    rw [e] at q
    cases e' : fs δ with
    | ok xs =>
      have q' : R.ok (x :: xs) = R.ok ds := by simpa [e', R.bind_ok] using q
      cases q'
      rw [List.length_cons, h δ xs e']
    | exc c => rw [e', R.bind_ok, R.bind_exc] at q; cases q
    | bad => rw [e', R.bind_ok, R.bind_bad] at q; cases q
  | exc c => rw [e, R.bind_exc] at q; cases q
  | bad => rw [e, R.bind_bad] at q; cases q

/-- a call of a built-in by values, over data -/
def CallS (K : Kw) (r : List V → Hp → VK → Prop) (m : List D → Option D) : Prop := ∀ (tp : Tb) (G H : Hp) (ds : List D) (vs : List V) (Q : VK), Le G H → Reps K G ds vs → QX K tp G H (m ds) Q → r vs H Q
theorem callB_gen {r : List V → Hp → VK → Prop} {m : List D → Option D} (hs : CallS (kwX X) r m) {σ : L2.St} {H : Hp} {Q : VK} (q : tE (kwX X) M W (eB m fs) σ H Q) : tCB r (tA (kwX X) M W fs) σ H Q := by
  obtain ⟨Fo, G, δ, er, q⟩ := q
  exact ⟨Fo, G, δ, er, PX.mono (PX.bind q) fun G1 H1 xs t1 q1 vs rvs => hs M.tp G1 H1 xs vs Q t1.2.1 rvs (PX.qx q1)⟩
theorem de_callB {id : String} {x : Str} {p : Pos} {r : List V → Hp → VK → Prop} {m : List D → Option D} (hc : CallR X (.builtin id) r) (hs : CallS (kwX X) r m) (hg : Gl X x) (hm : X.mg x = none) (hv : bootBuiltins x = some (.builtin id)) (ha : PA X (e :: es) (tA (kwX X) M W fs)) (hn : x ≠ "__name__" := by decide) (hdb : (x == ("__debug__" : Str)) = false := by decide)
    (he : starEach (e :: es) X.env = (false, eval e X.env) :: starEach es X.env := by rfl) (hpl : (backTo pos (starEach es X.env)).any (·.1) = false := by rfl) : PE X (.Call (.Name x p) (e :: es) [] pos) (tE (kwX X) M W (eB m fs)) :=
  PE.imp (pe_callB hc hg hm hv ha hn hdb he hpl) fun _ _ _ q => callB_gen hs q
theorem de_callTy {T : String} {x : Str} {p : Pos} {r : List V → Hp → VK → Prop} {m : List D → Option D} (hc : CallR X (.type T) r) (hs : CallS (kwX X) r m) (hg : Gl X x) (hm : X.mg x = none) (hv : bootBuiltins x = some (.type T)) (ha : PA X (e :: es) (tA (kwX X) M W fs)) (hn : x ≠ "__name__" := by decide) (hdb : (x == ("__debug__" : Str)) = false := by decide)
    (he : starEach (e :: es) X.env = (false, eval e X.env) :: starEach es X.env := by rfl) (hpl : (backTo pos (starEach es X.env)).any (·.1) = false := by rfl) : PE X (.Call (.Name x p) (e :: es) [] pos) (tE (kwX X) M W (eB m fs)) :=
  PE.imp (pe_callTy hc hg hm hv ha hn hdb he hpl) fun _ _ _ q => callB_gen hs q
end
end Dl

set_option Elab.async false
set_option linter.all false
set_option maxRecDepth 100000
set_option maxHeartbeats 2000000
/-! Operations over data. -/
namespace Dl
open PySem PySem.Spec PyProof.Rows L2

mutual
def D.py : D → PyData
  | .non => .none
  | .bl b => .bool b
  | .int i => .int i
  | .str x => .str x
  | .tup xs => .tuple (D.pys xs)
  | .lst xs => .list (D.pys xs)
  | .obj .. => .dict []
  | .dk .. => .dict []
  | .dt .. => .dict []
def D.pys : List D → List PyData
  | [] => []
  | x :: xs => D.py x :: D.pys xs
end
theorem D.pys_eq : ∀ xs : List D, D.pys xs = xs.map D.py
  | [] => rfl
  | x :: xs => by rw [D.pys, D.pys_eq xs, List.map_cons]
section
variable {K : Kw} {H : Hp}
mutual
/-- texts, numbers, tuples, lists -/
def D.dat : D → Bool
  | .tup xs => D.dats xs
  | .lst xs => D.dats xs
  | .obj .. => false
  | .dk .. => false
  | .dt .. => false
  | _ => true
def D.dats : List D → Bool
  | [] => true
  | x :: xs => D.dat x && D.dats xs
end
mutual
theorem dat_of_can : ∀ d : D, PyData.canLay0 d.py = true → d.dat = true
  | .non, _ => rfl
  | .bl _, _ => rfl
  | .int _, _ => rfl
  | .str _, _ => rfl
  | .tup xs, h => by rw [D.py, PyData.canLay0] at h; rw [D.dat]; exact dats_of_can xs h
  | .lst xs, h => by rw [D.py, PyData.canLay0] at h; rw [D.dat]; exact dats_of_can xs h
  | .obj .., h => by rw [D.py, PyData.canLay0] at h; cases h
  | .dk .., h => by rw [D.py, PyData.canLay0] at h; cases h
  | .dt .., h => by rw [D.py, PyData.canLay0] at h; cases h
theorem dats_of_can : ∀ xs : List D, PyData.canLayAll0 (D.pys xs) = true → D.dats xs = true
  | [], _ => rfl
  | x :: xs, h => by
    rw [D.pys, PyData.canLayAll0, Bool.and_eq_true] at h
    rw [D.dats, dat_of_can x h.1, dats_of_can xs h.2]; rfl
end
mutual
theorem Rep.dp : ∀ (d : D) (v : V), d.dat = true → Rep K H d v → Dp K H v d.py
  | .non, _, _, h => by cases h; exact .non
  | .bl b, _, _, h => by cases h; exact .bl b
  | .int i, _, _, h => by cases h; exact .int i
  | .str x, _, _, h => by cases h; exact .str x
  | .tup ds, _, hd, ⟨a, vs, e, s, r⟩ => by rw [D.dat] at hd; subst e; exact .tup s.1 (Reps.dp ds vs hd r)
  | .lst ds, _, hd, ⟨a, vs, e, s, r⟩ => by rw [D.dat] at hd; subst e; exact .lst s (Reps.dp ds vs hd r)
  | .obj .., _, hd, _ => by rw [D.dat] at hd; cases hd
  | .dk .., _, hd, _ => by rw [D.dat] at hd; cases hd
  | .dt .., _, hd, _ => by rw [D.dat] at hd; cases hd
theorem Reps.dp : ∀ (ds : List D) (vs : List V), D.dats ds = true → Reps K H ds vs → DpAll K H vs (D.pys ds)
  | [], _, _, h => by cases h; exact .nil
  | d :: ds, _, hd, ⟨v, r, e, h1, h2⟩ => by
    rw [D.dats, Bool.and_eq_true] at hd
    subst e; exact .cons (Rep.dp d v hd.1 h1) (Reps.dp ds r hd.2 h2)
end
theorem Rep.sh {d : D} {v : V} (h : SeqAt.shaped d.py = true) (r : Rep K H d v) : Dp K H v d.py := Rep.dp d v (dat_of_can d (SeqAt.canLay_of_shaped h)) r
end
/-- == of data without truth values beside ints -/
def sh (d : D) : Bool := SeqAt.shaped d.py
def eqv (d e : D) : Bool := PyData.eqv d.py e.py
def eqD (d e : D) : Option D := if sh d && sh e then some (.bl (eqv d e)) else none
def neD (d e : D) : Option D := if sh d && sh e then some (.bl (!eqv d e)) else none
section
variable {X : Cx}
theorem os_eq : OpS (kwX X) (rEqD X.K) eqD := fun tp G H d e v w Q l rv rw q => by
  unfold eqD at q
  by_cases z : (sh d && sh e) = true
  · rw [if_pos z] at q
    rw [Bool.and_eq_true] at z
    exact ⟨d.py, e.py, Rep.sh z.1 (Rep.mono l _ _ rv), Rep.sh z.2 (Rep.mono l _ _ rw), z.1, z.2, q.at l rfl⟩
  · rw [if_neg z] at q; exact False.elim q
theorem os_ne : OpS (kwX X) (rNeD X.K) neD := fun tp G H d e v w Q l rv rw q => by
  unfold neD at q
  by_cases z : (sh d && sh e) = true
  · rw [if_pos z] at q
    rw [Bool.and_eq_true] at z
    exact ⟨d.py, e.py, Rep.sh z.1 (Rep.mono l _ _ rv), Rep.sh z.2 (Rep.mono l _ _ rw), z.1, z.2, q.at l rfl⟩
  · rw [if_neg z] at q; exact False.elim q

/-! ### + - * // % ** -/
/-- list + list, any lists that are read -/
def rCatL (K : PySem.W.Frag) : R2 := fun x y H Q => ∃ l b xs zs, x = .ref l ∧ y = .ref b ∧ SqL K H l xs ∧ SqL K H b zs ∧ xs.length + zs.length ≤ sizeLine ∧ ∀ p, H p = none → Q (.ref p) (upd H p (.lst (xs ++ zs)))
theorem op_catL : OpR X (binaryOp .Add) (rCatL X.K) := by
  intro pins s σ H x y v u Q I rx ry h
  obtain ⟨l, b, xs, zs, rfl, rfl, hH, hB, hz, q⟩ := h
  cases rx
  cases ry
  obtain ⟨its, r, p1, _⟩ := I.list hH
  obtain ⟨its2, r2, p2, _⟩ := I.list hB
  obtain ⟨⟨cls, dd, data, sl⟩, ho, hc, n, hd⟩ := id p1.isList
  obtain ⟨⟨cls2, dd2, data2, sl2⟩, ho2, hc2, n2, hd2⟩ := id p2.isList
  simp only at hc hd hc2 hd2
  subst hc hd hc2 hd2
  have e : its.toArray ++ its2.toArray = (its ++ its2).toArray := by simp
  refine concat_meets ⟨_, ho, rfl⟩ ⟨_, ho2, rfl⟩ noFill_list_add seq_list_add PySem.F.slot_list_add PySem.F.entry_list_add (PySem.F.args_list_add_2 _ _)
    (list_addW l b its.toArray its2.toArray n n2 dd dd2 sl sl2 (by rw [List.size_toArray, List.size_toArray, ← r.length, ← r2.length]; exact hz)) ⟨ho, ho2, ?_⟩
  rw [e]
  exact ⟨.ref _, _, I.lnew (t' := s.toks) (r.append r2) (by rw [List.length_append]; exact hz), rfl, q _ I.fresh⟩
def addD : D → D → Option D
  | .int i, .int j => some (.int (i + j))
  | .str a, .str b => if a.length + b.length ≤ sizeLine then some (.str (a ++ b)) else none
  | .lst a, .lst b => if a.length + b.length ≤ sizeLine then some (.lst (a ++ b)) else none
  | .tup a, .tup b => if a.length + b.length ≤ sizeLine then some (.tup (a ++ b)) else none
  | _, _ => none
def rAdd (K : PySem.W.Frag) : R2 := fun x y H Q => rI0 (fun i j => .int (i + j)) x y H Q ∨ (∃ i j, x = .str i ∧ y = .str j ∧ i.length + j.length ≤ sizeLine ∧ Q (.str (i ++ j)) H) ∨ rCatL K x y H Q ∨ rCatF K x y H Q
theorem op_addD : OpR X (binaryOp .Add) (rAdd X.K) := op_add.or (op_add_str.or (op_catL.or op_catF))
theorem os_add : OpS (kwX X) (rAdd X.K) addD := fun tp G H d e v w Q l rv rw q => by
  cases d with
  | int i =>
    cases e with
    | int j => exact .inl ⟨i, j, rv, rw, q.at l rfl⟩
    | _ => exact False.elim q
  | str a =>
    cases e with
    | str b =>
      replace q : QX (kwX X) tp G H (if a.length + b.length ≤ sizeLine then some (.str (a ++ b)) else none) Q := q
      split at q
      · rename_i z
        exact .inr (.inl ⟨a, b, rv, rw, z, q.at l rfl⟩)
      · exact False.elim q
    | _ => exact False.elim q
  | lst a =>
    cases e with
    | lst b =>
      replace q : QX (kwX X) tp G H (if a.length + b.length ≤ sizeLine then some (.lst (a ++ b)) else none) Q := q
      split at q
      · rename_i z
        obtain ⟨p, vs, ev, sv, rvs⟩ := rv
        obtain ⟨p', ws, ew, sw, rws⟩ := rw
        exact .inr (.inr (.inl ⟨p, p', vs, ws, ev, ew, l.sqL sv, l.sqL sw, by rw [rvs.length, rws.length]; exact z, fun t n => q.newLst l (rvs.append rws) n⟩))
      · exact False.elim q
    | _ => exact False.elim q
  | tup a =>
    cases e with
    | tup b =>
      replace q : QX (kwX X) tp G H (if a.length + b.length ≤ sizeLine then some (.tup (a ++ b)) else none) Q := q
      split at q
      · rename_i z
        obtain ⟨p, vs, ev, sv, rvs⟩ := rv
        obtain ⟨p', ws, ew, sw, rws⟩ := rw
        refine .inr (.inr (.inr ⟨p, p', vs, ws, ev, ew, l.sqT sv.1, l.sqT sw.1, by rw [rvs.length, rws.length]; exact z, fun e1 => ?_, fun _ e2 => ?_, fun _ _ => q.newTup l (rvs.append rws)⟩))
        · subst e1
          have : a = [] := List.eq_nil_of_length_eq_zero rvs.length.symm
          subst this
          exact q.at l ⟨p', ws, rfl, sw, rws⟩
        · subst e2
          have : b = [] := List.eq_nil_of_length_eq_zero rws.length.symm
          subst this
          rw [List.append_nil] at q
          exact q.at l ⟨p, vs, rfl, sv, rvs⟩
      · exact False.elim q
    | _ => exact False.elim q
  | _ => exact False.elim q
def iOp (C : Int → Int → Bool) (g : Int → Int → D) : D → D → Option D
  | .int i, .int j => if C i j then some (g i j) else none
  | _, _ => none
/-- the number has at most k digits in base 2; stuck where it is not written -/
def lg (i : Int) (k : Nat) : Bool := decide (i.natAbs.log2 < k)
theorem lg_nat {i : Int} {k : Nat} : lg i k = true → 0 < k → i.natAbs < 2 ^ k := fun h hk => by
  unfold lg at h
  rw [decide_eq_true_eq] at h
  by_cases z : i.natAbs = 0
  · rw [z]; exact Nat.two_pow_pos k
  · exact (Nat.log2_lt z).mp h
theorem lg_of {i : Int} {k : Nat} (h : i.natAbs < 2 ^ k) (hk : 0 < k) : lg i k = true := by
  unfold lg
  rw [decide_eq_true_eq]
  by_cases z : i.natAbs = 0
  · rw [z, Nat.log2_zero]; exact hk
  · exact (Nat.log2_lt z).mpr h
theorem lg_lt {i : Int} {k : Nat} (h : lg i k = true) (hk : 0 < k) : -(2 ^ k) < i ∧ i < 2 ^ k := by
  have h' := lg_nat h hk
  have e : ((2 ^ k : Nat) : Int) = (2 : Int) ^ k := by simp
  generalize (2 : Int) ^ k = z at e ⊢
  omega
def subD : D → D → Option D := iOp (fun _ _ => true) fun i j => .int (i - j)
def mulD : D → D → Option D := iOp (fun i j => lg i 64 || lg j 64) fun i j => .int (i * j)
def fdivD : D → D → Option D := iOp (fun _ j => decide (0 < j) && lg j 30) fun i j => .int (i / j)
def modD : D → D → Option D := iOp (fun _ j => decide (0 < j)) fun i j => .int (i % j)
def powD : D → D → Option D := iOp (fun i j => decide (0 ≤ j) && lg j 19 && lg i 64) fun i j => .int (i ^ j.toNat)
def ltD : D → D → Option D := iOp (fun _ _ => true) fun i j => .bl (decide (i < j))
def leD : D → D → Option D := iOp (fun _ _ => true) fun i j => .bl (decide (i ≤ j))
def gtD : D → D → Option D := iOp (fun _ _ => true) fun i j => .bl (decide (j < i))
def geD : D → D → Option D := iOp (fun _ _ => true) fun i j => .bl (decide (j ≤ i))
theorem iOp_r {C : Int → Int → Bool} {g : Int → Int → D} {tp : Tb} {G H : Hp} {d e : D} {v w : V} {Q : VK} {P : Int → Int → V → Prop} (l : Le G H) (rv : Rep (kwX X) G d v) (rw : Rep (kwX X) G e w) (q : QX (kwX X) tp G H (iOp C g d e) Q) :
    ∃ i j, v = .int i ∧ w = .int j ∧ C i j = true ∧ ∀ u, Rep (kwX X) G (g i j) u → Q u H := by
  cases d with
  | int i =>
    cases e with
    | int j =>
      replace q : QX (kwX X) tp G H (if C i j = true then some (g i j) else none) Q := q
      by_cases z : C i j = true
      · rw [if_pos z] at q
        exact ⟨i, j, rv, rw, z, fun u r => q.at l r⟩
      · rw [if_neg z] at q; exact False.elim q
    | _ => exact False.elim q
  | _ => exact False.elim q
theorem os_int0 {g : Int → Int → V} {h : Int → Int → D} (hg : ∀ G i j, Rep (kwX X) G (h i j) (g i j)) : OpS (kwX X) (rI0 g) (iOp (fun _ _ => true) h) := fun tp G H d e v w Q l rv rw q => by
  obtain ⟨i, j, e1, e2, _, k⟩ := iOp_r (P := fun _ _ _ => True) l rv rw q
  exact ⟨i, j, e1, e2, k _ (hg G i j)⟩
theorem os_int {C : Int → Int → Prop} {C' : Int → Int → Bool} {g : Int → Int → V} {h : Int → Int → D} (hc : ∀ i j, C' i j = true → C i j) (hg : ∀ G i j, Rep (kwX X) G (h i j) (g i j)) : OpS (kwX X) (rI C g) (iOp C' h) := fun tp G H d e v w Q l rv rw q => by
  obtain ⟨i, j, e1, e2, c, k⟩ := iOp_r (P := fun _ _ _ => True) l rv rw q
  exact ⟨i, j, e1, e2, hc i j c, k _ (hg G i j)⟩
theorem os_sub : OpS (kwX X) (rI0 fun i j => .int (i - j)) subD := os_int0 fun _ _ _ => rfl
theorem os_mul : OpS (kwX X) (rI CMul fun i j => .int (i * j)) mulD := os_int (fun _ _ h => by rw [Bool.or_eq_true] at h; exact h.imp (fun h => lg_lt h (by decide)) (fun h => lg_lt h (by decide))) fun _ _ _ => rfl
theorem os_fdiv : OpS (kwX X) (rI CDiv fun i j => .int (i / j)) fdivD := os_int (fun _ _ h => by rw [Bool.and_eq_true, decide_eq_true_eq] at h; have := (lg_lt h.2 (by decide)).2; exact ⟨h.1, this⟩) fun _ _ _ => rfl
theorem os_mod : OpS (kwX X) (rI (fun _ j => 0 < j) fun i j => .int (i % j)) modD := os_int (fun _ _ h => of_decide_eq_true h) fun _ _ _ => rfl
theorem os_pow : OpS (kwX X) (rI CPow fun i j => .int (i ^ j.toNat)) powD := os_int (fun _ _ h => by simp only [Bool.and_eq_true, decide_eq_true_eq] at h; have h2 := (lg_lt h.1.2 (by decide)).2; have h3 := lg_nat h.2 (by decide); exact ⟨h.1.1, by omega, h3⟩) fun _ _ _ => rfl
theorem os_lt : OpS (kwX X) (rI0 fun i j => .bl (decide (i < j))) ltD := os_int0 fun _ _ _ => rfl
theorem os_le : OpS (kwX X) (rI0 fun i j => .bl (decide (i ≤ j))) leD := os_int0 fun _ _ _ => rfl
theorem os_gt : OpS (kwX X) (rI0 fun i j => .bl (decide (j < i))) gtD := os_int0 fun _ _ _ => rfl
theorem os_ge : OpS (kwX X) (rI0 fun i j => .bl (decide (j ≤ i))) geD := os_int0 fun _ _ _ => rfl

/-! ### is None -/
def isND (d e : D) : Option D := if e = .non then some (.bl (decide (d = .non))) else none
def notND (d e : D) : Option D := if e = .non then some (.bl (!decide (d = .non))) else none
theorem rep_non {K : Kw} {G : Hp} {d : D} {v : V} (r : Rep K G d v) : decide (v = .non) = decide (d = .non) := by
  cases d with
  | non => cases r; simp
  | bl _ => cases r; simp
  | int _ => cases r; simp
  | str _ => cases r; simp
  | tup _ => obtain ⟨a, vs, e, _⟩ := r; subst e; simp
  | lst _ => obtain ⟨a, vs, e, _⟩ := r; subst e; simp
  | obj _ _ _ => obtain ⟨a, q, vs, e, _⟩ := r; subst e; simp
  | dk _ _ => obtain ⟨a, vs, e, _⟩ := r; subst e; simp
  | dt _ _ => obtain ⟨a, o, ka, vs, e, _⟩ := r; subst e; simp
theorem os_isN : OpS (kwX X) (fun x y H Q => y = .non ∧ Q (.bl (decide (x = .non))) H) isND := fun tp G H d e v w Q l rv rw q => by
  unfold isND at q
  split at q
  · rename_i z
    subst z
    exact ⟨rw, by rw [rep_non rv]; exact q.at l rfl⟩
  · exact False.elim q
/-! ### in -/
def inS (x y : Str) : Bool := match x.cps.toList with
  | [c] => decide (c ∈ y.cps.toList)
  | _ => !(Builtin.Str.occurrences y x 0 y.length 1).isEmpty
def inD : D → D → Option D
  | .str x, .str y => some (.bl (inS x y))
  | x, .lst ys => if sh x && sh (.lst ys) then some (.bl (ys.any fun z => eqv z x)) else none
  | x, .tup ys => if sh x && sh (.tup ys) then some (.bl (ys.any fun z => eqv z x)) else none
  | _, _ => none
def ninD (x y : D) : Option D := match inD x y with
  | some (.bl b) => some (.bl !b)
  | _ => none
def rInT (K : PySem.W.Frag) : R2 := fun x y H Q => ∃ d ds, Dp K H x d ∧ Dp K H y (.tuple ds) ∧ SeqAt.shaped d = true ∧ SeqAt.shaped (.tuple ds) = true ∧ Q (.bl (ds.any fun z => PyData.eqv z d)) H
def rNotInT (K : PySem.W.Frag) : R2 := fun x y H Q => ∃ d ds, Dp K H x d ∧ Dp K H y (.tuple ds) ∧ SeqAt.shaped d = true ∧ SeqAt.shaped (.tuple ds) = true ∧ Q (.bl (!ds.any fun z => PyData.eqv z d)) H
theorem room_in_shapedT {A : Around} {d : PyData} {ds : List PyData} (h : SeqAt.shaped d = true) (hu : A.units + 65 < cLine) : A.units + 1 + min (PyData.depthAll ds) d.depth < cLine := by
  have h1 := SeqAt.depth_of_shaped h
  have h2 : min (PyData.depthAll ds) d.depth ≤ d.depth := Nat.min_le_right _ _
  omega
theorem op_inT (hu : X.A.units + 65 < cLine) : OpR X (compareOp .In) (rInT X.K) := by
  intro pins s σ H x y v u Q I rx ry h
  obtain ⟨d, ds, hd, he, sd, se, q⟩ := h
  obtain ⟨as, r1⟩ := Dp.reads I d x v hd rx
  obtain ⟨bs, r2⟩ := Dp.reads I (.tuple ds) y u he ry
  exact SeqAt.in_tuple_reads r2 r1 (SeqAt.canLay_of_shaped se) (SeqAt.canLay_of_shaped sd) (room_in_shapedT sd hu) ⟨.bl _, H, I, rfl, q⟩
theorem op_notInT (hu : X.A.units + 65 < cLine) : OpR X (compareOp .NotIn) (rNotInT X.K) := by
  intro pins s σ H x y v u Q I rx ry h
  obtain ⟨d, ds, hd, he, sd, se, q⟩ := h
  obtain ⟨as, r1⟩ := Dp.reads I d x v hd rx
  obtain ⟨bs, r2⟩ := Dp.reads I (.tuple ds) y u he ry
  exact SeqAt.notIn_tuple_reads r2 r1 (SeqAt.canLay_of_shaped se) (SeqAt.canLay_of_shaped sd) (room_in_shapedT sd hu) ⟨.bl _, H, I, rfl, q⟩
def rInSg : R2 := fun x y H Q => ∃ (c : Nat) (z : Str), x = .str ⟨#[c]⟩ ∧ y = .str z ∧ Q (.bl (decide (c ∈ z.cps.toList))) H
def rInSs : R2 := fun x y H Q => ∃ i j, x = .str i ∧ y = .str j ∧ Q (.bl (!(Builtin.Str.occurrences j i 0 j.length 1).isEmpty)) H
def rNinSg : R2 := fun x y H Q => ∃ (c : Nat) (z : Str), x = .str ⟨#[c]⟩ ∧ y = .str z ∧ Q (.bl (!decide (c ∈ z.cps.toList))) H
def rNinSs : R2 := fun x y H Q => ∃ i j, x = .str i ∧ y = .str j ∧ Q (.bl (!(!(Builtin.Str.occurrences j i 0 j.length 1).isEmpty))) H
def rInAll (K : PySem.W.Frag) : R2 := fun x y H Q => rInSg x y H Q ∨ rInSs x y H Q ∨ rInD K x y H Q ∨ rInT K x y H Q
def rNinAll (K : PySem.W.Frag) : R2 := fun x y H Q => rNinSg x y H Q ∨ rNinSs x y H Q ∨ rNotInD K x y H Q ∨ rNotInT K x y H Q
theorem op_inAll (hu : X.A.units + 65 < cLine) : OpR X (compareOp .In) (rInAll X.K) := OpR.or (r := rInSg) op_in_sign (OpR.or (r := rInSs) op_in_str ((op_inD hu).or (op_inT hu)))
theorem op_ninAll (hu : X.A.units + 65 < cLine) : OpR X (compareOp .NotIn) (rNinAll X.K) := OpR.or (r := rNinSg) op_notIn_sign (OpR.or (r := rNinSs) op_notIn_str ((op_notInD hu).or (op_notInT hu)))
theorem str_one {x : Str} {c : Nat} (e : x.cps.toList = [c]) : x = ⟨#[c]⟩ := by
  obtain ⟨⟨l⟩⟩ := x
  simp only at e
  subst e
  rfl
theorem any_py (ys : List D) (x : D) : ((D.pys ys).any fun z => PyData.eqv z x.py) = ys.any fun z => eqv z x := by
  rw [D.pys_eq, List.any_map]
  rfl
theorem inD_seq {x : D} {ys : List D} {z : D} : (inD x (.lst ys) = some z → sh x = true ∧ sh (.lst ys) = true ∧ z = .bl (ys.any fun z => eqv z x)) ∧ (inD x (.tup ys) = some z → sh x = true ∧ sh (.tup ys) = true ∧ z = .bl (ys.any fun z => eqv z x)) := by
  constructor
  · intro h
    have h' : (if (sh x && sh (.lst ys)) = true then some (D.bl (ys.any fun z => eqv z x)) else none) = some z := by
      cases x <;> exact h
    split at h'
    · rename_i c
      rw [Bool.and_eq_true] at c
      cases h'
      exact ⟨c.1, c.2, rfl⟩
    · cases h'
  · intro h
    have h' : (if (sh x && sh (.tup ys)) = true then some (D.bl (ys.any fun z => eqv z x)) else none) = some z := by
      cases x <;> exact h
    split at h'
    · rename_i c
      rw [Bool.and_eq_true] at c
      cases h'
      exact ⟨c.1, c.2, rfl⟩
    · cases h'
theorem QX.some_of {K : Kw} {tp : Tb} {G H : Hp} {r : Option D} {Q : VK} (q : QX K tp G H r Q) : ∃ z, r = some z := by
  cases r with
  | none => exact False.elim q
  | some z => exact ⟨z, rfl⟩
theorem os_in : OpS (kwX X) (rInAll X.K) inD := fun tp G H d e v w Q l rv rw q => by
  obtain ⟨z, ez⟩ := q.some_of
  rw [ez] at q
  cases e with
  | str y =>
    cases d with
    | str x =>
      cases ez
      have e1 : v = .str x := rv
      have e2 : w = .str y := rw
      have q' := q.at l (show Rep (kwX X) G (.bl (inS x y)) (.bl (inS x y)) from rfl)
      unfold inS at q'
      split at q'
      · rename_i c hc
        exact .inl ⟨c, y, by rw [e1, str_one hc], e2, q'⟩
      · exact .inr (.inl ⟨x, y, e1, e2, q'⟩)
    | _ => cases ez
  | lst ys =>
    obtain ⟨s1, s2, rfl⟩ := inD_seq.1 ez
    exact .inr (.inr (.inl ⟨d.py, D.pys ys, Rep.sh s1 (Rep.mono l _ _ rv), Rep.sh (d := .lst ys) s2 (Rep.mono l _ _ rw), s1, s2, by rw [any_py]; exact q.at l rfl⟩))
  | tup ys =>
    obtain ⟨s1, s2, rfl⟩ := inD_seq.2 ez
    exact .inr (.inr (.inr ⟨d.py, D.pys ys, Rep.sh s1 (Rep.mono l _ _ rv), Rep.sh (d := .tup ys) s2 (Rep.mono l _ _ rw), s1, s2, by rw [any_py]; exact q.at l rfl⟩))
  | _ => cases d <;> cases ez
theorem os_nin : OpS (kwX X) (rNinAll X.K) ninD := fun tp G H d e v w Q l rv rw q => by
  unfold ninD at q
  split at q
  · rename_i b ez
    cases e with
    | str y =>
      cases d with
      | str x =>
        cases ez
        have e1 : v = .str x := rv
        have e2 : w = .str y := rw
        have q' := q.at l (show Rep (kwX X) G (.bl (!inS x y)) (.bl (!inS x y)) from rfl)
        unfold inS at q'
        split at q'
        · rename_i c hc
          exact .inl ⟨c, y, by rw [e1, str_one hc], e2, q'⟩
        · exact .inr (.inl ⟨x, y, e1, e2, q'⟩)
      | _ => cases ez
    | lst ys =>
      obtain ⟨s1, s2, hb⟩ := inD_seq.1 ez
      cases hb
      exact .inr (.inr (.inl ⟨d.py, D.pys ys, Rep.sh s1 (Rep.mono l _ _ rv), Rep.sh (d := .lst ys) s2 (Rep.mono l _ _ rw), s1, s2, by rw [any_py]; exact q.at l rfl⟩))
    | tup ys =>
      obtain ⟨s1, s2, hb⟩ := inD_seq.2 ez
      cases hb
      exact .inr (.inr (.inr ⟨d.py, D.pys ys, Rep.sh s1 (Rep.mono l _ _ rv), Rep.sh (d := .tup ys) s2 (Rep.mono l _ _ rw), s1, s2, by rw [any_py]; exact q.at l rfl⟩))
    | _ => cases d <;> cases ez
  · exact False.elim q

/-! ### x[i], x[lo:hi] -/
def ixD : D → D → Option D
  | .lst xs, .int i => atI xs i
  | .tup xs, .int i => atI xs i
  | .str z, .int i => if z.length ≤ sizeLine then (atI z.cps.toList i).map fun c => .str ⟨#[c]⟩ else none
  | _, _ => none
theorem Reps.atI {K : Kw} {G : Hp} {ds : List D} {vs : List V} {i : Int} {d : D} (r : Reps K G ds vs) (h : L2.atI ds i = some d) : ∃ v, L2.atI vs i = some v ∧ Rep K G d v := by
  unfold L2.atI at h ⊢
  rw [r.length]
  cases e : ixN ds.length i with
  | none => rw [e] at h; cases h
  | some j =>
    rw [e] at h
    exact r.get h
theorem os_ix : OpS (kwX X) (rIx X.K) ixD := fun tp G H d e v w Q l rv rw q => by
  obtain ⟨z, ez⟩ := q.some_of
  rw [ez] at q
  cases d with
  | lst xs =>
    cases e with
    | int i =>
      obtain ⟨p, vs, ev, sv, rvs⟩ := rv
      obtain ⟨u, eu, ru⟩ := rvs.atI (show atI xs i = some z from ez)
      exact .inl ⟨p, vs, i, u, ev, rw, l.sqL sv, eu, q.at l ru⟩
    | _ => cases ez
  | tup xs =>
    cases e with
    | int i =>
      obtain ⟨p, vs, ev, sv, rvs⟩ := rv
      obtain ⟨u, eu, ru⟩ := rvs.atI (show atI xs i = some z from ez)
      exact .inr (.inl ⟨p, vs, i, u, ev, rw, l.sqT sv.1, eu, q.at l ru⟩)
    | _ => cases ez
  | str x =>
    cases e with
    | int i =>
      have ez' : (if x.length ≤ sizeLine then (atI x.cps.toList i).map fun c => D.str ⟨#[c]⟩ else none) = some z := ez
      split at ez'
      · rename_i hz
        cases hc : atI x.cps.toList i with
        | none => rw [hc] at ez'; cases ez'
        | some c =>
          rw [hc] at ez'
          cases ez'
          exact .inr (.inr ⟨x, i, c, rv, rw, hz, hc, q.at l rfl⟩)
      · cases ez'
    | _ => cases ez
  | _ => cases e <;> cases ez
theorem de_ix {M : Mo} {W : WX} {a b : Expr} {f g : Ev} {pos : Pos} (ha : PE X a (tE (kwX X) M W f)) (hb : PE X b (tE (kwX X) M W g)) (hs : PlainIx b := by exact fun _ _ => rfl) : PE X (.Subscript a b pos) (tE (kwX X) M W (e2 ixD f g)) :=
  PE.imp (pe_ix ix_seq ha hb hs) fun _ _ _ q => op_gen os_ix q
def oNone : Env → R (Option Int) := fun _ => .ok none
def oSome (f : Ev) : Env → R (Option Int) := fun δ => f δ >>= fun x => match x with
  | .int i => .ok (some i)
  | _ => .bad
theorem do_none {M : Mo} {W : WX} : PO X none (tO (kwX X) M W oNone) := by
  refine ⟨fun pins s σ H Q I h => ?_⟩
  obtain ⟨Fo, G, δ, er, q⟩ := h
  exact po_none.run pins s σ H Q I (q G H (.refl er.gh))
theorem do_some {M : Mo} {W : WX} {e : Expr} {f : Ev} (h : PE X e (tE (kwX X) M W f)) : PO X (some e) (tO (kwX X) M W (oSome f)) := by
  refine ⟨fun pins s σ H Q I hw => ?_⟩
  refine (po_some h).run pins s σ H Q I ?_
  obtain ⟨Fo, G, δ, er, q⟩ := hw
  refine ⟨Fo, G, δ, er, PX.mono (PX.bind q) fun G1 H1 x t1 q1 v rv => ?_⟩
  cases x with
  | int i => exact ⟨i, rv, q1 G1 H1 (.refl t1.2.1)⟩
  | _ => exact False.elim q1
def cutD {α : Type} (xs : List α) (lo hi : Option Int) : List α := (xs.drop (HT.sIx xs.length 0 lo)).take (HT.sIx xs.length xs.length hi - HT.sIx xs.length 0 lo)
def slD : D → Option Int → Option Int → Option D
  | .lst xs, lo, hi => some (.lst (cutD xs lo hi))
  | .tup xs, lo, hi => some (.tup (cutD xs lo hi))
  | .str z, lo, hi => if z.length ≤ sizeLine then some (.str (cutS z lo hi)) else none
  | _, _, _ => none
def eSl (f : Ev) (l h : Env → R (Option Int)) : Ev := fun δ => f δ >>= fun x => l δ >>= fun a => h δ >>= fun b => ofO (slD x a b)
def rSlAll (K : PySem.W.Frag) : V → Option Int → Option Int → Hp → VK → Prop := fun x lo hi H Q => rSlL K x lo hi H Q ∨ rSlF K x lo hi H Q ∨ rSlS x lo hi H Q
theorem sl_all : SlR X (rSlAll X.K) := sl_list.or (sl_tupF.or sl_str)
theorem de_slice {M : Mo} {W : WX} {e : Expr} {lo hi : Option Expr} {f : Ev} {l h : Env → R (Option Int)} {pos p2 : Pos} (he : PE X e (tE (kwX X) M W f)) (hl : PO X lo (tO (kwX X) M W l)) (hh : PO X hi (tO (kwX X) M W h)) : PE X (.Subscript e (.Slice lo hi none p2) pos) (tE (kwX X) M W (eSl f l h)) := by
  refine PE.imp (pe_slice sl_all he hl hh) fun σ H Q q => ?_
  obtain ⟨Fo, G, δ, er, q⟩ := q
  refine ⟨Fo, G, δ, er, PX.mono (PX.bind q) fun G1 H1 x t1 q1 v rv => ?_⟩
  refine ⟨Fo, G1, δ, er.tr t1, PX.mono (PX.bind q1) fun G2 H2 a t2 q2 => ?_⟩
  refine ⟨Fo, G2, δ, (er.tr t1).tr t2, PX.mono (PX.bind q2) fun G3 H3 b t3 q3 => ?_⟩
  have q4 := PX.qx q3
  have l3 := t3.2.1
  have rv3 := Rep.mono t3.1 _ _ (Rep.mono t2.1 _ _ rv)
  cases x with
  | lst xs =>
    obtain ⟨p, vs, ev, sv, rvs⟩ := rv3
    refine .inl ⟨p, vs, ev, l3.sqL sv, fun p' n => ?_⟩
    have r2 : Reps (kwX X) G3 (cutD xs a b) (cutV vs a b) := by
      unfold cutD cutV
      rw [rvs.length]
      exact (rvs.drop _).take _
    exact QX.newLst q4 l3 r2 n
  | tup xs =>
    obtain ⟨p, vs, ev, sv, rvs⟩ := rv3
    refine .inr (.inl ⟨p, vs, ev, l3.sqT sv.1, fun hw => ?_, fun hw => ?_⟩)
    · rw [rvs.length] at hw
      have e5 : cutD xs a b = xs := by
        unfold cutD
        rw [hw.1, hw.2, List.drop_zero, Nat.sub_zero, List.take_length]
      have q5 : QX (kwX X) M.tp G3 H3 (some (.tup (cutD xs a b))) Q := q4
      rw [e5] at q5
      exact q5.at l3 ⟨p, vs, rfl, sv, rvs⟩
    · have r2 : Reps (kwX X) G3 (cutD xs a b) (cutV vs a b) := by
        unfold cutD cutV
        rw [rvs.length]
        exact (rvs.drop _).take _
      exact QX.newTup q4 l3 r2
  | str z =>
    have q5 : QX (kwX X) M.tp G3 H3 (if z.length ≤ sizeLine then some (.str (cutS z a b)) else none) Q := q4
    split at q5
    · rename_i hz
      exact .inr (.inr ⟨z, rv3, hz, q5.at l3 rfl⟩)
    · exact False.elim q5
  | _ => exact False.elim q4

/-! ### len, isinstance, tuple, list, int, join, replace -/
def lenD : List D → Option D
  | [.str z] => if z.length ≤ sizeLine then some (.int z.length) else none
  | [.lst xs] => some (.int xs.length)
  | [.tup xs] => some (.int xs.length)
  | _ => none
theorem cs_len : CallS (kwX X) (fun xs H Q => ∃ x n, xs = [x] ∧ LenV X.K x H n ∧ Q (.int n) H) lenD := fun tp G H ds vs Q l r q => by
  cases ds with
  | nil => exact False.elim q
  | cons d t =>
    cases t with
    | cons _ _ => cases d <;> exact False.elim q
    | nil =>
      obtain ⟨v, rr, e, rv, er⟩ := r
      cases er
      cases d with
      | str z =>
        have q5 : QX (kwX X) tp G H (if z.length ≤ sizeLine then some (.int z.length) else none) Q := q
        split at q5
        · rename_i hz
          cases rv
          exact ⟨_, z.length, e, ⟨hz, rfl⟩, q5.at l rfl⟩
        · exact False.elim q5
      | lst xs =>
        obtain ⟨p, vs', ev, sv, rvs⟩ := rv
        subst ev
        exact ⟨_, xs.length, e, .inl ⟨vs', l.sqL sv, rvs.length.symm⟩, QX.at q l rfl⟩
      | tup xs =>
        obtain ⟨p, vs', ev, sv, rvs⟩ := rv
        subst ev
        exact ⟨_, xs.length, e, .inr ⟨vs', l.sqT sv.1, rvs.length.symm⟩, QX.at q l rfl⟩
      | _ => exact False.elim q
/-- the built-in type of data -/
def tyN : D → Option String
  | .non => some "NoneType"
  | .bl _ => some "bool"
  | .int _ => some "int"
  | .str _ => some "str"
  | .tup _ => some "tuple"
  | .lst _ => some "list"
  | _ => none
theorem Rep.ty {G H : Hp} {d : D} {v : V} {t : String} (l : Le G H) (r : Rep (kwX X) G d v) (ht : tyN d = some t) : TyX X.K H v (.type t) := by
  cases d with
  | obj _ _ _ => cases ht
  | dk _ _ => cases ht
  | dt _ _ => cases ht
  | non => cases ht; cases r; exact .base .non
  | bl b => cases ht; cases r; exact .base (.bl b)
  | int i => cases ht; cases r; exact .base (.int i)
  | str x => cases ht; cases r; exact .base (.str x)
  | tup ds =>
    cases ht
    obtain ⟨a, vs, e, s, _⟩ := r
    subst e
    rcases s with (s | ⟨o, s⟩) | ⟨o, its, n, k, c, _⟩
    · exact .base (.tup (l _ _ s))
    · exact .fTuple (l _ _ s)
    · exact .kTuple k c
  | lst ds =>
    cases ht
    obtain ⟨a, vs, e, s, _⟩ := r
    subst e
    rcases s with (s | ⟨o, s⟩) | ⟨o, its, n, k, c, _⟩
    · exact .base (.lst (l _ _ s))
    · exact .base (.frz (l _ _ s))
    · exact .kList k c
/-- isinstance(x, T), T a built-in type by name -/
def eIsi (T : String) (f : Ev) : Ev := e1 (fun d => (tyN d).bind fun t => (kitB t T).map .bl) f
theorem de_isi {M : Mo} {W : WX} {x T : Str} {T' : String} {p p' pos : Pos} {e : Expr} {f : Ev} (hg : Gl X x) (hm : X.mg x = none) (hv : bootBuiltins x = some (.builtin "isinstance")) (hg2 : Gl X T) (hm2 : X.mg T = none) (hv2 : bootBuiltins T = some (.type T')) (ha : PE X e (tE (kwX X) M W f))
    (hn : x ≠ "__name__" := by decide) (hdb : (x == ("__debug__" : Str)) = false := by decide) (hn2 : T ≠ "__name__" := by decide) (hdb2 : (T == ("__debug__" : Str)) = false := by decide)
    (he : starEach [e, .Name T p'] X.env = (false, eval e X.env) :: starEach [.Name T p'] X.env := by rfl) (he2 : starEach [.Name T p'] X.env = (false, eval (.Name T p') X.env) :: starEach [] X.env := by rfl) (hpl : (backTo pos (starEach [.Name T p'] X.env)).any (·.1) = false := by rfl) :
    PE X (.Call (.Name x p) [e, .Name T p'] [] pos) (tE (kwX X) M W (eIsi T' f)) := by
  have hT : PE X (.Name T p') (tC (.ty T')) := pe_bltn hg2 hm2 hv2 rfl hn2 hdb2
  refine PE.imp (pe_callB call_isi hg hm hv (pa_cons ha (pa_cons hT pa_nil he2) he) hn hdb he hpl) fun σ H Q q => ?_
  obtain ⟨Fo, G, δ, er, q⟩ := q
  refine ⟨Fo, G, δ, er, PX.mono (PX.bind q) fun G1 H1 d t1 q1 v rv => ?_⟩
  have q2 := PX.qx q1
  obtain ⟨z, ez⟩ := q2.some_of
  rw [ez] at q2
  replace ez : ((tyN d).bind fun t => (kitB t T').map D.bl) = some z := ez
  cases ht : tyN d with
  | none => rw [ht] at ez; cases ez
  | some t =>
    rw [ht] at ez
    replace ez : (kitB t T').map D.bl = some z := ez
    cases hk : kitB t T' with
    | none => rw [hk] at ez; cases ez
    | some b =>
      rw [hk] at ez
      cases ez
      exact ⟨v, .ty T', .type t, .type T', b, rfl, .ty T', rv.ty t1.2.1 ht, kit_ty hk, q2.at t1.2.1 rfl⟩
def tupleD : List D → Option D
  | [.lst xs] => some (.tup xs)
  | [.tup xs] => some (.tup xs)
  | _ => none
theorem cs_tuple : CallS (kwX X) (fun xs H Q => ∃ p ys, xs = [.ref p] ∧ ((SqL X.K H p ys ∧ NewT H ys Q) ∨ (SqT X.K H p ys ∧ Q (.ref p) H))) tupleD := fun tp G H ds vs Q l r q => by
  cases ds with
  | nil => exact False.elim q
  | cons d t =>
    cases t with
    | cons _ _ => cases d <;> exact False.elim q
    | nil =>
      obtain ⟨v, rr, e, rv, er⟩ := r
      cases er
      cases d with
      | lst xs =>
        obtain ⟨p, vs', ev, sv, rvs⟩ := rv
        subst ev
        exact ⟨p, vs', e, .inl ⟨l.sqL sv, QX.newTup q l rvs⟩⟩
      | tup xs =>
        obtain ⟨p, vs', ev, sv, rvs⟩ := rv
        subst ev
        exact ⟨p, vs', e, .inr ⟨l.sqT sv.1, QX.at q l ⟨p, vs', rfl, sv, rvs⟩⟩⟩
      | _ => exact False.elim q
def listD : List D → Option D
  | [.lst xs] => some (.lst xs)
  | [.tup xs] => some (.lst xs)
  | _ => none
theorem cs_list : CallS (kwX X) (fun xs H Q => ∃ p ys, xs = [.ref p] ∧ (SqL X.K H p ys ∨ SqT X.K H p ys) ∧ ∀ l, H l = none → Q (.ref l) (upd H l (.lst ys))) listD := fun tp G H ds vs Q l r q => by
  cases ds with
  | nil => exact False.elim q
  | cons d t =>
    cases t with
    | cons _ _ => cases d <;> exact False.elim q
    | nil =>
      obtain ⟨v, rr, e, rv, er⟩ := r
      cases er
      cases d with
      | lst xs =>
        obtain ⟨p, vs', ev, sv, rvs⟩ := rv
        subst ev
        exact ⟨p, vs', e, .inl (l.sqL sv), fun a n => QX.newLst q l rvs n⟩
      | tup xs =>
        obtain ⟨p, vs', ev, sv, rvs⟩ := rv
        subst ev
        exact ⟨p, vs', e, .inr (l.sqT sv.1), fun a n => QX.newLst q l rvs n⟩
      | _ => exact False.elim q
end
end Dl

set_option Elab.async false
set_option linter.all false
set_option maxRecDepth 100000
set_option maxHeartbeats 2000000
/-! Statements over data. -/
namespace Dl
open PySem PySem.Spec PyProof.Rows L2

inductive Fl where
  | next (δ : Env)
  | brk (δ : Env)
  | cont (δ : Env)
  | ret (d : D)
  | exc (c : String) (δ : Env)
  | bad
abbrev Sv := Env → Fl
def bindF {α : Type} (r : R α) (δ : Env) (k : α → Fl) : Fl := match r with
  | .ok a => k a
  | .exc c => .exc c δ
  | .bad => .bad
def PF (K : Kw) (M : Mo) (W : WX) (Fo G : Hp) (r : Fl) (D : Ends) : Prop := match r with
  | .next δ => ∀ G' σ' H', Le G G' → ER K M.tp Fo G' H' δ σ' → D.nx σ' H'
  | .brk δ => ∀ G' σ' H', Le G G' → ER K M.tp Fo G' H' δ σ' → D.bk σ' H'
  | .cont δ => ∀ G' σ' H', Le G G' → ER K M.tp Fo G' H' δ σ' → D.ct σ' H'
  | .ret d => ∀ G' H', Le G G' → (∃ σ', ER K M.tp Fo G' H' [] σ') → ∀ v, Rep K G' d v → D.rt v H'
  | .exc c δ => ∀ G' σ' H', Le G G' → ER K M.tp Fo G' H' δ σ' → W (M.ec c) none σ' H'
  | .bad => False
section
variable {K : Kw} {M : Mo} {W : WX} {Fo G G' H : Hp} {D : Ends} {δ : Env} {σ : L2.St}
theorem PF.mono (l : Le G G') {r : Fl} (h : PF K M W Fo G r D) : PF K M W Fo G' r D := by
  cases r with
  | next δ => exact fun G2 σ2 H2 l2 e => h G2 σ2 H2 (l.trans l2) e
  | brk δ => exact fun G2 σ2 H2 l2 e => h G2 σ2 H2 (l.trans l2) e
  | cont δ => exact fun G2 σ2 H2 l2 e => h G2 σ2 H2 (l.trans l2) e
  | ret d => exact fun G2 H2 l2 e => h G2 H2 (l.trans l2) e
  | exc c δ => exact fun G2 σ2 H2 l2 e => h G2 σ2 H2 (l.trans l2) e
  | bad => exact h
theorem ER.nil (e : ER K M.tp Fo G H δ σ) : ER K M.tp Fo G H [] [] :=
  ⟨e.gh, e.fh, e.fg, e.tb, rfl, fun i d h => by simp at h, fun _ => [], fun i d h => by simp at h, fun i j c d h => by simp at h⟩
theorem PF.bind {α : Type} {r : R α} {k : α → Fl} (er : ER K M.tp Fo G H δ σ) (h : PF K M W Fo G (bindF r δ k) D) : PX M W σ G H r fun G' H' a => ER K M.tp Fo G' H' δ σ ∧ PF K M W Fo G' (k a) D := by
  cases r with
  | ok a => exact fun G2 H2 t => ⟨er.tr t, PF.mono t.1 (r := k a) h⟩
  | exc c => exact fun G2 H2 t => h G2 σ H2 t.1 (er.tr t)
  | bad => exact h
end
def tS (K : Kw) (M : Mo) (W : WX) (f : Sv) : TS := fun D σ H => ∃ Fo G δ, ER K M.tp Fo G H δ σ ∧ PF K M W Fo G (f δ) D

/-! ### the data functions' words -/
def sNext : Sv := fun δ => .next δ
def sSeq (f g : Sv) : Sv := fun δ => match f δ with
  | .next δ' => g δ'
  | .brk δ' => .brk δ'
  | .cont δ' => .cont δ'
  | .ret d => .ret d
  | .exc c δ' => .exc c δ'
  | .bad => .bad
def sIf (c : Tv) (f g : Sv) : Sv := fun δ => bindF (c δ) δ fun b => match b with
  | true => f δ
  | false => g δ
def sSet (i : Nat) (f : Ev) : Sv := fun δ => bindF (f δ) δ fun d => .next (δ.set i (.val d))
def sOwn (i : Nat) (f : Env → R (List D)) : Sv := fun δ => bindF (f δ) δ fun ds => .next (δ.set i (.own ds))
def sRet (f : Ev) : Sv := fun δ => bindF (f δ) δ fun d => .ret d
def sDrop (f : Ev) : Sv := fun δ => bindF (f δ) δ fun _ => .next δ
def sRaise (c : String) : Sv := fun δ => .exc c δ
def sFrz (i : Nat) (f : Sv) : Sv := fun δ => f (frz i δ)
def sApp (i : Nat) (f : Ev) : Sv := fun δ => match δ[i]? with
  | some (.own (.lst ds)) => bindF (f δ) δ fun d => if ds.length < sizeLine then .next (δ.set i (.own (ds ++ [d]))) else .bad
  | _ => .bad
def sPut (i : Nat) (g f : Ev) : Sv := fun δ => match δ[i]? with
  | some (.own (.lst ds)) => bindF (f δ) δ fun d => bindF (g δ) δ fun k => match k with
    | .int k => match ixN ds.length k with
      | some j => .next (δ.set i (.own (ds.set j d)))
      | none => .bad
    | _ => .bad
  | _ => .bad
def setAll : List Nat → List D → Env → Env
  | i :: is, d :: ds, δ => setAll is ds (δ.set i (.val d))
  | _, _, δ => δ
/-- a target: a name, or a tuple of names -/
inductive Tg where
  | one (i : Nat)
  | all (is : List Nat)
def Tg.put : Tg → D → Env → Option Env
  | .one i, d, δ => some (δ.set i (.val d))
  | .all is, .tup ds, δ => if ds.length = is.length then some (setAll is ds δ) else none
  | .all _, _, _ => none
def sUnp (t : Tg) (f : Ev) : Sv := fun δ => bindF (f δ) δ fun d => match t.put d δ with
  | some δ' => .next δ'
  | none => .bad
def whileF : Nat → Tv → Sv → Sv
  | 0, _, _ => fun _ => .bad
  | n + 1, c, f => fun δ => bindF (c δ) δ fun b => match b with
    | false => .next δ
    | true => match f δ with
      | .next δ' => whileF n c f δ'
      | .cont δ' => whileF n c f δ'
      | .brk δ' => .next δ'
      | .ret d => .ret d
      | .exc c δ' => .exc c δ'
      | .bad => .bad
def forF (t : Tg) (f : Sv) : List D → Sv
  | [] => fun δ => .next δ
  | d :: ds => fun δ => match t.put d δ with
    | none => .bad
    | some δ1 => match f δ1 with
      | .next δ' => forF t f ds δ'
      | .cont δ' => forF t f ds δ'
      | .brk δ' => .next δ'
      | .ret d => .ret d
      | .exc c δ' => .exc c δ'
      | .bad => .bad
def sFor (t : Tg) (it : Env → R (List D)) (f : Sv) : Sv := fun δ => bindF (it δ) δ fun ds => forF t f ds δ
def noX : Fl → Fl
  | .exc _ _ => .bad
  | r => r
section
variable {X : Cx} {M : Mo} {W : WX} {st : Stmt} {sts rest body : List Stmt} {pos : Pos} {f g : Sv} {e : Expr} {fe : Ev}
theorem PS.imp {t t' : TS} (h : PS X st t) (i : ∀ D σ H, t' D σ H → t D σ H) : PS X st t' := ⟨fun pins s σ H D I q => h.run pins s σ H D I (i D σ H q)⟩
theorem PSs.imp {t t' : TS} (h : PSs X sts t) (i : ∀ D σ H, t' D σ H → t D σ H) : PSs X sts t' := ⟨fun pins s σ H D I q => h.run pins s σ H D I (i D σ H q)⟩

theorem dss_nil : PSs X [] (tS (kwX X) M W sNext) := PSs.imp pss_nil fun D σ H ⟨Fo, G, δ, er, q⟩ => q G σ H .refl er
theorem dss_cons (h1 : PS X st (tS (kwX X) M W f)) (h2 : PSs X rest (tS (kwX X) M W g)) : PSs X (st :: rest) (tS (kwX X) M W (sSeq f g)) := by
  refine PSs.imp (pss_cons h1 h2) fun D σ H ⟨Fo, G, δ, er, q⟩ => ⟨Fo, G, δ, er, ?_⟩
  unfold sSeq at q
  cases z : f δ with
  | next δ1 =>
    rw [z] at q
    exact fun G2 σ2 H2 l2 e2 => ⟨Fo, G2, δ1, e2, PF.mono l2 q⟩
  | brk δ1 => rw [z] at q; exact q
  | cont δ1 => rw [z] at q; exact q
  | ret d => rw [z] at q; exact q
  | exc c δ1 => rw [z] at q; exact q
  | bad => rw [z] at q; exact q
theorem dss_one (h1 : PS X st (tS (kwX X) M W f)) : PSs X [st] (tS (kwX X) M W f) := pss_one h1
theorem ds_frz (i : Nat) (h : PS X st (tS (kwX X) M W f)) : PS X st (tS (kwX X) M W (sFrz i f)) := by
  refine PS.imp h fun D σ H ⟨Fo, G, δ, er, q⟩ => ?_
  obtain ⟨G', l, er', _⟩ := er.frz i
  exact ⟨Fo, _, frz i δ, er', PF.mono l q⟩
theorem ds_ret (he : PE X e (tE (kwX X) M W fe)) : PS X (.Return (some e) pos) (tS (kwX X) M W (sRet fe)) := by
  refine PS.imp (ps_ret he) fun D σ H ⟨Fo, G, δ, er, q⟩ => ⟨Fo, G, δ, er, ?_⟩
  refine PX.mono (PF.bind er q) fun G1 H1 d t1 ⟨er1, q1⟩ v rv => ?_
  exact q1 G1 H1 .refl ⟨[], er1.nil⟩ v rv
theorem ds_if {c : Expr} {tc : Tv} {a b : List Stmt} (hc : PT X c (tT (kwX X) M W tc)) (ha : PSs X a (tS (kwX X) M W f)) (hb : PSs X b (tS (kwX X) M W g)) : PS X (.If c a b pos) (tS (kwX X) M W (sIf tc f g)) := by
  refine PS.imp (ps_if hc ha hb) fun D σ H ⟨Fo, G, δ, er, q⟩ => ⟨Fo, G, δ, er, ?_⟩
  refine PX.mono (PF.bind er q) fun G1 H1 b t1 ⟨er1, q1⟩ => ?_
  cases b with
  | true => exact ⟨Fo, G1, δ, er1, q1⟩
  | false => exact ⟨Fo, G1, δ, er1, q1⟩
theorem ds_drop (he : PE X e (tE (kwX X) M W fe)) (hs : swapsWith e none pos.line X.env = pure false := by rfl) : PS X (.Expr e pos) (tS (kwX X) M W (sDrop fe)) := by
  refine PS.imp (ps_expr he hs) fun D σ H ⟨Fo, G, δ, er, q⟩ => ⟨Fo, G, δ, er, ?_⟩
  exact PX.mono (PF.bind er q) fun G1 H1 b t1 ⟨er1, q1⟩ v _ => q1 G1 σ H1 .refl er1
/-- x = e, frozen at once -/
theorem ds_set (i : Nat) {x : Str} {pos' : Pos} (hN : X.N.Nodup) (he : PE X e (tE (kwX X) M W fe)) (hi : X.N[i]? = some x := by rfl) (hx : Loc X.env.scope x := by first | exact Or.inl rfl | exact Or.inr rfl) (hs : swapsWith e (some (.Name x pos')) pos.line X.env = pure false := by rfl) (hf : X.fn x = true ∨ X.env.scope.names.lookup x = some .local := by first | exact .inl rfl | exact .inr rfl | assumption) :
    PS X (.Assign [.Name x pos'] e pos) (tS (kwX X) M W (sSet i fe)) := by
  refine PS.imp (ps_set hN hi hx he hs hf) fun D σ H ⟨Fo, G, δ, er, q⟩ => ⟨Fo, G, δ, er, ?_⟩
  exact PX.mono (PF.bind er q) fun G1 H1 d t1 ⟨er1, q1⟩ v rv => q1 G1 _ H1 .refl (er1.setVal i rv)

/-! ### new lists of one's own -/
def tN (K : Kw) (M : Mo) (W : WX) (f : Env → R (List D)) : TE := fun σ H Q => ∃ Fo G δ, ER K M.tp Fo G H δ σ ∧ PX M W σ G H (f δ) fun G' H' ds => ∀ p vs, H' p = none → Reps K G' ds vs → Q (.ref p) (upd H' p (.lst vs))
def nLst (g : Env → R (List D)) : Env → R (List D) := fun δ => g δ >>= fun xs => ofO (if xs.length ≤ sizeLine then some xs else none)
theorem dn_lst {es : List Expr} {fs : Env → R (List D)} (h : PA X es (tA (kwX X) M W fs)) : PE X (.List es pos) (tN (kwX X) M W (nLst fs)) := by
  refine PE.imp (pe_lst h) fun σ H Q q => ?_
  obtain ⟨Fo, G, δ, er, q⟩ := q
  refine ⟨Fo, G, δ, er, PX.mono (PX.bind q) fun G1 H1 xs t1 q1 vs rvs => ?_⟩
  by_cases z : xs.length ≤ sizeLine
  · rw [if_pos z] at q1
    exact ⟨by rw [rvs.length]; exact z, fun p n => q1 G1 H1 (.refl t1.2.1) p vs n rvs⟩
  · rw [if_neg z] at q1; exact False.elim q1
theorem ds_own (i : Nat) {x : Str} {pos' : Pos} {fn : Env → R (List D)} (hN : X.N.Nodup) (he : PE X e (tN (kwX X) M W fn)) (hi : X.N[i]? = some x := by rfl) (hx : Loc X.env.scope x := by first | exact Or.inl rfl | exact Or.inr rfl) (hs : swapsWith e (some (.Name x pos')) pos.line X.env = pure false := by rfl) (hf : X.fn x = true ∨ X.env.scope.names.lookup x = some .local := by first | exact .inl rfl | exact .inr rfl | assumption) :
    PS X (.Assign [.Name x pos'] e pos) (tS (kwX X) M W (sOwn i fn)) := by
  refine PS.imp (ps_set hN hi hx he hs hf) fun D σ H ⟨Fo, G, δ, er, q⟩ => ⟨Fo, G, δ, er, ?_⟩
  exact PX.mono (PF.bind er q) fun G1 H1 ds t1 ⟨er1, q1⟩ p vs n rvs => q1 G1 _ _ .refl (er1.setOwn (q := noQ) (o := .lst ds) i n rvs)
/-- x.append(e) -/
theorem ds_app (i : Nat) {x : Str} {pn pa pos' : Pos} (he : PE X e (tE (kwX X) M W fe)) (hN : X.N[i]? = some x := by rfl) (hv : Vis X.env.scope x := by first | exact Or.inl rfl | exact Or.inr (Or.inl rfl) | exact Or.inr (Or.inr rfl)) (hd : (x == ("__debug__" : Str)) = false := by decide) (hcd : (x == ("__classdict__" : Str)) = false := by decide)
    (hs : swapsWith (.Call (.Attribute (.Name x pn) "append" pa) [e] [] pos') none pos.line X.env = pure false := by rfl)
    (hst : starEach [e] X.env = (false, eval e X.env) :: starEach [] X.env := by rfl)
    (hfew : (((backTo pos' (starEach [e] X.env)).all fun x => !x.1) && (backToKw pos' (keywordEach [] X.env)).all fun x => x.1.isSome) && decide (([e].length + ([] : List Keyword).length + if ([] : List Keyword).isEmpty then 0 else 1) < 30) = true := by rfl)
    (hbase : attributeBase (.Name x pn) "append" X.env (eval (.Name x pn) X.env) = eval (.Name x pn) X.env := by rfl) (hline : (pa.endLine == pos'.line) = true := by rfl) :
    PS X (.Expr (.Call (.Attribute (.Name x pn) "append" pa) [e] [] pos') pos) (tS (kwX X) M W (sApp i fe)) := by
  refine PS.imp (ps_expr (pe_bm PySem.F.plainAttrs_list PySem.F.slot_list_append PySem.F.type_list_append mt_append (pe_var hN hv hd hcd) (pa_cons he pa_nil hst) (hs := hst) (hfew := hfew) (hbase := hbase) (hline := hline)) hs) fun D σ H ⟨Fo, G, δ, er, q⟩ => ?_
  unfold sApp at q
  split at q
  · rename_i ds z
    obtain ⟨p, h1, q0, vs, _, h2, h3, h4, h5⟩ := er.own1 i _ z rfl
    replace h4 : H p = some (.lst vs) := h4
    refine ⟨.ref p, h1, .inl ⟨rfl, vs, SqL.of h4⟩, ⟨Fo, G, δ, er, PX.mono (PF.bind er q) fun G1 H1 d t1 ⟨er1, q1⟩ v rv => ?_⟩⟩
    obtain ⟨p', g1, q1', vs', _, g2, g3, g4, g5⟩ := er1.own1 i _ z rfl
    replace g4 : H1 p' = some (.lst vs') := g4
    replace g5 : Reps (kwX X) G1 ds vs' := g5
    rw [h1] at g1; cases g1
    split at q1
    · rename_i hz
      exact ⟨p, vs', v, rfl, rfl, g4, by rw [g5.length]; exact hz, q1 G1 _ _ .refl (er1.chgOwn (q := noQ) (u := .lst (ds ++ [d])) i z h1 (g5.append (.one rv)))⟩
    · exact False.elim q1
  · exact False.elim q
end
end Dl

set_option Elab.async false
set_option linter.all false
set_option maxRecDepth 100000
set_option maxHeartbeats 2000000
/-! Loops, targets, comprehensions, try, defs. -/
namespace Dl
open PySem PySem.Spec PyProof.Rows L2
section
variable {X : Cx} {M : Mo} {W : WX} {st : Stmt} {sts rest body : List Stmt} {pos : Pos} {f g : Sv} {e : Expr} {fe ge : Ev}

/-! ### targets -/
def Tg.at : Tg → List Nat
  | .one i => [i]
  | .all is => is
/-- the same but at these places -/
def But (is : List Nat) (σ σ' : L2.St) : Prop := σ'.length = σ.length ∧ ∀ j, j ∉ is → σ'[j]? = σ[j]?
def tG (K : Kw) (M : Mo) (t : Tg) : TG := fun v σ H Q => ∃ Fo G δ d δ', ER K M.tp Fo G H δ σ ∧ Rep K G d v ∧ t.put d δ = some δ' ∧ ∀ σ', ER K M.tp Fo G H δ' σ' → But t.at σ σ' → Q σ' H
theorem PG.imp {tg : Expr} {t t' : TG} (h : PG X tg t) (i : ∀ v σ H Q, t' v σ H Q → t v σ H Q) : PG X tg t' := ⟨fun pins s σ H v u Q I r q => h.run pins s σ H v u Q I r (i v σ H Q q)⟩
theorem dg_one (i : Nat) {x : Str} (hN : X.N.Nodup) (hi : X.N[i]? = some x := by rfl) (hx : Loc X.env.scope x := by first | exact Or.inl rfl | exact Or.inr rfl) (hf : X.fn x = true ∨ X.env.scope.names.lookup x = some .local := by first | exact .inl rfl | exact .inr rfl | assumption) : PG X (.Name x pos) (tG (kwX X) M (.one i)) := by
  refine PG.imp (pg_name hN hi hx hf) fun v σ H Q ⟨Fo, G, δ, d, δ', er, r, p, q⟩ => ?_
  cases p
  exact q _ (er.setVal i r) ⟨by rw [List.length_set], fun j hj => by rw [List.getElem?_set_ne (fun z => hj (by rw [z]; exact List.mem_cons_self))]⟩
inductive Names' (X : Cx) : List Expr → List Nat → Prop
  | nil : Names' X [] []
  | cons {x : Str} {p : Pos} {i : Nat} {es : List Expr} {is : List Nat} (hi : X.N[i]? = some x) (hx : Loc X.env.scope x) (hf : X.fn x = true ∨ X.env.scope.names.lookup x = some .local)
      (hs : (assignEach (.Name x p :: es) X.env).map (·.2) = assign (.Name x p) X.env :: (assignEach es X.env).map (·.2)) (h : Names' X es is) : Names' X (.Name x p :: es) (i :: is)
theorem nm_cons (i : Nat) {x : Str} {p : Pos} {es : List Expr} {is : List Nat} (h : Names' X es is) (hi : X.N[i]? = some x := by rfl) (hx : Loc X.env.scope x := by first | exact Or.inl rfl | exact Or.inr rfl) (hf : X.fn x = true ∨ X.env.scope.names.lookup x = some .local := by first | exact .inl rfl | exact .inr rfl | assumption)
      (hs : (assignEach (.Name x p :: es) X.env).map (·.2) = assign (.Name x p) X.env :: (assignEach es X.env).map (·.2) := by rfl) : Names' X (.Name x p :: es) (i :: is) := .cons hi hx hf hs h
theorem dg_names (hN : X.N.Nodup) {es : List Expr} {is : List Nat} (h : Names' X es is) : PGs X es (fun vs σ H Q => ∃ Fo G δ ds, ER (kwX X) M.tp Fo G H δ σ ∧ Reps (kwX X) G ds vs ∧ ds.length = is.length ∧ ∀ σ', ER (kwX X) M.tp Fo G H (setAll is ds δ) σ' → But is σ σ' → Q σ' H) := by
  induction h with
  | nil =>
    refine ⟨fun pins s σ H vs us Q I r ⟨Fo, G, δ, ds, er, rr, hl, q⟩ => ?_⟩
    have : ds = [] := List.eq_nil_of_length_eq_zero hl
    subst this
    exact pgs_nil.run pins s σ H vs us Q I r ⟨rr, q _ er ⟨rfl, fun _ _ => rfl⟩⟩
  | @cons x p i es is hi hx hf hs h ih =>
    refine ⟨fun pins s σ H vs us Q I r ⟨Fo, G, δ, ds, er, rr, hl, q⟩ => ?_⟩
    cases ds with
    | nil => simp at hl
    | cons d ds =>
      obtain ⟨v, vr, ev, r1, r2⟩ := rr
      refine (pgs_cons (pg_name hN hi hx hf) ih hs).run pins s σ H vs us Q I r ⟨v, vr, ev, ?_⟩
      exact ⟨Fo, G, δ.set i (.val d), ds, er.setVal i r1, r2, by simpa using hl, fun σ' er' b => q σ' er' ⟨b.1.trans (by rw [List.length_set]), fun j hj => by
        rw [b.2 j (fun z => hj (List.mem_cons_of_mem _ z)), List.getElem?_set_ne (fun z => hj (by rw [z]; exact List.mem_cons_self))]⟩⟩
theorem dg_all {es : List Expr} {k : Nat} {is : List Nat} (hc : X.calm = true) (hN : X.N.Nodup) (h : Names' X es is) (hn : (assignEach es X.env).length = is.length := by rfl) (hst : (assignEach es X.env).findIdx? (·.1) = none := by rfl) : PG X (.Tuple es k pos) (tG (kwX X) M (.all is)) := by
  refine PG.imp (pg_tup (n := is.length) hc (dg_names (M := M) hN h) hn hst) fun v σ H Q ⟨Fo, G, δ, d, δ', er, r, p, q⟩ => ?_
  cases d with
  | tup ds =>
    have p' : (if ds.length = is.length then some (setAll is ds δ) else none) = some δ' := p
    split at p'
    · rename_i hl
      cases p'
      obtain ⟨a, vs, ev, sv, rvs⟩ := r
      exact ⟨a, vs, ev, er.gh |>.sqT sv.1, by rw [rvs.length]; exact hl, Fo, G, δ, ds, er, rvs, hl, q⟩
    · cases p'
  | _ => cases p
theorem ds_unp {tg : Expr} {t : Tg} (he : PE X e (tE (kwX X) M W fe)) (hg : PG X tg (tG (kwX X) M t)) (hs : swapsWithSole [tg] e pos.line X.env = pure false := by rfl) (hw : swappedStores [tg] e X.env = pure none := by rfl)
    (h1 : (assignEach [tg] X.env).map (·.2) = [assign tg X.env] := by rfl) : PS X (.Assign [tg] e pos) (tS (kwX X) M W (sUnp t fe)) := by
  refine PS.imp (ps_asg he hg hs hw h1) fun D σ H ⟨Fo, G, δ, er, q⟩ => ⟨Fo, G, δ, er, ?_⟩
  refine PX.mono (PF.bind er q) fun G1 H1 d t1 ⟨er1, q1⟩ v rv => ?_
  cases z : t.put d δ with
  | none => rw [z] at q1; exact False.elim q1
  | some δ' =>
    rw [z] at q1
    exact ⟨Fo, G1, δ, d, δ', er1, rv, z, fun σ' er' _ => q1 G1 σ' H1 .refl er'⟩
/-- x[k] = e, x an own list -/
theorem ds_put (i : Nat) {x : Str} {px pt : Pos} {ek : Expr} (he : PE X e (tE (kwX X) M W fe)) (hk : PE X ek (tE (kwX X) M W ge)) (hN : X.N[i]? = some x := by rfl) (hv : Vis X.env.scope x := by first | exact Or.inl rfl | exact Or.inr (Or.inl rfl) | exact Or.inr (Or.inr rfl)) (hd : (x == ("__debug__" : Str)) = false := by decide) (hcd : (x == ("__classdict__" : Str)) = false := by decide)
    (ha : ∀ v, assign (.Subscript (.Name x px) ek pt) X.env v = (do
      let ov ← holding [v] (eval (.Name x px) X.env)
      let iv ← holding [v, ov] (eval ek X.env)
      standAt pt
      holding [v, ov, iv] (setItem ov iv v)
      release [v, ov, iv] []) := by intro _; rfl)
    (hs : swapsWithSole [.Subscript (.Name x px) ek pt] e pos.line X.env = pure false := by rfl) (hw : swappedStores [.Subscript (.Name x px) ek pt] e X.env = pure none := by rfl)
    (h1 : (assignEach [.Subscript (.Name x px) ek pt] X.env).map (·.2) = [assign (.Subscript (.Name x px) ek pt) X.env] := by rfl) :
    PS X (.Assign [.Subscript (.Name x px) ek pt] e pos) (tS (kwX X) M W (sPut i ge fe)) := by
  refine PS.imp (ps_asg he (pg_sub (pe_var hN hv hd hcd) hk set_list ha) hs hw h1) fun D σ H ⟨Fo, G, δ, er, q⟩ => ?_
  unfold sPut at q
  split at q
  · rename_i ds z
    refine ⟨Fo, G, δ, er, PX.mono (PF.bind er q) fun G1 H1 d t1 ⟨er1, q1⟩ v rv => ?_⟩
    obtain ⟨p, h1, q0, vs, _, h2, h3, h4, h5⟩ := er1.own1 i _ z rfl
    refine ⟨.ref p, h1, Fo, G1, δ, er1, PX.mono (PF.bind er1 q1) fun G2 H2 k t2 ⟨er2, q2⟩ w rw => ?_⟩
    obtain ⟨p', g1, q1', vs', _, g2, g3, g4, g5⟩ := er2.own1 i _ z rfl
    replace g4 : H2 p' = some (.lst vs') := g4
    replace g5 : Reps (kwX X) G2 ds vs' := g5
    rw [h1] at g1; cases g1
    cases k with
    | int k =>
      cases y : ixN ds.length k with
      | none => have q3 : PF (kwX X) M W Fo G2 (match ixN ds.length k with | some j => .next (δ.set i (.own (ds.set j d))) | none => .bad) D := q2; rw [y] at q3; exact False.elim q3
      | some j =>
        have q3 : PF (kwX X) M W Fo G2 (match ixN ds.length k with | some j => .next (δ.set i (.own (ds.set j d))) | none => .bad) D := q2
        rw [y] at q3
        exact ⟨p, vs', k, j, rfl, rw, g4, by rw [g5.length]; exact y, q3 G2 _ _ .refl (er2.chgOwn (q := noQ) (u := .lst (ds.set j d)) i z h1 (g5.set j (Rep.mono t2.1 _ _ rv)))⟩
    | _ => exact False.elim q2
  · exact False.elim q

/-! ### loops -/
theorem ds_while {c : Expr} {tc : Tv} (n : Nat) (hp : PassesOwn (model X.prog X.w) X.A X.env X.xe) (hc : PT X c (tT (kwX X) M W tc)) (hb : PSs X body (tS (kwX X) M W f)) : PS X (.While c body [] pos) (tS (kwX X) M W (whileF n tc f)) := by
  refine PS.imp (ps_while hp hc hb) fun D σ H ⟨Fo, G, δ, er, q⟩ => ?_
  refine ⟨fun m σ H => ∃ G δ, ER (kwX X) M.tp Fo G H δ σ ∧ PF (kwX X) M W Fo G (whileF m tc f δ) D, ⟨n, G, δ, er, q⟩, ?_⟩
  rintro m σ H ⟨G, δ, er, q⟩
  cases m with
  | zero => exact False.elim q
  | succ m =>
    unfold whileF at q
    refine ⟨Fo, G, δ, er, PX.mono (PF.bind er q) fun G1 H1 b t1 ⟨er1, q1⟩ => ?_⟩
    cases b with
    | false => exact q1 G1 σ H1 .refl er1
    | true =>
      refine ⟨fun σ' H' => ∃ G δ, ER (kwX X) M.tp Fo G H' δ σ' ∧ PF (kwX X) M W Fo G (whileF m tc f δ) D, fun σ' H' z => ⟨m, Nat.lt_succ_self m, z⟩, Fo, G1, δ, er1, ?_⟩
      cases z : f δ with
      | next δ1 => simp only [z] at q1; exact fun G2 σ2 H2 l2 e2 => ⟨G2, δ1, e2, PF.mono l2 q1⟩
      | cont δ1 => simp only [z] at q1; exact fun G2 σ2 H2 l2 e2 => ⟨G2, δ1, e2, PF.mono l2 q1⟩
      | brk δ1 => simp only [z] at q1; exact q1
      | ret d => simp only [z] at q1; exact q1
      | exc c δ1 => simp only [z] at q1; exact q1
      | bad => simp only [z] at q1; exact False.elim q1
/-- the iterator J walks the data ds -/
def Wk (K : Kw) (tp : Tb) (G : Hp) (J : It) (ds : List D) : Prop := ∀ (i : Nat) (G1 H1 : Hp), Le G G1 → Le G1 H1 →
  (ds.length ≤ i → J.stop i H1) ∧ ∀ d, ds[i]? = some d → J.go i H1 ∧ ∀ x H2, J.yld i H1 x H2 → ∃ G2, Tr tp G1 H1 G2 H2 ∧ Rep K G2 d x
def tI (K : Kw) (M : Mo) (W : WX) (it : Env → R (List D)) : TI := fun σ H R => ∃ Fo G δ, ER K M.tp Fo G H δ σ ∧ PX M W σ G H (it δ) fun G' H' ds => ∀ J, Wk K M.tp G' J ds → R J H'
theorem ds_for {tg iter : Expr} {t : Tg} {it : Env → R (List D)} (hp : PassesOwn (model X.prog X.w) X.A X.env X.xe) (hc : X.calm = true) (hi : PI X tg iter (tI (kwX X) M W it)) (hg : PG X tg (tG (kwX X) M t)) (hb : PSs X body (tS (kwX X) M W f))
    (hs : ∀ x, foldedSetIterable iter X.env x = pure x := by intro _; rfl) : PS X (.For tg iter body [] pos) (tS (kwX X) M W (sFor t it f)) := by
  refine PS.imp (ps_for hp hc hi hg hb hs) fun D σ H ⟨Fo, G, δ, er, q⟩ => ?_
  refine ⟨Fo, G, δ, er, PX.mono (PF.bind er q) fun G1 H1 ds t1 ⟨er1, q1⟩ J wk => ?_⟩
  refine ⟨fun i m σ H => m = ds.length - i ∧ i ≤ ds.length ∧ ∃ G2 δ2, Le G1 G2 ∧ ER (kwX X) M.tp Fo G2 H δ2 σ ∧ PF (kwX X) M W Fo G2 (forF t f (ds.drop i) δ2) D, ⟨ds.length, by simp, Nat.zero_le _, G1, δ, .refl, er1, q1⟩, ?_⟩
  rintro i m σ H ⟨rfl, hi', G2, δ2, l2, er2, q2⟩
  obtain ⟨w1, w2⟩ := wk i G2 H l2 er2.gh
  by_cases hlt : i < ds.length
  · rw [List.drop_eq_getElem_cons hlt] at q2
    obtain ⟨go, yl⟩ := w2 ds[i] (List.getElem?_eq_getElem hlt)
    refine .inr ⟨go, fun σ' H' => ∃ G3 δ3, Le G1 G3 ∧ ER (kwX X) M.tp Fo G3 H' δ3 σ' ∧ PF (kwX X) M W Fo G3 (forF t f (ds.drop (i + 1)) δ3) D, fun σ' H' z => ⟨ds.length - (i + 1), by omega, rfl, hlt, z⟩, fun x H3 y => ?_⟩
    obtain ⟨G3, t3, rx⟩ := yl x H3 y
    unfold forF at q2
    cases z : t.put ds[i] δ2 with
    | none => simp only [z] at q2; exact False.elim q2
    | some δ3 =>
      simp only [z] at q2
      refine ⟨Fo, G3, δ2, ds[i], δ3, er2.tr t3, rx, z, fun σ' er' _ => ⟨Fo, G3, δ3, er', ?_⟩⟩
      have q3 := PF.mono t3.1 q2
      have l3 := l2.trans t3.1
      cases zf : f δ3 with
      | next δ4 => simp only [zf] at q3; exact fun G5 σ5 H5 l5 e5 => ⟨G5, δ4, l3.trans l5, e5, PF.mono l5 q3⟩
      | cont δ4 => simp only [zf] at q3; exact fun G5 σ5 H5 l5 e5 => ⟨G5, δ4, l3.trans l5, e5, PF.mono l5 q3⟩
      | brk δ4 => simp only [zf] at q3; exact q3
      | ret d => simp only [zf] at q3; exact q3
      | exc c δ4 => simp only [zf] at q3; exact q3
      | bad => simp only [zf] at q3; exact False.elim q3
  · have e : ds.drop i = [] := List.drop_eq_nil_of_le (by omega)
    rw [e] at q2
    exact .inl ⟨w1 (by omega), q2 G2 σ H .refl er2⟩

/-! ### what is walked -/
def itD : D → Option (List D)
  | .lst xs => some xs
  | .tup xs => some xs
  | .str z => some (z.cps.toList.map fun c => .str ⟨#[c]⟩)
  | _ => none
def iSeq (f : Ev) : Env → R (List D) := fun δ => f δ >>= fun d => ofO (itD d)
theorem Wk.list {K : Kw} {tp : Tb} {G : Hp} {a : Addr} {ds : List D} {vs : List V} (s : SqL K G a vs) (r : Reps K G ds vs) : Wk K tp G (Itl K a) ds := fun i G1 H1 l l1 =>
  ⟨fun h => ⟨vs, l1.sqL (l.sqL s), by rw [r.length]; exact h⟩, fun d h => by
    obtain ⟨v, ev, rv⟩ := r.get h
    refine ⟨⟨vs, v, l1.sqL (l.sqL s), ev⟩, fun x H2 y => ?_⟩
    obtain ⟨e, y⟩ := y
    subst e
    have e2 := y vs (l1.sqL (l.sqL s))
    rw [ev] at e2; cases e2
    exact ⟨G1, .refl l1, Rep.mono l _ _ rv⟩⟩
theorem Wk.tuple {K : Kw} {tp : Tb} {G : Hp} {a : Addr} {ds : List D} {vs : List V} (s : SqT K G a vs) (r : Reps K G ds vs) : Wk K tp G (Itt K a) ds := fun i G1 H1 l l1 =>
  ⟨fun h => ⟨vs, l1.sqT (l.sqT s), by rw [r.length]; exact h⟩, fun d h => by
    obtain ⟨v, ev, rv⟩ := r.get h
    refine ⟨⟨vs, v, l1.sqT (l.sqT s), ev⟩, fun x H2 y => ?_⟩
    obtain ⟨e, y⟩ := y
    subst e
    have e2 := y vs (l1.sqT (l.sqT s))
    rw [ev] at e2; cases e2
    exact ⟨G1, .refl l1, Rep.mono l _ _ rv⟩⟩
theorem Wk.str {K : Kw} {tp : Tb} {G : Hp} {z : Str} : Wk K tp G (Its z) (z.cps.toList.map fun c => .str ⟨#[c]⟩) := fun i G1 H1 l l1 =>
  ⟨fun h => by simpa [Its] using h, fun d h => by
    rw [List.getElem?_map] at h
    cases hc : z.cps.toList[i]? with
    | none => rw [hc] at h; cases h
    | some c =>
      rw [hc] at h
      cases h
      have hc' : z.cps[i]? = some c := by rw [← Array.getElem?_toList]; exact hc
      refine ⟨(Array.getElem?_eq_some_iff.mp hc').1, fun x H2 y => ?_⟩
      obtain ⟨e, c2, e2, ex⟩ := y
      subst e
      rw [hc'] at e2; cases e2
      exact ⟨G1, .refl l1, ex⟩⟩
theorem di_seq {tg iter : Expr} (he : PE X iter (tE (kwX X) M W fe)) : PI X tg iter (tI (kwX X) M W (iSeq fe)) := by
  refine ⟨fun pins s σ H R I h => ?_⟩
  obtain ⟨Fo, G, δ, er, q⟩ := h
  have q' := PX.bind q
  refine thn (he.run pins s σ H (fun v H1 => ∃ G1 d, Rep (kwX X) G1 d v ∧ Le G1 H1 ∧ PX M W σ G1 H1 (ofO (itD d)) fun G' H' ds => ∀ J, Wk (kwX X) M.tp G' J ds → R J H') I ⟨Fo, G, δ, er, PX.mono q' fun G1 H1 d t1 q1 v rv => ⟨G1, d, rv, t1.2.1, q1⟩⟩) fun v s1 ⟨x, H1, I1, r1, G1, d, rv, l1, q1⟩ => ?_
  cases d with
  | lst ds =>
    obtain ⟨a, vs, ev, sv, rvs⟩ := rv
    subst ev
    cases r1
    have q2 : ∀ G' H', Tr M.tp G1 H1 G' H' → ∀ J, Wk (kwX X) M.tp G' J ds → R J H' := q1
    obtain ⟨its, rv', p, hz⟩ := I1.list (l1.sqL sv)
    refine wpAny_pyIter_list p.isList ?_
    refine ⟨s1.heap.objs.size, [s1.heap.objs.size], _, _, H1, rfl, I1.kept (t' := s1.toks) fun b o e => Heap.get?_push_of_some _ e, turn_list a _, ⟨_, Heap.get?_push_size _ rfl, rfl, rfl⟩, fun b hb => ?_, q2 G1 H1 (.refl l1) _ (Wk.list sv rvs)⟩
    have e : b = s1.heap.objs.size := by simpa using hb
    subst e
    exact I1.fpOk (Nat.le_refl _) (I1.hok.fresh (Nat.le_refl _))
  | tup ds =>
    obtain ⟨a, vs, ev, sv, rvs⟩ := rv
    subst ev
    cases r1
    have q2 : ∀ G' H', Tr M.tp G1 H1 G' H' → ∀ J, Wk (kwX X) M.tp G' J ds → R J H' := q1
    obtain ⟨its, rv', p, hz⟩ := I1.tuple (l1.sqT sv.1)
    refine wpAny_pyIter_tuple (show s1.heap.IsTuple a its.toArray from p) ?_
    refine ⟨s1.heap.objs.size, [s1.heap.objs.size], _, _, H1, rfl, I1.kept (t' := s1.toks) fun b o e => Heap.get?_push_of_some _ e, turn_tuple a _, ⟨_, Heap.get?_push_size _ rfl, rfl, rfl⟩, fun b hb => ?_, q2 G1 H1 (.refl l1) _ (Wk.tuple sv.1 rvs)⟩
    have e : b = s1.heap.objs.size := by simpa using hb
    subst e
    exact I1.fpOk (Nat.le_refl _) (I1.hok.fresh (Nat.le_refl _))
  | str z =>
    have ev : x = .str z := rv
    subst ev
    obtain ⟨t, rfl⟩ := r1
    have q2 : ∀ G' H', Tr M.tp G1 H1 G' H' → ∀ J, Wk (kwX X) M.tp G' J _ → R J H' := q1
    have q3 := q2 G1 H1 (.refl l1) _ Wk.str
    cases ha : z.cps.all (· < 128)
    · exact wpAny_pyIter_wide ha (pi_one (tk := s1.toks) I1 _ (turn_str _ z t "str_iterator" (.inr rfl)) ⟨_, Heap.get?_push_size _ rfl, rfl, rfl⟩ q3)
    · exact wpAny_pyIter_ascii ha (pi_one (tk := s1.toks) I1 _ (turn_str _ z t "str_ascii_iterator" (.inl rfl)) ⟨_, Heap.get?_push_size _ rfl, rfl, rfl⟩ q3)
  | _ => exact False.elim q1
/-- range(n), range(a, b) -/
def rngD : List D → Option (List D)
  | [.int j] => if lg j 62 = true then some ((List.range j.toNat).map fun (k : Nat) => .int k) else none
  | [.int i, .int j] => if lg i 62 = true ∧ lg j 62 = true then some ((List.range (j - i).toNat).map fun (k : Nat) => .int (i + k)) else none
  | _ => none
def iRng (fs : Env → R (List D)) : Env → R (List D) := fun δ => fs δ >>= fun ds => ofO (rngD ds)
theorem Wk.range {K : Kw} {tp : Tb} {G : Hp} {lo : Int} {n : Nat} : Wk K tp G (Itr lo n) ((List.range n).map fun (k : Nat) => .int (lo + k)) := fun i G1 H1 l l1 =>
  ⟨fun h => by simpa [Itr] using h, fun d h => by
    rw [List.getElem?_map] at h
    by_cases hi : i < n
    · rw [List.getElem?_range hi] at h
      cases h
      refine ⟨hi, fun x H2 y => ?_⟩
      obtain ⟨e, ex⟩ := y
      subst e
      exact ⟨G1, .refl l1, ex⟩
    · rw [List.getElem?_eq_none (by simpa using Nat.le_of_not_lt hi)] at h; cases h⟩
theorem di_range1 {tg a : Expr} {fs : Env → R (List D)} {p : Pos} (hg : Gl X "range") (hm : X.mg "range" = none) (ha : PA X [a] (tA (kwX X) M W fs)) (hs : starEach [a] X.env = [(false, eval a X.env)] := by rfl) (h1 : ∀ δ ds, fs δ = .ok ds → ds.length = 1) : PI X tg (.Call (.Name "range" p) [a] [] pos) (tI (kwX X) M W (iRng fs)) := by
  refine ⟨fun pins s σ H R I h => (pi_range1 hg hm ha hs).run pins s σ H R I ?_⟩
  obtain ⟨Fo, G, δ, er, q⟩ := h
  cases z : fs δ with
  | bad => unfold iRng at q; rw [z] at q; exact False.elim q
  | exc c => exact ⟨Fo, G, δ, er, by unfold iRng at q; rw [z] at q ⊢; exact q⟩
  | ok ds0 =>
    have q' := PX.bind q
    rw [z] at q'
    refine ⟨Fo, G, δ, er, ?_⟩
    rw [z]
    intro G1 H1 t1 vs rvs
    have hl := h1 δ ds0 z
    have q1 := q' G1 H1 t1
    match ds0, hl, rvs, q1 with
    | [d], _, ⟨v, r, e, rv, er'⟩, q1 =>
      cases er'
      cases d with
      | int j =>
        have q2 : PX M W σ G1 H1 (ofO (if lg j 62 = true then some ((List.range j.toNat).map fun (k : Nat) => D.int k) else none)) fun G' H' ds => ∀ J, Wk (kwX X) M.tp G' J ds → R J H' := q1
        split at q2
        · rename_i hz
          subst e
          cases rv
          obtain ⟨hz1, hz2⟩ := lg_lt hz (by decide)
          refine ⟨j, rfl, Int.le_of_lt hz1, hz2, q2 G1 H1 (.refl t1.2.1) _ ?_⟩
          have := Wk.range (K := kwX X) (tp := M.tp) (G := G1) (lo := 0) (n := j.toNat)
          simpa using this
        · exact False.elim q2
      | _ => exact False.elim q1
theorem di_range2 {tg a b : Expr} {fs : Env → R (List D)} {p : Pos} (hg : Gl X "range") (hm : X.mg "range" = none) (ha : PA X [a, b] (tA (kwX X) M W fs)) (hs : starEach [a, b] X.env = [(false, eval a X.env), (false, eval b X.env)] := by rfl) (hs2 : starEach [b] X.env = [(false, eval b X.env)] := by rfl) (h1 : ∀ δ ds, fs δ = .ok ds → ds.length = 2) : PI X tg (.Call (.Name "range" p) [a, b] [] pos) (tI (kwX X) M W (iRng fs)) := by
  refine ⟨fun pins s σ H R I h => (pi_range2 hg hm ha hs hs2).run pins s σ H R I ?_⟩
  obtain ⟨Fo, G, δ, er, q⟩ := h
  cases z : fs δ with
  | bad => unfold iRng at q; rw [z] at q; exact False.elim q
  | exc c => exact ⟨Fo, G, δ, er, by unfold iRng at q; rw [z] at q ⊢; exact q⟩
  | ok ds0 =>
    have q' := PX.bind q
    rw [z] at q'
    refine ⟨Fo, G, δ, er, ?_⟩
    rw [z]
    intro G1 H1 t1 vs rvs
    have hl := h1 δ ds0 z
    have q1 := q' G1 H1 t1
    match ds0, hl, rvs, q1 with
    | [d, d'], _, ⟨v, r, e, rv, v', r', e', rv', er'⟩, q1 =>
      cases er'
      cases d with
      | int i =>
        cases d' with
        | int j =>
          have q2 : PX M W σ G1 H1 (ofO (if lg i 62 = true ∧ lg j 62 = true then some ((List.range (j - i).toNat).map fun (k : Nat) => D.int (i + k)) else none)) fun G' H' ds => ∀ J, Wk (kwX X) M.tp G' J ds → R J H' := q1
          split at q2
          · rename_i hz
            subst e
            subst e'
            cases rv
            cases rv'
            obtain ⟨ha1, ha2⟩ := lg_lt hz.1 (by decide)
            obtain ⟨hb1, hb2⟩ := lg_lt hz.2 (by decide)
            exact ⟨i, j, rfl, ⟨Int.le_of_lt ha1, ha2, Int.le_of_lt hb1, hb2⟩, q2 G1 H1 (.refl t1.2.1) _ Wk.range⟩
          · exact False.elim q2
        | _ => exact False.elim q1
      | _ => cases d' <;> exact False.elim q1

/-! ### list comprehensions -/
def wipeE (δ : Env) : List Nat → Env
  | [] => δ
  | v :: vs => (wipeE δ vs).set v .no
def mapF (t : Tg) (c : Tv) (f : Ev) (δ : Env) : List D → R (List D)
  | [] => .ok []
  | d :: ds => match t.put d δ with
    | none => .bad
    | some δ1 => match c δ1 with
      | .ok true => match f δ1 with
        | .ok y => mapF t c f δ ds >>= fun ys => .ok (y :: ys)
        | _ => .bad
      | .ok false => mapF t c f δ ds
      | _ => .bad
def tYesD : Tv := fun _ => .ok true
/-- the new list of a comprehension -/
def nLc (vs : List Nat) (t : Tg) (it : Env → R (List D)) (c : Tv) (f : Ev) : Env → R (List D) := fun δ => it δ >>= fun ds => mapF t c f (wipeE δ vs) ds >>= fun ys => ofO (if ys.length ≤ sizeLine then some ys else none)
def eN (f : Env → R (List D)) : Ev := fun δ => f δ >>= fun xs => .ok (.lst xs)
end
end Dl

set_option Elab.async false
set_option linter.all false
set_option maxRecDepth 100000
set_option maxHeartbeats 2000000
/-! List comprehensions, raise, try, defs. -/
namespace Dl
open PySem PySem.Spec PyProof.Rows L2
abbrev W0 : WX := fun _ _ _ _ => False
section
variable {K : Kw} {tp : Tb} {Fo G H G' H' : Hp} {δ : Env} {σ : L2.St}
theorem ER.wipe (e : ER K tp Fo G H δ σ) : ∀ vs : List Nat, ER K tp Fo G H (wipeE δ vs) (L2.wipe σ vs)
  | [] => e
  | v :: vs => (ER.wipe e vs).setNo v none
def del (H : Hp) (D : Addr) : Hp := fun a => if a = D then none else H a
theorem del_at {D : Addr} : del H D D = none := if_pos rfl
theorem del_ne {D a : Addr} (h : a ≠ D) : del H D a = H a := if_neg h
theorem del_upd {D : Addr} {o : HO} (n : H D = none) : del (upd H D o) D = H := by
  funext a
  by_cases z : a = D
  · subst z; rw [del_at, n]
  · rw [del_ne z, upd_ne z]
theorem del_some {D a : Addr} {o : HO} (h : del H D a = some o) : a ≠ D ∧ H a = some o := by
  by_cases z : a = D
  · subst z; rw [del_at] at h; cases h
  · rw [del_ne z] at h; exact ⟨z, h⟩
/-- one more thing that is not ours -/
theorem ER.alien {D : Addr} (e : ER K tp Fo G (del H D) δ σ) {xs : List V} (h : H D = some (.lst xs)) (n : G D = none) : ER K tp (upd Fo D (.lst xs)) G H δ σ where
  gh := fun a o q => (del_some (e.gh a o q)).2
  fh := fun a o q => by
    by_cases z : a = D
    · subst z; rw [upd_same] at q; cases q; exact h
    · rw [upd_ne z] at q; exact (del_some (e.fh a o q)).2
  fg := fun a o q => by
    by_cases z : a = D
    · subst z
      refine ⟨n, fun t => ?_⟩
      obtain ⟨⟨ps, q2, _⟩, _⟩ := e.tb a t
      exact (del_some q2).1 rfl
    · rw [upd_ne z] at q; exact e.fg a o q
  tb := fun a t => by
    obtain ⟨⟨ps, q, r⟩, g⟩ := e.tb a t
    exact ⟨⟨ps, (del_some q).2, r⟩, g⟩
  len := e.len
  val := e.val
  own := by
    obtain ⟨ft, ow, sp⟩ := e.own
    refine ⟨ft, fun i o q => ?_, sp⟩
    obtain ⟨p, h1, h2⟩ := ow i o q
    have far : ∀ a ∈ ft i, a ≠ D := fun a ha => by
      obtain ⟨u, hu, _⟩ := h2.there a ha
      exact (del_some hu).1
    have h3 := h2.mono (H' := H) .refl (fun a _ u hu => (del_some hu).2) fun a ha => (h2.1 a ha).1
    exact ⟨p, h1, fun a ha => ⟨(h2.1 a ha).1, by rw [upd_ne (far a ha)]; exact (h2.1 a ha).2⟩, h3.2⟩
/-- behind a step the thing at D is left out again -/
theorem Tr.del {tp : Tb} {D : Addr} {xs : List V} (t : Tr tp G H G' H') (h : H D = some (.lst xs)) (n : G D = none) (nt : ¬ tp D) (l : Le G (del H D)) : Tr tp G (del H D) G' (del H' D) ∧ H' D = some (.lst xs) ∧ G' D = none := by
  obtain ⟨h1, n1⟩ := t.2.2.1 D _ n nt h
  refine ⟨⟨t.1, fun a o q => ?_, fun a o g nt q => ?_, fun a ta g q => ?_⟩, h1, n1⟩
  · have z : a ≠ D := ne_of_none q n1
    rw [del_ne z]; exact t.2.1 a o q
  · obtain ⟨z, q'⟩ := del_some q
    obtain ⟨r1, r2⟩ := t.2.2.1 a o g nt q'
    exact ⟨by rw [del_ne z]; exact r1, r2⟩
  · obtain ⟨ps, q1, q2⟩ := q
    obtain ⟨z, q'⟩ := del_some q1
    obtain ⟨⟨ps', r1, r3⟩, r2⟩ := t.2.2.2 a ta g ⟨ps, q', q2⟩
    exact ⟨⟨ps', by rw [del_ne z]; exact r1, r3⟩, r2⟩
theorem wipe_get (σ : L2.St) (j : Nat) : ∀ vs : List Nat, (L2.wipe σ vs)[j]? = if j ∈ vs ∧ j < σ.length then some none else σ[j]?
  | [] => by simp [L2.wipe]
  | v :: vs => by
    unfold L2.wipe
    rw [List.getElem?_set, wipe_get σ j vs, wipe_length]
    by_cases h : v = j
    · subst h
      by_cases l : v < σ.length
      · simp [l]
      · simp [l]
    · have : ¬ j = v := fun z => h z.symm
      simp [h, this]
theorem wipe_but {is vs : List Nat} {σ2 : L2.St} (hs : ∀ i ∈ is, i ∈ vs) (b : But is (L2.wipe σ vs) σ2) : L2.wipe σ2 vs = L2.wipe σ vs := by
  have hl : σ2.length = σ.length := b.1.trans (wipe_length σ vs)
  apply List.ext_getElem?
  intro j
  rw [wipe_get, wipe_get, hl]
  by_cases h : j ∈ vs
  · by_cases l : j < σ.length
    · simp [h, l]
    · have h1 : σ2[j]? = none := List.getElem?_eq_none (by omega)
      have h2 : σ[j]? = none := List.getElem?_eq_none (by omega)
      simp [l, h1, h2]
  · have q := b.2 j fun z => h (hs j z)
    rw [wipe_get] at q
    simp [h] at q ⊢
    exact q
end
section
variable {X : Cx} {M : Mo} {W : WX} {pos : Pos}
theorem PTs.imp {ifs : List Expr} {t t' : TT} (h : PTs X ifs t) (i : ∀ σ H Q, t' σ H Q → t σ H Q) : PTs X ifs t' := ⟨fun pins s σ H Q I q => h.run pins s σ H Q I (i σ H Q q)⟩
theorem dts_nil : PTs X [] (tT (kwX X) M W tYesD) := PTs.imp pts_nil fun σ H Q ⟨Fo, G, δ, er, q⟩ => q G H (.refl er.gh)
theorem dts_one {c : Expr} {tc : Tv} (h : PT X c (tT (kwX X) M W tc)) : PTs X [c] (tT (kwX X) M W tc) := pts_one h
/-- a comprehension's rule by its data -/
theorem tlc_of {t : Tg} {it : Env → R (List D)} {c : Tv} {f : Ev} {vs : List Nat} (hat : ∀ i ∈ t.at, i ∈ vs) {σ : L2.St} {H : Hp} {Q : VK} (q : tN (kwX X) M W (nLc vs t it c f) σ H Q) :
    tLc (tI (kwX X) M W it) (tG (kwX X) M t) (tT (kwX X) M W0 c) (tE (kwX X) M W0 f) vs σ H Q := by
  obtain ⟨Fo, G, δ, er, q⟩ := q
  refine ⟨Fo, G, δ, er, ?_⟩
  refine PX.mono (PX.bind q) fun G1 H1 ds t1 q1 J wk D nD => ?_
  have er1 := er.tr t1
  cases hm : mapF t c f (wipeE δ vs) ds with
  | bad => rw [hm] at q1; exact False.elim q1
  | exc x =>
    exfalso
    -- mapF never raises
    have : ∀ ds : List Dl.D, mapF t c f (wipeE δ vs) ds ≠ .exc x := by
      intro ds
      induction ds with
      | nil => intro h; cases h
      | cons d ds ih =>
        intro h
        unfold mapF at h
        split at h
        · cases h
        · split at h
          · split at h
            · cases h2 : mapF t c f (wipeE δ vs) ds with
              | ok ys => rw [h2] at h; cases h
              | exc y => rw [h2] at h; cases h; exact ih h2
              | bad => rw [h2] at h; cases h
            · cases h
          · exact ih h
          · cases h
    exact this ds hm
  | ok tot =>
    rw [hm] at q1
    have q2 : PX M W σ G1 H1 (ofO (if tot.length ≤ sizeLine then some tot else none)) fun G' H' ds => ∀ p vs, H' p = none → Reps (kwX X) G' ds vs → Q (.ref p) (upd H' p (.lst vs)) := q1
    by_cases hz : tot.length ≤ sizeLine
    · rw [if_pos hz] at q2
      have q3 : ∀ G' H', Tr M.tp G1 H1 G' H' → ∀ p vs, H' p = none → Reps (kwX X) G' tot vs → Q (.ref p) (upd H' p (.lst vs)) := q2
      have ntD : ¬ M.tp D := fun z => by
        obtain ⟨⟨ps, e, _⟩, _⟩ := er1.tb D z
        rw [nD] at e; cases e
      -- the invariant
      let Iv : Nat → Hp → Prop := fun i H => ∃ G2 acc vacc ys, H D = some (.lst vacc) ∧ G2 D = none ∧ Tr M.tp G1 H1 G2 (Dl.del H D) ∧ Reps (kwX X) G2 acc vacc ∧ mapF t c f (wipeE δ vs) (ds.drop i) = .ok ys ∧ acc ++ ys = tot
      refine ⟨fun i m H => m = ds.length - i ∧ i ≤ ds.length ∧ Iv i H, ⟨ds.length, by simp, Nat.zero_le _, G1, [], [], tot, upd_same, none_of_le er1.gh nD, by rw [del_upd nD]; exact .refl er1.gh, rfl, hm, rfl⟩, ?_⟩
      rintro i m H2 ⟨rfl, hle, G2, acc, vacc, ys, hD, gD, t2, racc, hys, htot⟩
      have l2 : Le G2 H2 := fun a o q => (del_some (t2.2.1 a o q)).2
      obtain ⟨w1, w2⟩ := wk i G2 H2 t2.1 l2
      by_cases hlt : i < ds.length
      · rw [List.drop_eq_getElem_cons hlt] at hys
        obtain ⟨go, yl⟩ := w2 ds[i] (List.getElem?_eq_getElem hlt)
        refine .inr ⟨go, Iv (i + 1), fun H' z => ⟨ds.length - (i + 1), by omega, rfl, hlt, z⟩, fun x H3 y => ?_⟩
        obtain ⟨G3, t3, rx⟩ := yl x H3 y
        obtain ⟨t3', hD3, gD3⟩ := t3.del hD gD ntD t2.2.1
        have t13 := t2.trans t3'
        unfold mapF at hys
        cases zp : t.put ds[i] (wipeE δ vs) with
        | none => rw [zp] at hys; cases hys
        | some δ1 =>
          rw [zp] at hys
          have er3 : ER (kwX X) M.tp (upd Fo D (.lst vacc)) G3 H3 (wipeE δ vs) (L2.wipe σ vs) := ((er1.tr t13).alien hD3 gD3).wipe vs
          refine ⟨upd Fo D (.lst vacc), G3, wipeE δ vs, ds[i], δ1, er3, rx, zp, fun σ' er' bt => ⟨wipe_but hat bt, ?_⟩⟩
          refine ⟨upd Fo D (.lst vacc), G3, δ1, er', ?_⟩
          cases zc : c δ1 with
          | bad => simp only [zc] at hys; cases hys
          | exc _ => simp only [zc] at hys; cases hys
          | ok b =>
            intro G4 H4 t4
            obtain ⟨t4', hD4, gD4⟩ := t4.del hD3 gD3 ntD t3'.2.1
            cases b with
            | false =>
              simp only [zc] at hys
              show Iv (i + 1) H4
              exact ⟨G4, acc, vacc, ys, hD4, gD4, t13.trans t4', Reps.mono (t3.1.trans t4.1) _ _ racc, hys, htot⟩
            | true =>
              simp only [zc] at hys
              refine ⟨upd Fo D (.lst vacc), G4, δ1, er'.tr t4, ?_⟩
              cases zf : f δ1 with
              | bad => simp only [zf] at hys; cases hys
              | exc _ => simp only [zf] at hys; cases hys
              | ok y =>
                simp only [zf] at hys
                intro G5 H5 t5 v rv
                obtain ⟨t5', hD5, gD5⟩ := t5.del hD4 gD4 ntD t4'.2.1
                cases zr : mapF t c f (wipeE δ vs) (ds.drop (i + 1)) with
                | bad => rw [zr] at hys; cases hys
                | exc _ => rw [zr] at hys; cases hys
                | ok zs =>
                  rw [zr] at hys
                  have hys' : y :: zs = ys := by
                    have := hys
                    simp only [R.bind_ok] at this
                    cases this
                    rfl
                  have htot2 : (acc ++ [y]) ++ zs = tot := by rw [List.append_assoc, ← htot, ← hys']; rfl
                  have hlen : acc.length + 1 ≤ tot.length := by rw [← htot2]; simp
                  have racc5 := Reps.mono ((t3.1.trans t4.1).trans t5.1) _ _ racc
                  refine ⟨vacc, hD5, by rw [racc.length]; omega, ?_⟩
                  show Iv (i + 1) (upd H5 D (.lst (vacc ++ [v])))
                  refine ⟨G5, acc ++ [y], vacc ++ [v], zs, upd_same, gD5, ?_, racc5.append (.one rv), zr, htot2⟩
                  have e5 : Dl.del (upd H5 D (.lst (vacc ++ [v]))) D = Dl.del H5 D := by
                    funext a
                    by_cases z : a = D
                    · subst z; rw [del_at, del_at]
                    · rw [del_ne z, del_ne z, upd_ne z]
                  rw [e5]
                  exact (t13.trans t4').trans t5'
      · have e : ds.drop i = [] := List.drop_eq_nil_of_le (by omega)
        rw [e] at hys
        have hys0 : ys = [] := by
          have : (R.ok [] : R (List Dl.D)) = .ok ys := hys
          cases this
          rfl
        subst hys0
        rw [List.append_nil] at htot
        subst htot
        refine .inl ⟨w1 (by omega), ?_⟩
        have eH : upd (Dl.del H2 D) D (.lst vacc) = H2 := by
          funext a
          by_cases z : a = D
          · subst z; rw [upd_same, hD]
          · rw [upd_ne z, del_ne z]
        rw [← eH]
        exact q3 G2 (Dl.del H2 D) t2 D vacc del_at racc
    · rw [if_neg hz] at q2; exact False.elim q2
theorem dn_lc {elt tg iter : Expr} {ifs : List Expr} {scope : Scope} (own : List (Str × Nat)) {t : Tg} {it : Env → R (List D)} {c : Tv} {f : Ev} (hc : X.calm = true) (hN : X.N.Nodup) (hi : PI X tg iter (tI (kwX X) M W it)) (ok : BlkOk X.N X.env.scope scope own) (hat : ∀ i ∈ t.at, i ∈ own.map (·.2))
    (hg : ∀ (s : Shared) (H : Hp) (C : Addr) (cl : List (Str × Addr)) (fp : List Addr), PG (X.blk s H scope (compEnvC scope cl C X.env) fp) tg (tG (kwX X) M t)) (ht : ∀ (s : Shared) (H : Hp) (C : Addr) (cl : List (Str × Addr)) (fp : List Addr), PTs (X.blk s H scope (compEnvC scope cl C X.env) fp) ifs (tT (kwX X) M W0 c))
    (he : ∀ (s : Shared) (H : Hp) (C : Addr) (cl : List (Str × Addr)) (fp : List Addr), PE (X.blk s H scope (compEnvC scope cl C X.env) fp) elt (tE (kwX X) M W0 f)) (hs : ∀ x, foldedSetIterable iter X.env x = pure x := by intro _; rfl) :
    PE X (.ListComp elt [⟨tg, iter, ifs, 0⟩] scope pos) (tN (kwX X) M W (nLc (own.map (·.2)) t it c f)) :=
  PE.imp (pe_lc hc hN hi ok hg ht he hs) fun _ _ _ => tlc_of hat
/-- x = [..for..], frozen at once -/
theorem ds_setLc (i : Nat) {y : Str} {py spos : Pos} {elt tg iter : Expr} {ifs : List Expr} {scope : Scope} (own : List (Str × Nat)) {t : Tg} {it : Env → R (List D)} {c : Tv} {f : Ev} (hc : X.calm = true) (hN : X.N.Nodup) (hi : PI X tg iter (tI (kwX X) M W it)) (ok : BlkOk X.N X.env.scope scope own) (hat : ∀ i ∈ t.at, i ∈ own.map (·.2))
    (hg : ∀ (s : Shared) (H : Hp) (C : Addr) (cl : List (Str × Addr)) (fp : List Addr), PG (X.blk s H scope (compEnvC scope cl C X.env) fp) tg (tG (kwX X) M t)) (ht : ∀ (s : Shared) (H : Hp) (C : Addr) (cl : List (Str × Addr)) (fp : List Addr), PTs (X.blk s H scope (compEnvC scope cl C X.env) fp) ifs (tT (kwX X) M W0 c))
    (he : ∀ (s : Shared) (H : Hp) (C : Addr) (cl : List (Str × Addr)) (fp : List Addr), PE (X.blk s H scope (compEnvC scope cl C X.env) fp) elt (tE (kwX X) M W0 f)) (hs : ∀ x, foldedSetIterable iter X.env x = pure x := by intro _; rfl) (hsw : swapsWith (.ListComp elt [⟨tg, iter, ifs, 0⟩] scope pos) (some (.Name y py)) spos.line X.env = pure true := by rfl) (hy : X.N[i]? = some y := by rfl) (hyl : X.env.scope.names.lookup y = some .local := by rfl) :
    PS X (.Assign [.Name y py] (.ListComp elt [⟨tg, iter, ifs, 0⟩] scope pos) spos) (tS (kwX X) M W (sSet i (eN (nLc (own.map (·.2)) t it c f)))) := by
  refine PS.imp (ps_setLc hc hN hy hyl hsw hi ok hg ht he hs) fun D σ H ⟨Fo, G, δ, er, q⟩ => tlc_of hat ⟨Fo, G, δ, er, ?_⟩
  have q' : PF (kwX X) M W Fo G (bindF (nLc (own.map (·.2)) t it c f δ) δ fun ds => .next (δ.set i (.val (.lst ds)))) D := by
    unfold sSet eN at q
    cases z : nLc (own.map (·.2)) t it c f δ with
    | ok a => rw [z] at q; exact q
    | exc a => rw [z] at q; exact q
    | bad => rw [z] at q; exact q
  refine PX.mono (PF.bind er q') fun G1 H1 ds t1 ⟨er1, q1⟩ p vs n rvs => ?_
  exact q1 _ _ _ (Le.new (none_of_le t1.2.1 n)) ((er1.tr (Tr.new t1.2.1 n)).setVal i ⟨p, vs, rfl, SqL.of upd_same, Reps.mono (Le.new (none_of_le t1.2.1 n)) _ _ rvs⟩)
/-- x = [..for..], one's own -/
theorem ds_ownLc (i : Nat) {y : Str} {py spos : Pos} {elt tg iter : Expr} {ifs : List Expr} {scope : Scope} (own : List (Str × Nat)) {t : Tg} {it : Env → R (List D)} {c : Tv} {f : Ev} (hc : X.calm = true) (hN : X.N.Nodup) (hi : PI X tg iter (tI (kwX X) M W it)) (ok : BlkOk X.N X.env.scope scope own) (hat : ∀ i ∈ t.at, i ∈ own.map (·.2))
    (hg : ∀ (s : Shared) (H : Hp) (C : Addr) (cl : List (Str × Addr)) (fp : List Addr), PG (X.blk s H scope (compEnvC scope cl C X.env) fp) tg (tG (kwX X) M t)) (ht : ∀ (s : Shared) (H : Hp) (C : Addr) (cl : List (Str × Addr)) (fp : List Addr), PTs (X.blk s H scope (compEnvC scope cl C X.env) fp) ifs (tT (kwX X) M W0 c))
    (he : ∀ (s : Shared) (H : Hp) (C : Addr) (cl : List (Str × Addr)) (fp : List Addr), PE (X.blk s H scope (compEnvC scope cl C X.env) fp) elt (tE (kwX X) M W0 f)) (hs : ∀ x, foldedSetIterable iter X.env x = pure x := by intro _; rfl) (hsw : swapsWith (.ListComp elt [⟨tg, iter, ifs, 0⟩] scope pos) (some (.Name y py)) spos.line X.env = pure true := by rfl) (hy : X.N[i]? = some y := by rfl) (hyl : X.env.scope.names.lookup y = some .local := by rfl) :
    PS X (.Assign [.Name y py] (.ListComp elt [⟨tg, iter, ifs, 0⟩] scope pos) spos) (tS (kwX X) M W (sOwn i (nLc (own.map (·.2)) t it c f))) := by
  refine PS.imp (ps_setLc hc hN hy hyl hsw hi ok hg ht he hs) fun D σ H ⟨Fo, G, δ, er, q⟩ => tlc_of hat ⟨Fo, G, δ, er, ?_⟩
  exact PX.mono (PF.bind er q) fun G1 H1 ds t1 ⟨er1, q1⟩ p vs n rvs => q1 G1 _ _ .refl (er1.setOwn (q := noQ) (o := .lst ds) i n rvs)
/-- a new list, frozen at once -/
theorem de_n {e : Expr} {fn : Env → R (List D)} (h : PE X e (tN (kwX X) M W fn)) : PE X e (tE (kwX X) M W (eN fn)) := by
  refine PE.imp h fun σ H Q ⟨Fo, G, δ, er, q⟩ => ⟨Fo, G, δ, er, PX.mono (PX.bind q) fun G1 H1 ds t1 q1 p vs n rvs => ?_⟩
  exact q1 _ _ (Tr.new t1.2.1 n) _ ⟨p, vs, rfl, SqL.of upd_same, Reps.mono (Le.new (none_of_le t1.2.1 n)) _ _ rvs⟩
end
end Dl

set_option Elab.async false
set_option linter.all false
set_option maxRecDepth 100000
set_option maxHeartbeats 2000000
/-! raise, try, defs, lent lists, texts. -/
namespace Dl
open PySem PySem.Spec PyProof.Rows L2

/-! ### lent lists -/
mutual
def D.pure : D → Bool
  | .lst _ => false
  | .obj .. => false
  | .dk .. => false
  | .dt .. => false
  | .tup xs => D.pures xs
  | _ => true
def D.pures : List D → Bool
  | [] => true
  | x :: xs => D.pure x && D.pures xs
end
section
variable {K : Kw} {tp : Tb} {Fo G H G' H' : Hp} {δ : Env} {σ : L2.St} {fp : List Addr}
/-- without the places fp -/
def delF (G : Hp) (fp : List Addr) : Hp := fun a => if a ∈ fp then none else G a
theorem delF_in {a : Addr} (h : a ∈ fp) : delF G fp a = none := if_pos h
theorem delF_out {a : Addr} (h : a ∉ fp) : delF G fp a = G a := if_neg h
theorem delF_some {a : Addr} {o : HO} (h : delF G fp a = some o) : a ∉ fp ∧ G a = some o := by
  by_cases z : a ∈ fp
  · rw [delF_in z] at h; cases h
  · rw [delF_out z] at h; exact ⟨z, h⟩
/-- lists, dicts, instances stand at fp -/
def Lent (G : Hp) (fp : List Addr) : Prop := ∀ a ∈ fp, ∃ u, G a = some u ∧ (∀ xs, u ≠ .tup xs) ∧ ∀ ob w, u ≠ .frz ob w
theorem SqT.del {a : Addr} {vs : List V} (h : Lent G fp) (s : SqT K.k G a vs) : SqT K.k (delF G fp) a vs := by
  have out : ∀ {u : HO}, G a = some u → ((∃ xs, u = .tup xs) ∨ ∃ ob w, u = .frz ob w) → a ∉ fp := fun hu hk ha => by
    obtain ⟨u', hu', n1, n2⟩ := h a ha
    rw [hu] at hu'
    cases hu'
    rcases hk with ⟨xs, e⟩ | ⟨ob, w, e⟩
    · exact n1 xs e
    · exact n2 ob w e
  rcases s with (s | ⟨o, s⟩) | s
  · exact .inl (.inl (by rw [delF_out (out s (.inl ⟨_, rfl⟩))]; exact s))
  · exact .inl (.inr ⟨o, by rw [delF_out (out s (.inr ⟨_, _, rfl⟩))]; exact s⟩)
  · exact .inr s
theorem Nd.del {a : Addr} (h : Lent G fp) (s : Nd K.k G a) : Nd K.k (delF G fp) a := by
  rcases s with ⟨o', u, s, d⟩ | s
  · refine .inl ⟨o', u, ?_, d⟩
    rw [delF_out (fun ha => by
      obtain ⟨u', hu', n1, n2⟩ := h a ha
      rw [s] at hu'
      cases hu'
      exact n2 _ _ rfl)]
    exact s
  · exact .inr s
mutual
theorem Rep.del (h : Lent G fp) : ∀ (d : D) (v : V), d.pure = true → Rep K G d v → Rep K (delF G fp) d v
  | .non, _, _, r => r
  | .bl _, _, _, r => r
  | .int _, _, _, r => r
  | .str _, _, _, r => r
  | .tup ds, _, hp, ⟨a, vs, e, s, r⟩ => ⟨a, vs, e, ⟨SqT.del h s.1, Nd.del h s.2⟩, Reps.del h ds vs (by simpa [D.pure] using hp) r⟩
  | .lst _, _, hp, _ => by simp [D.pure] at hp
  | .obj _ _ _, _, hp, _ => by simp [D.pure] at hp
  | .dk _ _, _, hp, _ => by simp [D.pure] at hp
  | .dt _ _, _, hp, _ => by simp [D.pure] at hp
theorem Reps.del (h : Lent G fp) : ∀ (ds : List D) (vs : List V), D.pures ds = true → Reps K G ds vs → Reps K (delF G fp) ds vs
  | [], _, _, r => r
  | d :: ds, _, hp, ⟨v, r, e, h1, h2⟩ => by
    simp only [D.pures, Bool.and_eq_true] at hp
    exact ⟨v, r, e, Rep.del h d v hp.1 h1, Reps.del h ds r hp.2 h2⟩
end
theorem Tr.back (t : Tr tp (updF G H fp) H G' H') (n : ∀ a ∈ fp, G a = none) (nt : ∀ a ∈ fp, ¬ tp a) (h : ∀ a ∈ fp, ∃ u, H a = some u ∧ ∀ ob w, u ≠ .frz ob w) : Tr tp G H (delF G' fp) H' ∧ ∀ a ∈ fp, G' a = H a := by
  have hg : ∀ a ∈ fp, G' a = H a := fun a ha => by
    obtain ⟨u, hu, _⟩ := h a ha
    rw [hu]; exact t.1 a u (by rw [updF_in ha]; exact hu)
  refine ⟨⟨fun a o q => ?_, fun a o q => t.2.1 a o (delF_some q).2, fun a o g nta q => ?_, fun a ta g q => ?_⟩, hg⟩
  · have z : a ∉ fp := fun ha => by rw [n a ha] at q; cases q
    rw [delF_out z]; exact t.1 a o (by rw [updF_out z]; exact q)
  · by_cases z : a ∈ fp
    · exact ⟨t.2.1 a o (by rw [hg a z]; exact q), delF_in z⟩
    · rw [delF_out z]; exact t.2.2.1 a o (by rw [updF_out z]; exact g) nta q
  · have z : a ∉ fp := fun z => nt a z ta
    have lg : Le G (updF G H fp) := fun b o e => by
      rw [updF_out (fun hb => by rw [n b hb] at e; cases e)]; exact e
    rw [delF_out z]
    obtain ⟨⟨ps, e, r, k⟩, g'⟩ := t.2.2.2 a ta (by rw [updF_out z]; exact g) (q.mono lg)
    refine ⟨⟨ps, e, r, fun nm hq pos cv hc => ?_⟩, g'⟩
    obtain ⟨c, e1, oc, u, vs, tk, e2, e3⟩ := k nm hq pos cv hc
    refine ⟨c, e1, oc, u, vs, tk, ?_, e3⟩
    have hc : c ∉ fp := fun hc => by
      obtain ⟨w, hw, nf⟩ := h c hc
      rw [hg c hc, hw] at e2
      exact nf _ _ (Option.some.inj e2)
    rw [delF_out hc]; exact e2
/-- what lending gives -/
theorem ER.lend (e : ER K tp Fo G H δ σ) (i : Nat) : ∃ fp, ER K tp Fo (updF G H fp) H (Dl.frz i δ) σ ∧ ∀ G' H', Tr tp (updF G H fp) H G' H' → Tr tp G H (delF G' fp) H' ∧ ∀ d v, D.pure d = true → Rep K G' d v → Rep K (delF G' fp) d v := by
  obtain ⟨fp, l, er1, hf, _⟩ := e.frz i
  refine ⟨fp, er1, fun G' H' t => ?_⟩
  obtain ⟨t', g'⟩ := t.back (fun a ha => (hf a ha).1) (fun a ha => let ⟨_, _, u, _, nt, _⟩ := hf a ha; nt) fun a ha => let ⟨_, _, u, hu, _, _, n2⟩ := hf a ha; ⟨u, hu, n2⟩
  refine ⟨t', fun d v hp r => Rep.del (fun a ha => ?_) d v hp r⟩
  obtain ⟨_, _, u, hu, _, n1, n2⟩ := hf a ha
  exact ⟨u, (g' a ha).trans hu, n1, n2⟩
end
/-! ### lent dicts: lists and instances may come out -/
mutual
def D.pureL : D → Bool
  | .dk .. => false
  | .dt .. => false
  | .obj _ _ xs => D.puresL xs
  | .lst xs => D.puresL xs
  | .tup xs => D.puresL xs
  | .non => true
  | .bl _ => true
  | .int _ => true
  | .str _ => true
def D.puresL : List D → Bool
  | [] => true
  | x :: xs => D.pureL x && D.puresL xs
end
section
variable {K : Kw} {tp : Tb} {Fo G H G' H' : Hp} {δ : Env} {σ : L2.St} {fp : List Addr}
end
section
variable {X : Cx} {M : Mo} {W : WX} {pos : Pos} {e : Expr} {es : List Expr} {f g : Ev}
end
def eBor (i : Nat) (f : Ev) : Ev := fun δ => f (frz i δ) >>= fun d => if d.pure then .ok d else .bad
section
variable {X : Cx} {M : Mo} {W : WX} {pos : Pos} {e : Expr} {es : List Expr} {f g : Ev}
theorem de_bor (i : Nat) (he : PE X e (tE (kwX X) M W f)) : PE X e (tE (kwX X) M W (eBor i f)) := by
  refine PE.imp he fun σ H Q ⟨Fo, G, δ, er, q⟩ => ?_
  obtain ⟨fp, er1, back⟩ := er.lend i
  refine ⟨Fo, _, frz i δ, er1, ?_⟩
  unfold eBor at q
  cases y : f (frz i δ) with
  | bad => rw [y] at q; exact False.elim q
  | exc c =>
    rw [y] at q
    intro G' H' t
    exact q _ H' (back G' H' t).1
  | ok d =>
    rw [y] at q
    intro G' H' t v rv
    obtain ⟨t', r'⟩ := back G' H' t
    have q' : PX M W σ G H (if d.pure = true then R.ok d else R.bad) fun G' H' d => ∀ v, Rep (kwX X) G' d v → Q v H' := q
    by_cases hp : d.pure = true
    · rw [if_pos hp] at q'
      exact q' _ H' t' v (r' d v hp rv)
    · rw [if_neg hp] at q'; exact False.elim q'
end
end Dl

set_option Elab.async false
set_option linter.all false
set_option maxRecDepth 100000
set_option maxHeartbeats 2000000
/-! raise, try, defs, texts. -/
namespace Dl
open PySem PySem.Spec PyProof.Rows L2
section
variable {X : Cx} {M : Mo} {W : WX} {pos : Pos} {e : Expr} {es : List Expr} {f g : Ev}
/-- raise X('..') -/
theorem ds_raise {c : String} {C : Addr} {x m : Str} {j : Nat} {p p2 pos2 : Pos} {bmB : List Value} {B newId initId : String} (hc : X.calm = true) (tk : Takes X W) (ec : M.ec c = .ref C) (F : ExcBaseFacts B newId initId bmB) (q : PySem.W.excIn X.K C bmB newId = true) (gC : X.mg x = some (.ref C)) (kC : PySem.W.keepIn X.K (.ref C) = true)
    (r : Raises X (.ref C)) (hg : Gl X x) (hdb : (x == ("__debug__" : Str)) = false := by decide) : PS X (.Raise (some (.Call (.Name x p) [.Constant (.str m) j p2] [] pos)) none pos2) (tS (kwX X) M W (sRaise c)) := by
  refine PS.imp (ps_raise hc tk (pmk_own F q gC kC r hg hdb)) fun D σ H ⟨Fo, G, δ, er, q⟩ => ?_
  have z := q G σ H .refl er
  rw [ec] at z
  exact z
theorem PF.noX {K : Kw} {M : Mo} {W W' : WX} {Fo G : Hp} {r : Fl} {D : Ends} (h : PF K M W Fo G (Dl.noX r) D) : PF K M W' Fo G r D := by
  cases r with
  | exc c δ => exact False.elim h
  | next δ => exact h
  | brk δ => exact h
  | cont δ => exact h
  | ret d => exact h
  | bad => exact h
end

/-! ### defs -/
def initE (n : Nat) (ds : List D) : Env := ds.map S.val ++ List.replicate (n - ds.length) .no
def runF (n : Nat) (B : Sv) (ds : List D) : R D := match B (initE n ds) with
  | .ret d => .ok d
  | .next _ => .ok .non
  | .exc c _ => .exc c
  | _ => .bad
section
variable {P : Program} {w : World} {K : Kw} {mg : Str → Option Value} {base : Heap} {M : Mo}
open Classical in
theorem er_start {N : List Str} {G H : Hp} {ds : List D} {vs : List V} (l : Le G H) (tb : ∀ a, M.tp a → TabD M.tp G H a ∧ G a = none) (r : Reps K G ds vs) :
    ∃ Fo, ER K M.tp Fo G H (initE N.length ds) (L2.start N vs) ∧ ∀ a o, G a = none → ¬ M.tp a → H a = some o → Fo a = some o := by
  refine ⟨fun a => if G a = none ∧ ¬ M.tp a then H a else none, ⟨l, fun a o h => ?_, fun a o h => ?_, tb, ?_, fun i d h => ?_, fun _ => [], fun i d h => ?_, fun i j c d h => ?_⟩, fun a o g t h => ?_⟩
  · split at h
    · exact h
    · cases h
  · split at h
    · rename_i z; exact z
    · cases h
  · unfold initE L2.start
    rw [List.length_append, List.length_append, List.length_map, List.length_map, List.length_replicate, List.length_replicate, r.length]
  · unfold initE at h
    by_cases z : i < ds.length
    · rw [List.getElem?_append_left (by rw [List.length_map]; exact z), List.getElem?_map, List.getElem?_eq_getElem z] at h
      cases h
      obtain ⟨v, ev, rv⟩ := r.get (List.getElem?_eq_getElem z)
      refine ⟨v, ?_, rv⟩
      unfold L2.start
      rw [List.getElem?_append_left (by rw [List.length_map, r.length]; exact z), List.getElem?_map, ev]
      rfl
    · rw [List.getElem?_append_right (by rw [List.length_map]; omega)] at h
      rw [List.getElem?_replicate] at h
      split at h <;> cases h
  · exfalso
    unfold initE at h
    by_cases z : i < ds.length
    · rw [List.getElem?_append_left (by rw [List.length_map]; exact z), List.getElem?_map, List.getElem?_eq_getElem z] at h
      cases h
    · rw [List.getElem?_append_right (by rw [List.length_map]; omega)] at h
      rw [List.getElem?_replicate] at h
      split at h <;> cases h
  · exfalso
    unfold initE at h
    by_cases z : i < ds.length
    · rw [List.getElem?_append_left (by rw [List.length_map]; exact z), List.getElem?_map, List.getElem?_eq_getElem z] at h
      cases h
    · rw [List.getElem?_append_right (by rw [List.length_map]; omega)] at h
      rw [List.getElem?_replicate] at h
      split at h <;> cases h
  · dsimp only
    rw [if_pos ⟨g, t⟩]; exact h
theorem tr_end {Fo G H G' H' : Hp} {δ : Env} {σ : L2.St} (fo : ∀ a o, G a = none → ¬ M.tp a → H a = some o → Fo a = some o) (l : Le G G') (e : ER K M.tp Fo G' H' δ σ) : Tr M.tp G H G' H' :=
  ⟨l, e.gh, fun a o g t h => ⟨e.fh a o (fo a o g t h), (e.fg a o (fo a o g t h)).1⟩, fun a t _ _ => e.tb a t⟩
end
section
variable {P : Program} {w : World} {K : PySem.W.Frag} {mg : Str → Option Value} {base : Heap} {M : Mo}
end

/-! ### all(..), any(..) over a text's signs -/
section
variable {X : Cx} {M : Mo} {W : WX} {pos : Pos} {e : Expr} {es : List Expr} {f g : Ev}
theorem tabbed_tr {tp : Tb} {G H H2 : Hp} {P : Addr} (l : Le G H) (tb : ∀ a, tp a → TabD tp G H a ∧ G a = none) (hP : tp.gen P) (t : GxR.Tabbed P H H2) : Tr tp G H G H2 := by
  obtain ⟨tg, k⟩ := t
  have hP' : tp P := .inl hP
  have ne : ∀ a, ¬ tp a → a ≠ P := fun a h z => h (z ▸ hP')
  refine ⟨.refl, fun a o q => ?_, fun a o g nt q => ⟨by rw [k a (ne a nt)]; exact q, g⟩, fun a ta g q => ⟨?_, g⟩⟩
  · have z : a ≠ P := fun z => by
      subst z
      rw [(tb a hP').2] at q; cases q
    rw [k a z]; exact l a o q
  · by_cases z : a = P
    · subst z
      obtain ⟨ps, e, r⟩ := tg
      exact ⟨ps, e, r, fun q hq => absurd hP (tp.dis a q hq)⟩
    · obtain ⟨ps, q1, q2⟩ := q
      exact ⟨ps, by rw [k a z]; exact q1, q2⟩
/-! ### sep.join(texts) -/
end
end Dl

set_option Elab.async false
set_option linter.all false
set_option maxRecDepth 100000
set_option maxHeartbeats 2000000
/-! any(..), all(..) of a generator expression with one clause. -/
namespace Dl
open PySem PySem.Spec PyProof.Rows L2
open Sem (wp)

/-- the context of a generator expression's frame -/
abbrev CxG (X : Cx) (A : Around) (s : Shared) (H : Hp) (cenv : PySem.Env) (fp : List Addr) (pn : List (Addr × Obj)) : Cx := { X with A := A, s_0 := s, H_0 := H, env := cenv, outer := X.stack, stack := cenv :: X.stack, ex := fp, fn := fun y => cenv.scope.names.lookup y == some NameKind.cell, pn := pn, xe := fun _ _ => False }

/-- a generator expression's scope -/
structure GnOk (N : List Str) (sc scope : Scope) (own : List (Str × Nat)) : Prop where
  blk : BlkOk N sc scope own
  co : scope.isCoroutine = false
  dot : scope.names.lookup (".0" : Str) = some NameKind.local

section
variable {M : Model} {A : Around} {E : Value → Shared → Prop} {s : Shared}
/-- a generator's frame, with its cells -/
theorem newEnv_gen {scope : Scope} {globals : Addr} {closure : List (Str × Addr)} {qual : Str} {code : Value} {builtins : Addr} {it : Value} {Q : PySem.Env → Shared → Prop}
    (h0 : scope.names.lookup (".0" : Str) = some NameKind.local) (hk : scope.kind = .function)
    (hQ : ∀ h', h'.Ns s.heap.objs.size (fun y => if y = ".0" then some it else none) → Heap.SameBut s.heap.objs.size (pushCells (s.heap.push { cls := .type "frame", data := .dict #[] }) scope.names) h' →
      Q (newEnv scope s.heap.objs.size globals (cellsFrom (s.heap.objs.size + 1) scope.names closure) qual none code none builtins) { s with heap := h', toks := s.toks + 1 }) :
    wpAny M A (newFunctionEnv scope globals closure [(".0", it)] qual none code none builtins) Q E s := by
  simp only [newFunctionEnv, Option.isSome_none, Bool.false_eq_true, if_false]
  refine wpAny_bind (wpAny_alloc ?_)
  refine wpAny_bind (wpAny_layCells _ (fun name kind cells => by cases hkc : kind == NameKind.cell <;> simp [hkc]) _ _ _ _ ?_)
  rw [show ({ s with heap := s.heap.push { cls := .type "frame", data := .dict #[] } } : Shared).heap.objs.size = s.heap.objs.size + 1 from Heap.size_push ..]
  rw [List.forIn_cons]
  have ns0 : (pushCells (s.heap.push { cls := .type "frame", data := .dict #[] }) scope.names).Ns s.heap.objs.size fun _ => none := (Heap.Ns.new s.heap (.type "frame")).keeps (pushCells_keeps _ _)
  refine wpAny_bind (wpAny_bind (wpAny_bind (wpAny_storeName_local (m := fun _ => none) h0 ns0 (fun h' hn' hs' => ?_) (by show (scope.kind == .class || _) = false; rw [hk]; rfl))))
  refine wpAny_pure ?_
  show wpAny M A (forIn ([] : List (Str × Value)) PUnit.unit _) _ _ _
  rw [List.forIn_nil]
  exact wpAny_pure (wpAny_pure (hQ h' hn' hs'))
theorem gexp_make {env : PySem.Env} {elt target iter : Expr} {ifs : List Expr} {scope : Scope} {cl : List (Str × Addr)} {pos : Pos} {Q : Value → Shared → Prop}
    (hco : scope.isCoroutine = false) (hclos : closureFor scope env = pure cl) (h0 : scope.names.lookup (".0" : Str) = some NameKind.local) (hkind : scope.kind = .function)
    (hroom : A.depth < recursionLimit)
    (h : wpAny M A (eval iter env) (fun xv s₁ => wpAny M A (pyIter xv) (fun it s₂ => s₂.heap.NoLimit ∧
      wpAny M A (genexprCode env pos (env.qual ++ "<genexpr>") scope) (fun code s₃ => wpAny M A (builtinsFor env.globals env.builtins) (fun bi s₄ =>
        ∀ h', h'.Ns s₄.heap.objs.size (fun y => if y = ".0" then some it else none) → Heap.SameBut s₄.heap.objs.size (pushCells (s₄.heap.push { cls := .type "frame", data := .dict #[] }) scope.names) h' →
          Q (.ref h'.objs.size) { s₄ with
            gens := s₄.gens.push (.fresh (.compStart (.GeneratorExp elt [⟨target, iter, ifs, 0⟩] scope pos) 0 it .none (genEnv scope (cellsFrom (s₄.heap.objs.size + 1) scope.names cl) s₄.heap.objs.size code bi env))),
            toks := s₄.toks + 1 + 1 + 1,
            heap := h'.push { cls := .type "generator", data := .fields #[.int s₄.gens.size 0, .str "<genexpr>" (s₄.toks + 1), .str (env.qual ++ "<genexpr>") (s₄.toks + 1 + 1)] } }) E s₃) E s₂) E s₁) E s)
    (hs : ∀ x, genFold iter env x = pure x) :
    wpAny M A (eval (.GeneratorExp elt [⟨target, iter, ifs, 0⟩] scope pos) env) Q E s := by
  rw [eval_GeneratorExp1 _ _ _ _ _ _ _ hco, hclos]
  refine wpAny_bind (wpAny_mono h (fun xv s₁ h₁ => ?_) fun _ _ e => e)
  refine wpAny_bind (wpAny_standAt ?_)
  refine wpAny_bind (wpAny_of_eq (hs xv) ?_)
  refine wpAny_bind (wpAny_holding (wpAny_mono h₁ (fun it s₂ h₂ => ?_) fun _ _ e => e))
  refine wpAny_bind (wpAny_enterFrame h₂.1 hroom ?_)
  refine wpAny_bind (wpAny_pure ?_)
  refine wpAny_bind (wpAny_mono h₂.2 (fun code s₃ h₃ => ?_) fun _ _ e => e)
  refine wpAny_bind (wpAny_mono h₃ (fun bi s₄ h₄ => ?_) fun _ _ e => e)
  refine wpAny_bind (newEnv_gen h0 hkind fun h' hn' hs' => ?_)
  simp only [newGenerator, newFields]
  refine wpAny_bind (wpAny_newGen (wpAny_bind (wpAny_mkText (wpAny_bind (wpAny_mkText (wpAny_newObj_type ?_ (by size_fits)))))))
  exact h₄ h' hn' hs'
end

section
variable {X : Cx} {pins : List (Addr × Obj)} {σ : L2.St} {H : Hp} {s : Shared}
theorem gen_start {scope : Scope} {own : List (Str × Nat)} {fp : List Addr} {A' : Around} {code : Value} {a : Addr} {go : Obj} {m : Str → Option Value} {h' : Heap} {g' : Array GenState} {t' : Nat}
    (I : Inv X pins σ H s) (ok : GnOk X.N X.env.scope scope own) (hN : X.N.Nodup) (hfp : ∀ b ∈ fp, FpOk X pins H b ∧ b < s.heap.objs.size)
    (hA : A'.handled = none) (hfr : A'.frames = some (genEnv scope (cellsFrom (s.heap.objs.size + 1) scope.names (cloFrom X.env.cells scope.names [])) s.heap.objs.size code builtinsNs X.env :: X.stack))
    (hns : h'.Ns s.heap.objs.size m) (kp : ∀ b o, s.heap.get? b = some o → h'.get? b = some o)
    (kc : ∀ b o, s.heap.objs.size < b → (pushCells (s.heap.push { cls := .type "frame", data := .dict #[] }) scope.names).get? b = some o → h'.get? b = some o) (hg : AllBare g')
    (ha : s.heap.objs.size < a) (hgo : h'.get? a = some go) (hgd : ∀ v, go.data ≠ .cell v) :
    Inv (CxG X A' s H (genEnv scope (cellsFrom (s.heap.objs.size + 1) scope.names (cloFrom X.env.cells scope.names [])) s.heap.objs.size code builtinsNs X.env) fp [(a, go)]) [] (wipe σ (own.map (·.2))) H { s with heap := h', gens := g', toks := t' } := by
  have hfree : ∀ y ∈ scope.names, y.2 = .free → ∃ c, X.env.cells.lookup y.1 = some c := fun y hy e => by
    rcases ok.blk.free y hy e with k | k
    · exact I.ok.has _ (.inl k)
    · exact I.ok.has _ (.inr k)
  generalize hcenv : genEnv scope (cellsFrom (s.heap.objs.size + 1) scope.names (cloFrom X.env.cells scope.names [])) s.heap.objs.size code builtinsNs X.env = cenv at hfr ⊢
  have hL : cenv.locals = s.heap.objs.size := by rw [← hcenv]; rfl
  have hcl : cenv.cells = cellsFrom (s.heap.objs.size + 1) scope.names (cloFrom X.env.cells scope.names []) := by rw [← hcenv]; rfl
  rw [← Heap.size_push s.heap { cls := .type "frame", data := .dict #[] }] at hcl
  have hsc : cenv.scope = scope := by rw [← hcenv]; rfl
  have cm : ∀ {y c}, (y, c) ∈ cloFrom X.env.cells scope.names [] → X.env.cells.lookup y = some c ∧ c < s.heap.objs.size := fun {y c} hm => by
    rcases cloFrom_mem hm with hm | ⟨h1, rfl⟩
    · cases hm
    · obtain ⟨c, hc⟩ := hfree _ h1 rfl
      rw [hc]
      obtain ⟨w, z⟩ := I.cell _ _ hc
      exact ⟨rfl, z.lt⟩
  have mem : ∀ {y c}, cenv.cells.lookup y = some c → (X.env.cells.lookup y = some c ∧ c < s.heap.objs.size) ∨ (s.heap.objs.size + 1 ≤ c ∧ CellAt h' c none) := fun {y c} e => by
    rw [hcl] at e
    rcases cells_mem (PySem.mem_of_lookup e) with hm | ⟨_, h2, h3⟩
    · exact .inl (cm hm)
    · rw [Heap.size_push] at h2
      obtain ⟨o, e1, e2⟩ := h3
      exact .inr ⟨h2, o, kc c o (by omega) e1, e2⟩
  have look : ∀ {y}, scope.names.lookup y = some .free → ∃ c, cenv.cells.lookup y = some c ∧ X.env.cells.lookup y = some c := fun {y} hl => by
    have hy : (y, NameKind.free) ∈ scope.names := PySem.mem_of_lookup hl
    obtain ⟨c', e'⟩ := mem_lookup (cells_acc (names := scope.names) (n := (s.heap.push { cls := .type "frame", data := .dict #[] }).objs.size) (cloFrom_has (cells := X.env.cells) (acc := []) hy))
    rw [← hcl] at e'
    refine ⟨c', e', ?_⟩
    rw [hcl] at e'
    rcases cells_mem (PySem.mem_of_lookup e') with hm | ⟨h1, _, _⟩
    · exact (cm hm).1
    · have := ok.blk.uniq _ h1
      rw [hl] at this; cases this
  have okB : (CxG X A' s H cenv fp [(a, go)]).Ok := by
    refine ⟨I.ok.mod, by show cenv.scope.kind = _; rw [hsc]; exact ok.blk.kind, by show cenv.globals = _; rw [← hcenv]; exact I.ok.glob, by show cenv.builtins = _; rw [← hcenv]; rfl, by show s.heap.objs.size ≤ cenv.locals; rw [hL]; exact Nat.le_refl _,
      fun y z c e1 e2 => ?_, fun y hy => ?_, fun y c z e => ?_, fun _ => hA, hfr, .inr ⟨rfl, ?_⟩, fun b hb => ⟨?_, fun y c e z => ?_⟩, I.bs, Nat.le_trans I.ok.bsz I.sz, fun b o e hb => ?_, fun b hb z => ?_, I.stack, I.stkFree⟩
    · have e1 : cenv.cells.lookup y = some c := e1
      have e2 : cenv.cells.lookup z = some c := e2
      rw [hcl] at e1 e2
      refine cells_inj (fun p hp => ?_) (fun y z c a b => I.ok.inj y z c (cm a).1 (cm b).1) (PySem.mem_of_lookup e1) (PySem.mem_of_lookup e2)
      rw [Heap.size_push]
      exact Nat.lt_succ_of_lt (cm (y := p.1) (c := p.2) hp).2
    · have hy : cenv.scope.names.lookup y = some .cell ∨ cenv.scope.names.lookup y = some .free := hy
      rw [hsc] at hy
      rcases hy with hy | hy
      · obtain ⟨c, hm⟩ := cells_has (n := (s.heap.push { cls := .type "frame", data := .dict #[] }).objs.size) (acc := cloFrom X.env.cells scope.names []) (PySem.mem_of_lookup hy)
        obtain ⟨c', e'⟩ := mem_lookup hm
        exact ⟨c', by show cenv.cells.lookup y = _; rw [hcl]; exact e'⟩
      · obtain ⟨c, h1, _⟩ := look hy
        exact ⟨c, h1⟩
    · have z : (cenv.scope.names.lookup y == some NameKind.cell) = true := z
      rw [hsc] at z
      have z : scope.names.lookup y = some .cell := by simpa using z
      have e : cenv.cells.lookup y = some c := e
      rw [hcl] at e
      rcases cells_mem (PySem.mem_of_lookup e) with hm | ⟨_, h2, _⟩
      · rcases cloFrom_mem hm with hm | ⟨h1, _⟩
        · cases hm
        · have q := ok.blk.uniq _ h1
          rw [z] at q; cases q
      · rw [Heap.size_push] at h2
        exact Nat.le_of_succ_le h2
    · show cenv.frame = some cenv.locals
      rw [← hcenv]; rfl
    · show b ≠ cenv.locals
      rw [hL]; exact Nat.ne_of_lt (hfp b hb).2
    · have e : cenv.cells.lookup y = some c := e
      rcases mem e with ⟨h1, _⟩ | ⟨h1, _⟩
      · exact (hfp b hb).1.2.2.2.2.1 y c h1 z
      · have h2 : s.heap.objs.size + 1 ≤ b := by rw [← z]; exact h1
        exact absurd (Nat.lt_of_lt_of_le (hfp b hb).2 (Nat.le_of_succ_le h2)) (Nat.lt_irrefl _)
    · rcases (hfp b hb).1.2.2.2.1 with z | z
      · exact I.ok.noex b o e z
      · exact absurd (Nat.lt_of_lt_of_le (Heap.lt_size e) (Nat.le_trans I.ok.bsz z)) (Nat.lt_irrefl _)
    · rcases List.mem_cons.mp (I.stkSub b z) with z | z
      · exact (hfp b hb).1.2.1 z
      · exact (hfp b hb).1.2.2.1 z
  refine ⟨okB, rfl, hg, Un.kept kp, ⟨m, by show Heap.Ns _ cenv.locals _; rw [hL]; exact hns, fun i y av e1 e2 e3 => ?_⟩, fun y c e => ?_, ?_, fun y c e => ?_, fun p hp => ?_, I.hok.kept kp, by rw [wipe_length]; exact I.len⟩
  · obtain ⟨e2, hne⟩ := wipe_some e2
    have e3 : cenv.scope.names.lookup y = some .local ∨ cenv.scope.names.lookup y = some .cell ∨ cenv.scope.names.lookup y = some .free := e3
    rw [hsc] at e3
    have no : ∀ k, (y, k) ∈ scope.names → ¬ (k = .local ∨ k = .cell) := fun k hm hh => by
      rcases ok.blk.own _ hm hh with e' | e'
      · obtain ⟨p, hp, hpy⟩ := List.mem_map.mp e'
        have e4 := ok.blk.ix p hp
        have : p.1 = y := hpy
        rw [this] at e4
        exact hne (List.mem_map.mpr ⟨p, hp, nodup_ix hN e4 e1⟩)
      · exact e' (List.mem_of_getElem? e1)
    have hf : scope.names.lookup y = some .free := by
      rcases e3 with e3 | e3 | e3
      · exact absurd (.inl rfl) (no _ (PySem.mem_of_lookup e3))
      · exact absurd (.inr rfl) (no _ (PySem.mem_of_lookup e3))
      · exact e3
    obtain ⟨m0, hn, hl⟩ := I.loc
    have hk := ok.blk.free _ (PySem.mem_of_lookup hf) rfl
    have hvis : Vis X.env.scope y := hk.elim (fun k => .inr (.inl k)) (fun k => .inr (.inr k))
    obtain ⟨w, r, q⟩ := hl i y av e1 e2 hvis
    obtain ⟨c, hc, hcx⟩ := look hf
    refine ⟨w, r, .inr ⟨.inr (by show cenv.scope.names.lookup y = _; rw [hsc]; exact hf), c, hc, ?_⟩⟩
    rcases q with ⟨k, _⟩ | ⟨_, c', e', z⟩
    · have k : X.env.scope.names.lookup y = some .local := k
      rcases hk with k' | k' <;> rw [show X.env.scope.names.lookup y = _ from k'] at k <;> cases k
    · rw [hcx] at e'; cases e'
      exact z.keeps kp
  · have e : cenv.cells.lookup y = some c := e
    rcases mem e with ⟨h1, _⟩ | ⟨_, z⟩
    · obtain ⟨w, z⟩ := I.cell y c h1
      exact ⟨w, z.keeps kp⟩
    · exact ⟨_, z⟩
  · show H cenv.locals = none
    rw [hL]; exact I.hok.fresh (Nat.le_refl _)
  · have e : cenv.cells.lookup y = some c := e
    rcases mem e with ⟨h1, _⟩ | ⟨h1, _⟩
    · exact I.freeC y c h1
    · exact I.hok.fresh (Nat.le_of_succ_le h1)
  · have hp : p ∈ [(a, go)] ++ ([] : List (Addr × Obj)) := hp
    rw [List.append_nil, List.mem_singleton] at hp
    subst hp
    refine ⟨hgo, I.hok.fresh (Nat.le_of_lt ha), by show a ≠ cenv.locals; rw [hL]; exact Nat.ne_of_gt ha, fun z => ?_, hgd⟩
    have z : a ∈ frs X.stack := z
    rcases List.mem_cons.mp (I.stkSub a z) with z | z
    · exact absurd (Nat.lt_trans (by rw [z] at ha; exact ha) I.lt) (Nat.lt_irrefl _)
    · exact I.nofs (Nat.le_of_lt ha) z
end

/-! ### what is handed out, and the end -/
def Aft (X : Cx) (pins : List (Addr × Obj)) (σ : L2.St) (Q : Hp → Prop) (s : Shared) : Prop :=
  ∀ (h' : Heap) (g' : Array GenState) (d' : Drawn) (t' : Nat), (∀ b o, s.heap.get? b = some o → h'.get? b = some o) → AllBare g' → ∃ H', Inv X pins σ H' { s with heap := h', gens := g', drawn := d', toks := t' } ∧ Q H'
theorem Inv.aft {X : Cx} {pins : List (Addr × Obj)} {σ : L2.St} {H : Hp} {s : Shared} {Q : Hp → Prop} (I : Inv X pins σ H s) (q : Q H) : Aft X pins σ Q s := fun h' g' d' t' kp hg =>
  ⟨H, I.call' (ch := []) rfl (Un.kept kp) (I.hok.kept kp) hg (fun b hb => absurd hb (by simp)), q⟩
def Alive (a : Addr) (g : Nat) (s : Shared) : Prop := AllBare s.gens ∧ s.heap.IsGen a g ∧ s.heap.NoLimit
def GYb (X : Cx) (pins : List (Addr × Obj)) (σ : L2.St) (stop : Bool) (Q : VK) (a : Addr) (g : Nat) : Protocol := fun _ s₀ v s kap =>
  Alive a g s ∧ s.os = s₀.os ∧ ∃ c, v = .bool c ∧ if c = stop then Aft X pins σ (Q (.bl stop)) s else ∀ s'' : Shared, s''.heap = s.heap → s''.os = s.os → AllBare s''.gens → kap (.send .none) s''
def GEb (X : Cx) (pins : List (Addr × Obj)) (σ : L2.St) (stop : Bool) (Q : VK) (a : Addr) (g : Nat) : Nat → Shared → Shared → Prop := fun _ s₀ s => Alive a g s ∧ Aft X pins σ (Q (.bl (!stop))) s
abbrev GRb (X : Cx) (pins : List (Addr × Obj)) (σ : L2.St) (stop : Bool) (Q : VK) (a : Addr) (g : Nat) : GenEnd := fun n s₀ r s1 => r = .ok .next ∧ GEb X pins σ stop Q a g n s₀ s1
end Dl

set_option Elab.async false
set_option linter.all false
set_option maxRecDepth 100000
set_option maxHeartbeats 2000000
namespace Dl
open PySem PySem.Spec PyProof.Rows L2
open Sem (wp)

theorem bare_set {s : Shared} {g : Nat} {x : GenState} (h : AllBare s.gens) (hx : x.bare = true) : AllBare (s.setGen g x).gens := fun y hy => by
  have hy : y ∈ s.gens.setIfInBounds g x := hy
  rcases Array.mem_or_eq_of_mem_setIfInBounds hy with e | e
  · exact h y e
  · rw [e]; exact hx
theorem alive_set {a : Addr} {g : Nat} {s : Shared} {x : GenState} (h : Alive a g s) (hx : x.bare = true) : Alive a g (s.setGen g x) := ⟨bare_set h.1 hx, h.2.1, h.2.2⟩

/-- what a turn of the loop asks -/
def tGen (P : Addr) (stop : Bool) (wi : TI) (g : TG) (tt : TT) (te : TE) (vs : List Nat) : TE := fun σ H Q => wi σ H fun J H1 => GxR.TabG H1 P ∧ ∀ H2, GxR.Tabbed P H1 H2 → ∃ W : Nat → Nat → Hp → Prop, (∃ m, W 0 m H2) ∧ ∀ i m H, W i m H →
  (J.stop i H ∧ Q (.bl (!stop)) H) ∨ (J.go i H ∧ ∃ Nx : Hp → Prop, (∀ H', Nx H' → ∃ m', m' < m ∧ W (i + 1) m' H') ∧ ∀ x H', J.yld i H x H' → g x (wipe σ vs) H' fun σ2 H2 => wipe σ2 vs = wipe σ vs ∧ tt σ2 H2 fun b H3 =>
    if b = true then te σ2 H3 fun y H4 => ∃ c, y = .bl c ∧ if c = stop then Q (.bl stop) H4 else Nx H4 else Nx H3)

section
variable {X : Cx} {pins : List (Addr × Obj)} {σ : L2.St}
theorem gen_loop {Q : VK} {stop : Bool} {elt tg iter : Expr} {ifs : List Expr} {scope : Scope} {vs : List Nat} {pos : Pos} {g : TG} {tt : TT} {te : TE} {J : It} {W : Nat → Nat → Hp → Prop}
    {A : Around} {s4 : Shared} {H4 : Hp} {cenv : PySem.Env} {it : Addr} {fp : List Addr} {tn : Nat → Heap → Prop} {a : Addr} {go : Obj} {gn : Nat}
    (hc : X.calm = true) (haf : a ∉ fp) (hco : cenv.scope.isCoroutine = false) (T : Turn X.prog X.w X.K tg J fp it tn) (f4 : ∀ b ∈ fp, FpOk X pins H4 b) (I4 : Inv X pins σ H4 s4) (hgen : ∀ h : Heap, h.get? a = some go → h.IsGen a gn)
    (hpg : PG (CxG X (A.over (.compLoop (.GeneratorExp elt [⟨tg, iter, ifs, 0⟩] scope pos) 0 (.ref it) .none cenv) []) s4 H4 cenv fp [(a, go)]) tg g)
    (hpt : PTs (CxG X (A.over (.compLoop (.GeneratorExp elt [⟨tg, iter, ifs, 0⟩] scope pos) 0 (.ref it) .none cenv) []) s4 H4 cenv fp [(a, go)]) ifs tt)
    (hpe : PE (CxG X (A.over (.compLoop (.GeneratorExp elt [⟨tg, iter, ifs, 0⟩] scope pos) 0 (.ref it) .none cenv) []) s4 H4 cenv fp [(a, go)]) elt te)
    (turn : ∀ i m H, W i m H → (J.stop i H ∧ Q (.bl (!stop)) H) ∨ (J.go i H ∧ ∃ Nx : Hp → Prop, (∀ H', Nx H' → ∃ m', m' < m ∧ W (i + 1) m' H') ∧ ∀ x H', J.yld i H x H' → g x (wipe σ vs) H' fun σ2 H2 => wipe σ2 vs = wipe σ vs ∧ tt σ2 H2 fun b H3 =>
      if b = true then te σ2 H3 fun y H4 => ∃ c, y = .bl c ∧ if c = stop then Q (.bl stop) H4 else Nx H4 else Nx H3)) :
    ∀ (m i : Nat) (H : Hp) (s₀ s : Shared) (n : Nat), s₀.os = s4.os → m < n → Inv (CxG X (A.over (.compLoop (.GeneratorExp elt [⟨tg, iter, ifs, 0⟩] scope pos) 0 (.ref it) .none cenv) []) s4 H4 cenv fp [(a, go)]) [] (wipe σ vs) H s → tn i s.heap → (∀ b ∈ fp, H b = none) → W i m H →
      Seg (model X.prog X.w) A (GRb X pins σ stop Q a gn) (GYb X pins σ stop Q a gn) n s₀ (.compLoop (.GeneratorExp elt [⟨tg, iter, ifs, 0⟩] scope pos) 0 (.ref it) .none cenv)
        ((model X.prog X.w).den (.compLoop (.GeneratorExp elt [⟨tg, iter, ifs, 0⟩] scope pos) 0 (.ref it) .none cenv)) [] s := by
  have stat : ∀ {σ' : L2.St} {H' : Hp} {s' : Shared}, Inv (CxG X (A.over (.compLoop (.GeneratorExp elt [⟨tg, iter, ifs, 0⟩] scope pos) 0 (.ref it) .none cenv) []) s4 H4 cenv fp [(a, go)]) [] σ' H' s' → (∀ b ∈ fp, H' b = none) → ∀ b ∈ fp, FpOk (CxG X (A.over (.compLoop (.GeneratorExp elt [⟨tg, iter, ifs, 0⟩] scope pos) 0 (.ref it) .none cenv) []) s4 H4 cenv fp [(a, go)]) [] H' b := fun {σ' H' s'} I' hn b hb => by
    refine ⟨hn b hb, (I'.ok.exf b hb).1, I'.ok.exfs b hb, .inl hb, fun x c e => (I'.ok.exf b hb).2 x c e, fun p hp => ?_⟩
    have hp : p ∈ [(a, go)] ++ ([] : List (Addr × Obj)) := hp
    rw [List.append_nil, List.mem_singleton] at hp
    subst hp
    exact fun z => haf (by have z : a = b := z; rw [z]; exact hb)
  have alive : ∀ {pn : List (Addr × Obj)} {σ' : L2.St} {H' : Hp} {s' : Shared}, Inv (CxG X (A.over (.compLoop (.GeneratorExp elt [⟨tg, iter, ifs, 0⟩] scope pos) 0 (.ref it) .none cenv) []) s4 H4 cenv fp [(a, go)]) pn σ' H' s' → Alive a gn s' := fun {pn σ' H' s'} I' =>
    ⟨I'.bare, hgen _ (I'.pin (a, go) (List.mem_append_left _ (List.mem_singleton.mpr rfl))).1, I'.nolimit⟩
  have aft : ∀ {pn : List (Addr × Obj)} {σ' : L2.St} {H' : Hp} {s' : Shared} {q : Hp → Prop}, Inv (CxG X (A.over (.compLoop (.GeneratorExp elt [⟨tg, iter, ifs, 0⟩] scope pos) 0 (.ref it) .none cenv) []) s4 H4 cenv fp [(a, go)]) pn σ' H' s' → q H' → Aft X pins σ q s' := fun {pn σ' H' s' q} I' hq =>
    Inv.aft (I4.call' (ch := fp) I'.os I'.base I'.hok I'.bare fun b hb => ⟨(f4 b hb).2.2.2.1, (f4 b hb).2.1, (f4 b hb).2.2.2.2.1, (f4 b hb).2.2.2.2.2⟩) hq
  intro m
  induction m using Nat.strongRecOn with
  | _ m ih =>
  intro i H s₀ s n hos hmn I5 st5 n5 w5
  show Seg _ A _ _ _ s₀ _ ((compTurn (.GeneratorExp elt [⟨tg, iter, ifs, 0⟩] scope pos) 0 (.ref it) .none cenv).onRaise (leaving cenv)) [] s
  rw [compTurn_gen, Sem.onRaise_eq_wrap]
  refine seg_bind_wrap (wpAny_standAt ?_)
  rcases turn i m H w5 with ⟨hstop, qq⟩ | ⟨hgo, Nx, hNx, step⟩
  · refine seg_bind_wrap (wpAny_mono (T.done (CxG X (A.over (.compLoop (.GeneratorExp elt [⟨tg, iter, ifs, 0⟩] scope pos) 0 (.ref it) .none cenv) []) s4 H4 cenv fp [(a, go)]) rfl rfl rfl hc i [] s _ H (fun _ _ => False) I5 (stat I5 n5) st5 hstop) (fun r s6 ⟨hr, I6⟩ => ?_) fun _ _ z => False.elim z)
    subst hr
    exact seg_end (.ok .next) ⟨rfl, alive I6, aft I6 qq⟩
  · refine seg_bind_wrap (wpAny_mono (T.item (CxG X (A.over (.compLoop (.GeneratorExp elt [⟨tg, iter, ifs, 0⟩] scope pos) 0 (.ref it) .none cenv) []) s4 H4 cenv fp [(a, go)]) rfl rfl rfl hc i [] s _ H (fun _ _ => False) I5 (stat I5 n5) st5 hgo) (fun r s6 ⟨u, hr, h6⟩ => ?_) fun _ _ z => False.elim z)
    subst hr
    refine seg_bind_wrap (wpAny_mono h6 (fun _ s7 ⟨x, H7, I7, r7, y7, st7, n7⟩ => ?_) fun _ _ z => False.elim z)
    have I7' := I7.pinned (stat I7 n7) (T.obj _ _ st7)
    refine seg_bind_wrap (wpAny_mono (hpg.run _ s7 _ H7 x u _ I7' r7 (step x H7 y7)) (fun _ s8 ⟨σ8, H8, I8, hw8, q8⟩ => ?_) fun _ _ z => False.elim z)
    refine seg_bind_wrap (wpAny_mono (hpt.run _ s8 σ8 H8 _ I8 q8) (fun b s9 ⟨H9, I9, q9⟩ => ?_) fun _ _ z => False.elim z)
    have fin : ∀ {s' : Shared} {H' : Hp}, Inv (CxG X (A.over (.compLoop (.GeneratorExp elt [⟨tg, iter, ifs, 0⟩] scope pos) 0 (.ref it) .none cenv) []) s4 H4 cenv fp [(a, go)]) ([] ++ pinsAt fp s7.heap) σ8 H' s' → Nx H' → ∃ m', m' < m ∧ Inv (CxG X (A.over (.compLoop (.GeneratorExp elt [⟨tg, iter, ifs, 0⟩] scope pos) 0 (.ref it) .none cenv) []) s4 H4 cenv fp [(a, go)]) [] (wipe σ vs) H' s' ∧ tn (i + 1) s'.heap ∧ (∀ b ∈ fp, H' b = none) ∧ W (i + 1) m' H' := fun {s' H'} I' nx => by
      obtain ⟨m', hm, w'⟩ := hNx H' nx
      have pin' : ∀ b ∈ fp, ∀ o, s7.heap.get? b = some o → s'.heap.get? b = some o ∧ H' b = none := fun b hb o e =>
        let z := I'.pin (b, o) (List.mem_append_right _ (List.mem_append_right _ (mem_pinsAt hb e)))
        ⟨z.1, z.2.1⟩
      have hl : (wipe σ vs).length = σ8.length := by rw [← hw8, wipe_length]
      refine ⟨m', hm, (Inv.unpinned (pins := []) I').weak hl (fun j v e => ?_), T.keep _ _ _ st7 fun b hb o e => (pin' b hb o e).1, fun b hb => ?_, w'⟩
      · rw [← hw8] at e
        exact (wipe_some e).1
      · obtain ⟨o, e, _⟩ := T.obj _ _ st7 b hb
        exact (pin' b hb o e).2
    cases b with
    | false =>
      simp only [Bool.false_eq_true, if_false] at q9 ⊢
      obtain ⟨m', hm, I', t', nf, w'⟩ := fin I9 q9
      exact seg_again rfl (ih m' hm (i + 1) H9 s₀ s9 n hos (Nat.lt_trans hm hmn) I' t' nf w')
    | true =>
      simp only [if_true] at q9 ⊢
      have hy : ∀ v, yieldOut cenv v = yieldValue v := fun v => by simp only [yieldOut, hco, Bool.false_eq_true, if_false]
      simp only [hy]
      rw [Sem.bind_eq_wrap', Sem.bind_eq_wrap', Sem.wrap_wrap, Sem.wrap_wrap]
      refine seg_wrap (wpAny_mono (hpe.run _ s9 σ8 H9 _ I9 q9) (fun z s10 ⟨yv, H10, I10, r10, cb, ey, qc⟩ => ?_) fun _ _ z => False.elim z)
      subst ey
      have ez : z = .bool cb := r10
      subst ez
      cases n with
      | zero => exact absurd hmn (Nat.not_lt_zero _)
      | succ n =>
        refine seg_at (seg_yield rfl rfl rfl ⟨alive I10, I10.os.trans hos.symm, cb, rfl, ?_⟩)
        by_cases hcs : cb = stop
        · rw [if_pos hcs] at qc ⊢
          exact aft I10 qc
        · rw [if_neg hcs] at qc ⊢
          intro s'' e1 e2 e3
          obtain ⟨m', hm, I', t', nf, w'⟩ := fin I10 qc
          have I'' : Inv (CxG X (A.over (.compLoop (.GeneratorExp elt [⟨tg, iter, ifs, 0⟩] scope pos) 0 (.ref it) .none cenv) []) s4 H4 cenv fp [(a, go)]) [] (wipe σ vs) H10 s'' := I'.call' (ch := []) e2 (by rw [e1]; exact Un.refl) (by rw [e1]; exact I'.hok) e3 fun b hb => absurd hb (by simp)
          exact seg_again rfl (ih m' hm (i + 1) H10 s'' s'' n (e2.trans I10.os) (by omega) I'' (by rw [e1]; exact t') nf w')
end
end Dl

set_option Elab.async false
set_option linter.all false
set_option maxRecDepth 100000
set_option maxHeartbeats 2000000
namespace Dl
open PySem PySem.Spec PyProof.Rows L2
open Sem (wp)

/-- the generator stands ready -/
def Ready (prog : Program) (w : World) (A : Around) (X : Cx) (pins : List (Addr × Obj)) (σ : L2.St) (stop : Bool) (Q : VK) (a : Addr) (g n : Nat) (s : Shared) : Prop :=
  Alive a g s ∧ ∃ gs, s.gens[g]? = some gs ∧ ∀ s'' : Shared, s''.heap = s.heap → s''.os = s.os → AllBare s''.gens → gs.Goes (model prog w) A.in1 (GRb X pins σ stop Q a g) (GYb X pins σ stop Q a g) n (.send .none) s''
section
variable {prog : Program} {w : World} {A : Around} {X : Cx} {pins : List (Addr × Obj)} {σ : L2.St} {stop : Bool} {Q : VK} {a : Addr} {g : Nat}
/-- one step of a generator that stands ready -/
theorem next_ready {n : Nat} {s : Shared} {Q' : Option Value → Shared → Prop} {E : Value → Shared → Prop} (hh : A.handled = none) (hroom : A.depth < recursionLimit) (h : Ready prog w A X pins σ stop Q a g n s)
    (hs : ∀ s', Alive a g s' → Aft X pins σ (Q (.bl stop)) s' → Q' (some (.bool stop)) s') (hy : ∀ s' m, n = m + 1 → Ready prog w A X pins σ stop Q a g m s' → Q' (some (.bool (!stop))) s')
    (he : ∀ s', AllBare s'.gens → Aft X pins σ (Q (.bl (!stop))) s' → Q' none s') : wpAny (model prog w) A (pyNext (.ref a)) Q' E s := by
  obtain ⟨al, gs, hgs, hgo⟩ := h
  have hlt : g < s.gens.size := by
    by_cases z : g < s.gens.size
    · exact z
    · rw [Array.getElem?_eq_none (by omega)] at hgs; cases hgs
  refine GenW.wpAny_gsz (n := g + 1) hlt ?_
  refine wpAny_pyNext_genexpQ (P := GEb X pins σ stop Q a g) (n := n) hh al.2.2 hroom al.2.1 hgs (hgo _ rfl rfl (bare_set al.1 rfl)) (fun v s₁ gs' hb hv => ?_) (fun s₁ hp h' hk => ?_)
  · obtain ⟨al1, _, c, rfl, hc⟩ := hv
    intro hsz
    by_cases hcs : c = stop
    · rw [if_pos hcs] at hc
      subst hcs
      refine hs _ (alive_set al1 hb) ?_
      intro h' g' d' t' kp hg
      exact hc h' g' d' t' kp hg
    · rw [if_neg hcs] at hc
      have ec : c = !stop := by cases c <;> cases stop <;> simp_all
      subst ec
      cases n with
      | zero => exact False.elim (hc (s₁.setGen g .running) rfl rfl (bare_set al1.1 rfl))
      | succ m =>
        refine hy _ m rfl ⟨alive_set al1 hb, gs', ?_, fun s'' e1 e2 e3 => hc s'' e1 e2 e3⟩
        have hsz : g + 1 ≤ (s₁.setGen g gs').gens.size := hsz
        rw [GenW.setGen_size] at hsz
        have hl : g < s₁.gens.size := hsz
        simp [Shared.setGen, hl]
  · obtain ⟨al1, hq⟩ := hp
    intro _
    refine he _ (bare_set (x := .finished) (g := g) al1.1 rfl) ?_
    intro h'' g' d' t' kp hg
    exact hq h'' g' d' t' (fun b o e => kp b o (hk b o e)) hg

theorem loop_all {R : Result → Shared → Prop} (hh : A.handled = none) (hroom : A.depth < recursionLimit) (hR : ∀ b s', AllBare s'.gens → Aft X pins σ (Q (.bl b)) s' → R (.ok (.ret (.bool b))) s') :
    ∀ (n : Nat) (s : Shared), Ready prog w A.in1 X pins σ false Q a g n s → codeAny (model prog w) A (.builtin "all.loop" ⟨[.ref a], []⟩) R s := by
  intro n
  induction n with
  | zero =>
    intro s h
    refine codeAny_builtin F.entry_all_loop ?_
    rw [Around.under_plainId F.plain_all_loop _]
    show wpAny _ A.in1 (pyNext (.ref a) >>= _) _ _ s
    refine wpAny_bind (next_ready hh hroom h (fun s' al q => ?_) (fun s' m e r => absurd e.symm (Nat.succ_ne_zero _)) fun s' hb q => ?_)
    · refine wpAny_bind (wpAny_holding (wpAny_truthy_bool ?_))
      refine wpAny_bind (wpAny_letGo ?_)
      simp only [Bool.false_eq_true, if_false]
      exact wpAny_bind (wpAny_rule (wpAny_pure (hR false s' al.1 q)))
    · exact wpAny_bind (wpAny_rule (wpAny_pure (hR true s' hb q)))
  | succ n ih =>
    intro s h
    refine codeAny_builtin F.entry_all_loop ?_
    rw [Around.under_plainId F.plain_all_loop _]
    show wpAny _ A.in1 (pyNext (.ref a) >>= _) _ _ s
    refine wpAny_bind (next_ready hh hroom h (fun s' al q => ?_) (fun s' m e r => ?_) fun s' hb q => ?_)
    · refine wpAny_bind (wpAny_holding (wpAny_truthy_bool ?_))
      refine wpAny_bind (wpAny_letGo ?_)
      simp only [Bool.false_eq_true, if_false]
      exact wpAny_bind (wpAny_rule (wpAny_pure (hR false s' al.1 q)))
    · cases e
      refine wpAny_bind (wpAny_holding (wpAny_truthy_bool ?_))
      refine wpAny_bind (wpAny_letGo ?_)
      simp only [Bool.not_false, if_true]
      exact wpAny_pure ⟨plainId_quiet F.plain_all_loop _, ih s' r⟩
    · exact wpAny_bind (wpAny_rule (wpAny_pure (hR true s' hb q)))
theorem loop_any {R : Result → Shared → Prop} (hh : A.handled = none) (hroom : A.depth < recursionLimit) (hR : ∀ b s', AllBare s'.gens → Aft X pins σ (Q (.bl b)) s' → R (.ok (.ret (.bool b))) s') :
    ∀ (n : Nat) (s : Shared), Ready prog w A.in1 X pins σ true Q a g n s → codeAny (model prog w) A (.builtin "any.loop" ⟨[.ref a], []⟩) R s := by
  intro n
  induction n with
  | zero =>
    intro s h
    refine codeAny_builtin F.entry_any_loop ?_
    rw [Around.under_plainId F.plain_any_loop _]
    show wpAny _ A.in1 (pyNext (.ref a) >>= _) _ _ s
    refine wpAny_bind (next_ready hh hroom h (fun s' al q => ?_) (fun s' m e r => absurd e.symm (Nat.succ_ne_zero _)) fun s' hb q => ?_)
    · refine wpAny_bind (wpAny_holding (wpAny_truthy_bool ?_))
      refine wpAny_bind (wpAny_letGo ?_)
      simp only [if_true]
      exact wpAny_bind (wpAny_rule (wpAny_pure (hR true s' al.1 q)))
    · exact wpAny_bind (wpAny_rule (wpAny_pure (hR false s' hb q)))
  | succ n ih =>
    intro s h
    refine codeAny_builtin F.entry_any_loop ?_
    rw [Around.under_plainId F.plain_any_loop _]
    show wpAny _ A.in1 (pyNext (.ref a) >>= _) _ _ s
    refine wpAny_bind (next_ready hh hroom h (fun s' al q => ?_) (fun s' m e r => ?_) fun s' hb q => ?_)
    · refine wpAny_bind (wpAny_holding (wpAny_truthy_bool ?_))
      refine wpAny_bind (wpAny_letGo ?_)
      simp only [if_true]
      exact wpAny_bind (wpAny_rule (wpAny_pure (hR true s' al.1 q)))
    · cases e
      refine wpAny_bind (wpAny_holding (wpAny_truthy_bool ?_))
      refine wpAny_bind (wpAny_letGo ?_)
      simp only [Bool.not_true, Bool.false_eq_true, if_false]
      exact wpAny_pure ⟨plainId_quiet F.plain_any_loop _, ih s' r⟩
    · exact wpAny_bind (wpAny_rule (wpAny_pure (hR false s' hb q)))
end
end Dl

set_option Elab.async false
set_option linter.all false
set_option maxRecDepth 100000
set_option maxHeartbeats 2000000
namespace Dl
open PySem PySem.Spec PyProof.Rows L2
open Sem (wp)

section
variable {prog : Program} {w : World} {A : Around}
theorem seg_start {R : GenEnd} {Y : Protocol} {elt tg iter : Expr} {ifs : List Expr} {scope : Scope} {pos : Pos} {it : Addr} {cenv : PySem.Env} {n : Nat} {s₀ s : Shared}
    (self : ∀ (A : Around) (Q : Value → Shared → Prop) (E : Value → Shared → Prop), Q (.ref it) s → wpAny (model prog w) A (pyIter (.ref it)) Q E s)
    (loop : Seg (model prog w) A R Y n s₀ (.compLoop (.GeneratorExp elt [⟨tg, iter, ifs, 0⟩] scope pos) 0 (.ref it) .none cenv) ((model prog w).den (.compLoop (.GeneratorExp elt [⟨tg, iter, ifs, 0⟩] scope pos) 0 (.ref it) .none cenv)) [] s) :
    Seg (model prog w) A R Y n s₀ (.compStart (.GeneratorExp elt [⟨tg, iter, ifs, 0⟩] scope pos) 0 (.ref it) .none cenv) ((model prog w).den (.compStart (.GeneratorExp elt [⟨tg, iter, ifs, 0⟩] scope pos) 0 (.ref it) .none cenv)) [] s := by
  show Seg _ A _ _ _ s₀ _ ((compStart (.GeneratorExp elt [⟨tg, iter, ifs, 0⟩] scope pos) 0 (.ref it) .none cenv).onRaise (leaving cenv)) [] s
  unfold compStart
  rw [Sem.onRaise_eq_wrap]
  show Seg _ A _ _ _ s₀ _ ((ask >>= _).wrap _ _ _ _) [] s
  refine seg_bind_wrap (wpAny_askSetting ?_)
  split
  · exact seg_again rfl loop
  · refine seg_bind_wrap (wpAny_rule ?_)
    show Seg _ A _ _ _ s₀ _ ((standAt iter.pos >>= _).wrap _ _ _ _) [] s
    exact seg_bind_wrap (wpAny_standAt (seg_bind_wrap (self _ _ _ (seg_again rfl loop))))
theorem over_gen {elt tg iter : Expr} {ifs : List Expr} {scope : Scope} {pos : Pos} {it : Value} {cenv : PySem.Env} {k : Nat} {st : List PySem.Env} (hr : Room (k + 1) A) (hf : A.frames = some st) :
    Room k (A.in1.in1.over (.compLoop (.GeneratorExp elt [⟨tg, iter, ifs, 0⟩] scope pos) 0 it .none cenv) []) ∧ (A.in1.in1.over (.compLoop (.GeneratorExp elt [⟨tg, iter, ifs, 0⟩] scope pos) 0 it .none cenv) []).frames = some (cenv :: st) := by
  refine ⟨⟨hr.hd, ?_, ?_⟩, ?_⟩
  · have := hr.dp
    show A.depth + 0 + 1 + 3 * k + 5 < _
    omega
  · have := hr.un
    show A.units + 1 + 1 + 0 + 3 + 16 * k + 200 < _
    omega
  · show pushEnvs [cenv] (pushEnvs [] A.frames) = _
    rw [hf]; rfl
end
section
variable {X : Cx} {pins : List (Addr × Obj)} {σ : L2.St} {H : Hp} {s : Shared}
theorem gen_make {Q : VK} {stop : Bool} {elt tg iter : Expr} {ifs : List Expr} {scope : Scope} (own : List (Str × Nat)) {gpos : Pos} {wi : TI} {g : TG} {tt : TT} {te : TE} {c P : Addr} {k : Nat} {Q' : Value → Shared → Prop}
    (hr : Room (k + 1) X.A) (TB : GxR.TabB X.base X.mg c P) (hcode : X.env.code = .ref c) (hc : X.calm = true) (hN : X.N.Nodup) (ok : GnOk X.N X.env.scope scope own) (hi : PI X tg iter wi)
    (hpg : ∀ (A' : Around) (s : Shared) (H : Hp) (C : Addr) (cl : List (Str × Addr)) (code : Value) (fp : List Addr) (pn : List (Addr × Obj)), PG (CxG X A' s H (genEnv scope cl C code builtinsNs X.env) fp pn) tg g)
    (hpt : ∀ (A' : Around) (s : Shared) (H : Hp) (C : Addr) (cl : List (Str × Addr)) (code : Value) (fp : List Addr) (pn : List (Addr × Obj)), Room k A' → PTs (CxG X A' s H (genEnv scope cl C code builtinsNs X.env) fp pn) ifs tt)
    (hpe : ∀ (A' : Around) (s : Shared) (H : Hp) (C : Addr) (cl : List (Str × Addr)) (code : Value) (fp : List Addr) (pn : List (Addr × Obj)), Room k A' → PE (CxG X A' s H (genEnv scope cl C code builtinsNs X.env) fp pn) elt te)
    (hs : ∀ v, genFold iter X.env v = pure v) (I : Inv X pins σ H s) (h : tGen P stop wi g tt te (own.map (·.2)) σ H Q)
    (hQ : ∀ a g n s5, Ready X.prog X.w X.A.in1 X pins σ stop Q a g n s5 → Q' (.ref a) s5) :
    wpAny (model X.prog X.w) X.A (eval (.GeneratorExp elt [⟨tg, iter, ifs, 0⟩] scope gpos) X.env) Q' X.xe s := by
  have hfree : ∀ y ∈ scope.names, y.2 = .free → ∃ c, X.env.cells.lookup y.1 = some c := fun y hy e => by
    rcases ok.blk.free y hy e with k | k
    · exact I.ok.has _ (.inl k)
    · exact I.ok.has _ (.inr k)
  refine gexp_make ok.co (closure_ok hfree) ok.dot ok.blk.kind (by have := hr.dp; omega) (thn (hi.run pins s σ H _ I h) fun xv s1 h1 => thn h1 fun itv s2 h2 => ?_) hs
  obtain ⟨it, fp, tn, J, H2, e, I2, T, st2, f2, ⟨ps, hP, ht⟩, q⟩ := h2
  subst e
  have hPs : s2.heap.get? P = some { cls := .none, data := .fields ps } := I2.hok P _ hP
  have cd : PySem.W.CodeHd s2.heap c P := TB.code.keeps fun b u e => I2.bk b u e
  have lim2 := I2.nolimit
  have nP : ∀ b ∈ fp, b ≠ P := fun b hb z => by
    have := (f2 b hb).1
    rw [z, hP] at this; cases this
  have sz2 : ∀ b ∈ fp, b < s2.heap.objs.size := fun b hb => by
    obtain ⟨o, e, _⟩ := T.obj _ _ st2 b hb
    exact Heap.lt_size e
  refine ⟨lim2, ?_⟩
  have cont : ∀ (code : Value) (h3 : Heap) (tk : Nat) (ps' : Array Value), Heap.ExtBut P s2.heap h3 → s2.heap.objs.size ≤ h3.objs.size → h3.get? P = some { cls := .none, data := .fields ps' } → (∃ more, ps' = ps ++ more) → TriplesOk ps'.toList →
      wpAny (model X.prog X.w) X.A (builtinsFor X.env.globals X.env.builtins) (fun bi s₄ =>
        ∀ h', h'.Ns s₄.heap.objs.size (fun y => if y = ".0" then some (.ref it) else none) → Heap.SameBut s₄.heap.objs.size (pushCells (s₄.heap.push { cls := .type "frame", data := .dict #[] }) scope.names) h' →
          Q' (.ref h'.objs.size) { s₄ with
            gens := s₄.gens.push (.fresh (.compStart (.GeneratorExp elt [⟨tg, iter, ifs, 0⟩] scope gpos) 0 (.ref it) .none (genEnv scope (cellsFrom (s₄.heap.objs.size + 1) scope.names (cloFrom X.env.cells scope.names [])) s₄.heap.objs.size code bi X.env))),
            toks := s₄.toks + 1 + 1 + 1,
            heap := h'.push { cls := .type "generator", data := .fields #[.int s₄.gens.size 0, .str "<genexpr>" (s₄.toks + 1), .str (X.env.qual ++ "<genexpr>") (s₄.toks + 1 + 1)] } }) X.xe { s2 with heap := h3, toks := tk } := by
    intro code h3 tk ps' hx hsz hP3 ⟨more, em⟩ ht3
    obtain ⟨bm, ob, e1, e2, e3, e4, e5, e6, e7, e8⟩ := TB.bm
    refine wpAny_builtinsFor (m := X.mg) (by rw [I2.ok.glob]; exact (I2.mod.glob.keeps I2.bk).extBut hx TB.gP) e1 e2 (hx _ _ e4 (I2.bk _ _ e5)) e6 e7 e8 ?_
    have I4 : Inv X pins σ (upd H2 P (.tbl (ps ++ more))) { s2 with heap := h3, toks := tk } :=
      GxR.inv_tab (g' := s2.gens) (d' := s2.drawn) (t' := tk) I2 hP (fun b o hb e => hx b o hb e) (by rw [← em]; exact hP3) I2.bare
    generalize hs4 : ({ s2 with heap := h3, toks := tk } : Shared) = s4 at I4 ⊢
    have h4 : s4.heap = h3 := by rw [← hs4]
    have st4 : tn 0 s4.heap := T.keep _ _ _ st2 fun b hb o e => by rw [h4]; exact hx b o (nP b hb) e
    have f4 : ∀ b ∈ fp, FpOk X pins (upd H2 P (.tbl (ps ++ more))) b ∧ b < s4.heap.objs.size := fun b hb =>
      ⟨⟨by rw [upd_ne (nP b hb)]; exact (f2 b hb).1, (f2 b hb).2⟩, by rw [h4]; exact Nat.lt_of_lt_of_le (sz2 b hb) hsz⟩
    intro h' hn' hs'
    have hsz5 : s4.heap.objs.size + 1 ≤ h'.objs.size := by rw [hs'.1]; have := pushCells_size scope.names (s4.heap.push { cls := .type "frame", data := .dict #[] }); rw [Heap.size_push] at this; exact this
    have hlt : s4.heap.objs.size < h'.objs.size := by omega
    have kp' : ∀ b o, s4.heap.get? b = some o → h'.get? b = some o := fun b o e => hs'.extBut b o (Nat.ne_of_lt (Heap.lt_size e)) (pushCells_keeps _ _ _ _ (Heap.get?_push_of_some _ e))
    generalize hgo : ({ cls := .type "generator", data := .fields #[.int s4.gens.size 0, .str "<genexpr>" (s4.toks + 1), .str (X.env.qual ++ "<genexpr>") (s4.toks + 1 + 1)] } : Obj) = go
    have kp5 : ∀ b o, s4.heap.get? b = some o → (h'.push go).get? b = some o := fun b o e => Heap.get?_push_of_some _ (kp' b o e)
    have hgen : ∀ h : Heap, h.get? h'.objs.size = some go → h.IsGen h'.objs.size s4.gens.size := fun h e => ⟨_, _, _, e, by rw [← hgo], by rw [← hgo], by rw [← hgo]⟩
    have hat : (h'.push go).get? h'.objs.size = some go := by
      rw [← hgo]; exact Heap.get?_push_size _ rfl
    have bare5 : AllBare (s4.gens.push (.fresh (.compStart (.GeneratorExp elt [⟨tg, iter, ifs, 0⟩] scope gpos) 0 (.ref it) .none (genEnv scope (cellsFrom (s4.heap.objs.size + 1) scope.names (cloFrom X.env.cells scope.names [])) s4.heap.objs.size code builtinsNs X.env)))) := I4.bare.push rfl
    obtain ⟨W, ⟨m0, w0⟩, turn⟩ := q (upd H2 P (.tbl (ps ++ more))) ⟨⟨ps ++ more, upd_same, by rw [← em]; exact ht3⟩, fun b hb => upd_ne hb⟩
    refine hQ h'.objs.size s4.gens.size (m0 + 1) _ ⟨⟨bare5, hgen _ hat, I4.nolimit.keeps kp5⟩, _, Array.getElem?_push_size .., fun s'' e1 e2 e3 => ⟨rfl, ?_⟩⟩
    obtain ⟨hr', hf'⟩ := over_gen (A := X.A) (elt := elt) (tg := tg) (iter := iter) (ifs := ifs) (scope := scope) (pos := gpos) (it := .ref it) (cenv := genEnv scope (cellsFrom (s4.heap.objs.size + 1) scope.names (cloFrom X.env.cells scope.names [])) s4.heap.objs.size code builtinsNs X.env) hr I4.ok.frames
    have I5 := gen_start (A' := X.A.in1.in1.over (.compLoop (.GeneratorExp elt [⟨tg, iter, ifs, 0⟩] scope gpos) 0 (.ref it) .none (genEnv scope (cellsFrom (s4.heap.objs.size + 1) scope.names (cloFrom X.env.cells scope.names [])) s4.heap.objs.size code builtinsNs X.env)) []) (t' := s4.toks + 1 + 1 + 1) I4 ok hN f4 hr'.hd hf' (hn'.push _) kp5 (fun b o hb e => Heap.get?_push_of_some _ (hs'.extBut b o (Nat.ne_of_gt hb) e)) bare5 hlt hat (by intro v z; rw [← hgo] at z; cases z)
    have e1 : s''.heap = h'.push go := e1
    have e2 : s''.os = s4.os := e2
    have I6 := I5.call' (ch := []) (s' := s'') e2 (by rw [e1]; exact Un.refl) (by rw [e1]; exact I5.hok) e3 fun b hb => absurd hb (by simp)
    have st6 : tn 0 s''.heap := T.keep _ _ _ st4 fun b _ o e => by rw [e1]; exact kp5 b o e
    refine seg_start (A := X.A.in1.in1) (fun A Q E hq => T.self A 0 s'' Q E st6 hq) ?_
    exact gen_loop (A := X.A.in1.in1) (vs := own.map (·.2)) hc (fun hb => Nat.lt_irrefl _ (Nat.lt_trans (f4 _ hb).2 hlt)) (by show (genEnv scope _ _ _ _ _).scope.isCoroutine = false; exact ok.co) T (fun b hb => (f4 b hb).1) I4 hgen (hpg _ _ _ _ _ _ _ _) (hpt _ _ _ _ _ _ _ _ hr') (hpe _ _ _ _ _ _ _ _ hr') turn
      m0 0 _ s'' s'' (m0 + 1) e2 (Nat.lt_succ_self _) I6 st6 (fun b hb => (f4 b hb).1.1) w0
  cases hf : codeAmong gpos ps.toList with
  | none =>
    refine wpAny_genexprCodeX hcode (cd.code hPs ht) (cd.tab hPs) hf fun c' h' tk hx hge hlt hco' _ htab' _ => ?_
    obtain ⟨o1, vs, f1, tf, fl, tg, inF, tx, tt, op, _, _, _, _, _, _, _, _, _, htr, _⟩ := hco'
    exact cont _ h' tk _ hx (Nat.le_trans hge (Nat.le_of_lt hlt)) htab'.2 ⟨_, rfl⟩ htr
  | some cv =>
    refine wpAny_genexprCode_hit hcode (cd.code hPs ht) hf ?_
    exact cont cv s2.heap s2.toks ps (Heap.ExtBut.refl _ _) (Nat.le_refl _) hPs ⟨#[], by simp⟩ ht

theorem pe_allG {elt tg iter : Expr} {ifs : List Expr} {scope : Scope} (own : List (Str × Nat)) {p pos gpos : Pos} {wi : TI} {g : TG} {tt : TT} {te : TE} {c P : Addr} {k : Nat}
    (hr : Room (k + 1) X.A) (hg : Gl X "all") (hm : X.mg "all" = none) (hb : bootBuiltins "all" = some (.builtin "all")) (TB : GxR.TabB X.base X.mg c P) (hcode : X.env.code = .ref c) (hc : X.calm = true) (hN : X.N.Nodup) (ok : GnOk X.N X.env.scope scope own) (hi : PI X tg iter wi)
    (hpg : ∀ (A' : Around) (s : Shared) (H : Hp) (C : Addr) (cl : List (Str × Addr)) (code : Value) (fp : List Addr) (pn : List (Addr × Obj)), PG (CxG X A' s H (genEnv scope cl C code builtinsNs X.env) fp pn) tg g)
    (hpt : ∀ (A' : Around) (s : Shared) (H : Hp) (C : Addr) (cl : List (Str × Addr)) (code : Value) (fp : List Addr) (pn : List (Addr × Obj)), Room k A' → PTs (CxG X A' s H (genEnv scope cl C code builtinsNs X.env) fp pn) ifs tt)
    (hpe : ∀ (A' : Around) (s : Shared) (H : Hp) (C : Addr) (cl : List (Str × Addr)) (code : Value) (fp : List Addr) (pn : List (Addr × Obj)), Room k A' → PE (CxG X A' s H (genEnv scope cl C code builtinsNs X.env) fp pn) elt te)
    (hs : ∀ v, genFold iter X.env v = pure v)
    (he : starEach [.GeneratorExp elt [⟨tg, iter, ifs, 0⟩] scope gpos] X.env = (false, eval (.GeneratorExp elt [⟨tg, iter, ifs, 0⟩] scope gpos) X.env) :: starEach [] X.env := by rfl) :
    PE X (.Call (.Name "all" p) [.GeneratorExp elt [⟨tg, iter, ifs, 0⟩] scope gpos] [] pos) (tGen P false wi g tt te (own.map (·.2))) := by
  refine ⟨fun pins s σ H Q I h => ?_⟩
  refine wpAny_Call_Name_kw (ld_blt I hg hm hb ?_)
  refine PyProof.Rows.callWith_builtin1 ?_ he (by rfl)
  rw [he]
  show wpAny _ _ (spliced ((false, eval (.GeneratorExp elt [⟨tg, iter, ifs, 0⟩] scope gpos) X.env) :: backTo pos (starEach [] X.env))) _ _ s
  refine Calls.spliced_cons (gen_make own hr TB hcode hc hN ok hi hpg hpt hpe hs I h fun a g n s5 hR => ?_)
  refine Calls.spliced_nil ?_
  refine call_function_tree F.kind_all F.plain_all F.entry_all (F.args_all1 _) ?_
  unfold Builtin.«all»
  refine wpAny_bind (m := oneArg "all" _) (wpAny_pure ?_)
  refine wpAny_bind (wpAny_pyIter_gen hR.1.2.1 ?_)
  refine wpAny_pure ⟨plainId_quiet F.plain_all_loop _, loop_all (A := X.A) hr.hd (by have := hr.dp; omega) (fun b s' bb q => ?_) n s5 hR⟩
  obtain ⟨H', J, hq⟩ := q s'.heap s'.gens s'.drawn s'.toks (fun _ _ e => e) bb
  exact ⟨.bl b, H', J, rfl, hq⟩
theorem pe_anyG {elt tg iter : Expr} {ifs : List Expr} {scope : Scope} (own : List (Str × Nat)) {p pos gpos : Pos} {wi : TI} {g : TG} {tt : TT} {te : TE} {c P : Addr} {k : Nat}
    (hr : Room (k + 1) X.A) (hg : Gl X "any") (hm : X.mg "any" = none) (TB : GxR.TabB X.base X.mg c P) (hcode : X.env.code = .ref c) (hc : X.calm = true) (hN : X.N.Nodup) (ok : GnOk X.N X.env.scope scope own) (hi : PI X tg iter wi)
    (hpg : ∀ (A' : Around) (s : Shared) (H : Hp) (C : Addr) (cl : List (Str × Addr)) (code : Value) (fp : List Addr) (pn : List (Addr × Obj)), PG (CxG X A' s H (genEnv scope cl C code builtinsNs X.env) fp pn) tg g)
    (hpt : ∀ (A' : Around) (s : Shared) (H : Hp) (C : Addr) (cl : List (Str × Addr)) (code : Value) (fp : List Addr) (pn : List (Addr × Obj)), Room k A' → PTs (CxG X A' s H (genEnv scope cl C code builtinsNs X.env) fp pn) ifs tt)
    (hpe : ∀ (A' : Around) (s : Shared) (H : Hp) (C : Addr) (cl : List (Str × Addr)) (code : Value) (fp : List Addr) (pn : List (Addr × Obj)), Room k A' → PE (CxG X A' s H (genEnv scope cl C code builtinsNs X.env) fp pn) elt te)
    (hs : ∀ v, genFold iter X.env v = pure v)
    (he : starEach [.GeneratorExp elt [⟨tg, iter, ifs, 0⟩] scope gpos] X.env = (false, eval (.GeneratorExp elt [⟨tg, iter, ifs, 0⟩] scope gpos) X.env) :: starEach [] X.env := by rfl) :
    PE X (.Call (.Name "any" p) [.GeneratorExp elt [⟨tg, iter, ifs, 0⟩] scope gpos] [] pos) (tGen P true wi g tt te (own.map (·.2))) := by
  refine ⟨fun pins s σ H Q I h => ?_⟩
  refine wpAny_Call_Name_kw (ld_blt I hg hm boot_any ?_)
  refine PyProof.Rows.callWith_builtin1 ?_ he (by rfl)
  rw [he]
  show wpAny _ _ (spliced ((false, eval (.GeneratorExp elt [⟨tg, iter, ifs, 0⟩] scope gpos) X.env) :: backTo pos (starEach [] X.env))) _ _ s
  refine Calls.spliced_cons (gen_make own hr TB hcode hc hN ok hi hpg hpt hpe hs I h fun a g n s5 hR => ?_)
  refine Calls.spliced_nil ?_
  refine call_function_tree F.kind_any F.plain_any F.entry_any (F.args_any1 _) ?_
  unfold Builtin.«any»
  refine wpAny_bind (m := oneArg "any" _) (wpAny_pure ?_)
  refine wpAny_bind (wpAny_pyIter_gen hR.1.2.1 ?_)
  refine wpAny_pure ⟨plainId_quiet F.plain_any_loop _, loop_any (A := X.A) hr.hd (by have := hr.dp; omega) (fun b s' bb q => ?_) n s5 hR⟩
  obtain ⟨H', J, hq⟩ := q s'.heap s'.gens s'.drawn s'.toks (fun _ _ e => e) bb
  exact ⟨.bl b, H', J, rfl, hq⟩
end
end Dl

set_option Elab.async false
set_option linter.all false
set_option maxRecDepth 100000
set_option maxHeartbeats 2000000
/-! any, all of a generator expression, over data. -/
namespace Dl
open PySem PySem.Spec PyProof.Rows L2

def genF (stop : Bool) (t : Tg) (c : Tv) (f : Ev) (δ : Env) : List D → R D
  | [] => .ok (.bl (!stop))
  | d :: ds => match t.put d δ with
    | none => .bad
    | some δ1 => match c δ1 with
      | .ok true => match f δ1 with
        | .ok (.bl b) => if b = stop then .ok (.bl stop) else genF stop t c f δ ds
        | _ => .bad
      | .ok false => genF stop t c f δ ds
      | _ => .bad
def eGen (stop : Bool) (vs : List Nat) (t : Tg) (it : Env → R (List D)) (c : Tv) (f : Ev) : Ev := fun δ => it δ >>= fun ds => genF stop t c f (wipeE δ vs) ds
section
variable {X : Cx} {M : Mo} {W : WX} {pos : Pos}
theorem PX.tr {α : Type} {σ : L2.St} {G H G1 H1 : Hp} {r : R α} {k : Hp → Hp → α → Prop} (h : PX M W σ G H r k) (t : Tr M.tp G H G1 H1) : PX M W σ G1 H1 r k := by
  cases r with
  | ok a => exact fun G' H' t' => h G' H' (t.trans t')
  | exc c => exact fun G' H' t' => h G' H' (t.trans t')
  | bad => exact h
theorem gen_data {stop : Bool} {vs : List Nat} {t : Tg} {it : Env → R (List D)} {c : Tv} {f : Ev} {P : Addr} (hP : M.tp.gen P) (hat : ∀ i ∈ t.at, i ∈ vs) {σ : L2.St} {H : Hp} {Q : VK} (q : tE (kwX X) M W (eGen stop vs t it c f) σ H Q) :
    tGen P stop (tI (kwX X) M W it) (tG (kwX X) M t) (tT (kwX X) M W0 c) (tE (kwX X) M W0 f) vs σ H Q := by
  obtain ⟨Fo, G, δ, er, q⟩ := q
  refine ⟨Fo, G, δ, er, PX.mono (PX.bind q) fun G1 H1 ds t1 q1 J wk => ?_⟩
  have er1 := er.tr t1
  refine ⟨(er1.tb P (.inl hP)).1.tab, fun H2 tt => ?_⟩
  have t2 : Tr M.tp G1 H1 G1 H2 := tabbed_tr er1.gh er1.tb hP tt
  -- what is left
  refine ⟨fun i m H => m = ds.length - i ∧ i ≤ ds.length ∧ ∃ G2, Tr M.tp G1 H1 G2 H ∧ PX M W σ G2 H (genF stop t c f (wipeE δ vs) (ds.drop i)) fun G' H' d => ∀ v, Rep (kwX X) G' d v → Q v H', ⟨ds.length, by simp, Nat.zero_le _, G1, t2, ?_⟩, ?_⟩
  · refine PX.tr ?_ t2
    exact q1
  rintro i m H ⟨rfl, hle, G2, t2, q2⟩
  have l2 : Le G2 H := t2.2.1
  obtain ⟨w1, w2⟩ := wk i G2 H t2.1 l2
  by_cases hlt : i < ds.length
  · rw [List.drop_eq_getElem_cons hlt] at q2
    obtain ⟨go, yl⟩ := w2 ds[i] (List.getElem?_eq_getElem hlt)
    refine .inr ⟨go, fun H => ∃ G2, Tr M.tp G1 H1 G2 H ∧ PX M W σ G2 H (genF stop t c f (wipeE δ vs) (ds.drop (i + 1))) fun G' H' d => ∀ v, Rep (kwX X) G' d v → Q v H', fun H' z => ⟨ds.length - (i + 1), by omega, rfl, hlt, z⟩, fun x H3 y => ?_⟩
    obtain ⟨G3, t3, rx⟩ := yl x H3 y
    have t13 := t2.trans t3
    unfold genF at q2
    cases zp : t.put ds[i] (wipeE δ vs) with
    | none => simp only [zp] at q2; exact False.elim q2
    | some δ1 =>
      simp only [zp] at q2
      have er3 : ER (kwX X) M.tp Fo G3 H3 (wipeE δ vs) (L2.wipe σ vs) := (er1.tr t13).wipe vs
      refine ⟨Fo, G3, wipeE δ vs, ds[i], δ1, er3, rx, zp, fun σ' er' bt => ⟨wipe_but hat bt, ?_⟩⟩
      refine ⟨Fo, G3, δ1, er', ?_⟩
      cases zc : c δ1 with
      | bad => simp only [zc] at q2; exact False.elim q2
      | exc _ => simp only [zc] at q2; exact False.elim q2
      | ok b =>
        intro G4 H4 t4
        cases b with
        | false =>
          simp only [zc] at q2
          exact ⟨G4, t13.trans t4, PX.tr q2 (t3.trans t4)⟩
        | true =>
          simp only [zc] at q2
          refine ⟨Fo, G4, δ1, er'.tr t4, ?_⟩
          cases zf : f δ1 with
          | bad => simp only [zf] at q2; exact False.elim q2
          | exc _ => simp only [zf] at q2; exact False.elim q2
          | ok y =>
            intro G5 H5 t5 v rv
            simp only [zf] at q2
            have t35 := (t3.trans t4).trans t5
            cases y with
            | bl b =>
              refine ⟨b, rv, ?_⟩
              have q2 : PX M W σ G2 H (if b = stop then .ok (.bl stop) else genF stop t c f (wipeE δ vs) (ds.drop (i + 1))) fun G' H' d => ∀ v, Rep (kwX X) G' d v → Q v H' := q2
              by_cases hb : b = stop
              · rw [if_pos hb] at q2 ⊢
                exact q2 G5 H5 t35 _ rfl
              · rw [if_neg hb] at q2 ⊢
                exact ⟨G5, t2.trans t35, PX.tr q2 t35⟩
            | _ => exact False.elim q2
  · have e : ds.drop i = [] := List.drop_eq_nil_of_le (by omega)
    rw [e] at q2
    exact .inl ⟨w1 (by omega), q2 G2 H (.refl l2) _ rfl⟩
theorem de_allG {c P : Addr} {elt tg iter : Expr} {ifs : List Expr} {scope : Scope} {p gpos : Pos} {k : Nat} {t : Tg} {it : Env → R (List D)} {ct : Tv} {f : Ev} (own : List (Str × Nat))
    (hr : Room (k + 1) X.A) (hg : Gl X "all") (hm : X.mg "all" = none) (hb : bootBuiltins "all" = some (.builtin "all")) (TB : GxR.TabB X.base X.mg c P) (hP : M.tp.gen P) (hcode : X.env.code = .ref c) (hc : X.calm = true) (hN : X.N.Nodup) (ok : GnOk X.N X.env.scope scope own) (hat : ∀ i ∈ t.at, i ∈ own.map (·.2))
    (hi : PI X tg iter (tI (kwX X) M W it))
    (hpg : ∀ (A' : Around) (s : Shared) (H : Hp) (C : Addr) (cl : List (Str × Addr)) (code : Value) (fp : List Addr) (pn : List (Addr × Obj)), PG (CxG X A' s H (genEnv scope cl C code builtinsNs X.env) fp pn) tg (tG (kwX X) M t))
    (hpt : ∀ (A' : Around) (s : Shared) (H : Hp) (C : Addr) (cl : List (Str × Addr)) (code : Value) (fp : List Addr) (pn : List (Addr × Obj)), Room k A' → PTs (CxG X A' s H (genEnv scope cl C code builtinsNs X.env) fp pn) ifs (tT (kwX X) M W0 ct))
    (hpe : ∀ (A' : Around) (s : Shared) (H : Hp) (C : Addr) (cl : List (Str × Addr)) (code : Value) (fp : List Addr) (pn : List (Addr × Obj)), Room k A' → PE (CxG X A' s H (genEnv scope cl C code builtinsNs X.env) fp pn) elt (tE (kwX X) M W0 f))
    (hs : ∀ v, genFold iter X.env v = pure v := by intro _; rfl)
    (he : starEach [.GeneratorExp elt [⟨tg, iter, ifs, 0⟩] scope gpos] X.env = (false, eval (.GeneratorExp elt [⟨tg, iter, ifs, 0⟩] scope gpos) X.env) :: starEach [] X.env := by rfl) :
    PE X (.Call (.Name "all" p) [.GeneratorExp elt [⟨tg, iter, ifs, 0⟩] scope gpos] [] pos) (tE (kwX X) M W (eGen false (own.map (·.2)) t it ct f)) :=
  PE.imp (pe_allG own hr hg hm hb TB hcode hc hN ok hi hpg hpt hpe hs he) fun _ _ _ q => gen_data hP hat q
theorem de_anyG {c P : Addr} {elt tg iter : Expr} {ifs : List Expr} {scope : Scope} {p gpos : Pos} {k : Nat} {t : Tg} {it : Env → R (List D)} {ct : Tv} {f : Ev} (own : List (Str × Nat))
    (hr : Room (k + 1) X.A) (hg : Gl X "any") (hm : X.mg "any" = none) (TB : GxR.TabB X.base X.mg c P) (hP : M.tp.gen P) (hcode : X.env.code = .ref c) (hc : X.calm = true) (hN : X.N.Nodup) (ok : GnOk X.N X.env.scope scope own) (hat : ∀ i ∈ t.at, i ∈ own.map (·.2))
    (hi : PI X tg iter (tI (kwX X) M W it))
    (hpg : ∀ (A' : Around) (s : Shared) (H : Hp) (C : Addr) (cl : List (Str × Addr)) (code : Value) (fp : List Addr) (pn : List (Addr × Obj)), PG (CxG X A' s H (genEnv scope cl C code builtinsNs X.env) fp pn) tg (tG (kwX X) M t))
    (hpt : ∀ (A' : Around) (s : Shared) (H : Hp) (C : Addr) (cl : List (Str × Addr)) (code : Value) (fp : List Addr) (pn : List (Addr × Obj)), Room k A' → PTs (CxG X A' s H (genEnv scope cl C code builtinsNs X.env) fp pn) ifs (tT (kwX X) M W0 ct))
    (hpe : ∀ (A' : Around) (s : Shared) (H : Hp) (C : Addr) (cl : List (Str × Addr)) (code : Value) (fp : List Addr) (pn : List (Addr × Obj)), Room k A' → PE (CxG X A' s H (genEnv scope cl C code builtinsNs X.env) fp pn) elt (tE (kwX X) M W0 f))
    (hs : ∀ v, genFold iter X.env v = pure v := by intro _; rfl)
    (he : starEach [.GeneratorExp elt [⟨tg, iter, ifs, 0⟩] scope gpos] X.env = (false, eval (.GeneratorExp elt [⟨tg, iter, ifs, 0⟩] scope gpos) X.env) :: starEach [] X.env := by rfl) :
    PE X (.Call (.Name "any" p) [.GeneratorExp elt [⟨tg, iter, ifs, 0⟩] scope gpos] [] pos) (tE (kwX X) M W (eGen true (own.map (·.2)) t it ct f)) :=
  PE.imp (pe_anyG own hr hg hm TB hcode hc hN ok hi hpg hpt hpe hs he) fun _ _ _ q => gen_data hP hat q
end
end Dl

set_option Elab.async false
set_option linter.all false
set_option maxRecDepth 100000
set_option maxHeartbeats 2000000
/-! Defs by names; facts of the module; replace. -/
namespace Dl
open PySem PySem.Spec PyProof.Rows L2

/-! ### defs -/
section
variable {P : Program} {w : World} {K : PySem.W.Frag} {mg : Str → Option Value} {base : Heap} {M : Mo}
/-- the def x keeps its promise at the level k: n arguments, the answer m -/
def Can (P : Program) (w : World) (K : PySem.W.Frag) (mg : Str → Option Value) (base : Heap) (M : Mo) (k : Nat) (x : Str) (n : Nat) (m : List D → R D) : Prop :=
  ∃ (fd : FuncData) (ps : List Str), FnOk P w K mg base (L2.CX P w) k (He.ga K x) fd ps (spD ⟨K, P, w⟩ M n m) ∧ Binds K fd ps [] ∧ PySem.W.keepIn K (.ref (He.ga K x)) = true ∧ mg x = some (.ref (He.ga K x))
theorem fn_of_data {x : Str} {st : Stmt} {fd : FuncData} {N ps : List Str} {k : Nat} {B : Sv} {kws : List (Str × V)} (F : FunD K x x (defArgs st) (defBody st) (defScope st) [] kws (He.fAd K (x, none)) fd) (S : FnScope N ps (defScope st))
    (hb : ∀ (A : Around) (outer : List PySem.Env) (s : Shared) (H : Hp) (E : XK), Room k (A.deeper (envOfC x (defScope st) s.heap.objs.size (He.fAd K (x, none)) (.ref (He.codeOf K (x, none))))) →
      PSs (cxOf (L2.CX P w) P w K mg base N x (defScope st) (He.fAd K (x, none)) (.ref (He.codeOf K (x, none))) A outer s H E) (defBody st) (tS ⟨K, P, w⟩ M (fun cls d _ H => E cls d H) B)) :
    FnOk P w K mg base (L2.CX P w) (k + 1) (He.fAd K (x, none)) fd ps (spD ⟨K, P, w⟩ M ps.length (runF N.length B)) := by
  obtain ⟨oc, od, dV, kV, doc, pm, an, cdv, ct, osl, rfl, lk, hcd, _, _⟩ := F.ex
  obtain ⟨c, rfl⟩ := He.codeIn_ref hcd
  have ec := He.codeOf_eq lk (c := c) rfl
  rw [ec] at hb
  refine fn_of lk hcd S (fun vs H Q E ⟨G, ds, l, tb, r, hl, _⟩ => by rw [r.length, hl]) fun A outer s H vs Q E hr ⟨G, ds, l, tb, r, hl, q⟩ => ?_
  refine ⟨_, hb A outer s H E hr, ?_⟩
  obtain ⟨Fo, er, fo⟩ := er_start (N := N) l tb r
  refine ⟨Fo, G, _, er, ?_⟩
  unfold runF at q
  cases z : B (initE N.length ds) with
  | next δ' => rw [z] at q; exact fun G' σ' H' l' e' => q G' H' (tr_end fo l' e') _ rfl
  | ret d => rw [z] at q; exact fun G' H' l' ⟨σ', e'⟩ v rv => q G' H' (tr_end fo l' e') v rv
  | exc c δ' => rw [z] at q; exact fun G' σ' H' l' e' => q G' H' (tr_end fo l' e')
  | brk _ => rw [z] at q; exact False.elim q
  | cont _ => rw [z] at q; exact False.elim q
  | bad => rw [z] at q; exact False.elim q
theorem can_mk {x : Str} {st : Stmt} {N ps : List Str} {k : Nat} {B : Sv} {kws : List (Str × V)} (F : ∃ fd, FunD K x x (defArgs st) (defBody st) (defScope st) [] kws (He.fAd K (x, none)) fd) (g : mg x = some (.ref (He.ga K x))) (S : FnScope N ps (defScope st))
    (hbind : ∀ (kV doc pm : Value) (an : Option Addr) (cdv ct : Value) (us : List Value), us.length = ps.length → bindArgs (PySem.W.fnOf x x (defArgs st) (defBody st) (defScope st) .none kV doc pm an cdv ct) ⟨us, []⟩ = pure (ps.zip us))
    (hb : ∀ (A : Around) (outer : List PySem.Env) (s : Shared) (H : Hp) (E : XK), Room k (A.deeper (envOfC x (defScope st) s.heap.objs.size (He.fAd K (x, none)) (.ref (He.codeOf K (x, none))))) →
      PSs (cxOf (L2.CX P w) P w K mg base N x (defScope st) (He.fAd K (x, none)) (.ref (He.codeOf K (x, none))) A outer s H E) (defBody st) (tS ⟨K, P, w⟩ M (fun cls d _ H => E cls d H) B)) :
    Can P w K mg base M (k + 1) x ps.length (runF N.length B) := by
  obtain ⟨fd, F⟩ := F
  exact ⟨fd, ps, fn_of_data F S hb, F.bindsN hbind, F.kp, g⟩
theorem Can.imp {k n : Nat} {x : Str} {m m' : List D → R D} (h : Can P w K mg base M k x n m) (e : m = m') : Can P w K mg base M k x n m' := e ▸ h
end
section
variable {X : Cx} {M : Mo} {W : WX} {pos : Pos} {e o : Expr} {es : List Expr} {f : Ev} {fs : Env → R (List D)}
theorem takes0 : Takes X W0 := fun u s' ⟨_, _, _, _, _, _, _, _, _, _, _, _, _, _, _, _, w⟩ => False.elim w
theorem de_callC {k n : Nat} {m : List D → R D} {x : Str} {p : Pos} (C : Can X.prog X.w X.K X.mg X.base M k x n m) (hr : Room k X.A) (tk : Takes X W) (hg : Gl X x) (ha : PA X (e :: es) (tA (kwX X) M W fs)) (hn : ∀ δ ds, fs δ = .ok ds → ds.length = n)
    (hl : (e :: es).length = n := by rfl) (hdb : (x == ("__debug__" : Str)) = false := by decide) (he : starEach (e :: es) X.env = (false, eval e X.env) :: starEach es X.env := by rfl) (hpl : (backTo pos (starEach es X.env)).any (·.1) = false := by rfl) :
    PE X (.Call (.Name x p) (e :: es) [] pos) (tE (kwX X) M W (eCall m fs)) := by
  obtain ⟨fd, ps, Fn, hb, hk, hm⟩ := C
  exact de_call Fn hr hg hm hk hb tk ha hl hdb he hpl hn
/-- a name of the function -/
theorem dv (i : Nat) {x : Str} (hN : X.N[i]? = some x := by rfl) (hv : Vis X.env.scope x := by first | exact Or.inl rfl | exact Or.inr (Or.inl rfl) | exact Or.inr (Or.inr rfl)) (hd : (x == ("__debug__" : Str)) = false := by decide)
    (hcd : (x == ("__classdict__" : Str)) = false := by decide) : PE X (.Name x pos) (tE (kwX X) M W (eV i)) := de_var hN hv hd hcd

/-! ### e.replace('..', '..') -/
def PE1 (X : Cx) (e : Expr) (t : TE) : Prop := ∀ (pins : List (Addr × Obj)) (s : Shared) (σ : L2.St) (H : Hp) (Q : VK), Inv X pins σ H s → t σ H Q →
  wpAny (model X.prog X.w) X.A (eval e X.env) (fun u s' => 1 ≤ s'.toks ∧ EP X pins σ Q u s') X.xe s
theorem PET.imp {t t' : TE} (h : PET X e t) (i : ∀ σ H Q, t' σ H Q → t σ H Q) : PET X e t' := fun pins s σ H Q h0 I q => h pins s σ H Q h0 I (i σ H Q q)
theorem PE1.imp {t t' : TE} (h : PE1 X e t) (i : ∀ σ H Q, t' σ H Q → t σ H Q) : PE1 X e t' := fun pins s σ H Q I q => h pins s σ H Q I (i σ H Q q)
theorem PAT.imp {t t' : TA} (h : PAT X es t) (i : ∀ σ H Q, t' σ H Q → t σ H Q) : PAT X es t' := fun pos pins s σ H Q h0 I q => h pos pins s σ H Q h0 I (i σ H Q q)
end

/-! ### the module's facts -/
/-- what is known of the module: K holds in the base, the facts fa, the defs fn, one Bool more, the tables of the defs tf -/
structure Wd (fa : List He.Fa) (fn : List He.DefD) (tf : List He.Defn) (ex : PySem.W.Frag → Bool) (K : PySem.W.Frag) (mg : Str → Option Value) (base : Heap) : Prop where
  kin : K.In base
  glob : base.Ns mainGlobals mg
  says : He.SaysD fa fn K
  more : ex K = true
  tabs : ∀ p ∈ tf, LamX.TabB base mg (He.cT K p).1 (He.cT K p).2
def MoD (K : PySem.W.Frag) (tf : List He.Defn) : Mo := ⟨fun c => .ref (He.ga K (Str.ofString c)), ⟨fun a => ∃ p ∈ tf, a = (He.cT K p).2, fun _ _ => False, fun _ _ h => h.elim, fun _ _ _ h => h.elim⟩⟩
section
variable {fa : List He.Fa} {fn : List He.DefD} {tf : List He.Defn} {ex : PySem.W.Frag → Bool} {K : PySem.W.Frag} {mg : Str → Option Value} {base : Heap}
theorem Wd.glo (E : Wd fa fn tf ex K mg base) (i : Nat) {x : Str} (h : fa[i]? = some (.glo x) := by rfl) : mg x = some (.ref (He.ga K x)) := He.glo_ok E.kin E.glob (E.says.fact i (f := .glo x) h)
theorem Wd.fre (E : Wd fa fn tf ex K mg base) (i : Nat) {x : Str} (h : fa[i]? = some (.free x) := by rfl) : mg x = none := He.free_ok E.kin E.glob (E.says.fact i (f := .free x) h)
theorem Wd.int (E : Wd fa fn tf ex K mg base) (i : Nat) {x : Str} {z : Int} (h : fa[i]? = some (.int x z) := by rfl) : ∃ t, mg x = some (.int z t) := He.int_ok E.kin E.glob (E.says.fact i (f := .int x z) h)
theorem Wd.str (E : Wd fa fn tf ex K mg base) (i : Nat) {x z : Str} (h : fa[i]? = some (.str x z) := by rfl) : ∃ t, mg x = some (.str z t) := He.str_ok E.kin E.glob (E.says.fact i (f := .str x z) h)
theorem Wd.exc (E : Wd fa fn tf ex K mg base) (i : Nat) {x : Str} (h : fa[i]? = some (.exc x) := by rfl) : PySem.W.excIn K (He.ga K x) He.veBase "ValueError.__new__" = true ∧ PySem.W.keepIn K (.ref (He.ga K x)) = true ∧ PySem.W.subIn K (.ref (He.ga K x)) (.type "BaseException") = some true ∧ PySem.W.typeIn K (.ref (He.ga K x)) = some (.type "type") :=
  He.exc_ok (E.says.fact i (f := .exc x) h)
theorem Wd.exm (E : Wd fa fn tf ex K mg base) (i : Nat) {x y : Str} {b : Bool} (h : fa[i]? = some (.exm x y b) := by rfl) : PySem.W.exmOne K (.ref (He.ga K x)) (.ref (He.ga K y)) = some b := He.exm_ok (E.says.fact i (f := .exm x y b) h)
theorem Wd.fun_ (E : Wd fa fn tf ex K mg base) (i : Nat) {d : He.DefD} (h : fn[i]? = some d := by rfl) : ∃ fd, FunD K d.name d.qual d.params d.body d.scope (d.dvs K) (d.kws K) (He.fAd K d.at_) fd := E.says.def_ i h
theorem Wd.tab (E : Wd fa fn tf ex K mg base) {p : He.Defn} (h : p ∈ tf) : GxR.TabB base mg (He.codeOf K p) (He.cT K p).2 := let t := E.tabs p h; ⟨t.code, t.bm, t.gP⟩
end
section
variable {X : Cx} {M : Mo} {W : WX} {pos : Pos}
theorem de_gstr {x z : Str} (h : ∃ t, X.mg x = some (.str z t)) (hg : Gl X x := by rfl) (hd : (x == ("__debug__" : Str)) = false := by decide) : PE X (.Name x pos) (tE (kwX X) M W (eC (.str z))) := by
  obtain ⟨t, h⟩ := h
  exact de_glob (v := .str z) hg h ⟨t, rfl⟩ (fun _ => rfl) hd
theorem de_gint {x : Str} {z : Int} (h : ∃ t, X.mg x = some (.int z t)) (hg : Gl X x := by rfl) (hd : (x == ("__debug__" : Str)) = false := by decide) : PE X (.Name x pos) (tE (kwX X) M W (eC (.int z))) := by
  obtain ⟨t, h⟩ := h
  exact de_glob (v := .int z) hg h ⟨t, rfl⟩ (fun _ => rfl) hd
end
end Dl

set_option Elab.async false
set_option linter.all false
set_option maxRecDepth 100000
set_option maxHeartbeats 2000000
/-! Short words for printed terms. -/
namespace Dl
open PySem PySem.Spec PyProof.Rows L2

theorem bt_len : bootBuiltins "len" = some (.builtin "len") := by decide +kernel
theorem bt_isinstance : bootBuiltins "isinstance" = some (.builtin "isinstance") := by decide +kernel
theorem bt_str : bootBuiltins "str" = some (.type "str") := by decide +kernel
theorem bt_int : bootBuiltins "int" = some (.type "int") := by decide +kernel
theorem bt_bool : bootBuiltins "bool" = some (.type "bool") := by decide +kernel
theorem bt_tuple : bootBuiltins "tuple" = some (.type "tuple") := by decide +kernel
theorem bt_list : bootBuiltins "list" = some (.type "list") := by decide +kernel
theorem bt_all : bootBuiltins "all" = some (.builtin "all") := by decide +kernel
/-- a block's names, by a look -/
def blkB (N : List Str) (sc scope : Scope) (own : List (Str × Nat)) : Bool := decide (scope.kind = .function) && (scope.names.all fun y => decide (scope.names.lookup y.1 = some y.2)) && (own.all fun p => decide (N[p.2]? = some p.1)) &&
  (scope.names.all fun y => if y.2 = .free then decide (sc.names.lookup y.1 = some .cell ∨ sc.names.lookup y.1 = some .free) else true) && scope.names.all fun y => if y.2 = .local ∨ y.2 = .cell then decide (y.1 ∈ own.map (·.1) ∨ y.1 ∉ N) else true
theorem blk_of {N : List Str} {sc scope : Scope} {own : List (Str × Nat)} (h : blkB N sc scope own = true) : BlkOk N sc scope own := by
  unfold blkB at h
  simp only [Bool.and_eq_true, decide_eq_true_eq, List.all_eq_true] at h
  obtain ⟨⟨⟨⟨h1, h2⟩, h3⟩, h4⟩, h5⟩ := h
  refine ⟨h1, h2, h3, fun y hy e => ?_, fun y hy e => ?_⟩
  · have q := h4 y hy
    rw [if_pos e] at q
    exact of_decide_eq_true q
  · have q := h5 y hy
    rw [if_pos e] at q
    exact of_decide_eq_true q
def gnB (N : List Str) (sc scope : Scope) (own : List (Str × Nat)) : Bool := blkB N sc scope own && !scope.isCoroutine && decide (scope.names.lookup (".0" : Str) = some NameKind.local)
theorem gn_of {N : List Str} {sc scope : Scope} {own : List (Str × Nat)} (h : gnB N sc scope own = true) : GnOk N sc scope own := by
  unfold gnB at h
  simp only [Bool.and_eq_true, decide_eq_true_eq, Bool.not_eq_true'] at h
  exact ⟨blk_of h.1.1, h.1.2, h.2⟩
def iaddD : D → D → Option D
  | .int i, .int j => some (.int (i + j))
  | .str a, .str b => if a.length + b.length ≤ sizeLine then some (.str (a ++ b)) else none
  | _, _ => none
section
variable {X : Cx} {M : Mo} {W : WX} {pos : Pos} {a b e : Expr} {f g : Ev} {k : Nat}
theorem u64 (hr : Room k X.A) : X.A.units + 64 < cLine := hr.units
theorem u65 (hr : Room k X.A) : X.A.units + 65 < cLine := by have := hr.un; omega
theorem xAdd (ha : PE X a (tE (kwX X) M W f)) (hb : PE X b (tE (kwX X) M W g)) : PE X (.BinOp a .Add b pos) (tE (kwX X) M W (e2 addD f g)) := de_op op_addD os_add ha hb
theorem xSub (ha : PE X a (tE (kwX X) M W f)) (hb : PE X b (tE (kwX X) M W g)) : PE X (.BinOp a .Sub b pos) (tE (kwX X) M W (e2 subD f g)) := de_op op_sub os_sub ha hb
theorem xMul (ha : PE X a (tE (kwX X) M W f)) (hb : PE X b (tE (kwX X) M W g)) : PE X (.BinOp a .Mult b pos) (tE (kwX X) M W (e2 mulD f g)) := de_op op_mul os_mul ha hb
theorem xFdv (ha : PE X a (tE (kwX X) M W f)) (hb : PE X b (tE (kwX X) M W g)) : PE X (.BinOp a .FloorDiv b pos) (tE (kwX X) M W (e2 fdivD f g)) := de_op op_fdiv os_fdiv ha hb
theorem xMod (ha : PE X a (tE (kwX X) M W f)) (hb : PE X b (tE (kwX X) M W g)) : PE X (.BinOp a .Mod b pos) (tE (kwX X) M W (e2 modD f g)) := de_op op_mod os_mod ha hb
theorem xPow (ha : PE X a (tE (kwX X) M W f)) (hb : PE X b (tE (kwX X) M W g)) : PE X (.BinOp a .Pow b pos) (tE (kwX X) M W (e2 powD f g)) := de_op op_pow os_pow ha hb
theorem cEq (hr : Room k X.A) (ha : PE X a (tE (kwX X) M W f)) (hb : PE X b (tE (kwX X) M W g)) : PE X (.Compare a [.Eq] [b] pos) (tE (kwX X) M W (e2 eqD f g)) := de_cmp (op_eqD (u64 hr)) os_eq ha hb
theorem cNe (hr : Room k X.A) (ha : PE X a (tE (kwX X) M W f)) (hb : PE X b (tE (kwX X) M W g)) : PE X (.Compare a [.NotEq] [b] pos) (tE (kwX X) M W (e2 neD f g)) := de_cmp (op_neD (u64 hr)) os_ne ha hb
theorem cLe (ha : PE X a (tE (kwX X) M W f)) (hb : PE X b (tE (kwX X) M W g)) : PE X (.Compare a [.LtE] [b] pos) (tE (kwX X) M W (e2 leD f g)) := de_cmp op_le os_le ha hb
theorem cGt (ha : PE X a (tE (kwX X) M W f)) (hb : PE X b (tE (kwX X) M W g)) : PE X (.Compare a [.Gt] [b] pos) (tE (kwX X) M W (e2 gtD f g)) := de_cmp op_gt os_gt ha hb
theorem cGe (ha : PE X a (tE (kwX X) M W f)) (hb : PE X b (tE (kwX X) M W g)) : PE X (.Compare a [.GtE] [b] pos) (tE (kwX X) M W (e2 geD f g)) := de_cmp op_ge os_ge ha hb
theorem cIn (hr : Room k X.A) (ha : PE X a (tE (kwX X) M W f)) (hb : PE X b (tE (kwX X) M W g)) (hm : behindInMarks .In b = false := by first | exact nomark _ | rfl) : PE X (.Compare a [.In] [b] pos) (tE (kwX X) M W (e2 inD f g)) := de_cmp (op_inAll (u65 hr)) os_in ha hb hm
theorem cIs (ha : PE X a (tE (kwX X) M W f)) (hb : PE X b (tE (kwX X) M W g)) : PE X (.Compare a [.Is] [b] pos) (tE (kwX X) M W (e2 isND f g)) := de_cmp op_isN os_isN ha hb
theorem tEq (hr : Room k X.A) (ha : PE X a (tE (kwX X) M W f)) (hb : PE X b (tE (kwX X) M W g)) : PT X (.Compare a [.Eq] [b] pos) (tT (kwX X) M W (tB1 (e2 eqD f g))) := dt_cmp (op_eqD (u64 hr)) os_eq ha hb
theorem tNe (hr : Room k X.A) (ha : PE X a (tE (kwX X) M W f)) (hb : PE X b (tE (kwX X) M W g)) : PT X (.Compare a [.NotEq] [b] pos) (tT (kwX X) M W (tB1 (e2 neD f g))) := dt_cmp (op_neD (u64 hr)) os_ne ha hb
theorem tLt (ha : PE X a (tE (kwX X) M W f)) (hb : PE X b (tE (kwX X) M W g)) : PT X (.Compare a [.Lt] [b] pos) (tT (kwX X) M W (tB1 (e2 ltD f g))) := dt_cmp op_lt os_lt ha hb
theorem tLe (ha : PE X a (tE (kwX X) M W f)) (hb : PE X b (tE (kwX X) M W g)) : PT X (.Compare a [.LtE] [b] pos) (tT (kwX X) M W (tB1 (e2 leD f g))) := dt_cmp op_le os_le ha hb
theorem tGt (ha : PE X a (tE (kwX X) M W f)) (hb : PE X b (tE (kwX X) M W g)) : PT X (.Compare a [.Gt] [b] pos) (tT (kwX X) M W (tB1 (e2 gtD f g))) := dt_cmp op_gt os_gt ha hb
theorem tGe (ha : PE X a (tE (kwX X) M W f)) (hb : PE X b (tE (kwX X) M W g)) : PT X (.Compare a [.GtE] [b] pos) (tT (kwX X) M W (tB1 (e2 geD f g))) := dt_cmp op_ge os_ge ha hb
theorem tIn (hr : Room k X.A) (ha : PE X a (tE (kwX X) M W f)) (hb : PE X b (tE (kwX X) M W g)) (hm : behindInMarks .In b = false := by first | exact nomark _ | rfl) : PT X (.Compare a [.In] [b] pos) (tT (kwX X) M W (tB1 (e2 inD f g))) := dt_cmp (op_inAll (u65 hr)) os_in ha hb hm
theorem tNin (hr : Room k X.A) (ha : PE X a (tE (kwX X) M W f)) (hb : PE X b (tE (kwX X) M W g)) (hm : behindInMarks .NotIn b = false := by first | exact nomark _ | rfl) : PT X (.Compare a [.NotIn] [b] pos) (tT (kwX X) M W (tB1 (e2 ninD f g))) := dt_cmp (op_ninAll (u65 hr)) os_nin ha hb hm
theorem tIs (ha : PE X a (tE (kwX X) M W f)) (hb : PE X b (tE (kwX X) M W g)) : PT X (.Compare a [.Is] [b] pos) (tT (kwX X) M W (tB1 (e2 isND f g))) := dt_cmp op_isN os_isN ha hb
theorem bLen {p : Pos} (hm : X.mg "len" = none) (ha : PE X a (tE (kwX X) M W f)) (hg : Gl X "len" := by rfl) (he : starEach [a] X.env = (false, eval a X.env) :: starEach [] X.env := by rfl) : PE X (.Call (.Name "len" p) [a] [] pos) (tE (kwX X) M W (eB lenD (aCons f aNil))) :=
  de_callB call_len cs_len hg hm bt_len (da_cons ha da_nil he) (by decide) (by decide) he
theorem bTuple {p : Pos} (hm : X.mg "tuple" = none) (ha : PE X a (tE (kwX X) M W f)) (hg : Gl X "tuple" := by rfl) (he : starEach [a] X.env = (false, eval a X.env) :: starEach [] X.env := by rfl) : PE X (.Call (.Name "tuple" p) [a] [] pos) (tE (kwX X) M W (eB tupleD (aCons f aNil))) :=
  de_callTy call_tuple_ofF cs_tuple hg hm bt_tuple (da_cons ha da_nil he) (by decide) (by decide) he
end
section
variable {X : Cx} {M : Mo} {W : WX} {pos : Pos} {e : Expr}
/-- raise X('..'), X by its facts -/
theorem ds_raiseE {c : String} {m : Str} {j : Nat} {p p2 pos2 : Pos} (tk : Takes X W) (gC : X.mg (Str.ofString c) = some (.ref (He.ga X.K (Str.ofString c))))
    (F : PySem.W.excIn X.K (He.ga X.K (Str.ofString c)) He.veBase "ValueError.__new__" = true ∧ PySem.W.keepIn X.K (.ref (He.ga X.K (Str.ofString c))) = true ∧ PySem.W.subIn X.K (.ref (He.ga X.K (Str.ofString c))) (.type "BaseException") = some true ∧ PySem.W.typeIn X.K (.ref (He.ga X.K (Str.ofString c))) = some (.type "type"))
    (ec : M.ec c = .ref (He.ga X.K (Str.ofString c)) := by rfl) (hc : X.calm = true := by rfl) (hg : Gl X (Str.ofString c) := by rfl) (hdb : (Str.ofString c == ("__debug__" : Str)) = false := by decide) :
    PS X (.Raise (some (.Call (.Name (Str.ofString c) p) [.Constant (.str m) j p2] [] pos)) none pos2) (tS (kwX X) M W (sRaise c)) :=
  ds_raise hc tk ec PySem.F.excBase_ValueError F.1 gC F.2.1 (raises_own F.2.2.1 F.2.2.2) hg hdb
def subL (l : List (String × Bool)) (n : String) : Option Bool := l.lookup n
theorem sub_nil {K : PySem.W.Frag} {c : Value} : ∀ n b, subL [] n = some b → PySem.W.exmOne K (M.ec n) c = some b := fun n b h => by cases h
theorem sub_cons {K : PySem.W.Frag} {c : Value} {n0 : String} {b0 : Bool} {l : List (String × Bool)} (h0 : PySem.W.exmOne K (M.ec n0) c = some b0) (hl : ∀ n b, subL l n = some b → PySem.W.exmOne K (M.ec n) c = some b) : ∀ n b, subL ((n0, b0) :: l) n = some b → PySem.W.exmOne K (M.ec n) c = some b := fun n b h => by
  unfold subL at h
  rw [List.lookup_cons] at h
  cases e : n == n0 with
  | true =>
    rw [e] at h
    cases h
    rw [eq_of_beq e]; exact h0
  | false => rw [e] at h; exact hl n b h
end
end Dl

set_option Elab.async false
set_option linter.all false
set_option maxRecDepth 100000
set_option maxHeartbeats 2000000
/-! The law's entry. -/
namespace Dl
open PySem PySem.Spec PyProof.Rows L2
theorem reps_ints {K : Kw} {G : Hp} : ∀ ns : List Int, Reps K G (ns.map D.int) (ns.map V.int)
  | [] => rfl
  | n :: ns => ⟨_, _, rfl, rfl, reps_ints ns⟩
open Classical in
theorem ent_law {K : Kw} {M : Mo} {m : List D → R D} {H : Hp} {a : Addr} {ns : List Int} (h : m [.lst (ns.map D.int)] = .ok (.bl true)) (tb : ∀ a, M.tp a → H a = some (.tbl #[])) (hS : SqL K H a (ns.map V.int)) :
    spD K M 1 m [.ref a] H (fun v _ => v = .bl true) fun _ _ _ => False := by
  refine ⟨fun b => if M.tp b then none else H b, [.lst (ns.map D.int)], fun b o e => ?_, fun b t => ⟨⟨#[], tb b t, trivial, fun q _ pos cv hc => by simp [codeAmong] at hc⟩, if_pos t⟩, ⟨_, _, rfl, ⟨a, _, rfl, ?_, reps_ints ns⟩, rfl⟩, rfl, ?_⟩
  · dsimp only at e
    split at e
    · cases e
    · exact e
  · rcases hS with (e | ⟨o, e⟩) | e
    · exact .inl (.inl (by dsimp only; rw [if_neg (fun t => by rw [tb a t] at e; cases e)]; exact e))
    · exact .inl (.inr ⟨o, by dsimp only; rw [if_neg (fun t => by rw [tb a t] at e; cases e)]; exact e⟩)
    · exact .inr e
  · rw [h]
    intro G' H' t v rv
    exact rv
/-- the tables at the entry -/
theorem tabs_D {K : PySem.W.Frag} {tf : List He.Defn} {H : Hp} (ht : ∀ q ∈ tf, H (He.cT K q).2 = some (.tbl #[])) : ∀ a, (MoD K tf).tp a → H a = some (.tbl #[]) := fun a h => by
  rcases h with ⟨q, hq, e⟩ | ⟨q, h⟩
  · exact e ▸ ht q hq
  · exact False.elim h
end Dl

set_option Elab.async false
set_option linter.all false
set_option maxRecDepth 100000
set_option maxHeartbeats 2000000
/-! Instances: made by __init__, their attributes read. -/
namespace Dl
open PySem PySem.Spec PyProof.Rows L2

/-! ### x.f -/
def fldD (c : String) (f : Str) : D → Option D
  | .obj c' fl xs => if c' = c then ((fl.map Str.ofString).zip xs).lookup f else none
  | _ => none
theorem zip_look {K : Kw} {G : Hp} : ∀ {fl : List Str} {xs : List D} {vs : List V} {f : Str} {d : D}, Reps K G xs vs → (fl.zip xs).lookup f = some d → ∃ v, (fl.zip vs).lookup f = some v ∧ Rep K G d v
  | [], _, _, _, _, _, h => by simp at h
  | g :: fl, [], _, _, _, _, h => by simp at h
  | g :: fl, x :: xs, _, f, d, ⟨v, r, e, h1, h2⟩, h => by
    subst e
    rw [List.zip_cons_cons, List.lookup_cons] at h ⊢
    cases z : f == g with
    | true => rw [z] at h; cases h; exact ⟨v, rfl, h1⟩
    | false => rw [z] at h; exact zip_look h2 h
section
variable {X : Cx} {M : Mo} {W : WX} {pos : Pos} {e : Expr} {f : Ev}
theorem de_fld {c : String} {a : Str} (hc : Cls X.K (He.ga X.K (Str.ofString c))) (hn : NoAttr X.K (He.ga X.K (Str.ofString c)) a) (he : PE X e (tE (kwX X) M W f)) (hb : attributeBase e a X.env (eval e X.env) = eval e X.env := by rfl) :
    PE X (.Attribute e a pos) (tE (kwX X) M W (e1 (fldD c a) f)) := by
  refine PE.imp (pe_fld he hb) fun σ H Q ⟨Fo, G, δ, er, q⟩ => ⟨Fo, G, δ, er, ?_⟩
  refine PX.mono (PX.bind q) fun G1 H1 d t1 q1 v rv => ?_
  have q2 := PX.qx q1
  cases d with
  | obj c' fl xs =>
    obtain ⟨p, dx, vs, ev, hp, rvs⟩ := rv
    have q3 : QX (kwX X) M.tp G1 H1 (if c' = c then ((fl.map Str.ofString).zip xs).lookup a else none) Q := q2
    by_cases hcc : c' = c
    · subst hcc
      rw [if_pos rfl] at q3
      cases hl : ((fl.map Str.ofString).zip xs).lookup a with
      | none => rw [hl] at q3; exact False.elim q3
      | some z =>
        rw [hl] at q3
        obtain ⟨u, hu, ru⟩ := zip_look rvs hl
        exact ⟨p, _, dx, _, u, ev, t1.2.1 _ _ hp, hc, hn, hu, q3.at t1.2.1 ru⟩
    · rw [if_neg hcc] at q3; exact False.elim q3
  | _ => exact False.elim q2
end

/-! ### self.f = e -/
def sAtt (c : String) (i : Nat) (a : String) (f : Ev) : Sv := fun δ => bindF (f δ) δ fun d => match δ[i]? with
  | some (.own (.ins c' p fl xs)) => if c' = c ∧ Str.ofString a ∉ fl.map Str.ofString ∧ fl.length < 100 ∧ fl.length = xs.length then .next (δ.set i (.own (.ins c' p (fl ++ [a]) (xs ++ [d])))) else .bad
  | _ => .bad
theorem putF_new {f : Str} {v : V} : ∀ {fl : List Str} {vs : List V}, f ∉ fl → fl.length = vs.length → putF f v (fl.zip vs) = (fl ++ [f]).zip (vs ++ [v])
  | [], [], _, _ => rfl
  | [], _ :: _, _, h => by simp at h
  | _ :: _, [], _, h => by simp at h
  | g :: fl, x :: vs, h, hl => by
    have h1 : g ≠ f := fun z => h (z ▸ List.mem_cons_self)
    rw [List.zip_cons_cons, putF, if_neg h1, putF_new (fun z => h (List.mem_cons_of_mem _ z)) (by simpa using hl)]
    rfl
section
variable {X : Cx} {M : Mo} {W : WX} {pos : Pos} {e : Expr} {f : Ev}
theorem ds_fld (i : Nat) {c : String} {x : Str} {a : String} {pn pa : Pos} (hcl : Cls X.K (He.ga X.K (Str.ofString c))) (hno : NoAttr X.K (He.ga X.K (Str.ofString c)) (Str.ofString a)) (he : PE X e (tE (kwX X) M W f)) (hN : X.N[i]? = some x := by rfl)
    (hv : Vis X.env.scope x := by first | exact Or.inl rfl | exact Or.inr (Or.inl rfl) | exact Or.inr (Or.inr rfl)) (hd : (x == ("__debug__" : Str)) = false := by decide) (hcd : (x == ("__classdict__" : Str)) = false := by decide)
    (hs : swapsWith e (some (.Attribute (.Name x pn) (Str.ofString a) pa)) pos.line X.env = pure false := by rfl) :
    PS X (.Assign [.Attribute (.Name x pn) (Str.ofString a) pa] e pos) (tS (kwX X) M W (sAtt c i a f)) := by
  refine PS.imp (ps_fld (pe_var hN hv hd hcd) he hs) fun D σ H ⟨Fo, G, δ, er, q⟩ => ⟨Fo, G, δ, er, ?_⟩
  refine PX.mono (PF.bind er q) fun G1 H1 d t1 ⟨er1, q1⟩ v rv => ?_
  cases z : δ[i]? with
  | none => rw [z] at q1; exact False.elim q1
  | some sl =>
    rw [z] at q1
    cases sl with
    | no => exact False.elim q1
    | val _ => exact False.elim q1
    | own o =>
      cases o with
      | ins c' p0 fl0 xs0 =>
        obtain ⟨p, h1, q0, vs, lo, h2, h3, h4, h5⟩ := er1.own1 i _ z rfl
        replace q1 : PF (kwX X) M W Fo G1 (if c' = c ∧ Str.ofString a ∉ fl0.map Str.ofString ∧ fl0.length < 100 ∧ fl0.length = xs0.length then .next (δ.set i (.own (.ins c' p0 (fl0 ++ [a]) (xs0 ++ [d])))) else .bad) D := q1
        by_cases hh : c' = c ∧ Str.ofString a ∉ fl0.map Str.ofString ∧ fl0.length < 100 ∧ fl0.length = xs0.length
        · rw [if_pos hh] at q1
          obtain ⟨rfl, n1, n2, n3⟩ := hh
          replace h4 : H1 p = some (.ins (He.ga X.K (Str.ofString c')) q0.1 ((fl0.map Str.ofString).zip vs)) := h4
          replace h5 : Reps (kwX X) G1 xs0 vs := h5
          have hl : (fl0.map Str.ofString).length = vs.length := by rw [List.length_map, n3, h5.length]
          refine ⟨.ref p, h1, p, _, q0.1, _, rfl, h4, hcl, hno, by rw [List.length_zip, ← hl, Nat.min_self, List.length_map]; omega, ?_⟩
          have er2 := er1.chgOwn (q := q0) (u := .ins c' p0 (fl0 ++ [a]) (xs0 ++ [d])) i z h1 (h5.append (.one rv)) lo
          rw [putF_new n1 hl]
          have e2 : (O.ins c' p0 (fl0 ++ [a]) (xs0 ++ [d])).ho (kwX X) q0 (vs ++ [v]) = .ins (He.ga X.K (Str.ofString c')) q0.1 ((fl0.map Str.ofString ++ [Str.ofString a]).zip (vs ++ [v])) := by
            show HO.ins _ _ (((fl0 ++ [a]).map Str.ofString).zip (vs ++ [v])) = _
            rw [List.map_append]; rfl
          rw [e2] at er2
          exact q1 G1 _ _ .refl er2
        · rw [if_neg hh] at q1; exact False.elim q1
      | lst _ => exact False.elim q1
      | lol _ => exact False.elim q1
      | dk _ _ => exact False.elim q1
      | dt _ _ => exact False.elim q1
end

/-! ### C(..) -/
section
variable {X : Cx} {CX : CXT} {k : Nat} {f C : Addr} {fd : FuncData} {ps : List Str} {sp : Sp} {E : XK}
theorem run_makeS {pins : List (Addr × Obj)} {σ : L2.St} {H : Hp} {s : Shared} {Q : VK} {us : List Value} {vs : List V} (M : Mk X.K C f) (F : FnOk X.prog X.w X.K X.mg X.base CX k f fd ps sp) (hr : Room (k + 1) X.A) (hb : Binds X.K fd ps [])
    (hx : PassesAt CX X σ E) (I : Inv X pins σ H s) (r : Vals vs us)
    (h : ∀ x dx, H x = none → H dx = none → dx ≠ x → sp (.ref x :: vs) (upd (upd H dx (.own x)) x (.ins C dx [])) (fun v H2 => v = .non ∧ Q (.ref x) H2) E) :
    wpAny (model X.prog X.w) X.A (call (.ref C) us) (EP X pins σ Q) X.xe s := by
  have hq := h (s.heap.objs.size + 1) s.heap.objs.size (I.hok.fresh (Nat.le_succ _)) (I.hok.fresh (Nat.le_refl _)) (Nat.ne_of_lt (Nat.lt_succ_self _))
  have I2 := Inv.made (C := C) I
  have r2 : Vals (V.ref (s.heap.objs.size + 1) :: vs) (Value.ref (s.heap.objs.size + 1) :: us) := .cons rfl r
  have hl : (Value.ref (s.heap.objs.size + 1) :: us ++ []).length = ps.length := by
    have e := r2.length
    rw [F.len _ _ _ _ hq] at e
    rw [List.append_nil]
    exact e.symm
  refine wpAny_call (make_map (f := f) I.kIn M.makes M.init (beq_iff_eq.mp M.fn) (codeAny_mono (F.run _ X.stack _ _ ⟨Value.ref (s.heap.objs.size + 1) :: us, []⟩ (Value.ref (s.heap.objs.size + 1) :: us) _ _ E (hr.make C us [])
    (I2.env0.make C us []) (by have := hb _ (Value.ref (s.heap.objs.size + 1) :: us) I2.kIn hl; rw [List.append_nil] at this; exact this) r2 hq) fun r s' hq' => ?_))
  cases r with
  | error e => exact hx pins _ _ e s' I2 hq'
  | ok fl =>
    cases fl with
    | ret u =>
      obtain ⟨v, H', I3, rv, ev, q3⟩ := I2.after hq'
      subst ev
      exact ⟨rv, ⟨V.ref (s.heap.objs.size + 1), H', I3, rfl, q3⟩⟩
    | next => exact False.elim hq'
    | brk => exact False.elim hq'
    | cont => exact False.elim hq'
end
/-- what stays, but for the instance in the making at x -/
def TrX (tp : Tb) (x : Addr) (G H G' H' : Hp) : Prop := Le G G' ∧ Le G' H' ∧ (∀ a o, G a = none → ¬ tp a → a ≠ x → H a = some o → H' a = some o ∧ G' a = none) ∧ ∀ a, tp a → G a = none → TabD tp G H a → TabD tp G' H' a ∧ G' a = none
/-- the promise of an __init__: the instance as data -/
def spN (K : Kw) (M : Mo) (c : String) (n : Nat) (m : List D → R D) : Sp := fun vs H Q E => ∃ (G : Hp) (ds : List D) (x dx : Addr) (ws : List V), vs = .ref x :: ws ∧ Le G H ∧ G x = none ∧ ¬ M.tp x ∧ H x = some (.ins (He.ga K (Str.ofString c)) dx []) ∧ (∀ a, M.tp a → TabD M.tp G H a ∧ G a = none) ∧ Reps K G ds ws ∧ ds.length = n ∧ match m ds with
  | .ok d => ∀ G' H' q us fl xs, d = .obj c fl xs → TrX M.tp x G H G' H' → G' x = none → H' x = some (.ins (He.ga K (Str.ofString c)) q ((fl.map Str.ofString).zip us)) → Reps K G' xs us → Q .non H'
  | .exc e => ∀ G' H', TrX M.tp x G H G' H' → E (M.ec e) none H'
  | .bad => False
/-- the class c makes its instances by m, at the level k -/
def New (P : Program) (w : World) (K : PySem.W.Frag) (mg : Str → Option Value) (base : Heap) (M : Mo) (k : Nat) (c : String) (n : Nat) (m : List D → R D) : Prop :=
  ∃ (fd : FuncData) (ps : List Str), FnOk P w K mg base (L2.CX P w) k (He.ma K (He.ga K (Str.ofString c)) "__init__") fd ps (spN ⟨K, P, w⟩ M c n m) ∧ Binds K fd ps [] ∧ Mk K (He.ga K (Str.ofString c)) (He.ma K (He.ga K (Str.ofString c)) "__init__") ∧ mg (Str.ofString c) = some (.ref (He.ga K (Str.ofString c)))
section
variable {X : Cx} {M : Mo} {W : WX} {pos : Pos} {e : Expr} {es : List Expr} {fs : Env → R (List D)}
theorem de_new {k n : Nat} {m : List D → R D} {c : String} {p : Pos} (C : New X.prog X.w X.K X.mg X.base M k c n m) (hr : Room (k + 1) X.A) (tk : Takes X W) (hg : Gl X (Str.ofString c)) (ha : PA X (e :: es) (tA (kwX X) M W fs)) (hn : ∀ δ ds, fs δ = .ok ds → ds.length = n)
    (hdb : (Str.ofString c == ("__debug__" : Str)) = false := by decide) (he : starEach (e :: es) X.env = (false, eval e X.env) :: starEach es X.env := by rfl) (hpl : (backTo pos (starEach es X.env)).any (·.1) = false := by rfl) :
    PE X (.Call (.Name (Str.ofString c) p) (e :: es) [] pos) (tE (kwX X) M W (eCall m fs)) := by
  obtain ⟨fd, ps, Fn, hb, hk, hm⟩ := C
  refine ⟨fun pins s σ H Q I ⟨Fo, G, δ, er, q⟩ => ?_⟩
  refine wpAny_Call_Name_kw (ld_glob I hg hm ?_ hdb)
  -- the arguments, with what is known of them
  have q0 : tA (kwX X) M W fs σ H fun vs H1 => ∃ G1 ds, ds.length = n ∧ Tr M.tp G H G1 H1 ∧ Reps (kwX X) G1 ds vs ∧ PX M W σ G1 H1 (m ds) fun G' H' d => ∀ v, Rep (kwX X) G' d v → Q v H' := by
    refine ⟨Fo, G, δ, er, ?_⟩
    have q' := PX.bind q
    cases z : fs δ with
    | bad => rw [z] at q'; exact False.elim q'
    | exc c => rw [z] at q'; exact q'
    | ok ds =>
      rw [z] at q'
      intro G1 H1 t1 vs rvs
      exact ⟨G1, ds, hn δ ds z, t1, rvs, q' G1 H1 t1⟩
  refine PySem.W.callWith_K (h₀ := X.base) I.ok.mod.kin hk.kp (thn (ha.run pos pins s σ H _ I q0) fun us s1 ⟨vs, H1, I1, r, G1, ds, hl, t1, rvs, q1⟩ => ⟨I1.kIn, ?_⟩) he hpl
  have er1 := er.tr t1
  refine run_makeS hk Fn hr hb (E := WE W σ) (passAt tk σ) I1 r fun x dx nx ndx ndx' => ?_
  have gx : G1 x = none := none_of_le er1.gh nx
  have gdx : G1 dx = none := none_of_le er1.gh ndx
  have tx : ¬ M.tp x := fun t => by
    obtain ⟨⟨ps', z, _⟩, _⟩ := er1.tb x t
    rw [nx] at z; cases z
  have new : ∀ a o, H1 a = some o → upd (upd H1 dx (.own x)) x (.ins (He.ga X.K (Str.ofString c)) dx []) a = some o := fun a o z => by
    rw [upd_ne (ne_of_none z nx), upd_ne (ne_of_none z ndx)]; exact z
  have tt : ∀ a, M.tp a → TabD M.tp G1 (upd (upd H1 dx (.own x)) x (.ins (He.ga X.K (Str.ofString c)) dx [])) a ∧ G1 a = none := fun a t => by
    obtain ⟨⟨ps', z, z2⟩, z3⟩ := er1.tb a t
    exact ⟨⟨ps', new a _ z, z2⟩, z3⟩
  refine ⟨G1, ds, x, dx, vs, rfl, fun a o z => new a o (er1.gh a o z), gx, tx, upd_same, tt, rvs, hl, ?_⟩
  cases hm2 : m ds with
  | bad => rw [hm2] at q1; exact False.elim q1
  | exc ex =>
    rw [hm2] at q1
    intro G' H' t
    exact q1 G' H' ⟨t.1, t.2.1, fun a o g nt z => t.2.2.1 a o g nt (ne_of_none z nx) (new a o z), fun a ta g tg => t.2.2.2 a ta g (tt a ta).1⟩
  | ok d =>
    rw [hm2] at q1
    intro G' H' q us fl xs ed t gx' hx' rus
    refine ⟨rfl, ?_⟩
    have lg : Le G' (upd G' x (.ins (He.ga X.K (Str.ofString c)) q ((fl.map Str.ofString).zip us))) := Le.new gx'
    refine q1 (upd G' x (.ins (He.ga X.K (Str.ofString c)) q ((fl.map Str.ofString).zip us))) H' ⟨t.1.trans lg, fun a o z => ?_, fun a o g nt z => ?_, fun a ta g tg => ?_⟩ _ ?_
    · by_cases y : a = x
      · subst y; rw [upd_same] at z; cases z; exact hx'
      · rw [upd_ne y] at z; exact t.2.1 a o z
    · obtain ⟨z1, z2⟩ := t.2.2.1 a o g nt (ne_of_none z nx) (new a o z)
      exact ⟨z1, by rw [upd_ne (ne_of_none z nx)]; exact z2⟩
    · obtain ⟨z1, z2⟩ := t.2.2.2 a ta g (tt a ta).1
      exact ⟨z1.mono lg, by rw [upd_ne (fun y : a = x => tx (y ▸ ta))]; exact z2⟩
    · subst ed
      exact ⟨x, q, us, rfl, upd_same, Reps.mono lg _ _ rus⟩
end

/-! ### __init__ by its body -/
/-- the environment at the entry: the instance without attributes, the arguments -/
def initN (n : Nat) (c : String) (x : Addr) (ds : List D) : Env := .own (.ins c x [] []) :: (ds.map S.val ++ List.replicate (n - (ds.length + 1)) .no)
section
variable {P : Program} {w : World} {K : PySem.W.Frag} {mg : Str → Option Value} {base : Heap} {M : Mo}
end
section
variable {K : Kw} {M : Mo}
open Classical in
theorem er_startN {N : List Str} {G H : Hp} {ds : List D} {ws : List V} {c : String} {x dx : Addr} (l : Le G H) (tb : ∀ a, M.tp a → TabD M.tp G H a ∧ G a = none) (gx : G x = none) (tx : ¬ M.tp x) (hx : H x = some (.ins (He.ga K (Str.ofString c)) dx [])) (r : Reps K G ds ws) :
    ∃ Fo, ER K M.tp Fo G H (initN N.length c x ds) (L2.start N (.ref x :: ws)) ∧ ∀ a o, G a = none → ¬ M.tp a → a ≠ x → H a = some o → Fo a = some o := by
  have own0 : ∀ (i : Nat) (o : O), (initN N.length c x ds)[i]? = some (.own o) → i = 0 ∧ o = .ins c x [] [] := fun i o h => by
    unfold initN at h
    cases i with
    | zero => exact ⟨rfl, by simpa using h.symm⟩
    | succ i =>
      rw [List.getElem?_cons_succ] at h
      by_cases z : i < ds.length
      · rw [List.getElem?_append_left (by rw [List.length_map]; exact z), List.getElem?_map, List.getElem?_eq_getElem z] at h
        cases h
      · rw [List.getElem?_append_right (by rw [List.length_map]; omega), List.getElem?_replicate] at h
        split at h <;> cases h
  refine ⟨fun a => if G a = none ∧ ¬ M.tp a ∧ a ≠ x then H a else none, ⟨l, fun a o h => ?_, fun a o h => ?_, tb, ?_, fun i d h => ?_, fun _ => [x], fun i o h => ?_, fun i j o u h g ne => ?_⟩, fun a o g t n h => ?_⟩
  · split at h
    · exact h
    · cases h
  · split at h
    · rename_i z; exact ⟨z.1, z.2.1⟩
    · cases h
  · unfold initN L2.start
    rw [List.length_cons, List.length_append, List.length_append, List.length_map, List.length_map, List.length_replicate, List.length_replicate, List.length_cons, r.length]
    omega
  · unfold initN at h
    cases i with
    | zero => simp at h
    | succ i =>
      rw [List.getElem?_cons_succ] at h
      by_cases z : i < ds.length
      · rw [List.getElem?_append_left (by rw [List.length_map]; exact z), List.getElem?_map, List.getElem?_eq_getElem z] at h
        cases h
        obtain ⟨v, ev, rv⟩ := r.get (List.getElem?_eq_getElem z)
        refine ⟨v, ?_, rv⟩
        unfold L2.start
        rw [List.map_cons, List.cons_append, List.getElem?_cons_succ, List.getElem?_append_left (by rw [List.length_map, r.length]; exact z), List.getElem?_map, ev]
        rfl
      · rw [List.getElem?_append_right (by rw [List.length_map]; omega), List.getElem?_replicate] at h
        split at h <;> cases h
  · obtain ⟨rfl, rfl⟩ := own0 i o h
    exact ⟨x, rfl, fun a ha => (by rw [List.mem_singleton] at ha; subst ha; exact ⟨gx, by dsimp only; rw [if_neg (fun z => z.2.2 rfl)]⟩), .inl ⟨(dx, noQ.2), [], rfl, rfl, rfl, hx, rfl⟩⟩
  · exact absurd ((own0 i o h).1.trans (own0 j u g).1.symm) ne
  · dsimp only
    rw [if_pos ⟨g, t, n⟩]; exact h
theorem trX_end {Fo G H G' H' : Hp} {δ : Env} {σ : L2.St} {x : Addr} (fo : ∀ a o, G a = none → ¬ M.tp a → a ≠ x → H a = some o → Fo a = some o) (l : Le G G') (e : ER K M.tp Fo G' H' δ σ) : TrX M.tp x G H G' H' :=
  ⟨l, e.gh, fun a o g t n h => ⟨e.fh a o (fo a o g t n h), (e.fg a o (fo a o g t n h)).1⟩, fun a t _ _ => e.tb a t⟩
end
section
variable {P : Program} {w : World} {K : PySem.W.Frag} {mg : Str → Option Value} {base : Heap} {M : Mo}
theorem new_mk {c : String} {st : Stmt} {N ps : List Str} {k n : Nat} {B : Sv} {m : List D → R D} {kws : List (Str × V)} {qual : Str} (F : ∃ fd, FunD K "__init__" qual (defArgs st) (defBody st) (defScope st) [] kws (He.fAd K (Str.ofString c, some "__init__")) fd)
    (g : mg (Str.ofString c) = some (.ref (He.ga K (Str.ofString c)))) (mk : Mk K (He.ga K (Str.ofString c)) (He.ma K (He.ga K (Str.ofString c)) "__init__")) (S : FnScope N ps (defScope st)) (hn : ps.length = n + 1)
    (hbind : ∀ (kV doc pm : Value) (an : Option Addr) (cdv ct : Value) (us : List Value), us.length = ps.length → bindArgs (PySem.W.fnOf "__init__" qual (defArgs st) (defBody st) (defScope st) .none kV doc pm an cdv ct) ⟨us, []⟩ = pure (ps.zip us))
    (hm : ∀ (x : Addr) (ds : List D), ds.length = n → match m ds with
      | .ok d => ∃ δ' fl xs, B (initN N.length c x ds) = .next δ' ∧ δ'[0]? = some (.own (.ins c x fl xs)) ∧ d = .obj c fl xs
      | .exc e => ∃ δ', B (initN N.length c x ds) = .exc e δ'
      | .bad => True)
    (hb : ∀ (A : Around) (outer : List PySem.Env) (s : Shared) (H : Hp) (E : XK), Room k (A.deeper (envOfC qual (defScope st) s.heap.objs.size (He.fAd K (Str.ofString c, some "__init__")) (.ref (He.codeOf K (Str.ofString c, some "__init__"))))) →
      PSs (cxOf (L2.CX P w) P w K mg base N qual (defScope st) (He.fAd K (Str.ofString c, some "__init__")) (.ref (He.codeOf K (Str.ofString c, some "__init__"))) A outer s H E) (defBody st) (tS ⟨K, P, w⟩ M (fun cls d _ H => E cls d H) B)) :
    New P w K mg base M (k + 1) c n m := by
  obtain ⟨fd, F⟩ := F
  have hbn := F.bindsN hbind
  obtain ⟨oc, od, dV, kV, doc, pm, an, cdv, ct, osl, rfl, lk, hcd, _, _⟩ := F.ex
  obtain ⟨cc, rfl⟩ := He.codeIn_ref hcd
  have ec := He.codeOf_eq lk (c := cc) rfl
  rw [ec] at hb
  refine ⟨_, ps, fn_of lk hcd S (fun vs H Q E ⟨G, ds, x, dx, ws, ev, _, _, _, _, _, r, hl, _⟩ => by rw [ev, List.length_cons, r.length, hl, hn]) fun A outer s H vs Q E hr ⟨G, ds, x, dx, ws, ev, l, gx, tx, hx, tb, r, hl, q⟩ => ?_, hbn, mk, g⟩
  refine ⟨_, hb A outer s H E hr, ?_⟩
  subst ev
  obtain ⟨Fo, er, fo⟩ := er_startN (N := N) (c := c) l tb gx tx hx r
  refine ⟨Fo, G, _, er, ?_⟩
  have hmx := hm x ds hl
  cases z : m ds with
  | bad => rw [z] at q; exact False.elim q
  | exc e =>
    rw [z] at q hmx
    obtain ⟨δ', hB⟩ := hmx
    rw [hB]
    exact fun G' σ' H' l' e' => q G' H' (trX_end fo l' e')
  | ok d =>
    rw [z] at q hmx
    obtain ⟨δ', fl, xs, hB, h0, hd⟩ := hmx
    rw [hB]
    intro G' σ' H' l' e'
    obtain ⟨p, h1, q0, us, lo, h2, h3, h4, h5⟩ := e'.own1 0 _ h0 rfl
    have lo : p = x := lo
    subst lo
    exact q G' H' q0.1 us fl xs hd (trX_end fo l' e') h2 h4 h5
end
end Dl

set_option Elab.async false
set_option linter.all false
set_option maxRecDepth 100000
set_option maxHeartbeats 2000000
/-! Methods of lists, tuples, texts; str, int of texts; f-strings; -x; is True. -/
namespace Dl
open PySem PySem.Spec PyProof.Rows L2

/-! ### o.m(..) -/
def eM (ok : D → Bool) (g : D → List D → Option D) (f : Ev) (fs : Env → R (List D)) : Ev := fun δ => f δ >>= fun x => if ok x then fs δ >>= fun ys => ofO (g x ys) else .bad
def eM0 (ok : D → Bool) (g : D → Option D) (f : Ev) : Ev := fun δ => f δ >>= fun x => if ok x then ofO (g x) else .bad
def MethS (K : Kw) (r : V → List V → Hp → VK → Prop) (ok : D → Bool) (g : D → List D → Option D) : Prop :=
  ∀ (tp : Tb) (G H : Hp) (d : D) (ds : List D) (v : V) (vs : List V) (Q : VK), ok d = true → Le G H → Rep K G d v → Reps K G ds vs → QX K tp G H (g d ds) Q → r v vs H Q
def OkT (K : Kw) (T : String) (ok : D → Bool) : Prop := ∀ (G H : Hp) (d : D) (v : V), ok d = true → Le G H → Rep K G d v → tyW K T v H
section
variable {X : Cx} {M : Mo} {W : WX} {o e : Expr} {es : List Expr} {f : Ev} {fs : Env → R (List D)} {name : Str} {apos cpos : Pos} {T id : String} {r : V → List V → Hp → VK → Prop} {ok ok' : D → Bool} {g : D → List D → Option D}
theorem de_meth (pa : PlainAttrs T) (slot : Slot T name id) (hty : typeOf (.builtin id) = pure (.type "method_descriptor")) (hm : MtR X id r) (hok : OkT (kwX X) T ok) (hg : MethS (kwX X) r ok g) (ho : PE X o (tE (kwX X) M W f)) (ha : PA X (e :: es) (tA (kwX X) M W fs))
    (hbase : attributeBase o name X.env (eval o X.env) = eval o X.env := by rfl)
    (hfew : ((backTo cpos (starEach (e :: es) X.env)).all (fun x => !x.1) && (backToKw cpos (keywordEach [] X.env)).all (fun x => x.1.isSome)
      && decide ((e :: es).length + ([] : List Keyword).length + (if ([] : List Keyword).isEmpty then 0 else 1) < 30)) = true := by rfl)
    (hline : (apos.endLine == cpos.line) = true := by rfl) (hs : starEach (e :: es) X.env = (false, eval e X.env) :: starEach es X.env := by rfl) (hplain : (backTo cpos (starEach es X.env)).any (·.1) = false := by rfl) :
    PE X (.Call (.Attribute o name apos) (e :: es) [] cpos) (tE (kwX X) M W (eM ok g f fs)) := by
  refine PE.imp (pe_bw pa slot hty hm ho ha hbase hfew hline hs hplain) fun σ H Q ⟨Fo, G, δ, er, q⟩ => ⟨Fo, G, δ, er, ?_⟩
  refine PX.mono (PX.bind q) fun G1 H1 d t1 q1 v rv => ?_
  cases hk : ok d with
  | false => rw [hk] at q1; exact False.elim q1
  | true =>
    rw [hk] at q1
    refine ⟨hok G1 H1 d v hk t1.2.1 rv, Fo, G1, δ, er.tr t1, PX.mono (PX.bind q1) fun G2 H2 ds t2 q2 vs rvs => ?_⟩
    exact hg M.tp G2 H2 d ds v vs Q hk t2.2.1 (Rep.mono t2.1 _ _ rv) rvs (PX.qx q2)
/-- of two types -/
theorem de_meth2 {c : Expr} (h1 : PE X c (tE (kwX X) M W (eM ok g f fs))) (h2 : PE X c (tE (kwX X) M W (eM ok' g f fs))) : PE X c (tE (kwX X) M W (eM (fun d => ok d || ok' d) g f fs)) := by
  refine ⟨fun pins s σ H Q I ⟨Fo, G, δ, er, q⟩ => ?_⟩
  cases z : f δ with
  | bad => unfold eM at q; rw [z] at q; exact False.elim q
  | exc c => exact h1.run pins s σ H Q I ⟨Fo, G, δ, er, by unfold eM at q ⊢; rw [z] at q ⊢; exact q⟩
  | ok x =>
    unfold eM at q
    rw [z] at q
    replace q : PX M W σ G H (if (ok x || ok' x) = true then fs δ >>= fun ys => ofO (g x ys) else .bad) fun G' H' d => ∀ v, Rep (kwX X) G' d v → Q v H' := q
    cases k1 : ok x with
    | true =>
      refine h1.run pins s σ H Q I ⟨Fo, G, δ, er, ?_⟩
      unfold eM
      rw [z]
      show PX M W σ G H (if ok x = true then fs δ >>= fun ys => ofO (g x ys) else .bad) _
      rw [k1] at q ⊢
      exact q
    | false =>
      refine h2.run pins s σ H Q I ⟨Fo, G, δ, er, ?_⟩
      unfold eM
      rw [z]
      show PX M W σ G H (if ok' x = true then fs δ >>= fun ys => ofO (g x ys) else .bad) _
      rw [k1, Bool.false_or] at q
      exact q
end
def isT : D → Bool
  | .tup _ => true
  | _ => false
def isL : D → Bool
  | .lst _ => true
  | _ => false
def isS : D → Bool
  | .str _ => true
  | _ => false
def isSq (d : D) : Bool := isT d || isL d
section
variable {K : Kw}
theorem okT : OkT K "tuple" isT := fun G H d v h l r => by
  cases d with
  | tup xs =>
    obtain ⟨a, vs, e, s, _⟩ := r
    exact .inr ⟨a, vs, e, rfl, l.sqU s⟩
  | _ => cases h
theorem okL : OkT K "list" isL := fun G H d v h l r => by
  cases d with
  | lst xs =>
    obtain ⟨a, vs, e, s, _⟩ := r
    subst e
    exact .inl (.inl ⟨rfl, vs, l.sqL s⟩)
  | _ => cases h
end
/-- x.index(y), x a list or a tuple -/
def idxD : D → List D → Option D
  | .tup xs, [y] => if sh (.tup xs) && sh y then (xs.findIdx? fun z => eqv z y).map fun j => .int (j : Nat) else none
  | .lst xs, [y] => if sh (.lst xs) && sh y then (xs.findIdx? fun z => eqv z y).map fun j => .int (j : Nat) else none
  | _, _ => none
def cntD : D → List D → Option D
  | .tup xs, [y] => if sh (.tup xs) && sh y then some (.int (xs.countP fun z => eqv z y : Nat)) else none
  | .lst xs, [y] => if sh (.lst xs) && sh y then some (.int (xs.countP fun z => eqv z y : Nat)) else none
  | _, _ => none
theorem find_py {xs : List D} {y : D} {j : Nat} (h : (xs.findIdx? fun z => eqv z y) = some j) :
    ∃ z, (D.pys xs)[j]? = some z ∧ PyData.eqv z y.py = true ∧ ∀ (m : Nat) (z' : PyData), m < j → (D.pys xs)[m]? = some z' → PyData.eqv z' y.py = false := by
  rw [D.pys_eq]
  obtain ⟨hj, h1, h2⟩ := List.findIdx?_eq_some_iff_getElem.mp h
  refine ⟨xs[j].py, by rw [List.getElem?_map, List.getElem?_eq_getElem hj]; rfl, h1, fun m z' hm e => ?_⟩
  have hm' : m < xs.length := by omega
  rw [List.getElem?_map, List.getElem?_eq_getElem hm'] at e
  cases e
  have := h2 m hm
  simpa [eqv] using this
theorem count_py {xs : List D} {y : D} : (D.pys xs).countP (fun z => PyData.eqv z y.py) = xs.countP fun z => eqv z y := by
  rw [D.pys_eq, List.countP_map]; rfl
section
variable {X : Cx} {K : Kw}
theorem ms_tindex : MethS K (rTIndex K) isT idxD := fun tp G H d ds v vs Q hk l rv rvs q => by
  cases d with
  | tup xs =>
    cases ds with
    | nil => exact False.elim q
    | cons y t =>
      cases t with
      | cons _ _ => exact False.elim q
      | nil =>
        obtain ⟨u, ur, e, ru, er⟩ := rvs
        cases er
        replace q : QX K tp G H (if (sh (.tup xs) && sh y) = true then (xs.findIdx? fun z => eqv z y).map fun j => .int (j : Nat) else none) Q := q
        split at q
        · rename_i hs
          rw [Bool.and_eq_true] at hs
          cases hf : xs.findIdx? fun z => eqv z y with
          | none => rw [hf] at q; exact False.elim q
          | some j =>
            rw [hf] at q
            obtain ⟨z, z1, z2, z3⟩ := find_py hf
            have r1 := Rep.sh hs.1 (Rep.mono l _ _ rv)
            obtain ⟨a, ws, ev, _⟩ := rv
            subst ev
            exact ⟨a, u, y.py, D.pys xs, j, z, rfl, e, r1, Rep.sh hs.2 (Rep.mono l _ _ ru), hs.1, hs.2, z1, z2, z3, q.at l rfl⟩
        · exact False.elim q
  | _ => cases hk
theorem ms_index : MethS K (rIndexD K) isL idxD := fun tp G H d ds v vs Q hk l rv rvs q => by
  cases d with
  | lst xs =>
    cases ds with
    | nil => exact False.elim q
    | cons y t =>
      cases t with
      | cons _ _ => exact False.elim q
      | nil =>
        obtain ⟨u, ur, e, ru, er⟩ := rvs
        cases er
        replace q : QX K tp G H (if (sh (.lst xs) && sh y) = true then (xs.findIdx? fun z => eqv z y).map fun j => .int (j : Nat) else none) Q := q
        split at q
        · rename_i hs
          rw [Bool.and_eq_true] at hs
          cases hf : xs.findIdx? fun z => eqv z y with
          | none => rw [hf] at q; exact False.elim q
          | some j =>
            rw [hf] at q
            obtain ⟨z, z1, z2, z3⟩ := find_py hf
            have r1 := Rep.sh hs.1 (Rep.mono l _ _ rv)
            obtain ⟨a, ws, ev, _⟩ := rv
            subst ev
            exact ⟨a, u, y.py, D.pys xs, j, z, rfl, e, r1, Rep.sh hs.2 (Rep.mono l _ _ ru), hs.1, hs.2, z1, z2, z3, q.at l rfl⟩
        · exact False.elim q
  | _ => cases hk
theorem ms_tcount : MethS K (rTCount K) isT cntD := fun tp G H d ds v vs Q hk l rv rvs q => by
  cases d with
  | tup xs =>
    cases ds with
    | nil => exact False.elim q
    | cons y t =>
      cases t with
      | cons _ _ => exact False.elim q
      | nil =>
        obtain ⟨u, ur, e, ru, er⟩ := rvs
        cases er
        replace q : QX K tp G H (if (sh (.tup xs) && sh y) = true then some (.int (xs.countP fun z => eqv z y : Nat)) else none) Q := q
        split at q
        · rename_i hs
          rw [Bool.and_eq_true] at hs
          have r1 := Rep.sh hs.1 (Rep.mono l _ _ rv)
          obtain ⟨a, ws, ev, _⟩ := rv
          subst ev
          exact ⟨a, u, y.py, D.pys xs, rfl, e, r1, Rep.sh hs.2 (Rep.mono l _ _ ru), hs.1, hs.2, by rw [count_py]; exact q.at l rfl⟩
        · exact False.elim q
  | _ => cases hk
theorem ms_count : MethS K (rCount K) isL cntD := fun tp G H d ds v vs Q hk l rv rvs q => by
  cases d with
  | lst xs =>
    cases ds with
    | nil => exact False.elim q
    | cons y t =>
      cases t with
      | cons _ _ => exact False.elim q
      | nil =>
        obtain ⟨u, ur, e, ru, er⟩ := rvs
        cases er
        replace q : QX K tp G H (if (sh (.lst xs) && sh y) = true then some (.int (xs.countP fun z => eqv z y : Nat)) else none) Q := q
        split at q
        · rename_i hs
          rw [Bool.and_eq_true] at hs
          have r1 := Rep.sh hs.1 (Rep.mono l _ _ rv)
          obtain ⟨a, ws, ev, _⟩ := rv
          subst ev
          exact ⟨a, u, y.py, D.pys xs, rfl, e, r1, Rep.sh hs.2 (Rep.mono l _ _ ru), hs.1, hs.2, by rw [count_py]; exact q.at l rfl⟩
        · exact False.elim q
  | _ => cases hk
/-! ### arguments of one kind -/
def a1 (f : D → Option D) : List D → Option D
  | [] => none
  | y :: r => match r with
    | [] => f y
    | _ :: _ => none
def a2 (f : D → D → Option D) : List D → Option D
  | [] => none
  | y :: r => a1 (f y) r
def intO (f : Int → Option D) (d : D) : Option D := match d with
  | .int x => f x
  | _ => none
def lstO (f : List D → Option D) (d : D) : Option D := match d with
  | .lst x => f x
  | _ => none
def ifO (c : Bool) (r : Option D) : Option D := match c with
  | true => r
  | false => none
section
variable {tp : Tb} {G H : Hp} {ds : List D} {vs : List V} {Q : VK} {d : D} {v : V}
theorem a1_of {f : D → Option D} (q : QX K tp G H (a1 f ds) Q) (r : Reps K G ds vs) : ∃ y u, ds = [y] ∧ vs = [u] ∧ Rep K G y u ∧ QX K tp G H (f y) Q := by
  cases ds with
  | nil => exact False.elim q
  | cons y t =>
    cases t with
    | nil =>
      obtain ⟨u, ur, e, ru, er⟩ := r
      cases er
      exact ⟨y, u, rfl, e, ru, q⟩
    | cons _ _ => exact False.elim q
theorem a2_of {f : D → D → Option D} (q : QX K tp G H (a2 f ds) Q) (r : Reps K G ds vs) : ∃ x y t u, ds = [x, y] ∧ vs = [t, u] ∧ Rep K G x t ∧ Rep K G y u ∧ QX K tp G H (f x y) Q := by
  cases ds with
  | nil => exact False.elim q
  | cons x t =>
    obtain ⟨w, ur, e, rw_, er⟩ := r
    obtain ⟨y, u, e1, e2, ru, q⟩ := a1_of q er
    subst e1
    subst e2
    exact ⟨x, y, w, u, rfl, e, rw_, ru, q⟩
theorem intO_of {f : Int → Option D} (q : QX K tp G H (intO f d) Q) (r : Rep K G d v) : ∃ x, d = .int x ∧ v = .int x ∧ QX K tp G H (f x) Q := by
  cases d with
  | int x => exact ⟨x, rfl, r, q⟩
  | _ => exact False.elim q
theorem lstO_of {f : List D → Option D} (q : QX K tp G H (lstO f d) Q) (r : Rep K G d v) : ∃ xs a vs, d = .lst xs ∧ v = .ref a ∧ SqL K G a vs ∧ Reps K G xs vs ∧ QX K tp G H (f xs) Q := by
  cases d with
  | lst x => obtain ⟨a, vs, e, s, rs⟩ := r; exact ⟨x, a, vs, rfl, e, s, rs, q⟩
  | _ => exact False.elim q
theorem ifO_of {c : Bool} {f : Option D} (q : QX K tp G H (ifO c f) Q) : c = true ∧ QX K tp G H f Q := by
  cases c with
  | true => exact ⟨rfl, q⟩
  | false => exact False.elim q
end

/-! ### methods of texts -/
end
end Dl

set_option Elab.async false
set_option linter.all false
set_option maxRecDepth 100000
set_option maxHeartbeats 2000000
/-! Methods by name; -x; is True; f-strings; str(), int() of texts; own lists by +; x = l.pop(). -/
namespace Dl
open PySem PySem.Spec PyProof.Rows L2

/-! ### -x -/
def negD (d : D) : Option D := intO (fun i => some (.int (-i))) d
/-! ### is True, is False -/
def isBD (d e : D) : Option D := match e with
  | .bl b => some (.bl (decide (d = .bl b)))
  | _ => none
def notBD (d e : D) : Option D := match e with
  | .bl b => some (.bl (!decide (d = .bl b)))
  | _ => none
def rNotBv : R2 := fun x y H Q => ∃ b : Bool, y = .bl b ∧ Q (.bl (!decide (x = .bl b))) H
theorem plain_bl {x : V} {v : Value} {b : Bool} (r : RelV x v) (n : ∀ k, x ≠ .ty k) : plainIs v (.bool b) = true ∧ (v = .bool b ↔ x = .bl b) := by
  cases x with
  | non => cases r; exact ⟨rfl, by constructor <;> intro h <;> cases h⟩
  | bl c => cases r; exact ⟨rfl, by constructor <;> intro h <;> cases h <;> rfl⟩
  | int i => obtain ⟨t, rfl⟩ := r; exact ⟨rfl, by constructor <;> intro h <;> cases h⟩
  | str i => obtain ⟨t, rfl⟩ := r; exact ⟨rfl, by constructor <;> intro h <;> cases h⟩
  | byt i => obtain ⟨t, rfl⟩ := r; exact ⟨rfl, by constructor <;> intro h <;> cases h⟩
  | flt i => obtain ⟨t, rfl⟩ := r; exact ⟨rfl, by constructor <;> intro h <;> cases h⟩
  | ref a => cases r; exact ⟨rfl, by constructor <;> intro h <;> cases h⟩
  | ty k => exact absurd rfl (n k)
section
variable {X : Cx} {K : Kw}
theorem op_notBv : OpR X (compareOp .IsNot) (fun x y H Q => (∀ k, x ≠ .ty k) ∧ rNotBv x y H Q) := by
  intro pins s σ H x y v u Q I rx ry h
  obtain ⟨n, b, rfl, q⟩ := h
  cases (show u = Value.bool b from ry)
  obtain ⟨p, e⟩ := plain_bl (b := b) rx n
  by_cases z : x = .bl b
  · cases (e.mpr z)
    exact wpAny_isNot_self p ⟨.bl false, H, I, rfl, by simpa [z] using q⟩
  · exact wpAny_isNot_other p (fun w => z (e.mp w)) ⟨.bl true, H, I, rfl, by simpa [z] using q⟩
theorem rep_noty {G : Hp} {d : D} {v : V} (r : Rep K G d v) (k : String) : v ≠ .ty k := fun e => by
  subst e
  cases d with
  | non => cases r
  | bl _ => cases r
  | int _ => cases r
  | str _ => cases r
  | tup _ => obtain ⟨_, _, e, _⟩ := r; cases e
  | lst _ => obtain ⟨_, _, e, _⟩ := r; cases e
  | obj _ _ _ => obtain ⟨_, _, _, e, _⟩ := r; cases e
  | dk _ _ => obtain ⟨_, _, e, _⟩ := r; cases e
  | dt _ _ => obtain ⟨_, _, _, _, e, _⟩ := r; cases e
theorem rep_bl {G : Hp} {d : D} {v : V} {b : Bool} (r : Rep K G d v) : v = .bl b ↔ d = .bl b := by
  cases d with
  | non => cases r; constructor <;> intro h <;> cases h
  | bl c => cases r; constructor <;> intro h <;> cases h <;> rfl
  | int _ => cases r; constructor <;> intro h <;> cases h
  | str _ => cases r; constructor <;> intro h <;> cases h
  | tup _ => obtain ⟨_, _, e, _⟩ := r; subst e; constructor <;> intro h <;> cases h
  | lst _ => obtain ⟨_, _, e, _⟩ := r; subst e; constructor <;> intro h <;> cases h
  | obj _ _ _ => obtain ⟨_, _, _, e, _⟩ := r; subst e; constructor <;> intro h <;> cases h
  | dk _ _ => obtain ⟨_, _, e, _⟩ := r; subst e; constructor <;> intro h <;> cases h
  | dt _ _ => obtain ⟨_, _, _, _, e, _⟩ := r; subst e; constructor <;> intro h <;> cases h
theorem os_notB : OpS K (fun x y H Q => (∀ k, x ≠ .ty k) ∧ rNotBv x y H Q) notBD := fun tp G H d e v w Q l rv rw q => by
  cases e with
  | bl b =>
    cases rw
    have z : decide (v = .bl b) = decide (d = .bl b) := decide_eq_decide.mpr (rep_bl rv)
    exact ⟨rep_noty rv, b, rfl, by rw [z]; exact QX.at q l rfl⟩
  | _ => exact False.elim q
end
section
variable {X : Cx} {M : Mo} {W : WX} {pos : Pos} {a b e : Expr} {f g : Ev} {k : Nat}
theorem cIsnB (ha : PE X a (tE (kwX X) M W f)) (hb : PE X b (tE (kwX X) M W g)) : PE X (.Compare a [.IsNot] [b] pos) (tE (kwX X) M W (e2 notBD f g)) := de_cmp op_notBv os_notB ha hb
theorem xNeg (ha : PE X a (tE (kwX X) M W f)) : PE X (.UnaryOp .USub a pos) (tE (kwX X) M W (e1 negD f)) := by
  refine PE.imp (pe_un un_neg ha) fun σ H Q ⟨Fo, G, δ, er, q⟩ => ⟨Fo, G, δ, er, ?_⟩
  refine PX.mono (PX.bind q) fun G1 H1 d t1 q1 v rv => ?_
  obtain ⟨i, rfl, rfl, q2⟩ := intO_of (PX.qx q1) rv
  exact ⟨i, rfl, q2.at t1.2.1 rfl⟩
end

/-! ### methods -/
section
variable {X : Cx} {M : Mo} {W : WX} {o e : Expr} {f g : Ev} {fs : Env → R (List D)} {apos cpos : Pos} {k : Nat}
theorem mIndex (hr : Room k X.A) (ho : PE X o (tE (kwX X) M W f)) (he : PE X e (tE (kwX X) M W g))
    (hbase : attributeBase o "index" X.env (eval o X.env) = eval o X.env := by rfl)
    (hfew : ((backTo cpos (starEach [e] X.env)).all (fun x => !x.1) && (backToKw cpos (keywordEach [] X.env)).all (fun x => x.1.isSome)
      && decide ([e].length + ([] : List Keyword).length + (if ([] : List Keyword).isEmpty then 0 else 1) < 30)) = true := by rfl)
    (hline : (apos.endLine == cpos.line) = true := by rfl) (hs : starEach [e] X.env = (false, eval e X.env) :: starEach [] X.env := by rfl) :
    PE X (.Call (.Attribute o "index" apos) [e] [] cpos) (tE (kwX X) M W (eM isSq idxD f (aCons g aNil))) :=
  de_meth2 (de_meth F.plainAttrs_tuple F.slot_tuple_index (by rfl) (mt_tindex (u65 hr)) okT ms_tindex ho (da_cons he da_nil hs) hbase hfew hline hs)
    (de_meth F.plainAttrs_list F.slot_list_index (by rfl) (mt_indexD (u65 hr)) okL ms_index ho (da_cons he da_nil hs) hbase hfew hline hs)
theorem mCount (hr : Room k X.A) (ho : PE X o (tE (kwX X) M W f)) (he : PE X e (tE (kwX X) M W g))
    (hbase : attributeBase o "count" X.env (eval o X.env) = eval o X.env := by rfl)
    (hfew : ((backTo cpos (starEach [e] X.env)).all (fun x => !x.1) && (backToKw cpos (keywordEach [] X.env)).all (fun x => x.1.isSome)
      && decide ([e].length + ([] : List Keyword).length + (if ([] : List Keyword).isEmpty then 0 else 1) < 30)) = true := by rfl)
    (hline : (apos.endLine == cpos.line) = true := by rfl) (hs : starEach [e] X.env = (false, eval e X.env) :: starEach [] X.env := by rfl) :
    PE X (.Call (.Attribute o "count" apos) [e] [] cpos) (tE (kwX X) M W (eM isSq cntD f (aCons g aNil))) :=
  de_meth2 (de_meth F.plainAttrs_tuple F.slot_tuple_count (by rfl) (mt_tcount (u65 hr)) okT ms_tcount ho (da_cons he da_nil hs) hbase hfew hline hs)
    (de_meth F.plainAttrs_list F.slot_list_count (by rfl) (mt_count (u65 hr)) okL ms_count ho (da_cons he da_nil hs) hbase hfew hline hs)
end

/-! ### f-strings -/
section
variable {X : Cx} {M : Mo} {W : WX} {pos : Pos} {e v1 v2 : Expr} {rest es : List Expr} {f : Ev} {fs : List Ev}
end

/-! ### str(x), int(x) -/
def intTD : List D → Option D := a1 fun d => match d with
  | .int i => some (.int i)
  | .bl b => some (.int (if b then 1 else 0))
  | .str a => ifO (decide (a.length ≤ 640)) ((PySem.intText? a).map .int)
  | _ => none
section
variable {X : Cx} {M : Mo} {W : WX} {pos : Pos} {a : Expr} {f : Ev}
theorem cs_intT : CallS (kwX X) (fun xs H Q => ((∃ i, xs = [.int i] ∧ Q (.int i) H) ∨ ∃ k, xs = [.bl k] ∧ Q (.int (if k then 1 else 0)) H) ∨ (∃ a n, xs = [.str a] ∧ PySem.intText? a = some n ∧ a.length ≤ 640 ∧ Q (.int n) H)) intTD := fun tp G H ds vs Q l r q => by
  obtain ⟨y, u, rfl, rfl, ru, q⟩ := a1_of q r
  cases y with
  | int i => cases ru; exact .inl (.inl ⟨i, rfl, QX.at q l rfl⟩)
  | bl i => cases ru; exact .inl (.inr ⟨i, rfl, QX.at q l rfl⟩)
  | str i =>
    obtain ⟨z, q3⟩ := ifO_of q
    cases ru
    cases hn : PySem.intText? i with
    | none => rw [hn] at q3; exact False.elim q3
    | some n =>
      rw [hn] at q3
      exact .inr ⟨i, n, rfl, hn, of_decide_eq_true z, QX.at q3 l rfl⟩
  | _ => exact False.elim q
theorem bIntT {p : Pos} (hm : X.mg "int" = none) (ha : PE X a (tE (kwX X) M W f)) (hg : Gl X "int" := by rfl) (he : starEach [a] X.env = (false, eval a X.env) :: starEach [] X.env := by rfl) : PE X (.Call (.Name "int" p) [a] [] pos) (tE (kwX X) M W (eB intTD (aCons f aNil))) :=
  de_callTy (call_int1.or call_int_str) cs_intT hg hm bt_int (da_cons ha da_nil he) (by decide) (by decide) he
theorem bList {p : Pos} (hm : X.mg "list" = none) (ha : PE X a (tE (kwX X) M W f)) (hg : Gl X "list" := by rfl) (he : starEach [a] X.env = (false, eval a X.env) :: starEach [] X.env := by rfl) : PE X (.Call (.Name "list" p) [a] [] pos) (tE (kwX X) M W (eB listD (aCons f aNil))) :=
  de_callTy call_list_of cs_list hg hm bt_list (da_cons ha da_nil he) (by decide) (by decide) he
end

/-! ### a list of one's own by + -/
section
variable {X : Cx} {M : Mo} {W : WX} {pos : Pos} {a b : Expr} {f g : Ev}
end
end Dl

set_option Elab.async false
set_option linter.all false
set_option maxRecDepth 100000
set_option maxHeartbeats 2000000
/-! Classes in the print: their facts, their methods, __init__ as a function; lent things in tests. -/
namespace Dl
open PySem PySem.Spec PyProof.Rows L2

/-- the j-th statement of a class -/
def subSt (s : Stmt) (j : Nat) : Stmt := match s with
  | .ClassDef _ _ _ body .. => body.getD j (.Pass ⟨0, 0, 0, 0⟩)
  | _ => .Pass ⟨0, 0, 0, 0⟩
section
variable {fa : List He.Fa} {fn : List He.DefD} {tf : List He.Defn} {ex : PySem.W.Frag → Bool} {K : PySem.W.Frag} {mg : Str → Option Value} {base : Heap}
theorem Wd.cls (E : Wd fa fn tf ex K mg base) (i : Nat) {x : Str} (h : fa[i]? = some (.cls x) := by rfl) : Cls K (He.ga K x) := He.cls_ok (E.says.fact i (f := .cls x) h)
theorem Wd.noat (E : Wd fa fn tf ex K mg base) (i : Nat) {x f : Str} (h : fa[i]? = some (.noat x f) := by rfl) : NoAttr K (He.ga K x) f := He.noat_ok (E.says.fact i (f := .noat x f) h)
theorem Wd.mkr (E : Wd fa fn tf ex K mg base) (i : Nat) {x : Str} (h : fa[i]? = some (.mkr x) := by rfl) : Mk K (He.ga K x) (He.ma K (He.ga K x) "__init__") := He.mkr_ok (E.says.fact i (f := .mkr x) h)
end

/-! ### __init__ as a function -/
def NewOk (n : Nat) (c : String) (B : Sv) (ds : List D) (d : D) : Prop := ∀ x : Addr, ∃ δ' fl xs, B (initN n c x ds) = .next δ' ∧ δ'[0]? = some (.own (.ins c x fl xs)) ∧ d = .obj c fl xs
def NewEx (n : Nat) (c : String) (B : Sv) (ds : List D) (e : String) : Prop := ∀ x : Addr, ∃ δ', B (initN n c x ds) = .exc e δ'
open Classical in
noncomputable def newF (n : Nat) (c : String) (B : Sv) (ds : List D) : R D :=
  if h : ∃ d, NewOk n c B ds d then .ok (Classical.choose h) else if h : ∃ e, NewEx n c B ds e then .exc (Classical.choose h) else .bad
theorem newF_hm {n k : Nat} {c : String} {B : Sv} : ∀ (x : Addr) (ds : List D), ds.length = k → match newF n c B ds with
      | .ok d => ∃ δ' fl xs, B (initN n c x ds) = .next δ' ∧ δ'[0]? = some (.own (.ins c x fl xs)) ∧ d = .obj c fl xs
      | .exc e => ∃ δ', B (initN n c x ds) = .exc e δ'
      | .bad => True := fun x ds _ => by
  unfold newF
  split
  · rename_i d hd
    split at hd
    · rename_i h; cases hd; exact Classical.choose_spec h x
    · split at hd
      · cases hd
      · cases hd
  · rename_i d hd
    split at hd
    · cases hd
    · split at hd
      · rename_i h; cases hd; exact Classical.choose_spec h x
      · cases hd
  · trivial
theorem newF_ok {n : Nat} {c : String} {B : Sv} {ds : List D} {d : D} (h : NewOk n c B ds d) : newF n c B ds = .ok d := by
  have h0 : ∃ d, NewOk n c B ds d := ⟨d, h⟩
  unfold newF
  rw [dif_pos h0]
  obtain ⟨δ1, fl1, xs1, e1, g1, k1⟩ := Classical.choose_spec h0 0
  obtain ⟨δ2, fl2, xs2, e2, g2, k2⟩ := h 0
  rw [e1] at e2
  cases e2
  rw [g1] at g2
  cases g2
  rw [k1, k2]
/-! ### methods of a class -/
section
variable {P : Program} {w : World} {K : PySem.W.Frag} {mg : Str → Option Value} {base : Heap} {M : Mo}
end
section
variable {X : Cx} {M : Mo} {W : WX} {pos : Pos} {e o : Expr} {es : List Expr} {f : Ev} {fs : Env → R (List D)}
/-- the instance is of that class, the name none of its attributes -/
def isO (c : String) (m : Str) : D → Bool
  | .obj c' fl _ => decide (c' = c) && decide (m ∉ fl.map Str.ofString)
  | _ => false
def eCallM (c : String) (m : Str) (h : List D → R D) (f : Ev) (g : Env → R (List D)) : Ev := fun δ => f δ >>= fun x => if isO c m x then g δ >>= fun xs => h (x :: xs) else .bad
end

theorem hn1 {k : Nat} {fs : Env → R (List D)} (h : ∀ δ ds, fs δ = .ok ds → ds.length = k) : ∀ δ ds, fs δ = .ok ds → ds.length + 1 = k + 1 := fun δ ds q => by rw [h δ ds q]
/-! ### lent in a test -/
def tBor (i : Nat) (t : Tv) : Tv := fun δ => t (frz i δ)
section
variable {X : Cx} {M : Mo} {W : WX} {e : Expr} {t : Tv}
theorem dt_bor (i : Nat) (he : PT X e (tT (kwX X) M W t)) : PT X e (tT (kwX X) M W (tBor i t)) := by
  refine PT.imp he fun σ H Q ⟨Fo, G, δ, er, q⟩ => ?_
  obtain ⟨fp, er1, back⟩ := er.lend i
  refine ⟨Fo, _, frz i δ, er1, ?_⟩
  unfold tBor at q
  cases y : t (frz i δ) with
  | bad => rw [y] at q; exact False.elim q
  | exc c =>
    rw [y] at q
    intro G' H' t
    exact q _ H' (back G' H' t).1
  | ok d =>
    rw [y] at q
    intro G' H' t
    exact q _ H' (back G' H' t).1
end
end Dl

set_option Elab.async false
set_option linter.all false
set_option maxRecDepth 100000
set_option maxHeartbeats 2000000
/-! Dicts: their keys, d[k], k in d, d[k] = e, {}, {k: e}, list(d). -/
namespace Dl
open PySem PySem.Spec PyProof.Rows L2

/-! ### keys -/
/-! ### a dict's object -/
section
variable {X : Cx} {pins : List (Addr × Obj)} {σ : L2.St} {H : Hp} {s : Shared}
end

/-! ### where a key stands -/
/-! ### d[k], k in d -/
section
variable {X : Cx} {pins : List (Addr × Obj)} {σ : L2.St} {H : Hp} {s : Shared} {x y v : V} {u r : Value} {A : Around} {E : Value → Shared → Prop}
end
section
variable {X : Cx} {M : Mo} {W : WX} {pos : Pos} {a b o i e : Expr} {f g : Ev} {k : Nat}
end

/-! ### a new dict -/
section
variable {X : Cx} {M : Mo} {W : WX} {pos : Pos} {e : Expr} {fo : Env → R O}
end

/-! ### a thing set aside -/
section
variable {K : Kw} {tp : Tb} {Fo G H G' H' : Hp} {δ : Env} {σ : L2.St}
/-- one more thing that is not ours -/
theorem ER.alienU {D : Addr} {u : HO} (e : ER K tp Fo G (del H D) δ σ) (h : H D = some u) (n : G D = none) (nt : ¬ tp D) : ER K tp (upd Fo D u) G H δ σ where
  gh := fun a o q => (del_some (e.gh a o q)).2
  fh := fun a o q => by
    by_cases z : a = D
    · subst z; rw [upd_same] at q; cases q; exact h
    · rw [upd_ne z] at q; exact (del_some (e.fh a o q)).2
  fg := fun a o q => by
    by_cases z : a = D
    · subst z; exact ⟨n, nt⟩
    · rw [upd_ne z] at q; exact e.fg a o q
  tb := fun a t => by
    obtain ⟨⟨ps, q, r⟩, g⟩ := e.tb a t
    exact ⟨⟨ps, (del_some q).2, r⟩, g⟩
  len := e.len
  val := e.val
  own := by
    obtain ⟨ft, ow, sp⟩ := e.own
    refine ⟨ft, fun i o q => ?_, sp⟩
    obtain ⟨p, h1, h2⟩ := ow i o q
    have far : ∀ a ∈ ft i, a ≠ D := fun a ha => by
      obtain ⟨u, hu, _⟩ := h2.there a ha
      exact (del_some hu).1
    have h3 := h2.mono (H' := H) .refl (fun a _ u hu => (del_some hu).2) fun a ha => (h2.1 a ha).1
    exact ⟨p, h1, fun a ha => ⟨(h2.1 a ha).1, by rw [upd_ne (far a ha)]; exact (h2.1 a ha).2⟩, h3.2⟩
/-- behind a step the thing at D is left out again -/
theorem Tr.delU {D : Addr} {u : HO} (t : Tr tp G H G' H') (h : H D = some u) (n : G D = none) (nt : ¬ tp D) (l : Le G (Dl.del H D)) : Tr tp G (Dl.del H D) G' (Dl.del H' D) ∧ H' D = some u ∧ G' D = none := by
  obtain ⟨h1, n1⟩ := t.2.2.1 D _ n nt h
  refine ⟨⟨t.1, fun a o q => ?_, fun a o g nt q => ?_, fun a ta g q => ?_⟩, h1, n1⟩
  · have z : a ≠ D := ne_of_none q n1
    rw [del_ne z]; exact t.2.1 a o q
  · obtain ⟨z, q'⟩ := del_some q
    obtain ⟨r1, r2⟩ := t.2.2.1 a o g nt q'
    exact ⟨by rw [del_ne z]; exact r1, r2⟩
  · obtain ⟨ps, q1, q2⟩ := q
    obtain ⟨z, q'⟩ := del_some q1
    obtain ⟨⟨ps', r1, r3⟩, r2⟩ := t.2.2.2 a ta g ⟨ps, q', q2⟩
    exact ⟨⟨ps', by rw [del_ne z]; exact r1, r3⟩, r2⟩
end

/-! ### {k: e} -/
section
variable {prog : Program} {w : World} {κ : Type} [DecidableEq κ] {knd : HeapKind prog w κ} {A : Around} {E : Value → Shared → Prop} {s : Shared}
end
section
variable {X : Cx} {M : Mo} {W : WX} {pos : Pos} {ke ve : Expr} {fk fv : Ev} {k : Nat}
end

/-! ### d[k] = e -/
section
variable {K : Kw} {G : Hp}
end
section
variable {X : Cx} {pins : List (Addr × Obj)} {σ : L2.St} {H : Hp} {s : Shared} {y v : V} {u r : Value} {E : Value → Shared → Prop}
end
section
variable {X : Cx} {M : Mo} {W : WX} {pos : Pos} {e ek : Expr} {f g : Ev} {k : Nat}
end
end Dl

set_option Elab.async false
set_option linter.all false
set_option maxRecDepth 100000
set_option maxHeartbeats 2000000
/-! Lists of own lists; x = l.pop(). -/
namespace Dl
open PySem PySem.Spec PyProof.Rows L2

section
variable {K : Kw} {tp : Tb} {Fo G H G' H' : Hp} {δ : Env} {σ : L2.St}
/-- behind a step, a slot gets a thing whose places were not there ahead of it -/
theorem ER.setOwnT (e : ER K tp Fo G H δ σ) (t : Tr tp G H G' H') (i : Nat) {p : Addr} {o : O} {fp : List Addr} (ow1 : OwnAt K Fo G' H' o p fp) (new : ∀ a ∈ fp, H a = none) :
    ER K tp Fo G' H' (δ.set i (.own o)) (σ.set i (some (.ref p))) := by
  have e' := e.tr t
  refine ⟨e'.gh, e'.fh, e'.fg, e'.tb, by rw [List.length_set, List.length_set]; exact e.len, fun j c h => ?_, ?_⟩
  · rcases get_set_cases h with ⟨_, q, _⟩ | ⟨m, h⟩
    · cases q
    · obtain ⟨w, h1, h2⟩ := e'.val j c h
      exact ⟨w, by rw [List.getElem?_set_ne (Ne.symm m)]; exact h1, h2⟩
  · obtain ⟨ft, ow, sp⟩ := e.own
    have far : ∀ j c, δ[j]? = some (.own c) → ∀ a ∈ ft j, a ∉ fp := fun j c h a ha hb => by
      obtain ⟨p', _, h2⟩ := ow j c h
      obtain ⟨u, hu, _⟩ := h2.there a ha
      rw [new a hb] at hu; cases hu
    refine ⟨selF i fp ft, fun j c h => ?_, fun j l c d h g ne => ?_⟩
    · rcases get_set_cases h with ⟨rfl, z, l⟩ | ⟨m, h⟩
      · cases z
        exact ⟨p, by rw [List.getElem?_set_self (by rw [← e.len]; exact l)], by rw [selF_eq]; exact ow1⟩
      · obtain ⟨p', h1, h2⟩ := ow j c h
        refine ⟨p', by rw [List.getElem?_set_ne (Ne.symm m)]; exact h1, ?_⟩
        rw [selF_ne m]
        have k : ∀ a ∈ ft j, ∀ u, H a = some u → H' a = some u ∧ G' a = none := fun a ha u hu => by
          obtain ⟨u', hu', nt⟩ := h2.there a ha
          exact t.2.2.1 a u (h2.1 a ha).1 (not_tp_of e.tb hu' nt) hu
        exact h2.mono t.1 (fun a ha u hu => (k a ha u hu).1) fun a ha => let ⟨u, hu, _⟩ := h2.there a ha; (k a ha u hu).2
    · rcases get_set_cases h with ⟨rfl, _, _⟩ | ⟨m, h'⟩
      · rcases get_set_cases g with ⟨rfl, _, _⟩ | ⟨m', g'⟩
        · exact absurd rfl ne
        · intro a ha hb
          rw [selF_eq] at ha
          rw [selF_ne m'] at hb
          exact far l d g' a hb ha
      · rcases get_set_cases g with ⟨rfl, _, _⟩ | ⟨m', g'⟩
        · intro a ha hb
          rw [selF_ne m] at ha
          rw [selF_eq] at hb
          exact far j c h' a ha hb
        · intro a ha hb
          rw [selF_ne m] at ha
          rw [selF_ne m'] at hb
          exact sp j l c d h' g' ne a ha hb
theorem Inner.append {dss ess : List (List D)} {as bs : List Addr} : Inner K G H dss as → Inner K G H ess bs → Inner K G H (dss ++ ess) (as ++ bs) := by
  induction dss generalizing as with
  | nil => intro h g; cases h; exact g
  | cons ds dss ih =>
    rintro ⟨a, r, e, h1, h2⟩ g
    subst e
    exact ⟨a, r ++ bs, rfl, h1, ih h2 g⟩
theorem Inner.length {dss : List (List D)} {as : List Addr} : Inner K G H dss as → as.length = dss.length := by
  induction dss generalizing as with
  | nil => intro h; cases h; rfl
  | cons ds dss ih =>
    rintro ⟨a, r, e, h1, h2⟩
    subst e
    rw [List.length_cons, List.length_cons, ih h2]
theorem Inner.get {dss : List (List D)} {as : List Addr} {j : Nat} {ds : List D} : Inner K G H dss as → dss[j]? = some ds → ∃ a ws, as[j]? = some a ∧ H a = some (.lst ws) ∧ Reps K G ds ws := by
  induction dss generalizing as j with
  | nil => intro _ h; simp at h
  | cons es dss ih =>
    rintro ⟨a, r, e, ⟨ws, h1, h2⟩, h3⟩ h
    subst e
    cases j with
    | zero => simp at h; subst h; exact ⟨a, ws, rfl, h1, h2⟩
    | succ j =>
      obtain ⟨b, us, e1, e2, e3⟩ := ih h3 (by simpa using h)
      exact ⟨b, us, by simpa using e1, e2, e3⟩
/-- one of the inner lists is changed -/
theorem Inner.upd {dss : List (List D)} {as : List Addr} {j : Nat} {a : Addr} {ds : List D} {ws : List V} (nd : as.Nodup) (ha : as[j]? = some a) (r : Reps K G ds ws) : Inner K G H dss as → Inner K G (L2.upd H a (.lst ws)) (dss.set j ds) as := by
  induction dss generalizing as j with
  | nil => intro h; cases h; simp at ha
  | cons es dss ih =>
    rintro ⟨b, s, e, ⟨us, h1, h2⟩, h3⟩
    subst e
    rw [List.nodup_cons] at nd
    cases j with
    | zero =>
      simp at ha
      subst ha
      refine ⟨b, s, rfl, ⟨ws, upd_same, r⟩, h3.mono .refl fun c hc o ho => ?_⟩
      rw [upd_ne (fun z : c = b => nd.1 (z ▸ hc))]; exact ho
    | succ j =>
      have ha' : s[j]? = some a := by simpa using ha
      have hm : a ∈ s := List.mem_of_getElem? ha'
      refine ⟨b, s, rfl, ⟨us, ?_, h2⟩, ih nd.2 ha' h3⟩
      rw [upd_ne (fun z : b = a => nd.1 (z ▸ hm))]; exact h1
end

/-! ### x = [[] for y in it] -/
def sLol (i : Nat) (it : Env → R (List D)) : Sv := fun δ => bindF (it δ) δ fun ds => if ds.length ≤ sizeLine then .next (δ.set i (.own (.lol (ds.map fun _ => [])))) else .bad
section
variable {X : Cx} {M : Mo} {W : WX} {pos : Pos} {it : Env → R (List D)}
def tNl (K : Kw) (M : Mo) (W : WX) (f : Env → R (List D)) : TE := fun σ H Q => ∃ Fo G δ, ER K M.tp Fo G H δ σ ∧ PX M W σ G H (f δ) fun G1 H1 ds => ds.length ≤ sizeLine ∧ ∀ G2 H2 p as, Tr M.tp G1 H1 G2 H2 → (∀ a ∈ p :: as, H1 a = none ∧ G2 a = none) → (p :: as).Nodup → H2 p = some (.lst (as.map V.ref)) → Inner K G2 H2 (ds.map fun _ => []) as → Q (.ref p) H2
theorem tlol_of {j : Nat} {vs : List Nat} (hat : j ∈ vs) {σ : L2.St} {H : Hp} {Q : VK} (q : tNl (kwX X) M W it σ H Q) :
    tLc (tI (kwX X) M W it) (tG (kwX X) M (.one j)) (tT (kwX X) M W0 tYesD) (fun _ H Q => ∀ p, H p = none → Q (.ref p) (upd H p (.lst []))) vs σ H Q := by
  obtain ⟨Fo, G, δ, er, q⟩ := q
  refine ⟨Fo, G, δ, er, PX.mono q fun G1 H1 ds t1 ⟨hz, q1⟩ J wk D nD => ?_⟩
  have er1 := er.tr t1
  have gD : G1 D = none := none_of_le er1.gh nD
  have ntD : ¬ M.tp D := fun z => by
    obtain ⟨⟨ps, e, _⟩, _⟩ := er1.tb D z
    rw [nD] at e; cases e
  let Iv : Nat → Hp → Prop := fun i H => ∃ G2 as, Tr M.tp G1 H1 G2 (Dl.del H D) ∧ G2 D = none ∧ (∀ a ∈ as, H1 a = none ∧ G2 a = none ∧ ¬ M.tp a) ∧ (D :: as).Nodup ∧ H D = some (.lst (as.map V.ref)) ∧ Inner (kwX X) G2 H ((ds.take i).map fun _ => []) as
  refine ⟨fun i m H => m = ds.length - i ∧ i ≤ ds.length ∧ Iv i H, ⟨ds.length, by simp, Nat.zero_le _, G1, [], by rw [del_upd nD]; exact .refl er1.gh, gD, fun a ha => (by cases ha), by simp, upd_same, rfl⟩, ?_⟩
  rintro i m H2 ⟨rfl, hle, G2, as, t2, gD2, hn, nd, hD, hin⟩
  have l2 : Le G2 H2 := fun a o q => (del_some (t2.2.1 a o q)).2
  obtain ⟨w1, w2⟩ := wk i G2 H2 t2.1 l2
  by_cases hlt : i < ds.length
  · obtain ⟨go, yl⟩ := w2 ds[i] (List.getElem?_eq_getElem hlt)
    refine .inr ⟨go, Iv (i + 1), fun H' z => ⟨ds.length - (i + 1), by omega, rfl, hlt, z⟩, fun x H3 y => ?_⟩
    obtain ⟨G3, t3, rx⟩ := yl x H3 y
    obtain ⟨t3', hD3, gD3⟩ := t3.delU hD gD2 ntD t2.2.1
    have er3 : ER (kwX X) M.tp (upd Fo D (.lst (as.map V.ref))) G3 H3 (wipeE δ vs) (L2.wipe σ vs) := ((er1.tr (t2.trans t3')).alienU hD3 gD3 ntD).wipe vs
    refine ⟨upd Fo D (.lst (as.map V.ref)), G3, wipeE δ vs, ds[i], (wipeE δ vs).set j (.val ds[i]), er3, rx, rfl, fun σ' er' bt => ⟨wipe_but (is := [j]) (fun k hk => by rw [List.mem_singleton] at hk; subst hk; exact hat) bt, ?_⟩⟩
    refine ⟨upd Fo D (.lst (as.map V.ref)), G3, _, er', ?_⟩
    intro G4 H4 t4
    simp only [if_true]
    intro p np
    obtain ⟨t4', hD4, gD4⟩ := t4.delU hD3 gD3 ntD t3'.2.1
    have t24 := t3'.trans t4'
    have t14 := t2.trans t24
    have er4 := er1.tr t14
    have kp : ∀ a ∈ as, ∀ o, H2 a = some o → H4 a = some o ∧ G4 a = none := fun a ha o ho => (t3.trans t4).2.2.1 a o (hn a ha).2.1 (hn a ha).2.2 ho
    have pD : p ≠ D := fun z => by rw [z, hD4] at np; cases np
    have pas : p ∉ as := fun z => by
      obtain ⟨ws, hw⟩ := hin.mem p z
      rw [(kp p z _ hw).1] at np; cases np
    have np' : Dl.del H4 D p = none := by rw [del_ne pD]; exact np
    have gp : G4 p = none := none_of_le t4.2.1 np
    have ntp : ¬ M.tp p := fun z => by
      obtain ⟨⟨ps, e, _⟩, _⟩ := er4.tb p z
      rw [np'] at e; cases e
    have h1p : H1 p = none := by
      cases z : H1 p with
      | none => rfl
      | some u =>
        exfalso
        cases zg : G1 p with
        | none => rw [(t14.2.2.1 p u zg ntp z).1] at np'; cases np'
        | some u' => rw [t14.2.1 p u' (t14.1 p u' zg)] at np'; cases np'
    have l4 := Inner.length hin
    rw [List.length_map, List.length_take, Nat.min_eq_left hle] at l4
    have eH : Dl.del (upd (upd H4 p (.lst [])) D (.lst (as.map V.ref ++ [.ref p]))) D = upd (Dl.del H4 D) p (.lst []) := by
      funext a
      by_cases z : a = D
      · subst z; rw [del_at, upd_ne (Ne.symm pD), del_at]
      · rw [del_ne z, upd_ne z]
        by_cases z2 : a = p
        · subst z2; rw [upd_same, upd_same]
        · rw [upd_ne z2, upd_ne z2, del_ne z]
    refine ⟨as.map V.ref, by rw [upd_ne (Ne.symm pD)]; exact hD4, by rw [List.length_map, l4]; omega, G4, as ++ [p], ?_, gD4, ?_, ?_, ?_, ?_⟩
    · rw [eH]
      exact t14.trans (Tr.junk t4'.2.1 np')
    · intro a ha
      rcases List.mem_append.mp ha with ha | ha
      · obtain ⟨ws, hw⟩ := hin.mem a ha
        exact ⟨(hn a ha).1, (kp a ha _ hw).2, (hn a ha).2.2⟩
      · rw [List.mem_singleton] at ha; subst ha; exact ⟨h1p, gp, ntp⟩
    · rw [← List.cons_append, List.nodup_append]
      refine ⟨nd, by simp, fun a ha b hb z => ?_⟩
      rw [List.mem_singleton] at hb
      subst hb
      subst z
      rcases List.mem_cons.mp ha with z | z
      · exact pD z
      · exact pas z
    · rw [upd_same, List.map_append]; rfl
    · rw [List.take_succ_eq_append_getElem hlt, List.map_append]
      refine (hin.mono (t3.1.trans t4.1) fun a ha o ho => ?_).append ⟨p, [], rfl, ⟨[], ?_, rfl⟩, rfl⟩
      · have aD : a ≠ D := fun z => by
          subst z
          rw [List.nodup_cons] at nd
          exact nd.1 ha
        rw [upd_ne aD, upd_ne (fun z : a = p => pas (z ▸ ha))]
        exact (kp a ha o ho).1
      · rw [upd_ne pD, upd_same]
  · have e : i = ds.length := by omega
    subst e
    have eH : upd (Dl.del H2 D) D (.lst (as.map V.ref)) = H2 := by
      funext a
      by_cases z : a = D
      · subst z; rw [upd_same, hD]
      · rw [upd_ne z, del_ne z]
    refine .inl ⟨w1 (Nat.le_refl _), q1 G2 H2 D as ?_ (fun a ha => ?_) nd hD ?_⟩
    · have t5 := Tr.junk (tp := M.tp) (o := .lst (as.map V.ref)) t2.2.1 (p := D) del_at
      rw [eH] at t5
      exact t2.trans t5
    · rcases List.mem_cons.mp ha with rfl | ha
      · exact ⟨nD, gD2⟩
      · exact ⟨(hn a ha).1, (hn a ha).2.1⟩
    · rw [List.take_length] at hin
      exact hin
theorem ds_lol (i j : Nat) {y : Str} {py spos lp : Pos} {tg iter : Expr} {scope : Scope} (own : List (Str × Nat)) (hc : X.calm = true) (hN : X.N.Nodup) (hi : PI X tg iter (tI (kwX X) M W it)) (ok : BlkOk X.N X.env.scope scope own) (hat : j ∈ own.map (·.2))
    (hg : ∀ (s : Shared) (H : Hp) (C : Addr) (cl : List (Str × Addr)) (fp : List Addr), PG (X.blk s H scope (compEnvC scope cl C X.env) fp) tg (tG (kwX X) M (.one j)))
    (hs : ∀ x, foldedSetIterable iter X.env x = pure x := by intro _; rfl) (hsw : swapsWith (.ListComp (.List [] lp) [⟨tg, iter, [], 0⟩] scope pos) (some (.Name y py)) spos.line X.env = pure true := by rfl) (hy : X.N[i]? = some y := by rfl) (hyl : X.env.scope.names.lookup y = some .local := by rfl) :
    PS X (.Assign [.Name y py] (.ListComp (.List [] lp) [⟨tg, iter, [], 0⟩] scope pos) spos) (tS (kwX X) M W (sLol i it)) := by
  refine PS.imp (ps_setLc hc hN hy hyl hsw hi ok hg (fun _ _ _ _ _ => dts_nil) (fun _ _ _ _ _ => PE.imp (pe_lst pa_nil) fun σ H Q q => ⟨Nat.zero_le _, q⟩) hs) fun D σ H ⟨Fo, G, δ, er, q⟩ => tlol_of hat ⟨Fo, G, δ, er, ?_⟩
  refine PX.mono (PF.bind er q) fun G1 H1 ds t1 ⟨er1, q1⟩ => ?_
  by_cases hz : ds.length ≤ sizeLine
  · rw [if_pos hz] at q1
    exact ⟨hz, fun G2 H2 p as t2 hn nd hD hin => q1 G2 _ _ t2.1 (er1.setOwnT t2 i ⟨fun a ha => ⟨(hn a ha).2, none_of_le er1.fh (hn a ha).1⟩, .inr ⟨_, as, rfl, rfl, nd, hD, hin⟩⟩ fun a ha => (hn a ha).1)⟩
  · rw [if_neg hz] at q1; exact False.elim q1
end

/-! ### x[k].append(e) -/
def sLApp (i : Nat) (g f : Ev) : Sv := fun δ => match δ[i]? with
  | some (.own (.lol dss)) => bindF (g δ) δ fun k => (match k with
    | .int k => (match ixN dss.length k with
      | some j => bindF (f δ) δ fun d => (match dss[j]? with
        | some ds => if ds.length < sizeLine then .next (δ.set i (.own (.lol (dss.set j (ds ++ [d]))))) else .bad
        | none => .bad)
      | none => .bad)
    | _ => .bad)
  | _ => .bad
section
variable {K : Kw} {tp : Tb} {Fo G H G' H' : Hp} {δ : Env} {σ : L2.St}
theorem ER.ownL (e : ER K tp Fo G H δ σ) (i : Nat) {dss : List (List D)} (h : δ[i]? = some (.own (.lol dss))) : ∃ p as, σ[i]? = some (some (.ref p)) ∧ (∀ a ∈ p :: as, G a = none ∧ Fo a = none) ∧ (p :: as).Nodup ∧ H p = some (.lst (as.map V.ref)) ∧ Inner K G H dss as := by
  obtain ⟨ft, ow, _⟩ := e.own
  obtain ⟨p, h1, h0, ⟨q, vs, one, _⟩ | ⟨dss', as, e1, e2, e3, e4, e5⟩⟩ := ow i _ h
  · cases one
  · cases e1
    rw [e2] at h0 e3
    exact ⟨p, as, h1, h0, e3, e4, e5⟩
theorem ER.chgL (e : ER K tp Fo G H δ σ) (i : Nat) {dss : List (List D)} {p : Addr} {as : List Addr} {j : Nat} {a : Addr} {ds : List D} {ws : List V} (h : δ[i]? = some (.own (.lol dss))) (hp : σ[i]? = some (some (.ref p))) (hH : H p = some (.lst (as.map V.ref))) (ha : as[j]? = some a) (r : Reps K G ds ws) :
    ER K tp Fo G (upd H a (.lst ws)) (δ.set i (.own (.lol (dss.set j ds)))) σ :=
  e.chgOwnF i h hp fun fp ⟨h0, hh⟩ => by
    rcases hh with ⟨q', vs, one, _⟩ | ⟨dss', as', e1, e2, e3, e4, e5⟩
    · cases one
    · cases e1
      rw [hH] at e4
      have eas : as' = as := by
        injection e4 with e4
        injection e4 with e4
        have inj : ∀ {l m : List Addr}, l.map V.ref = m.map V.ref → m = l := by
          intro l
          induction l with
          | nil => intro m h; cases m with
            | nil => rfl
            | cons _ _ => simp at h
          | cons x l ih => intro m h; cases m with
            | nil => simp at h
            | cons y m =>
              simp only [List.map_cons, List.cons.injEq, V.ref.injEq] at h
              rw [h.1, ih h.2]
        exact inj e4
      subst eas
      subst e2
      have hm : a ∈ as' := List.mem_of_getElem? ha
      have hpa : p ≠ a := fun z => by
        rw [List.nodup_cons] at e3
        exact e3.1 (z ▸ hm)
      refine ⟨p :: as', ⟨h0, .inr ⟨_, as', rfl, rfl, e3, by rw [upd_ne hpa]; exact hH, e5.upd (List.nodup_cons.mp e3).2 ha r⟩⟩, fun b hb => .inl hb, fun b hb w hw => ?_⟩
      rw [upd_ne (fun z : b = a => hb (z ▸ List.mem_cons_of_mem _ hm))]; exact hw
end
section
variable {X : Cx} {M : Mo} {W : WX} {pos : Pos} {e ek : Expr} {f g : Ev} {it : Env → R (List D)}
theorem ds_lapp (i : Nat) {x : Str} {pn pa pq pos' : Pos} (hk : PE X ek (tE (kwX X) M W g)) (he : PE X e (tE (kwX X) M W f)) (hN : X.N[i]? = some x := by rfl) (hv : Vis X.env.scope x := by first | exact Or.inl rfl | exact Or.inr (Or.inl rfl) | exact Or.inr (Or.inr rfl)) (hd : (x == ("__debug__" : Str)) = false := by decide) (hcd : (x == ("__classdict__" : Str)) = false := by decide)
    (hsl : PlainIx ek := by exact fun _ _ => rfl)
    (hs : swapsWith (.Call (.Attribute (.Subscript (.Name x pn) ek pq) "append" pa) [e] [] pos') none pos.line X.env = pure false := by rfl)
    (hst : starEach [e] X.env = (false, eval e X.env) :: starEach [] X.env := by rfl)
    (hfew : (((backTo pos' (starEach [e] X.env)).all fun x => !x.1) && (backToKw pos' (keywordEach [] X.env)).all fun x => x.1.isSome) && decide (([e].length + ([] : List Keyword).length + if ([] : List Keyword).isEmpty then 0 else 1) < 30) = true := by rfl)
    (hbase : attributeBase (.Subscript (.Name x pn) ek pq) "append" X.env (eval (.Subscript (.Name x pn) ek pq) X.env) = eval (.Subscript (.Name x pn) ek pq) X.env := by rfl) (hline : (pa.endLine == pos'.line) = true := by rfl) :
    PS X (.Expr (.Call (.Attribute (.Subscript (.Name x pn) ek pq) "append" pa) [e] [] pos') pos) (tS (kwX X) M W (sLApp i g f)) := by
  refine PS.imp (ps_expr (pe_bm PySem.F.plainAttrs_list PySem.F.slot_list_append PySem.F.type_list_append mt_append (pe_ix ix_list (pe_var hN hv hd hcd) hk hsl) (pa_cons he pa_nil hst) (hs := hst) (hfew := hfew) (hbase := hbase) (hline := hline)) hs) fun D σ H ⟨Fo, G, δ, er, q⟩ => ?_
  unfold sLApp at q
  split at q
  · rename_i dss z
    obtain ⟨p, as, h1, h0, hn, hH, hI⟩ := er.ownL i z
    refine ⟨.ref p, h1, Fo, G, δ, er, PX.mono (PF.bind er q) fun G1 H1 kd t1 ⟨er1, q1⟩ w rw => ?_⟩
    cases kd with
    | int k =>
      obtain ⟨p', as', h1', h0', hn', hH', hI'⟩ := er1.ownL i z
      rw [h1] at h1'
      cases h1'
      have hl : (as'.map V.ref).length = dss.length := by rw [List.length_map, hI'.length]
      cases hk : ixN dss.length k with
      | none =>
        replace q1 : PF (kwX X) M W Fo G1 (match ixN dss.length k with
          | some j => bindF (f δ) δ fun d => (match dss[j]? with
            | some ds => if ds.length < sizeLine then .next (δ.set i (.own (.lol (dss.set j (ds ++ [d]))))) else .bad
            | none => .bad)
          | none => .bad) D := q1
        rw [hk] at q1; exact False.elim q1
      | some j =>
        replace q1 : PF (kwX X) M W Fo G1 (match ixN dss.length k with
          | some j => bindF (f δ) δ fun d => (match dss[j]? with
            | some ds => if ds.length < sizeLine then .next (δ.set i (.own (.lol (dss.set j (ds ++ [d]))))) else .bad
            | none => .bad)
          | none => .bad) D := q1
        rw [hk] at q1
        have hj : j < as'.length := by
          have hjr : j < dss.length := (ixN_seq hk).2.1
          rw [hI'.length]; exact hjr
        obtain ⟨b, hb⟩ : ∃ b, as'[j]? = some b := ⟨as'[j], List.getElem?_eq_getElem hj⟩
        have hI1 := hI'
        obtain ⟨ds, hds⟩ : ∃ ds, dss[j]? = some ds := ⟨dss[j]'(by rw [← hI'.length]; exact hj), List.getElem?_eq_getElem _⟩
        obtain ⟨b', ws, hb', hw, rws⟩ := hI'.get hds
        rw [hb] at hb'
        cases hb'
        refine ⟨p, as'.map V.ref, k, .ref b, rfl, rw, SqL.of hH', by unfold atI; rw [hl, hk]; show (as'.map V.ref)[j]? = _; rw [List.getElem?_map, hb]; rfl, .inl ⟨rfl, ws, SqL.of hw⟩, ?_⟩
        refine ⟨Fo, G1, δ, er1, PX.mono (PF.bind er1 q1) fun G2 H2 d t2 ⟨er2, q2⟩ v rv => ?_⟩
        obtain ⟨p2, as2, h12, h02, hn2, hH2, hI2⟩ := er2.ownL i z
        rw [h1] at h12
        cases h12
        have hp1 : ∀ a ∈ p :: as', H2 a = H1 a := fun a ha => by
          have nt : ∃ u, H1 a = some u ∧ ∀ ps, u ≠ .tbl ps := by
            rcases List.mem_cons.mp ha with rfl | ha
            · exact ⟨_, hH', fun ps z => by cases z⟩
            · obtain ⟨ws', hw'⟩ := hI1.mem a ha
              exact ⟨_, hw', fun ps z => by cases z⟩
          obtain ⟨u, hu, nt⟩ := nt
          rw [hu]
          exact (t2.2.2.1 a u (h0' a ha).1 (not_tp_of er1.tb hu nt) hu).1
        have eas : as2 = as' := by
          rw [hp1 p List.mem_cons_self, hH'] at hH2
          injection hH2 with e4
          injection e4 with e4
          have inj : ∀ {l m : List Addr}, l.map V.ref = m.map V.ref → m = l := by
            intro l
            induction l with
            | nil => intro m h; cases m with
              | nil => rfl
              | cons _ _ => simp at h
            | cons x l ih => intro m h; cases m with
              | nil => simp at h
              | cons y m =>
                simp only [List.map_cons, List.cons.injEq, V.ref.injEq] at h
                rw [h.1, ih h.2]
          exact inj e4
        subst eas
        obtain ⟨b2, ws2, hb2, hw2, rws2⟩ := hI2.get hds
        rw [hb] at hb2
        cases hb2
        rw [hds] at q2
        replace q2 : PF (kwX X) M W Fo G2 (if ds.length < sizeLine then .next (δ.set i (.own (.lol (dss.set j (ds ++ [d]))))) else .bad) D := q2
        by_cases hz : ds.length < sizeLine
        · rw [if_pos hz] at q2
          exact ⟨b, ws2, v, rfl, rfl, hw2, by rw [rws2.length]; exact hz, q2 G2 _ _ .refl (er2.chgL i z h1 hH2 hb (rws2.append (.one rv)))⟩
        · rw [if_neg hz] at q2; exact False.elim q2
    | _ => exact False.elim q1
  · exact False.elim q
end
end Dl

set_option Elab.async false
set_option linter.all false
set_option maxRecDepth 100000
set_option maxHeartbeats 2000000
/-! x = l.pop(); own lists by list(..); list(range(..)); tuple(reversed(..)); sum, max, min; chained comparisons; keyword-only parameters. -/
namespace Dl
open PySem PySem.Spec PyProof.Rows L2

/-! ### x = l.pop() -/
section
variable {X : Cx} {M : Mo} {W : WX} {pos : Pos}
end

/-! ### own lists by list(x) -/
section
variable {X : Cx} {M : Mo} {W : WX} {pos : Pos} {a b c : Expr} {f g h : Ev} {k : Nat}
/-! ### list(range(..)) -/
def nRng (f g : Ev) : Env → R (List D) := fun δ => f δ >>= fun x => g δ >>= fun y => ofO (match x, y with
  | .int i, .int j => ifL (lg i 62 && lg j 62 && decide ((j - i).toNat ≤ 16777216)) ((List.range (j - i).toNat).map fun (n : Nat) => .int (i + n))
  | _, _ => none)
where ifL (c : Bool) (l : List D) : Option (List D) := match c with
  | true => some l
  | false => none
theorem reps_rg {K : Kw} {G : Hp} (i : Int) : ∀ l : List Nat, Reps K G (l.map fun (n : Nat) => D.int (i + n)) (l.map fun (n : Nat) => V.int (i + n))
  | [] => rfl
  | _ :: l => ⟨_, _, rfl, rfl, reps_rg i l⟩
theorem rgok_of {i j : Int} (h : (lg i 62 && lg j 62 && decide ((j - i).toNat ≤ 16777216)) = true) : RgOk i j := by
  simp only [Bool.and_eq_true, decide_eq_true_eq] at h
  have h1 := lg_lt h.1.1 (by decide)
  have h2 := lg_lt h.1.2 (by decide)
  exact ⟨by omega, h1.2, by omega, h2.2, by have := h.2; omega⟩
theorem dn_rng1 {p p2 pos2 : Pos} (hc : X.calm = true) (hm : X.mg "list" = none) (hm2 : X.mg "range" = none) (ha : PE X a (tE (kwX X) M W f)) (hg : Gl X "list" := by rfl) (hg2 : Gl X "range" := by rfl) (na : starEach [a] X.env = (false, eval a X.env) :: starEach [] X.env := by rfl)
    (nb : starEach [.Call (.Name "range" p2) [a] [] pos2] X.env = (false, eval (.Call (.Name "range" p2) [a] [] pos2) X.env) :: starEach [] X.env := by rfl) :
    PE X (.Call (.Name "list" p) [.Call (.Name "range" p2) [a] [] pos2] [] pos) (tN (kwX X) M W (nRng (eC (.int 0)) f)) := by
  refine PE.imp (pe_listRg hc hg hm (prg_1 hg2 hm2 ha na) nb) fun σ H Q ⟨Fo, G, δ, er, q⟩ => ⟨Fo, G, δ, er, ?_⟩
  replace q : PX M W σ G H (f δ >>= fun y => ofO (match (D.int 0), y with
    | .int i, .int j => nRng.ifL (lg i 62 && lg j 62 && decide ((j - i).toNat ≤ 16777216)) ((List.range (j - i).toNat).map fun (n : Nat) => .int (i + n))
    | _, _ => none)) _ := q
  refine PX.mono (PX.bind q) fun G1 H1 d t1 q1 v rv => ?_
  cases d with
  | int j =>
    replace q1 : PX M W σ G1 H1 (ofO (nRng.ifL (lg 0 62 && lg j 62 && decide ((j - 0).toNat ≤ 16777216)) ((List.range (j - 0).toNat).map fun (n : Nat) => D.int (0 + n)))) _ := q1
    cases hh : (lg 0 62 && lg j 62 && decide ((j - 0).toNat ≤ 16777216)) with
    | false => rw [hh] at q1; exact False.elim q1
    | true =>
      rw [hh] at q1
      exact ⟨j, rv, rgok_of hh, fun p n => q1 G1 H1 (.refl t1.2.1) p _ n (reps_rg 0 _)⟩
  | _ => exact False.elim q1
/-! ### tuple(reversed(l)) -/
/-! ### a op b op c -/
end
end Dl

set_option Elab.async false
set_option linter.all false
set_option maxRecDepth 100000
set_option maxHeartbeats 2000000
/-! Defs and classes with one keyword-only parameter. -/
namespace Dl
open PySem PySem.Spec PyProof.Rows L2

section
variable {P : Program} {w : World} {K : PySem.W.Frag} {mg : Str → Option Value} {base : Heap} {M : Mo}
end
section
variable {X : Cx} {M : Mo} {W : WX} {pos : Pos} {e ke : Expr} {es : List Expr} {f fk : Ev} {fs : Env → R (List D)} {k n : Nat} {m : List D → R D} {x : Str} {p kp : Pos} {kw : Str} {dv : V}
def aSnoc (fs : Env → R (List D)) (f : Ev) : Env → R (List D) := fun δ => fs δ >>= fun xs => f δ >>= fun x => .ok (xs ++ [x])
end

/-! ### classes with a keyword-only parameter of __init__ -/
section
variable {P : Program} {w : World} {K : PySem.W.Frag} {mg : Str → Option Value} {base : Heap} {M : Mo}
end
section
variable {X : Cx} {M : Mo} {W : WX} {pos : Pos} {e ke : Expr} {es : List Expr} {f fk : Ev} {fs : Env → R (List D)} {k n : Nat} {m : List D → R D} {p kp : Pos} {kw : Str} {dv : V} {c : String}
end
end Dl

set_option Elab.async false
set_option linter.all false
set_option maxRecDepth 100000
set_option maxHeartbeats 2000000
/-! try with several clauses; comprehensions of two clauses; sum, max, min. -/
namespace Dl
open PySem PySem.Spec PyProof.Rows L2

/-! ### try: .. except X: .. except Y: .. -/
def goM : List ((String → Option Bool) × Sv) → String → Sv
  | [], n => fun δ => .exc n δ
  | (sub, f) :: r, n => fun δ => match sub n with
    | some true => noX (f δ)
    | some false => goM r n δ
    | none => .bad
def sTryM (l : List ((String → Option Bool) × Sv)) (f : Sv) : Sv := fun δ => match f δ with
  | .exc n δ' => goM l n δ'
  | .next δ' => .next δ'
  | .brk δ' => .brk δ'
  | .cont δ' => .cont δ'
  | .ret d => .ret d
  | .bad => .bad
inductive HdsD (X : Cx) (M : Mo) : List ExceptHandler → List ((String → Option Bool) × Sv) → List (Value × (Addr → Value → Option Addr → TS)) → Prop
  | nil : HdsD X M [] [] []
  | cons {x : Str} {c : Value} {b0 : Stmt} {suite : List Stmt} {np pos' : Pos} {hds : List ExceptHandler} {sub : String → Option Bool} {F : Sv} {r : List ((String → Option Bool) × Sv)} {l : List (Value × (Addr → Value → Option Addr → TS))} (hc : Names X x c)
      (hsub : ∀ n b, sub n = some b → PySem.W.exmOne X.K (M.ec n) c = some b) (hsu : ∀ (a : Addr) (oe : Obj) (pn : List (Addr × Obj)), PSs (X.suite a ((a, oe) :: pn)) (b0 :: suite) (tS (kwX X) M W0 F)) (h : HdsD X M hds r l) :
      HdsD X M (.ExceptHandler (some (.Name x np)) none (b0 :: suite) pos' :: hds) ((sub, F) :: r) ((c, fun _ _ _ => tS (kwX X) M W0 F) :: l)
section
variable {X : Cx} {M : Mo} {W : WX} {pos : Pos} {body : List Stmt} {F1 : Sv}
theorem HdsD.ok {hds : List ExceptHandler} {r : List ((String → Option Bool) × Sv)} {l : List (Value × (Addr → Value → Option Addr → TS))} (h : HdsD X M hds r l) : HdsOk X hds l := by
  induction h with
  | nil => exact .nil
  | cons hc hsub hsu h ih => exact .cons hc (fun a oe cls d pn _ _ => hsu a oe pn) ih
theorem HdsD.go {hds : List ExceptHandler} {r : List ((String → Option Bool) × Sv)} {l : List (Value × (Addr → Value → Option Addr → TS))} (h : HdsD X M hds r l) {D : Ends} {Fo G H : Hp} {δ : Env} {σ : L2.St} {n : String} (er : ER (kwX X) M.tp Fo G H δ σ) (q : PF (kwX X) M W Fo G (goM r n δ) D) : wMany X.K W D l (M.ec n) none σ H := by
  induction h with
  | nil => exact q G σ H .refl er
  | @cons x c b0 suite np pos' hds sub F r l hc hsub hsu h ih =>
    unfold goM at q
    cases y : sub n with
    | none => simp only [y] at q; exact False.elim q
    | some b =>
      simp only [y] at q
      refine ⟨b, hsub n b y, fun eb a na => ?_, fun eb => ?_⟩
      · subst eb
        exact ⟨Fo, G, δ, er, PF.noX q⟩
      · subst eb
        exact ih q
theorem ds_tryM {h0 : ExceptHandler} {hds : List ExceptHandler} {r : List ((String → Option Bool) × Sv)} {l : List (Value × (Addr → Value → Option Addr → TS))} (hs : X.stack = X.env :: X.outer) (hf : X.env.frame = some X.env.locals) (tk : Takes X W)
    (hb : ∀ (W' : WX) (pn : List (Addr × Obj)) (xe : Value → Shared → Prop), Takes (X.tr pn xe) W' → PassesOwn (model X.prog X.w) X.A X.env xe → PSs (X.tr pn xe) body (tS (kwX X) M W' F1))
    (hh : HdsD X M (h0 :: hds) r l) : PS X (.Try body (h0 :: hds) [] [] pos) (tS (kwX X) M W (sTryM r F1)) := by
  refine PS.imp (ps_try_many hs hf tk hb hh.ok) fun D σ H ⟨Fo, G, δ, er, q⟩ => ⟨Fo, G, δ, er, ?_⟩
  unfold sTryM at q
  cases z : F1 δ with
  | next δ' => rw [z] at q; exact q
  | brk δ' => rw [z] at q; exact q
  | cont δ' => rw [z] at q; exact q
  | ret d => rw [z] at q; exact q
  | bad => rw [z] at q; exact q
  | exc n δ' =>
    rw [z] at q
    intro G' σ' H' l' er'
    exact hh.go er' (PF.mono l' q)
end

/-! ### sum, max, min of ints -/
def asInts : List D → Option (List Int)
  | [] => some []
  | .int i :: r => (asInts r).map fun l => i :: l
  | _ :: _ => none
theorem asInts_rep {K : Kw} {G : Hp} : ∀ {ds : List D} {ns : List Int} {vs : List V}, asInts ds = some ns → Reps K G ds vs → vs = ns.map V.int
  | [], _, _, h, r => by cases h; cases r; rfl
  | d :: ds, ns, _, h, ⟨v, r, e, h1, h2⟩ => by
    cases d with
    | int i =>
      unfold asInts at h
      cases z : asInts ds with
      | none => rw [z] at h; cases h
      | some l =>
        rw [z] at h
        cases h
        subst e
        cases h1
        rw [asInts_rep z h2]; rfl
    | _ => cases h
def sumL : List Int → Int
  | [] => 0
  | i :: l => i + sumL l
theorem sumL_eq : ∀ l : List Int, l.sum = sumL l
  | [] => rfl
  | i :: l => by rw [List.sum_cons, sumL_eq l]; rfl
def maxL : List Int → Option Int
  | [] => none
  | i :: l => match maxL l with
    | some m => some (if i < m then m else i)
    | none => some i
theorem maxL_ok : ∀ {l : List Int} {m : Int}, m ∈ l → (∀ y, y ∈ l → y ≤ m) → maxL l = some m
  | i :: l, m, h, g => by
    unfold maxL
    cases z : maxL l with
    | none =>
      cases l with
      | nil => rcases List.mem_cons.mp h with e | h
               · rw [e]
               · cases h
      | cons j l => unfold maxL at z; split at z <;> cases z
    | some n =>
      have key : n ∈ l ∧ ∀ y, y ∈ l → y ≤ n := by
        clear h g
        induction l generalizing n with
        | nil => cases z
        | cons j l ih =>
          unfold maxL at z
          cases z2 : maxL l with
          | none =>
            rw [z2] at z
            cases z
            cases l with
            | nil => exact ⟨List.mem_cons_self, fun y hy => by rcases List.mem_cons.mp hy with e | hy; exact Int.le_of_eq e; cases hy⟩
            | cons j' l => unfold maxL at z2; split at z2 <;> cases z2
          | some n' =>
            rw [z2] at z
            obtain ⟨k1, k2⟩ := ih n' z2
            injection z with z
            subst z
            by_cases hj : j < n'
            · rw [if_pos hj]
              exact ⟨List.mem_cons_of_mem _ k1, fun y hy => by rcases List.mem_cons.mp hy with e | hy; omega; exact k2 y hy⟩
            · rw [if_neg hj]
              exact ⟨List.mem_cons_self, fun y hy => by rcases List.mem_cons.mp hy with e | hy; omega; have := k2 y hy; omega⟩
      have h1 := g i List.mem_cons_self
      have h2 := g n (List.mem_cons_of_mem _ key.1)
      show some (if i < n then n else i) = some m
      rcases List.mem_cons.mp h with e | h
      · subst e
        by_cases hi : m < n
        · omega
        · rw [if_neg hi]
      · have h3 := key.2 m h
        have : n = m := by omega
        subst this
        by_cases hi : i < n
        · rw [if_pos hi]
        · rw [if_neg hi]; congr 1; omega
def sumD : List D → Option D := a1 (lstO fun xs => (asInts xs).map fun ns => .int (sumL ns))
def maxD : List D → Option D := a1 (lstO fun xs => (asInts xs).bind fun ns => (maxL ns).map .int)
section
variable {X : Cx} {M : Mo} {W : WX} {pos : Pos} {a : Expr} {f : Ev}
theorem cs_sum : CallS (kwX X) (rSum X.K) sumD := fun tp G H ds vs Q l r q => by
  obtain ⟨y, u, rfl, rfl, ru, q⟩ := a1_of q r
  obtain ⟨xs, p, ws, rfl, rfl, s, rs, q⟩ := lstO_of q ru
  cases z : asInts xs with
  | none => rw [z] at q; exact False.elim q
  | some ns =>
    rw [z] at q
    have e := asInts_rep z rs
    subst e
    exact ⟨p, ns, rfl, l.sqL s, by rw [sumL_eq]; exact QX.at q l rfl⟩
theorem cs_max : CallS (kwX X) (rMax X.K) maxD := fun tp G H ds vs Q l r q => by
  obtain ⟨y, u, rfl, rfl, ru, q⟩ := a1_of q r
  obtain ⟨xs, p, ws, rfl, rfl, s, rs, q⟩ := lstO_of q ru
  cases z : asInts xs with
  | none => rw [z] at q; exact False.elim q
  | some ns =>
    rw [z] at q
    have e := asInts_rep z rs
    subst e
    replace q : QX (kwX X) tp G H ((maxL ns).map .int) Q := q
    refine ⟨p, ns, rfl, l.sqL s, ?_, fun m h1 h2 => ?_⟩
    · cases ns with
      | nil => exact False.elim q
      | cons _ _ => simp
    · rw [maxL_ok h1 h2] at q
      exact QX.at q l rfl
theorem bt_sum : bootBuiltins "sum" = some (.builtin "sum") := by decide +kernel
theorem bt_max : bootBuiltins "max" = some (.builtin "max") := by decide +kernel
theorem bSum {p : Pos} (hc : X.calm = true) (hm : X.mg "sum" = none) (ha : PE X a (tE (kwX X) M W f)) (hg : Gl X "sum" := by rfl) (he : starEach [a] X.env = (false, eval a X.env) :: starEach [] X.env := by rfl) : PE X (.Call (.Name "sum" p) [a] [] pos) (tE (kwX X) M W (eB sumD (aCons f aNil))) :=
  de_callB (cr_sum hc) cs_sum hg hm bt_sum (da_cons ha da_nil he) (by decide) (by decide) he
end
/-! ### max(a, b), min(a, b) -/
def max2D : List D → Option D := a2 fun x y => intO (fun i => intO (fun j => some (.int (if j > i then j else i))) y) x
section
variable {X : Cx} {M : Mo} {W : WX} {pos : Pos} {a b : Expr} {f g : Ev}
theorem cs_max2 : CallS (kwX X) (fun xs H Q => ∃ i j, xs = [.int i, .int j] ∧ Q (.int (if j > i then j else i)) H) max2D := fun tp G H ds vs Q l r q => by
  obtain ⟨x, y, t, u, rfl, rfl, rt, ru, q⟩ := a2_of q r
  obtain ⟨i, rfl, rfl, q⟩ := intO_of q rt
  obtain ⟨j, rfl, rfl, q⟩ := intO_of q ru
  exact ⟨i, j, rfl, q.at l rfl⟩
theorem bMax2 {p : Pos} (hc : X.calm = true) (hm : X.mg "max" = none) (ha : PE X a (tE (kwX X) M W f)) (hb : PE X b (tE (kwX X) M W g)) (hg : Gl X "max" := by rfl) (he : starEach [a, b] X.env = (false, eval a X.env) :: starEach [b] X.env := by rfl) (he2 : starEach [b] X.env = (false, eval b X.env) :: starEach [] X.env := by rfl) (hpl : (backTo pos (starEach [b] X.env)).any (·.1) = false := by rfl) : PE X (.Call (.Name "max" p) [a, b] [] pos) (tE (kwX X) M W (eB max2D (aCons f (aCons g aNil)))) :=
  de_callB (call_max2 hc) cs_max2 hg hm bt_max (da_cons ha (da_cons hb da_nil he2) he) (by decide) (by decide) he hpl
end
end Dl

set_option Elab.async false
set_option linter.all false
set_option maxRecDepth 100000
set_option maxHeartbeats 2000000
/-! List comprehensions of two clauses. -/
namespace Dl
open PySem PySem.Spec PyProof.Rows L2
section
variable {K : Kw} {tp : Tb} {Fo G H G' H' : Hp} {δ : Env} {σ : L2.St}
end
section
variable {X : Cx} {M : Mo} {W : WX} {pos : Pos}
end
end Dl

set_option Elab.async false
set_option linter.all false
set_option maxRecDepth 100000
set_option maxHeartbeats 2000000
/-! sorted(..) of ints; list(..) of a dict's keys. -/
namespace Dl
open PySem PySem.Spec PyProof.Rows L2

/-! ### ints in order -/
section
variable {X : Cx} {M : Mo} {W : WX} {pos : Pos} {a : Expr} {f : Ev}
theorem bt_sorted : bootBuiltins "sorted" = some (.builtin "sorted") := by decide +kernel
end

/-! ### list(d), d a dict -/
section
variable {X : Cx} {M : Mo} {W : WX} {pos : Pos} {a : Expr} {f : Ev}
end

/-! ### a test a if t else b -/
def tIf' (t u v : Tv) : Tv := fun δ => t δ >>= fun x => match x with
  | true => u δ
  | false => v δ
section
variable {X : Cx} {M : Mo} {W : WX} {pos : Pos} {a b c : Expr} {t u v : Tv}
end
end Dl

set_option Elab.async false
set_option linter.all false
set_option maxRecDepth 100000
set_option maxHeartbeats 2000000
namespace Dl
open PySem PySem.Spec PyProof.Rows L2
/-! ### a, b = x, y with plain names of the def: stored at once -/
def sPar (is : List Nat) (f : Env → R (List D)) : Sv := fun δ => bindF (f δ) δ fun ds => if ds.length = is.length then .next (setAll is ds δ) else .bad
section
variable {X : Cx} {M : Mo} {W : WX} {fs : Env → R (List D)}
end
end Dl

set_option Elab.async false
set_option linter.all false
set_option maxRecDepth 100000
set_option maxHeartbeats 2000000
/-! max and min of a tuple of ints. -/
namespace Dl
open PySem PySem.Spec PyProof.Rows L2
section
variable {prog : Program} {w : World} {A : Around} {E : Value → Shared → Prop} {s : Shared} {l : Addr} {its : List Value} {ns : List Int} {Q : Value → Shared → Prop}
theorem iter_intTup {xs : Array (Int × Tok)} {Q : Value → Shared → Prop} (hl : s.heap.IsTuple l (intItems xs))
    (h : ∀ s₂ : Shared, s₂ = { s with heap := s.heap.push { cls := .type "tuple_iterator", data := .fields #[.ref l, .int 0 0] } } →
      (s₂.heap.IsTupleIter s.heap.objs.size l 0 ∧ s₂.heap.IsTuple l (intItems xs)) → (∀ b ∈ [s.heap.objs.size, l], b < s₂.heap.objs.size) → l ≠ s.heap.objs.size → (∀ b o, s.heap.get? b = some o → s₂.heap.get? b = some o) → Q (.ref s.heap.objs.size) s₂) :
    wpAny (model prog w) A (pyIter (.ref l)) Q E s := by
  have hlt : l < s.heap.objs.size := by obtain ⟨_, e, _⟩ := hl; exact Heap.lt_size e
  refine wpAny_pyIter_tuple hl (h _ rfl ⟨⟨_, Heap.get?_push_size _ rfl, rfl, rfl⟩, hl.push _⟩ (fun b hb => ?_) (Nat.ne_of_lt hlt) fun b o e => Heap.get?_push_of_some _ e)
  show b < (s.heap.push _).objs.size
  rw [Heap.size_push]
  rcases List.mem_cons.mp hb with rfl | hb
  · exact Nat.lt_succ_self _
  · rcases List.mem_cons.mp hb with rfl | hb
    · exact Nat.lt_succ_of_lt hlt
    · cases hb
theorem max_rawT (hh : A.handled = none) (hl : s.heap.IsTuple l its.toArray) (hi : IntsAre its ns) (hne : 0 < ns.length)
    (h : ∀ h' tk M t', (∀ b o, s.heap.get? b = some o → h'.get? b = some o) → M ∈ ns → (∀ a, a ∈ ns → a ≤ M) → Q (.int M t') { s with heap := h', toks := tk }) : wpAny (model prog w) A (call (.builtin "max") [.ref l]) Q E s := by
  obtain ⟨xs, e⟩ := hi.allInts.items
  have hn : numsOf (intItems xs).toList = ns := by rw [← e]; exact hi.numsOf
  rw [nums_intItems] at hn
  subst hn
  rw [e] at hl
  have hsz : 0 < xs.size := by simpa using hne
  refine call_max_walk (iter_intTup hl fun s₂ e st hfp hlI hold => ?_)
  subst e
  refine ⟨_, _, _, _, _, _, _, rfl, Walks.tuple (A := A.in1) hh _ l hlI (intItems xs), st, hfp, by simpa [intItems] using hsz, CmpOf.ints_gt (numAt xs) (fun _ _ => intItems_at), fun v h' tk hP hk => ?_⟩
  obtain ⟨t, rfl⟩ := intItems_at hP
  have hsi : (intItems xs).size = xs.size := by simp [intItems]
  rw [hsi]
  obtain ⟨h1, h2⟩ := argBest_gt (numAt xs) (xs.size - 1)
  refine h h' tk _ t (fun b o e => hk b o (fun hm => ?_) (hold b o e)) ?_ fun a ha => ?_
  · rcases List.mem_cons.mp hm with e1 | hm
    · exact absurd (e1 ▸ Heap.lt_size e) (Nat.lt_irrefl _)
    · cases hm
  · rw [numAt_eq]; exact PySem.getD_mem (by rw [List.length_map, Array.length_toList]; omega)
  · obtain ⟨j, hj, rfl⟩ := mem_getD ha
    rw [List.length_map, Array.length_toList] at hj
    rw [← numAt_eq]; exact h2 j (by omega)
end
section
variable {X : Cx}
def rMaxA (K : PySem.W.Frag) : List V → Hp → VK → Prop := fun vs H Q => ∃ (a : Addr) (ns : List Int), vs = [V.ref a] ∧ (SqL K H a (ns.map V.int) ∨ SqT K H a (ns.map V.int)) ∧ 0 < ns.length ∧ ∀ m, m ∈ ns → (∀ y, y ∈ ns → y ≤ m) → Q (.int m) H
theorem cr_maxA (hc : X.calm = true) : CallR X (.builtin "max") (rMaxA X.K) := by
  intro pins s σ H vs us Q I r h
  obtain ⟨a, ns, rfl, hs | hs, hne, q⟩ := h
  · exact cr_max hc pins s σ H _ us Q I r ⟨a, ns, rfl, hs, hne, q⟩
  · obtain ⟨its, rv, hl, _⟩ := I.tuple hs
    rw [Vals.ref1 r]
    exact max_rawT (I.ok.hd hc) hl rv.ints hne fun h' tk m t' hk h1 h2 => ⟨.int _, H, I.kept hk, ⟨_, rfl⟩, q m h1 h2⟩
end
def seqO (f : List D → Option D) (d : D) : Option D := match d with
  | .lst x => f x
  | .tup x => f x
  | _ => none
def maxAD : List D → Option D := a1 (seqO fun xs => (asInts xs).bind fun ns => (maxL ns).map .int)
section
variable {X : Cx} {M : Mo} {W : WX} {pos : Pos} {a : Expr} {f : Ev}
theorem cs_maxA : CallS (kwX X) (rMaxA X.K) maxAD := fun tp G H ds vs Q l r q => by
  obtain ⟨y, u, rfl, rfl, ru, q⟩ := a1_of q r
  cases y with
  | lst xs =>
    obtain ⟨p, ns, e, h1, h2⟩ := cs_max tp G H [.lst xs] [u] Q l ⟨u, [], rfl, ru, rfl⟩ q
    exact ⟨p, ns, e, .inl h1, h2⟩
  | tup xs =>
    obtain ⟨p, ws, rfl, s, rs⟩ := ru
    replace q : QX (kwX X) tp G H ((asInts xs).bind fun ns => (maxL ns).map .int) Q := q
    cases z : asInts xs with
    | none => rw [z] at q; exact False.elim q
    | some ns =>
      rw [z] at q
      have e := asInts_rep z rs
      subst e
      replace q : QX (kwX X) tp G H ((maxL ns).map .int) Q := q
      refine ⟨p, ns, rfl, .inr (l.sqT s.1), ?_, fun m h1 h2 => ?_⟩
      · cases ns with
        | nil => exact False.elim q
        | cons _ _ => simp
      · rw [maxL_ok h1 h2] at q
        exact QX.at q l rfl
  | _ => exact False.elim q
theorem bMaxA {p : Pos} (hc : X.calm = true) (hm : X.mg "max" = none) (ha : PE X a (tE (kwX X) M W f)) (hg : Gl X "max" := by rfl) (he : starEach [a] X.env = (false, eval a X.env) :: starEach [] X.env := by rfl) : PE X (.Call (.Name "max" p) [a] [] pos) (tE (kwX X) M W (eB maxAD (aCons f aNil))) :=
  de_callB (cr_maxA hc) cs_maxA hg hm bt_max (da_cons ha da_nil he) (by decide) (by decide) he
end
end Dl

set_option Elab.async false
set_option linter.all false
set_option maxRecDepth 100000
set_option maxHeartbeats 2000000
/-! list(reversed(t)), t a tuple. -/
namespace RT
open PySem PySem.Spec PyProof.Rows
theorem Walks.rt {prog : Program} {w : World} {A : Around} (hh : A.handled = none) (I l : Addr) (hne : l ≠ I) (items : Array Value) (hsz : items.size ≤ sizeLine) :
    Walks prog w A I [I, l] [I] items.size (fun i v => items[items.size - 1 - i]? = some v) (fun i h => i ≤ items.size ∧ IsRt h I l ((items.size : Int) - 1 - (i : Int)) ∧ IsTup h l items) where
  sub := fun b hb => by simp at hb; simp [hb]
  frame := fun _ _ _ x hk => ⟨x.1, x.2.1.at fun o e => hk I (by simp) o e, by
    obtain ⟨o, ho, r⟩ := x.2.2
    exact ⟨o, hk l (by simp) o ho, r⟩⟩
  item := fun i s Q E hi x hQ => by
    have e : (items.size : Int) - 1 - (i : Int) = ((items.size - 1 - i : Nat) : Int) := by omega
    have hit := x.2.1
    rw [e] at hit
    have hx : items[items.size - 1 - i]? = some (items[items.size - 1 - i]'(by omega)) := Array.getElem?_eq_getElem (by omega)
    refine next_rt_item hit x.2.2 hx hsz fun h' hit' hs' => ?_
    have e2 : ((items.size - 1 - i : Nat) : Int) - 1 = (items.size : Int) - 1 - ((i + 1 : Nat) : Int) := by omega
    rw [e2] at hit'
    refine hQ _ h' _ hx ⟨hi, hit', ?_⟩ fun b o hb eo => hs'.extBut b o (fun h => hb (by simp [h])) eo
    obtain ⟨o, ho, r⟩ := x.2.2
    exact ⟨o, (hs'.2 l hne).trans ho, r⟩
  done := fun s Q E x hQ => by
    have e : (items.size : Int) - 1 - (items.size : Int) = -1 := by omega
    have hit := x.2.1
    rw [e] at hit
    exact next_rt_end hh hit fun h' he' => hQ h' s.toks fun b o hb eo => he' b o (fun h => hb (by simp [h])) eo
  self := fun _ _ _ _ x hQ => iter_rt x.2.1 hQ
section
variable {prog : Program} {w : World} {A : Around} {E : Value → Shared → Prop} {s : Shared}
end
end RT
namespace RT
open PySem PySem.Spec PyProof.Rows L2
end RT
namespace Dl
open PySem PySem.Spec PyProof.Rows L2
section
variable {X : Cx} {M : Mo} {W : WX} {pos : Pos} {a : Expr} {f : Ev}
end
end Dl

set_option Elab.async false
set_option linter.all false
set_option maxRecDepth 100000
set_option maxHeartbeats 2000000
/-! any(..), all(..) of a generator expression with two clauses. -/
namespace Dl
open PySem PySem.Spec PyProof.Rows L2
open Sem (wp)

section
variable {X : Cx} {pins : List (Addr × Obj)} {σ : L2.St}
end
end Dl

namespace Dl
open PySem PySem.Spec PyProof.Rows L2
open Sem (wp)
section
variable {M : Model} {A : Around} {E : Value → Shared → Prop} {s : Shared}
end
section
variable {prog : Program} {w : World} {A : Around}
end
section
variable {X : Cx} {pins : List (Addr × Obj)} {σ : L2.St} {H : Hp} {s : Shared}
end
end Dl

/-! ### over data -/
namespace Dl
open PySem PySem.Spec PyProof.Rows L2
section
variable {X : Cx} {M : Mo} {W : WX} {pos : Pos}
end
end Dl

set_option Elab.async false
set_option linter.all false
set_option maxRecDepth 100000
set_option maxHeartbeats 2000000
/-! sorted(..) of tuples of ints and texts; a list of one's own handed on by x = y. -/
namespace SrtT
open PySem PySem.Spec PyProof.Rows SrtO Srt
section
variable {prog : Program} {w : World} {A : Around} {E : Value → Shared → Prop} {s : Shared}
def IsSq (h : Heap) (l : Addr) (items : Array Value) : Prop := ∃ o, h.get? l = some o ∧ (o.cls = .type "list" ∨ o.cls = .type "tuple") ∧ ∃ n, o.data = .seq items n
theorem collect_sq {l : Addr} {vs : List Value} {Q : List Value → Shared → Prop} (hl : IsSq s.heap l vs.toArray)
    (h : Q vs { s with heap := (s.heap.push (seqObj "list" #[] 0)).update s.heap.objs.size (Obj.mapSeq (· ++ vs.toArray)) }) (hsz : vs.length ≤ sizeLine) :
    wpAny (model prog w) A (collect (.ref l)) Q E s := by
  obtain ⟨o, ho, hc, n, hd⟩ := id hl
  unfold collect
  refine wpAny_bind (wpAny_runValue (codeAny_builtin entry_proto_collect' ?_))
  show wpAny _ _ (do again (.builtin "list.__iadd__" ⟨[← newList [], .ref l], []⟩)) _ _ s
  refine wpAny_bind (wpAny_newList (wpAny_pure ⟨Code.quiet_builtin _ (by decide +kernel), codeAny_builtin entry_list_iadd' ?_⟩))
  show wpAny _ _ (Builtin.List.listExtendWith (.ref s.heap.objs.size) (.ref l) (.ref s.heap.objs.size)) _ _ { s with heap := s.heap.push (seqObj "list" #[] 0) }
  unfold Builtin.List.listExtendWith
  have ho' : (s.heap.push (seqObj "list" #[] 0)).get? l = some o := Heap.get?_push_of_some _ ho
  have fin : ∀ t : Value, (t = .type "list" ∨ t = .type "tuple") → (Builtin.List.listSameRef (.ref s.heap.objs.size) (.ref l) || t == .type "list" || t == .type "tuple") = true := fun t ht => by
    rcases ht with rfl | rfl
    · have : (Value.type "list" == Value.type "list") = true := by rfl
      rw [this]; simp
    · have : (Value.type "tuple" == Value.type "tuple") = true := by rfl
      rw [this]; simp
  have ty : ∃ T : String, (T = "list" ∨ T = "tuple") ∧ o.cls = .type T := by
    rcases hc with hc | hc
    · exact ⟨_, .inl rfl, hc⟩
    · exact ⟨_, .inr rfl, hc⟩
  obtain ⟨T, hT, hcT⟩ := ty
  refine wpAny_bind (wpAny_typeOf (T := T) ⟨o, ho', hcT⟩ ?_)
  rw [if_pos (fin _ (by rcases hT with rfl | rfl; exact .inl rfl; exact .inr rfl))]
  refine wpAny_bind (listItems_at ho' hd ?_)
  refine wpAny_bind (listItems_at (xs := #[]) (n := 0) (Heap.get?_push_size _ rfl) rfl ?_)
  rw [if_neg (by simp)]
  refine wpAny_bind (listUpdate_at (xs := #[]) (n := 0) (Heap.get?_push_size _ rfl) rfl ?_ (Nat.zero_le _) (by show (#[] ++ vs.toArray).size ≤ sizeLine + 1; simp only [Array.size_append, List.size_toArray, List.length_nil]; omega))
  refine wpAny_pure ?_
  show wpAny (model prog w) A (do
      let o ← load s.heap.objs.size
      match o.data with
      | .seq xs _ => pure xs.toList
      | _ => unsupported "internal:collect") Q E { s with heap := (s.heap.push (seqObj "list" #[] 0)).update s.heap.objs.size (Obj.mapSeq (· ++ vs.toArray)) }
  refine wpAny_bind (wpAny_load (get?_update_seq (Heap.get?_push_size _ rfl) _) ?_)
  show wpAny _ _ (pure ((#[] : Array Value) ++ vs.toArray).toList) Q E _
  rw [show ((#[] : Array Value) ++ vs.toArray).toList = vs by simp]
  exact wpAny_pure h
end
end SrtT

namespace L2
open PySem PySem.Spec PyProof.Rows
section
variable {X : Cx} {shape : Nat → Bool}
end
end L2
namespace Dl
open PySem PySem.Spec PyProof.Rows L2
/-! ### in the order of a key -/
theorem reps_zip {K : Kw} {G : Hp} : ∀ {ds : List D} {vs : List V}, Reps K G ds vs → ∃ L : List (D × V), L.map (·.1) = ds ∧ L.map (·.2) = vs ∧ ∀ p ∈ L, Rep K G p.1 p.2
  | [], _, h => by cases h; exact ⟨[], rfl, rfl, fun p hp => by cases hp⟩
  | d :: ds, _, ⟨v, r, e, h1, h2⟩ => by
    subst e
    obtain ⟨L, l1, l2, l3⟩ := reps_zip h2
    exact ⟨(d, v) :: L, by rw [List.map_cons, l1], by rw [List.map_cons, l2], fun p hp => by
      rcases List.mem_cons.mp hp with rfl | hp
      · exact h1
      · exact l3 p hp⟩
theorem reps_unzip {K : Kw} {G : Hp} : ∀ {L : List (D × V)}, (∀ p ∈ L, Rep K G p.1 p.2) → Reps K G (L.map (·.1)) (L.map (·.2))
  | [], _ => rfl
  | p :: L, h => ⟨p.2, L.map (·.2), rfl, h p List.mem_cons_self, reps_unzip fun q hq => h q (List.mem_cons_of_mem _ hq)⟩
section
variable {X : Cx} {M : Mo} {W : WX} {pos : Pos} {a : Expr} {f : Ev} {shape : Nat → Bool}
end
/-! ### x = y, a thing of one's own handed on -/
section
variable {K : Kw} {tp : Tb} {Fo G H : Hp} {δ : Env} {σ : L2.St}
theorem ER.move (e : ER K tp Fo G H δ σ) {i j : Nat} (hij : i ≠ j) {o : O} {v : V} (h : δ[j]? = some (.own o)) (hv : σ[j]? = some (some v)) : ER K tp Fo G H ((δ.set j .no).set i (.own o)) (σ.set i (some v)) where
  gh := e.gh
  fh := e.fh
  fg := e.fg
  tb := e.tb
  len := by rw [List.length_set, List.length_set, List.length_set]; exact e.len
  val := fun k c g => by
    rcases get_set_cases g with ⟨_, q, _⟩ | ⟨n, g⟩
    · cases q
    · rcases get_set_cases g with ⟨_, q, _⟩ | ⟨n2, g⟩
      · cases q
      · obtain ⟨w, h1, h2⟩ := e.val k c g
        exact ⟨w, by rw [List.getElem?_set_ne (Ne.symm n)]; exact h1, h2⟩
  own := by
    obtain ⟨ft, ow, sp⟩ := e.own
    refine ⟨fun k => if k = i then ft j else ft k, fun k c g => ?_, fun k m c d g g' ne => ?_⟩
    · rcases get_set_cases g with ⟨rfl, q, l⟩ | ⟨n, g⟩
      · cases q
        obtain ⟨p, h1, h2⟩ := ow j o h
        rw [hv] at h1
        cases h1
        rw [List.length_set] at l
        exact ⟨p, by rw [List.getElem?_set_self (by rw [← e.len]; exact l)], by show OwnAt K Fo G H o p (if k = k then ft j else ft k); rw [if_pos rfl]; exact h2⟩
      · rcases get_set_cases g with ⟨_, q, _⟩ | ⟨n2, g⟩
        · cases q
        · obtain ⟨p, h1, h2⟩ := ow k c g
          exact ⟨p, by rw [List.getElem?_set_ne (Ne.symm n)]; exact h1, by show OwnAt K Fo G H c p (if k = i then ft j else ft k); rw [if_neg n]; exact h2⟩
    · have low : ∀ {k c}, ((δ.set j .no).set i (.own o))[k]? = some (.own c) → k ≠ i → k ≠ j ∧ δ[k]? = some (.own c) := fun {k c} g n => by
        rcases get_set_cases g with ⟨z, _, _⟩ | ⟨_, g⟩
        · exact absurd z n
        · rcases get_set_cases g with ⟨_, q, _⟩ | ⟨n2, g⟩
          · cases q
          · exact ⟨n2, g⟩
      show ∀ a ∈ (if k = i then ft j else ft k), a ∉ (if m = i then ft j else ft m)
      by_cases hk : k = i
      · have hm : m ≠ i := fun z => ne (hk.trans z.symm)
        obtain ⟨m2, g2⟩ := low g' hm
        rw [if_pos hk, if_neg hm]
        exact sp j m o d h g2 (Ne.symm m2)
      · obtain ⟨k2, g1⟩ := low g hk
        rw [if_neg hk]
        by_cases hm : m = i
        · rw [if_pos hm]
          exact sp k j c o g1 h k2
        · obtain ⟨m2, g2⟩ := low g' hm
          rw [if_neg hm]
          exact sp k m c d g1 g2 ne
end
section
variable {X : Cx} {M : Mo} {W : WX} {pos : Pos}
end
end Dl

set_option Elab.async false
set_option linter.all false
set_option maxRecDepth 100000
set_option maxHeartbeats 2000000
/-! {k: v for ..}, d.get(k, x), dict(pairs), displays of several pairs. -/
namespace Dl
open PySem PySem.Spec PyProof.Rows L2

/-! ### {k: v for target in iter if ..} -/
section
variable {X : Cx} {M : Mo} {W : WX} {pos : Pos}
end
end Dl

set_option Elab.async false
set_option linter.all false
set_option maxRecDepth 100000
set_option maxHeartbeats 2000000
/-! d.get(k, x), dict(t) of a tuple of pairs, displays of several pairs. -/
namespace Dl
open PySem PySem.Spec PyProof.Rows L2

/-! ### d.get(k, x) -/
section
variable {X : Cx} {M : Mo} {W : WX} {apos cpos : Pos} {o e e2 : Expr} {f g h : Ev} {k : Nat}
end
end Dl

/-! ### dict(t) of a tuple of pairs -/
namespace DcT
open PySem PySem.Spec PyProof.Rows L2
section
variable {prog : Program} {w : World} {A : Around} {E : Value → Shared → Prop}
end
section
variable {X : Cx}
end
end DcT

set_option Elab.async false
set_option linter.all false
set_option maxRecDepth 100000
set_option maxHeartbeats 2000000
/-! pairs put one by one: dict(t), displays. -/
namespace Dl
open PySem PySem.Spec PyProof.Rows L2
/-! ### pairs put one by one -/
section
variable {K : Kw} {G H : Hp}
end
section
variable {X : Cx}
variable {M : Mo} {W : WX} {pos : Pos} {a : Expr} {f : Ev}
/-! ### {k: v, ..} -/
inductive PDs (X : Cx) (M : Mo) (W : WX) : List (Option Expr) → List Expr → List (Ev × Ev) → Prop
  | nil : PDs X M W [] [] []
  | cons {k v : Expr} {ks : List (Option Expr)} {vs : List Expr} {fk fv : Ev} {l : List (Ev × Ev)} : PE X k (tE (kwX X) M W fk) → PE X v (tE (kwX X) M W fv) → PDs X M W ks vs l → PDs X M W (some k :: ks) (v :: vs) ((fk, fv) :: l)
theorem PDs.facts {ks : List (Option Expr)} {vs : List Expr} {l : List (Ev × Ev)} (h : PDs X M W ks vs l) : ks.all (·.isSome) = true ∧ ks.length = vs.length ∧ ks.length = l.length := by
  induction h with
  | nil => exact ⟨rfl, rfl, rfl⟩
  | cons _ _ _ ih =>
    obtain ⟨a, b, c⟩ := ih
    exact ⟨by simpa using a, by simp [b], by simp [c]⟩
theorem PX.base {α : Type} {σ : L2.St} {G H G' H' : Hp} {r : R α} {k : Hp → Hp → α → Prop} (t : Tr M.tp G H G' H') (q : PX M W σ G H r k) : PX M W σ G' H' r k := by
  cases r with
  | ok a => exact fun G2 H2 t2 => q G2 H2 (t.trans t2)
  | exc c => exact fun G2 H2 t2 => q G2 H2 (t.trans t2)
  | bad => exact q
end
end Dl

set_option Elab.async false
set_option linter.all false
set_option maxRecDepth 100000
set_option maxHeartbeats 2000000
/-! Sets of ints and texts; set comprehensions of one and of two clauses. -/
namespace Sx
open PySem PySem.Spec PyProof.Rows L2 PpSet

def keyM (e : Int × Value) : Key := match e.2 with
  | .int k _ => .inl k
  | .str x _ => .inr x
  | _ => .inl 0
def GoodM (w : World) (e : Int × Value) : Prop := ∃ k, keyIs k e.2 = true ∧ e.1 = keyH w k
/-- the set at a: its members ks, each once, in any order -/
def SetM (w : World) (h : Heap) (a : Addr) (ks : List Key) : Prop :=
  ∃ o es ep t, h.get? a = some o ∧ o.ExactSet ∧ o.data = .set es ep t ∧ (∀ e ∈ es.toList, GoodM w e) ∧ ks.Nodup ∧ (es.toList.map keyM).Perm ks ∧
    es.size < scanBound ∧ t.fits es.size = true ∧ Ris t.place.toList ∧ (w.params.followText "set-order" = true ∨ t.led = true)
section
variable {P : Program} {w : World} {h h' : Heap} {a : Addr} {ks : List Key}
theorem SetM.at (R : SetM w h a ks) (k : ∀ o, h.get? a = some o → h'.get? a = some o) : SetM w h' a ks := by
  obtain ⟨o, es, ep, t, ho, r⟩ := R
  exact ⟨o, es, ep, t, k o ho, r⟩
end
section
variable {P : Program} {w : World} {A : Around} {E : Value → Shared → Prop} {s : Shared} {a : Addr} {ks : List Key}
end
section
variable {X : Cx}
end
section
variable {X : Cx}
end
section
variable {prog : Program} {w : World} {A : Around} {R : Result → Shared → Prop} {s : Shared} {elt t0 i0 t1 i1 : Expr} {ifs0 ifs1 : List Expr} {scope : Scope} {pos : Pos} {it acc : Value} {env : Env}
end

section
variable {X : Cx}
end
end Sx

set_option Elab.async false
set_option linter.all false
set_option maxRecDepth 100000
set_option maxHeartbeats 2000000
/-! sorted(..) of a list or a tuple of any alike data, and of a set of ints or texts. -/
namespace SrtD
open PySem PySem.Spec PyProof.Rows PySem.W SrtT SrtO Srt
section
variable {prog : Program} {w : World} {A : Around} {E : Value → Shared → Prop} {s : Shared}
theorem sorted_of_sq {l : Addr} {vs : List Value} {Q : Value → Shared → Prop} (hl : IsSq s.heap l vs.toArray) (hL : vs.length ≤ sizeLine)
    (body : ∀ E' : Value → Shared → Prop, wpAny (model prog w) A.in1.in1 (Builtin.«list.sort» ⟨[.ref (s.heap.objs.size + 1)], []⟩) (fun f s' => f = .done (.ret .none) ∧ Q (.ref (s.heap.objs.size + 1)) s') E' { s with heap := copyHeap s.heap vs }) :
    wpAny (model prog w) A (call (.builtin "sorted") [.ref l]) Q E s := by
  refine Calls.call_function_entry kind_sorted plain_sorted entry_sorted (args_sorted1 _) ?_
  unfold Builtin.«sorted»
  refine wpAny_bind (m := checkCount "sorted" 1 1 _) (wpAny_pure ?_)
  refine wpAny_bind (collect_sq hl ?_ hL)
  refine wpAny_bind (wpAny_newList ?_ hL)
  have hsz : ((s.heap.push (seqObj "list" #[] 0)).update s.heap.objs.size (Obj.mapSeq (· ++ vs.toArray))).objs.size = s.heap.objs.size + 1 := by
    rw [Heap.size_update, size_push']
  show wpAny _ _ _ _ _ { s with heap := copyHeap s.heap vs }
  rw [hsz]
  refine wpAny_bind (wpAny_holding (wpAny_call_entry slot_list_sort ⟨_, copyHeap_at s.heap vs, rfl⟩ entry_list_sort ?body (args_list_sort _)))
  case body =>
    show wpAny (model prog w) A.in1.in1 (Builtin.«list.sort» ⟨[.ref (s.heap.objs.size + 1)], []⟩) _ _ _
    refine wpAny_mono (body _) (fun f s' hf => ?_) fun _ _ e => e
    obtain ⟨rfl, hq⟩ := hf
    exact ⟨_, rfl, wpAny_pure ⟨_, rfl, hq⟩⟩
theorem sorted_sqD {β : Type} {vs : List Value} {bs : List β} {enc : β → PyData} {R : Value → β → Prop} {l : Addr} {Q : Value → Shared → Prop} (hl : IsSq s.heap l vs.toArray) (e : EachIs R vs bs) (er : EachIs (fun v b => ∃ as, Reads s.heap v (enc b) as) vs bs) (hal : AllAlike (bs.map enc)) (hk : Sortable (bs.map enc)) (hL : bs.length ≤ sizeLine)
    (hu : ∀ b, b ∈ bs → A.units + 2 + (enc b).depth < cLine) (h : ∀ out, out.length = bs.length → EachIs R out (bs.mergeSort (dataLe false enc)) → Q (.ref (s.heap.objs.size + 1)) { s with heap := sortedAll s.heap vs (List.toArray out) }) :
    wpAny (model prog w) A (call (.builtin "sorted") [.ref l]) Q E s := by
  have er' : EachIs (fun v b => ∃ as, Reads (sortingHeap (copyHeap s.heap vs) (s.heap.objs.size + 1) vs) v (enc b) as) vs bs := er.mono fun _ _ ⟨as, r⟩ => ⟨as, PyProof.Rows.Reads.keeps (fun _ _ => sorting_copy_old) r⟩
  have hL' : vs.length ≤ sizeLine := by rw [e.length]; exact hL
  exact sorted_of_sq hl hL' fun _ => list_sort_vals (s := { s with heap := copyHeap s.heap vs }) (copyHeap_at s.heap vs)
    (SortsAt.data (s := { s with heap := sortingHeap (copyHeap s.heap vs) (s.heap.objs.size + 1) vs }) (each_map (R := fun v d => ∃ as, Reads (sortingHeap (copyHeap s.heap vs) (s.heap.objs.size + 1) vs) v d as) enc er') hal hk (bound_map hu)) hL'
    ⟨rfl, h _ (by rw [sortVals_length false rfl]; exact e.length) (sortVals_data false e er' hal)⟩
end
end SrtD
namespace L2
open PySem PySem.Spec PyProof.Rows PySem.W
/-- sorted(xs), xs a list or a tuple of alike data (their reading beside them) -/
def rSrtD (K : PySem.W.Frag) : List V → Hp → VK → Prop := fun vs H Q => ∃ (a : Addr) (L : List (PyData × V)), vs = [V.ref a] ∧ (SqL K H a (L.map (·.2)) ∨ SqT K H a (L.map (·.2))) ∧ (∀ p ∈ L, Dp K H p.2 p.1 ∧ p.1.depth ≤ 64) ∧ AllAlike (L.map (·.1)) ∧ Sortable (L.map (·.1)) ∧
  ∀ (p : Addr), H p = none → Q (.ref p) (upd H p (.lst ((L.mergeSort (dataLe false (·.1))).map (·.2))))
theorem each_vals {α : Type} (f : α → V) : ∀ {L : List α} {us : List Value}, Vals (L.map f) us → EachIs (fun u p => RelV (f p) u) us L
  | [], _, r => by cases r; exact .nil
  | p :: L, _, r => by
    cases r with
    | cons h t => exact .cons h (each_vals f t)
theorem vals_each {α : Type} (f : α → V) : ∀ {L : List α} {us : List Value}, EachIs (fun u p => RelV (f p) u) us L → Vals (L.map f) us
  | _, _, .nil => .nil
  | _, _, .cons h t => .cons h (vals_each f t)
section
variable {X : Cx}
theorem cr_srtD (hu : X.A.units + 130 < cLine) : CallR X (.builtin "sorted") (rSrtD X.K) := by
  intro pins s σ H vs us Q I r h
  obtain ⟨a, L, rfl, hs, hx, hal, hk, q⟩ := h
  obtain ⟨u, rfl, ru⟩ := vals1 r
  obtain rfl : u = Value.ref a := ru
  have hq : ∃ its : List Value, Vals (L.map (·.2)) its ∧ SrtT.IsSq s.heap a its.toArray ∧ (L.map (·.2)).length ≤ sizeLine := by
    rcases hs with hs | hs
    · obtain ⟨its, rv, hl, hz⟩ := I.list hs
      obtain ⟨o, ho, hc, n, hd⟩ := hl.isList
      exact ⟨its, rv, ⟨o, ho, .inl hc, n, hd⟩, hz⟩
    · obtain ⟨its, rv, hl, hz⟩ := I.tuple hs
      obtain ⟨o, ho, hc, n, hd⟩ := hl
      exact ⟨its, rv, ⟨o, ho, .inr hc, n, hd⟩, hz⟩
  obtain ⟨its, rv, hl, hz⟩ := hq
  rw [List.length_map] at hz
  have e := each_vals (fun p : PyData × V => p.2) rv
  have er : EachIs (fun v b => ∃ as, Reads s.heap v ((fun p : PyData × V => p.1) b) as) its L := (each_mem e).mono fun u p ⟨h1, h2⟩ => Dp.reads I p.1 p.2 u (hx p h2).1 h1
  refine SrtD.sorted_sqD hl e er hal hk hz (fun b hb => by have := (hx b hb).2; show X.A.units + 2 + b.1.depth < cLine; omega) fun out hlen he => ?_
  obtain ⟨n, hn⟩ : ∃ n, (sortedAll s.heap its out.toArray).get? (s.heap.objs.size + 1) = some (seqObj "list" out.toArray n) := sortedAll_at s.heap its out.toArray
  refine ⟨.ref (s.heap.objs.size + 1), upd H (s.heap.objs.size + 1) (.lst ((L.mergeSort (dataLe false (·.1))).map (·.2))), I.laid (t' := s.toks) (fun b o e => sortedAll_old e) (Nat.le_succ _) ⟨?_, out, n, vals_each (fun p : PyData × V => p.2) he, hn⟩, rfl, q _ (I.hok.fresh (Nat.le_succ _))⟩
  rw [List.length_map, List.length_mergeSort]
  exact hz
end
end L2
namespace Dl
open PySem PySem.Spec PyProof.Rows L2 PySem.W
/-! ### in order -/
def leqD (a b : D) : Bool := dataLe false D.py a b
def sortD (xs : List D) : List D := xs.mergeSort leqD
def isTupN : D → Bool
  | .tup (_ :: _) => true
  | _ => false
def isAtm : D → Bool
  | .int _ => true
  | .str _ => true
  | .lst _ => true
  | _ => false
def alkD (x y : D) : Bool := alike x.py y.py
def srtOk (xs : List D) : Bool := xs.all sh && xs.all (fun x => xs.all fun y => alkD x y) && (xs.all isTupN || xs.all isAtm)
def sortGL (xs : List D) : Option D := if srtOk xs = true then some (.lst (sortD xs)) else none
def sortGD : List D → Option D := a1 fun d => match d with
  | .lst xs => sortGL xs
  | .tup xs => sortGL xs
  | _ => none
section
variable {X : Cx} {M : Mo} {W : WX} {pos : Pos} {a : Expr} {f : Ev}
theorem merge_map {β γ : Type} (g : β → γ) (le : γ → γ → Bool) (l : List β) : (l.mergeSort fun a b => le (g a) (g b)).map g = (l.map g).mergeSort le :=
  List.map_mergeSort (fun _ _ _ _ => rfl)
theorem cs_sortG : CallS (kwX X) (rSrtD X.K) sortGD := fun tp G H ds vs Q l r q => by
  obtain ⟨y, u, rfl, rfl, ru, q⟩ := a1_of q r
  have core : ∀ (xs : List D) (p : Addr) (ws : List V), (SqL X.K H p ws ∨ SqT X.K H p ws) → Reps (kwX X) G xs ws → QX (kwX X) tp G H (sortGL xs) Q → rSrtD X.K [V.ref p] H Q := fun xs p ws s rs q => by
    unfold sortGL at q
    cases hall : srtOk xs with
    | false => rw [hall] at q; exact False.elim q
    | true =>
      rw [hall, if_pos rfl] at q
      unfold srtOk at hall
      rw [Bool.and_eq_true, Bool.and_eq_true, Bool.or_eq_true] at hall
      obtain ⟨⟨h1, h2⟩, h3⟩ := hall
      rw [List.all_eq_true] at h1 h2 h3
      obtain ⟨L3, e1, e2, hL⟩ := reps_zip rs
      have eL : (L3.map fun p => (p.1.py, p.2)).map (·.2) = ws := by rw [List.map_map]; exact e2
      have eD : (L3.map fun p => (p.1.py, p.2)).map (·.1) = xs.map D.py := by rw [← e1, List.map_map, List.map_map]; rfl
      refine ⟨p, L3.map fun p => (p.1.py, p.2), rfl, by rw [eL]; exact s, fun z hz => ?_, ?_, ?_, fun p' n => ?_⟩
      · obtain ⟨z, hz', rfl⟩ := List.mem_map.mp hz
        have hm : z.1 ∈ xs := by rw [← e1]; exact List.mem_map_of_mem hz'
        have hsh := h1 z.1 hm
        exact ⟨Rep.sh hsh (Rep.mono l _ _ (hL z hz')), SeqAt.depth_of_shaped hsh⟩
      · rw [eD]
        intro d hd d' hd'
        obtain ⟨x, hx, rfl⟩ := List.mem_map.mp hd
        obtain ⟨x', hx', rfl⟩ := List.mem_map.mp hd'
        exact List.all_eq_true.mp (h2 x hx) x' hx'
      · rw [eD]
        rcases h3 with h3 | h3
        · refine .inl fun d hd => ?_
          obtain ⟨x, hx, rfl⟩ := List.mem_map.mp hd
          have := h3 x hx
          cases x with
          | tup ys =>
            cases ys with
            | nil => cases this
            | cons b ys => exact ⟨_, _, by rw [D.py, D.pys]⟩
          | _ => cases this
        · refine .inr fun d hd => ?_
          obtain ⟨x, hx, rfl⟩ := List.mem_map.mp hd
          have := List.all_eq_true.mp h3 x hx
          cases x with
          | int _ => exact ⟨fun z => by simp [D.py] at z, fun ys z => by simp [D.py] at z⟩
          | str _ => exact ⟨fun z => by simp [D.py] at z, fun ys z => by simp [D.py] at z⟩
          | lst _ => exact ⟨fun z => by simp [D.py] at z, fun ys z => by simp [D.py] at z⟩
          | _ => cases this
      · have em : (L3.map fun p => (p.1.py, p.2)).mergeSort (dataLe false (·.1)) = (L3.mergeSort (dataLe false fun p => p.1.py)).map fun p => (p.1.py, p.2) := (merge_map (fun p : D × V => (p.1.py, p.2)) (dataLe false (·.1)) L3).symm
        have ed : (L3.mergeSort (dataLe false fun p => p.1.py)).map (·.1) = sortD xs := by rw [← e1]; exact merge_map (fun p : D × V => p.1) leqD L3
        rw [em, List.map_map]
        rw [← ed] at q
        exact QX.newLst q l (reps_unzip fun z hz => hL z ((List.mergeSort_perm L3 _).mem_iff.mp hz)) n
  cases y with
  | lst xs =>
    obtain ⟨p, ws, rfl, s, rs⟩ := ru
    exact core xs p ws (.inl (l.sqL s)) rs q
  | tup xs =>
    obtain ⟨p, ws, rfl, s, rs⟩ := ru
    exact core xs p ws (.inr (l.sqT s.1)) rs q
  | _ => exact False.elim q
theorem u130 {k : Nat} (hr : Room k X.A) : X.A.units + 130 < cLine := by have := hr.un; omega
theorem bSortG {k : Nat} {p : Pos} (hr : Room k X.A) (hm : X.mg "sorted" = none) (ha : PE X a (tE (kwX X) M W f)) (hg : Gl X "sorted" := by rfl) (he : starEach [a] X.env = (false, eval a X.env) :: starEach [] X.env := by rfl) : PE X (.Call (.Name "sorted" p) [a] [] pos) (tE (kwX X) M W (eB sortGD (aCons f aNil))) :=
  de_callB (cr_srtD (u130 hr)) cs_sortG hg hm bt_sorted (da_cons ha da_nil he) (by decide) (by decide) he
end
end Dl

set_option Elab.async false
set_option linter.all false
set_option maxRecDepth 100000
set_option maxHeartbeats 2000000
/-! sorted({.. for .. in ..}): a set comprehension of ints or of texts that is sorted at once. -/
namespace SrtD
open PySem PySem.Spec PyProof.Rows PySem.W SrtT SrtO Srt Sx
section
variable {P : Program} {w : World} {A : Around} {E : Value → Shared → Prop} {s : Shared}
end
end SrtD
namespace L2
open PySem PySem.Spec PyProof.Rows PySem.W Sx
section
variable {X : Cx}
end
end L2
namespace Dl
open PySem PySem.Spec PyProof.Rows L2 PySem.W Sx SrtD
section
variable {X : Cx} {M : Mo} {W : WX} {pos : Pos}
end
end Dl

set_option Elab.async false
set_option linter.all false
set_option maxRecDepth 100000
set_option maxHeartbeats 4000000
/-! tuple * int. -/
namespace L2
open PySem PySem.Spec PyProof.Rows
section
variable {X : Cx}
end
end L2
namespace Dl
open PySem PySem.Spec PyProof.Rows L2
theorem Reps.rep {K : Kw} {G : Hp} {xs : List D} {vs : List V} (r : Reps K G xs vs) : ∀ n : Nat, Reps K G (List.replicate n xs).flatten (List.replicate n vs).flatten
  | 0 => rfl
  | n + 1 => by
    rw [List.replicate_succ, List.replicate_succ, List.flatten_cons, List.flatten_cons]
    exact r.append (Reps.rep r n)
section
variable {X : Cx} {M : Mo} {W : WX} {pos : Pos} {a b : Expr} {f g : Ev}
end
end Dl

set_option Elab.async false
set_option linter.all false
set_option maxRecDepth 100000
set_option maxHeartbeats 2000000
/-! tuple(text). -/
namespace L2
open PySem PySem.Spec PyProof.Rows RT
section
variable {prog : Program} {w : World} {A : Around} {E : Value → Shared → Prop} {s : Shared}
end
section
variable {X : Cx}
end
end L2
namespace Dl
open PySem PySem.Spec PyProof.Rows L2
section
variable {X : Cx} {M : Mo} {W : WX} {pos : Pos} {a : Expr} {f : Ev}
end
end Dl

set_option Elab.async false
set_option linter.all false
set_option maxRecDepth 100000
set_option maxHeartbeats 4000000
/-! sorted(xs, key=lambda x: (x[0], not x[1])). -/
namespace SrtL
open PySem PySem.Spec PyProof.Rows PySem.W L2
section
variable {prog : Program} {w : World} {A : Around} {E : Value → Shared → Prop} {s : Shared}
/-- the names of a lambda of one parameter -/
structure Lam1 (scope : Scope) (x : Str) : Prop where
  kind : scope.kind = .function
  co : scope.isCoroutine = false
  gen : scope.isGenerator = false
  nocell : ∀ y ∈ scope.names, y.2 ≠ .cell
  loc : scope.names.lookup x = some .local
end
end SrtL
namespace Dl
open PySem PySem.Spec PyProof.Rows L2 LamX
section
variable {X : Cx} {pins : List (Addr × Obj)} {σ : L2.St} {H : Hp} {s : Shared}
end
end Dl
namespace Dl
open PySem PySem.Spec PyProof.Rows L2 PySem.W SrtL
/-! ### sorted(l, key=lambda x: (x[0], not x[1])) -/
section
variable {X : Cx} {M : Mo} {W : WX} {pos p kpos lpos : Pos} {a : Expr} {f : Ev} {x : Str} {p1 p2 p3 p4 p5 p6 p7 p8 : Pos} {j1 j2 j3 : Nat} {params : Arguments} {scope : Scope} {c P : Addr} {k : Nat}
end
end Dl

set_option Elab.async false
set_option linter.all false
set_option maxRecDepth 100000
set_option maxHeartbeats 2000000
/-! list(d.keys()). -/
namespace Dl
open PySem PySem.Spec PyProof.Rows L2
section
variable {X : Cx} {M : Mo} {W : WX} {pos p apos cpos : Pos} {a : Expr} {f : Ev}
end
end Dl

set_option Elab.async false
set_option linter.all false
set_option maxRecDepth 100000
set_option maxHeartbeats 2000000
/-! {k: v for ..}, the keys tuples. -/
namespace Dl
open PySem PySem.Spec PyProof.Rows L2
section
variable {X : Cx} {pins : List (Addr × Obj)} {σ : L2.St} {H : Hp} {s : Shared} {y v : V} {u r : Value} {E : Value → Shared → Prop}
end
section
variable {X : Cx}
end
section
variable {X : Cx} {M : Mo} {W : WX} {pos : Pos}
end
end Dl

set_option Elab.async false
set_option linter.all false
set_option maxRecDepth 100000
set_option maxHeartbeats 2000000
/-! for k in d, the keys tuples. -/
namespace Dl
open PySem PySem.Spec PyProof.Rows L2
def Ikd (d : Addr) (o : Obj) (kas : List V) : It :=
  ⟨fun i H => H d = some (dtO d o) ∧ i < kas.length, fun i H x H' => H' = H ∧ kas[i]? = some x, fun i H => H d = some (dtO d o) ∧ kas.length ≤ i⟩
section
variable {P : Program} {w : World} {K : PySem.W.Frag} {tg : Expr} {d : Addr} {o : Obj} {es : Array DictEntry} {ep : Nat}
end
theorem Wk.dt {K : Kw} {tp : Tb} {G : Hp} {d : Addr} {o : Obj} {ks : List D} {kas : List V} (s : G d = some (dtO d o)) (r : Reps K G ks kas) : Wk K tp G (Ikd d o kas) ks := fun i G1 H1 l l1 =>
  ⟨fun h => ⟨l1 _ _ (l _ _ s), by rw [r.length]; exact h⟩, fun d' h => by
    obtain ⟨v, ev, rv⟩ := r.get h
    refine ⟨⟨l1 _ _ (l _ _ s), (List.getElem?_eq_some_iff.mp ev).1⟩, fun x H2 y => ?_⟩
    obtain ⟨e, y⟩ := y
    subst e
    rw [ev] at y; cases y
    exact ⟨G1, .refl l1, Rep.mono l _ _ rv⟩⟩
section
variable {X : Cx} {M : Mo} {W : WX} {fe : Ev}
end
end Dl

set_option Elab.async false
set_option linter.all false
set_option maxRecDepth 100000
set_option maxHeartbeats 2000000
/-! min of a list or a tuple of any alike data. -/
namespace MinDt
open PySem PySem.Spec PyProof.Rows PySem.W SrtD
section
variable {prog : Program} {w : World} {A : Around} {E : Value → Shared → Prop} {s : Shared}
end
end MinDt
namespace L2
open PySem PySem.Spec PyProof.Rows PySem.W MinDt
section
variable {X : Cx}
end
end L2
namespace Dl
open PySem PySem.Spec PyProof.Rows L2 PySem.W MinDt
section
variable {X : Cx} {M : Mo} {W : WX} {pos : Pos} {a : Expr} {f : Ev}
end
end Dl

set_option Elab.async false
set_option linter.all false
set_option maxRecDepth 100000
set_option maxHeartbeats 2000000
/-! Set comprehensions of tuples of ints, sorted at once. -/
namespace Sxt
open PySem PySem.Spec PyProof.Rows L2 PpSet Sx
section
variable {P : Program} {w : World} {A : Around} {E : Value → Shared → Prop} {s : Shared} {a : Addr} {L : List (Addr × List Int)} {es : Array (Int × Value)} {ep : Nat} {t : SetTable}
end
section
variable {X : Cx}
end
section
variable {X : Cx}
end
end Sxt

set_option Elab.async false
set_option linter.all false
set_option maxRecDepth 100000
set_option maxHeartbeats 2000000
/-! sorted({.. for .. in ..}): a set comprehension of tuples of ints that is sorted at once. -/
namespace SrtD
open PySem PySem.Spec PyProof.Rows PySem.W SrtT SrtO Srt Sx L2
section
variable {P : Program} {w : World} {A : Around} {E : Value → Shared → Prop} {s : Shared}
end
end SrtD

set_option Elab.async false
set_option linter.all false
set_option maxRecDepth 100000
set_option maxHeartbeats 2000000
/-! sorted({.. for .. in ..}) of tuples of ints, over data. -/
namespace L2
open PySem PySem.Spec PyProof.Rows PySem.W Sx SrtD
section
variable {X : Cx}
end
end L2
namespace Dl
open PySem PySem.Spec PyProof.Rows L2 PySem.W Sx Sxt SrtD
abbrev tpI (k : List Int) : D := .tup (k.map D.int)
structure TL (K : Kw) (G : Hp) (L : List (Addr × List Int)) (xs : List D) : Prop where
  rep : ∀ q ∈ L, Rep K G (tpI q.2) (V.ref q.1)
  sub : ∀ q ∈ L, tpI q.2 ∈ xs
  all : ∀ x ∈ xs, ∃ q ∈ L, x = tpI q.2
  nd : (L.map (·.2)).Nodup
  len : L.length ≤ xs.length
theorem TL.nil {K : Kw} {G : Hp} : TL K G [] [] := ⟨fun q h => (by cases h), fun q h => (by cases h), fun q h => (by cases h), List.nodup_nil, Nat.le_refl _⟩
theorem TL.mono {K : Kw} {G G' : Hp} {L : List (Addr × List Int)} {xs : List D} (h : TL K G L xs) (l : Le G G') : TL K G' L xs := ⟨fun q hq => Rep.mono l _ _ (h.rep q hq), h.sub, h.all, h.nd, h.len⟩
section
variable {X : Cx} {M : Mo} {W : WX} {pos : Pos}
end
end Dl

set_option Elab.async false
set_option linter.all false
set_option maxRecDepth 100000
set_option maxHeartbeats 2000000
/-! Own lists read within a comprehension, x.remove(k) of own lists of ints, for .. in reversed(..). -/
namespace Dl
open PySem PySem.Spec PyProof.Rows L2
/-! ### a new list made while an own thing is lent -/
def nBor (i : Nat) (n : Env → R (List D)) : Env → R (List D) := fun δ => n (frz i δ) >>= fun ds => if D.pures ds = true then .ok ds else .bad
section
variable {X : Cx} {M : Mo} {W : WX} {pos : Pos} {e : Expr} {n : Env → R (List D)}
theorem ER.lends {K : Kw} {tp : Tb} {Fo G H : Hp} {δ : Env} {σ : L2.St} (e : ER K tp Fo G H δ σ) (i : Nat) : ∃ fp, ER K tp Fo (updF G H fp) H (Dl.frz i δ) σ ∧ ∀ G' H', Tr tp (updF G H fp) H G' H' → Tr tp G H (delF G' fp) H' ∧ ∀ ds vs, D.pures ds = true → Reps K G' ds vs → Reps K (delF G' fp) ds vs := by
  obtain ⟨fp, l, er1, hf, _⟩ := e.frz i
  refine ⟨fp, er1, fun G' H' t => ?_⟩
  obtain ⟨t', g'⟩ := t.back (fun a ha => (hf a ha).1) (fun a ha => let ⟨_, _, u, _, nt, _⟩ := hf a ha; nt) fun a ha => let ⟨_, _, u, hu, _, _, n2⟩ := hf a ha; ⟨u, hu, n2⟩
  refine ⟨t', fun ds vs hp r => Reps.del (fun a ha => ?_) ds vs hp r⟩
  obtain ⟨_, _, u, hu, _, n1, n2⟩ := hf a ha
  exact ⟨u, (g' a ha).trans hu, n1, n2⟩
theorem dn_bor (i : Nat) (he : PE X e (tN (kwX X) M W n)) : PE X e (tN (kwX X) M W (nBor i n)) := by
  refine PE.imp he fun σ H Q ⟨Fo, G, δ, er, q⟩ => ?_
  obtain ⟨fp, er1, back⟩ := er.lends i
  refine ⟨Fo, _, frz i δ, er1, ?_⟩
  unfold nBor at q
  cases y : n (frz i δ) with
  | bad => rw [y] at q; exact False.elim q
  | exc c =>
    rw [y] at q
    intro G' H' t
    exact q _ H' (back G' H' t).1
  | ok ds =>
    rw [y] at q
    intro G' H' t p vs hp rv
    obtain ⟨t', r'⟩ := back G' H' t
    have q' : PX M W σ G H (if D.pures ds = true then R.ok ds else R.bad) fun G' H' ds => ∀ p vs, H' p = none → Reps (kwX X) G' ds vs → Q (.ref p) (upd H' p (.lst vs)) := q
    by_cases hpu : D.pures ds = true
    · rw [if_pos hpu] at q'
      exact q' _ H' t' p vs hp (r' ds vs hpu rv)
    · rw [if_neg hpu] at q'; exact False.elim q'
end
section
variable {X : Cx} {M : Mo} {W : WX} {pos : Pos}
/-- x = [..for..], an own thing lent -/
theorem ds_setLcB (i j : Nat) {y : Str} {py spos : Pos} {elt tg iter : Expr} {ifs : List Expr} {scope : Scope} (own : List (Str × Nat)) {t : Tg} {it : Env → R (List D)} {c : Tv} {f : Ev} (hc : X.calm = true) (hN : X.N.Nodup) (hi : PI X tg iter (tI (kwX X) M W it)) (ok : BlkOk X.N X.env.scope scope own) (hat : ∀ i ∈ t.at, i ∈ own.map (·.2))
    (hg : ∀ (s : Shared) (H : Hp) (C : Addr) (cl : List (Str × Addr)) (fp : List Addr), PG (X.blk s H scope (compEnvC scope cl C X.env) fp) tg (tG (kwX X) M t)) (ht : ∀ (s : Shared) (H : Hp) (C : Addr) (cl : List (Str × Addr)) (fp : List Addr), PTs (X.blk s H scope (compEnvC scope cl C X.env) fp) ifs (tT (kwX X) M W0 c))
    (he : ∀ (s : Shared) (H : Hp) (C : Addr) (cl : List (Str × Addr)) (fp : List Addr), PE (X.blk s H scope (compEnvC scope cl C X.env) fp) elt (tE (kwX X) M W0 f)) (hs : ∀ x, foldedSetIterable iter X.env x = pure x := by intro _; rfl) (hsw : swapsWith (.ListComp elt [⟨tg, iter, ifs, 0⟩] scope pos) (some (.Name y py)) spos.line X.env = pure true := by rfl) (hy : X.N[i]? = some y := by rfl) (hyl : X.env.scope.names.lookup y = some .local := by rfl) :
    PS X (.Assign [.Name y py] (.ListComp elt [⟨tg, iter, ifs, 0⟩] scope pos) spos) (tS (kwX X) M W (sSet i (eN (nBor j (nLc (own.map (·.2)) t it c f))))) := by
  refine PS.imp (ps_setLc hc hN hy hyl hsw hi ok hg ht he hs) fun De σ H ⟨Fo, G, δ, er, q⟩ => ?_
  obtain ⟨fp, er1, back⟩ := er.lends j
  refine tlc_of hat ⟨Fo, updF G H fp, frz j δ, er1, ?_⟩
  cases z : nLc (own.map (·.2)) t it c f (frz j δ) with
  | bad =>
    have q' : PF (kwX X) M W Fo G (sSet i (eN (nBor j (nLc (own.map (·.2)) t it c f))) δ) De := q
    unfold sSet eN nBor at q'
    rw [z] at q'
    exact False.elim q'
  | exc x =>
    have q' : PF (kwX X) M W Fo G (sSet i (eN (nBor j (nLc (own.map (·.2)) t it c f))) δ) De := q
    unfold sSet eN nBor at q'
    rw [z] at q'
    intro G' H' t
    have t' := (back G' H' t).1
    exact q' _ σ H' t'.1 (er.tr t')
  | ok ds =>
    have q' : PF (kwX X) M W Fo G (sSet i (eN (nBor j (nLc (own.map (·.2)) t it c f))) δ) De := q
    unfold sSet eN nBor at q'
    rw [z] at q'
    intro G' H' t p vs n rvs
    obtain ⟨t', r'⟩ := back G' H' t
    by_cases hp : D.pures ds = true
    · have q2 : PF (kwX X) M W Fo G (bindF ((if D.pures ds = true then R.ok ds else R.bad) >>= fun ds => .ok (.lst ds)) δ fun d => .next (δ.set i (.val d))) De := q'
      rw [if_pos hp] at q2
      have l2 := t'.2.1
      exact q2 _ _ _ (fun a o h => Le.new (none_of_le l2 n) a o (t'.1 a o h)) ((er.tr t').tr (Tr.new l2 n) |>.setVal i ⟨p, vs, rfl, SqL.of upd_same, Reps.mono (Le.new (none_of_le l2 n)) _ _ (r' ds vs hp rvs)⟩)
    · have q2 : PF (kwX X) M W Fo G (bindF ((if D.pures ds = true then R.ok ds else R.bad) >>= fun ds => .ok (.lst ds)) δ fun d => .next (δ.set i (.val d))) De := q'
      rw [if_neg hp] at q2
      exact False.elim q2
end
/-! ### x.remove(k) -/
def sRem (i : Nat) (f : Ev) : Sv := fun δ => match δ[i]? with
  | some (.own (.lst ds)) => bindF (f δ) δ fun d => (match asInts ds, d with
    | some ns, .int k => if k ∈ ns then .next (δ.set i (.own (.lst ((ns.erase k).map D.int)))) else .bad
    | _, _ => .bad)
  | _ => .bad
theorem repsI {K : Kw} {G : Hp} : ∀ ns : List Int, Reps K G (ns.map D.int) (ns.map V.int)
  | [] => rfl
  | n :: ns => ⟨_, _, rfl, rfl, repsI ns⟩
section
variable {X : Cx} {M : Mo} {W : WX} {pos : Pos} {e : Expr} {fe : Ev}
theorem ds_rem (i : Nat) {x : Str} {pn pa pos' : Pos} (hc : X.calm = true) (tk : Takes X W) (he : PE X e (tE (kwX X) M W fe)) (hN : X.N[i]? = some x := by rfl) (hv : Vis X.env.scope x := by first | exact Or.inl rfl | exact Or.inr (Or.inl rfl) | exact Or.inr (Or.inr rfl)) (hd : (x == ("__debug__" : Str)) = false := by decide) (hcd : (x == ("__classdict__" : Str)) = false := by decide)
    (hs : swapsWith (.Call (.Attribute (.Name x pn) "remove" pa) [e] [] pos') none pos.line X.env = pure false := by rfl)
    (hst : starEach [e] X.env = (false, eval e X.env) :: starEach [] X.env := by rfl)
    (hfew : (((backTo pos' (starEach [e] X.env)).all fun x => !x.1) && (backToKw pos' (keywordEach [] X.env)).all fun x => x.1.isSome) && decide (([e].length + ([] : List Keyword).length + if ([] : List Keyword).isEmpty then 0 else 1) < 30) = true := by rfl)
    (hbase : attributeBase (.Name x pn) "remove" X.env (eval (.Name x pn) X.env) = eval (.Name x pn) X.env := by rfl) (hline : (pa.endLine == pos'.line) = true := by rfl)
    (hplain : (backTo pos' (starEach [] X.env)).any (·.1) = false := by rfl) :
    PS X (.Expr (.Call (.Attribute (.Name x pn) "remove" pa) [e] [] pos') pos) (tS (kwX X) M W (sRem i fe)) := by
  refine PS.imp (ps_expr (pe_remX hc tk (pe_var hN hv hd hcd) he hbase hfew hline hst hplain) hs) fun De σ H ⟨Fo, G, δ, er, q⟩ => ?_
  unfold sRem at q
  split at q
  · rename_i ds z
    obtain ⟨p, h1, q0, vs, _, h2, h3, h4, h5⟩ := er.own1 i _ z rfl
    replace h4 : H p = some (.lst vs) := h4
    refine ⟨.ref p, h1, .inl ⟨rfl, vs, SqL.of h4⟩, ⟨Fo, G, δ, er, PX.mono (PF.bind er q) fun G1 H1 d t1 ⟨er1, q1⟩ v rv => ?_⟩⟩
    obtain ⟨p', g1, q1', vs', _, g2, g3, g4, g5⟩ := er1.own1 i _ z rfl
    replace g4 : H1 p' = some (.lst vs') := g4
    replace g5 : Reps (kwX X) G1 ds vs' := g5
    rw [h1] at g1; cases g1
    cases hz : asInts ds with
    | none => rw [hz] at q1; exact False.elim q1
    | some ns =>
      rw [hz] at q1
      cases d with
      | int k =>
        have ev := asInts_rep hz g5
        subst ev
        replace q1 : PF (kwX X) M W Fo G1 (if k ∈ ns then .next (δ.set i (.own (.lst ((ns.erase k).map D.int)))) else .bad) De := q1
        by_cases hk : k ∈ ns
        · rw [if_pos hk] at q1
          obtain rfl : v = V.int k := rv
          refine ⟨p, ns, k, rfl, rfl, g4, fun _ => ?_, fun z => absurd hk z⟩
          exact q1 G1 _ _ .refl (er1.chgOwn (q := noQ) (u := .lst ((ns.erase k).map D.int)) i z h1 (repsI _))
        · rw [if_neg hk] at q1; exact False.elim q1
      | _ => exact False.elim q1
  · exact False.elim q
end
/-! ### for .. in reversed(..) -/
def iRvs (f : Ev) : Env → R (List D) := fun δ => f δ >>= fun d => match d with
  | .lst xs => .ok xs.reverse
  | .tup xs => .ok xs.reverse
  | _ => .bad
theorem rev_at {α : Type} {l : List α} {i : Nat} {x : α} (h : l.reverse[i]? = some x) : i < l.length ∧ l[l.length - 1 - i]? = some x := by
  have hi : i < l.length := by
    have := (List.getElem?_eq_some_iff.mp h).1
    rwa [List.length_reverse] at this
  rw [List.getElem?_reverse hi] at h
  exact ⟨hi, h⟩
theorem Wk.revL {K : Kw} {tp : Tb} {G : Hp} {a : Addr} {ds : List D} {vs : List V} (s : SqL K G a vs) (r : Reps K G ds vs) : Wk K tp G (Itv K a vs.length) ds.reverse := fun i G1 H1 l l1 =>
  ⟨fun h => by rw [List.length_reverse] at h; show vs.length ≤ i; rw [r.length]; exact h, fun d h => by
    obtain ⟨hi, h⟩ := rev_at h
    obtain ⟨v, ev, rv⟩ := r.get h
    rw [← r.length] at ev hi
    refine ⟨⟨hi, vs, v, l1.sqL (l.sqL s), ev⟩, fun x H2 y => ?_⟩
    obtain ⟨e, y⟩ := y
    subst e
    have e2 := y vs (l1.sqL (l.sqL s))
    rw [ev] at e2; cases e2
    exact ⟨G1, .refl l1, Rep.mono l _ _ rv⟩⟩
theorem Wk.revT {K : Kw} {tp : Tb} {G : Hp} {a : Addr} {ds : List D} {vs : List V} (s : SqT K G a vs) (r : Reps K G ds vs) : Wk K tp G (RT.ItvT K a vs.length) ds.reverse := fun i G1 H1 l l1 =>
  ⟨fun h => by rw [List.length_reverse] at h; show vs.length ≤ i; rw [r.length]; exact h, fun d h => by
    obtain ⟨hi, h⟩ := rev_at h
    obtain ⟨v, ev, rv⟩ := r.get h
    rw [← r.length] at ev hi
    refine ⟨⟨hi, vs, v, l1.sqT (l.sqT s), ev⟩, fun x H2 y => ?_⟩
    obtain ⟨e, y⟩ := y
    subst e
    have e2 := y vs (l1.sqT (l.sqT s))
    rw [ev] at e2; cases e2
    exact ⟨G1, .refl l1, Rep.mono l _ _ rv⟩⟩
section
variable {X : Cx} {M : Mo} {W : WX} {fe : Ev}
theorem di_rev {tg e : Expr} {p pos : Pos} (hm : X.mg "reversed" = none) (he : PE X e (tE (kwX X) M W fe)) (hg : Gl X "reversed" := by rfl) (hs : starEach [e] X.env = (false, eval e X.env) :: starEach [] X.env := by rfl) : PI X tg (.Call (.Name "reversed" p) [e] [] pos) (tI (kwX X) M W (iRvs fe)) := by
  refine ⟨fun pins s σ H R I h => (RT.pi_revA hg hm he hs).run pins s σ H R I ?_⟩
  obtain ⟨Fo, G, δ, er, q⟩ := h
  refine ⟨Fo, G, δ, er, PX.mono (PX.bind q) fun G1 H1 d t1 q1 v rv => ?_⟩
  cases d with
  | lst xs =>
    obtain ⟨a, vs, rfl, s, r⟩ := rv
    have q1 : ∀ G' H', Tr M.tp G1 H1 G' H' → ∀ J, Wk (kwX X) M.tp G' J xs.reverse → R J H' := q1
    have l1 := t1.2.1
    exact ⟨a, vs, rfl, .inl ⟨l1.sqL s, q1 G1 H1 (.refl l1) _ (Wk.revL s r)⟩⟩
  | tup xs =>
    obtain ⟨a, vs, rfl, s, r⟩ := rv
    have q1 : ∀ G' H', Tr M.tp G1 H1 G' H' → ∀ J, Wk (kwX X) M.tp G' J xs.reverse → R J H' := q1
    have l1 := t1.2.1
    exact ⟨a, vs, rfl, .inr ⟨l1.sqT s.1, q1 G1 H1 (.refl l1) _ (Wk.revT s.1 r)⟩⟩
  | _ => exact False.elim q1
end
end Dl

set_option Elab.async false
set_option linter.all false
set_option maxRecDepth 100000
set_option maxHeartbeats 2000000
/-! Lists of own lists made by a comprehension of new lists; x[j][k] = e for such lists. -/
namespace Dl
open PySem PySem.Spec PyProof.Rows L2
/-! ### x = [NEW for y in it], NEW an expression of a new list -/
def lolF (t : Tg) (n : Env → R (List D)) (δ : Env) : List D → R (List (List D))
  | [] => .ok []
  | d :: ds => match t.put d δ with
    | none => .bad
    | some δ1 => match n δ1 with
      | .ok ys => lolF t n δ ds >>= fun r => .ok (ys :: r)
      | _ => .bad
def nLol (j : Nat) (vs : List Nat) (it n : Env → R (List D)) : Env → R (List (List D)) := fun δ => it δ >>= fun ds => if ds.length ≤ sizeLine then lolF (.one j) n (wipeE δ vs) ds else .bad
def sLolN (i j : Nat) (vs : List Nat) (it n : Env → R (List D)) : Sv := fun δ => bindF (nLol j vs it n δ) δ fun dss => .next (δ.set i (.own (.lol dss)))
theorem lolF_noexc {t : Tg} {n : Env → R (List D)} {δ : Env} {x : String} : ∀ ds : List D, lolF t n δ ds ≠ .exc x
  | [], h => by cases h
  | d :: ds, h => by
    unfold lolF at h
    cases hp : t.put d δ with
    | none => rw [hp] at h; cases h
    | some δ1 =>
      rw [hp] at h
      simp only [] at h
      cases h2 : n δ1 with
      | bad => rw [h2] at h; cases h
      | exc y => rw [h2] at h; cases h
      | ok ys =>
        rw [h2] at h
        cases h3 : lolF t n δ ds with
        | bad => rw [h3] at h; cases h
        | exc y => exact lolF_noexc ds h3
        | ok r => rw [h3] at h; cases h
section
variable {X : Cx} {M : Mo} {W : WX} {pos : Pos} {it n : Env → R (List D)}
def tNL (K : Kw) (M : Mo) (W : WX) (f : Env → R (List (List D))) : TE := fun σ H Q => ∃ Fo G δ, ER K M.tp Fo G H δ σ ∧ PX M W σ G H (f δ) fun G1 H1 dss => ∀ G2 H2 p as, Tr M.tp G1 H1 G2 H2 → (∀ a ∈ p :: as, H1 a = none ∧ G2 a = none) → (p :: as).Nodup → H2 p = some (.lst (as.map V.ref)) → Inner K G2 H2 dss as → Q (.ref p) H2
theorem tloln_of {j : Nat} {vs : List Nat} (hat : j ∈ vs) {σ : L2.St} {H : Hp} {Q : VK} (q : tNL (kwX X) M W (nLol j vs it n) σ H Q) :
    tLc (tI (kwX X) M W it) (tG (kwX X) M (.one j)) (tT (kwX X) M W0 tYesD) (tN (kwX X) M W0 n) vs σ H Q := by
  obtain ⟨Fo, G, δ, er, q⟩ := q
  refine ⟨Fo, G, δ, er, PX.mono (PX.bind q) fun G1 H1 ds t1 q1 J wk D nD => ?_⟩
  have er1 := er.tr t1
  have gD : G1 D = none := none_of_le er1.gh nD
  have ntD : ¬ M.tp D := fun z => by
    obtain ⟨⟨ps, e, _⟩, _⟩ := er1.tb D z
    rw [nD] at e; cases e
  by_cases hz : ds.length ≤ sizeLine
  · rw [if_pos hz] at q1
    cases hm : lolF (.one j) n (wipeE δ vs) ds with
    | bad => rw [hm] at q1; exact False.elim q1
    | exc x => exact absurd hm (lolF_noexc ds)
    | ok tot =>
      rw [hm] at q1
      have q1 : ∀ G' H', Tr M.tp G1 H1 G' H' → ∀ G2 H2 p as, Tr M.tp G' H' G2 H2 → (∀ a ∈ p :: as, H' a = none ∧ G2 a = none) → (p :: as).Nodup → H2 p = some (.lst (as.map V.ref)) → Inner (kwX X) G2 H2 tot as → Q (.ref p) H2 := q1
      have q1 := q1 G1 H1 (.refl er1.gh)
      let Iv : Nat → Hp → Prop := fun i H => ∃ G2 as done rest, Tr M.tp G1 H1 G2 (Dl.del H D) ∧ G2 D = none ∧ (∀ a ∈ as, H1 a = none ∧ G2 a = none ∧ ¬ M.tp a) ∧ (D :: as).Nodup ∧ H D = some (.lst (as.map V.ref)) ∧ Inner (kwX X) G2 H done as ∧ lolF (.one j) n (wipeE δ vs) (ds.drop i) = .ok rest ∧ done ++ rest = tot ∧ done.length = i
      refine ⟨fun i m H => m = ds.length - i ∧ i ≤ ds.length ∧ Iv i H, ⟨ds.length, by simp, Nat.zero_le _, G1, [], [], tot, by rw [del_upd nD]; exact .refl er1.gh, gD, fun a ha => (by cases ha), by simp, upd_same, rfl, hm, rfl, rfl⟩, ?_⟩
      rintro i m H2 ⟨rfl, hle, G2, as, done, rest, t2, gD2, hn, nd, hD, hin, hys, htot, hdl⟩
      have l2 : Le G2 H2 := fun a o q => (del_some (t2.2.1 a o q)).2
      obtain ⟨w1, w2⟩ := wk i G2 H2 t2.1 l2
      by_cases hlt : i < ds.length
      · rw [List.drop_eq_getElem_cons hlt] at hys
        obtain ⟨go, yl⟩ := w2 ds[i] (List.getElem?_eq_getElem hlt)
        refine .inr ⟨go, Iv (i + 1), fun H' z => ⟨ds.length - (i + 1), by omega, rfl, hlt, z⟩, fun x H3 y => ?_⟩
        obtain ⟨G3, t3, rx⟩ := yl x H3 y
        obtain ⟨t3', hD3, gD3⟩ := t3.delU hD gD2 ntD t2.2.1
        have er3 : ER (kwX X) M.tp (upd Fo D (.lst (as.map V.ref))) G3 H3 (wipeE δ vs) (L2.wipe σ vs) := ((er1.tr (t2.trans t3')).alienU hD3 gD3 ntD).wipe vs
        unfold lolF at hys
        have hput : (Tg.one j).put ds[i] (wipeE δ vs) = some ((wipeE δ vs).set j (.val ds[i])) := rfl
        rw [hput] at hys
        simp only [] at hys
        refine ⟨upd Fo D (.lst (as.map V.ref)), G3, wipeE δ vs, ds[i], (wipeE δ vs).set j (.val ds[i]), er3, rx, rfl, fun σ' er' bt => ⟨wipe_but (is := [j]) (fun k hk => by rw [List.mem_singleton] at hk; subst hk; exact hat) bt, ?_⟩⟩
        refine ⟨upd Fo D (.lst (as.map V.ref)), G3, _, er', ?_⟩
        intro G4 H4 t4
        simp only [if_true]
        refine ⟨upd Fo D (.lst (as.map V.ref)), G4, _, er'.tr t4, ?_⟩
        cases hn1 : n ((wipeE δ vs).set j (.val ds[i])) with
        | bad => rw [hn1] at hys; cases hys
        | exc y => rw [hn1] at hys; cases hys
        | ok ys =>
        rw [hn1] at hys
        cases hrs : lolF (.one j) n (wipeE δ vs) (ds.drop (i + 1)) with
        | bad => rw [hrs] at hys; cases hys
        | exc y => rw [hrs] at hys; cases hys
        | ok rest' =>
        rw [hrs] at hys
        have erest : rest = ys :: rest' := by injection hys with e; exact e.symm
        intro G5 H5 t5 p wl np rwl
        have t45 := t4.trans t5
        obtain ⟨t4', hD4, gD4⟩ := t45.delU hD3 gD3 ntD t3'.2.1
        have t24 := t3'.trans t4'
        have t14 := t2.trans t24
        have er4 := er1.tr t14
        have kp : ∀ a ∈ as, ∀ o, H2 a = some o → H5 a = some o ∧ G5 a = none := fun a ha o ho => (t3.trans t45).2.2.1 a o (hn a ha).2.1 (hn a ha).2.2 ho
        have pD : p ≠ D := fun z => by rw [z, hD4] at np; cases np
        have pas : p ∉ as := fun z => by
          obtain ⟨ws, hw⟩ := hin.mem p z
          rw [(kp p z _ hw).1] at np; cases np
        have np' : Dl.del H5 D p = none := by rw [del_ne pD]; exact np
        have gp : G5 p = none := none_of_le t45.2.1 np
        have ntp : ¬ M.tp p := fun z => by
          obtain ⟨⟨ps, e, _⟩, _⟩ := er4.tb p z
          rw [np'] at e; cases e
        have h1p : H1 p = none := by
          cases z : H1 p with
          | none => rfl
          | some u =>
            exfalso
            cases zg : G1 p with
            | none => rw [(t14.2.2.1 p u zg ntp z).1] at np'; cases np'
            | some u' => rw [t14.2.1 p u' (t14.1 p u' zg)] at np'; cases np'
        have l4 := Inner.length hin
        rw [hdl] at l4
        have eH : Dl.del (upd (upd H5 p (.lst wl)) D (.lst (as.map V.ref ++ [.ref p]))) D = upd (Dl.del H5 D) p (.lst wl) := by
          funext a
          by_cases z : a = D
          · subst z; rw [del_at, upd_ne (Ne.symm pD), del_at]
          · rw [del_ne z, upd_ne z]
            by_cases z2 : a = p
            · subst z2; rw [upd_same, upd_same]
            · rw [upd_ne z2, upd_ne z2, del_ne z]
        refine ⟨as.map V.ref, by rw [upd_ne (Ne.symm pD)]; exact hD4, by rw [List.length_map, l4]; omega, G5, as ++ [p], done ++ [ys], rest', ?_, gD4, ?_, ?_, ?_, ?_, hrs, by rw [List.append_assoc, List.singleton_append, ← erest]; exact htot, by rw [List.length_append, hdl]; rfl⟩
        · rw [eH]
          exact t14.trans (Tr.junk t4'.2.1 np')
        · intro a ha
          rcases List.mem_append.mp ha with ha | ha
          · obtain ⟨ws, hw⟩ := hin.mem a ha
            exact ⟨(hn a ha).1, (kp a ha _ hw).2, (hn a ha).2.2⟩
          · rw [List.mem_singleton] at ha; subst ha; exact ⟨h1p, gp, ntp⟩
        · rw [← List.cons_append, List.nodup_append]
          refine ⟨nd, by simp, fun a ha b hb z => ?_⟩
          rw [List.mem_singleton] at hb
          subst hb
          subst z
          rcases List.mem_cons.mp ha with z | z
          · exact pD z
          · exact pas z
        · rw [upd_same, List.map_append]; rfl
        · refine (hin.mono (t3.1.trans t45.1) fun a ha o ho => ?_).append ⟨p, [], rfl, ⟨wl, ?_, rwl⟩, rfl⟩
          · have aD : a ≠ D := fun z => by
              subst z
              rw [List.nodup_cons] at nd
              exact nd.1 ha
            rw [upd_ne aD, upd_ne (fun z : a = p => pas (z ▸ ha))]
            exact (kp a ha o ho).1
          · rw [upd_ne pD, upd_same]
      · have e : i = ds.length := by omega
        subst e
        have eH : upd (Dl.del H2 D) D (.lst (as.map V.ref)) = H2 := by
          funext a
          by_cases z : a = D
          · subst z; rw [upd_same, hD]
          · rw [upd_ne z, del_ne z]
        rw [List.drop_length] at hys
        have erest : rest = [] := by injection hys with e; exact e.symm
        rw [erest, List.append_nil] at htot
        subst htot
        refine .inl ⟨w1 (Nat.le_refl _), q1 G2 H2 D as ?_ (fun a ha => ?_) nd hD hin⟩
        · have t5 := Tr.junk (tp := M.tp) (o := .lst (as.map V.ref)) t2.2.1 (p := D) del_at
          rw [eH] at t5
          exact t2.trans t5
        · rcases List.mem_cons.mp ha with rfl | ha
          · exact ⟨nD, gD2⟩
          · exact ⟨(hn a ha).1, (hn a ha).2.1⟩
  · rw [if_neg hz] at q1; exact False.elim q1
theorem ds_loln (i j : Nat) {y : Str} {py spos lp : Pos} {tg iter elt : Expr} {scope : Scope} (own : List (Str × Nat)) (hc : X.calm = true) (hN : X.N.Nodup) (hi : PI X tg iter (tI (kwX X) M W it)) (ok : BlkOk X.N X.env.scope scope own) (hat : j ∈ own.map (·.2))
    (hg : ∀ (s : Shared) (H : Hp) (C : Addr) (cl : List (Str × Addr)) (fp : List Addr), PG (X.blk s H scope (compEnvC scope cl C X.env) fp) tg (tG (kwX X) M (.one j)))
    (he : ∀ (s : Shared) (H : Hp) (C : Addr) (cl : List (Str × Addr)) (fp : List Addr), PE (X.blk s H scope (compEnvC scope cl C X.env) fp) elt (tN (kwX X) M W0 n))
    (hs : ∀ x, foldedSetIterable iter X.env x = pure x := by intro _; rfl) (hsw : swapsWith (.ListComp elt [⟨tg, iter, [], 0⟩] scope pos) (some (.Name y py)) spos.line X.env = pure true := by rfl) (hy : X.N[i]? = some y := by rfl) (hyl : X.env.scope.names.lookup y = some .local := by rfl) :
    PS X (.Assign [.Name y py] (.ListComp elt [⟨tg, iter, [], 0⟩] scope pos) spos) (tS (kwX X) M W (sLolN i j (own.map (·.2)) it n)) := by
  refine PS.imp (ps_setLc hc hN hy hyl hsw hi ok hg (fun _ _ _ _ _ => dts_nil) he hs) fun D σ H ⟨Fo, G, δ, er, q⟩ => tloln_of hat ⟨Fo, G, δ, er, ?_⟩
  refine PX.mono (PF.bind er q) fun G1 H1 dss t1 ⟨er1, q1⟩ G2 H2 p as t2 hn nd hD hin => ?_
  exact q1 G2 _ _ t2.1 (er1.setOwnT t2 i ⟨fun a ha => ⟨(hn a ha).2, none_of_le er1.fh (hn a ha).1⟩, .inr ⟨_, as, rfl, rfl, nd, hD, hin⟩⟩ fun a ha => (hn a ha).1)
theorem ds_lolc (i j : Nat) {x : Str} {pos' lp : Pos} {tg iter elt : Expr} {scope : Scope} (own : List (Str × Nat)) (hc : X.calm = true) (hN : X.N.Nodup) (hi : PI X tg iter (tI (kwX X) M W it)) (ok : BlkOk X.N X.env.scope scope own) (hat : j ∈ own.map (·.2))
    (hg : ∀ (s : Shared) (H : Hp) (C : Addr) (cl : List (Str × Addr)) (fp : List Addr), PG (X.blk s H scope (compEnvC scope cl C X.env) fp) tg (tG (kwX X) M (.one j)))
    (he : ∀ (s : Shared) (H : Hp) (C : Addr) (cl : List (Str × Addr)) (fp : List Addr), PE (X.blk s H scope (compEnvC scope cl C X.env) fp) elt (tN (kwX X) M W0 n))
    (hs : ∀ x, foldedSetIterable iter X.env x = pure x := by intro _; rfl) (hi' : X.N[i]? = some x := by rfl) (hx : Loc X.env.scope x := by first | exact Or.inl rfl | exact Or.inr rfl) (hsw : swapsWith (.ListComp elt [⟨tg, iter, [], 0⟩] scope lp) (some (.Name x pos')) pos.line X.env = pure false := by rfl) (hf : X.fn x = true ∨ X.env.scope.names.lookup x = some .local := by first | exact .inl rfl | exact .inr rfl | assumption) :
    PS X (.Assign [.Name x pos'] (.ListComp elt [⟨tg, iter, [], 0⟩] scope lp) pos) (tS (kwX X) M W (sLolN i j (own.map (·.2)) it n)) := by
  refine PS.imp (ps_set hN hi' hx (pe_lc hc hN hi ok hg (fun _ _ _ _ _ => dts_nil) he hs) hsw hf) fun D σ H ⟨Fo, G, δ, er, q⟩ => tloln_of hat ⟨Fo, G, δ, er, ?_⟩
  refine PX.mono (PF.bind er q) fun G1 H1 dss t1 ⟨er1, q1⟩ G2 H2 p as t2 hn nd hD hin => ?_
  exact q1 G2 _ _ t2.1 (er1.setOwnT t2 i ⟨fun a ha => ⟨(hn a ha).2, none_of_le er1.fh (hn a ha).1⟩, .inr ⟨_, as, rfl, rfl, nd, hD, hin⟩⟩ fun a ha => (hn a ha).1)
end

/-! ### x[j][k] = e -/
def sLPut (i : Nat) (gj gk f : Ev) : Sv := fun δ => match δ[i]? with
  | some (.own (.lol dss)) => bindF (f δ) δ fun d => bindF (gj δ) δ fun kj => (match kj with
    | .int kj => (match ixN dss.length kj with
      | some j => bindF (gk δ) δ fun kt => (match kt with
        | .int kt => (match dss[j]? with
          | some ds => (match ixN ds.length kt with
            | some t => .next (δ.set i (.own (.lol (dss.set j (ds.set t d)))))
            | none => .bad)
          | none => .bad)
        | _ => .bad)
      | none => .bad)
    | _ => .bad)
  | _ => .bad
section
variable {X : Cx} {M : Mo} {W : WX} {pos : Pos} {e : Expr} {fe gj gk : Ev}
theorem refs_inj : ∀ {l m : List Addr}, l.map V.ref = m.map V.ref → m = l := by
  intro l
  induction l with
  | nil => intro m h; cases m with
    | nil => rfl
    | cons _ _ => simp at h
  | cons x l ih => intro m h; cases m with
    | nil => simp at h
    | cons y m =>
      simp only [List.map_cons, List.cons.injEq, V.ref.injEq] at h
      rw [h.1, ih h.2]
theorem ds_lput (i : Nat) {x : Str} {px pt pj : Pos} {ej ek : Expr} (he : PE X e (tE (kwX X) M W fe)) (hj : PE X ej (tE (kwX X) M W gj)) (hk : PE X ek (tE (kwX X) M W gk)) (hN : X.N[i]? = some x := by rfl) (hv : Vis X.env.scope x := by first | exact Or.inl rfl | exact Or.inr (Or.inl rfl) | exact Or.inr (Or.inr rfl)) (hd : (x == ("__debug__" : Str)) = false := by decide) (hcd : (x == ("__classdict__" : Str)) = false := by decide)
    (hsl : PlainIx ej := by exact fun _ _ => rfl)
    (ha : ∀ v, assign (.Subscript (.Subscript (.Name x px) ej pj) ek pt) X.env v = (do
      let ov ← holding [v] (eval (.Subscript (.Name x px) ej pj) X.env)
      let iv ← holding [v, ov] (eval ek X.env)
      standAt pt
      holding [v, ov, iv] (setItem ov iv v)
      release [v, ov, iv] []) := by intro _; rfl)
    (hs : swapsWithSole [.Subscript (.Subscript (.Name x px) ej pj) ek pt] e pos.line X.env = pure false := by rfl) (hw : swappedStores [.Subscript (.Subscript (.Name x px) ej pj) ek pt] e X.env = pure none := by rfl)
    (h1 : (assignEach [.Subscript (.Subscript (.Name x px) ej pj) ek pt] X.env).map (·.2) = [assign (.Subscript (.Subscript (.Name x px) ej pj) ek pt) X.env] := by rfl) :
    PS X (.Assign [.Subscript (.Subscript (.Name x px) ej pj) ek pt] e pos) (tS (kwX X) M W (sLPut i gj gk fe)) := by
  refine PS.imp (ps_asg he (pg_sub (pe_ix ix_list (pe_var hN hv hd hcd) hj hsl) hk set_list ha) hs hw h1) fun D σ H ⟨Fo, G, δ, er, q⟩ => ?_
  unfold sLPut at q
  split at q
  · rename_i dss z
    refine ⟨Fo, G, δ, er, PX.mono (PF.bind er q) fun G1 H1 d t1 ⟨er1, q1⟩ v rv => ?_⟩
    obtain ⟨p, as, h1, h0, hn, hH, hI⟩ := er1.ownL i z
    refine ⟨.ref p, h1, Fo, G1, δ, er1, PX.mono (PF.bind er1 q1) fun G2 H2 kj t2 ⟨er2, q2⟩ w rw => ?_⟩
    cases kj with
    | int k =>
      obtain ⟨p', as', h1', h0', hn', hH', hI'⟩ := er2.ownL i z
      rw [h1] at h1'
      cases h1'
      have hl : (as'.map V.ref).length = dss.length := by rw [List.length_map, hI'.length]
      cases hk : ixN dss.length k with
      | none =>
        simp only [hk] at q2; exact False.elim q2
      | some j =>
        simp only [hk] at q2
        have hjl : j < as'.length := by
          have hjr : j < dss.length := (ixN_seq hk).2.1
          rw [hI'.length]; exact hjr
        obtain ⟨b, hb⟩ : ∃ b, as'[j]? = some b := ⟨as'[j], List.getElem?_eq_getElem hjl⟩
        have hI1 := hI'
        obtain ⟨ds, hds⟩ : ∃ ds, dss[j]? = some ds := ⟨dss[j]'(by rw [← hI'.length]; exact hjl), List.getElem?_eq_getElem _⟩
        refine ⟨p, as'.map V.ref, k, .ref b, rfl, rw, SqL.of hH', by unfold atI; rw [hl, hk]; show (as'.map V.ref)[j]? = _; rw [List.getElem?_map, hb]; rfl, ?_⟩
        refine ⟨Fo, G2, δ, er2, PX.mono (PF.bind er2 q2) fun G3 H3 kt t3 ⟨er3, q3⟩ w' rw' => ?_⟩
        obtain ⟨p2, as2, h12, h02, hn2, hH2, hI2⟩ := er3.ownL i z
        rw [h1] at h12
        cases h12
        have hp1 : ∀ a ∈ p :: as', H3 a = H2 a := fun a ha => by
          have nt : ∃ u, H2 a = some u ∧ ∀ ps, u ≠ .tbl ps := by
            rcases List.mem_cons.mp ha with rfl | ha
            · exact ⟨_, hH', fun ps z => by cases z⟩
            · obtain ⟨ws', hw'⟩ := hI1.mem a ha
              exact ⟨_, hw', fun ps z => by cases z⟩
          obtain ⟨u, hu, nt⟩ := nt
          rw [hu]
          exact (t3.2.2.1 a u (h0' a ha).1 (not_tp_of er2.tb hu nt) hu).1
        have eas : as2 = as' := by
          rw [hp1 p List.mem_cons_self, hH'] at hH2
          injection hH2 with e4
          injection e4 with e4
          exact refs_inj e4
        subst eas
        obtain ⟨b2, ws2, hb2, hw2, rws2⟩ := hI2.get hds
        rw [hb] at hb2
        cases hb2
        cases kt with
        | int kt =>
          simp only [hds] at q3
          cases ht : ixN ds.length kt with
          | none => simp only [ht] at q3; exact False.elim q3
          | some t =>
            simp only [ht] at q3
            exact ⟨b, ws2, kt, t, rfl, rw', hw2, by rw [rws2.length]; exact ht, q3 G3 _ _ .refl (er3.chgL i z h1 hH2 hb (rws2.set t (Rep.mono (t2.trans t3).1 _ _ rv)))⟩
        | _ => exact False.elim q3
    | _ => exact False.elim q2
  · exact False.elim q
end
end Dl

set_option Elab.async false
set_option linter.all false
set_option maxRecDepth 100000
set_option maxHeartbeats 1000000
/-! Plain facts of the data functions. -/
namespace Dl
open PySem PySem.Spec PyProof.Rows L2

/-! ### equality of data with no truth values -/
mutual
def D.nb : D → Bool
  | .bl _ => false
  | .obj .. => false
  | .dk .. => false
  | .dt .. => false
  | .tup xs => D.nbs xs
  | .lst xs => D.nbs xs
  | _ => true
def D.nbs : List D → Bool
  | [] => true
  | x :: xs => D.nb x && D.nbs xs
end
mutual
theorem eqv_nb : ∀ d e : D, d.nb = true → e.nb = true → (PyData.eqv d.py e.py = true ↔ d = e)
  | .non, e, _, h => by cases e <;> simp_all [D.py, PyData.eqv, D.nb]
  | .int i, e, _, h => by cases e <;> simp_all [D.py, PyData.eqv, D.nb]
  | .str x, e, _, h => by cases e <;> simp_all [D.py, PyData.eqv, D.nb]
  | .bl b, e, h, _ => by simp [D.nb] at h
  | .obj _ _ _, e, h, _ => by simp [D.nb] at h
  | .dk _ _, e, h, _ => by simp [D.nb] at h
  | .dt _ _, e, h, _ => by simp [D.nb] at h
  | .tup xs, e, h1, h2 => by
    cases e with
    | tup ys => simpa [D.py, PyData.eqv] using eqvs_nb xs ys (by simpa [D.nb] using h1) (by simpa [D.nb] using h2)
    | _ => simp_all [D.py, PyData.eqv, D.nb]
  | .lst xs, e, h1, h2 => by
    cases e with
    | lst ys => simpa [D.py, PyData.eqv] using eqvs_nb xs ys (by simpa [D.nb] using h1) (by simpa [D.nb] using h2)
    | _ => simp_all [D.py, PyData.eqv, D.nb]
theorem eqvs_nb : ∀ xs ys : List D, D.nbs xs = true → D.nbs ys = true → (PyData.eqvAll (D.pys xs) (D.pys ys) = true ↔ xs = ys)
  | [], ys, _, _ => by cases ys <;> simp [D.pys, PyData.eqvAll]
  | x :: xs, [], _, _ => by simp [D.pys, PyData.eqvAll]
  | x :: xs, y :: ys, h1, h2 => by
    simp only [D.nbs, Bool.and_eq_true] at h1 h2
    simp only [D.pys, PyData.eqvAll, Bool.and_eq_true, List.cons.injEq, eqv_nb x y h1.1 h2.1, eqvs_nb xs ys h1.2 h2.2]
end
theorem eqv_dec {d e : D} (h1 : d.nb = true) (h2 : e.nb = true) : eqv d e = decide (d = e) := by
  unfold eqv
  rw [Bool.eq_iff_iff, decide_eq_true_eq]
  exact eqv_nb d e h1 h2
theorem eqD_nb {d e : D} (h1 : d.nb = true) (h2 : e.nb = true) (s1 : sh d = true) (s2 : sh e = true) : eqD d e = some (.bl (decide (d = e))) := by
  unfold eqD
  rw [s1, s2, eqv_dec h1 h2]; rfl
theorem neD_nb {d e : D} (h1 : d.nb = true) (h2 : e.nb = true) (s1 : sh d = true) (s2 : sh e = true) : neD d e = some (.bl (!decide (d = e))) := by
  unfold neD
  rw [s1, s2, eqv_dec h1 h2]; rfl
/-! ### shapes -/
mutual
def D.dep : D → Nat
  | .tup xs => D.deps xs + 1
  | .lst xs => D.deps xs + 1
  | .obj .. => 1
  | .dk .. => 1
  | .dt .. => 1
  | _ => 0
def D.deps : List D → Nat
  | [] => 0
  | x :: xs => max (D.dep x) (D.deps xs)
end
mutual
def D.txt : D → Bool
  | .str x => x.cps.all (· < 0x110000)
  | .tup xs => D.txts xs
  | .lst xs => D.txts xs
  | .obj .. => false
  | .dk .. => false
  | .dt .. => false
  | _ => true
def D.txts : List D → Bool
  | [] => true
  | x :: xs => D.txt x && D.txts xs
end
mutual
theorem can_txt : ∀ d : D, PyData.canLay0 d.py = d.txt
  | .non => rfl
  | .bl _ => rfl
  | .int _ => rfl
  | .str x => rfl
  | .tup xs => by rw [D.py, PyData.canLay0, can_txts xs, D.txt]
  | .lst xs => by rw [D.py, PyData.canLay0, can_txts xs, D.txt]
  | .obj .. => rfl
  | .dk .. => rfl
  | .dt .. => rfl
theorem can_txts : ∀ xs : List D, PyData.canLayAll0 (D.pys xs) = D.txts xs
  | [] => rfl
  | x :: xs => by rw [D.pys, PyData.canLayAll0, can_txt x, can_txts xs, D.txts]
theorem dep_py : ∀ d : D, PyData.depth d.py = d.dep
  | .non => rfl
  | .bl _ => rfl
  | .int _ => rfl
  | .str x => rfl
  | .tup xs => by rw [D.py, PyData.depth, dep_pys xs, D.dep]
  | .lst xs => by rw [D.py, PyData.depth, dep_pys xs, D.dep]
  | .obj .. => rfl
  | .dk .. => rfl
  | .dt .. => rfl
theorem dep_pys : ∀ xs : List D, PyData.depthAll (D.pys xs) = D.deps xs
  | [] => rfl
  | x :: xs => by rw [D.pys, PyData.depthAll, dep_py x, dep_pys xs, D.deps]
end
theorem sh_eq (d : D) : sh d = (d.txt && decide (d.dep ≤ 64)) := by
  unfold sh SeqAt.shaped
  rw [can_txt, dep_py]
theorem sh_of {d : D} (h1 : d.txt = true) (h2 : d.dep ≤ 64) : sh d = true := by rw [sh_eq, h1, decide_eq_true h2]; rfl

/-! ### texts by their signs -/
def Tx (l : List Nat) : Str := ⟨l.toArray⟩
theorem S_list (l : List Nat) : (Tx l).cps.toList = l := rfl
theorem S_eta (x : Str) : Tx x.cps.toList = x := by cases x; rfl
theorem S_len (l : List Nat) : (Tx l).length = l.length := by simp [Tx, Str.length]
theorem len_S {a : List Nat} (h : a.length ≤ sizeLine) : lenD [.str (Tx a)] = some (.int a.length) := by
  show (if (Tx a).length ≤ sizeLine then some (D.int ((Tx a).length : Int)) else none) = _
  rw [S_len, if_pos h]
theorem atI_nat {α : Type} (xs : List α) (i : Nat) : atI xs (i : Int) = xs[i]? := by
  unfold atI ixN
  by_cases h : i < xs.length
  · rw [if_pos (by omega), if_pos (by omega)]
    simp
  · rw [if_pos (by omega), if_neg (by omega)]
    simp; omega
theorem ix_S {l : List Nat} (h : l.length ≤ sizeLine) (i : Nat) : ixD (.str (Tx l)) (.int (i : Int)) = l[i]?.map fun c => .str (Tx [c]) := by
  show (if (Tx l).length ≤ sizeLine then (atI (Tx l).cps.toList (i : Int)).map (fun c => D.str ⟨#[c]⟩) else none) = _
  rw [S_len, if_pos h, S_list, atI_nat]
  rfl
theorem ix_tup (xs : List D) (i : Nat) : ixD (.tup xs) (.int (i : Int)) = xs[i]? := atI_nat xs i
theorem ix_lst (xs : List D) (i : Nat) : ixD (.lst xs) (.int (i : Int)) = xs[i]? := atI_nat xs i
theorem in_S1 (c : Nat) (l : List Nat) : inD (.str (Tx [c])) (.str (Tx l)) = some (.bl (decide (c ∈ l))) := rfl
theorem nin_S1 (c : Nat) (l : List Nat) : ninD (.str (Tx [c])) (.str (Tx l)) = some (.bl (!decide (c ∈ l))) := rfl
theorem cut_tup (xs : List D) (a : Nat) : slD (.tup xs) (some (a : Int)) none = some (.tup (xs.drop a)) := by
  show some (D.tup (cutD xs (some (a : Int)) none)) = _
  unfold cutD
  rw [HT.sIx_nat, HT.sIx_none]
  congr 2
  by_cases ha : a ≤ xs.length
  · rw [Nat.min_eq_left ha, List.take_of_length_le (by simp)]
  · rw [Nat.min_eq_right (by omega)]
    simp [List.drop_eq_nil_of_le (show xs.length ≤ a by omega)]

/-! ### evaluation -/
section
variable (f g : Ev) (c t u : Tv) (a b : Sv) (fs : Env → R (List D)) (δ : Env)
@[simp] theorem ev_bind_ok {α β : Type} (a : α) (f : α → R β) : (R.ok a >>= f) = f a := rfl
@[simp] theorem ev_bind_exc {α β : Type} (c : String) (f : α → R β) : ((R.exc c : R α) >>= f) = R.exc c := rfl
@[simp] theorem ev_bindF_ok {α : Type} (a : α) (k : α → Fl) : bindF (.ok a) δ k = k a := rfl
@[simp] theorem ev_bindF_exc {α : Type} (c : String) (k : α → Fl) : bindF (.exc c) δ k = .exc c δ := rfl
@[simp] theorem ev_sNext : sNext δ = .next δ := rfl
@[simp] theorem ev_sSeq : sSeq a b δ = (match a δ with | .next δ' => b δ' | .brk δ' => .brk δ' | .cont δ' => .cont δ' | .ret d => .ret d | .exc c δ' => .exc c δ' | .bad => .bad) := rfl
@[simp] theorem ev_sIf : sIf c a b δ = bindF (c δ) δ fun x => if x = true then a δ else b δ := by
  unfold sIf; congr 1 <;> (funext x; cases x <;> rfl)
@[simp] theorem ev_sRet : sRet f δ = bindF (f δ) δ fun d => .ret d := rfl
@[simp] theorem ev_sSet (i : Nat) : sSet i f δ = bindF (f δ) δ fun d => .next (δ.set i (.val d)) := rfl
@[simp] theorem ev_sOwn (i : Nat) : sOwn i fs δ = bindF (fs δ) δ fun ds => .next (δ.set i (.own ds)) := rfl
@[simp] theorem ev_sDrop : sDrop f δ = bindF (f δ) δ fun _ => .next δ := rfl
@[simp] theorem ev_sRaise (x : String) : sRaise x δ = .exc x δ := rfl
@[simp] theorem ev_sFrz (i : Nat) : sFrz i a δ = a (frz i δ) := rfl
@[simp] theorem ev_sUnp (t : Tg) : sUnp t f δ = bindF (f δ) δ fun d => match t.put d δ with | some δ' => .next δ' | none => .bad := rfl
@[simp] theorem ev_sFor (t : Tg) : sFor t fs a δ = bindF (fs δ) δ fun ds => forF t a ds δ := rfl
@[simp] theorem ev_eC (d : D) : eC d δ = .ok d := rfl
@[simp] theorem ev_e1 (h : D → Option D) : e1 h f δ = (f δ >>= fun x => ofO (h x)) := rfl
@[simp] theorem ev_e2 (h : D → D → Option D) : e2 h f g δ = (f δ >>= fun x => g δ >>= fun y => ofO (h x y)) := rfl
@[simp] theorem ev_eB (m : List D → Option D) : eB m fs δ = (fs δ >>= fun xs => ofO (m xs)) := rfl
@[simp] theorem ev_eCall (m : List D → R D) : eCall m fs δ = (fs δ >>= fun xs => m xs) := rfl
@[simp] theorem ev_eIsi (T : String) : eIsi T f δ = (f δ >>= fun d => ofO ((tyN d).bind fun t => (kitB t T).map .bl)) := rfl
@[simp] theorem ev_aNil : aNil δ = .ok [] := rfl
@[simp] theorem ev_aCons : aCons f fs δ = (f δ >>= fun x => fs δ >>= fun xs => .ok (x :: xs)) := rfl
@[simp] theorem ev_eIf : eIf c f g δ = (c δ >>= fun x => if x = true then f δ else g δ) := by
  unfold eIf; congr 1 <;> (funext x; cases x <;> rfl)
def blR : D → R Bool
  | .bl b => .ok b
  | _ => .bad
@[simp] theorem blR_bl (b : Bool) : blR (.bl b) = .ok b := rfl
@[simp] theorem ev_tB1 : tB1 f δ = (f δ >>= blR) := by
  unfold tB1; congr 1 <;> (funext x; cases x <;> rfl)
@[simp] theorem ev_tAnd : tAnd' t u δ = (t δ >>= fun x => if x = true then u δ else .ok false) := by
  unfold tAnd'; congr 1 <;> (funext x; cases x <;> rfl)
@[simp] theorem ev_tOr : tOr' t u δ = (t δ >>= fun x => if x = true then .ok true else u δ) := by
  unfold tOr'; congr 1 <;> (funext x; cases x <;> rfl)
def andK (x : D) (k : R D) : R D := match x with
  | .bl true => k
  | .bl false => .ok (.bl false)
  | _ => .bad
def orK (x : D) (k : R D) : R D := match x with
  | .bl true => .ok (.bl true)
  | .bl false => k
  | _ => .bad
def notK : D → R D
  | .bl b => .ok (.bl !b)
  | _ => .bad
@[simp] theorem andK_bl (b : Bool) (k : R D) : andK (.bl b) k = if b = true then k else .ok (.bl false) := by cases b <;> rfl
@[simp] theorem orK_bl (b : Bool) (k : R D) : orK (.bl b) k = if b = true then .ok (.bl true) else k := by cases b <;> rfl
@[simp] theorem notK_bl (b : Bool) : notK (.bl b) = .ok (.bl !b) := rfl
@[simp] theorem ev_eAnd : eAnd f g δ = (f δ >>= fun x => andK x (g δ)) := by
  unfold eAnd; congr 1 <;> (funext x; cases x <;> rfl)
@[simp] theorem ev_eOr : eOr f g δ = (f δ >>= fun x => orK x (g δ)) := by
  unfold eOr; congr 1 <;> (funext x; cases x <;> rfl)
@[simp] theorem ev_eNot : eNot f δ = (f δ >>= notK) := by
  unfold eNot; congr 1 <;> (funext x; cases x <;> rfl)
@[simp] theorem ev_tNot : tNot' t δ = (t δ >>= fun x => .ok !x) := rfl
@[simp] theorem ev_tYes : tYesD δ = .ok true := rfl
@[simp] theorem ev_oNone : oNone δ = .ok none := rfl
@[simp] theorem ev_oSome : oSome f δ = (f δ >>= fun x => match x with | .int i => .ok (some i) | _ => .bad) := rfl
@[simp] theorem ev_eSl (l h : Env → R (Option Int)) : eSl f l h δ = (f δ >>= fun x => l δ >>= fun a => h δ >>= fun b => ofO (slD x a b)) := rfl
@[simp] theorem ev_iSeq : iSeq f δ = (f δ >>= fun d => ofO (itD d)) := rfl
@[simp] theorem ev_iRng : iRng fs δ = (fs δ >>= fun ds => ofO (rngD ds)) := rfl
@[simp] theorem ev_eN : eN fs δ = (fs δ >>= fun xs => .ok (.lst xs)) := rfl
@[simp] theorem ev_ofO_some {α : Type} (x : α) : ofO (some x) = .ok x := rfl
@[simp] theorem ev_ofO_none {α : Type} : (ofO none : R α) = .bad := rfl
@[simp] theorem ev_eV0 (x : S) (δ : Env) : eV 0 (x :: δ) = (match x with | .val d => .ok d | _ => .bad) := by cases x <;> rfl
@[simp] theorem ev_eVs (i : Nat) (x : S) (δ : Env) : eV (i + 1) (x :: δ) = eV i δ := by unfold eV; simp
@[simp] theorem lt_int (i j : Int) : ltD (.int i) (.int j) = some (.bl (decide (i < j))) := rfl
@[simp] theorem le_int (i j : Int) : leD (.int i) (.int j) = some (.bl (decide (i ≤ j))) := rfl
@[simp] theorem gt_int (i j : Int) : gtD (.int i) (.int j) = some (.bl (decide (j < i))) := rfl
@[simp] theorem ge_int (i j : Int) : geD (.int i) (.int j) = some (.bl (decide (j ≤ i))) := rfl
@[simp] theorem add_int (i j : Int) : addD (.int i) (.int j) = some (.int (i + j)) := rfl
@[simp] theorem sub_int (i j : Int) : subD (.int i) (.int j) = some (.int (i - j)) := rfl
@[simp] theorem iadd_int (i j : Int) : iaddD (.int i) (.int j) = some (.int (i + j)) := rfl
@[simp] theorem len_tup (xs : List D) : lenD [.tup xs] = some (.int xs.length) := rfl
@[simp] theorem len_lst (xs : List D) : lenD [.lst xs] = some (.int xs.length) := rfl
@[simp] theorem eq_int (i j : Int) : eqD (.int i) (.int j) = some (.bl (decide (i = j))) := by
  rw [eqD_nb rfl rfl (sh_of rfl (Nat.zero_le _)) (sh_of rfl (Nat.zero_le _))]; simp
@[simp] theorem ne_int (i j : Int) : neD (.int i) (.int j) = some (.bl (!decide (i = j))) := by
  rw [neD_nb rfl rfl (sh_of rfl (Nat.zero_le _)) (sh_of rfl (Nat.zero_le _))]; simp
@[simp] theorem itD_tup (xs : List D) : itD (.tup xs) = some xs := rfl
@[simp] theorem itD_lst (xs : List D) : itD (.lst xs) = some xs := rfl
theorem itD_str (l : List Nat) : itD (.str (Tx l)) = some (l.map fun c => .str (Tx [c])) := rfl
@[simp] theorem put_one (i : Nat) (d : D) : (Tg.one i).put d δ = some (δ.set i (.val d)) := rfl
theorem sz_eq : (sizeLine : Nat) = 16777216 := rfl
end
theorem kit_str_str : kitB "str" "str" = some true := by decide +kernel
theorem kit_tuple_tuple : kitB "tuple" "tuple" = some true := by decide +kernel
theorem kit_str_tuple : kitB "str" "tuple" = some false := by decide +kernel
theorem kit_tuple_str : kitB "tuple" "str" = some false := by decide +kernel
theorem kit_none_str : kitB "NoneType" "str" = some false := by decide +kernel
theorem kit_int_str : kitB "int" "str" = some false := by decide +kernel

/-! ### loops -/
end Dl

set_option Elab.async false
set_option linter.all false
set_option maxRecDepth 100000
set_option maxHeartbeats 1000000
/-! The laws' cells and draws. -/
namespace Dl
open PySem PySem.Spec PyProof.Rows L2
theorem mod_nat (a b : Nat) (h : 0 < b) : modD (.int (a : Int)) (.int (b : Int)) = some (.int ((a % b : Nat) : Int)) := by
  show (if decide ((0 : Int) < (b : Int)) = true then some (D.int ((a : Int) % (b : Int))) else none) = _
  rw [if_pos (by rw [decide_eq_true_eq]; omega), Int.natCast_emod]
theorem mod_pos (i b : Int) (h : 0 < b) : modD (.int i) (.int b) = some (.int (((i % b).toNat : Nat) : Int)) := by
  have : 0 ≤ i % b := Int.emod_nonneg _ (by omega)
  unfold modD iOp
  simp [h, Int.toNat_of_nonneg this]
theorem fdiv_nat (a b : Nat) (h : 0 < b) (h' : b < 2 ^ 30) : fdivD (.int (a : Int)) (.int (b : Int)) = some (.int ((a / b : Nat) : Int)) := by
  have h1 : (0 : Int) < (b : Int) := by omega
  have h2 : lg (b : Int) 30 = true := lg_of (by simpa using h') (by decide)
  unfold fdivD iOp
  simp only [h1, h2, decide_true, Bool.and_self, if_true, Int.natCast_ediv]
theorem mul_r (i j : Int) (h : j.natAbs < 2 ^ 64) : mulD (.int i) (.int j) = some (.int (i * j)) := by
  have h2 : lg j 64 = true := lg_of h (by decide)
  unfold mulD iOp
  simp only [h2, Bool.or_true, if_true]
theorem rng1 (n : Nat) (h : n < 2 ^ 62) : rngD [.int (n : Int)] = some ((List.range n).map fun (k : Nat) => .int (k : Int)) := by
  have h2 : lg (n : Int) 62 = true := lg_of (by simpa using h) (by decide)
  unfold rngD
  simp only [h2, if_true, Int.toNat_natCast]
def ntl (L : List Nat) : List D := L.map fun (x : Nat) => D.int (x : Int)
theorem ntl_len (L : List Nat) : (ntl L).length = L.length := by simp [ntl]
theorem ntl_snoc (L : List Nat) (x : Nat) : ntl (L ++ [x]) = ntl L ++ [.int (x : Int)] := by simp [ntl]
theorem ntl_ix {L : List Nat} (i : Nat) (h : i < L.length) : ixD (.lst (ntl L)) (.int (i : Int)) = some (.int ((L.getD i 0 : Nat) : Int)) := by
  rw [ix_lst]
  unfold ntl
  rw [List.getElem?_map, List.getElem?_eq_getElem h, List.getD_eq_getElem?_getD, List.getElem?_eq_getElem h]
  rfl
/-! ### _law_cell -/
abbrev bCell : Sv :=
    (sSeq (sIf (tB1 (e2 ltD (eV 1) (eB lenD (aCons (eV 0) aNil))))
    (sRet (e2 ixD (eV 0) (eV 1)))
    sNext)
    (sRet (eC (.int 0))))
theorem cell_ok (ns : List Int) (k : Nat) : ∃ c : Int, runF 2 bCell [.lst (ns.map D.int), .int (k : Int)] = .ok (.int c) := by
  have hi : ∀ a b, initE 2 [a, b] = [.val a, .val b] := fun _ _ => rfl
  unfold runF
  rw [hi]
  by_cases h : k < ns.length
  · refine ⟨ns[k], ?_⟩
    have e : ixD (.lst (ns.map D.int)) (.int (k : Int)) = some (.int ns[k]) := by
      rw [ix_lst, List.getElem?_map, List.getElem?_eq_getElem h]; rfl
    have h' : (k : Int) < (ns.length : Int) := by omega
    simp [h', e]
  · have h' : ¬ ((k : Int) < (ns.length : Int)) := by omega
    exact ⟨0, by simp [h']⟩
/-! ### _law_draws -/
theorem pow18 : powD (.int 10) (.int 18) = some (.int 1000000000000000000) := by decide +kernel
theorem fdiv_pos (i b : Int) (h : 0 < b) (h' : lg b 30 = true) : fdivD (.int i) (.int b) = some (.int (i / b)) := by
  unfold fdivD iOp
  simp only [h, h', decide_true, Bool.and_self, if_true]
end Dl

set_option Elab.async false
set_option linter.all false
set_option maxRecDepth 100000
set_option maxHeartbeats 1000000
/-! More plain facts: words, loops, equality of good data. -/
namespace Dl
open PySem PySem.Spec PyProof.Rows L2

/-! ### words -/
section
variable (f g h : Ev) (c t u : Tv) (a b : Sv) (fs : Env → R (List D)) (δ : Env)
@[simp] theorem sz_1 : (sizeLine : Nat) = 16777216 := rfl
@[simp] theorem fz_nil (i : Nat) : Dl.frz i [] = [] := by unfold Dl.frz; simp
@[simp] theorem fz_val (d : D) : Dl.frz 0 (.val d :: δ) = .val d :: δ := rfl
@[simp] theorem fz_no : Dl.frz 0 (.no :: δ) = .no :: δ := rfl
@[simp] theorem fz_own (o : O) : Dl.frz 0 (.own o :: δ) = .val o.d :: δ := rfl
@[simp] theorem fz_succ (i : Nat) (x : S) : Dl.frz (i + 1) (x :: δ) = x :: Dl.frz i δ := by
  unfold Dl.frz
  rw [List.getElem?_cons_succ]
  cases δ[i]? with
  | none => rfl
  | some y => cases y <;> rfl
@[simp] theorem od_lst (ds : List D) : O.d (.lst ds) = .lst ds := rfl
@[simp] theorem od_lol (ds : List (List D)) : O.d (.lol ds) = .lst (ds.map .lst) := rfl
@[simp] theorem od_ins (cc : String) (x : Addr) (fl : List String) (xs : List D) : O.d (.ins cc x fl xs) = .obj cc fl xs := rfl
@[simp] theorem od_dk (ks : List Key) (xs : List D) : O.d (.dk ks xs) = .dk ks xs := rfl
@[simp] theorem od_dt (ks xs : List D) : O.d (.dt ks xs) = .dt ks xs := rfl
@[simp] theorem odict_lst (ds : List D) : O.dict (.lst ds) = false := rfl
@[simp] theorem odict_dk (ks : List Key) (xs : List D) : O.dict (.dk ks xs) = true := rfl
@[simp] theorem odict_dt (ks xs : List D) : O.dict (.dt ks xs) = true := rfl
@[simp] theorem wp_nil : wipeE δ [] = δ := rfl
@[simp] theorem wp_cons (v : Nat) (vs : List Nat) : wipeE δ (v :: vs) = (wipeE δ vs).set v .no := rfl
@[simp] theorem sa_nil (ds : List D) : setAll [] ds δ = δ := by unfold setAll; rfl
@[simp] theorem sa_cons (i : Nat) (is : List Nat) (d : D) (ds : List D) : setAll (i :: is) (d :: ds) δ = setAll is ds (δ.set i (.val d)) := rfl
@[simp] theorem put_all (is : List Nat) (ds : List D) : (Tg.all is).put (.tup ds) δ = if ds.length = is.length then some (setAll is ds δ) else none := rfl
@[simp] theorem ev_eTup' : eTup fs δ = (fs δ >>= fun xs => ofO (if xs.length ≤ 16777216 then some (.tup xs) else none)) := rfl
@[simp] theorem ev_eLst' : eLst fs δ = (fs δ >>= fun xs => ofO (if xs.length ≤ 16777216 then some (.lst xs) else none)) := rfl
@[simp] theorem ev_nLst : nLst fs δ = (fs δ >>= fun xs => ofO (if xs.length ≤ 16777216 then some xs else none)) := rfl
@[simp] theorem ev_nLc (vs : List Nat) (tg : Tg) : nLc vs tg fs c f δ = (fs δ >>= fun ds => mapF tg c f (wipeE δ vs) ds >>= fun ys => ofO (if ys.length ≤ 16777216 then some ys else none)) := rfl
@[simp] theorem ev_eGen' (stop : Bool) (vs : List Nat) (tg : Tg) : eGen stop vs tg fs c f δ = (fs δ >>= fun ds => genF stop tg c f (wipeE δ vs) ds) := rfl
@[simp] theorem ev_tBor (i : Nat) : tBor i t δ = t (Dl.frz i δ) := rfl
@[simp] theorem ev_eBor (i : Nat) : eBor i f δ = (f (Dl.frz i δ) >>= fun d => if d.pure = true then .ok d else .bad) := rfl
theorem ev_sApp {i : Nat} {ds : List D} (h0 : δ[i]? = some (.own (.lst ds))) (hz : ds.length < 16777216) : sApp i f δ = bindF (f δ) δ fun d => .next (δ.set i (.own (ds ++ [d]))) := by
  unfold sApp
  simp only [h0]
  have hz : ds.length < sizeLine := hz
  simp only [if_pos hz]
theorem ev_sPut {i : Nat} {ds : List D} (h0 : δ[i]? = some (.own (.lst ds))) : sPut i g f δ = bindF (f δ) δ fun d => bindF (g δ) δ fun k => match k with
    | .int k => match ixN ds.length k with
      | some j => .next (δ.set i (.own (ds.set j d)))
      | none => .bad
    | _ => .bad := by
  unfold sPut; simp only [h0] <;> rfl
@[simp] theorem ev_sPar (is : List Nat) : sPar is fs δ = bindF (fs δ) δ fun ds => if ds.length = is.length then .next (setAll is ds δ) else .bad := rfl
@[simp] theorem ev_eM (ok : D → Bool) (m : D → List D → Option D) : eM ok m f fs δ = (f δ >>= fun x => if ok x = true then fs δ >>= fun ys => ofO (m x ys) else .bad) := rfl
@[simp] theorem ev_eM0 (ok : D → Bool) (m : D → Option D) : eM0 ok m f δ = (f δ >>= fun x => if ok x = true then ofO (m x) else .bad) := rfl
@[simp] theorem ev_eCallM (cc : String) (m : Str) (hm : List D → R D) : eCallM cc m hm f fs δ = (f δ >>= fun x => if isO cc m x = true then fs δ >>= fun xs => hm (x :: xs) else .bad) := rfl
@[simp] theorem ev_aSnoc : aSnoc fs f δ = (fs δ >>= fun xs => f δ >>= fun x => .ok (xs ++ [x])) := rfl
@[simp] theorem ok_tup (xs : List D) : isSq (.tup xs) = true := rfl
@[simp] theorem ok_lst (xs : List D) : isSq (.lst xs) = true := rfl
@[simp] theorem ok_str (x : Str) : isS (.str x) = true := rfl
@[simp] theorem ev_tIf : tIf' c t u δ = (c δ >>= fun x => if x = true then t δ else u δ) := by
  unfold tIf'; congr 1 <;> (funext x; cases x <;> rfl)
@[simp] theorem notB_eq (d : D) (b : Bool) : notBD d (.bl b) = some (.bl (!decide (d = .bl b))) := rfl
@[simp] theorem isB_eq (d : D) (b : Bool) : isBD d (.bl b) = some (.bl (decide (d = .bl b))) := rfl
@[simp] theorem isN_eq (d : D) : isND d .non = some (.bl (decide (d = .non))) := rfl
@[simp] theorem notN_eq (d : D) : notND d .non = some (.bl (!decide (d = .non))) := rfl
@[simp] theorem neg_int (i : Int) : negD (.int i) = some (.int (-i)) := rfl
@[simp] theorem tupD_lst (xs : List D) : tupleD [.lst xs] = some (.tup xs) := rfl
@[simp] theorem tupD_tup (xs : List D) : tupleD [.tup xs] = some (.tup xs) := rfl
@[simp] theorem listD_lst (xs : List D) : listD [.lst xs] = some (.lst xs) := rfl
@[simp] theorem listD_tup (xs : List D) : listD [.tup xs] = some (.lst xs) := rfl
@[simp] theorem pure_int (i : Int) : (D.int i).pure = true := rfl
@[simp] theorem pure_bl (i : Bool) : (D.bl i).pure = true := rfl
@[simp] theorem pure_str (i : Str) : (D.str i).pure = true := rfl
@[simp] theorem pure_non : D.non.pure = true := rfl
@[simp] theorem pureL_int (i : Int) : (D.int i).pureL = true := rfl
@[simp] theorem ev_eIsi' (T : String) : eIsi T f δ = (f δ >>= fun d => ofO ((tyN d).bind fun t => (kitB t T).map .bl)) := rfl
@[simp] theorem addD_lst (xs ys : List D) : addD (.lst xs) (.lst ys) = if xs.length + ys.length ≤ 16777216 then some (.lst (xs ++ ys)) else none := rfl
@[simp] theorem addD_tup (xs ys : List D) : addD (.tup xs) (.tup ys) = if xs.length + ys.length ≤ 16777216 then some (.tup (xs ++ ys)) else none := rfl
end
theorem sPut_at {f g : Ev} {δ : Env} {i : Nat} {ds : List D} {d : D} {j : Nat} (h0 : δ[i]? = some (.own (.lst ds))) (hf : f δ = .ok d) (hg : g δ = .ok (.int (j : Nat))) (hj : j < ds.length) : sPut i g f δ = .next (δ.set i (.own (ds.set j d))) := by
  rw [ev_sPut _ _ _ h0, hf, hg]
  have e : ixN ds.length (j : Int) = some j := by
    unfold ixN
    rw [if_pos (by omega), if_pos (by omega), Int.toNat_natCast]
  simp only [ev_bindF_ok, e]
theorem kit_int_int : kitB "int" "int" = some true := by decide +kernel
theorem kit_bool_int : kitB "bool" "int" = some true := by decide +kernel
theorem kit_none_int : kitB "NoneType" "int" = some false := by decide +kernel
theorem kit_str_int : kitB "str" "int" = some false := by decide +kernel
theorem kit_tuple_int : kitB "tuple" "int" = some false := by decide +kernel
theorem kit_list_int : kitB "list" "int" = some false := by decide +kernel
theorem kit_int_tuple : kitB "int" "tuple" = some false := by decide +kernel
theorem kit_bool_tuple : kitB "bool" "tuple" = some false := by decide +kernel
theorem kit_none_tuple : kitB "NoneType" "tuple" = some false := by decide +kernel
theorem kit_list_tuple : kitB "list" "tuple" = some false := by decide +kernel
theorem kit_bool_str : kitB "bool" "str" = some false := by decide +kernel
theorem kit_list_str : kitB "list" "str" = some false := by decide +kernel
def isIB : D → Bool
  | .int _ => true
  | .bl _ => true
  | _ => false
theorem isi_str (d : D) {t : String} (h : tyN d = some t) : (tyN d).bind (fun t => (kitB t "str").map D.bl) = some (.bl (isS d)) := by
  cases d <;> first | (simp only [tyN] at h; cases h; done) | simp [isS, tyN, kit_str_str, kit_tuple_str, kit_none_str, kit_int_str, kit_bool_str, kit_list_str]
theorem isi_tuple (d : D) {t : String} (h : tyN d = some t) : (tyN d).bind (fun t => (kitB t "tuple").map D.bl) = some (.bl (isT d)) := by
  cases d <;> first | (simp only [tyN] at h; cases h; done) | simp [isT, tyN, kit_tuple_tuple, kit_str_tuple, kit_none_tuple, kit_int_tuple, kit_bool_tuple, kit_list_tuple]
theorem isi_int (d : D) {t : String} (h : tyN d = some t) : (tyN d).bind (fun t => (kitB t "int").map D.bl) = some (.bl (isIB d)) := by
  cases d <;> first | (simp only [tyN] at h; cases h; done) | simp [isIB, tyN, kit_tuple_int, kit_str_int, kit_none_int, kit_int_int, kit_bool_int, kit_list_int]

/-! ### loops -/
/-- what a body's end means for a loop -/
def After (P : Fl → Prop) (I : Env → Prop) : Fl → Prop
  | .next δ => I δ
  | .cont δ => I δ
  | .brk δ => P (.next δ)
  | .ret d => P (.ret d)
  | .exc c δ => P (.exc c δ)
  | .bad => False
@[simp] theorem aft_next {P I δ} : After P I (.next δ) = I δ := rfl
@[simp] theorem aft_cont {P I δ} : After P I (.cont δ) = I δ := rfl
@[simp] theorem aft_brk {P I δ} : After P I (.brk δ) = P (.next δ) := rfl
@[simp] theorem aft_ret {P I d} : After P I (.ret d) = P (.ret d) := rfl
@[simp] theorem aft_exc {P I c δ} : After P I (.exc c δ) = P (.exc c δ) := rfl
theorem forF_gen {β : Type} {t : Tg} {f : Sv} {enc : β → D} (P : Fl → Prop) (I : List β → Env → Prop) : ∀ (bs done : List β) (δ : Env), I done δ →
    (∀ pre b δ, pre <+: done ++ bs → done.length ≤ pre.length → pre ++ [b] <+: done ++ bs → I pre δ → ∃ δ1, t.put (enc b) δ = some δ1 ∧ After P (I (pre ++ [b])) (f δ1)) →
    (∀ δ, I (done ++ bs) δ → P (.next δ)) → P (forF t f (bs.map enc) δ)
  | [], done, δ, h0, _, hf => by
    rw [List.map_nil, forF]
    exact hf δ (by rw [List.append_nil]; exact h0)
  | b :: bs, done, δ, h0, hs, hf => by
    obtain ⟨δ1, h1, h2⟩ := hs done b δ (List.prefix_append _ _) (Nat.le_refl _) ⟨bs, by simp⟩ h0
    have ih := fun δ' (hi : I (done ++ [b]) δ') => forF_gen P I bs (done ++ [b]) δ' hi (fun pre b' δ'' q1 q2 q3 q4 => hs pre b' δ'' (by simpa using q1) (by simp at q2; omega) (by simpa using q3) q4) (fun δ'' q => hf δ'' (by simpa using q))
    simp only [List.map_cons, forF, h1]
    cases hfl : f δ1 with
    | next δ' => rw [hfl] at h2; exact ih δ' h2
    | cont δ' => rw [hfl] at h2; exact ih δ' h2
    | brk δ' => rw [hfl] at h2; exact h2
    | ret d => rw [hfl] at h2; exact h2
    | exc c δ' => rw [hfl] at h2; exact h2
    | bad => rw [hfl] at h2; exact False.elim h2
/-- a loop that goes through -/
theorem forF_run {β : Type} {t : Tg} {f : Sv} {enc : β → D} (I : List β → Env → Prop) (bs : List β) {δ : Env} (h0 : I [] δ)
    (hs : ∀ pre b δ, pre ++ [b] <+: bs → I pre δ → ∃ δ1, t.put (enc b) δ = some δ1 ∧ ∃ δ2, f δ1 = .next δ2 ∧ I (pre ++ [b]) δ2) : ∃ δ', forF t f (bs.map enc) δ = .next δ' ∧ I bs δ' := by
  refine forF_gen (P := fun r => ∃ δ', r = .next δ' ∧ I bs δ') I bs [] δ h0 (fun pre b δ _ _ q3 q4 => ?_) (fun δ q => ⟨δ, rfl, q⟩)
  obtain ⟨δ1, h1, δ2, h2, h3⟩ := hs pre b δ q3 q4
  exact ⟨δ1, h1, by rw [h2]; exact h3⟩
theorem whileF_gen {c : Tv} {f : Sv} (P : Fl → Prop) (I : Nat → Env → Prop) (hs : ∀ k δ, I k δ → ∃ b, c δ = .ok b ∧ if b = true then After P (fun δ' => ∃ k', k' < k ∧ I k' δ') (f δ) else P (.next δ)) :
    ∀ (n k : Nat) (δ : Env), k < n → I k δ → P (whileF n c f δ)
  | 0, k, δ, h, _ => absurd h (Nat.not_lt_zero _)
  | n + 1, k, δ, h, hi => by
    obtain ⟨b, h1, h2⟩ := hs k δ hi
    have ih := fun δ' (q : ∃ k', k' < k ∧ I k' δ') => whileF_gen P I hs n q.choose δ' (by have := q.choose_spec.1; omega) q.choose_spec.2
    simp only [whileF, h1, ev_bindF_ok]
    cases b with
    | false => exact h2
    | true =>
      simp only [if_true] at h2
      cases hfl : f δ with
      | next δ' => rw [hfl] at h2; exact ih δ' h2
      | cont δ' => rw [hfl] at h2; exact ih δ' h2
      | brk δ' => rw [hfl] at h2; exact h2
      | ret d => rw [hfl] at h2; exact h2
      | exc c δ' => rw [hfl] at h2; exact h2
      | bad => rw [hfl] at h2; exact False.elim h2
/-- comprehensions: every element kept -/
theorem mapF_enc {β : Type} {t : Tg} {c : Tv} {f : Ev} {δ : Env} {enc : β → D} {g : β → D} : ∀ {bs : List β}, (∀ b ∈ bs, ∃ δ1, t.put (enc b) δ = some δ1 ∧ c δ1 = .ok true ∧ f δ1 = .ok (g b)) → mapF t c f δ (bs.map enc) = .ok (bs.map g)
  | [], _ => rfl
  | b :: bs, h => by
    obtain ⟨δ1, h1, h2, h3⟩ := h b List.mem_cons_self
    rw [List.map_cons, mapF]
    simp only [h1, h2, h3]
    rw [mapF_enc fun e he => h e (List.mem_cons_of_mem _ he)]
    rfl
/-- comprehensions with a condition -/
theorem mapF_filter {β : Type} {t : Tg} {c : Tv} {f : Ev} {δ : Env} {enc : β → D} {p : β → Bool} {g : β → D} : ∀ {bs : List β}, (∀ b ∈ bs, ∃ δ1, t.put (enc b) δ = some δ1 ∧ c δ1 = .ok (p b) ∧ (p b = true → f δ1 = .ok (g b))) → mapF t c f δ (bs.map enc) = .ok ((bs.filter p).map g)
  | [], _ => rfl
  | b :: bs, h => by
    obtain ⟨δ1, h1, h2, h3⟩ := h b List.mem_cons_self
    have ih := mapF_filter (bs := bs) fun e he => h e (List.mem_cons_of_mem _ he)
    rw [List.map_cons, mapF, List.filter_cons]
    cases hp : p b with
    | true =>
      rw [hp] at h2
      simp only [h1, h2, h3 hp, ih, if_true, List.map_cons]
      rfl
    | false =>
      rw [hp] at h2
      simp only [h1, h2, ih, Bool.false_eq_true, if_false]
theorem genF_enc_all {β : Type} {t : Tg} {c : Tv} {f : Ev} {δ : Env} {enc : β → D} {p : β → Bool} : ∀ {bs : List β}, (∀ b ∈ bs, ∃ δ1, t.put (enc b) δ = some δ1 ∧ c δ1 = .ok true ∧ f δ1 = .ok (.bl (p b))) → genF false t c f δ (bs.map enc) = .ok (.bl (bs.all p))
  | [], _ => rfl
  | b :: bs, h => by
    obtain ⟨δ1, h1, h2, h3⟩ := h b List.mem_cons_self
    have ih := genF_enc_all (bs := bs) fun e he => h e (List.mem_cons_of_mem _ he)
    rw [List.map_cons, genF]
    simp only [h1, h2, h3]
    rw [List.all_cons]
    cases hp : p b with
    | false => rfl
    | true => simp only [Bool.true_eq_false, if_false, Bool.true_and]; exact ih
theorem genF_enc_any {β : Type} {t : Tg} {c : Tv} {f : Ev} {δ : Env} {enc : β → D} {p : β → Bool} : ∀ {bs : List β}, (∀ b ∈ bs, ∃ δ1, t.put (enc b) δ = some δ1 ∧ c δ1 = .ok true ∧ f δ1 = .ok (.bl (p b))) → genF true t c f δ (bs.map enc) = .ok (.bl (bs.any p))
  | [], _ => rfl
  | b :: bs, h => by
    obtain ⟨δ1, h1, h2, h3⟩ := h b List.mem_cons_self
    have ih := genF_enc_any (bs := bs) fun e he => h e (List.mem_cons_of_mem _ he)
    rw [List.map_cons, genF]
    simp only [h1, h2, h3]
    rw [List.any_cons]
    cases hp : p b with
    | true => rfl
    | false => simp only [Bool.false_eq_true, if_false, Bool.false_or]; exact ih

/-! ### good data -/
def D.gd (k : Nat) (d : D) : Prop := d.nb = true ∧ d.txt = true ∧ d.dep ≤ k
theorem gd_mono {k k' : Nat} {d : D} (h : k ≤ k') (g : d.gd k) : d.gd k' := ⟨g.1, g.2.1, Nat.le_trans g.2.2 h⟩
theorem gd_int {k : Nat} (i : Int) : (D.int i).gd k := ⟨rfl, rfl, Nat.zero_le _⟩
theorem gd_non {k : Nat} : (D.non).gd k := ⟨rfl, rfl, Nat.zero_le _⟩
/-- a text of signs -/
def goodS (x : Str) : Bool := x.cps.all (· < 0x110000)
theorem gd_str {k : Nat} {x : Str} (h : goodS x = true) : (D.str x).gd k := ⟨rfl, h, Nat.zero_le _⟩
theorem nbs_of : ∀ {xs : List D}, (∀ x ∈ xs, x.nb = true) → D.nbs xs = true
  | [], _ => rfl
  | x :: xs, h => by rw [D.nbs, h x List.mem_cons_self, nbs_of fun y hy => h y (List.mem_cons_of_mem _ hy)]; rfl
theorem txts_of : ∀ {xs : List D}, (∀ x ∈ xs, x.txt = true) → D.txts xs = true
  | [], _ => rfl
  | x :: xs, h => by rw [D.txts, h x List.mem_cons_self, txts_of fun y hy => h y (List.mem_cons_of_mem _ hy)]; rfl
theorem deps_of {k : Nat} : ∀ {xs : List D}, (∀ x ∈ xs, x.dep ≤ k) → D.deps xs ≤ k
  | [], _ => Nat.zero_le _
  | x :: xs, h => by rw [D.deps]; exact Nat.max_le.mpr ⟨h x List.mem_cons_self, deps_of fun y hy => h y (List.mem_cons_of_mem _ hy)⟩
theorem gd_tup {k : Nat} {xs : List D} (h : ∀ x ∈ xs, x.gd k) : (D.tup xs).gd (k + 1) := ⟨by rw [D.nb]; exact nbs_of fun x hx => (h x hx).1, by rw [D.txt]; exact txts_of fun x hx => (h x hx).2.1, by rw [D.dep]; exact Nat.succ_le_succ (deps_of fun x hx => (h x hx).2.2)⟩
theorem gd_lst {k : Nat} {xs : List D} (h : ∀ x ∈ xs, x.gd k) : (D.lst xs).gd (k + 1) := ⟨by rw [D.nb]; exact nbs_of fun x hx => (h x hx).1, by rw [D.txt]; exact txts_of fun x hx => (h x hx).2.1, by rw [D.dep]; exact Nat.succ_le_succ (deps_of fun x hx => (h x hx).2.2)⟩
theorem gd_sh {k : Nat} {d : D} (h : d.gd k) (hk : k ≤ 64 := by decide) : sh d = true := sh_of h.2.1 (Nat.le_trans h.2.2 hk)
theorem eq_gd {d e : D} (h1 : d.gd 64) (h2 : e.gd 64) : eqD d e = some (.bl (decide (d = e))) := eqD_nb h1.1 h2.1 (gd_sh h1) (gd_sh h2)
theorem ne_gd {d e : D} (h1 : d.gd 64) (h2 : e.gd 64) : neD d e = some (.bl (!decide (d = e))) := neD_nb h1.1 h2.1 (gd_sh h1) (gd_sh h2)
theorem any_eqv {x : D} (hx : x.nb = true) : ∀ {ys : List D}, (∀ y ∈ ys, y.nb = true) → (ys.any fun z => eqv z x) = decide (x ∈ ys)
  | [], _ => rfl
  | y :: ys, h => by
    rw [List.any_cons, any_eqv hx fun z hz => h z (List.mem_cons_of_mem _ hz), eqv_dec (h y List.mem_cons_self) hx]
    rw [Bool.eq_iff_iff, Bool.or_eq_true, decide_eq_true_eq, decide_eq_true_eq, decide_eq_true_eq, List.mem_cons]
    exact ⟨fun z => z.imp Eq.symm id, fun z => z.imp Eq.symm id⟩
theorem in_lst {x : D} {ys : List D} (hx : x.gd 64) (hy : ∀ y ∈ ys, y.gd 63) : inD x (.lst ys) = some (.bl (decide (x ∈ ys))) := by
  have e : inD x (.lst ys) = if sh x && sh (.lst ys) then some (.bl (ys.any fun z => eqv z x)) else none := by cases x <;> rfl
  rw [e, gd_sh hx, gd_sh (gd_lst hy), any_eqv hx.1 fun y h => (hy y h).1]
  rfl
theorem in_tup {x : D} {ys : List D} (hx : x.gd 64) (hy : ∀ y ∈ ys, y.gd 63) : inD x (.tup ys) = some (.bl (decide (x ∈ ys))) := by
  have e : inD x (.tup ys) = if sh x && sh (.tup ys) then some (.bl (ys.any fun z => eqv z x)) else none := by cases x <;> rfl
  rw [e, gd_sh hx, gd_sh (gd_tup hy), any_eqv hx.1 fun y h => (hy y h).1]
  rfl
theorem nin_lst {x : D} {ys : List D} (hx : x.gd 64) (hy : ∀ y ∈ ys, y.gd 63) : ninD x (.lst ys) = some (.bl (!decide (x ∈ ys))) := by
  unfold ninD; rw [in_lst hx hy]
theorem nin_tup {x : D} {ys : List D} (hx : x.gd 64) (hy : ∀ y ∈ ys, y.gd 63) : ninD x (.tup ys) = some (.bl (!decide (x ∈ ys))) := by
  unfold ninD; rw [in_tup hx hy]
theorem find_eqv {x : D} (hx : x.nb = true) : ∀ {ys : List D}, (∀ y ∈ ys, y.nb = true) → (ys.findIdx? fun z => eqv z x) = if x ∈ ys then some (ys.idxOf x) else none
  | [], _ => by simp
  | y :: ys, h => by
    rw [List.findIdx?_cons, find_eqv hx fun z hz => h z (List.mem_cons_of_mem _ hz), eqv_dec (h y List.mem_cons_self) hx, List.idxOf_cons]
    by_cases e : y = x
    · simp [e]
    · have e2 : (y == x) = false := by simpa using e
      have e3 : ¬ x = y := fun z => e z.symm
      by_cases m : x ∈ ys
      · simp [e, e2, e3, m]
      · simp [e, e2, e3, m]
theorem idx_tup {x : D} {ys : List D} (hx : x.gd 64) (hy : ∀ y ∈ ys, y.gd 63) : idxD (.tup ys) [x] = if x ∈ ys then some (.int (ys.idxOf x : Nat)) else none := by
  show (if sh (.tup ys) && sh x then (ys.findIdx? fun z => eqv z x).map fun j => D.int (j : Nat) else none) = _
  rw [gd_sh hx, gd_sh (gd_tup hy), find_eqv hx.1 fun y h => (hy y h).1]
  by_cases m : x ∈ ys <;> simp [m]
theorem idx_lst {x : D} {ys : List D} (hx : x.gd 64) (hy : ∀ y ∈ ys, y.gd 63) : idxD (.lst ys) [x] = if x ∈ ys then some (.int (ys.idxOf x : Nat)) else none := by
  show (if sh (.lst ys) && sh x then (ys.findIdx? fun z => eqv z x).map fun j => D.int (j : Nat) else none) = _
  rw [gd_sh hx, gd_sh (gd_lst hy), find_eqv hx.1 fun y h => (hy y h).1]
  by_cases m : x ∈ ys <;> simp [m]
/-! ### along an injection -/
theorem mem_enc {α β : Type} {enc : α → β} (inj : ∀ a b, enc a = enc b → a = b) {a : α} {l : List α} : enc a ∈ l.map enc ↔ a ∈ l := by
  constructor
  · intro h
    obtain ⟨b, hb, e⟩ := List.mem_map.mp h
    rw [← inj b a e]; exact hb
  · exact List.mem_map_of_mem
theorem idx_enc {α : Type} [BEq α] [LawfulBEq α] {enc : α → D} (inj : ∀ a b, enc a = enc b → a = b) (a : α) : ∀ l : List α, (l.map enc).idxOf (enc a) = l.idxOf a
  | [] => rfl
  | b :: l => by
    rw [List.map_cons, List.idxOf_cons, List.idxOf_cons, idx_enc inj a l]
    by_cases e : b = a
    · simp [e]
    · have e2 : (b == a) = false := by simpa using e
      have e3 : (enc b == enc a) = false := by simpa using fun z => e (inj b a z)
      rw [e2, e3]
/-- a tuple of numbers -/
abbrev nt (m : List Nat) : D := .tup (ntl m)
theorem gd_ntl {k : Nat} (m : List Nat) : ∀ x ∈ ntl m, x.gd k := fun x hx => by
  obtain ⟨y, _, rfl⟩ := List.mem_map.mp hx
  exact gd_int _
theorem gd_nt {k : Nat} (m : List Nat) : (nt m).gd (k + 1) := gd_tup (gd_ntl m)
abbrev stl (l : List Str) : List D := l.map D.str
theorem str_inj : ∀ a b, D.str a = D.str b → a = b := fun a b h => D.str.inj h
theorem gd_stl {k : Nat} {l : List Str} (h : ∀ x ∈ l, goodS x = true) : ∀ x ∈ stl l, x.gd k := fun x hx => by
  obtain ⟨y, hy, rfl⟩ := List.mem_map.mp hx
  exact gd_str (h y hy)
end Dl

set_option Elab.async false
set_option linter.all false
set_option maxRecDepth 100000
set_option maxHeartbeats 1000000
/-! Dicts with good keys. -/
namespace Dl
open PySem
/-- good keys -/
def D.gk (d : D) : Prop := d.nb = true ∧ d.pure = true ∧ d.dep ≤ 8 ∧ ∃ xs, d = .tup xs
theorem pures_of : ∀ {xs : List D}, (∀ x ∈ xs, x.pure = true) → D.pures xs = true
  | [], _ => rfl
  | x :: xs, h => by rw [D.pures, h x List.mem_cons_self, pures_of fun y hy => h y (List.mem_cons_of_mem _ hy)]; rfl
end Dl

set_option Elab.async false
set_option linter.all false
set_option maxRecDepth 100000
set_option maxHeartbeats 1000000
/-! Fixed texts. -/
namespace Dl
open PySem
@[simp] theorem ofS_inj (a b : String) : (Str.ofString a = Str.ofString b) ↔ a = b := by
  constructor
  · intro h
    rw [Str.ofString_eq_toList, Str.ofString_eq_toList] at h
    have h1 := congrArg (fun x : Str => x.cps.toList) h
    apply String.ext
    have h2 : a.toList.map Char.toNat = b.toList.map Char.toNat := by simpa using h1
    exact (List.map_inj_right fun x y h => Char.ext (UInt32.toNat_inj.mp h)).mp h2
  · intro h; rw [h]
@[simp] theorem good_ofS (a : String) : goodS (Str.ofString a) = true := by
  unfold goodS
  rw [Str.ofString_eq_toList, ← Array.all_toList, List.all_eq_true]
  intro c hc
  have hc : c ∈ a.toList.map Char.toNat := by simpa using hc
  obtain ⟨x, _, rfl⟩ := List.mem_map.mp hc
  rw [decide_eq_true_eq]
  have := x.valid
  simp only [UInt32.isValidChar, Nat.isValidChar] at this
  show x.val.toNat < 0x110000
  omega
@[simp] theorem gd_str_iff {k : Nat} {x : Str} : (D.str x).gd k ↔ goodS x = true := ⟨fun h => h.2.1, gd_str⟩
@[simp] theorem gd_int_iff {k : Nat} {i : Int} : (D.int i).gd k ↔ True := ⟨fun _ => trivial, fun _ => gd_int i⟩
@[simp] theorem gd_non_iff {k : Nat} : (D.non).gd k ↔ True := ⟨fun _ => trivial, fun _ => gd_non⟩
theorem eq_str {x y : Str} (h1 : goodS x = true) (h2 : goodS y = true) : eqD (.str x) (.str y) = some (.bl (decide (x = y))) := by
  rw [eq_gd (gd_str h1) (gd_str h2)]; simp
theorem ne_str {x y : Str} (h1 : goodS x = true) (h2 : goodS y = true) : neD (.str x) (.str y) = some (.bl (!decide (x = y))) := by
  rw [ne_gd (gd_str h1) (gd_str h2)]; simp
section
variable (x y z : D) (xs : List D)
@[simp] theorem ix_t0 : ixD (.tup (x :: xs)) (.int 0) = some x := ix_tup (x :: xs) 0
@[simp] theorem ix_t1 : ixD (.tup (x :: y :: xs)) (.int 1) = some y := ix_tup (x :: y :: xs) 1
@[simp] theorem ix_t2 : ixD (.tup (x :: y :: z :: xs)) (.int 2) = some z := ix_tup (x :: y :: z :: xs) 2
@[simp] theorem ix_l0 : ixD (.lst (x :: xs)) (.int 0) = some x := ix_lst (x :: xs) 0
@[simp] theorem ix_l1 : ixD (.lst (x :: y :: xs)) (.int 1) = some y := ix_lst (x :: y :: xs) 1
@[simp] theorem ix_l2 : ixD (.lst (x :: y :: z :: xs)) (.int 2) = some z := ix_lst (x :: y :: z :: xs) 2
end
theorem eq_of (a b : String) : eqD (.str (Str.ofString a)) (.str (Str.ofString b)) = some (.bl (decide (a = b))) := by
  rw [eq_str (by simp) (by simp)]; simp
theorem ne_of (a b : String) : neD (.str (Str.ofString a)) (.str (Str.ofString b)) = some (.bl (!decide (a = b))) := by
  rw [ne_str (by simp) (by simp)]; simp
@[simp] theorem isT_tup (xs : List D) : isT (.tup xs) = true := rfl
@[simp] theorem isS_str (x : Str) : isS (.str x) = true := rfl
@[simp] theorem isi_tt (xs : List D) : ((tyN (.tup xs)).bind fun t => (L2.kitB t "tuple").map D.bl) = some (.bl true) := isi_tuple (.tup xs) rfl
@[simp] theorem isi_ss (x : Str) : ((tyN (.str x)).bind fun t => (L2.kitB t "str").map D.bl) = some (.bl true) := isi_str (.str x) rfl
end Dl

set_option Elab.async false
set_option linter.all false
set_option maxRecDepth 100000
set_option maxHeartbeats 4000000
namespace Sh
open PySem PySem.Spec PyProof.Rows L2 Dl
noncomputable section

/-! ### is_number -/
def b_is_number : Sv :=
    (sRet (eAnd (eIsi "int" (eV 0)) (eAnd (e2 notBD (eV 0) (eC (.bl true))) (eAnd (e2 notBD (eV 0) (eC (.bl false))) (e2 geD (eV 0) (eV 1))))))
def m_is_number : List D → R D := runF 2 b_is_number

/-! ### is_name -/
def y1_is_name : Ev :=
    (e2 inD (eV 1) (eC (.str "abcdefghijklmnopqrstuvwxyz0123456789")))
def b_is_name : Sv :=
    (sSeq (sIf (tOr' (tNot' (tB1 (eIsi "str" (eV 0)))) (tOr' (tB1 (e2 ltD (eB lenD (aCons (eV 0) aNil)) (eC (.int 1)))) (tOr' (tB1 (e2 gtD (eB lenD (aCons (eV 0) aNil)) (eC (.int 8)))) (tB1 (e2 ninD (e2 ixD (eV 0) (eC (.int 0))) (eC (.str "abcdefghijklmnopqrstuvwxyz")))))))
    (sRet (eC (.bl false)))
    sNext)
    (sRet (eGen false [1] (.one 1) (iSeq (eV 0)) tYesD y1_is_name)))
def m_is_name : List D → R D := runF 2 b_is_name

/-! ### is_side -/
def l1_is_side : Sv :=
    (sSeq (sIf (tOr' (tNot' (tB1 (eIsi "tuple" (eV 3)))) (tOr' (tB1 (e2 neD (eB lenD (aCons (eV 3) aNil)) (eC (.int 2)))) (tOr' (tNot' (tB1 (eCall m_is_name (aCons (e2 ixD (eV 3) (eC (.int 0))) aNil)))) (tB1 (e2 ninD (e2 ixD (eV 3) (eC (.int 0))) (eV 0))))))
    (sRet (eC (.bl false)))
    sNext)
    (sSeq (sSet 4 (eM isSq idxD (eV 0) (aCons (e2 ixD (eV 3) (eC (.int 0))) aNil)))
    (sSeq (sIf (tOr' (tB1 (e2 leD (eV 4) (eV 2))) (tOr' (tNot' (tB1 (eCall m_is_number (aCons (e2 ixD (eV 3) (eC (.int 1))) (aCons (eC (.int 1)) aNil))))) (tB1 (e2 gtD (e2 ixD (eV 3) (eC (.int 1))) (eC (.int 9))))))
    (sRet (eC (.bl false)))
    sNext)
    (sSet 2 (eV 4)))))
def b_is_side : Sv :=
    (sSeq (sIf (tNot' (tB1 (eIsi "tuple" (eV 1))))
    (sRet (eC (.bl false)))
    sNext)
    (sSeq (sSet 2 (e1 negD (eC (.int 1))))
    (sSeq (sFor (.one 3) (iSeq (eV 1))
    l1_is_side)
    (sRet (eC (.bl true))))))
def m_is_side : List D → R D := runF 5 b_is_side

/-! ### is_move -/
def b_is_move : Sv :=
    (sSeq (sIf (tOr' (tNot' (tB1 (eIsi "tuple" (eV 1)))) (tOr' (tB1 (e2 neD (eB lenD (aCons (eV 1) aNil)) (eC (.int 3)))) (tNot' (tB1 (eCall m_is_name (aCons (e2 ixD (eV 1) (eC (.int 0))) aNil))))))
    (sRet (eC (.bl false)))
    sNext)
    (sRet (eAnd (eCall m_is_side (aCons (eV 0) (aCons (e2 ixD (eV 1) (eC (.int 1))) aNil))) (eCall m_is_side (aCons (eV 0) (aCons (e2 ixD (eV 1) (eC (.int 2))) aNil))))))
def m_is_move : List D → R D := runF 2 b_is_move

/-! ### check_mark -/
def l1_check_mark : Sv :=
    (sIf (tNot' (tB1 (eCall m_is_number (aCons (eV 2) (aCons (eC (.int 0)) aNil)))))
    (sRaise "BadMark")
    sNext)
def b_check_mark : Sv :=
    (sSeq (sIf (tOr' (tNot' (tB1 (eIsi "tuple" (eV 1)))) (tB1 (e2 neD (eB lenD (aCons (eV 1) aNil)) (eB lenD (aCons (e1 (fldD "Net" "places") (eV 0)) aNil)))))
    (sRaise "BadMark")
    sNext)
    (sFor (.one 2) (iSeq (eV 1))
    l1_check_mark))
def m_check_mark : List D → R D := runF 3 b_check_mark

/-! ### row_of -/
def y1_row_of : Ev :=
    (eC (.int 0))
def l1_row_of : Sv :=
    (sPut 2 (eM isSq idxD (e1 (fldD "Net" "places") (eV 0)) (aCons (eV 3) aNil)) (eV 4))
def b_row_of : Sv :=
    (sSeq (sOwn 2 (nLc [3] (.one 3) (iSeq (e1 (fldD "Net" "places") (eV 0))) tYesD y1_row_of))
    (sSeq (sFor (.all [3, 4]) (iSeq (eV 1))
    l1_row_of)
    (sFrz 2 (sRet (eB tupleD (aCons (eV 2) aNil))))))
def m_row_of : List D → R D := runF 5 b_row_of

/-! ### rows_of -/
def y1_rows_of : Ev :=
    (eTup (aCons (eV 1) (aCons (eCall m_row_of (aCons (eV 0) (aCons (eV 2) aNil))) (aCons (eCall m_row_of (aCons (eV 0) (aCons (eV 3) aNil))) aNil))))
def b_rows_of : Sv :=
    (sRet (eN (nLc [1, 2, 3] (.all [1, 2, 3]) (iSeq (e1 (fldD "Net" "moves") (eV 0))) tYesD y1_rows_of)))
def m_rows_of : List D → R D := runF 4 b_rows_of

/-! ### is_enough -/
/-! ### moved -/
/-! ### explored -/
/-! ### Graph_size -/
/-! ### Graph -/
/-! ### _law_cell -/
def b__law_cell : Sv :=
    (sSeq (sIf (tB1 (e2 ltD (eV 1) (eB lenD (aCons (eV 0) aNil))))
    (sRet (e2 ixD (eV 0) (eV 1)))
    sNext)
    (sRet (eC (.int 0))))
def m__law_cell : List D → R D := runF 2 b__law_cell

/-! ### _law_draws -/
def l1__law_draws : Sv :=
    (sSeq (sSet 5 (e2 modD (eB intTD (aCons (e2 addD (e2 addD (e2 mulD (eV 0) (eC (.int 48271))) (e2 mulD (eV 4) (eC (.int 69621)))) (eC (.int 1))) aNil)) (eC (.int 2147483647))))
    (sIf (tB1 (e2 geD (eV 0) (e2 powD (eC (.int 10)) (eC (.int 18)))))
    (sSeq (sApp 2 (e2 modD (eV 3) (eC (.int 1009))))
    (sSet 3 (e2 fdivD (eV 3) (eC (.int 1009)))))
    (sApp 2 (e2 fdivD (e2 modD (eB intTD (aCons (e2 addD (e2 mulD (eV 5) (eV 5)) (e2 mulD (eV 5) (eC (.int 40692)))) aNil)) (eC (.int 2147483399))) (eC (.int 7))))))
def b__law_draws : Sv :=
    (sSeq (sOwn 2 (nLst aNil))
    (sSeq (sSet 3 (eB intTD (aCons (eV 0) aNil)))
    (sSeq (sFor (.one 4) (iRng (aCons (eV 1) aNil))
    l1__law_draws)
    (sFrz 2 (sRet (eV 2))))))
def m__law_draws : List D → R D := runF 6 b__law_draws

/-! ### _law_side -/
/-! ### _law_shifted -/
/-! ### _law_net -/
/-! ### _law_mark -/
/-! ### _law_row -/
/-! ### _law_rows -/
/-! ### _law_enough -/
/-! ### _law_behind -/
/-! ### _law_reached -/
/-! ### _law_ahead -/
/-! ### _law_flood -/
/-! ### Net -/
def l1_Net : Sv :=
    (sSeq (sIf (tOr' (tNot' (tB1 (eCall m_is_name (aCons (eV 4) aNil)))) (tBor 3 (tB1 (e2 inD (eV 4) (eV 3)))))
    (sRaise "BadNet")
    sNext)
    (sApp 3 (eV 4)))
def l2_Net : Sv :=
    (sSeq (sIf (tOr' (tNot' (tB1 (eCall m_is_move (aCons (eV 1) (aCons (eV 5) aNil))))) (tBor 3 (tB1 (e2 inD (e2 ixD (eV 5) (eC (.int 0))) (eV 3)))))
    (sRaise "BadNet")
    sNext)
    (sApp 3 (e2 ixD (eV 5) (eC (.int 0)))))
def b_Net : Sv :=
    (sSeq (sIf (tOr' (tNot' (tB1 (eIsi "tuple" (eV 1)))) (tOr' (tB1 (e2 ltD (eB lenD (aCons (eV 1) aNil)) (eC (.int 1)))) (tB1 (e2 gtD (eB lenD (aCons (eV 1) aNil)) (eC (.int 8))))))
    (sRaise "BadNet")
    sNext)
    (sSeq (sOwn 3 (nLst aNil))
    (sSeq (sFor (.one 4) (iSeq (eV 1))
    l1_Net)
    (sSeq (sIf (tOr' (tNot' (tB1 (eIsi "tuple" (eV 2)))) (tB1 (e2 gtD (eB lenD (aCons (eV 2) aNil)) (eC (.int 9)))))
    (sRaise "BadNet")
    sNext)
    (sSeq (sFor (.one 5) (iSeq (eV 2))
    l2_Net)
    (sSeq (sAtt "Net" 0 "places" (eV 1))
    (sAtt "Net" 0 "moves" (eV 2))))))))
def m_Net : List D → R D := newF 6 "Net" b_Net

/-! ### Graph_steps -/
end
end Sh

set_option Elab.async false
set_option linter.all false
set_option maxRecDepth 100000
set_option maxHeartbeats 4000000
namespace Sh
open PySem PySem.Spec PyProof.Rows L2 Dl
noncomputable section

/-! ### found_move -/
/-! ### plain_steps -/
/-! ### turned_steps -/
/-! ### flooded -/
/-! ### parts_of -/
/-! ### ranks_of -/
/-! ### way_in -/
/-! ### word_between -/
/-! ### is_paper -/
def b_is_paper : Sv :=
    (sRet (eAnd (eIsi "tuple" (eV 0)) (eAnd (e2 eqD (eB lenD (aCons (eV 0) aNil)) (eV 2)) (eAnd (eIsi "str" (e2 ixD (eV 0) (eC (.int 0)))) (e2 eqD (e2 ixD (eV 0) (eC (.int 0))) (eV 1))))))
def m_is_paper : List D → R D := runF 3 b_is_paper

/-! ### behind_word -/
/-! ### check_names -/
/-! ### inner_moves -/
/-! ### loop_in -/
/-! ### first_part -/
/-! ### paper_again -/
/-! ### are_ranks -/
/-! ### judge_again -/
/-! ### _law_run -/
end
end Sh

set_option Elab.async false
set_option linter.all false
set_option maxRecDepth 100000
set_option maxHeartbeats 4000000
namespace K53
open PySem PySem.Spec PyProof.Rows L2 Dl Sh
noncomputable section

/-! ### links_of -/
def c1_links_of : Tv :=
    (tB1 (e2 gtD (e2 ixD (e2 ixD (e2 ixD (eV 1) (eV 6)) (eC (.int 2))) (eV 3)) (eC (.int 0))))
def y1_links_of : Ev :=
    (eV 6)
def c2_links_of : Tv :=
    (tB1 (e2 gtD (e2 ixD (e2 ixD (e2 ixD (eV 1) (eV 6)) (eC (.int 1))) (eV 3)) (eC (.int 0))))
def y2_links_of : Ev :=
    (eV 6)
def l1_links_of : Sv :=
    (sSeq (sSet 4 (eN (nLc [6] (.one 6) (iRng (aCons (eB lenD (aCons (eV 1) aNil)) aNil)) c1_links_of y1_links_of)))
    (sSeq (sSet 5 (eN (nLc [6] (.one 6) (iRng (aCons (eB lenD (aCons (eV 1) aNil)) aNil)) c2_links_of y2_links_of)))
    (sApp 2 (eTup (aCons (eV 4) (aCons (eV 5) aNil))))))
def b_links_of : Sv :=
    (sSeq (sSet 1 (eCall m_rows_of (aCons (eV 0) aNil)))
    (sSeq (sOwn 2 (nLst aNil))
    (sSeq (sFor (.one 3) (iRng (aCons (eB lenD (aCons (e1 (fldD "Net" "places") (eV 0)) aNil)) aNil))
    l1_links_of)
    (sFrz 2 (sRet (eV 2))))))
def m_links_of : List D → R D := runF 7 b_links_of

/-! ### is_marked -/
def l1_is_marked : Sv :=
    (sIf (tB1 (e2 gtD (eB maxAD (aCons (e2 addD (eV 2) (eV 3)) aNil)) (eC (.int 1))))
    (sRet (eC (.bl false)))
    sNext)
def y1_is_marked : Ev :=
    (eAnd (e2 eqD (eB lenD (aCons (eV 4) aNil)) (eC (.int 1))) (e2 eqD (eB lenD (aCons (eV 5) aNil)) (eC (.int 1))))
def b_is_marked : Sv :=
    (sSeq (sFor (.all [1, 2, 3]) (iSeq (eCall m_rows_of (aCons (eV 0) aNil)))
    l1_is_marked)
    (sRet (eGen false [4, 5] (.all [4, 5]) (iSeq (eCall m_links_of (aCons (eV 0) aNil))) tYesD y1_is_marked)))
def m_is_marked : List D → R D := runF 6 b_is_marked

/-! ### check_marked -/
def b_check_marked : Sv :=
    (sSeq (sDrop (eCall m_check_mark (aCons (eV 0) (aCons (eV 1) aNil))))
    (sIf (tNot' (tB1 (eCall m_is_marked (aCons (eV 0) aNil))))
    (sRaise "NotPlain")
    sNext))
def m_check_marked : List D → R D := runF 2 b_check_marked

/-! ### is_new_move -/
def y1_is_new_move : Ev :=
    (e2 neD (e2 ixD (e2 ixD (eV 0) (eV 2)) (eC (.int 1))) (e2 ixD (e2 ixD (eV 0) (eV 3)) (eC (.int 1))))
def b_is_new_move : Sv :=
    (sRet (eGen false [3] (.one 3) (iSeq (eV 1)) tYesD y1_is_new_move))
def m_is_new_move : List D → R D := runF 4 b_is_new_move

/-! ### rings -/
def y1_rings : Ev :=
    (eTup (aCons (eV 6) aNil))
def l1_rings : Sv :=
    (sIf (tB1 (e2 eqD (e2 ixD (e2 ixD (eV 1) (e2 ixD (eV 5) (e1 negD (eC (.int 1))))) (eC (.int 1))) (e2 ixD (e2 ixD (eV 1) (eV 6)) (eC (.int 0)))))
    (sIf (tB1 (e2 eqD (eV 6) (e2 ixD (eV 5) (eC (.int 0)))))
    (sApp 2 (eV 5))
    (sIf (tAnd' (tB1 (e2 ninD (eV 6) (eV 5))) (tB1 (eCall m_is_new_move (aCons (eV 1) (aCons (eV 5) (aCons (eV 6) aNil))))))
    (sApp 4 (e2 addD (eV 5) (eTup (aCons (eV 6) aNil))))
    sNext))
    sNext)
def l2_rings : Sv :=
    (sFor (.one 6) (iRng (aCons (e2 ixD (eV 5) (eC (.int 0))) (aCons (eB lenD (aCons (e1 (fldD "Net" "places") (eV 0)) aNil)) aNil)))
    l1_rings)
def q1_rings : Tv :=
    (tB1 (e2 gtD (eB lenD (aCons (eV 3) aNil)) (eC (.int 0))))
def w1_rings : Sv :=
    (sSeq (sOwn 4 (nLst aNil))
    (sSeq (sFor (.one 5) (iSeq (eV 3))
    l2_rings)
    (sFrz 4 (sSet 3 (eV 4)))))
def y2_rings : Ev :=
    (e2 ixD (e1 (fldD "Net" "places") (eV 0)) (eV 6))
def y3_rings : Ev :=
    (eB tupleD (aCons (eN (nLc [6] (.one 6) (iSeq (eV 5)) tYesD y2_rings)) aNil))
def b_rings : Sv :=
    (sSeq (sIf (tNot' (tB1 (eCall m_is_marked (aCons (eV 0) aNil))))
    (sRaise "NotPlain")
    sNext)
    (sSeq (sSet 1 (eCall m_links_of (aCons (eV 0) aNil)))
    (sSeq (sOwn 2 (nLst aNil))
    (sSeq (sSet 3 (eN (nLc [6] (.one 6) (iRng (aCons (eB lenD (aCons (e1 (fldD "Net" "places") (eV 0)) aNil)) aNil)) tYesD y1_rings)))
    (sSeq (whileF 1000000 q1_rings
    w1_rings)
    (sFrz 2 (sRet (eB tupleD (aCons (eN (nLc [5] (.one 5) (iSeq (eB sortGD (aCons (eV 2) aNil))) tYesD y3_rings)) aNil)))))))))
def m_rings : List D → R D := runF 7 b_rings

/-! ### tokens_on -/
def y1_tokens_on : Ev :=
    (e2 ixD (eV 1) (eM isSq idxD (e1 (fldD "Net" "places") (eV 0)) (aCons (eV 3) aNil)))
def b_tokens_on : Sv :=
    (sRet (eB sumD (aCons (eN (nLc [3] (.one 3) (iSeq (eV 2)) tYesD y1_tokens_on)) aNil)))
def m_tokens_on : List D → R D := runF 4 b_tokens_on

/-! ### order_by_empty -/
def c1_order_by_empty : Tv :=
    (tB1 (e2 eqD (e2 ixD (eV 1) (eV 7)) (eC (.int 0))))
def y1_order_by_empty : Ev :=
    (e2 ixD (eV 2) (eV 7))
def y2_order_by_empty : Ev :=
    (eAnd (e2 eqD (eV 10) (eLst (aCons (eV 8) aNil))) (e2 inD (e2 ixD (eV 9) (eC (.int 0))) (eV 4)))
def c2_order_by_empty : Tv :=
    (tNot' (tB1 (eGen true [9, 10] (.all [9, 10]) (iSeq (eV 3)) tYesD y2_order_by_empty)))
def y3_order_by_empty : Ev :=
    (eV 8)
def q1_order_by_empty : Tv :=
    (tBor 4 (tB1 (e2 gtD (eB lenD (aCons (eV 4) aNil)) (eC (.int 0)))))
def w1_order_by_empty : Sv :=
    (sSeq (sSet 6 (eN (nBor 4 (nLc [8] (.one 8) (iSeq (eV 4)) c2_order_by_empty y3_order_by_empty))))
    (sSeq (sIf (tB1 (e2 eqD (eB lenD (aCons (eV 6) aNil)) (eC (.int 0))))
    (sFrz 4 (sRet (eTup (aCons (eC .non) (aCons (eV 4) aNil)))))
    sNext)
    (sSeq (sApp 5 (e2 ixD (eV 6) (eC (.int 0))))
    (sRem 4 (e2 ixD (eV 6) (eC (.int 0)))))))
def b_order_by_empty : Sv :=
    (sSeq (sSet 2 (eCall m_links_of (aCons (eV 0) aNil)))
    (sSeq (sSet 3 (eN (nLc [7] (.one 7) (iRng (aCons (eB lenD (aCons (eV 1) aNil)) aNil)) c1_order_by_empty y1_order_by_empty)))
    (sSeq (sOwn 4 (nRng (eC (.int 0)) (eB lenD (aCons (e1 (fldD "Net" "moves") (eV 0)) aNil))))
    (sSeq (sOwn 5 (nLst aNil))
    (sSeq (whileF 1000000 q1_order_by_empty
    w1_order_by_empty)
    (sFrz 5 (sRet (eTup (aCons (eV 5) (aCons (eLst aNil) aNil))))))))))
def m_order_by_empty : List D → R D := runF 11 b_order_by_empty

/-! ### empty_ring -/
def c1_empty_ring : Tv :=
    (tAnd' (tB1 (e2 eqD (e2 ixD (eV 1) (eV 9)) (eC (.int 0)))) (tAnd' (tB1 (e2 eqD (e2 ixD (e2 ixD (eV 3) (eV 9)) (eC (.int 1))) (eLst (aCons (eV 5) aNil)))) (tB1 (e2 inD (e2 ixD (e2 ixD (e2 ixD (eV 3) (eV 9)) (eC (.int 0))) (eC (.int 0))) (eV 2)))))
def y1_empty_ring : Ev :=
    (eV 9)
def q1_empty_ring : Tv :=
    (tBor 6 (tB1 (e2 ninD (eV 5) (eV 6))))
def w1_empty_ring : Sv :=
    (sSeq (sApp 6 (eV 5))
    (sSeq (sSet 8 (eN (nLc [9] (.one 9) (iRng (aCons (eB lenD (aCons (eV 1) aNil)) aNil)) c1_empty_ring y1_empty_ring)))
    (sSeq (sApp 4 (e2 ixD (eV 8) (eC (.int 0))))
    (sSet 5 (e2 ixD (e2 ixD (e2 ixD (eV 3) (e2 ixD (eV 8) (eC (.int 0)))) (eC (.int 0))) (eC (.int 0)))))))
def y2_empty_ring : Ev :=
    (e2 ixD (e1 (fldD "Net" "places") (eV 0)) (eV 9))
def b_empty_ring : Sv :=
    (sSeq (sSet 3 (eCall m_links_of (aCons (eV 0) aNil)))
    (sSeq (sOwn 4 (nLst aNil))
    (sSeq (sSet 5 (e2 ixD (eV 2) (eC (.int 0))))
    (sSeq (sOwn 6 (nLst aNil))
    (sSeq (whileF 1000000 q1_empty_ring
    w1_empty_ring)
    (sSeq (sFrz 4 (sFrz 6 (sSet 7 (eSl (eV 4) (oSome (eM isSq idxD (eV 6) (aCons (eV 5) aNil))) oNone))))
    (sRet (eB tupleD (aCons (eN (nLc [9] (.one 9) (iRvs (eV 7)) tYesD y2_empty_ring)) aNil)))))))))
def m_empty_ring : List D → R D := runF 10 b_empty_ring

/-! ### paper_turns -/
def y1_paper_turns : Ev :=
    (e2 ixD (e2 ixD (e1 (fldD "Net" "moves") (eV 0)) (eV 4)) (eC (.int 0)))
def b_paper_turns : Sv :=
    (sSeq (sDrop (eCall m_check_marked (aCons (eV 0) (aCons (eV 1) aNil))))
    (sSeq (sUnp (.all [2, 3]) (eCall m_order_by_empty (aCons (eV 0) (aCons (eV 1) aNil))))
    (sSeq (sIf (tB1 (e2 isND (eV 2) (eC .non)))
    (sRet (eTup (aCons (eC (.str "ring")) (aCons (eCall m_empty_ring (aCons (eV 0) (aCons (eV 1) (aCons (eV 3) aNil)))) aNil))))
    sNext)
    (sRet (eTup (aCons (eC (.str "order")) (aCons (eB tupleD (aCons (eN (nLc [4] (.one 4) (iSeq (eV 2)) tYesD y1_paper_turns)) aNil)) aNil)))))))
def m_paper_turns : List D → R D := runF 5 b_paper_turns

/-! ### is_ring_of -/
def y1_is_ring_of : Ev :=
    (eIsi "str" (eV 4))
def y2_is_ring_of : Ev :=
    (e2 inD (eV 4) (e1 (fldD "Net" "places") (eV 0)))
def y3_is_ring_of : Ev :=
    (e2 gtD (eM isSq cntD (eV 1) (aCons (eV 4) aNil)) (eC (.int 1)))
def y4_is_ring_of : Ev :=
    (eM isSq idxD (e1 (fldD "Net" "places") (eV 0)) (aCons (eV 4) aNil))
def y5_is_ring_of : Ev :=
    (e2 eqD (e2 ixD (e2 ixD (eV 2) (e2 ixD (eV 3) (eV 5))) (eC (.int 1))) (e2 ixD (e2 ixD (eV 2) (e2 ixD (eV 3) (e2 modD (e2 addD (eV 5) (eC (.int 1))) (eB lenD (aCons (eV 3) aNil))))) (eC (.int 0))))
def b_is_ring_of : Sv :=
    (sSeq (sIf (tOr' (tNot' (tB1 (eIsi "tuple" (eV 1)))) (tOr' (tB1 (e2 eqD (eB lenD (aCons (eV 1) aNil)) (eC (.int 0)))) (tNot' (tB1 (eGen false [4] (.one 4) (iSeq (eV 1)) tYesD y1_is_ring_of)))))
    (sRet (eC (.bl false)))
    sNext)
    (sSeq (sIf (tOr' (tNot' (tB1 (eGen false [4] (.one 4) (iSeq (eV 1)) tYesD y2_is_ring_of))) (tB1 (eGen true [4] (.one 4) (iSeq (eV 1)) tYesD y3_is_ring_of)))
    (sRet (eC (.bl false)))
    sNext)
    (sSeq (sSet 2 (eCall m_links_of (aCons (eV 0) aNil)))
    (sSeq (sSet 3 (eN (nLc [4] (.one 4) (iSeq (eV 1)) tYesD y4_is_ring_of)))
    (sRet (eGen false [5] (.one 5) (iRng (aCons (eB lenD (aCons (eV 3) aNil)) aNil)) tYesD y5_is_ring_of))))))
def m_is_ring_of : List D → R D := runF 6 b_is_ring_of

/-! ### check_times -/
def y1_check_times : Ev :=
    (eAnd (eCall m_is_number (aCons (eV 2) (aCons (eC (.int 0)) aNil))) (e2 leD (eV 2) (eC (.int 999))))
def b_check_times : Sv :=
    (sSeq (sIf (tOr' (tNot' (tB1 (eIsi "tuple" (eV 1)))) (tB1 (e2 neD (eB lenD (aCons (eV 1) aNil)) (eB lenD (aCons (e1 (fldD "Net" "moves") (eV 0)) aNil)))))
    (sRaise "BadNumbers")
    sNext)
    (sIf (tNot' (tB1 (eGen false [2] (.one 2) (iSeq (eV 1)) tYesD y1_check_times)))
    (sRaise "BadNumbers")
    sNext))
def m_check_times : List D → R D := runF 3 b_check_times

/-! ### time_of -/
def y1_time_of : Ev :=
    (e2 ixD (eV 1) (e2 ixD (e2 ixD (e2 ixD (eV 3) (eM isSq idxD (e1 (fldD "Net" "places") (eV 0)) (aCons (eV 4) aNil))) (eC (.int 0))) (eC (.int 0))))
def b_time_of : Sv :=
    (sSeq (sSet 3 (eCall m_links_of (aCons (eV 0) aNil)))
    (sRet (eB sumD (aCons (eN (nLc [4] (.one 4) (iSeq (eV 2)) tYesD y1_time_of)) aNil))))
def m_time_of : List D → R D := runF 5 b_time_of

/-! ### slowest -/
def l1_slowest : Sv :=
    (sSeq (sSet 5 (eCall m_time_of (aCons (eV 0) (aCons (eV 2) (aCons (eV 4) aNil)))))
    (sSeq (sSet 6 (eCall m_tokens_on (aCons (eV 0) (aCons (eV 1) (aCons (eV 4) aNil)))))
    (sIf (tOr' (tB1 (e2 isND (eV 3) (eC .non))) (tB1 (e2 gtD (e2 mulD (eV 5) (e2 ixD (eV 3) (eC (.int 2)))) (e2 mulD (e2 ixD (eV 3) (eC (.int 1))) (eV 6)))))
    (sSet 3 (eTup (aCons (eV 4) (aCons (eV 5) (aCons (eV 6) aNil)))))
    sNext)))
def b_slowest : Sv :=
    (sSeq (sSet 3 (eC .non))
    (sSeq (sFor (.one 4) (iSeq (eCall m_rings (aCons (eV 0) aNil)))
    l1_slowest)
    (sRet (eV 3))))
def m_slowest : List D → R D := runF 7 b_slowest

/-! ### heights_for -/
def y1_heights_for : Ev :=
    (eC (.int 0))
def l1_heights_for : Sv :=
    (sSeq (sSet 11 (e2 ixD (e2 ixD (e2 ixD (eV 5) (eV 9)) (eC (.int 0))) (eC (.int 0))))
    (sSeq (sSet 12 (e2 ixD (e2 ixD (e2 ixD (eV 5) (eV 9)) (eC (.int 1))) (eC (.int 0))))
    (sSeq (sSet 13 (e2 subD (e2 addD (eBor 6 (e2 ixD (eV 6) (eV 11))) (e2 mulD (e2 ixD (eV 2) (eV 11)) (eV 4))) (e2 mulD (e2 ixD (eV 1) (eV 9)) (eV 3))))
    (sIf (tBor 6 (tB1 (e2 ltD (e2 ixD (eV 6) (eV 12)) (eV 13))))
    (sSeq (sPut 6 (eV 12) (eV 13))
    (sSet 8 (eC (.bl true))))
    sNext))))
def l2_heights_for : Sv :=
    (sSeq (sSet 8 (eC (.bl false)))
    (sSeq (sFor (.one 9) (iRng (aCons (eB lenD (aCons (eV 1) aNil)) aNil))
    l1_heights_for)
    (sIf (tNot' (tB1 (eV 8)))
    (sFrz 6 (sRet (eB tupleD (aCons (eV 6) aNil))))
    sNext)))
def b_heights_for : Sv :=
    (sSeq (sSet 5 (eCall m_links_of (aCons (eV 0) aNil)))
    (sSeq (sOwn 6 (nLc [10] (.one 10) (iSeq (e1 (fldD "Net" "moves") (eV 0))) tYesD y1_heights_for))
    (sSeq (sFor (.one 7) (iRng (aCons (e2 addD (eB lenD (aCons (e1 (fldD "Net" "moves") (eV 0)) aNil)) (eC (.int 1))) aNil))
    l2_heights_for)
    (sRet (eC .non)))))
def m_heights_for : List D → R D := runF 14 b_heights_for

/-! ### paper_pace -/
def b_paper_pace : Sv :=
    (sSeq (sDrop (eCall m_check_marked (aCons (eV 0) (aCons (eV 1) aNil))))
    (sSeq (sDrop (eCall m_check_times (aCons (eV 0) (aCons (eV 2) aNil))))
    (sSeq (sIf (tB1 (e2 eqD (e2 ixD (eCall m_paper_turns (aCons (eV 0) (aCons (eV 1) aNil))) (eC (.int 0))) (eC (.str "ring"))))
    (sRaise "NotPlain")
    sNext)
    (sSeq (sSet 3 (eCall m_slowest (aCons (eV 0) (aCons (eV 1) (aCons (eV 2) aNil)))))
    (sSeq (sIf (tB1 (e2 isND (eV 3) (eC .non)))
    (sRet (eC .non))
    sNext)
    (sRet (eTup (aCons (eC (.str "pace")) (aCons (e2 ixD (eV 3) (eC (.int 0))) (aCons (eCall m_heights_for (aCons (eV 0) (aCons (eV 1) (aCons (eV 2) (aCons (e2 ixD (eV 3) (eC (.int 1))) (aCons (e2 ixD (eV 3) (eC (.int 2))) aNil)))))) aNil))))))))))
def m_paper_pace : List D → R D := runF 4 b_paper_pace

/-! ### judge_pace -/
def y1_judge_pace : Ev :=
    (eAnd (eIsi "int" (eV 11)) (eNot (eIsi "bool" (eV 11))))
def l1_judge_pace : Sv :=
    (sSeq (sSet 9 (e2 ixD (e2 ixD (e2 ixD (eV 7) (eV 8)) (eC (.int 0))) (eC (.int 0))))
    (sSeq (sSet 10 (e2 ixD (e2 ixD (e2 ixD (eV 7) (eV 8)) (eC (.int 1))) (eC (.int 0))))
    (sIf (tB1 (e2 ltD (e2 ixD (eV 4) (eV 10)) (e2 subD (e2 addD (e2 ixD (eV 4) (eV 9)) (e2 mulD (e2 ixD (eV 2) (eV 9)) (eV 5))) (e2 mulD (e2 ixD (eV 1) (eV 8)) (eV 6)))))
    (sRet (eC (.bl false)))
    sNext)))
def b_judge_pace : Sv :=
    (sSeq (sDrop (eCall m_check_marked (aCons (eV 0) (aCons (eV 1) aNil))))
    (sSeq (sDrop (eCall m_check_times (aCons (eV 0) (aCons (eV 2) aNil))))
    (sSeq (sIf (tOr' (tNot' (tB1 (eCall m_is_paper (aCons (eV 3) (aCons (eC (.str "pace")) (aCons (eC (.int 3)) aNil)))))) (tOr' (tNot' (tB1 (eCall m_is_ring_of (aCons (eV 0) (aCons (e2 ixD (eV 3) (eC (.int 1))) aNil))))) (tNot' (tB1 (eIsi "tuple" (e2 ixD (eV 3) (eC (.int 2))))))))
    (sRet (eC (.bl false)))
    sNext)
    (sSeq (sSet 4 (e2 ixD (eV 3) (eC (.int 2))))
    (sSeq (sSet 5 (eCall m_tokens_on (aCons (eV 0) (aCons (eV 1) (aCons (e2 ixD (eV 3) (eC (.int 1))) aNil)))))
    (sSeq (sSet 6 (eCall m_time_of (aCons (eV 0) (aCons (eV 2) (aCons (e2 ixD (eV 3) (eC (.int 1))) aNil)))))
    (sSeq (sIf (tOr' (tB1 (e2 eqD (eV 5) (eC (.int 0)))) (tB1 (e2 neD (eB lenD (aCons (eV 4) aNil)) (eB lenD (aCons (e1 (fldD "Net" "moves") (eV 0)) aNil)))))
    (sRet (eC (.bl false)))
    sNext)
    (sSeq (sIf (tNot' (tB1 (eGen false [11] (.one 11) (iSeq (eV 4)) tYesD y1_judge_pace)))
    (sRet (eC (.bl false)))
    sNext)
    (sSeq (sSet 7 (eCall m_links_of (aCons (eV 0) aNil)))
    (sSeq (sFor (.one 8) (iRng (aCons (eB lenD (aCons (eV 1) aNil)) aNil))
    l1_judge_pace)
    (sRet (eC (.bl true)))))))))))))
def m_judge_pace : List D → R D := runF 12 b_judge_pace

/-! ### begins -/
def y1_begins : Ev :=
    (e2 ixD (eV 10) (eC (.int 0)))
def y2_begins : Ev :=
    (eM isSq idxD (eN (nLc [10] (.one 10) (iSeq (e1 (fldD "Net" "moves") (eV 0))) tYesD y1_begins)) (aCons (eV 9) aNil))
def l1_begins : Sv :=
    (sIf (tAnd' (tB1 (e2 eqD (e2 ixD (e2 ixD (eV 5) (eV 12)) (eC (.int 1))) (eLst (aCons (eV 8) aNil)))) (tB1 (e2 geD (eV 7) (e2 ixD (eV 1) (eV 12)))))
    (sSeq (sSet 14 (e2 ixD (e2 ixD (e2 ixD (eV 5) (eV 12)) (eC (.int 0))) (eC (.int 0))))
    (sSet 11 (eBor 6 (eB max2D (aCons (eV 11) (aCons (e2 addD (e2 ixD (e2 ixD (eV 6) (eV 14)) (e2 subD (eV 7) (e2 ixD (eV 1) (eV 12)))) (e2 ixD (eV 2) (eV 14))) aNil))))))
    sNext)
def l2_begins : Sv :=
    (sSeq (sSet 11 (eC (.int 0)))
    (sSeq (sFor (.one 12) (iRng (aCons (eB lenD (aCons (eV 1) aNil)) aNil))
    l1_begins)
    (sLApp 6 (eV 8) (eV 11))))
def l3_begins : Sv :=
    (sFor (.one 8) (iSeq (eV 4))
    l2_begins)
def y3_begins : Ev :=
    (eB tupleD (aCons (eV 13) aNil))
def b_begins : Sv :=
    (sSeq (sDrop (eCall m_check_marked (aCons (eV 0) (aCons (eV 1) aNil))))
    (sSeq (sDrop (eCall m_check_times (aCons (eV 0) (aCons (eV 2) aNil))))
    (sSeq (sIf (tOr' (tNot' (tB1 (eCall m_is_number (aCons (eV 3) (aCons (eC (.int 0)) aNil))))) (tB1 (e2 gtD (eV 3) (eC (.int 99)))))
    (sRaise "BadNumbers")
    sNext)
    (sSeq (sIf (tB1 (e2 eqD (e2 ixD (eCall m_paper_turns (aCons (eV 0) (aCons (eV 1) aNil))) (eC (.int 0))) (eC (.str "ring"))))
    (sRaise "NotPlain")
    sNext)
    (sSeq (sSet 4 (eN (nLc [9] (.one 9) (iSeq (e2 ixD (eCall m_paper_turns (aCons (eV 0) (aCons (eV 1) aNil))) (eC (.int 1)))) tYesD y2_begins)))
    (sSeq (sSet 5 (eCall m_links_of (aCons (eV 0) aNil)))
    (sSeq (sLol 6 (iSeq (e1 (fldD "Net" "moves") (eV 0))))
    (sSeq (sFor (.one 7) (iRng (aCons (eV 3) aNil))
    l3_begins)
    (sFrz 6 (sRet (eB tupleD (aCons (eN (nLc [13] (.one 13) (iSeq (eV 6)) tYesD y3_begins)) aNil))))))))))))
def m_begins : List D → R D := runF 15 b_begins

/-! ### _law_ring_net -/
def y1__law_ring_net : Ev :=
    (eTup (aCons (e2 modD (e2 ixD (eV 0) (e2 addD (eC (.int 2)) (e2 mulD (eC (.int 2)) (eV 8)))) (eV 2)) (aCons (e2 modD (e2 ixD (eV 0) (e2 addD (eC (.int 3)) (e2 mulD (eC (.int 2)) (eV 8)))) (eV 2)) aNil)))
def c1__law_ring_net : Tv :=
    (tB1 (e2 eqD (e2 ixD (e2 ixD (eV 3) (eV 8)) (eC (.int 1))) (eV 6)))
def y2__law_ring_net : Ev :=
    (eTup (aCons (e2 ixD (eV 4) (eV 8)) (aCons (eC (.int 1)) aNil)))
def c2__law_ring_net : Tv :=
    (tB1 (e2 eqD (e2 ixD (e2 ixD (eV 3) (eV 8)) (eC (.int 0))) (eV 6)))
def y3__law_ring_net : Ev :=
    (eTup (aCons (e2 ixD (eV 4) (eV 8)) (aCons (eC (.int 1)) aNil)))
def l1__law_ring_net : Sv :=
    (sSeq (sSet 7 (eB tupleD (aCons (eN (nLc [8] (.one 8) (iRng (aCons (eV 1) aNil)) c1__law_ring_net y2__law_ring_net)) aNil)))
    (sApp 5 (eTup (aCons (e2 ixD (eC (.str "abcd")) (eV 6)) (aCons (eV 7) (aCons (eB tupleD (aCons (eN (nLc [8] (.one 8) (iRng (aCons (eV 1) aNil)) c2__law_ring_net y3__law_ring_net)) aNil)) aNil))))))
def b__law_ring_net : Sv :=
    (sSeq (sSet 1 (e2 addD (e2 modD (e2 ixD (eV 0) (eC (.int 0))) (eC (.int 6))) (eC (.int 1))))
    (sSeq (sSet 2 (e2 addD (e2 modD (e2 ixD (eV 0) (eC (.int 1))) (eC (.int 4))) (eC (.int 1))))
    (sSeq (sSet 3 (eN (nLc [8] (.one 8) (iRng (aCons (eV 1) aNil)) tYesD y1__law_ring_net)))
    (sSeq (sSet 4 (eSl (eTup (aCons (eC (.str "p")) (aCons (eC (.str "q")) (aCons (eC (.str "r")) (aCons (eC (.str "s")) (aCons (eC (.str "t")) (aCons (eC (.str "u")) aNil))))))) oNone (oSome (eV 1))))
    (sSeq (sOwn 5 (nLst aNil))
    (sSeq (sFor (.one 6) (iRng (aCons (eV 2) aNil))
    l1__law_ring_net)
    (sFrz 5 (sRet (eTup (aCons (eV 4) (aCons (eB tupleD (aCons (eV 5) aNil)) (aCons (eV 3) aNil))))))))))))
def m__law_ring_net : List D → R D := runF 9 b__law_ring_net

/-! ### _law_rings -/
def y1__law_rings : Ev :=
    (eTup (aCons (eV 5) aNil))
def y2__law_rings : Ev :=
    (e2 ixD (e2 ixD (eV 0) (eV 5)) (eC (.int 1)))
def l1__law_rings : Sv :=
    (sIf (tAnd' (tB1 (e2 eqD (e2 ixD (e2 ixD (eV 0) (e2 ixD (eV 4) (e1 negD (eC (.int 1))))) (eC (.int 1))) (e2 ixD (e2 ixD (eV 0) (eV 5)) (eC (.int 0))))) (tAnd' (tB1 (e2 ninD (e2 ixD (e2 ixD (eV 0) (eV 5)) (eC (.int 1))) (eV 6))) (tB1 (e2 ninD (eV 5) (eV 4)))))
    (sApp 3 (e2 addD (eV 4) (eTup (aCons (eV 5) aNil))))
    sNext)
def l2__law_rings : Sv :=
    (sSeq (sIf (tB1 (e2 eqD (e2 ixD (e2 ixD (eV 0) (e2 ixD (eV 4) (e1 negD (eC (.int 1))))) (eC (.int 1))) (e2 ixD (e2 ixD (eV 0) (e2 ixD (eV 4) (eC (.int 0)))) (eC (.int 0)))))
    (sApp 1 (eV 4))
    sNext)
    (sSeq (sSet 6 (eN (nLc [5] (.one 5) (iSeq (eV 4)) tYesD y2__law_rings)))
    (sFor (.one 5) (iRng (aCons (e2 addD (e2 ixD (eV 4) (eC (.int 0))) (eC (.int 1))) (aCons (eB lenD (aCons (eV 0) aNil)) aNil)))
    l1__law_rings)))
def q1__law_rings : Tv :=
    (tB1 (e2 gtD (eB lenD (aCons (eV 2) aNil)) (eC (.int 0))))
def w1__law_rings : Sv :=
    (sSeq (sOwn 3 (nLst aNil))
    (sSeq (sFor (.one 4) (iSeq (eV 2))
    l2__law_rings)
    (sFrz 3 (sSet 2 (eV 3)))))
def b__law_rings : Sv :=
    (sSeq (sOwn 1 (nLst aNil))
    (sSeq (sSet 2 (eN (nLc [5] (.one 5) (iRng (aCons (eB lenD (aCons (eV 0) aNil)) aNil)) tYesD y1__law_rings)))
    (sSeq (whileF 1000000 q1__law_rings
    w1__law_rings)
    (sFrz 1 (sRet (eB sortGD (aCons (eV 1) aNil)))))))
def m__law_rings : List D → R D := runF 7 b__law_rings

/-! ### _law_stands -/
def y1__law_stands : Ev :=
    (eV 8)
def y2__law_stands : Ev :=
    (e2 ixD (eV 2) (e2 ixD (e2 ixD (eV 0) (eV 8)) (eC (.int 0))))
def y3__law_stands : Ev :=
    (e2 ixD (eV 1) (eV 8))
def c1__law_stands : Tv :=
    (tB1 (e2 neD (e2 ixD (e2 ixD (eV 0) (e2 ixD (eV 5) (eV 9))) (eC (.int 1))) (e2 ixD (e2 ixD (eV 0) (e2 ixD (eV 5) (e2 modD (e2 addD (eV 9) (eC (.int 1))) (eB lenD (aCons (eV 5) aNil))))) (eC (.int 0)))))
def y4__law_stands : Ev :=
    (eV 9)
def c2__law_stands : Tv :=
    (tB1 (e2 ltD (e2 ixD (eV 4) (e2 ixD (e2 ixD (eV 0) (eV 8)) (eC (.int 1)))) (e2 subD (e2 addD (e2 ixD (eV 4) (e2 ixD (e2 ixD (eV 0) (eV 8)) (eC (.int 0)))) (e2 mulD (eV 7) (e2 ixD (eV 2) (e2 ixD (e2 ixD (eV 0) (eV 8)) (eC (.int 0)))))) (e2 mulD (e2 ixD (eV 1) (eV 8)) (eV 6)))))
def y5__law_stands : Ev :=
    (eV 8)
def b__law_stands : Sv :=
    (sSeq (sSet 5 (eN (nLc [8] (.one 8) (iSeq (eV 3)) tYesD y1__law_stands)))
    (sSeq (sSet 6 (eB sumD (aCons (eN (nLc [8] (.one 8) (iSeq (eV 5)) tYesD y2__law_stands)) aNil)))
    (sSeq (sSet 7 (eB sumD (aCons (eN (nLc [8] (.one 8) (iSeq (eV 5)) tYesD y3__law_stands)) aNil)))
    (sSeq (sIf (tOr' (tB1 (e2 eqD (eV 7) (eC (.int 0)))) (tOr' (tB1 (e2 eqD (eB lenD (aCons (eV 5) aNil)) (eC (.int 0)))) (tB1 (e2 gtD (eB lenD (aCons (eN (nLc [9] (.one 9) (iRng (aCons (eB lenD (aCons (eV 5) aNil)) aNil)) c1__law_stands y4__law_stands)) aNil)) (eC (.int 0))))))
    (sRet (eC (.bl false)))
    sNext)
    (sRet (e2 eqD (eB lenD (aCons (eN (nLc [8] (.one 8) (iRng (aCons (eB lenD (aCons (eV 0) aNil)) aNil)) c2__law_stands y5__law_stands)) aNil)) (eC (.int 0))))))))
def m__law_stands : List D → R D := runF 10 b__law_stands

/-! ### _law_begins -/
def y1__law_begins : Ev :=
    (eC .non)
def c1__law_begins : Tv :=
    (tAnd' (tB1 (e2 eqD (e2 ixD (e2 ixD (eV 0) (eV 11)) (eC (.int 1))) (eV 6))) (tB1 (e2 geD (eV 8) (e2 ixD (eV 1) (eV 11)))))
def y2__law_begins : Ev :=
    (eTup (aCons (e2 ixD (e2 ixD (eV 0) (eV 11)) (eC (.int 0))) (aCons (e2 subD (eV 8) (e2 ixD (eV 1) (eV 11))) aNil)))
def c2__law_begins : Tv :=
    (tB1 (e2 isND (e2 ixD (e2 ixD (eV 4) (eV 12)) (eV 13)) (eC .non)))
def y3__law_begins : Ev :=
    (eC (.int 1))
def y4__law_begins : Ev :=
    (e2 addD (e2 ixD (e2 ixD (eV 4) (eV 12)) (eV 13)) (e2 ixD (eV 2) (eV 12)))
def l1__law_begins : Sv :=
    (sSeq (sSet 9 (eN (nLc [11] (.one 11) (iRng (aCons (eB lenD (aCons (eV 0) aNil)) aNil)) c1__law_begins y2__law_begins)))
    (sIf (tAnd' (tBor 4 (tB1 (e2 isND (e2 ixD (e2 ixD (eV 4) (eV 6)) (eV 8)) (eC .non)))) (tBor 4 (tB1 (e2 eqD (eB lenD (aCons (eN (nLc [12, 13] (.all [12, 13]) (iSeq (eV 9)) c2__law_begins y3__law_begins)) aNil)) (eC (.int 0))))))
    (sLPut 4 (eV 6) (eV 8) (eBor 4 (eB maxAD (aCons (e2 addD (eLst (aCons (eC (.int 0)) aNil)) (eN (nLc [12, 13] (.all [12, 13]) (iSeq (eV 9)) tYesD y4__law_begins))) aNil))))
    sNext))
def l2__law_begins : Sv :=
    (sFor (.one 8) (iRng (aCons (eV 3) aNil))
    l1__law_begins)
def l3__law_begins : Sv :=
    (sFor (.one 6) (iRng (aCons (eB lenD (aCons (eV 2) aNil)) aNil))
    l2__law_begins)
def y5__law_begins : Ev :=
    (eB tupleD (aCons (eV 10) aNil))
def b__law_begins : Sv :=
    (sSeq (sLolN 4 7 [7] (iSeq (eV 2)) (nLc [8] (.one 8) (iRng (aCons (eV 3) aNil)) tYesD y1__law_begins))
    (sSeq (sFor (.one 5) (iRng (aCons (e2 mulD (eV 3) (eB lenD (aCons (eV 2) aNil))) aNil))
    l3__law_begins)
    (sFrz 4 (sRet (eB tupleD (aCons (eN (nLc [10] (.one 10) (iSeq (eV 4)) tYesD y5__law_begins)) aNil))))))
def m__law_begins : List D → R D := runF 14 b__law_begins

/-! ### _law_refusal -/
def b__law_refusal : Sv :=
    (sSeq (sTryM [(subL [("BadNet", false), ("BadMark", false), ("BadNumbers", true), ("NotPlain", false)], (sRet (eC (.str "numbers")))), (subL [("BadNet", false), ("BadMark", false), ("BadNumbers", false), ("NotPlain", true)], (sRet (eC (.str "plain"))))] (sIf (tB1 (e2 eqD (eV 4) (eC (.int 0))))
    (sDrop (eCall m_paper_pace (aCons (eV 0) (aCons (eV 1) (aCons (eV 2) aNil)))))
    (sIf (tB1 (e2 eqD (eV 4) (eC (.int 1))))
    (sDrop (eCall m_begins (aCons (eV 0) (aCons (eV 1) (aCons (eV 2) (aCons (eV 3) aNil))))))
    (sDrop (eCall m_judge_pace (aCons (eV 0) (aCons (eV 1) (aCons (eV 2) (aCons (eC .non) aNil)))))))))
    (sRet (eC (.str "none"))))
def m__law_refusal : List D → R D := runF 5 b__law_refusal

/-! ### law -/
def y1_law : Ev :=
    (e2 modD (e2 ixD (eV 1) (e2 addD (eC (.int 16)) (eV 22))) (eC (.int 3)))
def y2_law : Ev :=
    (e2 modD (e2 ixD (eV 2) (eV 22)) (eC (.int 9)))
def y3_law : Ev :=
    (e2 ixD (eV 4) (eV 22))
def c1_law : Tv :=
    (tB1 (e2 eqD (eB sumD (aCons (eN (nLc [22] (.one 22) (iSeq (eV 13)) tYesD y3_law)) aNil)) (eC (.int 0))))
def y4_law : Ev :=
    (eV 13)
def y5_law : Ev :=
    (eM isSq idxD (eV 18) (aCons (eV 21) aNil))
def y6_law : Ev :=
    (e2 ixD (eV 5) (e2 ixD (e2 ixD (eV 20) (eV 22)) (eC (.int 0))))
def y7_law : Ev :=
    (e2 ixD (eV 4) (eV 22))
def y8_law : Ev :=
    (e2 ixD (eV 5) (e2 ixD (e2 ixD (eV 20) (eV 22)) (eC (.int 0))))
def y9_law : Ev :=
    (e2 ixD (eV 4) (eV 22))
def l1_law : Sv :=
    (sIf (tB1 (e2 gtD (e2 mulD (eB sumD (aCons (eN (nLc [22] (.one 22) (iSeq (eV 13)) tYesD y8_law)) aNil)) (eV 12)) (e2 mulD (eV 11) (eB sumD (aCons (eN (nLc [22] (.one 22) (iSeq (eV 13)) tYesD y9_law)) aNil)))))
    (sRet (eC (.bl false)))
    sNext)
def y10_law : Ev :=
    (e2 subD (e2 addD (e2 ixD (e2 ixD (eV 9) (eC (.int 2))) (eV 23)) (e2 modD (e2 ixD (eV 2) (e2 addD (eC (.int 9)) (eV 23))) (eC (.int 3)))) (eC (.int 1)))
def y11_law : Ev :=
    (e2 ixD (eV 18) (eV 22))
def y12_law : Ev :=
    (eC (.bl true))
def b_law : Sv :=
    (sSeq (sSet 1 (eCall m__law_draws (aCons (eCall m__law_cell (aCons (eV 0) (aCons (eC (.int 0)) aNil))) (aCons (eC (.int 30)) aNil))))
    (sSeq (sSet 2 (eCall m__law_draws (aCons (eCall m__law_cell (aCons (eV 0) (aCons (eC (.int 1)) aNil))) (aCons (eC (.int 30)) aNil))))
    (sSeq (sUnp (.all [18, 19, 20]) (eCall m__law_ring_net (aCons (eV 1) aNil)))
    (sSeq (sSet 3 (eCall m_Net (aCons (eV 18) (aCons (eV 19) aNil))))
    (sSeq (sSet 4 (eB tupleD (aCons (eN (nLc [22] (.one 22) (iRng (aCons (eB lenD (aCons (eV 18) aNil)) aNil)) tYesD y1_law)) aNil)))
    (sSeq (sSet 5 (eB tupleD (aCons (eN (nLc [22] (.one 22) (iRng (aCons (eB lenD (aCons (eV 19) aNil)) aNil)) tYesD y2_law)) aNil)))
    (sSeq (sSet 6 (e2 ixD (eTup (aCons (e2 addD (eV 5) (eTup (aCons (eC (.int 1)) aNil))) (aCons (eSl (eV 5) (oSome (eC (.int 1))) oNone) (aCons (eB listD (aCons (eV 5) aNil)) (aCons (eC .non) (aCons (e2 addD (eSl (eV 5) (oSome (eC (.int 1))) oNone) (eTup (aCons (e1 negD (eC (.int 1))) aNil))) (aCons (e2 addD (eSl (eV 5) (oSome (eC (.int 1))) oNone) (eTup (aCons (eC (.int 1000)) aNil))) (aCons (e2 addD (eSl (eV 5) (oSome (eC (.int 1))) oNone) (eTup (aCons (eC (.bl true)) aNil))) aNil)))))))) (e2 modD (e2 ixD (eV 2) (eC (.int 4))) (eC (.int 7)))))
    (sSeq (sIf (tOr' (tB1 (e2 neD (eCall m__law_refusal (aCons (eV 3) (aCons (eV 4) (aCons (eV 6) (aCons (eC (.int 1)) (aCons (e2 modD (e2 ixD (eV 2) (eC (.int 5))) (eC (.int 3))) aNil)))))) (eC (.str "numbers")))) (tB1 (e2 neD (eCall m__law_refusal (aCons (eV 3) (aCons (eV 4) (aCons (eV 5) (aCons (e2 ixD (eTup (aCons (e1 negD (eC (.int 1))) (aCons (eC (.int 100)) (aCons (eC .non) aNil)))) (e2 modD (e2 ixD (eV 2) (eC (.int 6))) (eC (.int 3)))) (aCons (eC (.int 1)) aNil)))))) (eC (.str "numbers")))))
    (sRet (eC (.bl false)))
    sNext)
    (sSeq (sSet 7 (eCall m__law_rings (aCons (eV 20) aNil)))
    (sSeq (sIf (tB1 (e2 gtD (eB lenD (aCons (eN (nLc [13] (.one 13) (iSeq (eV 7)) c1_law y4_law)) aNil)) (eC (.int 0))))
    (sRet (e2 eqD (eCall m__law_refusal (aCons (eV 3) (aCons (eV 4) (aCons (eV 5) (aCons (eC (.int 1)) (aCons (e2 modD (e2 ixD (eV 2) (eC (.int 5))) (eC (.int 2))) aNil)))))) (eC (.str "plain"))))
    sNext)
    (sSeq (sSet 8 (e2 modD (e2 ixD (eV 2) (eC (.int 7))) (eC (.int 7))))
    (sSeq (sIf (tB1 (e2 neD (eCall m_begins (aCons (eV 3) (aCons (eV 4) (aCons (eV 5) (aCons (eV 8) aNil))))) (eCall m__law_begins (aCons (eV 20) (aCons (eV 4) (aCons (eV 5) (aCons (eV 8) aNil)))))))
    (sRet (eC (.bl false)))
    sNext)
    (sSeq (sSet 9 (eCall m_paper_pace (aCons (eV 3) (aCons (eV 4) (aCons (eV 5) aNil)))))
    (sSeq (sIf (tOr' (tB1 (e2 isND (eV 9) (eC .non))) (tB1 (e2 eqD (eB lenD (aCons (eV 7) aNil)) (eC (.int 0)))))
    (sRet (eAnd (e2 isND (eV 9) (eC .non)) (e2 eqD (eB lenD (aCons (eV 7) aNil)) (eC (.int 0)))))
    sNext)
    (sSeq (sIf (tOr' (tB1 (e2 neD (e2 ixD (eV 9) (eC (.int 0))) (eC (.str "pace")))) (tNot' (tB1 (eCall m_judge_pace (aCons (eV 3) (aCons (eV 4) (aCons (eV 5) (aCons (eV 9) aNil))))))))
    (sRet (eC (.bl false)))
    sNext)
    (sSeq (sSet 10 (eN (nLc [21] (.one 21) (iSeq (e2 ixD (eV 9) (eC (.int 1)))) tYesD y5_law)))
    (sSeq (sIf (tNot' (tB1 (eCall m__law_stands (aCons (eV 20) (aCons (eV 4) (aCons (eV 5) (aCons (eV 10) (aCons (e2 ixD (eV 9) (eC (.int 2))) aNil))))))))
    (sRet (eC (.bl false)))
    sNext)
    (sSeq (sSet 11 (eB sumD (aCons (eN (nLc [22] (.one 22) (iSeq (eV 10)) tYesD y6_law)) aNil)))
    (sSeq (sSet 12 (eB sumD (aCons (eN (nLc [22] (.one 22) (iSeq (eV 10)) tYesD y7_law)) aNil)))
    (sSeq (sFor (.one 13) (iSeq (eV 7))
    l1_law)
    (sSeq (sSet 14 (e2 ixD (eV 7) (e2 modD (e2 ixD (eV 2) (eC (.int 8))) (eB lenD (aCons (eV 7) aNil)))))
    (sSeq (sSet 15 (eIf (tB1 (e2 eqD (e2 modD (e2 ixD (eV 2) (eC (.int 13))) (eC (.int 2))) (eC (.int 0)))) (eB tupleD (aCons (eN (nLc [23] (.one 23) (iRng (aCons (eB lenD (aCons (eV 19) aNil)) aNil)) tYesD y10_law)) aNil)) (e2 ixD (eV 9) (eC (.int 2)))))
    (sSeq (sSet 16 (eB tupleD (aCons (eN (nLc [22] (.one 22) (iSeq (eV 14)) tYesD y11_law)) aNil)))
    (sSeq (sIf (tB1 (e2 neD (eCall m_judge_pace (aCons (eV 3) (aCons (eV 4) (aCons (eV 5) (aCons (eTup (aCons (eC (.str "pace")) (aCons (eV 16) (aCons (eV 15) aNil)))) aNil))))) (eCall m__law_stands (aCons (eV 20) (aCons (eV 4) (aCons (eV 5) (aCons (eV 14) (aCons (eV 15) aNil))))))))
    (sRet (eC (.bl false)))
    sNext)
    (sSeq (sSet 17 (eTup (aCons (eC .non) (aCons (eTup aNil) (aCons (eTup (aCons (eC (.str "pace")) (aCons (e2 ixD (eV 9) (eC (.int 1))) aNil))) (aCons (eTup (aCons (eC (.str "pace")) (aCons (e2 ixD (eV 9) (eC (.int 1))) (aCons (eB listD (aCons (e2 ixD (eV 9) (eC (.int 2))) aNil)) aNil)))) (aCons (eTup (aCons (eC (.str "pace")) (aCons (e2 ixD (eV 9) (eC (.int 1))) (aCons (e2 addD (e2 ixD (eV 9) (eC (.int 2))) (eTup (aCons (eC (.int 0)) aNil))) aNil)))) (aCons (eTup (aCons (eC (.str "pace")) (aCons (eTup aNil) (aCons (e2 ixD (eV 9) (eC (.int 2))) aNil)))) (aCons (eLst (aCons (eC (.str "pace")) (aCons (e2 ixD (eV 9) (eC (.int 1))) (aCons (e2 ixD (eV 9) (eC (.int 2))) aNil)))) (aCons (eTup (aCons (eC (.str "pace")) (aCons (eTup (aCons (eC (.str "zz")) aNil)) (aCons (e2 ixD (eV 9) (eC (.int 2))) aNil)))) (aCons (eTup (aCons (eC (.str "pace")) (aCons (e2 ixD (eV 9) (eC (.int 1))) (aCons (eC .non) aNil)))) (aCons (eTup (aCons (eC (.str "pace")) (aCons (e2 ixD (eV 9) (eC (.int 1))) (aCons (eB tupleD (aCons (eN (nLc [21] (.one 21) (iSeq (e2 ixD (eV 9) (eC (.int 2)))) tYesD y12_law)) aNil)) aNil)))) (aCons (eTup (aCons (eC (.str "slow")) (aCons (e2 ixD (eV 9) (eC (.int 1))) (aCons (e2 ixD (eV 9) (eC (.int 2))) aNil)))) aNil)))))))))))))
    (sRet (eNot (eCall m_judge_pace (aCons (eV 3) (aCons (eV 4) (aCons (eV 5) (aCons (e2 ixD (eV 17) (e2 modD (e2 ixD (eV 2) (eC (.int 14))) (eC (.int 11)))) aNil))))))))))))))))))))))))))))))))
def m_law : List D → R D := runF 24 b_law
end
end K53

set_option Elab.async false
set_option linter.all false
set_option maxRecDepth 100000
set_option maxHeartbeats 4000000
namespace K53
open PySem PySem.Spec PyProof.Rows L2 Dl Sh
def top (i : Nat) : Stmt := PySem.Challenge.pw_tokenworks_k53_paces_of_rings.main.body.getD i (.Pass ⟨0, 0, 0, 0⟩)
/-! ### the facts that the head is to tell -/
def d_fn_is_number : He.DefD := ⟨("is_number", none), "is_number", "is_number", defArgs (top 12), defBody (top 12), defScope (top 12), [], []⟩
def d_fn_is_name : He.DefD := ⟨("is_name", none), "is_name", "is_name", defArgs (top 13), defBody (top 13), defScope (top 13), [], []⟩
def d_fn_is_side : He.DefD := ⟨("is_side", none), "is_side", "is_side", defArgs (top 14), defBody (top 14), defScope (top 14), [], []⟩
def d_fn_is_move : He.DefD := ⟨("is_move", none), "is_move", "is_move", defArgs (top 15), defBody (top 15), defScope (top 15), [], []⟩
def d_fn_check_mark : He.DefD := ⟨("check_mark", none), "check_mark", "check_mark", defArgs (top 17), defBody (top 17), defScope (top 17), [], []⟩
def d_fn_row_of : He.DefD := ⟨("row_of", none), "row_of", "row_of", defArgs (top 18), defBody (top 18), defScope (top 18), [], []⟩
def d_fn_rows_of : He.DefD := ⟨("rows_of", none), "rows_of", "rows_of", defArgs (top 19), defBody (top 19), defScope (top 19), [], []⟩
def d_fn_is_paper : He.DefD := ⟨("is_paper", none), "is_paper", "is_paper", defArgs (top 21), defBody (top 21), defScope (top 21), [], []⟩
def d_fn_links_of : He.DefD := ⟨("links_of", none), "links_of", "links_of", defArgs (top 23), defBody (top 23), defScope (top 23), [], []⟩
def d_fn_is_marked : He.DefD := ⟨("is_marked", none), "is_marked", "is_marked", defArgs (top 24), defBody (top 24), defScope (top 24), [], []⟩
def d_fn_check_marked : He.DefD := ⟨("check_marked", none), "check_marked", "check_marked", defArgs (top 25), defBody (top 25), defScope (top 25), [], []⟩
def d_fn_is_new_move : He.DefD := ⟨("is_new_move", none), "is_new_move", "is_new_move", defArgs (top 27), defBody (top 27), defScope (top 27), [], []⟩
def d_fn_rings : He.DefD := ⟨("rings", none), "rings", "rings", defArgs (top 26), defBody (top 26), defScope (top 26), [], []⟩
def d_fn_tokens_on : He.DefD := ⟨("tokens_on", none), "tokens_on", "tokens_on", defArgs (top 28), defBody (top 28), defScope (top 28), [], []⟩
def d_fn_order_by_empty : He.DefD := ⟨("order_by_empty", none), "order_by_empty", "order_by_empty", defArgs (top 29), defBody (top 29), defScope (top 29), [], []⟩
def d_fn_empty_ring : He.DefD := ⟨("empty_ring", none), "empty_ring", "empty_ring", defArgs (top 30), defBody (top 30), defScope (top 30), [], []⟩
def d_fn_paper_turns : He.DefD := ⟨("paper_turns", none), "paper_turns", "paper_turns", defArgs (top 31), defBody (top 31), defScope (top 31), [], []⟩
def d_fn_is_ring_of : He.DefD := ⟨("is_ring_of", none), "is_ring_of", "is_ring_of", defArgs (top 32), defBody (top 32), defScope (top 32), [], []⟩
def d_fn_check_times : He.DefD := ⟨("check_times", none), "check_times", "check_times", defArgs (top 33), defBody (top 33), defScope (top 33), [], []⟩
def d_fn_time_of : He.DefD := ⟨("time_of", none), "time_of", "time_of", defArgs (top 34), defBody (top 34), defScope (top 34), [], []⟩
def d_fn_slowest : He.DefD := ⟨("slowest", none), "slowest", "slowest", defArgs (top 35), defBody (top 35), defScope (top 35), [], []⟩
def d_fn_heights_for : He.DefD := ⟨("heights_for", none), "heights_for", "heights_for", defArgs (top 36), defBody (top 36), defScope (top 36), [], []⟩
def d_fn_paper_pace : He.DefD := ⟨("paper_pace", none), "paper_pace", "paper_pace", defArgs (top 37), defBody (top 37), defScope (top 37), [], []⟩
def d_fn_judge_pace : He.DefD := ⟨("judge_pace", none), "judge_pace", "judge_pace", defArgs (top 38), defBody (top 38), defScope (top 38), [], []⟩
def d_fn_begins : He.DefD := ⟨("begins", none), "begins", "begins", defArgs (top 39), defBody (top 39), defScope (top 39), [], []⟩
def d_fn__law_cell : He.DefD := ⟨("_law_cell", none), "_law_cell", "_law_cell", defArgs (top 41), defBody (top 41), defScope (top 41), [], []⟩
def d_fn__law_draws : He.DefD := ⟨("_law_draws", none), "_law_draws", "_law_draws", defArgs (top 42), defBody (top 42), defScope (top 42), [], []⟩
def d_fn__law_ring_net : He.DefD := ⟨("_law_ring_net", none), "_law_ring_net", "_law_ring_net", defArgs (top 43), defBody (top 43), defScope (top 43), [], []⟩
def d_fn__law_rings : He.DefD := ⟨("_law_rings", none), "_law_rings", "_law_rings", defArgs (top 44), defBody (top 44), defScope (top 44), [], []⟩
def d_fn__law_stands : He.DefD := ⟨("_law_stands", none), "_law_stands", "_law_stands", defArgs (top 45), defBody (top 45), defScope (top 45), [], []⟩
def d_fn__law_begins : He.DefD := ⟨("_law_begins", none), "_law_begins", "_law_begins", defArgs (top 46), defBody (top 46), defScope (top 46), [], []⟩
def d_fn__law_refusal : He.DefD := ⟨("_law_refusal", none), "_law_refusal", "_law_refusal", defArgs (top 47), defBody (top 47), defScope (top 47), [], []⟩
def d_fn_Net : He.DefD := ⟨("Net", some "__init__"), "__init__", "Net.__init__", defArgs (subSt (top 16) 0), defBody (subSt (top 16) 0), defScope (subSt (top 16) 0), [], []⟩
def d_fn_law : He.DefD := ⟨("law", none), "law", "law", defArgs (top 48), defBody (top 48), defScope (top 48), [], []⟩
def fn : List He.DefD := [d_fn_is_number, d_fn_is_name, d_fn_is_side, d_fn_is_move, d_fn_check_mark, d_fn_row_of, d_fn_rows_of, d_fn_is_paper, d_fn_links_of, d_fn_is_marked, d_fn_check_marked, d_fn_is_new_move, d_fn_rings, d_fn_tokens_on, d_fn_order_by_empty, d_fn_empty_ring, d_fn_paper_turns, d_fn_is_ring_of, d_fn_check_times, d_fn_time_of, d_fn_slowest, d_fn_heights_for, d_fn_paper_pace, d_fn_judge_pace, d_fn_begins, d_fn__law_cell, d_fn__law_draws, d_fn__law_ring_net, d_fn__law_rings, d_fn__law_stands, d_fn__law_begins, d_fn__law_refusal, d_fn_Net, d_fn_law]
def fa : List He.Fa := [.free "isinstance", .free "int", .glo "is_number", .free "str", .free "len", .str "LETTERS" "abcdefghijklmnopqrstuvwxyz", .str "SIGNS" "abcdefghijklmnopqrstuvwxyz0123456789", .free "all", .glo "is_name", .free "tuple", .int "MOST_WEIGHT" (9), .glo "is_side", .glo "is_move", .cls "Net", .noat "Net" "places", .glo "BadMark", .exc "BadMark", .glo "check_mark", .glo "row_of", .noat "Net" "moves", .glo "rows_of", .glo "is_paper", .free "range", .glo "links_of", .free "max", .glo "is_marked", .glo "NotPlain", .exc "NotPlain", .glo "check_marked", .glo "is_new_move", .free "sorted", .glo "rings", .free "sum", .glo "tokens_on", .free "list", .free "any", .glo "order_by_empty", .free "reversed", .glo "empty_ring", .glo "paper_turns", .glo "is_ring_of", .glo "BadNumbers", .exc "BadNumbers", .glo "check_times", .glo "time_of", .glo "slowest", .glo "heights_for", .glo "paper_pace", .free "bool", .glo "judge_pace", .glo "begins", .glo "_law_cell", .glo "_law_draws", .glo "_law_ring_net", .glo "_law_rings", .glo "_law_stands", .glo "_law_begins", .exm "NotPlain" "NotPlain" true, .exm "BadNumbers" "NotPlain" false, .exm "BadMark" "NotPlain" false, .exm "BadNet" "NotPlain" false, .exm "NotPlain" "BadNumbers" false, .exm "BadNumbers" "BadNumbers" true, .exm "BadMark" "BadNumbers" false, .exm "BadNet" "BadNumbers" false, .glo "_law_refusal", .int "MOST_PLACES" (8), .glo "BadNet", .exc "BadNet", .int "MOST_MOVES" (9), .glo "Net", .mkr "Net", .glo "law"]
def tf : List He.Defn := [("is_name", none), ("is_marked", none), ("is_new_move", none), ("order_by_empty", none), ("is_ring_of", none), ("check_times", none), ("judge_pace", none)]
def ex (K : PySem.W.Frag) : Bool := true
abbrev Fx (K : PySem.W.Frag) (mg : Str → Option Value) (base : Heap) : Prop := Wd fa fn tf ex K mg base
section
variable {P : Program} {w : World} {K : PySem.W.Frag} {mg : Str → Option Value} {base : Heap}

/-! ### is_number -/
abbrev N_is_number : List Str := ["value", "low"]
theorem sc_is_number : FnScope N_is_number ["value", "low"] (defScope (top 12)) := ⟨rfl, rfl, rfl, by decide +kernel, rfl, by decide +kernel, by decide +kernel⟩
theorem can_is_number (E : Fx K mg base) : Can P w K mg base (MoD K tf) 1 "is_number" 2 m_is_number := by
  refine can_mk (ps := ["value", "low"]) (E.fun_ 0 (d := d_fn_is_number)) (E.glo 2) sc_is_number (fun _ _ _ _ _ _ us hl => match us, hl with | [_, _], _ => rfl) fun A outer s H E0 hr => ?_
  have tk := takes_of (X := (cxOf (L2.CX P w) P w K mg base N_is_number "is_number" (defScope (top 12)) (He.fAd K ("is_number", none)) (.ref (He.codeOf K ("is_number", none))) A outer s H E0)) rfl rfl rfl rfl
  have hp := passes_of (X := (cxOf (L2.CX P w) P w K mg base N_is_number "is_number" (defScope (top 12)) (He.fAd K ("is_number", none)) (.ref (He.codeOf K ("is_number", none))) A outer s H E0)) rfl
  exact (dss_one (ds_ret (de_and (de_isi rfl (E.fre 0) bt_isinstance rfl (E.fre 1) bt_int (dv 0)) (de_and (cIsnB (dv 0) de_bl) (de_and (cIsnB (dv 0) de_bl) (de_one (cGe (dv 0) (dv 1))))))))

/-! ### is_name -/
abbrev N_is_name : List Str := ["value", "sign"]
theorem sc_is_name : FnScope N_is_name ["value"] (defScope (top 13)) := ⟨rfl, rfl, rfl, by decide +kernel, rfl, by decide +kernel, by decide +kernel⟩
theorem can_is_name (E : Fx K mg base) : Can P w K mg base (MoD K tf) 2 "is_name" 1 m_is_name := by
  refine can_mk (ps := ["value"]) (E.fun_ 1 (d := d_fn_is_name)) (E.glo 8) sc_is_name (fun _ _ _ _ _ _ us hl => match us, hl with | [_], _ => rfl) fun A outer s H E0 hr => ?_
  have tk := takes_of (X := (cxOf (L2.CX P w) P w K mg base N_is_name "is_name" (defScope (top 13)) (He.fAd K ("is_name", none)) (.ref (He.codeOf K ("is_name", none))) A outer s H E0)) rfl rfl rfl rfl
  have hp := passes_of (X := (cxOf (L2.CX P w) P w K mg base N_is_name "is_name" (defScope (top 13)) (He.fAd K ("is_name", none)) (.ref (He.codeOf K ("is_name", none))) A outer s H E0)) rfl
  exact (dss_cons (ds_if (dt_w (dw_or (dt_not (dt_val (de_isi rfl (E.fre 0) bt_isinstance rfl (E.fre 3) bt_str (dv 0)))) (dw_or (tLt (bLen (E.fre 4) (dv 0)) de_int) (dw_or (tGt (bLen (E.fre 4) (dv 0)) de_int) (dw_or1 (tNin hr (de_ix (dv 0) de_int) (de_gstr (E.str 5))))))))
    (dss_one (ds_ret de_bl))
    dss_nil)
    (dss_one (ds_ret (de_allG [(("sign" : Str), 1)] hr rfl (E.fre 7) bt_all (E.tab (p := ("is_name", none)) (by unfold tf; simp)) ⟨("is_name", none), by unfold tf; simp, rfl⟩ rfl rfl sc_is_name.nd (gn_of (N := N_is_name) (sc := defScope (top 13)) (own := [(("sign" : Str), 1)]) (by decide +kernel)) (by decide) (di_seq (dv 0)) (fun _ _ _ _ _ _ _ _ => (dg_one 1 sc_is_name.nd)) (fun _ _ _ _ _ _ _ _ hr1 => dts_nil) (fun _ _ _ _ _ _ _ _ hr1 => (cIn hr1 (dv 1) (de_gstr (E.str 6))))))))

/-! ### is_side -/
abbrev N_is_side : List Str := ["places", "side", "last", "pair", "at"]
theorem sc_is_side : FnScope N_is_side ["places", "side"] (defScope (top 14)) := ⟨rfl, rfl, rfl, by decide +kernel, rfl, by decide +kernel, by decide +kernel⟩
theorem can_is_side (E : Fx K mg base) : Can P w K mg base (MoD K tf) 3 "is_side" 2 m_is_side := by
  refine can_mk (ps := ["places", "side"]) (E.fun_ 2 (d := d_fn_is_side)) (E.glo 11) sc_is_side (fun _ _ _ _ _ _ us hl => match us, hl with | [_, _], _ => rfl) fun A outer s H E0 hr => ?_
  have tk := takes_of (X := (cxOf (L2.CX P w) P w K mg base N_is_side "is_side" (defScope (top 14)) (He.fAd K ("is_side", none)) (.ref (He.codeOf K ("is_side", none))) A outer s H E0)) rfl rfl rfl rfl
  have hp := passes_of (X := (cxOf (L2.CX P w) P w K mg base N_is_side "is_side" (defScope (top 14)) (He.fAd K ("is_side", none)) (.ref (He.codeOf K ("is_side", none))) A outer s H E0)) rfl
  exact (dss_cons (ds_if (dt_not (dt_val (de_isi rfl (E.fre 0) bt_isinstance rfl (E.fre 9) bt_tuple (dv 1))))
    (dss_one (ds_ret de_bl))
    dss_nil)
    (dss_cons (ds_set 2 sc_is_side.nd (xNeg de_int))
    (dss_cons (ds_for hp rfl (di_seq (dv 1)) (dg_one 3 sc_is_side.nd)
    (dss_cons (ds_if (dt_w (dw_or (dt_not (dt_val (de_isi rfl (E.fre 0) bt_isinstance rfl (E.fre 9) bt_tuple (dv 3)))) (dw_or (tNe hr (bLen (E.fre 4) (dv 3)) de_int) (dw_or (dt_not (dt_val (de_callC (can_is_name E) (hr.mono (by omega)) tk rfl (da_cons (de_ix (dv 3) de_int) da_nil) (hn_cons hn_nil)))) (dw_or1 (tNin hr (de_ix (dv 3) de_int) (dv 0)))))))
    (dss_one (ds_ret de_bl))
    dss_nil)
    (dss_cons (ds_set 4 sc_is_side.nd (mIndex hr (dv 0) (de_ix (dv 3) de_int)))
    (dss_cons (ds_if (dt_w (dw_or (tLe (dv 4) (dv 2)) (dw_or (dt_not (dt_val (de_callC (can_is_number E) (hr.mono (by omega)) tk rfl (da_cons (de_ix (dv 3) de_int) (da_cons de_int da_nil)) (hn_cons (hn_cons hn_nil))))) (dw_or1 (tGt (de_ix (dv 3) de_int) (de_gint (E.int 10)))))))
    (dss_one (ds_ret de_bl))
    dss_nil)
    (dss_one (ds_set 2 sc_is_side.nd (dv 4)))))))
    (dss_one (ds_ret de_bl)))))

/-! ### is_move -/
abbrev N_is_move : List Str := ["places", "move"]
theorem sc_is_move : FnScope N_is_move ["places", "move"] (defScope (top 15)) := ⟨rfl, rfl, rfl, by decide +kernel, rfl, by decide +kernel, by decide +kernel⟩
theorem can_is_move (E : Fx K mg base) : Can P w K mg base (MoD K tf) 4 "is_move" 2 m_is_move := by
  refine can_mk (ps := ["places", "move"]) (E.fun_ 3 (d := d_fn_is_move)) (E.glo 12) sc_is_move (fun _ _ _ _ _ _ us hl => match us, hl with | [_, _], _ => rfl) fun A outer s H E0 hr => ?_
  have tk := takes_of (X := (cxOf (L2.CX P w) P w K mg base N_is_move "is_move" (defScope (top 15)) (He.fAd K ("is_move", none)) (.ref (He.codeOf K ("is_move", none))) A outer s H E0)) rfl rfl rfl rfl
  have hp := passes_of (X := (cxOf (L2.CX P w) P w K mg base N_is_move "is_move" (defScope (top 15)) (He.fAd K ("is_move", none)) (.ref (He.codeOf K ("is_move", none))) A outer s H E0)) rfl
  exact (dss_cons (ds_if (dt_w (dw_or (dt_not (dt_val (de_isi rfl (E.fre 0) bt_isinstance rfl (E.fre 9) bt_tuple (dv 1)))) (dw_or (tNe hr (bLen (E.fre 4) (dv 1)) de_int) (dw_or1 (dt_not (dt_val (de_callC (can_is_name E) (hr.mono (by omega)) tk rfl (da_cons (de_ix (dv 1) de_int) da_nil) (hn_cons hn_nil))))))))
    (dss_one (ds_ret de_bl))
    dss_nil)
    (dss_one (ds_ret (de_and (de_callC (can_is_side E) (hr.mono (by omega)) tk rfl (da_cons (dv 0) (da_cons (de_ix (dv 1) de_int) da_nil)) (hn_cons (hn_cons hn_nil))) (de_one (de_callC (can_is_side E) (hr.mono (by omega)) tk rfl (da_cons (dv 0) (da_cons (de_ix (dv 1) de_int) da_nil)) (hn_cons (hn_cons hn_nil))))))))

/-! ### check_mark -/
abbrev N_check_mark : List Str := ["net", "mark", "number"]
theorem sc_check_mark : FnScope N_check_mark ["net", "mark"] (defScope (top 17)) := ⟨rfl, rfl, rfl, by decide +kernel, rfl, by decide +kernel, by decide +kernel⟩
theorem can_check_mark (E : Fx K mg base) : Can P w K mg base (MoD K tf) 2 "check_mark" 2 m_check_mark := by
  refine can_mk (ps := ["net", "mark"]) (E.fun_ 4 (d := d_fn_check_mark)) (E.glo 17) sc_check_mark (fun _ _ _ _ _ _ us hl => match us, hl with | [_, _], _ => rfl) fun A outer s H E0 hr => ?_
  have tk := takes_of (X := (cxOf (L2.CX P w) P w K mg base N_check_mark "check_mark" (defScope (top 17)) (He.fAd K ("check_mark", none)) (.ref (He.codeOf K ("check_mark", none))) A outer s H E0)) rfl rfl rfl rfl
  have hp := passes_of (X := (cxOf (L2.CX P w) P w K mg base N_check_mark "check_mark" (defScope (top 17)) (He.fAd K ("check_mark", none)) (.ref (He.codeOf K ("check_mark", none))) A outer s H E0)) rfl
  exact (dss_cons (ds_if (dt_w (dw_or (dt_not (dt_val (de_isi rfl (E.fre 0) bt_isinstance rfl (E.fre 9) bt_tuple (dv 1)))) (dw_or1 (tNe hr (bLen (E.fre 4) (dv 1)) (bLen (E.fre 4) (de_fld (c := "Net") (E.cls 13) (E.noat 14) (dv 0)))))))
    (dss_one (ds_raiseE (c := "BadMark") tk (E.glo 15) (E.exc 16)))
    dss_nil)
    (dss_one (ds_for hp rfl (di_seq (dv 1)) (dg_one 2 sc_check_mark.nd)
    (dss_one (ds_if (dt_not (dt_val (de_callC (can_is_number E) (hr.mono (by omega)) tk rfl (da_cons (dv 2) (da_cons de_int da_nil)) (hn_cons (hn_cons hn_nil)))))
    (dss_one (ds_raiseE (c := "BadMark") tk (E.glo 15) (E.exc 16)))
    dss_nil)))))

/-! ### row_of -/
abbrev N_row_of : List Str := ["net", "side", "row", "place", "weight"]
theorem sc_row_of : FnScope N_row_of ["net", "side"] (defScope (top 18)) := ⟨rfl, rfl, rfl, by decide +kernel, rfl, by decide +kernel, by decide +kernel⟩
theorem can_row_of (E : Fx K mg base) : Can P w K mg base (MoD K tf) 1 "row_of" 2 m_row_of := by
  refine can_mk (ps := ["net", "side"]) (E.fun_ 5 (d := d_fn_row_of)) (E.glo 18) sc_row_of (fun _ _ _ _ _ _ us hl => match us, hl with | [_, _], _ => rfl) fun A outer s H E0 hr => ?_
  have tk := takes_of (X := (cxOf (L2.CX P w) P w K mg base N_row_of "row_of" (defScope (top 18)) (He.fAd K ("row_of", none)) (.ref (He.codeOf K ("row_of", none))) A outer s H E0)) rfl rfl rfl rfl
  have hp := passes_of (X := (cxOf (L2.CX P w) P w K mg base N_row_of "row_of" (defScope (top 18)) (He.fAd K ("row_of", none)) (.ref (He.codeOf K ("row_of", none))) A outer s H E0)) rfl
  exact (dss_cons (by first | exact (ds_ownLc 2 [(("place" : Str), 3)] rfl sc_row_of.nd (di_seq (de_fld (c := "Net") (E.cls 13) (E.noat 14) (dv 0))) (blk_of (N := N_row_of) (sc := defScope (top 18)) (own := [(("place" : Str), 3)]) (by decide +kernel)) (by decide) (fun _ _ _ _ _ => (dg_one 3 sc_row_of.nd)) (fun _ _ _ _ _ => dts_nil) (fun _ _ _ _ _ => de_int)) | exact (ds_own 2 sc_row_of.nd (dn_lc [(("place" : Str), 3)] rfl sc_row_of.nd (di_seq (de_fld (c := "Net") (E.cls 13) (E.noat 14) (dv 0))) (blk_of (N := N_row_of) (sc := defScope (top 18)) (own := [(("place" : Str), 3)]) (by decide +kernel)) (by decide) (fun _ _ _ _ _ => (dg_one 3 sc_row_of.nd)) (fun _ _ _ _ _ => dts_nil) (fun _ _ _ _ _ => de_int))))
    (dss_cons (ds_for hp rfl (di_seq (dv 1)) (dg_all rfl sc_row_of.nd (nm_cons 3 (nm_cons 4 .nil)))
    (dss_one (ds_put 2 (dv 4) (mIndex hr (de_fld (c := "Net") (E.cls 13) (E.noat 14) (dv 0)) (dv 3)))))
    (dss_one (ds_frz 2 (ds_ret (bTuple (E.fre 9) (dv 2)))))))

/-! ### rows_of -/
abbrev N_rows_of : List Str := ["net", "name", "takes", "gives"]
theorem sc_rows_of : FnScope N_rows_of ["net"] (defScope (top 19)) := ⟨rfl, rfl, rfl, by decide +kernel, rfl, by decide +kernel, by decide +kernel⟩
theorem can_rows_of (E : Fx K mg base) : Can P w K mg base (MoD K tf) 2 "rows_of" 1 m_rows_of := by
  refine can_mk (ps := ["net"]) (E.fun_ 6 (d := d_fn_rows_of)) (E.glo 20) sc_rows_of (fun _ _ _ _ _ _ us hl => match us, hl with | [_], _ => rfl) fun A outer s H E0 hr => ?_
  have tk := takes_of (X := (cxOf (L2.CX P w) P w K mg base N_rows_of "rows_of" (defScope (top 19)) (He.fAd K ("rows_of", none)) (.ref (He.codeOf K ("rows_of", none))) A outer s H E0)) rfl rfl rfl rfl
  have hp := passes_of (X := (cxOf (L2.CX P w) P w K mg base N_rows_of "rows_of" (defScope (top 19)) (He.fAd K ("rows_of", none)) (.ref (He.codeOf K ("rows_of", none))) A outer s H E0)) rfl
  exact (dss_one (ds_ret (de_n (dn_lc [(("name" : Str), 1), (("takes" : Str), 2), (("gives" : Str), 3)] rfl sc_rows_of.nd (di_seq (de_fld (c := "Net") (E.cls 13) (E.noat 19) (dv 0))) (blk_of (N := N_rows_of) (sc := defScope (top 19)) (own := [(("name" : Str), 1), (("takes" : Str), 2), (("gives" : Str), 3)]) (by decide +kernel)) (by decide) (fun _ _ _ _ _ => (dg_all rfl sc_rows_of.nd (nm_cons 1 (nm_cons 2 (nm_cons 3 .nil))))) (fun _ _ _ _ _ => dts_nil) (fun _ _ _ _ _ => (de_tup (da_cons (dv 1) (da_cons (de_callC (can_row_of E) (hr.mono (by omega)) Dl.takes0 rfl (da_cons (dv 0) (da_cons (dv 2) da_nil)) (hn_cons (hn_cons hn_nil))) (da_cons (de_callC (can_row_of E) (hr.mono (by omega)) Dl.takes0 rfl (da_cons (dv 0) (da_cons (dv 3) da_nil)) (hn_cons (hn_cons hn_nil))) da_nil)))))))))

/-! ### is_paper -/
abbrev N_is_paper : List Str := ["paper", "kind", "length"]
theorem sc_is_paper : FnScope N_is_paper ["paper", "kind", "length"] (defScope (top 21)) := ⟨rfl, rfl, rfl, by decide +kernel, rfl, by decide +kernel, by decide +kernel⟩
theorem can_is_paper (E : Fx K mg base) : Can P w K mg base (MoD K tf) 1 "is_paper" 3 m_is_paper := by
  refine can_mk (ps := ["paper", "kind", "length"]) (E.fun_ 7 (d := d_fn_is_paper)) (E.glo 21) sc_is_paper (fun _ _ _ _ _ _ us hl => match us, hl with | [_, _, _], _ => rfl) fun A outer s H E0 hr => ?_
  have tk := takes_of (X := (cxOf (L2.CX P w) P w K mg base N_is_paper "is_paper" (defScope (top 21)) (He.fAd K ("is_paper", none)) (.ref (He.codeOf K ("is_paper", none))) A outer s H E0)) rfl rfl rfl rfl
  have hp := passes_of (X := (cxOf (L2.CX P w) P w K mg base N_is_paper "is_paper" (defScope (top 21)) (He.fAd K ("is_paper", none)) (.ref (He.codeOf K ("is_paper", none))) A outer s H E0)) rfl
  exact (dss_one (ds_ret (de_and (de_isi rfl (E.fre 0) bt_isinstance rfl (E.fre 9) bt_tuple (dv 0)) (de_and (cEq hr (bLen (E.fre 4) (dv 0)) (dv 2)) (de_and (de_isi rfl (E.fre 0) bt_isinstance rfl (E.fre 3) bt_str (de_ix (dv 0) de_int)) (de_one (cEq hr (de_ix (dv 0) de_int) (dv 1))))))))

/-! ### links_of -/
abbrev N_links_of : List Str := ["net", "rows", "result", "at", "givers", "takers", "k"]
theorem sc_links_of : FnScope N_links_of ["net"] (defScope (top 23)) := ⟨rfl, rfl, rfl, by decide +kernel, rfl, by decide +kernel, by decide +kernel⟩
theorem can_links_of (E : Fx K mg base) : Can P w K mg base (MoD K tf) 3 "links_of" 1 m_links_of := by
  refine can_mk (ps := ["net"]) (E.fun_ 8 (d := d_fn_links_of)) (E.glo 23) sc_links_of (fun _ _ _ _ _ _ us hl => match us, hl with | [_], _ => rfl) fun A outer s H E0 hr => ?_
  have tk := takes_of (X := (cxOf (L2.CX P w) P w K mg base N_links_of "links_of" (defScope (top 23)) (He.fAd K ("links_of", none)) (.ref (He.codeOf K ("links_of", none))) A outer s H E0)) rfl rfl rfl rfl
  have hp := passes_of (X := (cxOf (L2.CX P w) P w K mg base N_links_of "links_of" (defScope (top 23)) (He.fAd K ("links_of", none)) (.ref (He.codeOf K ("links_of", none))) A outer s H E0)) rfl
  exact (dss_cons (ds_set 1 sc_links_of.nd (de_callC (can_rows_of E) (hr.mono (by omega)) tk rfl (da_cons (dv 0) da_nil) (hn_cons hn_nil)))
    (dss_cons (ds_own 2 sc_links_of.nd (dn_lst da_nil))
    (dss_cons (ds_for hp rfl (di_range1 rfl (E.fre 22) (da_cons (bLen (E.fre 4) (de_fld (c := "Net") (E.cls 13) (E.noat 14) (dv 0))) da_nil) (h1 := (hn_cons hn_nil))) (dg_one 3 sc_links_of.nd)
    (dss_cons (by first | exact (ds_setLc 4 [(("k" : Str), 6)] rfl sc_links_of.nd (di_range1 rfl (E.fre 22) (da_cons (bLen (E.fre 4) (dv 1)) da_nil) (h1 := (hn_cons hn_nil))) (blk_of (N := N_links_of) (sc := defScope (top 23)) (own := [(("k" : Str), 6)]) (by decide +kernel)) (by decide) (fun _ _ _ _ _ => (dg_one 6 sc_links_of.nd)) (fun _ _ _ _ _ => (dts_one (tGt (de_ix (de_ix (de_ix (dv 1) (dv 6)) de_int) (dv 3)) de_int))) (fun _ _ _ _ _ => (dv 6))) | exact (ds_set 4 sc_links_of.nd (de_n (dn_lc [(("k" : Str), 6)] rfl sc_links_of.nd (di_range1 rfl (E.fre 22) (da_cons (bLen (E.fre 4) (dv 1)) da_nil) (h1 := (hn_cons hn_nil))) (blk_of (N := N_links_of) (sc := defScope (top 23)) (own := [(("k" : Str), 6)]) (by decide +kernel)) (by decide) (fun _ _ _ _ _ => (dg_one 6 sc_links_of.nd)) (fun _ _ _ _ _ => (dts_one (tGt (de_ix (de_ix (de_ix (dv 1) (dv 6)) de_int) (dv 3)) de_int))) (fun _ _ _ _ _ => (dv 6))))))
    (dss_cons (by first | exact (ds_setLc 5 [(("k" : Str), 6)] rfl sc_links_of.nd (di_range1 rfl (E.fre 22) (da_cons (bLen (E.fre 4) (dv 1)) da_nil) (h1 := (hn_cons hn_nil))) (blk_of (N := N_links_of) (sc := defScope (top 23)) (own := [(("k" : Str), 6)]) (by decide +kernel)) (by decide) (fun _ _ _ _ _ => (dg_one 6 sc_links_of.nd)) (fun _ _ _ _ _ => (dts_one (tGt (de_ix (de_ix (de_ix (dv 1) (dv 6)) de_int) (dv 3)) de_int))) (fun _ _ _ _ _ => (dv 6))) | exact (ds_set 5 sc_links_of.nd (de_n (dn_lc [(("k" : Str), 6)] rfl sc_links_of.nd (di_range1 rfl (E.fre 22) (da_cons (bLen (E.fre 4) (dv 1)) da_nil) (h1 := (hn_cons hn_nil))) (blk_of (N := N_links_of) (sc := defScope (top 23)) (own := [(("k" : Str), 6)]) (by decide +kernel)) (by decide) (fun _ _ _ _ _ => (dg_one 6 sc_links_of.nd)) (fun _ _ _ _ _ => (dts_one (tGt (de_ix (de_ix (de_ix (dv 1) (dv 6)) de_int) (dv 3)) de_int))) (fun _ _ _ _ _ => (dv 6))))))
    (dss_one (ds_app 2 (de_tup (da_cons (dv 4) (da_cons (dv 5) da_nil))))))))
    (dss_one (ds_frz 2 (ds_ret (dv 2)))))))

/-! ### is_marked -/
abbrev N_is_marked : List Str := ["net", "name", "takes", "gives", "givers", "takers"]
theorem sc_is_marked : FnScope N_is_marked ["net"] (defScope (top 24)) := ⟨rfl, rfl, rfl, by decide +kernel, rfl, by decide +kernel, by decide +kernel⟩
theorem can_is_marked (E : Fx K mg base) : Can P w K mg base (MoD K tf) 4 "is_marked" 1 m_is_marked := by
  refine can_mk (ps := ["net"]) (E.fun_ 9 (d := d_fn_is_marked)) (E.glo 25) sc_is_marked (fun _ _ _ _ _ _ us hl => match us, hl with | [_], _ => rfl) fun A outer s H E0 hr => ?_
  have tk := takes_of (X := (cxOf (L2.CX P w) P w K mg base N_is_marked "is_marked" (defScope (top 24)) (He.fAd K ("is_marked", none)) (.ref (He.codeOf K ("is_marked", none))) A outer s H E0)) rfl rfl rfl rfl
  have hp := passes_of (X := (cxOf (L2.CX P w) P w K mg base N_is_marked "is_marked" (defScope (top 24)) (He.fAd K ("is_marked", none)) (.ref (He.codeOf K ("is_marked", none))) A outer s H E0)) rfl
  exact (dss_cons (ds_for hp rfl (di_seq (de_callC (can_rows_of E) (hr.mono (by omega)) tk rfl (da_cons (dv 0) da_nil) (hn_cons hn_nil))) (dg_all rfl sc_is_marked.nd (nm_cons 1 (nm_cons 2 (nm_cons 3 .nil))))
    (dss_one (ds_if (tGt (bMaxA rfl (E.fre 24) (xAdd (dv 2) (dv 3))) de_int)
    (dss_one (ds_ret de_bl))
    dss_nil)))
    (dss_one (ds_ret (de_allG [(("givers" : Str), 4), (("takers" : Str), 5)] hr rfl (E.fre 7) bt_all (E.tab (p := ("is_marked", none)) (by unfold tf; simp)) ⟨("is_marked", none), by unfold tf; simp, rfl⟩ rfl rfl sc_is_marked.nd (gn_of (N := N_is_marked) (sc := defScope (top 24)) (own := [(("givers" : Str), 4), (("takers" : Str), 5)]) (by decide +kernel)) (by decide) (di_seq (de_callC (can_links_of E) (hr.mono (by omega)) tk rfl (da_cons (dv 0) da_nil) (hn_cons hn_nil))) (fun _ _ _ _ _ _ _ _ => (dg_all rfl sc_is_marked.nd (nm_cons 4 (nm_cons 5 .nil)))) (fun _ _ _ _ _ _ _ _ hr1 => dts_nil) (fun _ _ _ _ _ _ _ _ hr1 => (de_and (cEq hr1 (bLen (E.fre 4) (dv 4)) de_int) (de_one (cEq hr1 (bLen (E.fre 4) (dv 5)) de_int))))))))

/-! ### check_marked -/
abbrev N_check_marked : List Str := ["net", "mark"]
theorem sc_check_marked : FnScope N_check_marked ["net", "mark"] (defScope (top 25)) := ⟨rfl, rfl, rfl, by decide +kernel, rfl, by decide +kernel, by decide +kernel⟩
theorem can_check_marked (E : Fx K mg base) : Can P w K mg base (MoD K tf) 5 "check_marked" 2 m_check_marked := by
  refine can_mk (ps := ["net", "mark"]) (E.fun_ 10 (d := d_fn_check_marked)) (E.glo 28) sc_check_marked (fun _ _ _ _ _ _ us hl => match us, hl with | [_, _], _ => rfl) fun A outer s H E0 hr => ?_
  have tk := takes_of (X := (cxOf (L2.CX P w) P w K mg base N_check_marked "check_marked" (defScope (top 25)) (He.fAd K ("check_marked", none)) (.ref (He.codeOf K ("check_marked", none))) A outer s H E0)) rfl rfl rfl rfl
  have hp := passes_of (X := (cxOf (L2.CX P w) P w K mg base N_check_marked "check_marked" (defScope (top 25)) (He.fAd K ("check_marked", none)) (.ref (He.codeOf K ("check_marked", none))) A outer s H E0)) rfl
  exact (dss_cons (ds_drop (de_callC (can_check_mark E) (hr.mono (by omega)) tk rfl (da_cons (dv 0) (da_cons (dv 1) da_nil)) (hn_cons (hn_cons hn_nil))))
    (dss_one (ds_if (dt_not (dt_val (de_callC (can_is_marked E) (hr.mono (by omega)) tk rfl (da_cons (dv 0) da_nil) (hn_cons hn_nil))))
    (dss_one (ds_raiseE (c := "NotPlain") tk (E.glo 26) (E.exc 27)))
    dss_nil)))

/-! ### is_new_move -/
abbrev N_is_new_move : List Str := ["links", "way", "at", "other"]
theorem sc_is_new_move : FnScope N_is_new_move ["links", "way", "at"] (defScope (top 27)) := ⟨rfl, rfl, rfl, by decide +kernel, rfl, by decide +kernel, by decide +kernel⟩
theorem can_is_new_move (E : Fx K mg base) : Can P w K mg base (MoD K tf) 2 "is_new_move" 3 m_is_new_move := by
  refine can_mk (ps := ["links", "way", "at"]) (E.fun_ 11 (d := d_fn_is_new_move)) (E.glo 29) sc_is_new_move (fun _ _ _ _ _ _ us hl => match us, hl with | [_, _, _], _ => rfl) fun A outer s H E0 hr => ?_
  have tk := takes_of (X := (cxOf (L2.CX P w) P w K mg base N_is_new_move "is_new_move" (defScope (top 27)) (He.fAd K ("is_new_move", none)) (.ref (He.codeOf K ("is_new_move", none))) A outer s H E0)) rfl rfl rfl rfl
  have hp := passes_of (X := (cxOf (L2.CX P w) P w K mg base N_is_new_move "is_new_move" (defScope (top 27)) (He.fAd K ("is_new_move", none)) (.ref (He.codeOf K ("is_new_move", none))) A outer s H E0)) rfl
  exact (dss_one (ds_ret (de_allG [(("other" : Str), 3)] hr rfl (E.fre 7) bt_all (E.tab (p := ("is_new_move", none)) (by unfold tf; simp)) ⟨("is_new_move", none), by unfold tf; simp, rfl⟩ rfl rfl sc_is_new_move.nd (gn_of (N := N_is_new_move) (sc := defScope (top 27)) (own := [(("other" : Str), 3)]) (by decide +kernel)) (by decide) (di_seq (dv 1)) (fun _ _ _ _ _ _ _ _ => (dg_one 3 sc_is_new_move.nd)) (fun _ _ _ _ _ _ _ _ hr1 => dts_nil) (fun _ _ _ _ _ _ _ _ hr1 => (cNe hr1 (de_ix (de_ix (dv 0) (dv 2)) de_int) (de_ix (de_ix (dv 0) (dv 3)) de_int))))))

/-! ### rings -/
abbrev N_rings : List Str := ["net", "links", "found", "ways", "longer", "way", "at"]
theorem sc_rings : FnScope N_rings ["net"] (defScope (top 26)) := ⟨rfl, rfl, rfl, by decide +kernel, rfl, by decide +kernel, by decide +kernel⟩
theorem can_rings (E : Fx K mg base) : Can P w K mg base (MoD K tf) 5 "rings" 1 m_rings := by
  refine can_mk (ps := ["net"]) (E.fun_ 12 (d := d_fn_rings)) (E.glo 31) sc_rings (fun _ _ _ _ _ _ us hl => match us, hl with | [_], _ => rfl) fun A outer s H E0 hr => ?_
  have tk := takes_of (X := (cxOf (L2.CX P w) P w K mg base N_rings "rings" (defScope (top 26)) (He.fAd K ("rings", none)) (.ref (He.codeOf K ("rings", none))) A outer s H E0)) rfl rfl rfl rfl
  have hp := passes_of (X := (cxOf (L2.CX P w) P w K mg base N_rings "rings" (defScope (top 26)) (He.fAd K ("rings", none)) (.ref (He.codeOf K ("rings", none))) A outer s H E0)) rfl
  exact (dss_cons (ds_if (dt_not (dt_val (de_callC (can_is_marked E) (hr.mono (by omega)) tk rfl (da_cons (dv 0) da_nil) (hn_cons hn_nil))))
    (dss_one (ds_raiseE (c := "NotPlain") tk (E.glo 26) (E.exc 27)))
    dss_nil)
    (dss_cons (ds_set 1 sc_rings.nd (de_callC (can_links_of E) (hr.mono (by omega)) tk rfl (da_cons (dv 0) da_nil) (hn_cons hn_nil)))
    (dss_cons (ds_own 2 sc_rings.nd (dn_lst da_nil))
    (dss_cons (by first | exact (ds_setLc 3 [(("at" : Str), 6)] rfl sc_rings.nd (di_range1 rfl (E.fre 22) (da_cons (bLen (E.fre 4) (de_fld (c := "Net") (E.cls 13) (E.noat 14) (dv 0))) da_nil) (h1 := (hn_cons hn_nil))) (blk_of (N := N_rings) (sc := defScope (top 26)) (own := [(("at" : Str), 6)]) (by decide +kernel)) (by decide) (fun _ _ _ _ _ => (dg_one 6 sc_rings.nd)) (fun _ _ _ _ _ => dts_nil) (fun _ _ _ _ _ => (de_tup (da_cons (dv 6) da_nil)))) | exact (ds_set 3 sc_rings.nd (de_n (dn_lc [(("at" : Str), 6)] rfl sc_rings.nd (di_range1 rfl (E.fre 22) (da_cons (bLen (E.fre 4) (de_fld (c := "Net") (E.cls 13) (E.noat 14) (dv 0))) da_nil) (h1 := (hn_cons hn_nil))) (blk_of (N := N_rings) (sc := defScope (top 26)) (own := [(("at" : Str), 6)]) (by decide +kernel)) (by decide) (fun _ _ _ _ _ => (dg_one 6 sc_rings.nd)) (fun _ _ _ _ _ => dts_nil) (fun _ _ _ _ _ => (de_tup (da_cons (dv 6) da_nil)))))))
    (dss_cons (ds_while 1000000 hp (tGt (bLen (E.fre 4) (dv 3)) de_int)
    (dss_cons (ds_own 4 sc_rings.nd (dn_lst da_nil))
    (dss_cons (ds_for hp rfl (di_seq (dv 3)) (dg_one 5 sc_rings.nd)
    (dss_one (ds_for hp rfl (di_range2 rfl (E.fre 22) (da_cons (de_ix (dv 5) de_int) (da_cons (bLen (E.fre 4) (de_fld (c := "Net") (E.cls 13) (E.noat 14) (dv 0))) da_nil)) (h1 := (hn_cons (hn_cons hn_nil)))) (dg_one 6 sc_rings.nd)
    (dss_one (ds_if (tEq hr (de_ix (de_ix (dv 1) (de_ix (dv 5) (xNeg de_int))) de_int) (de_ix (de_ix (dv 1) (dv 6)) de_int))
    (dss_one (ds_if (tEq hr (dv 6) (de_ix (dv 5) de_int))
    (dss_one (ds_app 2 (dv 5)))
    (dss_one (ds_if (dt_w (dw_and (tNin hr (dv 6) (dv 5)) (dw_and1 (dt_val (de_callC (can_is_new_move E) (hr.mono (by omega)) tk rfl (da_cons (dv 1) (da_cons (dv 5) (da_cons (dv 6) da_nil))) (hn_cons (hn_cons (hn_cons hn_nil))))))))
    (dss_one (ds_app 4 (xAdd (dv 5) (de_tup (da_cons (dv 6) da_nil)))))
    dss_nil))))
    dss_nil)))))
    (dss_one (ds_frz 4 (ds_set 3 sc_rings.nd (dv 4)))))))
    (dss_one (ds_frz 2 (ds_ret (bTuple (E.fre 9) (de_n (dn_lc [(("way" : Str), 5)] rfl sc_rings.nd (di_seq (bSortG hr (E.fre 30) (dv 2))) (blk_of (N := N_rings) (sc := defScope (top 26)) (own := [(("way" : Str), 5)]) (by decide +kernel)) (by decide) (fun _ _ _ _ _ => (dg_one 5 sc_rings.nd)) (fun _ _ _ _ _ => dts_nil) (fun _ _ _ _ _ => (bTuple (E.fre 9) (de_n (dn_lc [(("at" : Str), 6)] rfl sc_rings.nd (di_seq (dv 5)) (blk_of (own := [(("at" : Str), 6)]) (by kernel_rfl)) (by decide) (fun _ _ _ _ _ => (dg_one 6 sc_rings.nd)) (fun _ _ _ _ _ => dts_nil) (fun _ _ _ _ _ => (de_ix (de_fld (c := "Net") (E.cls 13) (E.noat 14) (dv 0)) (dv 6))))))))))))))))))

/-! ### tokens_on -/
abbrev N_tokens_on : List Str := ["net", "mark", "ring", "place"]
theorem sc_tokens_on : FnScope N_tokens_on ["net", "mark", "ring"] (defScope (top 28)) := ⟨rfl, rfl, rfl, by decide +kernel, rfl, by decide +kernel, by decide +kernel⟩
theorem can_tokens_on (E : Fx K mg base) : Can P w K mg base (MoD K tf) 1 "tokens_on" 3 m_tokens_on := by
  refine can_mk (ps := ["net", "mark", "ring"]) (E.fun_ 13 (d := d_fn_tokens_on)) (E.glo 33) sc_tokens_on (fun _ _ _ _ _ _ us hl => match us, hl with | [_, _, _], _ => rfl) fun A outer s H E0 hr => ?_
  have tk := takes_of (X := (cxOf (L2.CX P w) P w K mg base N_tokens_on "tokens_on" (defScope (top 28)) (He.fAd K ("tokens_on", none)) (.ref (He.codeOf K ("tokens_on", none))) A outer s H E0)) rfl rfl rfl rfl
  have hp := passes_of (X := (cxOf (L2.CX P w) P w K mg base N_tokens_on "tokens_on" (defScope (top 28)) (He.fAd K ("tokens_on", none)) (.ref (He.codeOf K ("tokens_on", none))) A outer s H E0)) rfl
  exact (dss_one (ds_ret (bSum rfl (E.fre 32) (de_n (dn_lc [(("place" : Str), 3)] rfl sc_tokens_on.nd (di_seq (dv 2)) (blk_of (N := N_tokens_on) (sc := defScope (top 28)) (own := [(("place" : Str), 3)]) (by decide +kernel)) (by decide) (fun _ _ _ _ _ => (dg_one 3 sc_tokens_on.nd)) (fun _ _ _ _ _ => dts_nil) (fun _ _ _ _ _ => (de_ix (dv 1) (mIndex hr (de_fld (c := "Net") (E.cls 13) (E.noat 14) (dv 0)) (dv 3)))))))))

/-! ### order_by_empty -/
abbrev N_order_by_empty : List Str := ["net", "mark", "links", "empty", "left", "order", "free", "at", "k", "givers", "takers"]
theorem sc_order_by_empty : FnScope N_order_by_empty ["net", "mark"] (defScope (top 29)) := ⟨rfl, rfl, rfl, by decide +kernel, rfl, by decide +kernel, by decide +kernel⟩
theorem can_order_by_empty (E : Fx K mg base) : Can P w K mg base (MoD K tf) 4 "order_by_empty" 2 m_order_by_empty := by
  refine can_mk (ps := ["net", "mark"]) (E.fun_ 14 (d := d_fn_order_by_empty)) (E.glo 36) sc_order_by_empty (fun _ _ _ _ _ _ us hl => match us, hl with | [_, _], _ => rfl) fun A outer s H E0 hr => ?_
  have tk := takes_of (X := (cxOf (L2.CX P w) P w K mg base N_order_by_empty "order_by_empty" (defScope (top 29)) (He.fAd K ("order_by_empty", none)) (.ref (He.codeOf K ("order_by_empty", none))) A outer s H E0)) rfl rfl rfl rfl
  have hp := passes_of (X := (cxOf (L2.CX P w) P w K mg base N_order_by_empty "order_by_empty" (defScope (top 29)) (He.fAd K ("order_by_empty", none)) (.ref (He.codeOf K ("order_by_empty", none))) A outer s H E0)) rfl
  exact (dss_cons (ds_set 2 sc_order_by_empty.nd (de_callC (can_links_of E) (hr.mono (by omega)) tk rfl (da_cons (dv 0) da_nil) (hn_cons hn_nil)))
    (dss_cons (by first | exact (ds_setLc 3 [(("at" : Str), 7)] rfl sc_order_by_empty.nd (di_range1 rfl (E.fre 22) (da_cons (bLen (E.fre 4) (dv 1)) da_nil) (h1 := (hn_cons hn_nil))) (blk_of (N := N_order_by_empty) (sc := defScope (top 29)) (own := [(("at" : Str), 7)]) (by decide +kernel)) (by decide) (fun _ _ _ _ _ => (dg_one 7 sc_order_by_empty.nd)) (fun _ _ _ _ _ => (dts_one (tEq hr (de_ix (dv 1) (dv 7)) de_int))) (fun _ _ _ _ _ => (de_ix (dv 2) (dv 7)))) | exact (ds_set 3 sc_order_by_empty.nd (de_n (dn_lc [(("at" : Str), 7)] rfl sc_order_by_empty.nd (di_range1 rfl (E.fre 22) (da_cons (bLen (E.fre 4) (dv 1)) da_nil) (h1 := (hn_cons hn_nil))) (blk_of (N := N_order_by_empty) (sc := defScope (top 29)) (own := [(("at" : Str), 7)]) (by decide +kernel)) (by decide) (fun _ _ _ _ _ => (dg_one 7 sc_order_by_empty.nd)) (fun _ _ _ _ _ => (dts_one (tEq hr (de_ix (dv 1) (dv 7)) de_int))) (fun _ _ _ _ _ => (de_ix (dv 2) (dv 7)))))))
    (dss_cons (ds_own 4 sc_order_by_empty.nd (dn_rng1 rfl (E.fre 34) (E.fre 22) (bLen (E.fre 4) (de_fld (c := "Net") (E.cls 13) (E.noat 19) (dv 0)))))
    (dss_cons (ds_own 5 sc_order_by_empty.nd (dn_lst da_nil))
    (dss_cons (ds_while 1000000 hp (dt_bor 4 (tGt (bLen (E.fre 4) (dv 4)) de_int))
    (dss_cons (by first | exact (ds_setLcB 6 4 [(("k" : Str), 8)] rfl sc_order_by_empty.nd (di_seq (dv 4)) (blk_of (N := N_order_by_empty) (sc := defScope (top 29)) (own := [(("k" : Str), 8)]) (by decide +kernel)) (by decide) (fun _ _ _ _ _ => (dg_one 8 sc_order_by_empty.nd)) (fun _ _ _ _ _ => (dts_one (dt_not (dt_val (de_anyG [(("givers" : Str), 9), (("takers" : Str), 10)] hr rfl (E.fre 35) (E.tab (p := ("order_by_empty", none)) (by unfold tf; simp)) ⟨("order_by_empty", none), by unfold tf; simp, rfl⟩ rfl rfl sc_order_by_empty.nd (gn_of (own := [(("givers" : Str), 9), (("takers" : Str), 10)]) (by kernel_rfl)) (by decide) (di_seq (dv 3)) (fun _ _ _ _ _ _ _ _ => (dg_all rfl sc_order_by_empty.nd (nm_cons 9 (nm_cons 10 .nil)))) (fun _ _ _ _ _ _ _ _ hr1 => dts_nil) (fun _ _ _ _ _ _ _ _ hr1 => (de_and (cEq hr1 (dv 10) (de_lst (da_cons (dv 8) da_nil))) (de_one (cIn hr1 (de_ix (dv 9) de_int) (dv 4)))))))))) (fun _ _ _ _ _ => (dv 8))) | exact (ds_set 6 sc_order_by_empty.nd (de_n (dn_bor 4 (dn_lc [(("k" : Str), 8)] rfl sc_order_by_empty.nd (di_seq (dv 4)) (blk_of (N := N_order_by_empty) (sc := defScope (top 29)) (own := [(("k" : Str), 8)]) (by decide +kernel)) (by decide) (fun _ _ _ _ _ => (dg_one 8 sc_order_by_empty.nd)) (fun _ _ _ _ _ => (dts_one (dt_not (dt_val (de_anyG [(("givers" : Str), 9), (("takers" : Str), 10)] hr rfl (E.fre 35) (E.tab (p := ("order_by_empty", none)) (by unfold tf; simp)) ⟨("order_by_empty", none), by unfold tf; simp, rfl⟩ rfl rfl sc_order_by_empty.nd (gn_of (own := [(("givers" : Str), 9), (("takers" : Str), 10)]) (by kernel_rfl)) (by decide) (di_seq (dv 3)) (fun _ _ _ _ _ _ _ _ => (dg_all rfl sc_order_by_empty.nd (nm_cons 9 (nm_cons 10 .nil)))) (fun _ _ _ _ _ _ _ _ hr1 => dts_nil) (fun _ _ _ _ _ _ _ _ hr1 => (de_and (cEq hr1 (dv 10) (de_lst (da_cons (dv 8) da_nil))) (de_one (cIn hr1 (de_ix (dv 9) de_int) (dv 4)))))))))) (fun _ _ _ _ _ => (dv 8)))))))
    (dss_cons (ds_if (tEq hr (bLen (E.fre 4) (dv 6)) de_int)
    (dss_one (ds_frz 4 (ds_ret (de_tup (da_cons de_non (da_cons (dv 4) da_nil))))))
    dss_nil)
    (dss_cons (ds_app 5 (de_ix (dv 6) de_int))
    (dss_one (ds_rem 4 rfl tk (de_ix (dv 6) de_int)))))))
    (dss_one (ds_frz 5 (ds_ret (de_tup (da_cons (dv 5) (da_cons (de_lst da_nil) da_nil)))))))))))

/-! ### empty_ring -/
abbrev N_empty_ring : List Str := ["net", "mark", "left", "links", "way", "move", "moves", "ring", "ahead", "at"]
theorem sc_empty_ring : FnScope N_empty_ring ["net", "mark", "left"] (defScope (top 30)) := ⟨rfl, rfl, rfl, by decide +kernel, rfl, by decide +kernel, by decide +kernel⟩
theorem can_empty_ring (E : Fx K mg base) : Can P w K mg base (MoD K tf) 4 "empty_ring" 3 m_empty_ring := by
  refine can_mk (ps := ["net", "mark", "left"]) (E.fun_ 15 (d := d_fn_empty_ring)) (E.glo 38) sc_empty_ring (fun _ _ _ _ _ _ us hl => match us, hl with | [_, _, _], _ => rfl) fun A outer s H E0 hr => ?_
  have tk := takes_of (X := (cxOf (L2.CX P w) P w K mg base N_empty_ring "empty_ring" (defScope (top 30)) (He.fAd K ("empty_ring", none)) (.ref (He.codeOf K ("empty_ring", none))) A outer s H E0)) rfl rfl rfl rfl
  have hp := passes_of (X := (cxOf (L2.CX P w) P w K mg base N_empty_ring "empty_ring" (defScope (top 30)) (He.fAd K ("empty_ring", none)) (.ref (He.codeOf K ("empty_ring", none))) A outer s H E0)) rfl
  exact (dss_cons (ds_set 3 sc_empty_ring.nd (de_callC (can_links_of E) (hr.mono (by omega)) tk rfl (da_cons (dv 0) da_nil) (hn_cons hn_nil)))
    (dss_cons (ds_own 4 sc_empty_ring.nd (dn_lst da_nil))
    (dss_cons (ds_set 5 sc_empty_ring.nd (de_ix (dv 2) de_int))
    (dss_cons (ds_own 6 sc_empty_ring.nd (dn_lst da_nil))
    (dss_cons (ds_while 1000000 hp (dt_bor 6 (tNin hr (dv 5) (dv 6)))
    (dss_cons (ds_app 6 (dv 5))
    (dss_cons (by first | exact (ds_setLc 8 [(("at" : Str), 9)] rfl sc_empty_ring.nd (di_range1 rfl (E.fre 22) (da_cons (bLen (E.fre 4) (dv 1)) da_nil) (h1 := (hn_cons hn_nil))) (blk_of (N := N_empty_ring) (sc := defScope (top 30)) (own := [(("at" : Str), 9)]) (by decide +kernel)) (by decide) (fun _ _ _ _ _ => (dg_one 9 sc_empty_ring.nd)) (fun _ _ _ _ _ => (dts_one (dt_w (dw_and (tEq hr (de_ix (dv 1) (dv 9)) de_int) (dw_and (tEq hr (de_ix (de_ix (dv 3) (dv 9)) de_int) (de_lst (da_cons (dv 5) da_nil))) (dw_and1 (tIn hr (de_ix (de_ix (de_ix (dv 3) (dv 9)) de_int) de_int) (dv 2)))))))) (fun _ _ _ _ _ => (dv 9))) | exact (ds_set 8 sc_empty_ring.nd (de_n (dn_lc [(("at" : Str), 9)] rfl sc_empty_ring.nd (di_range1 rfl (E.fre 22) (da_cons (bLen (E.fre 4) (dv 1)) da_nil) (h1 := (hn_cons hn_nil))) (blk_of (N := N_empty_ring) (sc := defScope (top 30)) (own := [(("at" : Str), 9)]) (by decide +kernel)) (by decide) (fun _ _ _ _ _ => (dg_one 9 sc_empty_ring.nd)) (fun _ _ _ _ _ => (dts_one (dt_w (dw_and (tEq hr (de_ix (dv 1) (dv 9)) de_int) (dw_and (tEq hr (de_ix (de_ix (dv 3) (dv 9)) de_int) (de_lst (da_cons (dv 5) da_nil))) (dw_and1 (tIn hr (de_ix (de_ix (de_ix (dv 3) (dv 9)) de_int) de_int) (dv 2)))))))) (fun _ _ _ _ _ => (dv 9))))))
    (dss_cons (ds_app 4 (de_ix (dv 8) de_int))
    (dss_one (ds_set 5 sc_empty_ring.nd (de_ix (de_ix (de_ix (dv 3) (de_ix (dv 8) de_int)) de_int) de_int)))))))
    (dss_cons (ds_frz 4 (ds_frz 6 (ds_set 7 sc_empty_ring.nd (de_slice (dv 4) (do_some (mIndex hr (dv 6) (dv 5))) do_none))))
    (dss_one (ds_ret (bTuple (E.fre 9) (de_n (dn_lc [(("at" : Str), 9)] rfl sc_empty_ring.nd (di_rev (E.fre 37) (dv 7)) (blk_of (N := N_empty_ring) (sc := defScope (top 30)) (own := [(("at" : Str), 9)]) (by decide +kernel)) (by decide) (fun _ _ _ _ _ => (dg_one 9 sc_empty_ring.nd)) (fun _ _ _ _ _ => dts_nil) (fun _ _ _ _ _ => (de_ix (de_fld (c := "Net") (E.cls 13) (E.noat 14) (dv 0)) (dv 9))))))))))))))

/-! ### paper_turns -/
abbrev N_paper_turns : List Str := ["net", "mark", "order", "left", "k"]
theorem sc_paper_turns : FnScope N_paper_turns ["net", "mark"] (defScope (top 31)) := ⟨rfl, rfl, rfl, by decide +kernel, rfl, by decide +kernel, by decide +kernel⟩
theorem can_paper_turns (E : Fx K mg base) : Can P w K mg base (MoD K tf) 6 "paper_turns" 2 m_paper_turns := by
  refine can_mk (ps := ["net", "mark"]) (E.fun_ 16 (d := d_fn_paper_turns)) (E.glo 39) sc_paper_turns (fun _ _ _ _ _ _ us hl => match us, hl with | [_, _], _ => rfl) fun A outer s H E0 hr => ?_
  have tk := takes_of (X := (cxOf (L2.CX P w) P w K mg base N_paper_turns "paper_turns" (defScope (top 31)) (He.fAd K ("paper_turns", none)) (.ref (He.codeOf K ("paper_turns", none))) A outer s H E0)) rfl rfl rfl rfl
  have hp := passes_of (X := (cxOf (L2.CX P w) P w K mg base N_paper_turns "paper_turns" (defScope (top 31)) (He.fAd K ("paper_turns", none)) (.ref (He.codeOf K ("paper_turns", none))) A outer s H E0)) rfl
  exact (dss_cons (ds_drop (de_callC (can_check_marked E) (hr.mono (by omega)) tk rfl (da_cons (dv 0) (da_cons (dv 1) da_nil)) (hn_cons (hn_cons hn_nil))))
    (dss_cons (ds_unp (de_callC (can_order_by_empty E) (hr.mono (by omega)) tk rfl (da_cons (dv 0) (da_cons (dv 1) da_nil)) (hn_cons (hn_cons hn_nil))) (dg_all rfl sc_paper_turns.nd (nm_cons 2 (nm_cons 3 .nil))))
    (dss_cons (ds_if (tIs (dv 2) de_non)
    (dss_one (ds_ret (de_tup (da_cons de_str (da_cons (de_callC (can_empty_ring E) (hr.mono (by omega)) tk rfl (da_cons (dv 0) (da_cons (dv 1) (da_cons (dv 3) da_nil))) (hn_cons (hn_cons (hn_cons hn_nil)))) da_nil)))))
    dss_nil)
    (dss_one (ds_ret (de_tup (da_cons de_str (da_cons (bTuple (E.fre 9) (de_n (dn_lc [(("k" : Str), 4)] rfl sc_paper_turns.nd (di_seq (dv 2)) (blk_of (N := N_paper_turns) (sc := defScope (top 31)) (own := [(("k" : Str), 4)]) (by decide +kernel)) (by decide) (fun _ _ _ _ _ => (dg_one 4 sc_paper_turns.nd)) (fun _ _ _ _ _ => dts_nil) (fun _ _ _ _ _ => (de_ix (de_ix (de_fld (c := "Net") (E.cls 13) (E.noat 19) (dv 0)) (dv 4)) de_int))))) da_nil))))))))

/-! ### is_ring_of -/
abbrev N_is_ring_of : List Str := ["net", "ring", "links", "own", "place", "k"]
theorem sc_is_ring_of : FnScope N_is_ring_of ["net", "ring"] (defScope (top 32)) := ⟨rfl, rfl, rfl, by decide +kernel, rfl, by decide +kernel, by decide +kernel⟩
theorem can_is_ring_of (E : Fx K mg base) : Can P w K mg base (MoD K tf) 4 "is_ring_of" 2 m_is_ring_of := by
  refine can_mk (ps := ["net", "ring"]) (E.fun_ 17 (d := d_fn_is_ring_of)) (E.glo 40) sc_is_ring_of (fun _ _ _ _ _ _ us hl => match us, hl with | [_, _], _ => rfl) fun A outer s H E0 hr => ?_
  have tk := takes_of (X := (cxOf (L2.CX P w) P w K mg base N_is_ring_of "is_ring_of" (defScope (top 32)) (He.fAd K ("is_ring_of", none)) (.ref (He.codeOf K ("is_ring_of", none))) A outer s H E0)) rfl rfl rfl rfl
  have hp := passes_of (X := (cxOf (L2.CX P w) P w K mg base N_is_ring_of "is_ring_of" (defScope (top 32)) (He.fAd K ("is_ring_of", none)) (.ref (He.codeOf K ("is_ring_of", none))) A outer s H E0)) rfl
  exact (dss_cons (ds_if (dt_w (dw_or (dt_not (dt_val (de_isi rfl (E.fre 0) bt_isinstance rfl (E.fre 9) bt_tuple (dv 1)))) (dw_or (tEq hr (bLen (E.fre 4) (dv 1)) de_int) (dw_or1 (dt_not (dt_val (de_allG [(("place" : Str), 4)] hr rfl (E.fre 7) bt_all (E.tab (p := ("is_ring_of", none)) (by unfold tf; simp)) ⟨("is_ring_of", none), by unfold tf; simp, rfl⟩ rfl rfl sc_is_ring_of.nd (gn_of (N := N_is_ring_of) (sc := defScope (top 32)) (own := [(("place" : Str), 4)]) (by decide +kernel)) (by decide) (di_seq (dv 1)) (fun _ _ _ _ _ _ _ _ => (dg_one 4 sc_is_ring_of.nd)) (fun _ _ _ _ _ _ _ _ hr1 => dts_nil) (fun _ _ _ _ _ _ _ _ hr1 => (de_isi rfl (E.fre 0) bt_isinstance rfl (E.fre 3) bt_str (dv 4))))))))))
    (dss_one (ds_ret de_bl))
    dss_nil)
    (dss_cons (ds_if (dt_w (dw_or (dt_not (dt_val (de_allG [(("place" : Str), 4)] hr rfl (E.fre 7) bt_all (E.tab (p := ("is_ring_of", none)) (by unfold tf; simp)) ⟨("is_ring_of", none), by unfold tf; simp, rfl⟩ rfl rfl sc_is_ring_of.nd (gn_of (N := N_is_ring_of) (sc := defScope (top 32)) (own := [(("place" : Str), 4)]) (by decide +kernel)) (by decide) (di_seq (dv 1)) (fun _ _ _ _ _ _ _ _ => (dg_one 4 sc_is_ring_of.nd)) (fun _ _ _ _ _ _ _ _ hr1 => dts_nil) (fun _ _ _ _ _ _ _ _ hr1 => (cIn hr1 (dv 4) (de_fld (c := "Net") (E.cls 13) (E.noat 14) (dv 0))))))) (dw_or1 (dt_val (de_anyG [(("place" : Str), 4)] hr rfl (E.fre 35) (E.tab (p := ("is_ring_of", none)) (by unfold tf; simp)) ⟨("is_ring_of", none), by unfold tf; simp, rfl⟩ rfl rfl sc_is_ring_of.nd (gn_of (N := N_is_ring_of) (sc := defScope (top 32)) (own := [(("place" : Str), 4)]) (by decide +kernel)) (by decide) (di_seq (dv 1)) (fun _ _ _ _ _ _ _ _ => (dg_one 4 sc_is_ring_of.nd)) (fun _ _ _ _ _ _ _ _ hr1 => dts_nil) (fun _ _ _ _ _ _ _ _ hr1 => (cGt (mCount hr1 (dv 1) (dv 4)) de_int)))))))
    (dss_one (ds_ret de_bl))
    dss_nil)
    (dss_cons (ds_set 2 sc_is_ring_of.nd (de_callC (can_links_of E) (hr.mono (by omega)) tk rfl (da_cons (dv 0) da_nil) (hn_cons hn_nil)))
    (dss_cons (by first | exact (ds_setLc 3 [(("place" : Str), 4)] rfl sc_is_ring_of.nd (di_seq (dv 1)) (blk_of (N := N_is_ring_of) (sc := defScope (top 32)) (own := [(("place" : Str), 4)]) (by decide +kernel)) (by decide) (fun _ _ _ _ _ => (dg_one 4 sc_is_ring_of.nd)) (fun _ _ _ _ _ => dts_nil) (fun _ _ _ _ _ => (mIndex hr (de_fld (c := "Net") (E.cls 13) (E.noat 14) (dv 0)) (dv 4)))) | exact (ds_set 3 sc_is_ring_of.nd (de_n (dn_lc [(("place" : Str), 4)] rfl sc_is_ring_of.nd (di_seq (dv 1)) (blk_of (N := N_is_ring_of) (sc := defScope (top 32)) (own := [(("place" : Str), 4)]) (by decide +kernel)) (by decide) (fun _ _ _ _ _ => (dg_one 4 sc_is_ring_of.nd)) (fun _ _ _ _ _ => dts_nil) (fun _ _ _ _ _ => (mIndex hr (de_fld (c := "Net") (E.cls 13) (E.noat 14) (dv 0)) (dv 4)))))))
    (dss_one (ds_ret (de_allG [(("k" : Str), 5)] hr rfl (E.fre 7) bt_all (E.tab (p := ("is_ring_of", none)) (by unfold tf; simp)) ⟨("is_ring_of", none), by unfold tf; simp, rfl⟩ rfl rfl sc_is_ring_of.nd (gn_of (N := N_is_ring_of) (sc := defScope (top 32)) (own := [(("k" : Str), 5)]) (by decide +kernel)) (by decide) (di_range1 rfl (E.fre 22) (da_cons (bLen (E.fre 4) (dv 3)) da_nil) (h1 := (hn_cons hn_nil))) (fun _ _ _ _ _ _ _ _ => (dg_one 5 sc_is_ring_of.nd)) (fun _ _ _ _ _ _ _ _ hr1 => dts_nil) (fun _ _ _ _ _ _ _ _ hr1 => (cEq hr1 (de_ix (de_ix (dv 2) (de_ix (dv 3) (dv 5))) de_int) (de_ix (de_ix (dv 2) (de_ix (dv 3) (xMod (xAdd (dv 5) de_int) (bLen (E.fre 4) (dv 3))))) de_int))))))))))

/-! ### check_times -/
abbrev N_check_times : List Str := ["net", "times", "time"]
theorem sc_check_times : FnScope N_check_times ["net", "times"] (defScope (top 33)) := ⟨rfl, rfl, rfl, by decide +kernel, rfl, by decide +kernel, by decide +kernel⟩
theorem can_check_times (E : Fx K mg base) : Can P w K mg base (MoD K tf) 3 "check_times" 2 m_check_times := by
  refine can_mk (ps := ["net", "times"]) (E.fun_ 18 (d := d_fn_check_times)) (E.glo 43) sc_check_times (fun _ _ _ _ _ _ us hl => match us, hl with | [_, _], _ => rfl) fun A outer s H E0 hr => ?_
  have tk := takes_of (X := (cxOf (L2.CX P w) P w K mg base N_check_times "check_times" (defScope (top 33)) (He.fAd K ("check_times", none)) (.ref (He.codeOf K ("check_times", none))) A outer s H E0)) rfl rfl rfl rfl
  have hp := passes_of (X := (cxOf (L2.CX P w) P w K mg base N_check_times "check_times" (defScope (top 33)) (He.fAd K ("check_times", none)) (.ref (He.codeOf K ("check_times", none))) A outer s H E0)) rfl
  exact (dss_cons (ds_if (dt_w (dw_or (dt_not (dt_val (de_isi rfl (E.fre 0) bt_isinstance rfl (E.fre 9) bt_tuple (dv 1)))) (dw_or1 (tNe hr (bLen (E.fre 4) (dv 1)) (bLen (E.fre 4) (de_fld (c := "Net") (E.cls 13) (E.noat 19) (dv 0)))))))
    (dss_one (ds_raiseE (c := "BadNumbers") tk (E.glo 41) (E.exc 42)))
    dss_nil)
    (dss_one (ds_if (dt_not (dt_val (de_allG [(("time" : Str), 2)] hr rfl (E.fre 7) bt_all (E.tab (p := ("check_times", none)) (by unfold tf; simp)) ⟨("check_times", none), by unfold tf; simp, rfl⟩ rfl rfl sc_check_times.nd (gn_of (N := N_check_times) (sc := defScope (top 33)) (own := [(("time" : Str), 2)]) (by decide +kernel)) (by decide) (di_seq (dv 1)) (fun _ _ _ _ _ _ _ _ => (dg_one 2 sc_check_times.nd)) (fun _ _ _ _ _ _ _ _ hr1 => dts_nil) (fun _ _ _ _ _ _ _ _ hr1 => (de_and (de_callC (can_is_number E) (hr1.mono (by omega)) Dl.takes0 rfl (da_cons (dv 2) (da_cons de_int da_nil)) (hn_cons (hn_cons hn_nil))) (de_one (cLe (dv 2) de_int)))))))
    (dss_one (ds_raiseE (c := "BadNumbers") tk (E.glo 41) (E.exc 42)))
    dss_nil)))

/-! ### time_of -/
abbrev N_time_of : List Str := ["net", "times", "ring", "links", "place"]
theorem sc_time_of : FnScope N_time_of ["net", "times", "ring"] (defScope (top 34)) := ⟨rfl, rfl, rfl, by decide +kernel, rfl, by decide +kernel, by decide +kernel⟩
theorem can_time_of (E : Fx K mg base) : Can P w K mg base (MoD K tf) 4 "time_of" 3 m_time_of := by
  refine can_mk (ps := ["net", "times", "ring"]) (E.fun_ 19 (d := d_fn_time_of)) (E.glo 44) sc_time_of (fun _ _ _ _ _ _ us hl => match us, hl with | [_, _, _], _ => rfl) fun A outer s H E0 hr => ?_
  have tk := takes_of (X := (cxOf (L2.CX P w) P w K mg base N_time_of "time_of" (defScope (top 34)) (He.fAd K ("time_of", none)) (.ref (He.codeOf K ("time_of", none))) A outer s H E0)) rfl rfl rfl rfl
  have hp := passes_of (X := (cxOf (L2.CX P w) P w K mg base N_time_of "time_of" (defScope (top 34)) (He.fAd K ("time_of", none)) (.ref (He.codeOf K ("time_of", none))) A outer s H E0)) rfl
  exact (dss_cons (ds_set 3 sc_time_of.nd (de_callC (can_links_of E) (hr.mono (by omega)) tk rfl (da_cons (dv 0) da_nil) (hn_cons hn_nil)))
    (dss_one (ds_ret (bSum rfl (E.fre 32) (de_n (dn_lc [(("place" : Str), 4)] rfl sc_time_of.nd (di_seq (dv 2)) (blk_of (N := N_time_of) (sc := defScope (top 34)) (own := [(("place" : Str), 4)]) (by decide +kernel)) (by decide) (fun _ _ _ _ _ => (dg_one 4 sc_time_of.nd)) (fun _ _ _ _ _ => dts_nil) (fun _ _ _ _ _ => (de_ix (dv 1) (de_ix (de_ix (de_ix (dv 3) (mIndex hr (de_fld (c := "Net") (E.cls 13) (E.noat 14) (dv 0)) (dv 4))) de_int) de_int)))))))))

/-! ### slowest -/
abbrev N_slowest : List Str := ["net", "mark", "times", "best", "ring", "time", "tokens"]
theorem sc_slowest : FnScope N_slowest ["net", "mark", "times"] (defScope (top 35)) := ⟨rfl, rfl, rfl, by decide +kernel, rfl, by decide +kernel, by decide +kernel⟩
theorem can_slowest (E : Fx K mg base) : Can P w K mg base (MoD K tf) 6 "slowest" 3 m_slowest := by
  refine can_mk (ps := ["net", "mark", "times"]) (E.fun_ 20 (d := d_fn_slowest)) (E.glo 45) sc_slowest (fun _ _ _ _ _ _ us hl => match us, hl with | [_, _, _], _ => rfl) fun A outer s H E0 hr => ?_
  have tk := takes_of (X := (cxOf (L2.CX P w) P w K mg base N_slowest "slowest" (defScope (top 35)) (He.fAd K ("slowest", none)) (.ref (He.codeOf K ("slowest", none))) A outer s H E0)) rfl rfl rfl rfl
  have hp := passes_of (X := (cxOf (L2.CX P w) P w K mg base N_slowest "slowest" (defScope (top 35)) (He.fAd K ("slowest", none)) (.ref (He.codeOf K ("slowest", none))) A outer s H E0)) rfl
  exact (dss_cons (ds_set 3 sc_slowest.nd de_non)
    (dss_cons (ds_for hp rfl (di_seq (de_callC (can_rings E) (hr.mono (by omega)) tk rfl (da_cons (dv 0) da_nil) (hn_cons hn_nil))) (dg_one 4 sc_slowest.nd)
    (dss_cons (ds_set 5 sc_slowest.nd (de_callC (can_time_of E) (hr.mono (by omega)) tk rfl (da_cons (dv 0) (da_cons (dv 2) (da_cons (dv 4) da_nil))) (hn_cons (hn_cons (hn_cons hn_nil)))))
    (dss_cons (ds_set 6 sc_slowest.nd (de_callC (can_tokens_on E) (hr.mono (by omega)) tk rfl (da_cons (dv 0) (da_cons (dv 1) (da_cons (dv 4) da_nil))) (hn_cons (hn_cons (hn_cons hn_nil)))))
    (dss_one (ds_if (dt_w (dw_or (tIs (dv 3) de_non) (dw_or1 (tGt (xMul (dv 5) (de_ix (dv 3) de_int)) (xMul (de_ix (dv 3) de_int) (dv 6))))))
    (dss_one (ds_set 3 sc_slowest.nd (de_tup (da_cons (dv 4) (da_cons (dv 5) (da_cons (dv 6) da_nil))))))
    dss_nil)))))
    (dss_one (ds_ret (dv 3)))))

/-! ### heights_for -/
abbrev N_heights_for : List Str := ["net", "mark", "times", "time", "tokens", "links", "heights", "turn", "changed", "at", "move", "first", "second", "due"]
theorem sc_heights_for : FnScope N_heights_for ["net", "mark", "times", "time", "tokens"] (defScope (top 36)) := ⟨rfl, rfl, rfl, by decide +kernel, rfl, by decide +kernel, by decide +kernel⟩
theorem can_heights_for (E : Fx K mg base) : Can P w K mg base (MoD K tf) 4 "heights_for" 5 m_heights_for := by
  refine can_mk (ps := ["net", "mark", "times", "time", "tokens"]) (E.fun_ 21 (d := d_fn_heights_for)) (E.glo 46) sc_heights_for (fun _ _ _ _ _ _ us hl => match us, hl with | [_, _, _, _, _], _ => rfl) fun A outer s H E0 hr => ?_
  have tk := takes_of (X := (cxOf (L2.CX P w) P w K mg base N_heights_for "heights_for" (defScope (top 36)) (He.fAd K ("heights_for", none)) (.ref (He.codeOf K ("heights_for", none))) A outer s H E0)) rfl rfl rfl rfl
  have hp := passes_of (X := (cxOf (L2.CX P w) P w K mg base N_heights_for "heights_for" (defScope (top 36)) (He.fAd K ("heights_for", none)) (.ref (He.codeOf K ("heights_for", none))) A outer s H E0)) rfl
  exact (dss_cons (ds_set 5 sc_heights_for.nd (de_callC (can_links_of E) (hr.mono (by omega)) tk rfl (da_cons (dv 0) da_nil) (hn_cons hn_nil)))
    (dss_cons (by first | exact (ds_ownLc 6 [(("move" : Str), 10)] rfl sc_heights_for.nd (di_seq (de_fld (c := "Net") (E.cls 13) (E.noat 19) (dv 0))) (blk_of (N := N_heights_for) (sc := defScope (top 36)) (own := [(("move" : Str), 10)]) (by decide +kernel)) (by decide) (fun _ _ _ _ _ => (dg_one 10 sc_heights_for.nd)) (fun _ _ _ _ _ => dts_nil) (fun _ _ _ _ _ => de_int)) | exact (ds_own 6 sc_heights_for.nd (dn_lc [(("move" : Str), 10)] rfl sc_heights_for.nd (di_seq (de_fld (c := "Net") (E.cls 13) (E.noat 19) (dv 0))) (blk_of (N := N_heights_for) (sc := defScope (top 36)) (own := [(("move" : Str), 10)]) (by decide +kernel)) (by decide) (fun _ _ _ _ _ => (dg_one 10 sc_heights_for.nd)) (fun _ _ _ _ _ => dts_nil) (fun _ _ _ _ _ => de_int))))
    (dss_cons (ds_for hp rfl (di_range1 rfl (E.fre 22) (da_cons (xAdd (bLen (E.fre 4) (de_fld (c := "Net") (E.cls 13) (E.noat 19) (dv 0))) de_int) da_nil) (h1 := (hn_cons hn_nil))) (dg_one 7 sc_heights_for.nd)
    (dss_cons (ds_set 8 sc_heights_for.nd de_bl)
    (dss_cons (ds_for hp rfl (di_range1 rfl (E.fre 22) (da_cons (bLen (E.fre 4) (dv 1)) da_nil) (h1 := (hn_cons hn_nil))) (dg_one 9 sc_heights_for.nd)
    (dss_cons (ds_set 11 sc_heights_for.nd (de_ix (de_ix (de_ix (dv 5) (dv 9)) de_int) de_int))
    (dss_cons (ds_set 12 sc_heights_for.nd (de_ix (de_ix (de_ix (dv 5) (dv 9)) de_int) de_int))
    (dss_cons (ds_set 13 sc_heights_for.nd (xSub (xAdd (de_bor 6 (de_ix (dv 6) (dv 11))) (xMul (de_ix (dv 2) (dv 11)) (dv 4))) (xMul (de_ix (dv 1) (dv 9)) (dv 3))))
    (dss_one (ds_if (dt_bor 6 (tLt (de_ix (dv 6) (dv 12)) (dv 13)))
    (dss_cons (ds_put 6 (dv 13) (dv 12))
    (dss_one (ds_set 8 sc_heights_for.nd de_bl)))
    dss_nil))))))
    (dss_one (ds_if (dt_not (dt_val (dv 8)))
    (dss_one (ds_frz 6 (ds_ret (bTuple (E.fre 9) (dv 6)))))
    dss_nil)))))
    (dss_one (ds_ret de_non)))))

/-! ### paper_pace -/
abbrev N_paper_pace : List Str := ["net", "mark", "times", "best"]
theorem sc_paper_pace : FnScope N_paper_pace ["net", "mark", "times"] (defScope (top 37)) := ⟨rfl, rfl, rfl, by decide +kernel, rfl, by decide +kernel, by decide +kernel⟩
theorem can_paper_pace (E : Fx K mg base) : Can P w K mg base (MoD K tf) 7 "paper_pace" 3 m_paper_pace := by
  refine can_mk (ps := ["net", "mark", "times"]) (E.fun_ 22 (d := d_fn_paper_pace)) (E.glo 47) sc_paper_pace (fun _ _ _ _ _ _ us hl => match us, hl with | [_, _, _], _ => rfl) fun A outer s H E0 hr => ?_
  have tk := takes_of (X := (cxOf (L2.CX P w) P w K mg base N_paper_pace "paper_pace" (defScope (top 37)) (He.fAd K ("paper_pace", none)) (.ref (He.codeOf K ("paper_pace", none))) A outer s H E0)) rfl rfl rfl rfl
  have hp := passes_of (X := (cxOf (L2.CX P w) P w K mg base N_paper_pace "paper_pace" (defScope (top 37)) (He.fAd K ("paper_pace", none)) (.ref (He.codeOf K ("paper_pace", none))) A outer s H E0)) rfl
  exact (dss_cons (ds_drop (de_callC (can_check_marked E) (hr.mono (by omega)) tk rfl (da_cons (dv 0) (da_cons (dv 1) da_nil)) (hn_cons (hn_cons hn_nil))))
    (dss_cons (ds_drop (de_callC (can_check_times E) (hr.mono (by omega)) tk rfl (da_cons (dv 0) (da_cons (dv 2) da_nil)) (hn_cons (hn_cons hn_nil))))
    (dss_cons (ds_if (tEq hr (de_ix (de_callC (can_paper_turns E) (hr.mono (by omega)) tk rfl (da_cons (dv 0) (da_cons (dv 1) da_nil)) (hn_cons (hn_cons hn_nil))) de_int) de_str)
    (dss_one (ds_raiseE (c := "NotPlain") tk (E.glo 26) (E.exc 27)))
    dss_nil)
    (dss_cons (ds_set 3 sc_paper_pace.nd (de_callC (can_slowest E) (hr.mono (by omega)) tk rfl (da_cons (dv 0) (da_cons (dv 1) (da_cons (dv 2) da_nil))) (hn_cons (hn_cons (hn_cons hn_nil)))))
    (dss_cons (ds_if (tIs (dv 3) de_non)
    (dss_one (ds_ret de_non))
    dss_nil)
    (dss_one (ds_ret (de_tup (da_cons de_str (da_cons (de_ix (dv 3) de_int) (da_cons (de_callC (can_heights_for E) (hr.mono (by omega)) tk rfl (da_cons (dv 0) (da_cons (dv 1) (da_cons (dv 2) (da_cons (de_ix (dv 3) de_int) (da_cons (de_ix (dv 3) de_int) da_nil))))) (hn_cons (hn_cons (hn_cons (hn_cons (hn_cons hn_nil)))))) da_nil)))))))))))

/-! ### judge_pace -/
abbrev N_judge_pace : List Str := ["net", "mark", "times", "paper", "heights", "tokens", "time", "links", "at", "first", "second", "height"]
theorem sc_judge_pace : FnScope N_judge_pace ["net", "mark", "times", "paper"] (defScope (top 38)) := ⟨rfl, rfl, rfl, by decide +kernel, rfl, by decide +kernel, by decide +kernel⟩
theorem can_judge_pace (E : Fx K mg base) : Can P w K mg base (MoD K tf) 6 "judge_pace" 4 m_judge_pace := by
  refine can_mk (ps := ["net", "mark", "times", "paper"]) (E.fun_ 23 (d := d_fn_judge_pace)) (E.glo 49) sc_judge_pace (fun _ _ _ _ _ _ us hl => match us, hl with | [_, _, _, _], _ => rfl) fun A outer s H E0 hr => ?_
  have tk := takes_of (X := (cxOf (L2.CX P w) P w K mg base N_judge_pace "judge_pace" (defScope (top 38)) (He.fAd K ("judge_pace", none)) (.ref (He.codeOf K ("judge_pace", none))) A outer s H E0)) rfl rfl rfl rfl
  have hp := passes_of (X := (cxOf (L2.CX P w) P w K mg base N_judge_pace "judge_pace" (defScope (top 38)) (He.fAd K ("judge_pace", none)) (.ref (He.codeOf K ("judge_pace", none))) A outer s H E0)) rfl
  exact (dss_cons (ds_drop (de_callC (can_check_marked E) (hr.mono (by omega)) tk rfl (da_cons (dv 0) (da_cons (dv 1) da_nil)) (hn_cons (hn_cons hn_nil))))
    (dss_cons (ds_drop (de_callC (can_check_times E) (hr.mono (by omega)) tk rfl (da_cons (dv 0) (da_cons (dv 2) da_nil)) (hn_cons (hn_cons hn_nil))))
    (dss_cons (ds_if (dt_w (dw_or (dt_not (dt_val (de_callC (can_is_paper E) (hr.mono (by omega)) tk rfl (da_cons (dv 3) (da_cons de_str (da_cons de_int da_nil))) (hn_cons (hn_cons (hn_cons hn_nil)))))) (dw_or (dt_not (dt_val (de_callC (can_is_ring_of E) (hr.mono (by omega)) tk rfl (da_cons (dv 0) (da_cons (de_ix (dv 3) de_int) da_nil)) (hn_cons (hn_cons hn_nil))))) (dw_or1 (dt_not (dt_val (de_isi rfl (E.fre 0) bt_isinstance rfl (E.fre 9) bt_tuple (de_ix (dv 3) de_int))))))))
    (dss_one (ds_ret de_bl))
    dss_nil)
    (dss_cons (ds_set 4 sc_judge_pace.nd (de_ix (dv 3) de_int))
    (dss_cons (ds_set 5 sc_judge_pace.nd (de_callC (can_tokens_on E) (hr.mono (by omega)) tk rfl (da_cons (dv 0) (da_cons (dv 1) (da_cons (de_ix (dv 3) de_int) da_nil))) (hn_cons (hn_cons (hn_cons hn_nil)))))
    (dss_cons (ds_set 6 sc_judge_pace.nd (de_callC (can_time_of E) (hr.mono (by omega)) tk rfl (da_cons (dv 0) (da_cons (dv 2) (da_cons (de_ix (dv 3) de_int) da_nil))) (hn_cons (hn_cons (hn_cons hn_nil)))))
    (dss_cons (ds_if (dt_w (dw_or (tEq hr (dv 5) de_int) (dw_or1 (tNe hr (bLen (E.fre 4) (dv 4)) (bLen (E.fre 4) (de_fld (c := "Net") (E.cls 13) (E.noat 19) (dv 0)))))))
    (dss_one (ds_ret de_bl))
    dss_nil)
    (dss_cons (ds_if (dt_not (dt_val (de_allG [(("height" : Str), 11)] hr rfl (E.fre 7) bt_all (E.tab (p := ("judge_pace", none)) (by unfold tf; simp)) ⟨("judge_pace", none), by unfold tf; simp, rfl⟩ rfl rfl sc_judge_pace.nd (gn_of (N := N_judge_pace) (sc := defScope (top 38)) (own := [(("height" : Str), 11)]) (by decide +kernel)) (by decide) (di_seq (dv 4)) (fun _ _ _ _ _ _ _ _ => (dg_one 11 sc_judge_pace.nd)) (fun _ _ _ _ _ _ _ _ hr1 => dts_nil) (fun _ _ _ _ _ _ _ _ hr1 => (de_and (de_isi rfl (E.fre 0) bt_isinstance rfl (E.fre 1) bt_int (dv 11)) (de_one (de_not (de_isi rfl (E.fre 0) bt_isinstance rfl (E.fre 48) bt_bool (dv 11)))))))))
    (dss_one (ds_ret de_bl))
    dss_nil)
    (dss_cons (ds_set 7 sc_judge_pace.nd (de_callC (can_links_of E) (hr.mono (by omega)) tk rfl (da_cons (dv 0) da_nil) (hn_cons hn_nil)))
    (dss_cons (ds_for hp rfl (di_range1 rfl (E.fre 22) (da_cons (bLen (E.fre 4) (dv 1)) da_nil) (h1 := (hn_cons hn_nil))) (dg_one 8 sc_judge_pace.nd)
    (dss_cons (ds_set 9 sc_judge_pace.nd (de_ix (de_ix (de_ix (dv 7) (dv 8)) de_int) de_int))
    (dss_cons (ds_set 10 sc_judge_pace.nd (de_ix (de_ix (de_ix (dv 7) (dv 8)) de_int) de_int))
    (dss_one (ds_if (tLt (de_ix (dv 4) (dv 10)) (xSub (xAdd (de_ix (dv 4) (dv 9)) (xMul (de_ix (dv 2) (dv 9)) (dv 5))) (xMul (de_ix (dv 1) (dv 8)) (dv 6))))
    (dss_one (ds_ret de_bl))
    dss_nil)))))
    (dss_one (ds_ret de_bl))))))))))))

/-! ### begins -/
abbrev N_begins : List Str := ["net", "mark", "times", "turns", "order", "links", "rows", "turn", "k", "name", "move", "earliest", "at", "row", "giver"]
theorem sc_begins : FnScope N_begins ["net", "mark", "times", "turns"] (defScope (top 39)) := ⟨rfl, rfl, rfl, by decide +kernel, rfl, by decide +kernel, by decide +kernel⟩
theorem can_begins (E : Fx K mg base) : Can P w K mg base (MoD K tf) 7 "begins" 4 m_begins := by
  refine can_mk (ps := ["net", "mark", "times", "turns"]) (E.fun_ 24 (d := d_fn_begins)) (E.glo 50) sc_begins (fun _ _ _ _ _ _ us hl => match us, hl with | [_, _, _, _], _ => rfl) fun A outer s H E0 hr => ?_
  have tk := takes_of (X := (cxOf (L2.CX P w) P w K mg base N_begins "begins" (defScope (top 39)) (He.fAd K ("begins", none)) (.ref (He.codeOf K ("begins", none))) A outer s H E0)) rfl rfl rfl rfl
  have hp := passes_of (X := (cxOf (L2.CX P w) P w K mg base N_begins "begins" (defScope (top 39)) (He.fAd K ("begins", none)) (.ref (He.codeOf K ("begins", none))) A outer s H E0)) rfl
  exact (dss_cons (ds_drop (de_callC (can_check_marked E) (hr.mono (by omega)) tk rfl (da_cons (dv 0) (da_cons (dv 1) da_nil)) (hn_cons (hn_cons hn_nil))))
    (dss_cons (ds_drop (de_callC (can_check_times E) (hr.mono (by omega)) tk rfl (da_cons (dv 0) (da_cons (dv 2) da_nil)) (hn_cons (hn_cons hn_nil))))
    (dss_cons (ds_if (dt_w (dw_or (dt_not (dt_val (de_callC (can_is_number E) (hr.mono (by omega)) tk rfl (da_cons (dv 3) (da_cons de_int da_nil)) (hn_cons (hn_cons hn_nil))))) (dw_or1 (tGt (dv 3) de_int))))
    (dss_one (ds_raiseE (c := "BadNumbers") tk (E.glo 41) (E.exc 42)))
    dss_nil)
    (dss_cons (ds_if (tEq hr (de_ix (de_callC (can_paper_turns E) (hr.mono (by omega)) tk rfl (da_cons (dv 0) (da_cons (dv 1) da_nil)) (hn_cons (hn_cons hn_nil))) de_int) de_str)
    (dss_one (ds_raiseE (c := "NotPlain") tk (E.glo 26) (E.exc 27)))
    dss_nil)
    (dss_cons (by first | exact (ds_setLc 4 [(("name" : Str), 9)] rfl sc_begins.nd (di_seq (de_ix (de_callC (can_paper_turns E) (hr.mono (by omega)) tk rfl (da_cons (dv 0) (da_cons (dv 1) da_nil)) (hn_cons (hn_cons hn_nil))) de_int)) (blk_of (N := N_begins) (sc := defScope (top 39)) (own := [(("name" : Str), 9)]) (by decide +kernel)) (by decide) (fun _ _ _ _ _ => (dg_one 9 sc_begins.nd)) (fun _ _ _ _ _ => dts_nil) (fun _ _ _ _ _ => (mIndex hr (de_n (dn_lc [(("move" : Str), 10)] rfl sc_begins.nd (di_seq (de_fld (c := "Net") (E.cls 13) (E.noat 19) (dv 0))) (blk_of (own := [(("move" : Str), 10)]) (by kernel_rfl)) (by decide) (fun _ _ _ _ _ => (dg_one 10 sc_begins.nd)) (fun _ _ _ _ _ => dts_nil) (fun _ _ _ _ _ => (de_ix (dv 10) de_int)))) (dv 9)))) | exact (ds_set 4 sc_begins.nd (de_n (dn_lc [(("name" : Str), 9)] rfl sc_begins.nd (di_seq (de_ix (de_callC (can_paper_turns E) (hr.mono (by omega)) tk rfl (da_cons (dv 0) (da_cons (dv 1) da_nil)) (hn_cons (hn_cons hn_nil))) de_int)) (blk_of (N := N_begins) (sc := defScope (top 39)) (own := [(("name" : Str), 9)]) (by decide +kernel)) (by decide) (fun _ _ _ _ _ => (dg_one 9 sc_begins.nd)) (fun _ _ _ _ _ => dts_nil) (fun _ _ _ _ _ => (mIndex hr (de_n (dn_lc [(("move" : Str), 10)] rfl sc_begins.nd (di_seq (de_fld (c := "Net") (E.cls 13) (E.noat 19) (dv 0))) (blk_of (own := [(("move" : Str), 10)]) (by kernel_rfl)) (by decide) (fun _ _ _ _ _ => (dg_one 10 sc_begins.nd)) (fun _ _ _ _ _ => dts_nil) (fun _ _ _ _ _ => (de_ix (dv 10) de_int)))) (dv 9)))))))
    (dss_cons (ds_set 5 sc_begins.nd (de_callC (can_links_of E) (hr.mono (by omega)) tk rfl (da_cons (dv 0) da_nil) (hn_cons hn_nil)))
    (dss_cons (ds_lol 6 10 [(("move" : Str), 10)] rfl sc_begins.nd (di_seq (de_fld (c := "Net") (E.cls 13) (E.noat 19) (dv 0))) (blk_of (N := N_begins) (sc := defScope (top 39)) (own := [(("move" : Str), 10)]) (by decide +kernel)) (by decide) (fun _ _ _ _ _ => (dg_one 10 sc_begins.nd)))
    (dss_cons (ds_for hp rfl (di_range1 rfl (E.fre 22) (da_cons (dv 3) da_nil) (h1 := (hn_cons hn_nil))) (dg_one 7 sc_begins.nd)
    (dss_one (ds_for hp rfl (di_seq (dv 4)) (dg_one 8 sc_begins.nd)
    (dss_cons (ds_set 11 sc_begins.nd de_int)
    (dss_cons (ds_for hp rfl (di_range1 rfl (E.fre 22) (da_cons (bLen (E.fre 4) (dv 1)) da_nil) (h1 := (hn_cons hn_nil))) (dg_one 12 sc_begins.nd)
    (dss_one (ds_if (dt_w (dw_and (tEq hr (de_ix (de_ix (dv 5) (dv 12)) de_int) (de_lst (da_cons (dv 8) da_nil))) (dw_and1 (tGe (dv 7) (de_ix (dv 1) (dv 12))))))
    (dss_cons (ds_set 14 sc_begins.nd (de_ix (de_ix (de_ix (dv 5) (dv 12)) de_int) de_int))
    (dss_one (ds_set 11 sc_begins.nd (de_bor 6 (bMax2 rfl (E.fre 24) (dv 11) (xAdd (de_ix (de_ix (dv 6) (dv 14)) (xSub (dv 7) (de_ix (dv 1) (dv 12)))) (de_ix (dv 2) (dv 14))))))))
    dss_nil)))
    (dss_one (ds_lapp 6 (dv 8) (dv 11))))))))
    (dss_one (ds_frz 6 (ds_ret (bTuple (E.fre 9) (de_n (dn_lc [(("row" : Str), 13)] rfl sc_begins.nd (di_seq (dv 6)) (blk_of (N := N_begins) (sc := defScope (top 39)) (own := [(("row" : Str), 13)]) (by decide +kernel)) (by decide) (fun _ _ _ _ _ => (dg_one 13 sc_begins.nd)) (fun _ _ _ _ _ => dts_nil) (fun _ _ _ _ _ => (bTuple (E.fre 9) (dv 13)))))))))))))))))

/-! ### _law_cell -/
abbrev N__law_cell : List Str := ["script", "k"]
theorem sc__law_cell : FnScope N__law_cell ["script", "k"] (defScope (top 41)) := ⟨rfl, rfl, rfl, by decide +kernel, rfl, by decide +kernel, by decide +kernel⟩
theorem can__law_cell (E : Fx K mg base) : Can P w K mg base (MoD K tf) 1 "_law_cell" 2 m__law_cell := by
  refine can_mk (ps := ["script", "k"]) (E.fun_ 25 (d := d_fn__law_cell)) (E.glo 51) sc__law_cell (fun _ _ _ _ _ _ us hl => match us, hl with | [_, _], _ => rfl) fun A outer s H E0 hr => ?_
  have tk := takes_of (X := (cxOf (L2.CX P w) P w K mg base N__law_cell "_law_cell" (defScope (top 41)) (He.fAd K ("_law_cell", none)) (.ref (He.codeOf K ("_law_cell", none))) A outer s H E0)) rfl rfl rfl rfl
  have hp := passes_of (X := (cxOf (L2.CX P w) P w K mg base N__law_cell "_law_cell" (defScope (top 41)) (He.fAd K ("_law_cell", none)) (.ref (He.codeOf K ("_law_cell", none))) A outer s H E0)) rfl
  exact (dss_cons (ds_if (tLt (dv 1) (bLen (E.fre 4) (dv 0)))
    (dss_one (ds_ret (de_ix (dv 0) (dv 1))))
    dss_nil)
    (dss_one (ds_ret de_int)))

/-! ### _law_draws -/
abbrev N__law_draws : List Str := ["cell", "count", "result", "rest", "k", "mixed"]
theorem sc__law_draws : FnScope N__law_draws ["cell", "count"] (defScope (top 42)) := ⟨rfl, rfl, rfl, by decide +kernel, rfl, by decide +kernel, by decide +kernel⟩
theorem can__law_draws (E : Fx K mg base) : Can P w K mg base (MoD K tf) 1 "_law_draws" 2 m__law_draws := by
  refine can_mk (ps := ["cell", "count"]) (E.fun_ 26 (d := d_fn__law_draws)) (E.glo 52) sc__law_draws (fun _ _ _ _ _ _ us hl => match us, hl with | [_, _], _ => rfl) fun A outer s H E0 hr => ?_
  have tk := takes_of (X := (cxOf (L2.CX P w) P w K mg base N__law_draws "_law_draws" (defScope (top 42)) (He.fAd K ("_law_draws", none)) (.ref (He.codeOf K ("_law_draws", none))) A outer s H E0)) rfl rfl rfl rfl
  have hp := passes_of (X := (cxOf (L2.CX P w) P w K mg base N__law_draws "_law_draws" (defScope (top 42)) (He.fAd K ("_law_draws", none)) (.ref (He.codeOf K ("_law_draws", none))) A outer s H E0)) rfl
  exact (dss_cons (ds_own 2 sc__law_draws.nd (dn_lst da_nil))
    (dss_cons (ds_set 3 sc__law_draws.nd (bIntT (E.fre 1) (dv 0)))
    (dss_cons (ds_for hp rfl (di_range1 rfl (E.fre 22) (da_cons (dv 1) da_nil) (h1 := (hn_cons hn_nil))) (dg_one 4 sc__law_draws.nd)
    (dss_cons (ds_set 5 sc__law_draws.nd (xMod (bIntT (E.fre 1) (xAdd (xAdd (xMul (dv 0) de_int) (xMul (dv 4) de_int)) de_int)) de_int))
    (dss_one (ds_if (tGe (dv 0) (xPow de_int de_int))
    (dss_cons (ds_app 2 (xMod (dv 3) de_int))
    (dss_one (ds_set 3 sc__law_draws.nd (xFdv (dv 3) de_int))))
    (dss_one (ds_app 2 (xFdv (xMod (bIntT (E.fre 1) (xAdd (xMul (dv 5) (dv 5)) (xMul (dv 5) de_int))) de_int) de_int)))))))
    (dss_one (ds_frz 2 (ds_ret (dv 2)))))))

/-! ### _law_ring_net -/
abbrev N__law_ring_net : List Str := ["n", "many", "count", "links", "places", "moves", "j", "takes", "k"]
theorem sc__law_ring_net : FnScope N__law_ring_net ["n"] (defScope (top 43)) := ⟨rfl, rfl, rfl, by decide +kernel, rfl, by decide +kernel, by decide +kernel⟩
theorem can__law_ring_net (E : Fx K mg base) : Can P w K mg base (MoD K tf) 1 "_law_ring_net" 1 m__law_ring_net := by
  refine can_mk (ps := ["n"]) (E.fun_ 27 (d := d_fn__law_ring_net)) (E.glo 53) sc__law_ring_net (fun _ _ _ _ _ _ us hl => match us, hl with | [_], _ => rfl) fun A outer s H E0 hr => ?_
  have tk := takes_of (X := (cxOf (L2.CX P w) P w K mg base N__law_ring_net "_law_ring_net" (defScope (top 43)) (He.fAd K ("_law_ring_net", none)) (.ref (He.codeOf K ("_law_ring_net", none))) A outer s H E0)) rfl rfl rfl rfl
  have hp := passes_of (X := (cxOf (L2.CX P w) P w K mg base N__law_ring_net "_law_ring_net" (defScope (top 43)) (He.fAd K ("_law_ring_net", none)) (.ref (He.codeOf K ("_law_ring_net", none))) A outer s H E0)) rfl
  exact (dss_cons (ds_set 1 sc__law_ring_net.nd (xAdd (xMod (de_ix (dv 0) de_int) de_int) de_int))
    (dss_cons (ds_set 2 sc__law_ring_net.nd (xAdd (xMod (de_ix (dv 0) de_int) de_int) de_int))
    (dss_cons (by first | exact (ds_setLc 3 [(("k" : Str), 8)] rfl sc__law_ring_net.nd (di_range1 rfl (E.fre 22) (da_cons (dv 1) da_nil) (h1 := (hn_cons hn_nil))) (blk_of (N := N__law_ring_net) (sc := defScope (top 43)) (own := [(("k" : Str), 8)]) (by decide +kernel)) (by decide) (fun _ _ _ _ _ => (dg_one 8 sc__law_ring_net.nd)) (fun _ _ _ _ _ => dts_nil) (fun _ _ _ _ _ => (de_tup (da_cons (xMod (de_ix (dv 0) (xAdd de_int (xMul de_int (dv 8)))) (dv 2)) (da_cons (xMod (de_ix (dv 0) (xAdd de_int (xMul de_int (dv 8)))) (dv 2)) da_nil))))) | exact (ds_set 3 sc__law_ring_net.nd (de_n (dn_lc [(("k" : Str), 8)] rfl sc__law_ring_net.nd (di_range1 rfl (E.fre 22) (da_cons (dv 1) da_nil) (h1 := (hn_cons hn_nil))) (blk_of (N := N__law_ring_net) (sc := defScope (top 43)) (own := [(("k" : Str), 8)]) (by decide +kernel)) (by decide) (fun _ _ _ _ _ => (dg_one 8 sc__law_ring_net.nd)) (fun _ _ _ _ _ => dts_nil) (fun _ _ _ _ _ => (de_tup (da_cons (xMod (de_ix (dv 0) (xAdd de_int (xMul de_int (dv 8)))) (dv 2)) (da_cons (xMod (de_ix (dv 0) (xAdd de_int (xMul de_int (dv 8)))) (dv 2)) da_nil))))))))
    (dss_cons (ds_set 4 sc__law_ring_net.nd (de_slice (de_tup (da_cons de_str (da_cons de_str (da_cons de_str (da_cons de_str (da_cons de_str (da_cons de_str da_nil))))))) do_none (do_some (dv 1))))
    (dss_cons (ds_own 5 sc__law_ring_net.nd (dn_lst da_nil))
    (dss_cons (ds_for hp rfl (di_range1 rfl (E.fre 22) (da_cons (dv 2) da_nil) (h1 := (hn_cons hn_nil))) (dg_one 6 sc__law_ring_net.nd)
    (dss_cons (ds_set 7 sc__law_ring_net.nd (bTuple (E.fre 9) (de_n (dn_lc [(("k" : Str), 8)] rfl sc__law_ring_net.nd (di_range1 rfl (E.fre 22) (da_cons (dv 1) da_nil) (h1 := (hn_cons hn_nil))) (blk_of (N := N__law_ring_net) (sc := defScope (top 43)) (own := [(("k" : Str), 8)]) (by decide +kernel)) (by decide) (fun _ _ _ _ _ => (dg_one 8 sc__law_ring_net.nd)) (fun _ _ _ _ _ => (dts_one (tEq hr (de_ix (de_ix (dv 3) (dv 8)) de_int) (dv 6)))) (fun _ _ _ _ _ => (de_tup (da_cons (de_ix (dv 4) (dv 8)) (da_cons de_int da_nil))))))))
    (dss_one (ds_app 5 (de_tup (da_cons (de_ix de_str (dv 6)) (da_cons (dv 7) (da_cons (bTuple (E.fre 9) (de_n (dn_lc [(("k" : Str), 8)] rfl sc__law_ring_net.nd (di_range1 rfl (E.fre 22) (da_cons (dv 1) da_nil) (h1 := (hn_cons hn_nil))) (blk_of (N := N__law_ring_net) (sc := defScope (top 43)) (own := [(("k" : Str), 8)]) (by decide +kernel)) (by decide) (fun _ _ _ _ _ => (dg_one 8 sc__law_ring_net.nd)) (fun _ _ _ _ _ => (dts_one (tEq hr (de_ix (de_ix (dv 3) (dv 8)) de_int) (dv 6)))) (fun _ _ _ _ _ => (de_tup (da_cons (de_ix (dv 4) (dv 8)) (da_cons de_int da_nil))))))) da_nil))))))))
    (dss_one (ds_frz 5 (ds_ret (de_tup (da_cons (dv 4) (da_cons (bTuple (E.fre 9) (dv 5)) (da_cons (dv 3) da_nil)))))))))))))

/-! ### _law_rings -/
abbrev N__law_rings : List Str := ["links", "found", "ways", "longer", "way", "k", "taken"]
theorem sc__law_rings : FnScope N__law_rings ["links"] (defScope (top 44)) := ⟨rfl, rfl, rfl, by decide +kernel, rfl, by decide +kernel, by decide +kernel⟩
theorem can__law_rings (E : Fx K mg base) : Can P w K mg base (MoD K tf) 1 "_law_rings" 1 m__law_rings := by
  refine can_mk (ps := ["links"]) (E.fun_ 28 (d := d_fn__law_rings)) (E.glo 54) sc__law_rings (fun _ _ _ _ _ _ us hl => match us, hl with | [_], _ => rfl) fun A outer s H E0 hr => ?_
  have tk := takes_of (X := (cxOf (L2.CX P w) P w K mg base N__law_rings "_law_rings" (defScope (top 44)) (He.fAd K ("_law_rings", none)) (.ref (He.codeOf K ("_law_rings", none))) A outer s H E0)) rfl rfl rfl rfl
  have hp := passes_of (X := (cxOf (L2.CX P w) P w K mg base N__law_rings "_law_rings" (defScope (top 44)) (He.fAd K ("_law_rings", none)) (.ref (He.codeOf K ("_law_rings", none))) A outer s H E0)) rfl
  exact (dss_cons (ds_own 1 sc__law_rings.nd (dn_lst da_nil))
    (dss_cons (by first | exact (ds_setLc 2 [(("k" : Str), 5)] rfl sc__law_rings.nd (di_range1 rfl (E.fre 22) (da_cons (bLen (E.fre 4) (dv 0)) da_nil) (h1 := (hn_cons hn_nil))) (blk_of (N := N__law_rings) (sc := defScope (top 44)) (own := [(("k" : Str), 5)]) (by decide +kernel)) (by decide) (fun _ _ _ _ _ => (dg_one 5 sc__law_rings.nd)) (fun _ _ _ _ _ => dts_nil) (fun _ _ _ _ _ => (de_tup (da_cons (dv 5) da_nil)))) | exact (ds_set 2 sc__law_rings.nd (de_n (dn_lc [(("k" : Str), 5)] rfl sc__law_rings.nd (di_range1 rfl (E.fre 22) (da_cons (bLen (E.fre 4) (dv 0)) da_nil) (h1 := (hn_cons hn_nil))) (blk_of (N := N__law_rings) (sc := defScope (top 44)) (own := [(("k" : Str), 5)]) (by decide +kernel)) (by decide) (fun _ _ _ _ _ => (dg_one 5 sc__law_rings.nd)) (fun _ _ _ _ _ => dts_nil) (fun _ _ _ _ _ => (de_tup (da_cons (dv 5) da_nil)))))))
    (dss_cons (ds_while 1000000 hp (tGt (bLen (E.fre 4) (dv 2)) de_int)
    (dss_cons (ds_own 3 sc__law_rings.nd (dn_lst da_nil))
    (dss_cons (ds_for hp rfl (di_seq (dv 2)) (dg_one 4 sc__law_rings.nd)
    (dss_cons (ds_if (tEq hr (de_ix (de_ix (dv 0) (de_ix (dv 4) (xNeg de_int))) de_int) (de_ix (de_ix (dv 0) (de_ix (dv 4) de_int)) de_int))
    (dss_one (ds_app 1 (dv 4)))
    dss_nil)
    (dss_cons (by first | exact (ds_setLc 6 [(("k" : Str), 5)] rfl sc__law_rings.nd (di_seq (dv 4)) (blk_of (N := N__law_rings) (sc := defScope (top 44)) (own := [(("k" : Str), 5)]) (by decide +kernel)) (by decide) (fun _ _ _ _ _ => (dg_one 5 sc__law_rings.nd)) (fun _ _ _ _ _ => dts_nil) (fun _ _ _ _ _ => (de_ix (de_ix (dv 0) (dv 5)) de_int))) | exact (ds_set 6 sc__law_rings.nd (de_n (dn_lc [(("k" : Str), 5)] rfl sc__law_rings.nd (di_seq (dv 4)) (blk_of (N := N__law_rings) (sc := defScope (top 44)) (own := [(("k" : Str), 5)]) (by decide +kernel)) (by decide) (fun _ _ _ _ _ => (dg_one 5 sc__law_rings.nd)) (fun _ _ _ _ _ => dts_nil) (fun _ _ _ _ _ => (de_ix (de_ix (dv 0) (dv 5)) de_int))))))
    (dss_one (ds_for hp rfl (di_range2 rfl (E.fre 22) (da_cons (xAdd (de_ix (dv 4) de_int) de_int) (da_cons (bLen (E.fre 4) (dv 0)) da_nil)) (h1 := (hn_cons (hn_cons hn_nil)))) (dg_one 5 sc__law_rings.nd)
    (dss_one (ds_if (dt_w (dw_and (tEq hr (de_ix (de_ix (dv 0) (de_ix (dv 4) (xNeg de_int))) de_int) (de_ix (de_ix (dv 0) (dv 5)) de_int)) (dw_and (tNin hr (de_ix (de_ix (dv 0) (dv 5)) de_int) (dv 6)) (dw_and1 (tNin hr (dv 5) (dv 4))))))
    (dss_one (ds_app 3 (xAdd (dv 4) (de_tup (da_cons (dv 5) da_nil)))))
    dss_nil)))))))
    (dss_one (ds_frz 3 (ds_set 2 sc__law_rings.nd (dv 3)))))))
    (dss_one (ds_frz 1 (ds_ret (bSortG hr (E.fre 30) (dv 1))))))))

/-! ### _law_stands -/
abbrev N__law_stands : List Str := ["links", "mark", "times", "ring", "heights", "own", "time", "tokens", "k", "j"]
theorem sc__law_stands : FnScope N__law_stands ["links", "mark", "times", "ring", "heights"] (defScope (top 45)) := ⟨rfl, rfl, rfl, by decide +kernel, rfl, by decide +kernel, by decide +kernel⟩
theorem can__law_stands (E : Fx K mg base) : Can P w K mg base (MoD K tf) 1 "_law_stands" 5 m__law_stands := by
  refine can_mk (ps := ["links", "mark", "times", "ring", "heights"]) (E.fun_ 29 (d := d_fn__law_stands)) (E.glo 55) sc__law_stands (fun _ _ _ _ _ _ us hl => match us, hl with | [_, _, _, _, _], _ => rfl) fun A outer s H E0 hr => ?_
  have tk := takes_of (X := (cxOf (L2.CX P w) P w K mg base N__law_stands "_law_stands" (defScope (top 45)) (He.fAd K ("_law_stands", none)) (.ref (He.codeOf K ("_law_stands", none))) A outer s H E0)) rfl rfl rfl rfl
  have hp := passes_of (X := (cxOf (L2.CX P w) P w K mg base N__law_stands "_law_stands" (defScope (top 45)) (He.fAd K ("_law_stands", none)) (.ref (He.codeOf K ("_law_stands", none))) A outer s H E0)) rfl
  exact (dss_cons (by first | exact (ds_setLc 5 [(("k" : Str), 8)] rfl sc__law_stands.nd (di_seq (dv 3)) (blk_of (N := N__law_stands) (sc := defScope (top 45)) (own := [(("k" : Str), 8)]) (by decide +kernel)) (by decide) (fun _ _ _ _ _ => (dg_one 8 sc__law_stands.nd)) (fun _ _ _ _ _ => dts_nil) (fun _ _ _ _ _ => (dv 8))) | exact (ds_set 5 sc__law_stands.nd (de_n (dn_lc [(("k" : Str), 8)] rfl sc__law_stands.nd (di_seq (dv 3)) (blk_of (N := N__law_stands) (sc := defScope (top 45)) (own := [(("k" : Str), 8)]) (by decide +kernel)) (by decide) (fun _ _ _ _ _ => (dg_one 8 sc__law_stands.nd)) (fun _ _ _ _ _ => dts_nil) (fun _ _ _ _ _ => (dv 8))))))
    (dss_cons (ds_set 6 sc__law_stands.nd (bSum rfl (E.fre 32) (de_n (dn_lc [(("k" : Str), 8)] rfl sc__law_stands.nd (di_seq (dv 5)) (blk_of (N := N__law_stands) (sc := defScope (top 45)) (own := [(("k" : Str), 8)]) (by decide +kernel)) (by decide) (fun _ _ _ _ _ => (dg_one 8 sc__law_stands.nd)) (fun _ _ _ _ _ => dts_nil) (fun _ _ _ _ _ => (de_ix (dv 2) (de_ix (de_ix (dv 0) (dv 8)) de_int)))))))
    (dss_cons (ds_set 7 sc__law_stands.nd (bSum rfl (E.fre 32) (de_n (dn_lc [(("k" : Str), 8)] rfl sc__law_stands.nd (di_seq (dv 5)) (blk_of (N := N__law_stands) (sc := defScope (top 45)) (own := [(("k" : Str), 8)]) (by decide +kernel)) (by decide) (fun _ _ _ _ _ => (dg_one 8 sc__law_stands.nd)) (fun _ _ _ _ _ => dts_nil) (fun _ _ _ _ _ => (de_ix (dv 1) (dv 8)))))))
    (dss_cons (ds_if (dt_w (dw_or (tEq hr (dv 7) de_int) (dw_or (tEq hr (bLen (E.fre 4) (dv 5)) de_int) (dw_or1 (tGt (bLen (E.fre 4) (de_n (dn_lc [(("j" : Str), 9)] rfl sc__law_stands.nd (di_range1 rfl (E.fre 22) (da_cons (bLen (E.fre 4) (dv 5)) da_nil) (h1 := (hn_cons hn_nil))) (blk_of (N := N__law_stands) (sc := defScope (top 45)) (own := [(("j" : Str), 9)]) (by decide +kernel)) (by decide) (fun _ _ _ _ _ => (dg_one 9 sc__law_stands.nd)) (fun _ _ _ _ _ => (dts_one (tNe hr (de_ix (de_ix (dv 0) (de_ix (dv 5) (dv 9))) de_int) (de_ix (de_ix (dv 0) (de_ix (dv 5) (xMod (xAdd (dv 9) de_int) (bLen (E.fre 4) (dv 5))))) de_int)))) (fun _ _ _ _ _ => (dv 9))))) de_int)))))
    (dss_one (ds_ret de_bl))
    dss_nil)
    (dss_one (ds_ret (cEq hr (bLen (E.fre 4) (de_n (dn_lc [(("k" : Str), 8)] rfl sc__law_stands.nd (di_range1 rfl (E.fre 22) (da_cons (bLen (E.fre 4) (dv 0)) da_nil) (h1 := (hn_cons hn_nil))) (blk_of (N := N__law_stands) (sc := defScope (top 45)) (own := [(("k" : Str), 8)]) (by decide +kernel)) (by decide) (fun _ _ _ _ _ => (dg_one 8 sc__law_stands.nd)) (fun _ _ _ _ _ => (dts_one (tLt (de_ix (dv 4) (de_ix (de_ix (dv 0) (dv 8)) de_int)) (xSub (xAdd (de_ix (dv 4) (de_ix (de_ix (dv 0) (dv 8)) de_int)) (xMul (dv 7) (de_ix (dv 2) (de_ix (de_ix (dv 0) (dv 8)) de_int)))) (xMul (de_ix (dv 1) (dv 8)) (dv 6)))))) (fun _ _ _ _ _ => (dv 8))))) de_int)))))))

/-! ### _law_begins -/
abbrev N__law_begins : List Str := ["links", "mark", "times", "turns", "rows", "again", "j", "time", "turn", "waits", "row", "k", "first", "at"]
theorem sc__law_begins : FnScope N__law_begins ["links", "mark", "times", "turns"] (defScope (top 46)) := ⟨rfl, rfl, rfl, by decide +kernel, rfl, by decide +kernel, by decide +kernel⟩
theorem can__law_begins (E : Fx K mg base) : Can P w K mg base (MoD K tf) 1 "_law_begins" 4 m__law_begins := by
  refine can_mk (ps := ["links", "mark", "times", "turns"]) (E.fun_ 30 (d := d_fn__law_begins)) (E.glo 56) sc__law_begins (fun _ _ _ _ _ _ us hl => match us, hl with | [_, _, _, _], _ => rfl) fun A outer s H E0 hr => ?_
  have tk := takes_of (X := (cxOf (L2.CX P w) P w K mg base N__law_begins "_law_begins" (defScope (top 46)) (He.fAd K ("_law_begins", none)) (.ref (He.codeOf K ("_law_begins", none))) A outer s H E0)) rfl rfl rfl rfl
  have hp := passes_of (X := (cxOf (L2.CX P w) P w K mg base N__law_begins "_law_begins" (defScope (top 46)) (He.fAd K ("_law_begins", none)) (.ref (He.codeOf K ("_law_begins", none))) A outer s H E0)) rfl
  exact (dss_cons (by first | exact (ds_loln 4 7 [(("time" : Str), 7)] rfl sc__law_begins.nd (di_seq (dv 2)) (blk_of (N := N__law_begins) (sc := defScope (top 46)) (own := [(("time" : Str), 7)]) (by decide +kernel)) (by decide) (fun _ _ _ _ _ => (dg_one 7 sc__law_begins.nd)) (fun _ _ _ _ _ => (dn_lc [(("turn" : Str), 8)] rfl sc__law_begins.nd (di_range1 rfl (E.fre 22) (da_cons (dv 3) da_nil) (h1 := (hn_cons hn_nil))) (blk_of (own := [(("turn" : Str), 8)]) (by kernel_rfl)) (by decide) (fun _ _ _ _ _ => (dg_one 8 sc__law_begins.nd)) (fun _ _ _ _ _ => dts_nil) (fun _ _ _ _ _ => de_non)))) | exact (ds_lolc 4 7 [(("time" : Str), 7)] rfl sc__law_begins.nd (di_seq (dv 2)) (blk_of (N := N__law_begins) (sc := defScope (top 46)) (own := [(("time" : Str), 7)]) (by decide +kernel)) (by decide) (fun _ _ _ _ _ => (dg_one 7 sc__law_begins.nd)) (fun _ _ _ _ _ => (dn_lc [(("turn" : Str), 8)] rfl sc__law_begins.nd (di_range1 rfl (E.fre 22) (da_cons (dv 3) da_nil) (h1 := (hn_cons hn_nil))) (blk_of (own := [(("turn" : Str), 8)]) (by kernel_rfl)) (by decide) (fun _ _ _ _ _ => (dg_one 8 sc__law_begins.nd)) (fun _ _ _ _ _ => dts_nil) (fun _ _ _ _ _ => de_non)))))
    (dss_cons (ds_for hp rfl (di_range1 rfl (E.fre 22) (da_cons (xMul (dv 3) (bLen (E.fre 4) (dv 2))) da_nil) (h1 := (hn_cons hn_nil))) (dg_one 5 sc__law_begins.nd)
    (dss_one (ds_for hp rfl (di_range1 rfl (E.fre 22) (da_cons (bLen (E.fre 4) (dv 2)) da_nil) (h1 := (hn_cons hn_nil))) (dg_one 6 sc__law_begins.nd)
    (dss_one (ds_for hp rfl (di_range1 rfl (E.fre 22) (da_cons (dv 3) da_nil) (h1 := (hn_cons hn_nil))) (dg_one 8 sc__law_begins.nd)
    (dss_cons (by first | exact (ds_setLc 9 [(("k" : Str), 11)] rfl sc__law_begins.nd (di_range1 rfl (E.fre 22) (da_cons (bLen (E.fre 4) (dv 0)) da_nil) (h1 := (hn_cons hn_nil))) (blk_of (N := N__law_begins) (sc := defScope (top 46)) (own := [(("k" : Str), 11)]) (by decide +kernel)) (by decide) (fun _ _ _ _ _ => (dg_one 11 sc__law_begins.nd)) (fun _ _ _ _ _ => (dts_one (dt_w (dw_and (tEq hr (de_ix (de_ix (dv 0) (dv 11)) de_int) (dv 6)) (dw_and1 (tGe (dv 8) (de_ix (dv 1) (dv 11)))))))) (fun _ _ _ _ _ => (de_tup (da_cons (de_ix (de_ix (dv 0) (dv 11)) de_int) (da_cons (xSub (dv 8) (de_ix (dv 1) (dv 11))) da_nil))))) | exact (ds_set 9 sc__law_begins.nd (de_n (dn_lc [(("k" : Str), 11)] rfl sc__law_begins.nd (di_range1 rfl (E.fre 22) (da_cons (bLen (E.fre 4) (dv 0)) da_nil) (h1 := (hn_cons hn_nil))) (blk_of (N := N__law_begins) (sc := defScope (top 46)) (own := [(("k" : Str), 11)]) (by decide +kernel)) (by decide) (fun _ _ _ _ _ => (dg_one 11 sc__law_begins.nd)) (fun _ _ _ _ _ => (dts_one (dt_w (dw_and (tEq hr (de_ix (de_ix (dv 0) (dv 11)) de_int) (dv 6)) (dw_and1 (tGe (dv 8) (de_ix (dv 1) (dv 11)))))))) (fun _ _ _ _ _ => (de_tup (da_cons (de_ix (de_ix (dv 0) (dv 11)) de_int) (da_cons (xSub (dv 8) (de_ix (dv 1) (dv 11))) da_nil))))))))
    (dss_one (ds_if (dt_w (dw_and (dt_bor 4 (tIs (de_ix (de_ix (dv 4) (dv 6)) (dv 8)) de_non)) (dw_and1 (dt_bor 4 (tEq hr (bLen (E.fre 4) (de_n (dn_lc [(("first" : Str), 12), (("at" : Str), 13)] rfl sc__law_begins.nd (di_seq (dv 9)) (blk_of (N := N__law_begins) (sc := defScope (top 46)) (own := [(("first" : Str), 12), (("at" : Str), 13)]) (by decide +kernel)) (by decide) (fun _ _ _ _ _ => (dg_all rfl sc__law_begins.nd (nm_cons 12 (nm_cons 13 .nil)))) (fun _ _ _ _ _ => (dts_one (tIs (de_ix (de_ix (dv 4) (dv 12)) (dv 13)) de_non))) (fun _ _ _ _ _ => de_int)))) de_int)))))
    (dss_one (ds_lput 4 (de_bor 4 (bMaxA rfl (E.fre 24) (xAdd (de_lst (da_cons de_int da_nil)) (de_n (dn_lc [(("first" : Str), 12), (("at" : Str), 13)] rfl sc__law_begins.nd (di_seq (dv 9)) (blk_of (N := N__law_begins) (sc := defScope (top 46)) (own := [(("first" : Str), 12), (("at" : Str), 13)]) (by decide +kernel)) (by decide) (fun _ _ _ _ _ => (dg_all rfl sc__law_begins.nd (nm_cons 12 (nm_cons 13 .nil)))) (fun _ _ _ _ _ => dts_nil) (fun _ _ _ _ _ => (xAdd (de_ix (de_ix (dv 4) (dv 12)) (dv 13)) (de_ix (dv 2) (dv 12))))))))) (dv 6) (dv 8)))
    dss_nil))))))))
    (dss_one (ds_frz 4 (ds_ret (bTuple (E.fre 9) (de_n (dn_lc [(("row" : Str), 10)] rfl sc__law_begins.nd (di_seq (dv 4)) (blk_of (N := N__law_begins) (sc := defScope (top 46)) (own := [(("row" : Str), 10)]) (by decide +kernel)) (by decide) (fun _ _ _ _ _ => (dg_one 10 sc__law_begins.nd)) (fun _ _ _ _ _ => dts_nil) (fun _ _ _ _ _ => (bTuple (E.fre 9) (dv 10)))))))))))

/-! ### _law_refusal -/
abbrev N__law_refusal : List Str := ["net", "mark", "times", "turns", "k"]
theorem sc__law_refusal : FnScope N__law_refusal ["net", "mark", "times", "turns", "k"] (defScope (top 47)) := ⟨rfl, rfl, rfl, by decide +kernel, rfl, by decide +kernel, by decide +kernel⟩
theorem can__law_refusal (E : Fx K mg base) : Can P w K mg base (MoD K tf) 8 "_law_refusal" 5 m__law_refusal := by
  refine can_mk (ps := ["net", "mark", "times", "turns", "k"]) (E.fun_ 31 (d := d_fn__law_refusal)) (E.glo 65) sc__law_refusal (fun _ _ _ _ _ _ us hl => match us, hl with | [_, _, _, _, _], _ => rfl) fun A outer s H E0 hr => ?_
  have tk := takes_of (X := (cxOf (L2.CX P w) P w K mg base N__law_refusal "_law_refusal" (defScope (top 47)) (He.fAd K ("_law_refusal", none)) (.ref (He.codeOf K ("_law_refusal", none))) A outer s H E0)) rfl rfl rfl rfl
  have hp := passes_of (X := (cxOf (L2.CX P w) P w K mg base N__law_refusal "_law_refusal" (defScope (top 47)) (He.fAd K ("_law_refusal", none)) (.ref (He.codeOf K ("_law_refusal", none))) A outer s H E0)) rfl
  exact (dss_cons (ds_tryM rfl rfl tk (fun _ _ _ tk hp => (dss_one (ds_if (tEq hr (dv 4) de_int)
    (dss_one (ds_drop (de_callC (can_paper_pace E) (hr.mono (by omega)) tk rfl (da_cons (dv 0) (da_cons (dv 1) (da_cons (dv 2) da_nil))) (hn_cons (hn_cons (hn_cons hn_nil))))))
    (dss_one (ds_if (tEq hr (dv 4) de_int)
    (dss_one (ds_drop (de_callC (can_begins E) (hr.mono (by omega)) tk rfl (da_cons (dv 0) (da_cons (dv 1) (da_cons (dv 2) (da_cons (dv 3) da_nil)))) (hn_cons (hn_cons (hn_cons (hn_cons hn_nil)))))))
    (dss_one (ds_drop (de_callC (can_judge_pace E) (hr.mono (by omega)) tk rfl (da_cons (dv 0) (da_cons (dv 1) (da_cons (dv 2) (da_cons de_non da_nil)))) (hn_cons (hn_cons (hn_cons (hn_cons hn_nil))))))))))))
    (.cons ⟨rfl, by decide, .inl (E.glo 41)⟩ (sub_cons (E.exm 64) (sub_cons (E.exm 63) (sub_cons (E.exm 62) (sub_cons (E.exm 61) sub_nil)))) (fun _ _ _ => (dss_one (ds_ret de_str))) (.cons ⟨rfl, by decide, .inl (E.glo 26)⟩ (sub_cons (E.exm 60) (sub_cons (E.exm 59) (sub_cons (E.exm 58) (sub_cons (E.exm 57) sub_nil)))) (fun _ _ _ => (dss_one (ds_ret de_str))) .nil)))
    (dss_one (ds_ret de_str)))

/-! ### Net -/
abbrev N_Net : List Str := ["self", "places", "moves", "names", "place", "move"]
theorem sc_Net : FnScope N_Net ["self", "places", "moves"] (defScope (subSt (top 16) 0)) := ⟨rfl, rfl, rfl, by decide +kernel, rfl, by decide +kernel, by decide +kernel⟩
theorem can_Net (E : Fx K mg base) : New P w K mg base (MoD K tf) 5 "Net" 2 m_Net := by
  refine new_mk (st := (subSt (top 16) 0)) (c := "Net") (ps := ["self", "places", "moves"]) (E.fun_ 32 (d := d_fn_Net)) (E.glo 70) (E.mkr 71) sc_Net rfl (fun _ _ _ _ _ _ us hl => match us, hl with | [_, _, _], _ => rfl) newF_hm fun A outer s H E0 hr => ?_
  have tk := takes_of (X := (cxOf (L2.CX P w) P w K mg base N_Net "Net.__init__" (defScope (subSt (top 16) 0)) (He.fAd K ("Net", some "__init__")) (.ref (He.codeOf K ("Net", some "__init__"))) A outer s H E0)) rfl rfl rfl rfl
  have hp := passes_of (X := (cxOf (L2.CX P w) P w K mg base N_Net "Net.__init__" (defScope (subSt (top 16) 0)) (He.fAd K ("Net", some "__init__")) (.ref (He.codeOf K ("Net", some "__init__"))) A outer s H E0)) rfl
  exact (dss_cons (ds_if (dt_w (dw_or (dt_not (dt_val (de_isi rfl (E.fre 0) bt_isinstance rfl (E.fre 9) bt_tuple (dv 1)))) (dw_or (tLt (bLen (E.fre 4) (dv 1)) de_int) (dw_or1 (tGt (bLen (E.fre 4) (dv 1)) (de_gint (E.int 66)))))))
    (dss_one (ds_raiseE (c := "BadNet") tk (E.glo 67) (E.exc 68)))
    dss_nil)
    (dss_cons (ds_own 3 sc_Net.nd (dn_lst da_nil))
    (dss_cons (ds_for hp rfl (di_seq (dv 1)) (dg_one 4 sc_Net.nd)
    (dss_cons (ds_if (dt_w (dw_or (dt_not (dt_val (de_callC (can_is_name E) (hr.mono (by omega)) tk rfl (da_cons (dv 4) da_nil) (hn_cons hn_nil)))) (dw_or1 (dt_bor 3 (tIn hr (dv 4) (dv 3))))))
    (dss_one (ds_raiseE (c := "BadNet") tk (E.glo 67) (E.exc 68)))
    dss_nil)
    (dss_one (ds_app 3 (dv 4)))))
    (dss_cons (ds_if (dt_w (dw_or (dt_not (dt_val (de_isi rfl (E.fre 0) bt_isinstance rfl (E.fre 9) bt_tuple (dv 2)))) (dw_or1 (tGt (bLen (E.fre 4) (dv 2)) (de_gint (E.int 69))))))
    (dss_one (ds_raiseE (c := "BadNet") tk (E.glo 67) (E.exc 68)))
    dss_nil)
    (dss_cons (ds_for hp rfl (di_seq (dv 2)) (dg_one 5 sc_Net.nd)
    (dss_cons (ds_if (dt_w (dw_or (dt_not (dt_val (de_callC (can_is_move E) (hr.mono (by omega)) tk rfl (da_cons (dv 1) (da_cons (dv 5) da_nil)) (hn_cons (hn_cons hn_nil))))) (dw_or1 (dt_bor 3 (tIn hr (de_ix (dv 5) de_int) (dv 3))))))
    (dss_one (ds_raiseE (c := "BadNet") tk (E.glo 67) (E.exc 68)))
    dss_nil)
    (dss_one (ds_app 3 (de_ix (dv 5) de_int)))))
    (dss_cons (ds_fld 0 (c := "Net") (a := "places") (E.cls 13) (E.noat 14) (dv 1))
    (dss_one (ds_fld 0 (c := "Net") (a := "moves") (E.cls 13) (E.noat 19) (dv 2)))))))))

/-! ### law -/
abbrev N_law : List Str := ["script", "n", "m", "net", "mark", "times", "wrong", "all_rings", "turns", "paper", "ring", "time", "tokens", "way", "other", "heights", "names", "things", "places", "moves", "links", "one", "k", "j"]
theorem sc_law : FnScope N_law ["script"] (defScope (top 48)) := ⟨rfl, rfl, rfl, by decide +kernel, rfl, by decide +kernel, by decide +kernel⟩
theorem ok_law (E : Fx K mg base) {fd : FuncData} {kws : List (Str × V)} (F : FunD K "law" "law" (defArgs (top 48)) (defBody (top 48)) (defScope (top 48)) [] kws (He.fAd K ("law", none)) fd) : FnOk P w K mg base (L2.CX P w) 9 (He.fAd K ("law", none)) fd ["script"] (spD ⟨K, P, w⟩ (MoD K tf) 1 m_law) := by
  refine fn_of_data (N := N_law) F sc_law fun A outer s H E0 hr => ?_
  have tk := takes_of (X := (cxOf (L2.CX P w) P w K mg base N_law "law" (defScope (top 48)) (He.fAd K ("law", none)) (.ref (He.codeOf K ("law", none))) A outer s H E0)) rfl rfl rfl rfl
  have hp := passes_of (X := (cxOf (L2.CX P w) P w K mg base N_law "law" (defScope (top 48)) (He.fAd K ("law", none)) (.ref (He.codeOf K ("law", none))) A outer s H E0)) rfl
  exact (dss_cons (ds_set 1 sc_law.nd (de_callC (can__law_draws E) (hr.mono (by omega)) tk rfl (da_cons (de_callC (can__law_cell E) (hr.mono (by omega)) tk rfl (da_cons (dv 0) (da_cons de_int da_nil)) (hn_cons (hn_cons hn_nil))) (da_cons de_int da_nil)) (hn_cons (hn_cons hn_nil))))
    (dss_cons (ds_set 2 sc_law.nd (de_callC (can__law_draws E) (hr.mono (by omega)) tk rfl (da_cons (de_callC (can__law_cell E) (hr.mono (by omega)) tk rfl (da_cons (dv 0) (da_cons de_int da_nil)) (hn_cons (hn_cons hn_nil))) (da_cons de_int da_nil)) (hn_cons (hn_cons hn_nil))))
    (dss_cons (ds_unp (de_callC (can__law_ring_net E) (hr.mono (by omega)) tk rfl (da_cons (dv 1) da_nil) (hn_cons hn_nil)) (dg_all rfl sc_law.nd (nm_cons 18 (nm_cons 19 (nm_cons 20 .nil)))))
    (dss_cons (ds_set 3 sc_law.nd (de_new (can_Net E) (hr.mono (by omega)) tk rfl (da_cons (dv 18) (da_cons (dv 19) da_nil)) (hn_cons (hn_cons hn_nil))))
    (dss_cons (ds_set 4 sc_law.nd (bTuple (E.fre 9) (de_n (dn_lc [(("k" : Str), 22)] rfl sc_law.nd (di_range1 rfl (E.fre 22) (da_cons (bLen (E.fre 4) (dv 18)) da_nil) (h1 := (hn_cons hn_nil))) (blk_of (N := N_law) (sc := defScope (top 48)) (own := [(("k" : Str), 22)]) (by decide +kernel)) (by decide) (fun _ _ _ _ _ => (dg_one 22 sc_law.nd)) (fun _ _ _ _ _ => dts_nil) (fun _ _ _ _ _ => (xMod (de_ix (dv 1) (xAdd de_int (dv 22))) de_int))))))
    (dss_cons (ds_set 5 sc_law.nd (bTuple (E.fre 9) (de_n (dn_lc [(("k" : Str), 22)] rfl sc_law.nd (di_range1 rfl (E.fre 22) (da_cons (bLen (E.fre 4) (dv 19)) da_nil) (h1 := (hn_cons hn_nil))) (blk_of (N := N_law) (sc := defScope (top 48)) (own := [(("k" : Str), 22)]) (by decide +kernel)) (by decide) (fun _ _ _ _ _ => (dg_one 22 sc_law.nd)) (fun _ _ _ _ _ => dts_nil) (fun _ _ _ _ _ => (xMod (de_ix (dv 2) (dv 22)) de_int))))))
    (dss_cons (ds_set 6 sc_law.nd (de_ix (de_tup (da_cons (xAdd (dv 5) (de_tup (da_cons de_int da_nil))) (da_cons (de_slice (dv 5) (do_some de_int) do_none) (da_cons (bList (E.fre 34) (dv 5)) (da_cons de_non (da_cons (xAdd (de_slice (dv 5) (do_some de_int) do_none) (de_tup (da_cons (xNeg de_int) da_nil))) (da_cons (xAdd (de_slice (dv 5) (do_some de_int) do_none) (de_tup (da_cons de_int da_nil))) (da_cons (xAdd (de_slice (dv 5) (do_some de_int) do_none) (de_tup (da_cons de_bl da_nil))) da_nil)))))))) (xMod (de_ix (dv 2) de_int) de_int)))
    (dss_cons (ds_if (dt_w (dw_or (tNe hr (de_callC (can__law_refusal E) (hr.mono (by omega)) tk rfl (da_cons (dv 3) (da_cons (dv 4) (da_cons (dv 6) (da_cons de_int (da_cons (xMod (de_ix (dv 2) de_int) de_int) da_nil))))) (hn_cons (hn_cons (hn_cons (hn_cons (hn_cons hn_nil)))))) de_str) (dw_or1 (tNe hr (de_callC (can__law_refusal E) (hr.mono (by omega)) tk rfl (da_cons (dv 3) (da_cons (dv 4) (da_cons (dv 5) (da_cons (de_ix (de_tup (da_cons (xNeg de_int) (da_cons de_int (da_cons de_non da_nil)))) (xMod (de_ix (dv 2) de_int) de_int)) (da_cons de_int da_nil))))) (hn_cons (hn_cons (hn_cons (hn_cons (hn_cons hn_nil)))))) de_str))))
    (dss_one (ds_ret de_bl))
    dss_nil)
    (dss_cons (ds_set 7 sc_law.nd (de_callC (can__law_rings E) (hr.mono (by omega)) tk rfl (da_cons (dv 20) da_nil) (hn_cons hn_nil)))
    (dss_cons (ds_if (tGt (bLen (E.fre 4) (de_n (dn_lc [(("way" : Str), 13)] rfl sc_law.nd (di_seq (dv 7)) (blk_of (N := N_law) (sc := defScope (top 48)) (own := [(("way" : Str), 13)]) (by decide +kernel)) (by decide) (fun _ _ _ _ _ => (dg_one 13 sc_law.nd)) (fun _ _ _ _ _ => (dts_one (tEq hr (bSum rfl (E.fre 32) (de_n (dn_lc [(("k" : Str), 22)] rfl sc_law.nd (di_seq (dv 13)) (blk_of (own := [(("k" : Str), 22)]) (by kernel_rfl)) (by decide) (fun _ _ _ _ _ => (dg_one 22 sc_law.nd)) (fun _ _ _ _ _ => dts_nil) (fun _ _ _ _ _ => (de_ix (dv 4) (dv 22)))))) de_int))) (fun _ _ _ _ _ => (dv 13))))) de_int)
    (dss_one (ds_ret (cEq hr (de_callC (can__law_refusal E) (hr.mono (by omega)) tk rfl (da_cons (dv 3) (da_cons (dv 4) (da_cons (dv 5) (da_cons de_int (da_cons (xMod (de_ix (dv 2) de_int) de_int) da_nil))))) (hn_cons (hn_cons (hn_cons (hn_cons (hn_cons hn_nil)))))) de_str)))
    dss_nil)
    (dss_cons (ds_set 8 sc_law.nd (xMod (de_ix (dv 2) de_int) de_int))
    (dss_cons (ds_if (tNe hr (de_callC (can_begins E) (hr.mono (by omega)) tk rfl (da_cons (dv 3) (da_cons (dv 4) (da_cons (dv 5) (da_cons (dv 8) da_nil)))) (hn_cons (hn_cons (hn_cons (hn_cons hn_nil))))) (de_callC (can__law_begins E) (hr.mono (by omega)) tk rfl (da_cons (dv 20) (da_cons (dv 4) (da_cons (dv 5) (da_cons (dv 8) da_nil)))) (hn_cons (hn_cons (hn_cons (hn_cons hn_nil))))))
    (dss_one (ds_ret de_bl))
    dss_nil)
    (dss_cons (ds_set 9 sc_law.nd (de_callC (can_paper_pace E) (hr.mono (by omega)) tk rfl (da_cons (dv 3) (da_cons (dv 4) (da_cons (dv 5) da_nil))) (hn_cons (hn_cons (hn_cons hn_nil)))))
    (dss_cons (ds_if (dt_w (dw_or (tIs (dv 9) de_non) (dw_or1 (tEq hr (bLen (E.fre 4) (dv 7)) de_int))))
    (dss_one (ds_ret (de_and (cIs (dv 9) de_non) (de_one (cEq hr (bLen (E.fre 4) (dv 7)) de_int)))))
    dss_nil)
    (dss_cons (ds_if (dt_w (dw_or (tNe hr (de_ix (dv 9) de_int) de_str) (dw_or1 (dt_not (dt_val (de_callC (can_judge_pace E) (hr.mono (by omega)) tk rfl (da_cons (dv 3) (da_cons (dv 4) (da_cons (dv 5) (da_cons (dv 9) da_nil)))) (hn_cons (hn_cons (hn_cons (hn_cons hn_nil))))))))))
    (dss_one (ds_ret de_bl))
    dss_nil)
    (dss_cons (by first | exact (ds_setLc 10 [(("one" : Str), 21)] rfl sc_law.nd (di_seq (de_ix (dv 9) de_int)) (blk_of (N := N_law) (sc := defScope (top 48)) (own := [(("one" : Str), 21)]) (by decide +kernel)) (by decide) (fun _ _ _ _ _ => (dg_one 21 sc_law.nd)) (fun _ _ _ _ _ => dts_nil) (fun _ _ _ _ _ => (mIndex hr (dv 18) (dv 21)))) | exact (ds_set 10 sc_law.nd (de_n (dn_lc [(("one" : Str), 21)] rfl sc_law.nd (di_seq (de_ix (dv 9) de_int)) (blk_of (N := N_law) (sc := defScope (top 48)) (own := [(("one" : Str), 21)]) (by decide +kernel)) (by decide) (fun _ _ _ _ _ => (dg_one 21 sc_law.nd)) (fun _ _ _ _ _ => dts_nil) (fun _ _ _ _ _ => (mIndex hr (dv 18) (dv 21)))))))
    (dss_cons (ds_if (dt_not (dt_val (de_callC (can__law_stands E) (hr.mono (by omega)) tk rfl (da_cons (dv 20) (da_cons (dv 4) (da_cons (dv 5) (da_cons (dv 10) (da_cons (de_ix (dv 9) de_int) da_nil))))) (hn_cons (hn_cons (hn_cons (hn_cons (hn_cons hn_nil))))))))
    (dss_one (ds_ret de_bl))
    dss_nil)
    (dss_cons (ds_set 11 sc_law.nd (bSum rfl (E.fre 32) (de_n (dn_lc [(("k" : Str), 22)] rfl sc_law.nd (di_seq (dv 10)) (blk_of (N := N_law) (sc := defScope (top 48)) (own := [(("k" : Str), 22)]) (by decide +kernel)) (by decide) (fun _ _ _ _ _ => (dg_one 22 sc_law.nd)) (fun _ _ _ _ _ => dts_nil) (fun _ _ _ _ _ => (de_ix (dv 5) (de_ix (de_ix (dv 20) (dv 22)) de_int)))))))
    (dss_cons (ds_set 12 sc_law.nd (bSum rfl (E.fre 32) (de_n (dn_lc [(("k" : Str), 22)] rfl sc_law.nd (di_seq (dv 10)) (blk_of (N := N_law) (sc := defScope (top 48)) (own := [(("k" : Str), 22)]) (by decide +kernel)) (by decide) (fun _ _ _ _ _ => (dg_one 22 sc_law.nd)) (fun _ _ _ _ _ => dts_nil) (fun _ _ _ _ _ => (de_ix (dv 4) (dv 22)))))))
    (dss_cons (ds_for hp rfl (di_seq (dv 7)) (dg_one 13 sc_law.nd)
    (dss_one (ds_if (tGt (xMul (bSum rfl (E.fre 32) (de_n (dn_lc [(("k" : Str), 22)] rfl sc_law.nd (di_seq (dv 13)) (blk_of (N := N_law) (sc := defScope (top 48)) (own := [(("k" : Str), 22)]) (by decide +kernel)) (by decide) (fun _ _ _ _ _ => (dg_one 22 sc_law.nd)) (fun _ _ _ _ _ => dts_nil) (fun _ _ _ _ _ => (de_ix (dv 5) (de_ix (de_ix (dv 20) (dv 22)) de_int)))))) (dv 12)) (xMul (dv 11) (bSum rfl (E.fre 32) (de_n (dn_lc [(("k" : Str), 22)] rfl sc_law.nd (di_seq (dv 13)) (blk_of (N := N_law) (sc := defScope (top 48)) (own := [(("k" : Str), 22)]) (by decide +kernel)) (by decide) (fun _ _ _ _ _ => (dg_one 22 sc_law.nd)) (fun _ _ _ _ _ => dts_nil) (fun _ _ _ _ _ => (de_ix (dv 4) (dv 22))))))))
    (dss_one (ds_ret de_bl))
    dss_nil)))
    (dss_cons (ds_set 14 sc_law.nd (de_ix (dv 7) (xMod (de_ix (dv 2) de_int) (bLen (E.fre 4) (dv 7)))))
    (dss_cons (ds_set 15 sc_law.nd (de_if (tEq hr (xMod (de_ix (dv 2) de_int) de_int) de_int) (bTuple (E.fre 9) (de_n (dn_lc [(("j" : Str), 23)] rfl sc_law.nd (di_range1 rfl (E.fre 22) (da_cons (bLen (E.fre 4) (dv 19)) da_nil) (h1 := (hn_cons hn_nil))) (blk_of (N := N_law) (sc := defScope (top 48)) (own := [(("j" : Str), 23)]) (by decide +kernel)) (by decide) (fun _ _ _ _ _ => (dg_one 23 sc_law.nd)) (fun _ _ _ _ _ => dts_nil) (fun _ _ _ _ _ => (xSub (xAdd (de_ix (de_ix (dv 9) de_int) (dv 23)) (xMod (de_ix (dv 2) (xAdd de_int (dv 23))) de_int)) de_int))))) (de_ix (dv 9) de_int)))
    (dss_cons (ds_set 16 sc_law.nd (bTuple (E.fre 9) (de_n (dn_lc [(("k" : Str), 22)] rfl sc_law.nd (di_seq (dv 14)) (blk_of (N := N_law) (sc := defScope (top 48)) (own := [(("k" : Str), 22)]) (by decide +kernel)) (by decide) (fun _ _ _ _ _ => (dg_one 22 sc_law.nd)) (fun _ _ _ _ _ => dts_nil) (fun _ _ _ _ _ => (de_ix (dv 18) (dv 22)))))))
    (dss_cons (ds_if (tNe hr (de_callC (can_judge_pace E) (hr.mono (by omega)) tk rfl (da_cons (dv 3) (da_cons (dv 4) (da_cons (dv 5) (da_cons (de_tup (da_cons de_str (da_cons (dv 16) (da_cons (dv 15) da_nil)))) da_nil)))) (hn_cons (hn_cons (hn_cons (hn_cons hn_nil))))) (de_callC (can__law_stands E) (hr.mono (by omega)) tk rfl (da_cons (dv 20) (da_cons (dv 4) (da_cons (dv 5) (da_cons (dv 14) (da_cons (dv 15) da_nil))))) (hn_cons (hn_cons (hn_cons (hn_cons (hn_cons hn_nil)))))))
    (dss_one (ds_ret de_bl))
    dss_nil)
    (dss_cons (ds_set 17 sc_law.nd (de_tup (da_cons de_non (da_cons (de_tup da_nil) (da_cons (de_tup (da_cons de_str (da_cons (de_ix (dv 9) de_int) da_nil))) (da_cons (de_tup (da_cons de_str (da_cons (de_ix (dv 9) de_int) (da_cons (bList (E.fre 34) (de_ix (dv 9) de_int)) da_nil)))) (da_cons (de_tup (da_cons de_str (da_cons (de_ix (dv 9) de_int) (da_cons (xAdd (de_ix (dv 9) de_int) (de_tup (da_cons de_int da_nil))) da_nil)))) (da_cons (de_tup (da_cons de_str (da_cons (de_tup da_nil) (da_cons (de_ix (dv 9) de_int) da_nil)))) (da_cons (de_lst (da_cons de_str (da_cons (de_ix (dv 9) de_int) (da_cons (de_ix (dv 9) de_int) da_nil)))) (da_cons (de_tup (da_cons de_str (da_cons (de_tup (da_cons de_str da_nil)) (da_cons (de_ix (dv 9) de_int) da_nil)))) (da_cons (de_tup (da_cons de_str (da_cons (de_ix (dv 9) de_int) (da_cons de_non da_nil)))) (da_cons (de_tup (da_cons de_str (da_cons (de_ix (dv 9) de_int) (da_cons (bTuple (E.fre 9) (de_n (dn_lc [(("one" : Str), 21)] rfl sc_law.nd (di_seq (de_ix (dv 9) de_int)) (blk_of (N := N_law) (sc := defScope (top 48)) (own := [(("one" : Str), 21)]) (by decide +kernel)) (by decide) (fun _ _ _ _ _ => (dg_one 21 sc_law.nd)) (fun _ _ _ _ _ => dts_nil) (fun _ _ _ _ _ => de_bl)))) da_nil)))) (da_cons (de_tup (da_cons de_str (da_cons (de_ix (dv 9) de_int) (da_cons (de_ix (dv 9) de_int) da_nil)))) da_nil)))))))))))))
    (dss_one (ds_ret (de_not (de_callC (can_judge_pace E) (hr.mono (by omega)) tk rfl (da_cons (dv 3) (da_cons (dv 4) (da_cons (dv 5) (da_cons (de_ix (dv 17) (xMod (de_ix (dv 2) de_int) de_int)) da_nil)))) (hn_cons (hn_cons (hn_cons (hn_cons hn_nil)))))))))))))))))))))))))))))))))
end
end K53

set_option Elab.async false
set_option linter.all false
set_option maxRecDepth 100000
set_option maxHeartbeats 0
namespace K53
open PySem PySem.Spec PyProof.Rows L2 Dl
abbrev RR : PySem.W.OpenRow := PySem.W.OpenLaw.row PySem.Challenge.rw_tokenworks_k53_paces_of_rings
abbrev hk : PySem.W.Hook := He.hookX 6 fa fn [] tf ex
def ob (s : PySem.W.SharedT) : He.AlX := He.obsX 6 fa fn [] tf ex (HandSHeadRun.getT s)
theorem ob_eq (s : PySem.W.SharedT) : ob s = hk.obs s.abs := He.obsX_eq (HandSHeadRun.getT_eq s)
def loose : List Str := (["__name__", "NetError", "BadNet", "BadMark", "BadNumbers", "NotPlain", "MOST_PLACES", "MOST_MOVES", "MOST_WEIGHT", "LETTERS", "SIGNS", "is_number", "is_name", "is_side", "is_move", "Net", "check_mark", "row_of", "rows_of", "is_paper", "links_of", "is_marked", "check_marked", "rings", "is_new_move", "tokens_on", "order_by_empty", "empty_ring", "paper_turns", "is_ring_of"] : List Str) ++ (["check_times", "time_of", "slowest", "heights_for", "paper_pace", "judge_pace", "begins", "_law_cell", "_law_draws", "_law_ring_net", "_law_rings", "_law_stands", "_law_begins", "_law_refusal"] : List Str)
theorem run (w : World) : HandSHeadRun.RunEq RR (PySem.W.view RR.prog [48]) hk ob 4000 loose w := by
  intro os
  kernel_rfl
end K53

set_option Elab.async false
set_option linter.all false
set_option maxRecDepth 100000
set_option maxHeartbeats 1000000
/-! Nets as plain data: names, sides, moves, nets, marks. -/
namespace Sh
open PySem Dl

/-! ### numbers -/
def numB (low : Int) : D → Bool
  | .int i => decide (low ≤ i)
  | _ => false
theorem number_ok (d : D) (low : Int) {t : String} (h : tyN d = some t) : m_is_number [d, .int low] = .ok (.bl (numB low d)) := by
  unfold m_is_number runF b_is_number
  simp only [initE, List.map_cons, List.map_nil, List.length_cons, List.length_nil, Nat.reduceAdd, Nat.sub_self, List.replicate_zero, List.append_nil, ev_sRet, ev_eAnd, ev_eIsi', ev_eV0, ev_bind_ok, isi_int d h, ev_ofO_some, andK_bl, ev_e2, ev_eC, notB_eq, ev_eVs]
  cases d with
  | bl b => cases b <;> simp [numB, isIB]
  | _ => first | (simp only [tyN] at h; cases h; done) | simp [numB, isIB]
theorem number_int (i low : Int) : m_is_number [.int i, .int low] = .ok (.bl (decide (low ≤ i))) := number_ok _ _ rfl
/-! ### names -/
def lets : List Nat := [97,98,99,100,101,102,103,104,105,106,107,108,109,110,111,112,113,114,115,116,117,118,119,120,121,122]
def sgs : List Nat := lets ++ [48,49,50,51,52,53,54,55,56,57]
theorem s_lets : (Str.ofString "abcdefghijklmnopqrstuvwxyz") = Tx lets := by rfl
theorem s_sgs : (Str.ofString "abcdefghijklmnopqrstuvwxyz0123456789") = Tx sgs := by rfl
def isNm : List Nat → Bool
  | [] => false
  | c :: r => decide ((c :: r).length ≤ 8) && decide (c ∈ lets) && (c :: r).all fun c => decide (c ∈ sgs)
def nmS (x : Str) : Bool := isNm x.cps.toList
theorem nm_text (w : List Nat) (h : w.length ≤ 1000000) : m_is_name [.str (Tx w)] = .ok (.bl (isNm w)) := by
  have hz : w.length ≤ sizeLine := by rw [sz_eq]; omega
  unfold m_is_name runF b_is_name y1_is_name
  have hi : ∀ d, initE 2 [d] = [.val d, .no] := fun _ => rfl
  cases w with
  | nil => simp [hi, len_S hz, isNm, tyN, kit_str_str]
  | cons c r =>
    have e0 : ixD (.str (Tx (c :: r))) (.int 0) = some (.str (Tx [c])) := ix_S hz 0
    have hl := len_S hz
    have hl' : lenD [.str (Tx (c :: r))] = some (.int ((r.length : Int) + 1)) := hl
    have h1'' : ¬ ((r.length : Int) + 1 < 1) := by omega
    by_cases h1 : r.length + 1 ≤ 8
    · have h1' : ¬ (8 < ((r.length : Int) + 1)) := by omega
      by_cases h2 : c ∈ lets
      · have g : genF false (.one 1) tYesD (e2 inD (eV 1) (eC (.str (Tx sgs)))) (wipeE [.val (.str (Tx (c :: r))), .no] [1]) ((c :: r).map fun c => .str (Tx [c])) = .ok (.bl ((c :: r).all fun c => decide (c ∈ sgs))) := by
          refine genF_enc_all (enc := fun c => D.str (Tx [c])) fun b _ => ⟨_, rfl, rfl, ?_⟩
          simp [in_S1]
        simp [hi, hl', isNm, e0, s_lets, nin_S1, h2, tyN, kit_str_str, h1', h1'', itD_str, s_sgs, -List.map_cons, -wp_cons, -wp_nil, g, h1]
      · simp [hi, hl', isNm, e0, s_lets, nin_S1, h2, tyN, kit_str_str, h1', h1'']
    · have h1' : (8 < ((r.length : Int) + 1)) := by omega
      simp [hi, hl', isNm, tyN, kit_str_str, h1', h1'', h1]
theorem nm_str (x : Str) (h : x.length ≤ 1000000) : m_is_name [.str x] = .ok (.bl (nmS x)) := by
  have := nm_text x.cps.toList (by simpa [Str.length] using h)
  rw [S_eta] at this
  exact this
theorem nm_no (d : D) {t : String} (h : tyN d = some t) (hs : ∀ x, d ≠ .str x) : m_is_name [d] = .ok (.bl false) := by
  unfold m_is_name runF b_is_name
  have hi : initE 2 [d] = [.val d, .no] := rfl
  rw [hi]
  have e : isS d = false := by cases d <;> first | rfl | exact absurd rfl (hs _)
  simp [isi_str d h, e]
theorem nm_len {x : Str} (h : nmS x = true) : x.length ≤ 8 := by
  unfold nmS at h
  have e : x.length = x.cps.toList.length := by simp [Str.length]
  rw [e]
  cases hx : x.cps.toList with
  | nil => simp
  | cons c r =>
    rw [hx] at h
    simp only [isNm, Bool.and_eq_true, decide_eq_true_eq] at h
    exact h.1.1
theorem sgs_lt : ∀ c ∈ sgs, c < 0x110000 := by decide
theorem nm_good {x : Str} (h : nmS x = true) : goodS x = true := by
  unfold nmS at h
  unfold goodS
  rw [← Array.all_toList]
  cases hx : x.cps.toList with
  | nil => rfl
  | cons c r =>
    rw [hx] at h
    simp only [isNm, Bool.and_eq_true, List.all_eq_true, decide_eq_true_eq] at h
    rw [List.all_eq_true]
    intro a ha
    rw [decide_eq_true_eq]
    exact sgs_lt a (h.2 a ha)
theorem name_ok {x : Str} (h : nmS x = true) : m_is_name [.str x] = .ok (.bl true) := by
  rw [nm_str x (by have := nm_len h; omega), h]

/-! ### sides, moves, nets -/
abbrev Sd := List (Str × Nat)
abbrev pairD (x : Str × Nat) : D := .tup [.str x.1, .int x.2]
abbrev sdD (s : Sd) : D := .tup (s.map pairD)
abbrev Mv := Str × Sd × Sd
abbrev mvD (m : Mv) : D := .tup [.str m.1, sdD m.2.1, sdD m.2.2]
abbrev plD (ps : List Str) : D := .tup (stl ps)
abbrev msD (ms : List Mv) : D := .tup (ms.map mvD)
abbrev netD (ps : List Str) (ms : List Mv) : D := .obj "Net" ["places", "moves"] [plD ps, msD ms]
structure PlOk (ps : List Str) : Prop where
  nm : ∀ x ∈ ps, nmS x = true
  nd : ps.Nodup
  pos : 1 ≤ ps.length
  few : ps.length ≤ 8
def SdOk (ps : List Str) (s : Sd) : Prop := (∀ p ∈ s, p.1 ∈ ps ∧ 1 ≤ p.2 ∧ p.2 ≤ 9) ∧ s.Pairwise fun a b => ps.idxOf a.1 < ps.idxOf b.1
structure NetOk (ps : List Str) (ms : List Mv) : Prop where
  pl : PlOk ps
  mv : ∀ m ∈ ms, nmS m.1 = true ∧ SdOk ps m.2.1 ∧ SdOk ps m.2.2
  nd : (ps ++ ms.map (·.1)).Nodup
  few : ms.length ≤ 9
theorem gd_names {k : Nat} {ps : List Str} (h : ∀ x ∈ ps, nmS x = true) : ∀ y ∈ stl ps, y.gd k := gd_stl fun x hx => nm_good (h x hx)
theorem at_place {ps : List Str} (h : ∀ x ∈ ps, nmS x = true) {x : Str} (hx : x ∈ ps) : idxD (plD ps) [.str x] = some (.int (ps.idxOf x : Nat)) := by
  rw [idx_tup (gd_str (nm_good (h x hx))) (gd_names h), if_pos ((mem_enc str_inj).mpr hx), idx_enc str_inj]
theorem side_loop {ps : List Str} (hp : PlOk ps) (x1 : S) : ∀ (s : Sd) (last : Int) (x3 x4 : S), SdOk ps s → (∀ p ∈ s, last < (ps.idxOf p.1 : Nat)) →
    ∃ l' y3 y4, forF (.one 3) l1_is_side (s.map pairD) [.val (plD ps), x1, .val (.int last), x3, x4] = .next [.val (plD ps), x1, .val (.int l'), y3, y4]
  | [], last, x3, x4, _, _ => ⟨last, x3, x4, rfl⟩
  | p :: s, last, x3, x4, hs, hl => by
    have h0 := hs.1 p List.mem_cons_self
    have hpw := List.pairwise_cons.mp hs.2
    obtain ⟨l', y3, y4, ih⟩ := side_loop hp x1 s (ps.idxOf p.1 : Nat) (.val (pairD p)) (.val (.int (ps.idxOf p.1 : Nat))) ⟨fun q hq => hs.1 q (List.mem_cons_of_mem _ hq), hpw.2⟩ (fun q hq => by have := hpw.1 q hq; omega)
    have hnm := hp.nm p.1 h0.1
    have hi := at_place hp.nm h0.1
    have hin : ninD (.str p.1) (plD ps) = some (.bl false) := by
      rw [nin_tup (gd_str (nm_good hnm)) (gd_names hp.nm)]
      simp [mem_enc (enc := D.str) str_inj, h0.1]
    have hlt := hl p List.mem_cons_self
    have hix0 : ixD (pairD p) (.int 0) = some (.str p.1) := rfl
    have hix1 : ixD (pairD p) (.int 1) = some (.int p.2) := rfl
    have hne : neD (.int 2) (.int 2) = some (.bl false) := by rw [ne_int]; rfl
    have h1 : ¬ (((ps.idxOf p.1 : Nat) : Int) ≤ last) := by omega
    have h2 : (1 : Int) ≤ (p.2 : Nat) := by omega
    have h3 : ¬ ((9 : Int) < (p.2 : Nat)) := by omega
    refine ⟨l', y3, y4, ?_⟩
    simp only [List.map_cons, forF, put_one, List.set_cons_succ, List.set_cons_zero]
    have hb : l1_is_side [.val (plD ps), x1, .val (.int last), .val (pairD p), x4] = .next [.val (plD ps), x1, .val (.int (ps.idxOf p.1 : Nat)), .val (pairD p), .val (.int (ps.idxOf p.1 : Nat))] := by
      unfold l1_is_side
      simp [isi_tuple (pairD p) rfl, isT, hix0, name_ok hnm, hin, hi, h1, hix1, number_int, h2, h3]
    rw [hb]
    exact ih
theorem side_ok {ps : List Str} (hp : PlOk ps) {s : Sd} (hs : SdOk ps s) : m_is_side [plD ps, sdD s] = .ok (.bl true) := by
  obtain ⟨l', y3, y4, h⟩ := side_loop hp (.val (sdD s)) s (-1) .no .no hs (fun p _ => by omega)
  unfold m_is_side runF b_is_side
  have hi : initE 5 [plD ps, sdD s] = [.val (plD ps), .val (sdD s), .no, .no, .no] := rfl
  rw [hi]
  simp only [ev_sSeq, ev_sIf, ev_tNot, ev_tB1, ev_eIsi', ev_eVs, ev_eV0, ev_bind_ok, isi_tuple (sdD s) rfl, isT, ev_ofO_some, blR_bl, Bool.not_true, Bool.false_eq_true, if_false, ev_bindF_ok, ev_sNext, ev_sSet, ev_e1, ev_eC, neg_int, List.set_cons_succ, List.set_cons_zero, ev_sFor, ev_iSeq, itD_tup, h, ev_sRet]
theorem move_ok {ps : List Str} (hp : PlOk ps) {m : Mv} (h0 : nmS m.1 = true) (h1 : SdOk ps m.2.1) (h2 : SdOk ps m.2.2) : m_is_move [plD ps, mvD m] = .ok (.bl true) := by
  unfold m_is_move runF b_is_move
  have hi : initE 2 [plD ps, mvD m] = [.val (plD ps), .val (mvD m)] := rfl
  rw [hi]
  have hix0 : ixD (mvD m) (.int 0) = some (.str m.1) := rfl
  have hix1 : ixD (mvD m) (.int 1) = some (sdD m.2.1) := rfl
  have hix2 : ixD (mvD m) (.int 2) = some (sdD m.2.2) := rfl
  simp [isi_tuple (mvD m) rfl, isT, ne_int, hix0, hix1, hix2, name_ok h0, side_ok hp h1, side_ok hp h2]
theorem names_loop {e1 e2 e5 : S} : ∀ (l done : List Str) (x4 : S) (e0 : S), (∀ x ∈ done ++ l, nmS x = true) → (done ++ l).Nodup → (done ++ l).length ≤ 100 →
    ∃ y4, forF (.one 4) l1_Net (stl l) [e0, e1, e2, .own (.lst (stl done)), x4, e5] = .next [e0, e1, e2, .own (.lst (stl (done ++ l))), y4, e5]
  | [], done, x4, e0, _, _, _ => ⟨x4, by rw [List.append_nil]; rfl⟩
  | x :: l, done, x4, e0, h1, h2, h3 => by
    obtain ⟨y4, ih⟩ := names_loop (e1 := e1) (e2 := e2) (e5 := e5) l (done ++ [x]) (.val (.str x)) e0 (by simpa using h1) (by simpa using h2) (by simpa using h3)
    refine ⟨y4, ?_⟩
    have hx : nmS x = true := h1 x (by simp)
    have hnin : x ∉ done := fun z => by
      rw [List.nodup_append] at h2
      exact h2.2.2 x z x List.mem_cons_self rfl
    have hin : inD (.str x) (.lst (stl done)) = some (.bl false) := by
      rw [in_lst (gd_str (nm_good hx)) (gd_names fun z hz => h1 z (List.mem_append_left _ hz))]
      simp [mem_enc (enc := D.str) str_inj, hnin]
    have hz : (stl done).length < 16777216 := by
      rw [List.length_append] at h3
      simp only [List.length_map]; omega
    have hb : l1_Net [e0, e1, e2, .own (.lst (stl done)), .val (.str x), e5] = .next [e0, e1, e2, .own (.lst (stl (done ++ [x]))), .val (.str x), e5] := by
      unfold l1_Net
      simp only [ev_sSeq, ev_sIf, ev_tOr, ev_tNot, ev_tB1, ev_eCall, ev_aCons, ev_aNil, ev_eVs, ev_eV0, ev_bind_ok, name_ok hx, blR_bl, Bool.not_true, Bool.false_eq_true, if_false, ev_tBor, fz_succ, fz_own, od_lst, ev_e2, hin, ev_ofO_some, ev_bindF_ok, ev_sNext]
      rw [ev_sApp (ds := stl done) _ _ rfl hz]
      simp [stl]
    show forF _ _ (D.str x :: stl l) _ = _
    simp only [forF, put_one, List.set_cons_succ, List.set_cons_zero, hb]
    simpa using ih
theorem moves_loop {e2 x4 : S} {ps : List Str} (hp : PlOk ps) : ∀ (l : List Mv) (done : List Str) (x5 : S) (e0 : S), (∀ m ∈ l, nmS m.1 = true ∧ SdOk ps m.2.1 ∧ SdOk ps m.2.2) → (∀ x ∈ done, nmS x = true) → (done ++ l.map (·.1)).Nodup → (done ++ l.map (·.1)).length ≤ 100 →
    ∃ y5, forF (.one 5) l2_Net (l.map mvD) [e0, .val (plD ps), e2, .own (.lst (stl done)), x4, x5] = .next [e0, .val (plD ps), e2, .own (.lst (stl (done ++ l.map (·.1)))), x4, y5]
  | [], done, x5, e0, _, _, _, _ => ⟨x5, by rw [List.map_nil, List.map_nil, List.append_nil]; rfl⟩
  | m :: l, done, x5, e0, h1, h2, h3, h4 => by
    have h0 := h1 m List.mem_cons_self
    obtain ⟨y5, ih⟩ := moves_loop (e2 := e2) (x4 := x4) hp l (done ++ [m.1]) (.val (mvD m)) e0 (fun k hk => h1 k (List.mem_cons_of_mem _ hk)) (fun x hx => by
      rcases List.mem_append.mp hx with z | z
      · exact h2 x z
      · rw [List.mem_singleton.mp z]; exact h0.1) (by simpa using h3) (by simpa using h4)
    refine ⟨y5, ?_⟩
    have hnin : m.1 ∉ done := fun z => by
      rw [List.nodup_append] at h3
      exact h3.2.2 m.1 z m.1 List.mem_cons_self rfl
    have hin : inD (.str m.1) (.lst (stl done)) = some (.bl false) := by
      rw [in_lst (gd_str (nm_good h0.1)) (gd_names h2)]
      simp [mem_enc (enc := D.str) str_inj, hnin]
    have hz : (stl done).length < 16777216 := by
      rw [List.length_append] at h4
      simp only [List.length_map]; omega
    have hix0 : ixD (mvD m) (.int 0) = some (.str m.1) := rfl
    have hb : l2_Net [e0, .val (plD ps), e2, .own (.lst (stl done)), x4, .val (mvD m)] = .next [e0, .val (plD ps), e2, .own (.lst (stl (done ++ [m.1]))), x4, .val (mvD m)] := by
      unfold l2_Net
      simp only [ev_sSeq, ev_sIf, ev_tOr, ev_tNot, ev_tB1, ev_eCall, ev_aCons, ev_aNil, ev_eVs, ev_eV0, ev_bind_ok, move_ok hp h0.1 h0.2.1 h0.2.2, blR_bl, Bool.not_true, Bool.false_eq_true, if_false, ev_tBor, fz_succ, fz_own, od_lst, ev_e2, ev_eC, hix0, hin, ev_ofO_some, ev_bindF_ok, ev_sNext]
      rw [ev_sApp (ds := stl done) _ _ rfl hz]
      simp [stl, hix0]
    simp only [List.map_cons, forF, put_one, List.set_cons_succ, List.set_cons_zero, hb]
    simpa using ih
theorem net_ok {ps : List Str} {ms : List Mv} (h : NetOk ps ms) : m_Net [plD ps, msD ms] = .ok (netD ps ms) := by
  unfold m_Net
  refine newF_ok fun x => ?_
  have hi : initN 6 "Net" x [plD ps, msD ms] = [.own (.ins "Net" x [] []), .val (plD ps), .val (msD ms), .no, .no, .no] := rfl
  rw [hi]
  obtain ⟨y4, l1⟩ := names_loop (e1 := .val (plD ps)) (e2 := .val (msD ms)) (e5 := .no) ps [] .no (.own (.ins "Net" x [] [])) (by simpa using h.pl.nm) (by simpa using h.pl.nd) (by have := h.pl.few; simpa using (by omega : ps.length ≤ 100))
  obtain ⟨y5, l2⟩ := moves_loop (e2 := .val (msD ms)) (x4 := y4) h.pl ms ps .no (.own (.ins "Net" x [] [])) h.mv h.pl.nm h.nd (by have := h.pl.few; have := h.few; rw [List.length_append, List.length_map]; omega)
  rw [List.nil_append] at l1
  have h1 : ¬ ((ps.length : Int) < 1) := by have := h.pl.pos; omega
  have h2 : ¬ (8 < (ps.length : Int)) := by have := h.pl.few; omega
  have h3 : ¬ (9 < (ms.length : Int)) := by have := h.few; omega
  refine ⟨[.own (.ins "Net" x ["places", "moves"] [plD ps, msD ms]), .val (plD ps), .val (msD ms), .own (.lst (stl (ps ++ ms.map (·.1)))), y4, y5], _, _, ?_, rfl, rfl⟩
  unfold b_Net
  have l1' : forF (.one 4) l1_Net (stl ps) [.own (.ins "Net" x [] []), .val (plD ps), .val (msD ms), .own (.lst []), .no, .no] = _ := l1
  simp only [ev_sSeq, ev_sIf, ev_tOr, ev_tNot, ev_tB1, ev_eIsi', ev_eVs, ev_eV0, ev_bind_ok, isi_tuple (plD ps) rfl, isi_tuple (msD ms) rfl, isT, ev_ofO_some, blR_bl, Bool.not_true, Bool.false_eq_true, if_false, ev_e2, ev_eB, ev_aCons, ev_aNil, len_tup, ev_eC, List.length_map, lt_int, gt_int, h1, h2, h3, decide_false, ev_bindF_ok, ev_sNext, ev_sOwn, ev_nLst, List.length_nil, Nat.zero_le, if_true, List.set_cons_succ, List.set_cons_zero, ev_sFor, ev_iSeq, itD_tup, l1', l2]
  rfl
end Sh

set_option Elab.async false
set_option linter.all false
set_option maxRecDepth 100000
set_option maxHeartbeats 2000000
/-! Plain facts: members each once, sorted names, sorted data. -/
namespace Dl
open PySem L2 PySem.W PyProof.Rows
local macro_rules | `(tactic| simp_arith [$ts,*]) => `(tactic| simp only [ev_bind_ok, ev_bind_exc, ev_bindF_ok, ev_bindF_exc, ev_sNext, ev_sSeq, ev_sIf, ev_sRet, ev_sSet, ev_sOwn, ev_sDrop, ev_sRaise, ev_sFrz, ev_sUnp, ev_sFor, ev_eC, Dl.ev_e1, Dl.ev_e2, ev_eB, ev_eCall, ev_aNil, ev_aCons, ev_eIf, blR_bl, ev_tB1, ev_tAnd, ev_tOr, andK_bl, orK_bl, notK_bl, ev_eAnd, ev_eOr, ev_eNot, ev_tNot, ev_tYes, ev_oNone, ev_oSome, ev_eSl, ev_iSeq, ev_iRng, ev_eN, ev_ofO_some, ev_eV0, ev_eVs, lt_int, le_int, gt_int, ge_int, add_int, sub_int, iadd_int, len_tup, len_lst, eq_int, ne_int, itD_tup, itD_lst, put_one, fz_nil, fz_val, fz_no, fz_own, fz_succ, od_lst, od_lol, od_dk, od_dt, odict_lst, odict_dk, odict_dt, wp_nil, wp_cons, sa_nil, sa_cons, put_all, ev_eTup', ev_eLst', ev_nLst, ev_nLc, ev_eGen', ev_tBor, ev_eBor, ev_sPar, ev_eM, ev_eM0, ev_eCallM, ev_aSnoc, ok_tup, ok_lst, ok_str, ev_tIf, notB_eq, isB_eq, isN_eq, notN_eq, neg_int, tupD_lst, tupD_tup, listD_lst, listD_tup, pure_int, pure_bl, pure_str, pure_non, pureL_int, ev_eIsi, addD_lst, addD_tup, ix_t0, ix_t1, ix_t2, ix_l0, ix_l1, ix_l2, isi_tt, isi_ss, isT_tup, isS_str, List.set_cons_succ, List.set_cons_zero, List.length_cons, List.length_nil, Nat.reduceAdd, Nat.reduceLeDiff, Nat.zero_add, Nat.zero_le, if_true, if_false, Bool.false_eq_true, decide_true, decide_false, Bool.not_true, Bool.not_false, Bool.true_or, Bool.false_or, Bool.or_true, Bool.or_false, Bool.true_and, Bool.false_and, Bool.and_true, Bool.and_false, Int.cast_ofNat_Int, Int.reduceEq, Int.reduceLT, Int.reduceLE, Int.reduceNeg, reduceCtorEq, List.cons_append, List.nil_append, eq_of, ne_of, String.reduceEq, $ts,*])
/-! ### each once -/
section
variable {α : Type} [DecidableEq α]
theorem perm_nd {l m : List α} (hl : l.Nodup) (hm : m.Nodup) (h : ∀ x, x ∈ l ↔ x ∈ m) : l.Perm m := by
  induction l generalizing m with
  | nil =>
    cases m with
    | nil => exact .refl _
    | cons y m => exact absurd ((h y).mpr List.mem_cons_self) (by simp)
  | cons x l ih =>
    have hx : x ∈ m := (h x).mp List.mem_cons_self
    obtain ⟨h1, h2⟩ := List.nodup_cons.mp hl
    have hp : m.Perm (x :: m.erase x) := List.perm_cons_erase hx
    have hm2 := hp.nodup_iff.mp hm
    obtain ⟨g1, g2⟩ := List.nodup_cons.mp hm2
    refine ((ih h2 g2 fun y => ?_).cons x).trans hp.symm
    constructor
    · intro hy
      have hy2 := hp.mem_iff.mp ((h y).mp (List.mem_cons_of_mem _ hy))
      rcases List.mem_cons.mp hy2 with e | e
      · rw [e] at hy; exact absurd hy h1
      · exact e
    · intro hy
      have hy2 := (h y).mpr (hp.mem_iff.mpr (List.mem_cons_of_mem _ hy))
      rcases List.mem_cons.mp hy2 with e | e
      · rw [e] at hy; exact absurd hy g1
      · exact e
theorem nd_sub_len {l m : List α} (hl : l.Nodup) (h : ∀ x ∈ l, x ∈ m) : l.length ≤ m.length := by
  induction l generalizing m with
  | nil => exact Nat.zero_le _
  | cons x l ih =>
    obtain ⟨h1, h2⟩ := List.nodup_cons.mp hl
    have hx := h x List.mem_cons_self
    have := ih (m := m.erase x) h2 fun y hy => by
      have hne : y ≠ x := fun e => h1 (e ▸ hy)
      exact (List.mem_erase_of_ne hne).mpr (h y (List.mem_cons_of_mem _ hy))
    rw [List.length_erase_of_mem hx] at this
    have hp := List.length_pos_of_mem hx
    rw [List.length_cons]; omega
end
/-! ### sets of texts -/
/-! ### texts in order -/
/-! ### data in order -/
/-! ### generators of two clauses -/
end Dl

set_option Elab.async false
set_option linter.all false
set_option maxRecDepth 100000
set_option maxHeartbeats 1000000
/-! Marks, rows, firing. -/
namespace Sh
open PySem Dl

abbrev ni (k : Nat) : D := .int k
theorem ni_inj : ∀ a b, ni a = ni b → a = b := fun a b h => Int.ofNat.inj (D.int.inj h)
theorem nt_ix {m : List Nat} {k : Nat} (h : k < m.length) : ixD (nt m) (.int k) = some (.int (m.getD k 0 : Nat)) := by
  rw [ix_tup]
  unfold ntl
  rw [List.getElem?_map, List.getElem?_eq_getElem h, List.getD_eq_getElem?_getD, List.getElem?_eq_getElem h]
  rfl
theorem rng_ni (n : Nat) (h : n < 2 ^ 62) : rngD [.int (n : Int)] = some ((List.range n).map ni) := rng1 n h
theorem fld_places (ps : List Str) (ms : List Mv) : fldD "Net" (Str.ofString "places") (netD ps ms) = some (plD ps) := by
  show (((["places", "moves"].map Str.ofString).zip [plD ps, msD ms]).lookup (Str.ofString "places")) = _
  rfl
theorem fld_moves (ps : List Str) (ms : List Mv) : fldD "Net" (Str.ofString "moves") (netD ps ms) = some (msD ms) := by
  show (((["places", "moves"].map Str.ofString).zip [plD ps, msD ms]).lookup (Str.ofString "moves")) = _
  rfl
/-! ### check_mark -/
def tyOk (d : D) : Prop := ∃ t, tyN d = some t
def mkB (n : Nat) : D → Bool
  | .tup xs => decide (xs.length = n) && xs.all (numB 0)
  | _ => false
theorem mark_loop {e0 e1 : S} : ∀ (xs : List D) (x2 : S), (∀ x ∈ xs, tyOk x) → ∃ δ', forF (.one 2) l1_check_mark xs [e0, e1, x2] = if xs.all (numB 0) = true then .next δ' else .exc "BadMark" δ'
  | [], x2, _ => ⟨_, rfl⟩
  | x :: xs, x2, h => by
    obtain ⟨δ', ih⟩ := mark_loop (e0 := e0) (e1 := e1) xs (.val x) fun y hy => h y (List.mem_cons_of_mem _ hy)
    obtain ⟨t, ht⟩ := h x List.mem_cons_self
    have hn := number_ok x 0 ht
    have hb : l1_check_mark [e0, e1, .val x] = if numB 0 x = true then .next [e0, e1, .val x] else .exc "BadMark" [e0, e1, .val x] := by
      unfold l1_check_mark
      cases hx : numB 0 x <;> simp [hn, hx]
    rcases Bool.eq_false_or_eq_true (numB 0 x) with hx | hx
    · simp only [hx, if_true] at hb
      simp only [forF, put_one, List.set_cons_succ, List.set_cons_zero, List.all_cons, hb, hx, Bool.true_and]
      exact ⟨δ', ih⟩
    · simp only [hx, Bool.false_eq_true, if_false] at hb
      simp only [forF, put_one, List.set_cons_succ, List.set_cons_zero, List.all_cons, hb, hx, Bool.false_and, Bool.false_eq_true, if_false]
      exact ⟨_, rfl⟩
theorem check_mark_tup (ps : List Str) (ms : List Mv) (xs : List D) (h : ∀ x ∈ xs, tyOk x) : m_check_mark [netD ps ms, .tup xs] = if mkB ps.length (.tup xs) = true then .ok .non else .exc "BadMark" := by
  obtain ⟨δ', hl⟩ := mark_loop (e0 := .val (netD ps ms)) (e1 := .val (.tup xs)) xs .no h
  unfold m_check_mark runF b_check_mark
  have hi : initE 3 [netD ps ms, .tup xs] = [.val (netD ps ms), .val (.tup xs), .no] := rfl
  rw [hi]
  have hf := fld_places ps ms
  have ht := isi_tuple (.tup xs) rfl
  have hmk : mkB ps.length (.tup xs) = (decide (xs.length = ps.length) && xs.all (numB 0)) := rfl
  rw [hmk]
  by_cases hz : xs.length = ps.length
  · rcases Bool.eq_false_or_eq_true (xs.all (numB 0)) with ha | ha
    · rw [ha] at hl ⊢; simp [hf, ht, isT, hz, hl]
    · rw [ha] at hl ⊢; simp [hf, ht, isT, hz, hl]
  · have hz' : ¬ ((xs.length : Int) = (ps.length : Int)) := by omega
    simp [hf, ht, isT, hz, hz']
theorem check_nt (ps : List Str) (ms : List Mv) (m : List Nat) (h : m.length = ps.length) : m_check_mark [netD ps ms, nt m] = .ok .non := by
  rw [check_mark_tup ps ms (ntl m) fun x hx => by
    obtain ⟨y, _, rfl⟩ := List.mem_map.mp hx
    exact ⟨_, rfl⟩]
  rw [if_pos]
  show (decide ((ntl m).length = ps.length) && (ntl m).all (numB 0)) = true
  rw [ntl_len, Bool.and_eq_true, decide_eq_true_eq, List.all_eq_true]
  refine ⟨h, fun x hx => ?_⟩
  obtain ⟨y, _, rfl⟩ := List.mem_map.mp hx
  simp [numB]

/-! ### rows -/
def rowN (ps : List Str) (s : Sd) : List Nat := s.foldl (fun r p => r.set (ps.idxOf p.1) p.2) (ps.map fun _ => 0)
abbrev Row := Str × List Nat × List Nat
abbrev rwD (r : Row) : D := .tup [.str r.1, nt r.2.1, nt r.2.2]
def rowsN (ps : List Str) (ms : List Mv) : List Row := ms.map fun m => (m.1, rowN ps m.2.1, rowN ps m.2.2)
theorem fold_len (ps : List Str) : ∀ (s : Sd) (r : List Nat), (s.foldl (fun r p => r.set (ps.idxOf p.1) p.2) r).length = r.length
  | [], r => rfl
  | p :: s, r => by rw [List.foldl_cons, fold_len ps s, List.length_set]
theorem rowN_len (ps : List Str) (s : Sd) : (rowN ps s).length = ps.length := by unfold rowN; rw [fold_len, List.length_map]
theorem ntl_set (r : List Nat) (i v : Nat) : ntl (r.set i v) = (ntl r).set i (.int v) := by
  unfold ntl; rw [List.map_set]
theorem row_loop2 {ps : List Str} {ms : List Mv} (hp : ∀ x ∈ ps, nmS x = true) {e1 : S} :
    ∀ (s : Sd) (r : List Nat) (x3 x4 : S), (∀ p ∈ s, p.1 ∈ ps) → r.length = ps.length → ∃ y3 y4, forF (.all [3, 4]) l1_row_of (s.map pairD) [.val (netD ps ms), e1, .own (.lst (ntl r)), x3, x4] = .next [.val (netD ps ms), e1, .own (.lst (ntl (s.foldl (fun r p => r.set (ps.idxOf p.1) p.2) r))), y3, y4]
  | [], r, x3, x4, _, _ => ⟨x3, x4, rfl⟩
  | p :: s, r, x3, x4, h, hr => by
    have h0 := h p List.mem_cons_self
    obtain ⟨y3, y4, ih⟩ := row_loop2 (ms := ms) hp (e1 := e1) s (r.set (ps.idxOf p.1) p.2) (.val (.str p.1)) (.val (.int p.2)) (fun q hq => h q (List.mem_cons_of_mem _ hq)) (by rw [List.length_set]; exact hr)
    refine ⟨y3, y4, ?_⟩
    have hlt : ps.idxOf p.1 < (ntl r).length := by rw [ntl_len, hr]; exact List.idxOf_lt_length_of_mem h0
    have hf := fld_places ps ms
    have ha := at_place hp h0
    have hs : l1_row_of [.val (netD ps ms), e1, .own (.lst (ntl r)), .val (.str p.1), .val (.int p.2)] = .next [.val (netD ps ms), e1, .own (.lst ((ntl r).set (ps.idxOf p.1) (.int p.2))), .val (.str p.1), .val (.int p.2)] := sPut_at (ds := ntl r) rfl rfl (by
      simp only [ev_eM, ev_e1, ev_eV0, ev_bind_ok, hf, ev_ofO_some, ok_tup, if_true, ev_aCons, ev_eVs, ev_aNil, ha]) hlt
    simp only [List.map_cons, forF, put_all, List.length_cons, List.length_nil, if_true, sa_cons, sa_nil, List.set_cons_succ, List.set_cons_zero, hs, List.foldl_cons]
    rw [← ntl_set]
    exact ih
theorem row_of_ok {ps : List Str} {ms : List Mv} (hp : ∀ x ∈ ps, nmS x = true) (hl : ps.length ≤ 1000) {s : Sd} (hs : ∀ p ∈ s, p.1 ∈ ps) : m_row_of [netD ps ms, sdD s] = .ok (nt (rowN ps s)) := by
  unfold m_row_of runF b_row_of
  have hi : initE 5 [netD ps ms, sdD s] = [.val (netD ps ms), .val (sdD s), .no, .no, .no] := rfl
  rw [hi]
  have hm : mapF (.one 3) tYesD y1_row_of [.val (netD ps ms), .val (sdD s), .no, .no, .no] (stl ps) = .ok (ntl (ps.map fun _ => 0)) := by
    rw [mapF_enc (enc := D.str) (g := fun _ => D.int 0) fun b _ => ⟨_, rfl, rfl, rfl⟩]
    simp [ntl]
  have hfl := fld_places ps ms
  obtain ⟨y3, y4, hf⟩ := row_loop2 (ms := ms) hp (e1 := .val (sdD s)) s (ps.map fun _ => 0) .no .no hs (List.length_map ..)
  have hz : (ntl (ps.map fun _ => 0)).length ≤ 16777216 := by rw [ntl_len, List.length_map]; omega
  simp only [ev_sSeq, ev_sOwn, ev_nLc, ev_iSeq, ev_e1, ev_eV0, ev_eVs, ev_bind_ok, hfl, itD_tup, ev_ofO_some, wp_cons, wp_nil, List.set_cons_succ, List.set_cons_zero, hm, hz, if_true, ev_bindF_ok, ev_sFor, hf, ev_sFrz, fz_succ, fz_own, od_lst, ev_sRet, ev_eB, ev_aCons, ev_aNil, tupD_lst]
  rfl
theorem sd_in {ps : List Str} {s : Sd} (h : SdOk ps s) : ∀ p ∈ s, p.1 ∈ ps := fun p hp => (h.1 p hp).1
theorem rows_of_ok {ps : List Str} {ms : List Mv} (h : NetOk ps ms) : m_rows_of [netD ps ms] = .ok (.lst ((rowsN ps ms).map rwD)) := by
  have hfl := fld_moves ps ms
  unfold m_rows_of runF b_rows_of
  have hi : initE 4 [netD ps ms] = [.val (netD ps ms), .no, .no, .no] := rfl
  rw [hi]
  have hm : mapF (.all [1, 2, 3]) tYesD y1_rows_of [.val (netD ps ms), .no, .no, .no] (ms.map mvD) = .ok (ms.map fun m => rwD (m.1, rowN ps m.2.1, rowN ps m.2.2)) := by
    refine mapF_enc fun m hm => ⟨[.val (netD ps ms), .val (.str m.1), .val (sdD m.2.1), .val (sdD m.2.2)], rfl, rfl, ?_⟩
    have h0 := h.mv m hm
    unfold y1_rows_of
    have hr := row_of_ok (ms := ms) h.pl.nm (by have := h.pl.few; omega) (sd_in h0.2.1)
    have hr2 := row_of_ok (ms := ms) h.pl.nm (by have := h.pl.few; omega) (sd_in h0.2.2)
    simp only [ev_eTup', ev_aCons, ev_eVs, ev_eV0, ev_bind_ok, ev_eCall, ev_aNil, hr, hr2, List.length_cons, List.length_nil]
    rfl
  have hz : (ms.map fun m => rwD (m.1, rowN ps m.2.1, rowN ps m.2.2)).length ≤ 16777216 := by rw [List.length_map]; have := h.few; omega
  simp only [ev_sRet, ev_eN, ev_nLc, ev_iSeq, ev_e1, ev_eV0, ev_bind_ok, hfl, ev_ofO_some, itD_tup, wp_cons, wp_nil, List.set_cons_succ, List.set_cons_zero, hm, hz, if_true, ev_bindF_ok]
  unfold rowsN
  rw [List.map_map]
  rfl
/-! ### firing -/
def enough (m t : List Nat) : Bool := (List.range m.length).all fun k => decide (t.getD k 0 ≤ m.getD k 0)
def fire (m t g : List Nat) : List Nat := (List.range m.length).map fun k => m.getD k 0 - t.getD k 0 + g.getD k 0
end Sh

set_option Elab.async false
set_option linter.all false
set_option maxRecDepth 100000
set_option maxHeartbeats 1000000
/-! The law's draws, nets and marks. -/
namespace Sh
open PySem Dl

theorem cellS_ok (ns : List Int) (k : Nat) : ∃ c : Int, m__law_cell [.lst (ns.map D.int), .int (k : Int)] = .ok (.int c) := cell_ok ns k
theorem intT1 (i : Int) : intTD [.int i] = some (.int i) := rfl
theorem drawS_loop (c : Int) (cnt : D) : ∀ (ks : List Nat) (L : List Nat) (r : Int) (x4 x5 : S), L.length + ks.length ≤ 100000 → (∀ k ∈ ks, k < 100000) → ∃ (L' : List Nat) (r' : Int) (y4 y5 : S), L'.length = L.length + ks.length ∧
    forF (.one 4) l1__law_draws (ks.map fun (k : Nat) => D.int (k : Int)) [.val (.int c), .val cnt, .own (ntl L), .val (.int r), x4, x5] = .next [.val (.int c), .val cnt, .own (ntl L'), .val (.int r'), y4, y5]
  | [], L, r, x4, x5, _, _ => ⟨L, r, x4, x5, rfl, rfl⟩
  | k :: ks, L, r, x4, x5, hl, hk => by
    rw [List.length_cons] at hl
    have hk0 := hk k List.mem_cons_self
    have m1 := mul_r c 48271 (by decide)
    have m2 := mul_r (k : Int) 69621 (by decide)
    have md := mod_pos (c * 48271 + (k : Int) * 69621 + 1) 2147483647 (by decide)
    have hxl0 : ((c * 48271 + (k : Int) * 69621 + 1) % 2147483647).toNat < 2147483648 := by
      have h1 : (c * 48271 + (k : Int) * 69621 + 1) % 2147483647 < 2147483647 := Int.emod_lt_of_pos _ (by decide)
      omega
    generalize hx : ((c * 48271 + (k : Int) * 69621 + 1) % 2147483647).toNat = x at md hxl0
    have hxl : (x : Int) < 2147483648 := by omega
    have a3 := mul_r (x : Int) (x : Int) (by omega)
    have a4 := mul_r (x : Int) 40692 (by decide)
    have hap : ∀ (f : Ev) (y : Nat) (δ0 : Dl.Env), f [.val (.int c), .val cnt, .own (ntl L), .val (.int r), .val (.int (k : Int)), .val (.int (x : Int))] = .ok (.int (y : Int)) →
        sApp 2 f [.val (.int c), .val cnt, .own (ntl L), .val (.int r), .val (.int (k : Int)), .val (.int (x : Int))] = .next [.val (.int c), .val cnt, .own (ntl (L ++ [y])), .val (.int r), .val (.int (k : Int)), .val (.int (x : Int))] := fun f y δ0 h => by
      rw [ntl_snoc, ev_sApp (ds := ntl L) _ _ rfl (by rw [ntl_len]; omega), h]
      rfl
    rw [List.map_cons]
    by_cases hc : c ≥ 1000000000000000000
    · obtain ⟨L', r', y4, y5, h1, h2⟩ := drawS_loop c cnt ks (L ++ [(r % 1009).toNat]) (r / 1009) (.val (.int (k : Int))) (.val (.int (x : Int))) (by rw [List.length_append, List.length_singleton]; omega) fun j hj => hk j (List.mem_cons_of_mem _ hj)
      refine ⟨L', r', y4, y5, by rw [h1, List.length_append, List.length_singleton, List.length_cons]; omega, ?_⟩
      have d1 := mod_pos r 1009 (by decide)
      have d2 := fdiv_pos r 1009 (by decide) (by decide)
      have ap := hap (e2 modD (eV 3) (eC (.int 1009))) (r % 1009).toNat [] (by simp only [ev_e2, ev_eVs, ev_eV0, ev_eC, ev_bind_ok, d1, ev_ofO_some])
      simp only [forF, put_one, List.set_cons_succ, List.set_cons_zero, l1__law_draws, ev_sSeq, ev_sSet, ev_e2, ev_eB, ev_aCons, ev_aNil, ev_eVs, ev_eV0, ev_eC, ev_bind_ok, m1, m2, ev_ofO_some, add_int, intT1, md, ev_bindF_ok, ev_sIf, ev_tB1, pow18, ge_int, decide_eq_true hc, blR_bl, if_true, ap, d2]
      exact h2
    · generalize hy : (((x : Int) * (x : Int) + (x : Int) * 40692) % 2147483399).toNat = y
      obtain ⟨L', r', y4, y5, h1, h2⟩ := drawS_loop c cnt ks (L ++ [y / 7]) r (.val (.int (k : Int))) (.val (.int (x : Int))) (by rw [List.length_append, List.length_singleton]; omega) fun j hj => hk j (List.mem_cons_of_mem _ hj)
      refine ⟨L', r', y4, y5, by rw [h1, List.length_append, List.length_singleton, List.length_cons]; omega, ?_⟩
      have d1 := mod_pos ((x : Int) * (x : Int) + (x : Int) * 40692) 2147483399 (by decide)
      rw [hy] at d1
      have d2 : fdivD (.int (y : Int)) (.int 7) = some (.int ((y / 7 : Nat) : Int)) := fdiv_nat y 7 (by decide) (by decide)
      have ap := hap (e2 fdivD (e2 modD (eB intTD (aCons (e2 addD (e2 mulD (eV 5) (eV 5)) (e2 mulD (eV 5) (eC (.int 40692)))) aNil)) (eC (.int 2147483399))) (eC (.int 7))) (y / 7) [] (by
        simp only [ev_e2, ev_eB, ev_aCons, ev_aNil, ev_eVs, ev_eV0, ev_eC, ev_bind_ok, a3, a4, ev_ofO_some, add_int, intT1, d1, d2])
      simp only [forF, put_one, List.set_cons_succ, List.set_cons_zero, l1__law_draws, ev_sSeq, ev_sSet, ev_e2, ev_eB, ev_aCons, ev_aNil, ev_eVs, ev_eV0, ev_eC, ev_bind_ok, m1, m2, ev_ofO_some, add_int, intT1, md, ev_bindF_ok, ev_sIf, ev_tB1, pow18, ge_int, decide_eq_false hc, blR_bl, Bool.false_eq_true, if_false, ap]
      exact h2
theorem drawsS_ok (c : Int) (n : Nat) (hn : n ≤ 100000) : ∃ L : List Nat, L.length = n ∧ m__law_draws [.int c, .int (n : Int)] = .ok (.lst (ntl L)) := by
  have hi : ∀ a b, initE 6 [a, b] = [.val a, .val b, .no, .no, .no, .no] := fun _ _ => rfl
  obtain ⟨L, r, y4, y5, h1, h2⟩ := drawS_loop c (.int (n : Int)) (List.range n) [] c .no .no (by simp; omega) (fun k hk => by have := List.mem_range.mp hk; omega)
  refine ⟨L, by simpa using h1, ?_⟩
  unfold m__law_draws runF b__law_draws
  rw [hi]
  have rg := rng1 n (by omega)
  have e0 : (ntl [] : List D) = [] := rfl
  rw [e0] at h2
  simp only [ev_sSeq, ev_sOwn, ev_nLst, List.length_nil, Nat.zero_le, if_true, ev_bindF_ok, List.set_cons_succ, List.set_cons_zero, ev_sSet, ev_eB, ev_aCons, ev_aNil, ev_eV0, ev_eVs, ev_bind_ok, intT1, ev_ofO_some, ev_sFor, ev_iRng, rg, h2, ev_sFrz, fz_succ, fz_own, od_lst, ev_sRet]
theorem range_pre {n : Nat} {pre : List Nat} {b : Nat} (h : pre ++ [b] <+: List.range n) : b = pre.length ∧ b < n := by
  have h1 : (pre ++ [b])[pre.length]? = some b := by simp
  have hlt : pre.length < n := by have := h.length_le; simp at this; omega
  have h2 : (List.range n)[pre.length]? = some b := by
    obtain ⟨t, ht⟩ := h
    rw [← ht, List.getElem?_append_left (by simp), h1]
  rw [List.getElem?_range hlt] at h2
  injection h2 with h2
  exact ⟨h2.symm, h2 ▸ hlt⟩
theorem stl_ix {ps : List Str} {k : Nat} (h : k < ps.length) : ixD (plD ps) (.int k) = some (.str ps[k]) := by
  rw [ix_tup, List.getElem?_map, List.getElem?_eq_getElem h]; rfl
def sdSmall (s : Sd) : Prop := ∀ p ∈ s, p.2 ≤ 2
end Sh

set_option Elab.async false
set_option linter.all false
set_option maxRecDepth 100000
set_option maxHeartbeats 1000000
/-! The law's nets and marks. -/
namespace Sh
open PySem Dl

end Sh

set_option Elab.async false
set_option linter.all false
set_option maxRecDepth 100000
set_option maxHeartbeats 1000000
/-! The law's nets and marks. -/
namespace Sh
open PySem Dl

/-- what the law's nets are -/
structure LawNet (ps : List Str) (ms : List Mv) : Prop where
  ok : NetOk ps ms
  two : 2 ≤ ps.length
  four : ps.length ≤ 4
  pl : ∀ x ∈ ps, x ∈ (["p", "q", "r", "s"] : List Str)
  nm : ∀ m ∈ ms, m.1 ∈ (["a", "b", "c", "d"] : List Str)
  sm : ∀ m ∈ ms, sdSmall m.2.1 ∧ sdSmall m.2.2
  mpos : 1 ≤ ms.length
  mfour : ms.length ≤ 4
theorem slTo_tup (xs : List D) (b : Nat) : slD (.tup xs) none (some (b : Int)) = some (.tup (xs.take b)) := by
  show some (D.tup (cutD xs none (some (b : Int)))) = _
  unfold cutD
  rw [HT.sIx_nat, HT.sIx_none, List.drop_zero, Nat.sub_zero]
  congr 2
  by_cases hb : b ≤ xs.length
  · rw [Nat.min_eq_left hb]
  · rw [Nat.min_eq_right (by omega), List.take_of_length_le (Nat.le_refl _), List.take_of_length_le (by omega)]
end Sh

set_option Elab.async false
set_option linter.all false
set_option maxRecDepth 100000
set_option maxHeartbeats 4000000
namespace Sh
open PySem PySem.Spec PyProof.Rows L2 Dl
noncomputable section
abbrev d_ONES : Ev := eC (.tup [.str "not", .str "some next", .str "all next"])
abbrev d_TWOS : Ev := eC (.tup [.str "and", .str "or", .str "some way", .str "all ways"])

/-! ### is_plain -/
def y1_is_plain : Ev :=
    (e2 ixD (eV 2) (eC (.int 0)))
def b_is_plain : Sv :=
    (sSeq (sIf (tB1 (e2 inD (e2 ixD (eV 1) (eC (.int 0))) (eTup (aCons (eC (.str "true")) (aCons (eC (.str "dead")) aNil)))))
    (sRet (e2 eqD (eB lenD (aCons (eV 1) aNil)) (eC (.int 1))))
    sNext)
    (sSeq (sIf (tAnd' (tB1 (e2 eqD (e2 ixD (eV 1) (eC (.int 0))) (eC (.str "can")))) (tB1 (e2 eqD (eB lenD (aCons (eV 1) aNil)) (eC (.int 2)))))
    (sRet (eAnd (eCall m_is_name (aCons (e2 ixD (eV 1) (eC (.int 1))) aNil)) (e2 inD (e2 ixD (eV 1) (eC (.int 1))) (eN (nLc [2] (.one 2) (iSeq (e1 (fldD "Net" "moves") (eV 0))) tYesD y1_is_plain)))))
    sNext)
    (sSeq (sIf (tOr' (tB1 (e2 neD (e2 ixD (eV 1) (eC (.int 0))) (eC (.str "at")))) (tB1 (e2 neD (eB lenD (aCons (eV 1) aNil)) (eC (.int 3)))))
    (sRet (eC (.bl false)))
    sNext)
    (sRet (eAnd (eCall m_is_name (aCons (e2 ixD (eV 1) (eC (.int 1))) aNil)) (eAnd (e2 inD (e2 ixD (eV 1) (eC (.int 1))) (e1 (fldD "Net" "places") (eV 0))) (eCall m_is_number (aCons (e2 ixD (eV 1) (eC (.int 2))) (aCons (eC (.int 0)) aNil)))))))))
def m_is_plain : List D → R D := runF 3 b_is_plain

/-! ### check_deep -/
def b_check_deep (s_check_deep : List D → R D) : Sv :=
    (sSeq (sIf (tOr' (tNot' (tB1 (eIsi "tuple" (eV 1)))) (tOr' (tB1 (e2 eqD (eB lenD (aCons (eV 1) aNil)) (eC (.int 0)))) (tOr' (tNot' (tB1 (eIsi "str" (e2 ixD (eV 1) (eC (.int 0)))))) (tB1 (e2 gtD (eV 2) (eC (.int 12)))))))
    (sRaise "BadSentence")
    sNext)
    (sIf (tAnd' (tB1 (e2 inD (e2 ixD (eV 1) (eC (.int 0))) d_ONES)) (tB1 (e2 eqD (eB lenD (aCons (eV 1) aNil)) (eC (.int 2)))))
    (sDrop (eCall s_check_deep (aCons (eV 0) (aCons (e2 ixD (eV 1) (eC (.int 1))) (aCons (e2 addD (eV 2) (eC (.int 1))) aNil)))))
    (sIf (tAnd' (tB1 (e2 inD (e2 ixD (eV 1) (eC (.int 0))) d_TWOS)) (tB1 (e2 eqD (eB lenD (aCons (eV 1) aNil)) (eC (.int 3)))))
    (sSeq (sDrop (eCall s_check_deep (aCons (eV 0) (aCons (e2 ixD (eV 1) (eC (.int 1))) (aCons (e2 addD (eV 2) (eC (.int 1))) aNil)))))
    (sDrop (eCall s_check_deep (aCons (eV 0) (aCons (e2 ixD (eV 1) (eC (.int 2))) (aCons (e2 addD (eV 2) (eC (.int 1))) aNil))))))
    (sIf (tNot' (tB1 (eCall m_is_plain (aCons (eV 0) (aCons (eV 1) aNil)))))
    (sRaise "BadSentence")
    sNext))))
def m_check_deep : Nat → List D → R D
  | 0 => fun _ => .bad
  | n + 1 => runF 3 (b_check_deep (m_check_deep n))

/-! ### check_sentence -/
def b_check_sentence : Sv :=
    (sDrop (eCall (m_check_deep 20) (aCons (eV 0) (aCons (eV 1) (aCons (eC (.int 0)) aNil)))))
def m_check_sentence : List D → R D := runF 2 b_check_sentence

/-! ### inner -/
/-! ### all_parts -/
/-! ### plain_truth -/
/-! ### behind_of -/
/-! ### some_ranks -/
/-! ### all_ranks -/
/-! ### truths_of -/
/-! ### row_for -/
/-! ### labels -/
/-! ### truths -/
/-! ### holds -/
/-! ### _law_sentence -/
/-! ### _law_way_truth -/
/-! ### _law_truth -/
end
end Sh

set_option Elab.async false
set_option linter.all false
set_option maxRecDepth 100000
set_option maxHeartbeats 1000000
/-! Sentences. -/
namespace Sh
open PySem Dl

inductive Sen where
  | tru
  | ded
  | can (x : Str)
  | att (p : Str) (k : Nat)
  | un (w : String) (s : Sen)
  | bi (w : String) (a b : Sen)
  deriving DecidableEq
def Sen.d : Sen → D
  | .tru => .tup [.str "true"]
  | .ded => .tup [.str "dead"]
  | .can x => .tup [.str "can", .str x]
  | .att p k => .tup [.str "at", .str p, .int k]
  | .un w s => .tup [.str w, s.d]
  | .bi w a b => .tup [.str w, a.d, b.d]
def ones : List String := ["not", "some next", "all next"]
def twos : List String := ["and", "or", "some way", "all ways"]
def Sen.ok (ps : List Str) (ns : List Str) : Sen → Prop
  | .tru => True
  | .ded => True
  | .can x => x ∈ ns
  | .att p _ => p ∈ ps
  | .un w s => w ∈ ones ∧ s.ok ps ns
  | .bi w a b => w ∈ twos ∧ a.ok ps ns ∧ b.ok ps ns
def Sen.ht : Sen → Nat
  | .un _ s => s.ht + 1
  | .bi _ a b => max a.ht b.ht + 1
  | _ => 0
def nsOf (ms : List Mv) : List Str := ms.map (·.1)
theorem nsOf_len (ms : List Mv) : (nsOf ms).length = ms.length := by unfold nsOf; rw [List.length_map]
/-! ### check_sentence -/
theorem in_ones (w : String) : inD (.str (Str.ofString w)) (.tup [.str "not", .str "some next", .str "all next"]) = some (.bl (decide (w ∈ ones))) := by
  rw [in_tup (by simp) (by simp)]
  simp [ones]
theorem in_twos (w : String) : inD (.str (Str.ofString w)) (.tup [.str "and", .str "or", .str "some way", .str "all ways"]) = some (.bl (decide (w ∈ twos))) := by
  rw [in_tup (by simp) (by simp)]
  simp [twos]
theorem ones_twos {w : String} (h : w ∈ twos) : w ∉ ones := by
  intro z
  simp only [ones, twos, List.mem_cons, List.not_mem_nil, or_false] at h z
  rcases h with rfl | rfl | rfl | rfl <;> simp at z
theorem ck_one {n : Nat} {net x : D} {w : String} {k : Nat} (hw : w ∈ ones) (hk : k ≤ 12) : m_check_deep (n + 1) [net, .tup [.str w, x], .int k] = (m_check_deep n [net, x, .int ((k + 1 : Nat) : Int)] >>= fun _ => .ok .non) := by
  have e : (((k + 1 : Nat)) : Int) = (k : Int) + 1 := by omega
  rw [e]
  have h3 : ¬ ((12 : Int) < (k : Int)) := by omega
  have hi : initE 3 [net, .tup [.str w, x], .int k] = [.val net, .val (.tup [.str w, x]), .val (.int k)] := rfl
  rw [m_check_deep]
  unfold runF b_check_deep
  rw [hi]
  cases hr : m_check_deep n [net, x, .int ((k : Int) + 1)] <;> simp [d_ONES, in_ones, hw, h3, hr] <;> rfl
theorem ck_two {n : Nat} {net x y : D} {w : String} {k : Nat} (hw : w ∈ twos) (hk : k ≤ 12) : m_check_deep (n + 1) [net, .tup [.str w, x, y], .int k] = (m_check_deep n [net, x, .int ((k + 1 : Nat) : Int)] >>= fun _ => m_check_deep n [net, y, .int ((k + 1 : Nat) : Int)] >>= fun _ => .ok .non) := by
  have e : (((k + 1 : Nat)) : Int) = (k : Int) + 1 := by omega
  rw [e]
  have hw1 := ones_twos hw
  have h3 : ¬ ((12 : Int) < (k : Int)) := by omega
  have hi : initE 3 [net, .tup [.str w, x, y], .int k] = [.val net, .val (.tup [.str w, x, y]), .val (.int k)] := rfl
  rw [m_check_deep]
  unfold runF b_check_deep
  rw [hi]
  cases hr : m_check_deep n [net, x, .int ((k : Int) + 1)] with
  | ok d => cases hr2 : m_check_deep n [net, y, .int ((k : Int) + 1)] <;> simp [d_ONES, in_ones, hw1, d_TWOS, in_twos, hw, h3, hr, hr2] <;> rfl
  | exc c => simp [d_ONES, in_ones, hw1, d_TWOS, in_twos, hw, h3, hr]
  | bad => simp [d_ONES, in_ones, hw1, d_TWOS, in_twos, hw, h3, hr] <;> rfl
theorem ck_plain {n : Nat} {net : D} {w : String} {xs : List D} {k : Nat} (h1 : ¬ (w ∈ ones ∧ xs.length = 1)) (h2 : ¬ (w ∈ twos ∧ xs.length = 2)) (hk : k ≤ 12) {b : Bool} (hp : m_is_plain [net, .tup (.str w :: xs)] = .ok (.bl b)) : m_check_deep (n + 1) [net, .tup (.str w :: xs), .int k] = if b = true then .ok .non else .exc "BadSentence" := by
  have hi : initE 3 [net, .tup (.str w :: xs), .int k] = [.val net, .val (.tup (.str w :: xs)), .val (.int k)] := rfl
  have h3 : ¬ ((12 : Int) < (k : Int)) := by omega
  have hz : ¬ ((xs.length : Int) + 1 = 0) := by omega
  have hA : (tAnd' (tB1 (e2 inD (e2 ixD (eV 1) (eC (.int 0))) d_ONES)) (tB1 (e2 eqD (eB lenD (aCons (eV 1) aNil)) (eC (.int 2))))) [.val net, .val (.tup (.str w :: xs)), .val (.int k)] = .ok false := by
    by_cases c : w ∈ ones
    · have : ¬ ((xs.length : Int) + 1 = 2) := fun z => h1 ⟨c, by omega⟩
      simp [d_ONES, in_ones, c, this]
    · simp [d_ONES, in_ones, c]
  have hB : (tAnd' (tB1 (e2 inD (e2 ixD (eV 1) (eC (.int 0))) d_TWOS)) (tB1 (e2 eqD (eB lenD (aCons (eV 1) aNil)) (eC (.int 3))))) [.val net, .val (.tup (.str w :: xs)), .val (.int k)] = .ok false := by
    by_cases c : w ∈ twos
    · have : ¬ ((xs.length : Int) + 1 = 3) := fun z => h2 ⟨c, by omega⟩
      simp [d_TWOS, in_twos, c, this]
    · simp [d_TWOS, in_twos, c]
  rw [m_check_deep]
  unfold runF b_check_deep
  rw [hi]
  cases b <;> simp [-ev_tAnd, hA, hB, h3, hz, hp]
/-! ### is_plain -/
theorem in_td (w : String) : inD (.str (Str.ofString w)) (.tup [.str "true", .str "dead"]) = some (.bl (decide (w = "true" ∨ w = "dead"))) := by
  rw [in_tup (by simp) (by simp)]
  simp
theorem plain_td {net : D} {w : String} {xs : List D} (h : w = "true" ∨ w = "dead") : m_is_plain [net, .tup (.str w :: xs)] = .ok (.bl (decide (xs.length = 0))) := by
  have hi : initE 3 [net, .tup (.str w :: xs)] = [.val net, .val (.tup (.str w :: xs)), .no] := rfl
  have e : decide (((xs.length : Int) + 1) = 1) = decide (xs.length = 0) := by
    rw [Bool.eq_iff_iff, decide_eq_true_eq, decide_eq_true_eq]; omega
  unfold m_is_plain runF b_is_plain
  rw [hi]
  simp [in_td, h]
  rw [← List.length_eq_zero_iff]
  omega
theorem names_of_moves {ps : List Str} {ms : List Mv} {e1 : S} : mapF (.one 2) tYesD y1_is_plain [.val (netD ps ms), e1, .no] (ms.map mvD) = .ok (stl (nsOf ms)) := by
  rw [mapF_enc (g := fun m : Mv => D.str m.1) fun m hm => ⟨_, rfl, rfl, rfl⟩]
  unfold stl nsOf
  rw [List.map_map]; rfl
def strIn (l : List Str) : D → Bool
  | .str y => decide (y ∈ l)
  | _ => false
theorem strIn_str (l : List Str) (y : Str) : strIn l (.str y) = decide (y ∈ l) := rfl
theorem strIn_no (l : List Str) {d : D} (h : ∀ y, d ≠ .str y) : strIn l d = false := by
  cases d <;> first | rfl | exact absurd rfl (h _)
theorem plain_can {ps : List Str} {ms : List Mv} (h : NetOk ps ms) (x : D) (hx : tyOk x) (hl : ∀ y, x = .str y → y.length ≤ 1000000) : m_is_plain [netD ps ms, .tup [.str "can", x]] = .ok (.bl (strIn (nsOf ms) x)) := by
  have hi : initE 3 [netD ps ms, .tup [.str "can", x]] = [.val (netD ps ms), .val (.tup [.str "can", x]), .no] := rfl
  have hf := fld_moves ps ms
  have hnm := names_of_moves (ps := ps) (ms := ms) (e1 := .val (.tup [.str "can", x]))
  have hz : ms.length ≤ 16777216 := by have := h.few; omega
  have hgs : ∀ y ∈ stl (nsOf ms), y.gd 63 := gd_names fun y hy => by
    obtain ⟨m, hm, rfl⟩ := List.mem_map.mp hy
    exact (h.mv m hm).1
  obtain ⟨t, ht⟩ := hx
  unfold m_is_plain runF b_is_plain
  rw [hi]
  by_cases hs : ∃ y, x = .str y
  · obtain ⟨y, rfl⟩ := hs
    have hn := nm_str y (hl y rfl)
    cases hy : nmS y with
    | true =>
      have hin : inD (.str y) (.lst (stl (nsOf ms))) = some (.bl (decide (y ∈ nsOf ms))) := by
        rw [in_lst (gd_str (nm_good hy)) hgs]
        congr 2
        rw [Bool.eq_iff_iff, decide_eq_true_eq, decide_eq_true_eq]
        exact mem_enc str_inj
      rw [hy] at hn
      have hL : eN (nLc [2] (.one 2) (iSeq (e1 (fldD "Net" "moves") (eV 0))) tYesD y1_is_plain) [.val (netD ps ms), .val (.tup [.str "can", .str y]), .no] = .ok (.lst (stl (nsOf ms))) := by
        simp only [ev_eN, ev_nLc, ev_iSeq, ev_e1, ev_eV0, ev_bind_ok, hf, ev_ofO_some, itD_tup, wp_cons, wp_nil, List.set_cons_succ, List.set_cons_zero, hnm, List.length_map, nsOf_len, hz, if_true]
      simp [in_td, eq_of, hn, -ev_eN, hL, hin, strIn_str]
    | false =>
      have hni : y ∉ nsOf ms := fun z => by
        obtain ⟨m, hm, e⟩ := List.mem_map.mp z
        have := (h.mv m hm).1
        rw [e, hy] at this; cases this
      rw [hy] at hn
      simp [in_td, eq_of, hn, strIn_str, hni]
  · have hn := nm_no x ht fun y e => hs ⟨y, e⟩
    simp [in_td, eq_of, hn, strIn_no _ fun y e => hs ⟨y, e⟩]
theorem plain_at {ps : List Str} {ms : List Mv} (h : NetOk ps ms) (x y : D) (hx : tyOk x) (hy : tyOk y) (hl : ∀ y, x = .str y → y.length ≤ 1000000) : m_is_plain [netD ps ms, .tup [.str "at", x, y]] = .ok (.bl (strIn ps x && numB 0 y)) := by
  have hi : initE 3 [netD ps ms, .tup [.str "at", x, y]] = [.val (netD ps ms), .val (.tup [.str "at", x, y]), .no] := rfl
  have hf := fld_places ps ms
  have hgs : ∀ y ∈ stl ps, y.gd 63 := gd_names h.pl.nm
  obtain ⟨t, ht⟩ := hx
  obtain ⟨t2, ht2⟩ := hy
  have hnum := number_ok y 0 ht2
  unfold m_is_plain runF b_is_plain
  rw [hi]
  by_cases hs : ∃ y, x = .str y
  · obtain ⟨z, rfl⟩ := hs
    have hn := nm_str z (hl z rfl)
    cases hz : nmS z with
    | true =>
      have hin : inD (.str z) (plD ps) = some (.bl (decide (z ∈ ps))) := by
        rw [in_tup (gd_str (nm_good hz)) hgs]
        congr 2
        rw [Bool.eq_iff_iff, decide_eq_true_eq, decide_eq_true_eq]
        exact mem_enc str_inj
      rw [hz] at hn
      by_cases hzp : z ∈ ps
      · simp [in_td, eq_of, ne_of, hn, hf, hin, hzp, hnum, strIn_str]
      · simp [in_td, eq_of, ne_of, hn, hf, hin, hzp, hnum, strIn_str]
    | false =>
      have hni : z ∉ ps := fun q => by
        have := h.pl.nm z q
        rw [hz] at this; cases this
      rw [hz] at hn
      simp [in_td, eq_of, ne_of, hn, strIn_str, hni]
  · have hn := nm_no x ht fun y e => hs ⟨y, e⟩
    simp [in_td, eq_of, ne_of, hn, strIn_no _ fun y e => hs ⟨y, e⟩]
/-- sentences that are fine pass -/
theorem ck_ok {ps : List Str} {ms : List Mv} (h : NetOk ps ms) : ∀ (s : Sen) (n k : Nat), s.ok ps (nsOf ms) → s.ht + k ≤ 12 → s.ht < n → m_check_deep n [netD ps ms, s.d, .int k] = .ok .non
  | s, 0, _, _, _, hn => by omega
  | .tru, n + 1, k, _, hk, _ => by
    rw [Sen.d, ck_plain (by simp [ones]) (by simp [twos]) (by omega) (plain_td (.inl rfl))]; rfl
  | .ded, n + 1, k, _, hk, _ => by
    rw [Sen.d, ck_plain (by simp [ones]) (by simp [twos]) (by omega) (plain_td (.inr rfl))]; rfl
  | .can x, n + 1, k, ho, hk, _ => by
    have hx : nmS x = true := by
      obtain ⟨m, hm, rfl⟩ := List.mem_map.mp (show x ∈ nsOf ms from ho)
      exact (h.mv m hm).1
    rw [Sen.d, ck_plain (by simp [ones]) (by simp [twos]) (by omega) (plain_can h (.str x) ⟨_, rfl⟩ fun y e => by injection e with e; rw [← e]; have := nm_len hx; omega)]
    rw [strIn_str, decide_eq_true (show x ∈ nsOf ms from ho)]; rfl
  | .att p j, n + 1, k, ho, hk, _ => by
    have hx : nmS p = true := h.pl.nm p ho
    rw [Sen.d, ck_plain (by simp [ones]) (by simp [twos]) (by omega) (plain_at h (.str p) (.int j) ⟨_, rfl⟩ ⟨_, rfl⟩ fun y e => by injection e with e; rw [← e]; have := nm_len hx; omega)]
    rw [strIn_str, decide_eq_true (show p ∈ ps from ho)]
    simp [numB]
  | .un w s, n + 1, k, ho, hk, hn => by
    simp only [Sen.ht] at hk hn
    rw [Sen.d, ck_one ho.1 (by omega), ck_ok h s n (k + 1) ho.2 (by omega) (by omega)]; rfl
  | .bi w a b, n + 1, k, ho, hk, hn => by
    simp only [Sen.ht] at hk hn
    rw [Sen.d, ck_two ho.1 (by omega), ck_ok h a n (k + 1) ho.2.1 (by omega) (by omega), ev_bind_ok, ck_ok h b n (k + 1) ho.2.2 (by omega) (by omega)]; rfl
theorem check_sen {net d : D} : m_check_sentence [net, d] = (m_check_deep 20 [net, d, .int 0] >>= fun _ => .ok .non) := by
  have hi : initE 2 [net, d] = [.val net, .val d] := rfl
  unfold m_check_sentence runF b_check_sentence
  rw [hi]
  cases hr : m_check_deep 20 [net, d, .int 0] <;> simp [hr] <;> rfl
theorem check_ok {ps : List Str} {ms : List Mv} (h : NetOk ps ms) {s : Sen} (ho : s.ok ps (nsOf ms)) (hk : s.ht ≤ 12) : m_check_sentence [netD ps ms, s.d] = .ok .non := by
  have := ck_ok h s 20 0 ho (by omega) (by omega)
  rw [check_sen, show (.int 0 : D) = .int ((0 : Nat) : Int) from rfl, this]; rfl
end Sh

set_option Elab.async false
set_option linter.all false
set_option maxRecDepth 100000
set_option maxHeartbeats 2000000
/-! The law's sentences. -/
namespace Sh
open PySem Dl
/-! ### parts -/
def Sen.inner : Sen → List Sen
  | .un _ s => [s]
  | .bi _ a b => [a, b]
  | _ => []
def Sen.parts : Sen → List Sen
  | .un w s => s.parts ++ [.un w s]
  | .bi w a b => (a.parts ++ b.parts.filter fun x => decide (x ∉ a.parts)) ++ [.bi w a b]
  | s => [s]
end Sh

set_option Elab.async false
set_option linter.all false
set_option maxRecDepth 100000
set_option maxHeartbeats 1000000
/-! What is reached. -/
namespace Sh
open PySem Dl

structure Ex where
  marks : List (List Nat)
  before : List (Option (Nat × Str))
  steps : List (Nat × Str × Nat)
def estep (most a : Nat) (s : Ex) (r : Row) : Option Ex :=
  if enough (s.marks.getD a []) r.2.1 = true then
    if fire (s.marks.getD a []) r.2.1 r.2.2 ∈ s.marks then some ⟨s.marks, s.before, s.steps ++ [(a, r.1, s.marks.idxOf (fire (s.marks.getD a []) r.2.1 r.2.2))]⟩
    else if most ≤ s.marks.length then none
    else some ⟨s.marks ++ [fire (s.marks.getD a []) r.2.1 r.2.2], s.before ++ [some (a, r.1)], s.steps ++ [(a, r.1, s.marks.length)]⟩
  else some s
def erow (most a : Nat) : List Row → Ex → Option Ex
  | [], s => some s
  | r :: R, s => (estep most a s r).bind (erow most a R)
def eloop (R : List Row) (most : Nat) : Nat → Nat → Ex → Option Ex
  | 0, _, s => some s
  | f + 1, a, s => if a < s.marks.length then (erow most a R s).bind (eloop R most f (a + 1)) else some s
def ex0 (m : List Nat) : Ex := ⟨[m], [none], []⟩
def reach (R : List Row) (m : List Nat) (most : Nat) : Option Ex := eloop R most (max most 1 + 1) 0 (ex0 m)
structure EI (n L : Nat) (s : Ex) : Prop where
  wid : ∀ m ∈ s.marks, m.length = n
  nd : s.marks.Nodup
  bf : s.before.length = s.marks.length
  few : s.marks.length ≤ L
def RowsOk (n : Nat) (R : List Row) : Prop := (∀ r ∈ R, r.2.1.length = n ∧ r.2.2.length = n) ∧ R.length ≤ 100
abbrev mkL (l : List (List Nat)) : List D := l.map nt
theorem ix_mk {l : List (List Nat)} {a : Nat} (h : a < l.length) : ixD (.lst (mkL l)) (.int a) = some (nt (l.getD a [])) := by
  rw [ix_lst, List.getElem?_map, List.getElem?_eq_getElem h, List.getD_eq_getElem?_getD, List.getElem?_eq_getElem h]
  rfl
theorem rows_okN {ps : List Str} {ms : List Mv} (h : NetOk ps ms) : RowsOk ps.length (rowsN ps ms) := by
  refine ⟨fun r hr => ?_, by unfold rowsN; rw [List.length_map]; have := h.few; omega⟩
  obtain ⟨m, _, rfl⟩ := List.mem_map.mp hr
  exact ⟨rowN_len _ _, rowN_len _ _⟩
end Sh

set_option Elab.async false
set_option linter.all false
set_option maxRecDepth 100000
set_option maxHeartbeats 1000000
/-! What is reached, by the law; graphs. -/
namespace Sh
open PySem Dl

/-! ### what reach tells -/
end Sh

set_option Elab.async false
set_option linter.all false
set_option maxRecDepth 100000
set_option maxHeartbeats 1000000
/-! The steps in closed form. -/
namespace Sh
open PySem Dl

/-- the steps from the mark at a -/
def stAt (R : List Row) (M : List (List Nat)) (a : Nat) : List (Nat × Str × Nat) :=
  (R.filter fun r => enough (M.getD a []) r.2.1).map fun r => (a, r.1, M.idxOf (fire (M.getD a []) r.2.1 r.2.2))
/-- all that the mark at a leads to stands in M -/
def Clo (R : List Row) (M : List (List Nat)) (a : Nat) : Prop := ∀ r ∈ R, enough (M.getD a []) r.2.1 = true → fire (M.getD a []) r.2.1 r.2.2 ∈ M
/-- the closed form -/
structure Rd (R : List Row) (m : List Nat) (most n : Nat) (s : Ex) : Prop where
  ei : EI n (max most 1) s
  hd : s.marks.getD 0 [] = m
  pos : 1 ≤ s.marks.length
  clo : ∀ i, i < s.marks.length → Clo R s.marks i
  st : s.steps = (List.range s.marks.length).flatMap (stAt R s.marks)
theorem mem_stAt {R : List Row} {M : List (List Nat)} {a : Nat} {t : Nat × Str × Nat} (h : t ∈ stAt R M a) : t.1 = a ∧ ∃ r ∈ R, t.2.1 = r.1 ∧ enough (M.getD a []) r.2.1 = true ∧ t.2.2 = M.idxOf (fire (M.getD a []) r.2.1 r.2.2) := by
  unfold stAt at h
  obtain ⟨r, hr, rfl⟩ := List.mem_map.mp h
  rw [List.mem_filter] at hr
  exact ⟨rfl, r, hr.1, rfl, hr.2, rfl⟩
theorem Rd.step {R : List Row} {m : List Nat} {most n : Nat} {s : Ex} (h : Rd R m most n s) {t : Nat × Str × Nat} (ht : t ∈ s.steps) : t.1 < s.marks.length ∧ t.2.2 < s.marks.length ∧ ∃ r ∈ R, t.2.1 = r.1 ∧ enough (s.marks.getD t.1 []) r.2.1 = true ∧ s.marks.getD t.2.2 [] = fire (s.marks.getD t.1 []) r.2.1 r.2.2 := by
  rw [h.st] at ht
  obtain ⟨a, ha, ht⟩ := List.mem_flatMap.mp ht
  have ha := List.mem_range.mp ha
  obtain ⟨h1, r, hr, h2, h3, h4⟩ := mem_stAt ht
  subst h1
  have hin := h.clo _ ha r hr h3
  have hlt := List.idxOf_lt_length_of_mem hin
  refine ⟨ha, by rw [h4]; exact hlt, r, hr, h2, h3, ?_⟩
  rw [h4, List.getD_eq_getElem?_getD, List.getElem?_eq_getElem hlt]
  exact List.getElem_idxOf hlt
/-- the rows of the graph -/
def aheadN (R : List Row) (M : List (List Nat)) : List (List (Str × Nat)) := (List.range M.length).map fun a => (stAt R M a).map (·.2)
end Sh

set_option Elab.async false
set_option linter.all false
set_option maxRecDepth 100000
set_option maxHeartbeats 1000000
/-! Graphs. -/
namespace Sh
open PySem Dl

abbrev aD (x : Str × Nat) : D := .tup [.str x.1, .int x.2]
theorem ixN_nat {n j : Nat} (h : j < n) : L2.ixN n (j : Int) = some j := by
  unfold L2.ixN
  rw [if_pos (by omega), if_pos (by omega), Int.toNat_natCast]
theorem Rd.stl {R : List Row} {m : List Nat} {most n : Nat} {s : Ex} (h : Rd R m most n s) (hR : R.length ≤ 100) (hL : most ≤ 99999) : s.steps.length ≤ 10000000 := by
  rw [h.st, List.length_flatMap]
  have h1 : ∀ l : List Nat, (l.map fun a => (stAt R s.marks a).length).sum ≤ 100 * l.length := by
    intro l
    induction l with
    | nil => simp
    | cons b l ih =>
      rw [List.map_cons, List.sum_cons, List.length_cons]
      have : (stAt R s.marks b).length ≤ R.length := by
        unfold stAt; rw [List.length_map]; exact List.length_filter_le _ _
      omega
  have h2 := h1 (List.range s.marks.length)
  rw [List.length_range] at h2
  have := h.ei.few
  omega
end Sh

set_option Elab.async false
set_option linter.all false
set_option maxRecDepth 100000
set_option maxHeartbeats 2000000
/-! Parts; truths on graphs. -/
namespace Sh
open PySem Dl
section
variable {ps : List Str} {ms : List Mv}
end
end Sh

set_option Elab.async false
set_option linter.all false
set_option maxRecDepth 100000
set_option maxHeartbeats 2000000
/-! Ranks of ways. -/
namespace Sh
open PySem Dl
/-! ### tables -/
def tab (n : Nat) (f : Nat → D) : List D := (List.range n).map f
theorem tab_len (n : Nat) (f : Nat → D) : (tab n f).length = n := by unfold tab; rw [List.length_map, List.length_range]
theorem tab_at {n : Nat} {f : Nat → D} {a : Nat} (h : a < n) : (tab n f)[a]? = some (f a) := by unfold tab; rw [List.getElem?_map, List.getElem?_range h]; rfl
theorem tab_ix {n : Nat} {f : Nat → D} {a : Nat} (h : a < n) : ixD (.lst (tab n f)) (.int a) = some (f a) := by rw [ix_lst, tab_at h]
theorem tab_set {n : Nat} {f : Nat → D} {a : Nat} {d : D} : (tab n f).set a d = tab n (fun x => if x = a then d else f x) := by
  apply List.ext_getElem?
  intro j
  by_cases hj : j < n
  · rw [tab_at hj]
    by_cases e : a = j
    · subst e; rw [List.getElem?_set_self (by rw [tab_len]; exact hj), if_pos rfl]
    · rw [List.getElem?_set_ne e, tab_at hj, if_neg (fun z => e z.symm)]
  · rw [List.getElem?_eq_none (by rw [List.length_set, tab_len]; omega), List.getElem?_eq_none (by rw [tab_len]; omega)]
def rkD : Option Nat → D
  | none => .non
  | some k => .int k
@[simp] theorem rkD_none : rkD none = .non := rfl
@[simp] theorem rkD_some (k : Nat) : rkD (some k) = .int k := rfl
/-! ### steps of a graph -/
def succN (A : List (List (Str × Nat))) (a : Nat) : List Nat := (A.getD a []).map (·.2)
def namN (A : List (List (Str × Nat))) (a : Nat) : List Str := (A.getD a []).map (·.1)
section
variable {ps : List Str} {ms : List Mv} {R : List Row} {M : List (List Nat)}
end
/-! ### ways -/
structure RightS (n : Nat) (succ : Nat → List Nat) (P Q : Nat → Bool) (rk : Nat → Option Nat) : Prop where
  no : ∀ a, a < n → rk a = none → Q a = false ∧ (P a = false ∨ ∀ k ∈ succ a, rk k = none)
  zero : ∀ a, a < n → rk a = some 0 → Q a = true
  more : ∀ a j, a < n → rk a = some (j + 1) → P a = true ∧ ∃ k ∈ succ a, ∃ i, rk k = some i ∧ i ≤ j
structure RightA (n : Nat) (succ : Nat → List Nat) (P Q : Nat → Bool) (rk : Nat → Option Nat) : Prop where
  no : ∀ a, a < n → rk a = none → Q a = false ∧ (P a = false ∨ succ a = [] ∨ ∃ k ∈ succ a, rk k = none)
  zero : ∀ a, a < n → rk a = some 0 → Q a = true
  more : ∀ a j, a < n → rk a = some (j + 1) → P a = true ∧ succ a ≠ [] ∧ ∀ k ∈ succ a, ∃ i, rk k = some i ∧ i ≤ j
inductive SW (succ : Nat → List Nat) (P Q : Nat → Bool) : Nat → Prop
  | now {a : Nat} (h : Q a = true) : SW succ P Q a
  | step {a k : Nat} (h : P a = true) (hk : k ∈ succ a) (w : SW succ P Q k) : SW succ P Q a
inductive AW (succ : Nat → List Nat) (P Q : Nat → Bool) : Nat → Prop
  | now {a : Nat} (h : Q a = true) : AW succ P Q a
  | step {a : Nat} (h : P a = true) (hn : succ a ≠ []) (w : ∀ k ∈ succ a, AW succ P Q k) : AW succ P Q a
theorem RightS.sw {n : Nat} {succ : Nat → List Nat} {P Q : Nat → Bool} {rk : Nat → Option Nat} (h : RightS n succ P Q rk) (hs : ∀ a, a < n → ∀ k ∈ succ a, k < n) {a : Nat} (ha : a < n) : rk a ≠ none ↔ SW succ P Q a := by
  constructor
  · intro e
    have hind : ∀ j a, a < n → ∀ i, rk a = some i → i ≤ j → SW succ P Q a := by
      intro j
      induction j with
      | zero =>
        intro a ha i e hi
        obtain rfl : i = 0 := by omega
        exact .now (h.zero a ha e)
      | succ j ih =>
        intro a ha i e hi
        cases i with
        | zero => exact .now (h.zero a ha e)
        | succ i =>
          obtain ⟨h1, k, hk, i', h2, h3⟩ := h.more a i ha e
          exact .step h1 hk (ih k (hs a ha k hk) i' h2 (by omega))
    cases hr : rk a with
    | none => exact absurd hr e
    | some i => exact hind i a ha i hr (Nat.le_refl _)
  · intro w
    induction w with
    | now hq => intro e; have := (h.no _ ha e).1; rw [hq] at this; cases this
    | step hp hk w ih =>
      intro e
      rcases (h.no _ ha e).2 with q | q
      · rw [hp] at q; cases q
      · exact ih (hs _ ha _ hk) (q _ hk)
/-! ### counting -/
end Sh

set_option Elab.async false
set_option linter.all false
set_option maxRecDepth 100000
set_option maxHeartbeats 2000000
/-! some_ranks and all_ranks. -/
namespace Sh
open PySem Dl
/-! ### some way -/
section
variable (n : Nat) (succ : Nat → List Nat) (P Q : Nat → Bool)
structure InvS (rk : Nat → Option Nat) (r : Nat) : Prop where
  zero : ∀ a, a < n → (rk a = some 0 ↔ Q a = true)
  more : ∀ a j, a < n → rk a = some (j + 1) → P a = true ∧ (∃ k ∈ succ a, rk k = some j) ∧ j + 1 ≤ r
  clo : ∀ a, a < n → rk a = none → P a = true → ∀ k ∈ succ a, ∀ j, rk k = some j → r ≤ j
structure InvA (rk : Nat → Option Nat) (r : Nat) : Prop where
  zero : ∀ a, a < n → (rk a = some 0 ↔ Q a = true)
  more : ∀ a j, a < n → rk a = some (j + 1) → P a = true ∧ succ a ≠ [] ∧ (∀ k ∈ succ a, ∃ i, rk k = some i ∧ i ≤ j) ∧ j + 1 ≤ r
end
section
variable {n : Nat} {succ : Nat → List Nat} {P Q : Nat → Bool} {rk : Nat → Option Nat} {r : Nat}
end
section
variable {ps : List Str} {ms : List Mv} {R : List Row} {M : List (List Nat)} {P Q : Nat → Bool}
end
end Sh

set_option Elab.async false
set_option linter.all false
set_option maxRecDepth 100000
set_option maxHeartbeats 2000000
/-! all_ranks. -/
namespace Sh
open PySem Dl
section
variable {ps : List Str} {ms : List Mv} {R : List Row} {M : List (List Nat)} {P Q : Nat → Bool}
end
end Sh

set_option Elab.async false
set_option linter.all false
set_option maxRecDepth 100000
set_option maxHeartbeats 2000000
/-! Truths by the program. -/
namespace Sh
open PySem Dl
structure GOk (ps : List Str) (ms : List Mv) (R : List Row) (M : List (List Nat)) : Prop where
  net : NetOk ps ms
  few : R.length ≤ 100
  sm : M.length ≤ 100000
  pos : 1 ≤ M.length
  suc : ∀ a, a < M.length → ∀ k ∈ succN (aheadN R M) a, k < M.length
  nam : ∀ a, a < M.length → ∀ x ∈ namN (aheadN R M) a, nmS x = true
  wid : ∀ m ∈ M, m.length = ps.length
section
variable {ps : List Str} {ms : List Mv} {R : List Row} {M : List (List Nat)} {P Q : Nat → Bool}
def Sen.plain : Sen → Bool
  | .un .. => false
  | .bi .. => false
  | _ => true
end
end Sh

set_option Elab.async false
set_option linter.all false
set_option maxRecDepth 100000
set_option maxHeartbeats 2000000
/-! Rows for sentences, labels. -/
namespace Sh
open PySem Dl
section
variable {ps : List Str} {ms : List Mv} {R : List Row} {M : List (List Nat)}
end
end Sh

set_option Elab.async false
set_option linter.all false
set_option maxRecDepth 100000
set_option maxHeartbeats 2000000
/-! Labels, truths, holds. -/
namespace Sh
open PySem Dl
/-! ### parts come behind those within -/
def Cl : (Sen → Prop) → List Sen → Prop
  | _, [] => True
  | K, t :: l => (∀ u ∈ t.inner, K u) ∧ Cl (fun x => K x ∨ x = t) l
theorem Cl.mono {K K' : Sen → Prop} : ∀ {l : List Sen}, (∀ x, K x → K' x) → Cl K l → Cl K' l
  | [], _, _ => trivial
  | t :: l, h, c => ⟨fun u hu => h u (c.1 u hu), Cl.mono (fun x q => q.imp (h x) id) c.2⟩
theorem Cl.app {K : Sen → Prop} : ∀ {l m : List Sen}, Cl K l → Cl (fun x => K x ∨ x ∈ l) m → Cl K (l ++ m)
  | [], m, _, c => Cl.mono (fun x q => q.elim id (fun z => by cases z)) c
  | t :: l, m, c1, c2 => ⟨c1.1, Cl.app c1.2 (Cl.mono (fun x q => by
      rcases q with q | q
      · exact .inl (.inl q)
      · rcases List.mem_cons.mp q with z | z
        · exact .inl (.inr z)
        · exact .inr z) c2)⟩
/-! ### labels -/
section
variable {ps : List Str} {ms : List Mv} {R : List Row} {M : List (List Nat)}
end
end Sh

set_option Elab.async false
set_option linter.all false
set_option maxRecDepth 100000
set_option maxHeartbeats 2000000
/-! Truths by the law. -/
namespace Sh
open PySem Dl
/-! ### rounds in place -/
def up (g : Nat → Bool) (a : Nat) : Nat → Bool := fun x => if x = a then true else g x
/-! ### ways -/
/-! ### truth values in lists -/
/-! ### the law's rows -/
section
variable {ps : List Str} {ms : List Mv} {R : List Row} {M : List (List Nat)} {P Q : Nat → Bool}
end
end Sh

set_option Elab.async false
set_option linter.all false
set_option maxRecDepth 100000
set_option maxHeartbeats 2000000
/-! Truths by the law. -/
namespace Sh
open PySem Dl
section
variable {ps : List Str} {ms : List Mv} {R : List Row} {M : List (List Nat)} {st : D}
end
end Sh

set_option Elab.async false
set_option linter.all false
set_option maxRecDepth 100000
set_option maxHeartbeats 2000000
/-! What is come to from a mark. -/
namespace Sh
open PySem Dl
inductive Rch (succ : Nat → List Nat) (a : Nat) : Nat → Prop
  | self : Rch succ a a
  | step {x y : Nat} (h : Rch succ a x) (hy : y ∈ succ x) : Rch succ a y
theorem Rch.trans {succ : Nat → List Nat} {a b c : Nat} (h1 : Rch succ a b) (h2 : Rch succ b c) : Rch succ a c := by
  induction h2 with
  | self => exact h1
  | step _ hy ih => exact .step ih hy
theorem Rch.lt {succ : Nat → List Nat} {n a b : Nat} (hs : ∀ a, a < n → ∀ k ∈ succ a, k < n) (ha : a < n) (h : Rch succ a b) : b < n := by
  induction h with
  | self => exact ha
  | step _ hy ih => exact hs _ ih _ hy
/-- sorting numbers -/
theorem asInts_ni : ∀ l : List Nat, asInts (l.map ni) = some (l.map fun (x : Nat) => (x : Int))
  | [] => rfl
  | x :: l => by
    rw [List.map_cons, asInts, asInts_ni l]; rfl
section
variable {R : List Row} {M : List (List Nat)}
theorem nin_ni (l : List Nat) (k : Nat) : ninD (.int k) (.lst (l.map ni)) = some (.bl (decide (k ∉ l))) := by
  rw [nin_lst (by simp) (fun x hx => by obtain ⟨o, _, rfl⟩ := List.mem_map.mp hx; simp)]
  have hm : (ni k ∈ l.map ni) ↔ k ∈ l := mem_enc ni_inj
  by_cases c : k ∈ l
  · have h1 := hm.mpr c
    simp only [decide_eq_true h1, decide_eq_false (fun z : k ∉ l => z c), Bool.not_true]
  · have h1 : ni k ∉ l.map ni := fun z => c (hm.mp z)
    simp only [decide_eq_false h1, decide_eq_true c, Bool.not_false]
end
end Sh

set_option Elab.async false
set_option linter.all false
set_option maxRecDepth 100000
set_option maxHeartbeats 2000000
/-! Steps of graphs, turned steps, floods. -/
namespace Sh
open PySem Dl
local macro_rules | `(tactic| simp_arith [$ts,*]) => `(tactic| simp only [ev_bind_ok, ev_bind_exc, ev_bindF_ok, ev_bindF_exc, ev_sNext, ev_sSeq, ev_sIf, ev_sRet, ev_sSet, ev_sOwn, ev_sDrop, ev_sRaise, ev_sFrz, ev_sUnp, ev_sFor, ev_eC, Dl.ev_e1, Dl.ev_e2, ev_eB, ev_eCall, ev_aNil, ev_aCons, ev_eIf, blR_bl, ev_tB1, ev_tAnd, ev_tOr, andK_bl, orK_bl, notK_bl, ev_eAnd, ev_eOr, ev_eNot, ev_tNot, ev_tYes, ev_oNone, ev_oSome, ev_eSl, ev_iSeq, ev_iRng, ev_eN, ev_ofO_some, ev_eV0, ev_eVs, lt_int, le_int, gt_int, ge_int, add_int, sub_int, iadd_int, len_tup, len_lst, eq_int, ne_int, itD_tup, itD_lst, put_one, fz_nil, fz_val, fz_no, fz_own, fz_succ, od_lst, od_lol, od_dk, od_dt, odict_lst, odict_dk, odict_dt, wp_nil, wp_cons, sa_nil, sa_cons, put_all, ev_eTup', ev_eLst', ev_nLst, ev_nLc, ev_eGen', ev_tBor, ev_eBor, ev_sPar, ev_eM, ev_eM0, ev_eCallM, ev_aSnoc, ok_tup, ok_lst, ok_str, ev_tIf, notB_eq, isB_eq, isN_eq, notN_eq, neg_int, tupD_lst, tupD_tup, listD_lst, listD_tup, pure_int, pure_bl, pure_str, pure_non, pureL_int, ev_eIsi, addD_lst, addD_tup, ix_t0, ix_t1, ix_t2, ix_l0, ix_l1, ix_l2, isi_tt, isi_ss, isT_tup, isS_str, List.set_cons_succ, List.set_cons_zero, List.length_cons, List.length_nil, Nat.reduceAdd, Nat.reduceLeDiff, Nat.zero_add, Nat.zero_le, if_true, if_false, Bool.false_eq_true, decide_true, decide_false, Bool.not_true, Bool.not_false, Bool.true_or, Bool.false_or, Bool.or_true, Bool.or_false, Bool.true_and, Bool.false_and, Bool.and_true, Bool.and_false, Int.cast_ofNat_Int, Int.reduceEq, Int.reduceLT, Int.reduceLE, Int.reduceNeg, reduceCtorEq, List.cons_append, List.nil_append, eq_of, ne_of, String.reduceEq, $ts,*])
abbrev nL (l : List Nat) : D := .lst (l.map ni)
abbrev tS (n : Nat) (T : Nat → List Nat) : D := .lst (tab n fun a => nL (T a))
theorem map_tabl {α : Type} (l : List α) (f : α → D) (d : α) : l.map f = tab l.length fun a => f (l.getD a d) := by
  refine List.ext_getElem (by rw [List.length_map, tab_len]) fun i h1 h2 => ?_
  have hi : i < l.length := by simpa using h1
  have e : l.getD i d = l[i] := by rw [List.getD_eq_getElem?_getD, List.getElem?_eq_getElem hi]; rfl
  simp only [tab, List.getElem_map, List.getElem_range, e]
section
variable {ps : List Str} {ms : List Mv} {R : List Row} {M : List (List Nat)}
end
/-! ### turned steps -/
/-! ### floods -/
noncomputable def rcB (succ : Nat → List Nat) (a x : Nat) : Bool := @decide (Rch succ a x) (Classical.propDecidable _)
theorem rcB_iff {succ : Nat → List Nat} {a x : Nat} : rcB succ a x = true ↔ Rch succ a x := by unfold rcB; exact @decide_eq_true_iff _ (Classical.propDecidable _)
end Sh

set_option Elab.async false
set_option linter.all false
set_option maxRecDepth 100000
set_option maxHeartbeats 4000000
namespace Sh
open PySem PySem.Spec PyProof.Rows L2 Dl
noncomputable section

/-! ### _law_parts -/
end
end Sh

set_option Elab.async false
set_option linter.all false
set_option maxRecDepth 100000
set_option maxHeartbeats 2000000
/-! Parts of graphs. -/
namespace Sh
open PySem Dl
local macro_rules | `(tactic| simp_arith [$ts,*]) => `(tactic| simp only [ev_bind_ok, ev_bind_exc, ev_bindF_ok, ev_bindF_exc, ev_sNext, ev_sSeq, ev_sIf, ev_sRet, ev_sSet, ev_sOwn, ev_sDrop, ev_sRaise, ev_sFrz, ev_sUnp, ev_sFor, ev_eC, Dl.ev_e1, Dl.ev_e2, ev_eB, ev_eCall, ev_aNil, ev_aCons, ev_eIf, blR_bl, ev_tB1, ev_tAnd, ev_tOr, andK_bl, orK_bl, notK_bl, ev_eAnd, ev_eOr, ev_eNot, ev_tNot, ev_tYes, ev_oNone, ev_oSome, ev_eSl, ev_iSeq, ev_iRng, ev_eN, ev_ofO_some, ev_eV0, ev_eVs, lt_int, le_int, gt_int, ge_int, add_int, sub_int, iadd_int, len_tup, len_lst, eq_int, ne_int, itD_tup, itD_lst, put_one, fz_nil, fz_val, fz_no, fz_own, fz_succ, od_lst, od_lol, od_dk, od_dt, odict_lst, odict_dk, odict_dt, wp_nil, wp_cons, sa_nil, sa_cons, put_all, ev_eTup', ev_eLst', ev_nLst, ev_nLc, ev_eGen', ev_tBor, ev_eBor, ev_sPar, ev_eM, ev_eM0, ev_eCallM, ev_aSnoc, ok_tup, ok_lst, ok_str, ev_tIf, notB_eq, isB_eq, isN_eq, notN_eq, neg_int, tupD_lst, tupD_tup, listD_lst, listD_tup, pure_int, pure_bl, pure_str, pure_non, pureL_int, ev_eIsi, addD_lst, addD_tup, ix_t0, ix_t1, ix_t2, ix_l0, ix_l1, ix_l2, isi_tt, isi_ss, isT_tup, isS_str, List.set_cons_succ, List.set_cons_zero, List.length_cons, List.length_nil, Nat.reduceAdd, Nat.reduceLeDiff, Nat.zero_add, Nat.zero_le, if_true, if_false, Bool.false_eq_true, decide_true, decide_false, Bool.not_true, Bool.not_false, Bool.true_or, Bool.false_or, Bool.or_true, Bool.or_false, Bool.true_and, Bool.false_and, Bool.and_true, Bool.and_false, Int.cast_ofNat_Int, Int.reduceEq, Int.reduceLT, Int.reduceLE, Int.reduceNeg, reduceCtorEq, List.cons_append, List.nil_append, eq_of, ne_of, String.reduceEq, $ts,*])
theorem Rch.congr {s t : Nat → List Nat} (h : ∀ a x, x ∈ s a ↔ x ∈ t a) {a b : Nat} : Rch s a b ↔ Rch t a b := by
  constructor
  · intro r
    induction r with
    | self => exact .self
    | step _ hy ih => exact .step ih ((h _ _).mp hy)
  · intro r
    induction r with
    | self => exact .self
    | step _ hy ih => exact .step ih ((h _ _).mpr hy)
noncomputable def scc (n : Nat) (s : Nat → List Nat) (a : Nat) : List Nat := (List.range n).filter fun k => rcB s a k && rcB s k a
theorem mem_scc {n : Nat} {s : Nat → List Nat} {a k : Nat} : k ∈ scc n s a ↔ k < n ∧ Rch s a k ∧ Rch s k a := by
  unfold scc
  rw [List.mem_filter, List.mem_range, Bool.and_eq_true, rcB_iff, rcB_iff]
def inP (P : List (List Nat)) (x : Nat) : Bool := P.any fun p => decide (x ∈ p)
theorem inP_iff {P : List (List Nat)} {x : Nat} : inP P x = true ↔ ∃ p ∈ P, x ∈ p := by
  unfold inP
  rw [List.any_eq_true]
  exact ⟨fun ⟨p, h, e⟩ => ⟨p, h, of_decide_eq_true e⟩, fun ⟨p, h, e⟩ => ⟨p, h, decide_eq_true e⟩⟩
noncomputable def pstep (n : Nat) (s : Nat → List Nat) (P : List (List Nat)) (a : Nat) : List (List Nat) := if inP P a = true then P else P ++ [scc n s a]
noncomputable def prts (n : Nat) (s : Nat → List Nat) : List (List Nat) := (List.range n).foldl (pstep n s) []
structure PrI (n : Nat) (s : Nat → List Nat) (pre : List Nat) (P : List (List Nat)) : Prop where
  sc : ∀ p ∈ P, ∃ a ∈ pre, p = scc n s a
  all : ∀ x ∈ pre, inP P x = true
  dis : P.Pairwise fun p q => ∀ x ∈ p, x ∉ q
  few : P.length ≤ pre.length
theorem PrI.step {n : Nat} {s : Nat → List Nat} {pre : List Nat} {P : List (List Nat)} (h : PrI n s pre P) {a : Nat} (ha : a < n) : PrI n s (pre ++ [a]) (pstep n s P a) := by
  unfold pstep
  by_cases c : inP P a = true
  · rw [if_pos c]
    refine ⟨fun p hp => ?_, fun x hx => ?_, h.dis, by have := h.few; simp; omega⟩
    · obtain ⟨b, h1, h2⟩ := h.sc p hp
      exact ⟨b, List.mem_append_left _ h1, h2⟩
    · rcases List.mem_append.mp hx with z | z
      · exact h.all x z
      · rw [List.mem_singleton.mp z]; exact c
  · rw [if_neg c]
    refine ⟨fun p hp => ?_, fun x hx => ?_, ?_, by have := h.few; simp; omega⟩
    · rcases List.mem_append.mp hp with z | z
      · obtain ⟨b, h1, h2⟩ := h.sc p z
        exact ⟨b, List.mem_append_left _ h1, h2⟩
      · exact ⟨a, by simp, List.mem_singleton.mp z⟩
    · rw [inP_iff]
      rcases List.mem_append.mp hx with z | z
      · obtain ⟨p, h1, h2⟩ := inP_iff.mp (h.all x z)
        exact ⟨p, List.mem_append_left _ h1, h2⟩
      · rw [List.mem_singleton.mp z]
        exact ⟨scc n s a, by simp, mem_scc.mpr ⟨ha, .self, .self⟩⟩
    · rw [List.pairwise_append]
      refine ⟨h.dis, by simp, fun p hp q hq x hx hxq => c ?_⟩
      rw [List.mem_singleton.mp hq] at hxq
      obtain ⟨b, h1, rfl⟩ := h.sc p hp
      rw [inP_iff]
      obtain ⟨x1, x2, x3⟩ := mem_scc.mp hx
      obtain ⟨y1, y2, y3⟩ := mem_scc.mp hxq
      exact ⟨_, hp, mem_scc.mpr ⟨ha, x2.trans y3, y2.trans x3⟩⟩
section
variable {ps : List Str} {ms : List Mv} {R : List Row} {M : List (List Nat)}
/-! ### the law's parts -/
theorem in_ni (l : List Nat) (k : Nat) : inD (.int k) (.lst (l.map ni)) = some (.bl (decide (k ∈ l))) := by
  rw [in_lst (by simp) (fun x hx => by obtain ⟨o, _, rfl⟩ := List.mem_map.mp hx; simp)]
  have hm : (ni k ∈ l.map ni) ↔ k ∈ l := mem_enc ni_inj
  by_cases c : k ∈ l
  · have h1 := hm.mpr c
    simp only [decide_eq_true h1, decide_eq_true c]
  · have h1 : ni k ∉ l.map ni := fun z => c (hm.mp z)
    simp only [decide_eq_false h1, decide_eq_false c]
theorem in_nt (l : List Nat) (k : Nat) : inD (.int k) (nt l) = some (.bl (decide (k ∈ l))) := by
  have h : inD (.int k) (.tup (l.map ni)) = some (.bl (decide (k ∈ l))) := by
    rw [in_tup (by simp) (fun x hx => by obtain ⟨o, _, rfl⟩ := List.mem_map.mp hx; simp)]
    have hm : (ni k ∈ l.map ni) ↔ k ∈ l := mem_enc ni_inj
    by_cases c : k ∈ l
    · have h1 := hm.mpr c
      simp only [decide_eq_true h1, decide_eq_true c]
    · have h1 : ni k ∉ l.map ni := fun z => c (hm.mp z)
      simp only [decide_eq_false h1, decide_eq_false c]
  exact h
end
end Sh

set_option Elab.async false
set_option linter.all false
set_option maxRecDepth 100000
set_option maxHeartbeats 2000000
/-! Ranks of parts. -/
namespace Sh
open PySem Dl
local macro_rules | `(tactic| simp_arith [$ts,*]) => `(tactic| simp only [ev_bind_ok, ev_bind_exc, ev_bindF_ok, ev_bindF_exc, ev_sNext, ev_sSeq, ev_sIf, ev_sRet, ev_sSet, ev_sOwn, ev_sDrop, ev_sRaise, ev_sFrz, ev_sUnp, ev_sFor, ev_eC, Dl.ev_e1, Dl.ev_e2, ev_eB, ev_eCall, ev_aNil, ev_aCons, ev_eIf, blR_bl, ev_tB1, ev_tAnd, ev_tOr, andK_bl, orK_bl, notK_bl, ev_eAnd, ev_eOr, ev_eNot, ev_tNot, ev_tYes, ev_oNone, ev_oSome, ev_eSl, ev_iSeq, ev_iRng, ev_eN, ev_ofO_some, ev_eV0, ev_eVs, lt_int, le_int, gt_int, ge_int, add_int, sub_int, iadd_int, len_tup, len_lst, eq_int, ne_int, itD_tup, itD_lst, put_one, fz_nil, fz_val, fz_no, fz_own, fz_succ, od_lst, od_lol, od_dk, od_dt, odict_lst, odict_dk, odict_dt, wp_nil, wp_cons, sa_nil, sa_cons, put_all, ev_eTup', ev_eLst', ev_nLst, ev_nLc, ev_eGen', ev_tBor, ev_eBor, ev_sPar, ev_eM, ev_eM0, ev_eCallM, ev_aSnoc, ok_tup, ok_lst, ok_str, ev_tIf, notB_eq, isB_eq, isN_eq, notN_eq, neg_int, tupD_lst, tupD_tup, listD_lst, listD_tup, pure_int, pure_bl, pure_str, pure_non, pureL_int, ev_eIsi, addD_lst, addD_tup, ix_t0, ix_t1, ix_t2, ix_l0, ix_l1, ix_l2, isi_tt, isi_ss, isT_tup, isS_str, List.set_cons_succ, List.set_cons_zero, List.length_cons, List.length_nil, Nat.reduceAdd, Nat.reduceLeDiff, Nat.zero_add, Nat.zero_le, if_true, if_false, Bool.false_eq_true, decide_true, decide_false, Bool.not_true, Bool.not_false, Bool.true_or, Bool.false_or, Bool.or_true, Bool.or_false, Bool.true_and, Bool.false_and, Bool.and_true, Bool.and_false, Int.cast_ofNat_Int, Int.reduceEq, Int.reduceLT, Int.reduceLE, Int.reduceNeg, reduceCtorEq, List.cons_append, List.nil_append, eq_of, ne_of, String.reduceEq, $ts,*])
/-! ### dicts with numbers as keys -/
/-! ### comprehensions of two clauses -/
/-! ### numbers of parts -/
noncomputable def hom (n : Nat) (s : Nat → List Nat) (x : Nat) : Nat := (prts n s).idxOf (scc n s x)
noncomputable def bey (n : Nat) (s : Nat → List Nat) (st : Nat → List Nat) (k : Nat) : List Nat := ((prts n s).getD k []).flatMap fun x => ((st x).filter fun y => !decide (hom n s y = k)).map (hom n s)
noncomputable def elig (n : Nat) (s st : Nat → List Nat) (rk : Nat → Option Nat) (k : Nat) : Bool := (bey n s st k).all fun m => !decide (rk m = none)
theorem mem_bey {n : Nat} {s st : Nat → List Nat} {k m : Nat} : m ∈ bey n s st k ↔ ∃ x ∈ (prts n s).getD k [], ∃ y ∈ st x, hom n s y = m ∧ m ≠ k := by
  unfold bey
  rw [List.mem_flatMap]
  constructor
  · rintro ⟨x, hx, h⟩
    obtain ⟨y, hy, rfl⟩ := List.mem_map.mp h
    rw [List.mem_filter] at hy
    exact ⟨x, hx, y, hy.1, rfl, by simpa using hy.2⟩
  · rintro ⟨x, hx, y, hy, rfl, h⟩
    exact ⟨x, hx, List.mem_map.mpr ⟨y, List.mem_filter.mpr ⟨hy, by simpa using h⟩, rfl⟩⟩
/-- ranks so far -/
structure RkI (n : Nat) (s : Nat → List Nat) (rk : Nat → Option Nat) (r : Nat) : Prop where
  lt : ∀ k j, rk k = some j → j < r
  inj : ∀ k k' j, rk k = some j → rk k' = some j → k = k'
  dn : ∀ k j, rk k = some j → k < (prts n s).length ∧ ∀ m ∈ bey n s s k, ∃ i, rk m = some i ∧ i < j
theorem bey_congr {n : Nat} {s st : Nat → List Nat} (hst : ∀ a x, x ∈ st a ↔ x ∈ s a) {k m : Nat} : m ∈ bey n s st k ↔ m ∈ bey n s s k := by
  rw [mem_bey, mem_bey]
  exact ⟨fun ⟨x, hx, y, hy, h⟩ => ⟨x, hx, y, (hst _ _).mp hy, h⟩, fun ⟨x, hx, y, hy, h⟩ => ⟨x, hx, y, (hst _ _).mpr hy, h⟩⟩
theorem RkI.step {n : Nat} {s st : Nat → List Nat} (hst : ∀ a x, x ∈ st a ↔ x ∈ s a) {rk : Nat → Option Nat} {r k : Nat} (h : RkI n s rk r) (hk : k < (prts n s).length) (h0 : rk k = none) (he : elig n s st rk k = true) : RkI n s (fun x => if x = k then some r else rk x) (r + 1) := by
  refine ⟨fun a j e => ?_, fun a b j e1 e2 => ?_, fun a j e => ?_⟩
  · have e : (if a = k then some r else rk a) = some j := e
    split at e
    · injection e with e; omega
    · have := h.lt a j e; omega
  · have e1 : (if a = k then some r else rk a) = some j := e1
    have e2 : (if b = k then some r else rk b) = some j := e2
    split at e1
    · split at e2
      · rename_i x y; rw [x, y]
      · injection e1 with e1
        have := h.lt b j e2; omega
    · split at e2
      · injection e2 with e2
        have := h.lt a j e1; omega
      · exact h.inj a b j e1 e2
  · have e' : (if a = k then some r else rk a) = some j := e
    clear e
    split at e'
    · rename_i ea
      injection e' with e
      subst ea e
      refine ⟨hk, fun m hm => ?_⟩
      have h1 := List.all_eq_true.mp he m ((bey_congr hst).mpr hm)
      have hmk : m ≠ a := by
        obtain ⟨_, _, _, _, _, z⟩ := mem_bey.mp hm
        exact z
      simp only [if_neg hmk]
      cases em : rk m with
      | none => rw [em] at h1; cases h1
      | some i => exact ⟨i, rfl, h.lt m i em⟩
    · obtain ⟨h1, h2⟩ := h.dn a j e'
      refine ⟨h1, fun m hm => ?_⟩
      obtain ⟨i, e1, e2⟩ := h2 m hm
      refine ⟨i, ?_, e2⟩
      show (if m = k then some r else rk m) = some i
      rw [if_neg fun z : m = k => by rw [z, h0] at e1; cases e1]; exact e1
section
variable {ps : List Str} {ms : List Mv} {R : List Row} {M : List (List Nat)}
end
end Sh

set_option Elab.async false
set_option linter.all false
set_option maxRecDepth 100000
set_option maxHeartbeats 2000000
/-! Ranks of graphs. -/
namespace Sh
open PySem Dl
local macro_rules | `(tactic| simp_arith [$ts,*]) => `(tactic| simp only [ev_bind_ok, ev_bind_exc, ev_bindF_ok, ev_bindF_exc, ev_sNext, ev_sSeq, ev_sIf, ev_sRet, ev_sSet, ev_sOwn, ev_sDrop, ev_sRaise, ev_sFrz, ev_sUnp, ev_sFor, ev_eC, Dl.ev_e1, Dl.ev_e2, ev_eB, ev_eCall, ev_aNil, ev_aCons, ev_eIf, blR_bl, ev_tB1, ev_tAnd, ev_tOr, andK_bl, orK_bl, notK_bl, ev_eAnd, ev_eOr, ev_eNot, ev_tNot, ev_tYes, ev_oNone, ev_oSome, ev_eSl, ev_iSeq, ev_iRng, ev_eN, ev_ofO_some, ev_eV0, ev_eVs, lt_int, le_int, gt_int, ge_int, add_int, sub_int, iadd_int, len_tup, len_lst, eq_int, ne_int, itD_tup, itD_lst, put_one, fz_nil, fz_val, fz_no, fz_own, fz_succ, od_lst, od_lol, od_dk, od_dt, odict_lst, odict_dk, odict_dt, wp_nil, wp_cons, sa_nil, sa_cons, put_all, ev_eTup', ev_eLst', ev_nLst, ev_nLc, ev_eGen', ev_tBor, ev_eBor, ev_sPar, ev_eM, ev_eM0, ev_eCallM, ev_aSnoc, ok_tup, ok_lst, ok_str, ev_tIf, notB_eq, isB_eq, isN_eq, notN_eq, neg_int, tupD_lst, tupD_tup, listD_lst, listD_tup, pure_int, pure_bl, pure_str, pure_non, pureL_int, ev_eIsi, addD_lst, addD_tup, ix_t0, ix_t1, ix_t2, ix_l0, ix_l1, ix_l2, isi_tt, isi_ss, isT_tup, isS_str, List.set_cons_succ, List.set_cons_zero, List.length_cons, List.length_nil, Nat.reduceAdd, Nat.reduceLeDiff, Nat.zero_add, Nat.zero_le, if_true, if_false, Bool.false_eq_true, decide_true, decide_false, Bool.not_true, Bool.not_false, Bool.true_or, Bool.false_or, Bool.or_true, Bool.or_false, Bool.true_and, Bool.false_and, Bool.and_true, Bool.and_false, Int.cast_ofNat_Int, Int.reduceEq, Int.reduceLT, Int.reduceLE, Int.reduceNeg, reduceCtorEq, List.cons_append, List.nil_append, eq_of, ne_of, String.reduceEq, $ts,*])
section
variable {ps : List Str} {ms : List Mv} {R : List Row} {M : List (List Nat)} {n : Nat} {s st : Nat → List Nat}
structure Rnk (n : Nat) (s : Nat → List Nat) (rr : Nat → Nat) : Prop where
  le : ∀ x, x < n → ∀ y ∈ s x, rr y ≤ rr x
  eq : ∀ x y, x < n → y < n → (rr x = rr y ↔ Rch s x y ∧ Rch s y x)
  lt : ∀ x, x < n → rr x < (prts n s).length
end
end Sh

set_option Elab.async false
set_option linter.all false
set_option maxRecDepth 100000
set_option maxHeartbeats 2000000
/-! Ways in graphs. -/
namespace Sh
open PySem Dl
local macro_rules | `(tactic| simp_arith [$ts,*]) => `(tactic| simp only [ev_bind_ok, ev_bind_exc, ev_bindF_ok, ev_bindF_exc, ev_sNext, ev_sSeq, ev_sIf, ev_sRet, ev_sSet, ev_sOwn, ev_sDrop, ev_sRaise, ev_sFrz, ev_sUnp, ev_sFor, ev_eC, Dl.ev_e1, Dl.ev_e2, ev_eB, ev_eCall, ev_aNil, ev_aCons, ev_eIf, blR_bl, ev_tB1, ev_tAnd, ev_tOr, andK_bl, orK_bl, notK_bl, ev_eAnd, ev_eOr, ev_eNot, ev_tNot, ev_tYes, ev_oNone, ev_oSome, ev_eSl, ev_iSeq, ev_iRng, ev_eN, ev_ofO_some, ev_eV0, ev_eVs, lt_int, le_int, gt_int, ge_int, add_int, sub_int, iadd_int, len_tup, len_lst, eq_int, ne_int, itD_tup, itD_lst, put_one, fz_nil, fz_val, fz_no, fz_own, fz_succ, od_lst, od_lol, od_dk, od_dt, odict_lst, odict_dk, odict_dt, wp_nil, wp_cons, sa_nil, sa_cons, put_all, ev_eTup', ev_eLst', ev_nLst, ev_nLc, ev_eGen', ev_tBor, ev_eBor, ev_sPar, ev_eM, ev_eM0, ev_eCallM, ev_aSnoc, ok_tup, ok_lst, ok_str, ev_tIf, notB_eq, isB_eq, isN_eq, notN_eq, neg_int, tupD_lst, tupD_tup, listD_lst, listD_tup, pure_int, pure_bl, pure_str, pure_non, pureL_int, ev_eIsi, addD_lst, addD_tup, ix_t0, ix_t1, ix_t2, ix_l0, ix_l1, ix_l2, isi_tt, isi_ss, isT_tup, isS_str, List.set_cons_succ, List.set_cons_zero, List.length_cons, List.length_nil, Nat.reduceAdd, Nat.reduceLeDiff, Nat.zero_add, Nat.zero_le, if_true, if_false, Bool.false_eq_true, decide_true, decide_false, Bool.not_true, Bool.not_false, Bool.true_or, Bool.false_or, Bool.or_true, Bool.or_false, Bool.true_and, Bool.false_and, Bool.and_true, Bool.and_false, Int.cast_ofNat_Int, Int.reduceEq, Int.reduceLT, Int.reduceLE, Int.reduceNeg, reduceCtorEq, List.cons_append, List.nil_append, eq_of, ne_of, String.reduceEq, $ts,*])
inductive Wk (A : List (List (Str × Nat))) (ins : Nat → Bool) : Nat → List Str → Nat → Prop
  | nil {x : Nat} : Wk A ins x [] x
  | cons {x y z : Nat} {nm : Str} {w : List Str} (h : (nm, y) ∈ A.getD x []) (hi : ins y = true) (r : Wk A ins y w z) : Wk A ins x (nm :: w) z
theorem Wk.app {A : List (List (Str × Nat))} {ins : Nat → Bool} {x y z : Nat} {u v : List Str} (h1 : Wk A ins x u y) (h2 : Wk A ins y v z) : Wk A ins x (u ++ v) z := by
  induction h1 with
  | nil => exact h2
  | cons h hi _ ih => exact .cons h hi (ih h2)
theorem Wk.snoc {A : List (List (Str × Nat))} {ins : Nat → Bool} {x z : Nat} {nm : Str} : ∀ {w : List Str} {x : Nat}, Wk A ins x (w ++ [nm]) z → ∃ y, Wk A ins x w y ∧ (nm, z) ∈ A.getD y [] ∧ ins z = true
  | [], x, h => by
    cases h with
    | cons h hi r => cases r; exact ⟨x, .nil, h, hi⟩
  | m :: w, x, h => by
    cases h with
    | cons h hi r =>
      obtain ⟨y, h1, h2⟩ := Wk.snoc (x := x) r
      exact ⟨y, .cons h hi h1, h2⟩
theorem Wk.last {A : List (List (Str × Nat))} {ins : Nat → Bool} {x y z : Nat} {nm : Str} {w : List Str} (h1 : Wk A ins x w y) (h : (nm, z) ∈ A.getD y []) (hi : ins z = true) : Wk A ins x (w ++ [nm]) z := h1.app (.cons h hi .nil)
/-- the search so far -/
structure Bf (A : List (List (Str × Nat))) (ins gl : Nat → Bool) (n a : Nat) (W : List Nat) (par : Nat → Option (Nat × Str)) (dp : Nat → Nat) (k : Nat) : Prop where
  nd : W.Nodup
  lt : ∀ x ∈ W, x < n
  root : a ∈ W
  pa : ∀ x ∈ W, par x = none → x = a
  ps : ∀ x ∈ W, ∀ p nm, par x = some (p, nm) → (nm, x) ∈ A.getD p [] ∧ ins x = true ∧ p ∈ W ∧ W.idxOf p < W.idxOf x ∧ dp x = dp p + 1
  d0 : dp a = 0
  mo : W.Pairwise fun x y => dp x ≤ dp y
  up : ∀ x ∈ W, ∀ i, i < k → i < W.length → W.getD i 0 = x → gl x = false ∧ ∀ nm y, (nm, y) ∈ A.getD x [] → ins y = true → y ∈ W ∧ dp y ≤ dp x + 1
  le : k < W.length → ∀ x ∈ W, dp x ≤ dp (W.getD k 0) + 1
theorem idx_getD {W : List Nat} {x : Nat} (h : x ∈ W) : W.getD (W.idxOf x) 0 = x := by
  have hl := List.idxOf_lt_length_of_mem h
  rw [List.getD_eq_getElem?_getD, List.getElem?_eq_getElem hl, Option.getD_some, List.getElem_idxOf hl]
theorem getD_mem {W : List Nat} {k : Nat} (h : k < W.length) : W.getD k 0 ∈ W := by
  rw [List.getD_eq_getElem?_getD, List.getElem?_eq_getElem h, Option.getD_some]
  exact List.getElem_mem h
theorem pw_at {W : List Nat} {r : Nat → Nat → Prop} (hp : W.Pairwise r) {i j : Nat} (hij : i < j) (hj : j < W.length) : r (W.getD i 0) (W.getD j 0) := by
  rw [List.getD_eq_getElem?_getD, List.getElem?_eq_getElem (by omega : i < W.length), List.getD_eq_getElem?_getD, List.getElem?_eq_getElem hj]
  exact List.pairwise_iff_getElem.mp hp i j (by omega) hj hij
section
variable {A : List (List (Str × Nat))} {ins gl : Nat → Bool} {n a : Nat} {W : List Nat} {par : Nat → Option (Nat × Str)} {dp : Nat → Nat} {k : Nat}
theorem Bf.before (h : Bf A ins gl n a W par dp k) (hk : k < W.length) {y : Nat} (hy : y ∈ W) (hd : dp y < dp (W.getD k 0)) : W.idxOf y < k := by
  apply Classical.byContradiction
  intro hn
  have hl := List.idxOf_lt_length_of_mem hy
  by_cases e : W.idxOf y = k
  · rw [← e, idx_getD hy] at hd; omega
  · have := pw_at h.mo (show k < W.idxOf y by omega) hl
    rw [idx_getD hy] at this; omega
theorem Bf.min (h : Bf A ins gl n a W par dp k) (hk : k < W.length) : ∀ (c : Nat) (w : List Str) (z : Nat), w.length = c → c ≤ dp (W.getD k 0) → Wk A ins a w z → z ∈ W ∧ dp z ≤ c
  | 0, w, z, hc, _, hw => by
    rw [List.length_eq_zero_iff] at hc
    subst hc
    cases hw
    exact ⟨h.root, by rw [h.d0]; exact Nat.le_refl _⟩
  | c + 1, w, z, hc, hd, hw => by
    rcases List.eq_nil_or_concat w with rfl | ⟨w0, nm, rfl⟩
    · cases hc
    · rw [List.concat_eq_append] at hc hw
      rw [List.length_append, List.length_singleton] at hc
      obtain ⟨y, h1, h2, h3⟩ := Wk.snoc (x := a) hw
      obtain ⟨i1, i2⟩ := Bf.min h hk c w0 y (by omega) (by omega) h1
      have hb := h.before hk i1 (by omega)
      obtain ⟨_, h5⟩ := h.up y i1 _ hb (List.idxOf_lt_length_of_mem i1) (idx_getD i1)
      obtain ⟨h6, h7⟩ := h5 nm z h2 h3
      exact ⟨h6, by omega⟩
theorem Bf.best (h : Bf A ins gl n a W par dp k) (hk : k < W.length) {w : List Str} {z : Nat} (hw : Wk A ins a w z) (hz : gl z = true) : dp (W.getD k 0) ≤ w.length := by
  apply Classical.byContradiction
  intro hn
  obtain ⟨i1, i2⟩ := h.min hk w.length w z rfl (by omega) hw
  have hb := h.before hk i1 (by omega)
  have := (h.up z i1 _ hb (List.idxOf_lt_length_of_mem i1) (idx_getD i1)).1
  rw [this] at hz; cases hz
theorem Bf.all (h : Bf A ins gl n a W par dp k) (hk : W.length ≤ k) : ∀ (c : Nat) (w : List Str) (z : Nat), w.length = c → Wk A ins a w z → z ∈ W ∧ gl z = false
  | 0, w, z, hc, hw => by
    rw [List.length_eq_zero_iff] at hc
    subst hc
    cases hw
    have hl := List.idxOf_lt_length_of_mem h.root
    exact ⟨h.root, (h.up a h.root _ (by omega) hl (idx_getD h.root)).1⟩
  | c + 1, w, z, hc, hw => by
    rcases List.eq_nil_or_concat w with rfl | ⟨w0, nm, rfl⟩
    · cases hc
    · rw [List.concat_eq_append] at hc hw
      rw [List.length_append, List.length_singleton] at hc
      obtain ⟨y, h1, h2, h3⟩ := Wk.snoc (x := a) hw
      obtain ⟨i1, _⟩ := Bf.all h hk c w0 y (by omega) h1
      have hl := List.idxOf_lt_length_of_mem i1
      obtain ⟨_, h5⟩ := h.up y i1 _ (by omega) hl (idx_getD i1)
      have hzW := (h5 nm z h2 h3).1
      have hl2 := List.idxOf_lt_length_of_mem hzW
      exact ⟨hzW, (h.up z hzW _ (by omega) hl2 (idx_getD hzW)).1⟩
/-- within the walk over the steps of one mark -/
structure Bm (A : List (List (Str × Nat))) (ins gl : Nat → Bool) (n a : Nat) (W : List Nat) (par : Nat → Option (Nat × Str)) (dp : Nat → Nat) (k : Nat) (done : List (Str × Nat)) : Prop where
  b : Bf A ins gl n a W par dp k
  kl : k < W.length
  dn : ∀ nm y, (nm, y) ∈ done → ins y = true → y ∈ W ∧ dp y ≤ dp (W.getD k 0) + 1
theorem Bm.next (h : Bm A ins gl n a W par dp k (A.getD (W.getD k 0) [])) (hg : gl (W.getD k 0) = false) : Bf A ins gl n a W par dp (k + 1) where
  nd := h.b.nd
  lt := h.b.lt
  root := h.b.root
  pa := h.b.pa
  ps := h.b.ps
  d0 := h.b.d0
  mo := h.b.mo
  up := fun x hx i hik hil e => by
    by_cases c : i = k
    · subst c
      subst e
      exact ⟨hg, fun m z hz hzi => h.dn m z hz hzi⟩
    · exact h.b.up x hx i (by omega) hil e
  le := fun hk x hx => by
    have h1 := h.b.le h.kl x hx
    have h2 : dp (W.getD k 0) ≤ dp (W.getD (k + 1) 0) := pw_at h.b.mo (Nat.lt_succ_self k) hk
    omega
end
end Sh

set_option Elab.async false
set_option linter.all false
set_option maxRecDepth 100000
set_option maxHeartbeats 2000000
/-! The search for ways. -/
namespace Sh
open PySem Dl
local macro_rules | `(tactic| simp_arith [$ts,*]) => `(tactic| simp only [ev_bind_ok, ev_bind_exc, ev_bindF_ok, ev_bindF_exc, ev_sNext, ev_sSeq, ev_sIf, ev_sRet, ev_sSet, ev_sOwn, ev_sDrop, ev_sRaise, ev_sFrz, ev_sUnp, ev_sFor, ev_eC, Dl.ev_e1, Dl.ev_e2, ev_eB, ev_eCall, ev_aNil, ev_aCons, ev_eIf, blR_bl, ev_tB1, ev_tAnd, ev_tOr, andK_bl, orK_bl, notK_bl, ev_eAnd, ev_eOr, ev_eNot, ev_tNot, ev_tYes, ev_oNone, ev_oSome, ev_eSl, ev_iSeq, ev_iRng, ev_eN, ev_ofO_some, ev_eV0, ev_eVs, lt_int, le_int, gt_int, ge_int, add_int, sub_int, iadd_int, len_tup, len_lst, eq_int, ne_int, itD_tup, itD_lst, put_one, fz_nil, fz_val, fz_no, fz_own, fz_succ, od_lst, od_lol, od_dk, od_dt, odict_lst, odict_dk, odict_dt, wp_nil, wp_cons, sa_nil, sa_cons, put_all, ev_eTup', ev_eLst', ev_nLst, ev_nLc, ev_eGen', ev_tBor, ev_eBor, ev_sPar, ev_eM, ev_eM0, ev_eCallM, ev_aSnoc, ok_tup, ok_lst, ok_str, ev_tIf, notB_eq, isB_eq, isN_eq, notN_eq, neg_int, tupD_lst, tupD_tup, listD_lst, listD_tup, pure_int, pure_bl, pure_str, pure_non, pureL_int, ev_eIsi, addD_lst, addD_tup, ix_t0, ix_t1, ix_t2, ix_l0, ix_l1, ix_l2, isi_tt, isi_ss, isT_tup, isS_str, List.set_cons_succ, List.set_cons_zero, List.length_cons, List.length_nil, Nat.reduceAdd, Nat.reduceLeDiff, Nat.zero_add, Nat.zero_le, if_true, if_false, Bool.false_eq_true, decide_true, decide_false, Bool.not_true, Bool.not_false, Bool.true_or, Bool.false_or, Bool.or_true, Bool.or_false, Bool.true_and, Bool.false_and, Bool.and_true, Bool.and_false, Int.cast_ofNat_Int, Int.reduceEq, Int.reduceLT, Int.reduceLE, Int.reduceNeg, reduceCtorEq, List.cons_append, List.nil_append, eq_of, ne_of, String.reduceEq, $ts,*])
section
variable {ps : List Str} {ms : List Mv} {R : List Row} {M : List (List Nat)} {ins gl : Nat → Bool} {n a : Nat}
end
end Sh

set_option Elab.async false
set_option linter.all false
set_option maxRecDepth 100000
set_option maxHeartbeats 2000000
/-! Words that are run. -/
namespace Sh
open PySem Dl
local macro_rules | `(tactic| simp_arith [$ts,*]) => `(tactic| simp only [ev_bind_ok, ev_bind_exc, ev_bindF_ok, ev_bindF_exc, ev_sNext, ev_sSeq, ev_sIf, ev_sRet, ev_sSet, ev_sOwn, ev_sDrop, ev_sRaise, ev_sFrz, ev_sUnp, ev_sFor, ev_eC, Dl.ev_e1, Dl.ev_e2, ev_eB, ev_eCall, ev_aNil, ev_aCons, ev_eIf, blR_bl, ev_tB1, ev_tAnd, ev_tOr, andK_bl, orK_bl, notK_bl, ev_eAnd, ev_eOr, ev_eNot, ev_tNot, ev_tYes, ev_oNone, ev_oSome, ev_eSl, ev_iSeq, ev_iRng, ev_eN, ev_ofO_some, ev_eV0, ev_eVs, lt_int, le_int, gt_int, ge_int, add_int, sub_int, iadd_int, len_tup, len_lst, eq_int, ne_int, itD_tup, itD_lst, put_one, fz_nil, fz_val, fz_no, fz_own, fz_succ, od_lst, od_lol, od_dk, od_dt, odict_lst, odict_dk, odict_dt, wp_nil, wp_cons, sa_nil, sa_cons, put_all, ev_eTup', ev_eLst', ev_nLst, ev_nLc, ev_eGen', ev_tBor, ev_eBor, ev_sPar, ev_eM, ev_eM0, ev_eCallM, ev_aSnoc, ok_tup, ok_lst, ok_str, ev_tIf, notB_eq, isB_eq, isN_eq, notN_eq, neg_int, tupD_lst, tupD_tup, listD_lst, listD_tup, pure_int, pure_bl, pure_str, pure_non, pureL_int, ev_eIsi, addD_lst, addD_tup, ix_t0, ix_t1, ix_t2, ix_l0, ix_l1, ix_l2, isi_tt, isi_ss, isT_tup, isS_str, List.set_cons_succ, List.set_cons_zero, List.length_cons, List.length_nil, Nat.reduceAdd, Nat.reduceLeDiff, Nat.zero_add, Nat.zero_le, if_true, if_false, Bool.false_eq_true, decide_true, decide_false, Bool.not_true, Bool.not_false, Bool.true_or, Bool.false_or, Bool.or_true, Bool.or_false, Bool.true_and, Bool.false_and, Bool.and_true, Bool.and_false, Int.cast_ofNat_Int, Int.reduceEq, Int.reduceLT, Int.reduceLE, Int.reduceNeg, reduceCtorEq, List.cons_append, List.nil_append, eq_of, ne_of, String.reduceEq, $ts,*])
def rowAt (R : List Row) (x : Str) : Option Row := (R.filter fun r => decide (r.1 = x)).head?
def run (R : List Row) : List Nat → List Str → Option (List Nat)
  | m, [] => some m
  | m, x :: w => match rowAt R x with
    | some r => if enough m r.2.1 = true then run R (fire m r.2.1 r.2.2) w else none
    | none => none
structure RwOk (n : Nat) (R : List Row) : Prop where
  wid : ∀ r ∈ R, r.2.1.length = n ∧ r.2.2.length = n
  few : R.length ≤ 100
  good : ∀ r ∈ R, goodS r.1 = true
  nd : (R.map (·.1)).Nodup
section
variable {ps : List Str} {ms : List Mv}
end
/-! ### runs are ways in the graph -/
section
variable {R : List Row} {M : List (List Nat)} {n : Nat}
end
end Sh

set_option Elab.async false
set_option linter.all false
set_option maxRecDepth 100000
set_option maxHeartbeats 2000000
/-! Moves within parts, loops. -/
namespace Sh
open PySem Dl
local macro_rules | `(tactic| simp_arith [$ts,*]) => `(tactic| simp only [ev_bind_ok, ev_bind_exc, ev_bindF_ok, ev_bindF_exc, ev_sNext, ev_sSeq, ev_sIf, ev_sRet, ev_sSet, ev_sOwn, ev_sDrop, ev_sRaise, ev_sFrz, ev_sUnp, ev_sFor, ev_eC, Dl.ev_e1, Dl.ev_e2, ev_eB, ev_eCall, ev_aNil, ev_aCons, ev_eIf, blR_bl, ev_tB1, ev_tAnd, ev_tOr, andK_bl, orK_bl, notK_bl, ev_eAnd, ev_eOr, ev_eNot, ev_tNot, ev_tYes, ev_oNone, ev_oSome, ev_eSl, ev_iSeq, ev_iRng, ev_eN, ev_ofO_some, ev_eV0, ev_eVs, lt_int, le_int, gt_int, ge_int, add_int, sub_int, iadd_int, len_tup, len_lst, eq_int, ne_int, itD_tup, itD_lst, put_one, fz_nil, fz_val, fz_no, fz_own, fz_succ, od_lst, od_lol, od_dk, od_dt, odict_lst, odict_dk, odict_dt, wp_nil, wp_cons, sa_nil, sa_cons, put_all, ev_eTup', ev_eLst', ev_nLst, ev_nLc, ev_eGen', ev_tBor, ev_eBor, ev_sPar, ev_eM, ev_eM0, ev_eCallM, ev_aSnoc, ok_tup, ok_lst, ok_str, ev_tIf, notB_eq, isB_eq, isN_eq, notN_eq, neg_int, tupD_lst, tupD_tup, listD_lst, listD_tup, pure_int, pure_bl, pure_str, pure_non, pureL_int, ev_eIsi, addD_lst, addD_tup, ix_t0, ix_t1, ix_t2, ix_l0, ix_l1, ix_l2, isi_tt, isi_ss, isT_tup, isS_str, List.set_cons_succ, List.set_cons_zero, List.length_cons, List.length_nil, Nat.reduceAdd, Nat.reduceLeDiff, Nat.zero_add, Nat.zero_le, if_true, if_false, Bool.false_eq_true, decide_true, decide_false, Bool.not_true, Bool.not_false, Bool.true_or, Bool.false_or, Bool.or_true, Bool.or_false, Bool.true_and, Bool.false_and, Bool.and_true, Bool.and_false, Int.cast_ofNat_Int, Int.reduceEq, Int.reduceLT, Int.reduceLE, Int.reduceNeg, reduceCtorEq, List.cons_append, List.nil_append, eq_of, ne_of, String.reduceEq, $ts,*])
theorem in_stt {l : List Str} {x : Str} (hx : goodS x = true) (hl : ∀ y ∈ l, goodS y = true) : inD (.str x) (.tup (stl l)) = some (.bl (decide (x ∈ l))) := by
  rw [in_tup (gd_str hx) (gd_stl hl)]
  have hm : (D.str x ∈ stl l) ↔ x ∈ l := mem_enc str_inj
  by_cases c : x ∈ l
  · have h1 := hm.mpr c
    simp only [decide_eq_true h1, decide_eq_true c]
  · have h1 : D.str x ∉ stl l := fun z => c (hm.mp z)
    simp only [decide_eq_false h1, decide_eq_false c]
/-- the moves of the steps that stay in a part -/
def innA (A : List (List (Str × Nat))) (p : List Nat) (F : List Str) (a : Nat) : List Str := F ++ ((A.getD a []).filter fun e => decide (e.2 ∈ p) && !decide (e.1 ∈ F)).map (·.1)
def inner (A : List (List (Str × Nat))) (p : List Nat) : List Str := p.foldl (innA A p) []
section
variable {ps : List Str} {ms : List Mv} {R : List Row} {M : List (List Nat)}
/-! ### ways within a part -/
theorem Wk.weak {A : List (List (Str × Nat))} {i1 i2 : Nat → Bool} (h : ∀ z, i1 z = true → i2 z = true) {x y : Nat} {w : List Str} (hw : Wk A i1 x w y) : Wk A i2 x w y := by
  induction hw with
  | nil => exact .nil
  | cons he hi _ ih => exact .cons he (h _ hi) ih
end
end Sh

set_option Elab.async false
set_option linter.all false
set_option maxRecDepth 100000
set_option maxHeartbeats 2000000
/-! Loops in parts, names. -/
namespace Sh
open PySem Dl
local macro_rules | `(tactic| simp_arith [$ts,*]) => `(tactic| simp only [ev_bind_ok, ev_bind_exc, ev_bindF_ok, ev_bindF_exc, ev_sNext, ev_sSeq, ev_sIf, ev_sRet, ev_sSet, ev_sOwn, ev_sDrop, ev_sRaise, ev_sFrz, ev_sUnp, ev_sFor, ev_eC, Dl.ev_e1, Dl.ev_e2, ev_eB, ev_eCall, ev_aNil, ev_aCons, ev_eIf, blR_bl, ev_tB1, ev_tAnd, ev_tOr, andK_bl, orK_bl, notK_bl, ev_eAnd, ev_eOr, ev_eNot, ev_tNot, ev_tYes, ev_oNone, ev_oSome, ev_eSl, ev_iSeq, ev_iRng, ev_eN, ev_ofO_some, ev_eV0, ev_eVs, lt_int, le_int, gt_int, ge_int, add_int, sub_int, iadd_int, len_tup, len_lst, eq_int, ne_int, itD_tup, itD_lst, put_one, fz_nil, fz_val, fz_no, fz_own, fz_succ, od_lst, od_lol, od_dk, od_dt, odict_lst, odict_dk, odict_dt, wp_nil, wp_cons, sa_nil, sa_cons, put_all, ev_eTup', ev_eLst', ev_nLst, ev_nLc, ev_eGen', ev_tBor, ev_eBor, ev_sPar, ev_eM, ev_eM0, ev_eCallM, ev_aSnoc, ok_tup, ok_lst, ok_str, ev_tIf, notB_eq, isB_eq, isN_eq, notN_eq, neg_int, tupD_lst, tupD_tup, listD_lst, listD_tup, pure_int, pure_bl, pure_str, pure_non, pureL_int, ev_eIsi, addD_lst, addD_tup, ix_t0, ix_t1, ix_t2, ix_l0, ix_l1, ix_l2, isi_tt, isi_ss, isT_tup, isS_str, List.set_cons_succ, List.set_cons_zero, List.length_cons, List.length_nil, Nat.reduceAdd, Nat.reduceLeDiff, Nat.zero_add, Nat.zero_le, if_true, if_false, Bool.false_eq_true, decide_true, decide_false, Bool.not_true, Bool.not_false, Bool.true_or, Bool.false_or, Bool.or_true, Bool.or_false, Bool.true_and, Bool.false_and, Bool.and_true, Bool.and_false, Int.cast_ofNat_Int, Int.reduceEq, Int.reduceLT, Int.reduceLE, Int.reduceNeg, reduceCtorEq, List.cons_append, List.nil_append, eq_of, ne_of, String.reduceEq, $ts,*])
section
variable {ps : List Str} {ms : List Mv} {R : List Row} {M : List (List Nat)}
/-! ### names -/
theorem cnt_stl {l : List Str} {x : Str} (hx : goodS x = true) (hl : ∀ y ∈ l, goodS y = true) : cntD (.tup (stl l)) [.str x] = some (.int (l.count x : Nat)) := by
  show (if sh (.tup (stl l)) && sh (.str x) then some (D.int (((stl l).countP fun z => eqv z (.str x)) : Nat)) else none) = _
  rw [gd_sh (k := 1) (gd_tup (k := 0) (gd_stl hl)), gd_sh (k := 0) (gd_str hx)]
  simp only [Bool.and_self, if_true]
  congr 3
  have : (fun z => eqv (D.str z) (.str x)) = fun z => eqv (D.str z) (.str x) := rfl
  rw [List.countP_map]
  unfold List.count
  refine List.countP_congr fun z _ => ?_
  simp only [Function.comp, beq_iff_eq]
  rw [eqv_dec rfl rfl]
  simp
structure NmOk (ms : List Mv) (names : List Str) : Prop where
  sub : ∀ x ∈ names, x ∈ nsOf ms
  nd : names.Nodup
end
end Sh

set_option Elab.async false
set_option linter.all false
set_option maxRecDepth 100000
set_option maxHeartbeats 2000000
/-! What is reached from the first mark; ranks with lacks; the judge of runs without end. -/
namespace Sh
open PySem Dl
local macro_rules | `(tactic| simp_arith [$ts,*]) => `(tactic| simp only [ev_bind_ok, ev_bind_exc, ev_bindF_ok, ev_bindF_exc, ev_sNext, ev_sSeq, ev_sIf, ev_sRet, ev_sSet, ev_sOwn, ev_sDrop, ev_sRaise, ev_sFrz, ev_sUnp, ev_sFor, ev_eC, Dl.ev_e1, Dl.ev_e2, ev_eB, ev_eCall, ev_aNil, ev_aCons, ev_eIf, blR_bl, ev_tB1, ev_tAnd, ev_tOr, andK_bl, orK_bl, notK_bl, ev_eAnd, ev_eOr, ev_eNot, ev_tNot, ev_tYes, ev_oNone, ev_oSome, ev_eSl, ev_iSeq, ev_iRng, ev_eN, ev_ofO_some, ev_eV0, ev_eVs, lt_int, le_int, gt_int, ge_int, add_int, sub_int, iadd_int, len_tup, len_lst, eq_int, ne_int, itD_tup, itD_lst, put_one, fz_nil, fz_val, fz_no, fz_own, fz_succ, od_lst, od_lol, od_dk, od_dt, odict_lst, odict_dk, odict_dt, wp_nil, wp_cons, sa_nil, sa_cons, put_all, ev_eTup', ev_eLst', ev_nLst, ev_nLc, ev_eGen', ev_tBor, ev_eBor, ev_sPar, ev_eM, ev_eM0, ev_eCallM, ev_aSnoc, ok_tup, ok_lst, ok_str, ev_tIf, notB_eq, isB_eq, isN_eq, notN_eq, neg_int, tupD_lst, tupD_tup, listD_lst, listD_tup, pure_int, pure_bl, pure_str, pure_non, pureL_int, ev_eIsi, addD_lst, addD_tup, ix_t0, ix_t1, ix_t2, ix_l0, ix_l1, ix_l2, isi_tt, isi_ss, isT_tup, isS_str, List.set_cons_succ, List.set_cons_zero, List.length_cons, List.length_nil, Nat.reduceAdd, Nat.reduceLeDiff, Nat.zero_add, Nat.zero_le, if_true, if_false, Bool.false_eq_true, decide_true, decide_false, Bool.not_true, Bool.not_false, Bool.true_or, Bool.false_or, Bool.or_true, Bool.or_false, Bool.true_and, Bool.false_and, Bool.and_true, Bool.and_false, Int.cast_ofNat_Int, Int.reduceEq, Int.reduceLT, Int.reduceLE, Int.reduceNeg, reduceCtorEq, List.cons_append, List.nil_append, eq_of, ne_of, String.reduceEq, $ts,*])
/-! ### each mark is reached -/
/-! ### steps -/
section
variable {ps : List Str} {ms : List Mv} {R : List Row} {M : List (List Nat)}
end
/-! ### ranks with lacks -/
def lkD : Option Str → D
  | none => .non
  | some x => .str x
theorem lk_ix {ls : List (Option Str)} {i : Int} (h0 : 0 ≤ i) (h : i < (ls.length : Int)) : ixD (.tup (ls.map lkD)) (.int i) = some (lkD (ls.getD i.toNat none)) := by
  have e : i = ((i.toNat : Nat) : Int) := (Int.toNat_of_nonneg h0).symm
  have hl : i.toNat < ls.length := by omega
  rw [e, ix_tup, List.getElem?_map, List.getElem?_eq_getElem hl]
  simp only [Int.toNat_natCast, List.getD_eq_getElem?_getD, List.getElem?_eq_getElem hl]
  rfl
structure LkOk (ls : List (Option Str)) : Prop where
  good : ∀ x, some x ∈ ls → goodS x = true
section
variable {ps : List Str} {ms : List Mv} {R : List Row} {M : List (List Nat)}
/-! ### the judge -/
theorem paper_is3 {x y : D} (w k : String) : m_is_paper [.tup [.str w, x, y], .str k, .int 3] = .ok (.bl (decide (w = k))) := by
  have hi : initE 3 [.tup [.str w, x, y], .str k, .int 3] = [.val (.tup [.str w, x, y]), .val (.str k), .val (.int 3)] := rfl
  unfold m_is_paper runF b_is_paper
  rw [hi]
  simp_arith []
theorem paper_no3 (d : D) (k : String) (h : isT d = false ∨ (∃ xs, d = .tup xs ∧ xs.length ≠ 3)) (ht : tyOk d) : m_is_paper [d, .str k, .int 3] = .ok (.bl false) := by
  have hi : initE 3 [d, .str k, .int 3] = [.val d, .val (.str k), .val (.int 3)] := rfl
  obtain ⟨t, ht⟩ := ht
  unfold m_is_paper runF b_is_paper
  rw [hi]
  rcases h with h | ⟨xs, rfl, h⟩
  · simp_arith [isi_tuple d ht, h]
  · have : ¬ ((xs.length : Int) = 3) := by omega
    simp_arith [this]
end
end Sh

set_option Elab.async false
set_option linter.all false
set_option maxRecDepth 100000
set_option maxHeartbeats 2000000
/-! Papers on runs without end. -/
namespace Sh
open PySem Dl
local macro_rules | `(tactic| simp_arith [$ts,*]) => `(tactic| simp only [ev_bind_ok, ev_bind_exc, ev_bindF_ok, ev_bindF_exc, ev_sNext, ev_sSeq, ev_sIf, ev_sRet, ev_sSet, ev_sOwn, ev_sDrop, ev_sRaise, ev_sFrz, ev_sUnp, ev_sFor, ev_eC, Dl.ev_e1, Dl.ev_e2, ev_eB, ev_eCall, ev_aNil, ev_aCons, ev_eIf, blR_bl, ev_tB1, ev_tAnd, ev_tOr, andK_bl, orK_bl, notK_bl, ev_eAnd, ev_eOr, ev_eNot, ev_tNot, ev_tYes, ev_oNone, ev_oSome, ev_eSl, ev_iSeq, ev_iRng, ev_eN, ev_ofO_some, ev_eV0, ev_eVs, lt_int, le_int, gt_int, ge_int, add_int, sub_int, iadd_int, len_tup, len_lst, eq_int, ne_int, itD_tup, itD_lst, put_one, fz_nil, fz_val, fz_no, fz_own, fz_succ, od_lst, od_lol, od_dk, od_dt, odict_lst, odict_dk, odict_dt, wp_nil, wp_cons, sa_nil, sa_cons, put_all, ev_eTup', ev_eLst', ev_nLst, ev_nLc, ev_eGen', ev_tBor, ev_eBor, ev_sPar, ev_eM, ev_eM0, ev_eCallM, ev_aSnoc, ok_tup, ok_lst, ok_str, ev_tIf, notB_eq, isB_eq, isN_eq, notN_eq, neg_int, tupD_lst, tupD_tup, listD_lst, listD_tup, pure_int, pure_bl, pure_str, pure_non, pureL_int, ev_eIsi, addD_lst, addD_tup, ix_t0, ix_t1, ix_t2, ix_l0, ix_l1, ix_l2, isi_tt, isi_ss, isT_tup, isS_str, List.set_cons_succ, List.set_cons_zero, List.length_cons, List.length_nil, Nat.reduceAdd, Nat.reduceLeDiff, Nat.zero_add, Nat.zero_le, if_true, if_false, Bool.false_eq_true, decide_true, decide_false, Bool.not_true, Bool.not_false, Bool.true_or, Bool.false_or, Bool.or_true, Bool.or_false, Bool.true_and, Bool.false_and, Bool.and_true, Bool.and_false, Int.cast_ofNat_Int, Int.reduceEq, Int.reduceLT, Int.reduceLE, Int.reduceNeg, reduceCtorEq, List.cons_append, List.nil_append, eq_of, ne_of, String.reduceEq, $ts,*])
theorem ex_max (rr : Nat → Nat) : ∀ n : Nat, 0 < n → ∃ x, x < n ∧ ∀ y, y < n → rr y ≤ rr x
  | 0, h => absurd h (Nat.lt_irrefl _)
  | 1, _ => ⟨0, Nat.one_pos, fun y hy => by have : y = 0 := by omega
                                            rw [this]; exact Nat.le_refl _⟩
  | n + 2, _ => by
    obtain ⟨x, hx, h⟩ := ex_max rr (n + 1) (Nat.succ_pos _)
    by_cases c : rr (n + 1) ≤ rr x
    · refine ⟨x, by omega, fun y hy => ?_⟩
      by_cases e : y = n + 1
      · rw [e]; exact c
      · exact h y (by omega)
    · refine ⟨n + 1, by omega, fun y hy => ?_⟩
      by_cases e : y = n + 1
      · rw [e]; exact Nat.le_refl _
      · have := h y (by omega); omega
theorem max_tab {n : Nat} {rr : Nat → Nat} {x : Nat} (hx : x < n) (h : ∀ y, y < n → rr y ≤ rr x) : maxAD [.tup (tab n fun a => ni (rr a))] = some (.int (rr x : Nat)) := by
  have e : (tab n fun a => ni (rr a)) = ((List.range n).map rr).map ni := by unfold tab; rw [List.map_map]; rfl
  show ((asInts (tab n fun a => ni (rr a))).bind fun ns => (maxL ns).map D.int) = _
  rw [e, asInts_ni]
  show (maxL _).map D.int = _
  rw [maxL_ok (m := (rr x : Int)) (List.mem_map.mpr ⟨rr x, List.mem_map_of_mem (List.mem_range.mpr hx), rfl⟩) (fun y hy => by
    obtain ⟨k, hk, rfl⟩ := List.mem_map.mp hy
    obtain ⟨z, hz, rfl⟩ := List.mem_map.mp hk
    have := h z (List.mem_range.mp hz)
    omega)]
  rfl
section
variable {ps : List Str} {ms : List Mv} {R : List Row} {M : List (List Nat)}
end
end Sh

set_option Elab.async false
set_option linter.all false
set_option maxRecDepth 100000
set_option maxHeartbeats 2000000
/-! Small facts: slices, ranges, loops that stay in a part, what the judge refuses. -/
namespace Sh
open PySem Dl
local macro_rules | `(tactic| simp_arith [$ts,*]) => `(tactic| simp only [ev_bind_ok, ev_bind_exc, ev_bindF_ok, ev_bindF_exc, ev_sNext, ev_sSeq, ev_sIf, ev_sRet, ev_sSet, ev_sOwn, ev_sDrop, ev_sRaise, ev_sFrz, ev_sUnp, ev_sFor, ev_eC, Dl.ev_e1, Dl.ev_e2, ev_eB, ev_eCall, ev_aNil, ev_aCons, ev_eIf, blR_bl, ev_tB1, ev_tAnd, ev_tOr, andK_bl, orK_bl, notK_bl, ev_eAnd, ev_eOr, ev_eNot, ev_tNot, ev_tYes, ev_oNone, ev_oSome, ev_eSl, ev_iSeq, ev_iRng, ev_eN, ev_ofO_some, ev_eV0, ev_eVs, lt_int, le_int, gt_int, ge_int, add_int, sub_int, iadd_int, len_tup, len_lst, eq_int, ne_int, itD_tup, itD_lst, put_one, fz_nil, fz_val, fz_no, fz_own, fz_succ, od_lst, od_lol, od_dk, od_dt, odict_lst, odict_dk, odict_dt, wp_nil, wp_cons, sa_nil, sa_cons, put_all, ev_eTup', ev_eLst', ev_nLst, ev_nLc, ev_eGen', ev_tBor, ev_eBor, ev_sPar, ev_eM, ev_eM0, ev_eCallM, ev_aSnoc, ok_tup, ok_lst, ok_str, ev_tIf, notB_eq, isB_eq, isN_eq, notN_eq, neg_int, tupD_lst, tupD_tup, listD_lst, listD_tup, pure_int, pure_bl, pure_str, pure_non, pureL_int, ev_eIsi, addD_lst, addD_tup, ix_t0, ix_t1, ix_t2, ix_l0, ix_l1, ix_l2, isi_tt, isi_ss, isT_tup, isS_str, List.set_cons_succ, List.set_cons_zero, List.length_cons, List.length_nil, Nat.reduceAdd, Nat.reduceLeDiff, Nat.zero_add, Nat.zero_le, if_true, if_false, Bool.false_eq_true, decide_true, decide_false, Bool.not_true, Bool.not_false, Bool.true_or, Bool.false_or, Bool.or_true, Bool.or_false, Bool.true_and, Bool.false_and, Bool.and_true, Bool.and_false, Int.cast_ofNat_Int, Int.reduceEq, Int.reduceLT, Int.reduceLE, Int.reduceNeg, reduceCtorEq, List.cons_append, List.nil_append, eq_of, ne_of, String.reduceEq, $ts,*])
theorem cut_lst (xs : List D) (a : Nat) : slD (.lst xs) (some (a : Int)) none = some (.lst (xs.drop a)) := by
  have h := cut_tup xs a
  have h : some (D.tup (cutD xs (some (a : Int)) none)) = some (D.tup (xs.drop a)) := h
  injection h with h
  injection h with h
  show some (D.lst (cutD xs (some (a : Int)) none)) = _
  rw [h]
theorem rng_12 (a b : Nat) (ha : a < 2 ^ 62) (hb : b < 2 ^ 62) : rngD [.int (a : Int), .int (b : Int)] = some ((List.range (b - a)).map fun k => ni (a + k)) := by
  have h1 : lg (a : Int) 62 = true := lg_of (by simpa using ha) (by decide)
  have h2 : lg (b : Int) 62 = true := lg_of (by simpa using hb) (by decide)
  show (if lg (a : Int) 62 = true ∧ lg (b : Int) 62 = true then _ else _) = _
  rw [if_pos ⟨h1, h2⟩]
  have e : ((b : Int) - (a : Int)).toNat = b - a := by omega
  rw [e]
  congr 1
section
variable {ps : List Str} {ms : List Mv} {R : List Row} {M : List (List Nat)}
theorem getD_inj {M : List (List Nat)} (nd : M.Nodup) {i j : Nat} (hi : i < M.length) (hj : j < M.length) (e : M.getD i [] = M.getD j []) : i = j := by
  rw [List.getD_eq_getElem?_getD, List.getElem?_eq_getElem hi, List.getD_eq_getElem?_getD, List.getElem?_eq_getElem hj] at e
  exact (List.getElem_inj nd).mp e
end
end Sh

set_option Elab.async false
set_option linter.all false
set_option maxRecDepth 100000
set_option maxHeartbeats 2000000
/-! k53: nets of rings. -/
namespace K53
open PySem Dl Sh
local macro_rules | `(tactic| simp_arith [$ts,*]) => `(tactic| simp only [ev_bind_ok, ev_bind_exc, ev_bindF_ok, ev_bindF_exc, ev_sNext, ev_sSeq, ev_sIf, ev_sRet, ev_sSet, ev_sOwn, ev_sDrop, ev_sRaise, ev_sFrz, ev_sUnp, ev_sFor, ev_eC, Dl.ev_e1, Dl.ev_e2, ev_eB, ev_eCall, ev_aNil, ev_aCons, ev_eIf, blR_bl, ev_tB1, ev_tAnd, ev_tOr, andK_bl, orK_bl, notK_bl, ev_eAnd, ev_eOr, ev_eNot, ev_tNot, ev_tYes, ev_oNone, ev_oSome, ev_eSl, ev_iSeq, ev_iRng, ev_eN, ev_ofO_some, ev_eV0, ev_eVs, lt_int, le_int, gt_int, ge_int, add_int, sub_int, iadd_int, len_tup, len_lst, eq_int, ne_int, itD_tup, itD_lst, put_one, fz_nil, fz_val, fz_no, fz_own, fz_succ, od_lst, od_lol, od_dk, od_dt, odict_lst, odict_dk, odict_dt, wp_nil, wp_cons, sa_nil, sa_cons, put_all, ev_eTup', ev_eLst', ev_nLst, ev_nLc, ev_eGen', ev_tBor, ev_eBor, ev_sPar, ev_eM, ev_eM0, ev_eCallM, ev_aSnoc, ok_tup, ok_lst, ok_str, ev_tIf, notB_eq, isB_eq, isN_eq, notN_eq, neg_int, tupD_lst, tupD_tup, listD_lst, listD_tup, pure_int, pure_bl, pure_str, pure_non, pureL_int, ev_eIsi, addD_lst, addD_tup, ix_t0, ix_t1, ix_t2, ix_l0, ix_l1, ix_l2, isi_tt, isi_ss, isT_tup, isS_str, List.set_cons_succ, List.set_cons_zero, List.length_cons, List.length_nil, Nat.reduceAdd, Nat.reduceLeDiff, Nat.zero_add, Nat.zero_le, if_true, if_false, Bool.false_eq_true, decide_true, decide_false, Bool.not_true, Bool.not_false, Bool.true_or, Bool.false_or, Bool.or_true, Bool.or_false, Bool.true_and, Bool.false_and, Bool.and_true, Bool.and_false, Int.cast_ofNat_Int, Int.reduceEq, Int.reduceLT, Int.reduceLE, Int.reduceNeg, reduceCtorEq, List.cons_append, List.nil_append, eq_of, ne_of, String.reduceEq, $ts,*])
def P6 : List Str := ["p", "q", "r", "s", "t", "u"]
def A4 : List Str := ["a", "b", "c", "d"]
theorem pa_nm : ∀ x ∈ P6 ++ A4, nmS x = true := by decide +kernel
theorem pa_nd : (P6 ++ A4).Nodup := by decide +kernel
theorem z_no : Str.ofString "z" ∉ P6 ++ A4 ∧ Str.ofString "zz" ∉ P6 ++ A4 := by decide +kernel
theorem a4_at {j : Nat} (h : j < 4) : ixD (.str (Str.ofString "abcd")) (.int (j : Int)) = some (.str (A4.getD j default)) := by
  match j, h with
  | 0, _ => rfl
  | 1, _ => rfl
  | 2, _ => rfl
  | 3, _ => rfl
abbrev lkD (l : Nat × Nat) : D := .tup [ni l.1, ni l.2]
def gv (lk : List (Nat × Nat)) (k : Nat) : Nat := (lk.getD k (0, 0)).1
def tk (lk : List (Nat × Nat)) (k : Nat) : Nat := (lk.getD k (0, 0)).2
def sdR (ps : List Str) (f : Nat → Nat) (j : Nat) : Sd := ((List.range ps.length).filter fun k => decide (f k = j)).map fun k => (ps.getD k default, 1)
def mvR (ps : List Str) (lk : List (Nat × Nat)) (j : Nat) : Mv := (A4.getD j default, sdR ps (tk lk) j, sdR ps (gv lk) j)
theorem getS {ps : List Str} {k : Nat} (h : k < ps.length) : ps.getD k default = ps[k] := by
  rw [List.getD_eq_getElem?_getD, List.getElem?_eq_getElem h]; rfl
theorem sdR_ok {ps : List Str} (hp : PlOk ps) (f : Nat → Nat) (j : Nat) : SdOk ps (sdR ps f j) := by
  refine ⟨fun p hp' => ?_, ?_⟩
  · obtain ⟨k, hk, rfl⟩ := List.mem_map.mp hp'
    have hk := List.mem_range.mp (List.mem_filter.mp hk).1
    refine ⟨?_, Nat.le_refl 1, (by decide : (1 : Nat) ≤ 9)⟩
    show ps.getD k default ∈ ps
    rw [getS hk]
    exact List.getElem_mem hk
  · unfold sdR
    rw [List.pairwise_map]
    refine List.Pairwise.imp_of_mem (fun {a b} ha hb hab => ?_) (List.Pairwise.filter _ List.pairwise_lt_range)
    have ha := List.mem_range.mp (List.mem_filter.mp ha).1
    have hb := List.mem_range.mp (List.mem_filter.mp hb).1
    show ps.idxOf (ps.getD a default) < ps.idxOf (ps.getD b default)
    rw [getS ha, getS hb, List.Nodup.idxOf_getElem hp.nd a ha, List.Nodup.idxOf_getElem hp.nd b hb]
    exact hab
theorem setF : ∀ (ks : List Nat) (r : List Nat) {i : Nat}, i < r.length → (ks.foldl (fun r k => r.set k 1) r).getD i 0 = if i ∈ ks then 1 else r.getD i 0
  | [], r, i, h => by simp
  | k :: ks, r, i, h => by
    rw [List.foldl_cons, setF ks (r.set k 1) (by rw [List.length_set]; exact h)]
    by_cases c : i ∈ ks
    · simp [c]
    · by_cases d : i = k
      · subst d
        simp [c, List.getD_eq_getElem?_getD, h]
      · have d' : ¬ k = i := fun z => d z.symm
        simp [c, d, List.getD_eq_getElem?_getD, List.getElem?_set, d']
theorem rowR {ps : List Str} (hp : PlOk ps) (f : Nat → Nat) (j : Nat) {k : Nat} (hk : k < ps.length) : (rowN ps (sdR ps f j)).getD k 0 = if f k = j then 1 else 0 := by
  unfold rowN sdR
  rw [List.foldl_map]
  have e : ∀ (ks : List Nat) (r : List Nat), (∀ k ∈ ks, k < ps.length) → ks.foldl (fun r k => r.set (ps.idxOf (ps.getD k default)) 1) r = ks.foldl (fun r k => r.set k 1) r := by
    intro ks
    induction ks with
    | nil => intro r _; rfl
    | cons a ks ih =>
      intro r h
      have ha := h a List.mem_cons_self
      rw [List.foldl_cons, List.foldl_cons, getS ha, List.Nodup.idxOf_getElem hp.nd a ha, ih _ fun b hb => h b (List.mem_cons_of_mem _ hb)]
  have e := e ((List.range ps.length).filter fun k => decide (f k = j)) (ps.map fun _ => 0) fun b hb => List.mem_range.mp (List.mem_filter.mp hb).1
  rw [show (((List.range ps.length).filter fun k => decide (f k = j)).foldl (fun r k => r.set (ps.idxOf (ps.getD k default, 1).1) (ps.getD k default, 1).2) (ps.map fun _ => 0)) = _ from e, setF _ _ (by rw [List.length_map]; exact hk)]
  have hz : (ps.map fun _ => 0).getD k 0 = 0 := by
    rw [List.getD_eq_getElem?_getD, List.getElem?_map]
    cases ps[k]? <;> rfl
  rw [hz]
  by_cases c : f k = j <;> simp [c, hk]
/-- a net of rings -/
structure RN (ps : List Str) (ms : List Mv) (lk : List (Nat × Nat)) : Prop where
  net : NetOk ps ms
  len : lk.length = ps.length
  one : 1 ≤ ps.length
  six : ps.length ≤ 6
  cone : 1 ≤ ms.length
  four : ms.length ≤ 4
  bd : ∀ k, k < ps.length → gv lk k < ms.length ∧ tk lk k < ms.length
  mv : ms = (List.range ms.length).map (mvR ps lk)
  pp : ∀ x ∈ ps, x ∈ P6
theorem ring_net {L : List Nat} (hL : L.length = 30) : ∃ ps ms lk, RN ps ms lk ∧ m__law_ring_net [.lst (ntl L)] = .ok (.tup [plD ps, msD ms, .lst (lk.map lkD)]) := by
  have i0 : ixD (.lst (ntl L)) (.int 0) = some (.int ((L.getD 0 0 : Nat) : Int)) := ntl_ix 0 (by omega)
  have i1 : ixD (.lst (ntl L)) (.int 1) = some (.int ((L.getD 1 0 : Nat) : Int)) := ntl_ix 1 (by omega)
  have m0 : modD (.int ((L.getD 0 0 : Nat) : Int)) (.int 6) = some (.int ((L.getD 0 0 % 6 : Nat) : Int)) := mod_nat _ 6 (by decide)
  have m1 : modD (.int ((L.getD 1 0 : Nat) : Int)) (.int 4) = some (.int ((L.getD 1 0 % 4 : Nat) : Int)) := mod_nat _ 4 (by decide)
  have l0 := Nat.mod_lt (L.getD 0 0) (y := 6) (by decide)
  have l1 := Nat.mod_lt (L.getD 1 0) (y := 4) (by decide)
  generalize L.getD 0 0 % 6 = a at m0 l0
  generalize L.getD 1 0 % 4 = b at m1 l1
  have hN : ((a : Int) + 1) = ((a + 1 : Nat) : Int) := by omega
  have hC : ((b : Int) + 1) = ((b + 1 : Nat) : Int) := by omega
  let lk : List (Nat × Nat) := (List.range (a + 1)).map fun k => (L.getD (2 + 2 * k) 0 % (b + 1), L.getD (3 + 2 * k) 0 % (b + 1))
  let ps : List Str := P6.take (a + 1)
  have hpl : ps.length = a + 1 := by
    show (P6.take (a + 1)).length = a + 1
    rw [List.length_take]
    show min (a + 1) 6 = a + 1
    omega
  have hp : PlOk ps := ⟨fun x hx => pa_nm x (List.mem_append_left _ (List.mem_of_mem_take hx)), (List.nodup_append.mp pa_nd).1.sublist (List.take_sublist _ _), by omega, by omega⟩
  have hlkl : lk.length = a + 1 := by show ((List.range (a + 1)).map _).length = a + 1; simp
  have hgt : ∀ k, k < a + 1 → gv lk k = L.getD (2 + 2 * k) 0 % (b + 1) ∧ tk lk k = L.getD (3 + 2 * k) 0 % (b + 1) := fun k hk => by
    have : lk.getD k (0, 0) = (L.getD (2 + 2 * k) 0 % (b + 1), L.getD (3 + 2 * k) 0 % (b + 1)) := by
      rw [List.getD_eq_getElem?_getD]
      show (((List.range (a + 1)).map _)[k]?).getD (0, 0) = _
      rw [List.getElem?_map, List.getElem?_range hk]; rfl
    unfold gv tk
    rw [this]
    exact ⟨rfl, rfl⟩
  let ms : List Mv := (List.range (b + 1)).map (mvR ps lk)
  have hml : ms.length = b + 1 := by show ((List.range (b + 1)).map _).length = b + 1; simp
  have hnm : ms.map (·.1) = A4.take (b + 1) := by
    show ((List.range (b + 1)).map (mvR ps lk)).map (·.1) = _
    rw [List.map_map]
    have : b = 0 ∨ b = 1 ∨ b = 2 ∨ b = 3 := by omega
    rcases this with rfl | rfl | rfl | rfl <;> rfl
  have hrn : RN ps ms lk := by
    refine ⟨⟨hp, fun m hm => ?_, ?_, by omega⟩, by omega, by omega, by omega, by omega, by omega, fun k hk => ?_, by rw [hml], fun x hx => List.mem_of_mem_take hx⟩
    · obtain ⟨j, hj, rfl⟩ := List.mem_map.mp hm
      refine ⟨?_, sdR_ok hp _ _, sdR_ok hp _ _⟩
      have : (mvR ps lk j).1 ∈ A4.take (b + 1) := by
        rw [← hnm]; exact List.mem_map_of_mem hm
      exact pa_nm _ (List.mem_append_right _ (List.mem_of_mem_take this))
    · rw [hnm]
      exact pa_nd.sublist (List.Sublist.append (List.take_sublist _ _) (List.take_sublist _ _))
    · obtain ⟨h1, h2⟩ := hgt k (by omega)
      rw [h1, h2, hml]
      exact ⟨Nat.mod_lt _ (by omega), Nat.mod_lt _ (by omega)⟩
  refine ⟨ps, ms, lk, hrn, ?_⟩
  have hi : initE 9 [.lst (ntl L)] = [.val (.lst (ntl L)), .no, .no, .no, .no, .no, .no, .no, .no] := rfl
  have hrN := rng_ni (a + 1) (by omega)
  have hrC := rng_ni (b + 1) (by omega)
  have hlk : mapF (.one 8) tYesD y1__law_ring_net [.val (.lst (ntl L)), .val (.int ((a + 1 : Nat) : Int)), .val (.int ((b + 1 : Nat) : Int)), .no, .no, .no, .no, .no, .no] ((List.range (a + 1)).map ni) = .ok (lk.map lkD) := by
    have e : lk.map lkD = (List.range (a + 1)).map fun k => lkD (L.getD (2 + 2 * k) 0 % (b + 1), L.getD (3 + 2 * k) 0 % (b + 1)) := by
      show ((List.range (a + 1)).map _).map lkD = _
      rw [List.map_map]; rfl
    rw [e]
    exact mapF_enc fun k hk => ⟨_, rfl, rfl, by
      have hk := List.mem_range.mp hk
      have mk : mulD (.int 2) (.int ((k : Nat) : Int)) = some (.int (2 * (k : Int))) := rfl
      have j1 := ntl_ix (L := L) (2 + 2 * k) (by omega)
      have j2 := ntl_ix (L := L) (3 + 2 * k) (by omega)
      have e1 : ((2 + 2 * k : Nat) : Int) = 2 + 2 * (k : Int) := by omega
      have e2' : ((3 + 2 * k : Nat) : Int) = 3 + 2 * (k : Int) := by omega
      rw [e1] at j1
      rw [e2'] at j2
      have n1 := mod_nat (L.getD (2 + 2 * k) 0) (b + 1) (by omega)
      have n2 := mod_nat (L.getD (3 + 2 * k) 0) (b + 1) (by omega)
      unfold y1__law_ring_net
      simp only [List.set_cons_succ, List.set_cons_zero]
      simp_arith [mk, j1, j2, n1, n2]⟩
  have hlz : (lk.map lkD).length ≤ 16777216 := by rw [List.length_map]; omega
  have hsl : slD (.tup [.str "p", .str "q", .str "r", .str "s", .str "t", .str "u"]) none (some ((a + 1 : Nat) : Int)) = some (plD ps) := by
    have := slTo_tup (stl P6) (a + 1)
    have e : plD ps = .tup ((stl P6).take (a + 1)) := by
      show D.tup (stl (P6.take (a + 1))) = _
      unfold stl
      rw [List.map_take]
    rw [e]
    exact this
  have hside : ∀ (c f : Nat → Nat) (j : Nat) {cc : Tv} {ff : Ev} {δ : Dl.Env}, (∀ k, k < a + 1 → ∃ δ1, (Tg.one 8).put (ni k) δ = some δ1 ∧ cc δ1 = .ok (decide (f k = j)) ∧ ff δ1 = .ok (pairD (ps.getD k default, 1))) → mapF (.one 8) cc ff δ ((List.range (a + 1)).map ni) = .ok ((sdR ps f j).map pairD) := fun _ f j cc ff δ h => by
    have e : (sdR ps f j).map pairD = ((List.range (a + 1)).filter fun k => decide (f k = j)).map fun k => pairD (ps.getD k default, 1) := by
      unfold sdR
      rw [hpl, List.map_map]; rfl
    rw [e]
    exact mapF_filter fun k hk => by
      obtain ⟨δ1, h1, h2, h3⟩ := h k (List.mem_range.mp hk)
      exact ⟨δ1, h1, h2, fun _ => h3⟩
  have hlx : ∀ k, k < a + 1 → ixD (.lst (lk.map lkD)) (.int ((k : Nat) : Int)) = some (.tup [ni (gv lk k), ni (tk lk k)]) := fun k hk => by
    rw [ix_lst, List.getElem?_map]
    unfold gv tk
    rw [List.getD_eq_getElem?_getD, List.getElem?_eq_getElem (by omega : k < lk.length)]; rfl
  have hpx : ∀ k, k < a + 1 → ixD (plD ps) (.int ((k : Nat) : Int)) = some (.str (ps.getD k default)) := fun k hk => by
    rw [stl_ix (by omega : k < ps.length), getS (by omega)]
  obtain ⟨δ', q1, x6, x7, hδ⟩ := forF_run (t := .one 6) (f := l1__law_ring_net) (enc := ni) (fun pre δ => ∃ x6 x7, δ = [.val (.lst (ntl L)), .val (.int ((a + 1 : Nat) : Int)), .val (.int ((b + 1 : Nat) : Int)), .val (.lst (lk.map lkD)), .val (plD ps), .own (.lst ((pre.map (mvR ps lk)).map mvD)), x6, x7, .no]) (List.range (b + 1))
    (δ := [.val (.lst (ntl L)), .val (.int ((a + 1 : Nat) : Int)), .val (.int ((b + 1 : Nat) : Int)), .val (.lst (lk.map lkD)), .val (plD ps), .own (.lst []), .no, .no, .no]) ⟨.no, .no, rfl⟩ (fun pre j δ hb ⟨x6, x7, hδ⟩ => by
      obtain ⟨hb1, hb2⟩ := range_pre hb
      subst hδ
      have h1 : ∀ x7, mapF (.one 8) c1__law_ring_net y2__law_ring_net [.val (.lst (ntl L)), .val (.int ((a + 1 : Nat) : Int)), .val (.int ((b + 1 : Nat) : Int)), .val (.lst (lk.map lkD)), .val (plD ps), .own (.lst ((pre.map (mvR ps lk)).map mvD)), .val (ni j), x7, .no] ((List.range (a + 1)).map ni) = .ok ((sdR ps (tk lk) j).map pairD) := fun x7 => hside id (tk lk) j fun k hk => ⟨_, rfl, by
        have e : decide (((tk lk k : Nat) : Int) = ((j : Nat) : Int)) = decide (tk lk k = j) := by rw [Bool.eq_iff_iff, decide_eq_true_eq, decide_eq_true_eq]; omega
        unfold c1__law_ring_net
        simp only [List.set_cons_succ, List.set_cons_zero]
        simp_arith [hlx k hk, e], by
        unfold y2__law_ring_net
        simp only [List.set_cons_succ, List.set_cons_zero]
        simp_arith [hpx k hk]
        rfl⟩
      have h2 : ∀ x7, mapF (.one 8) c2__law_ring_net y3__law_ring_net [.val (.lst (ntl L)), .val (.int ((a + 1 : Nat) : Int)), .val (.int ((b + 1 : Nat) : Int)), .val (.lst (lk.map lkD)), .val (plD ps), .own (.lst ((pre.map (mvR ps lk)).map mvD)), .val (ni j), x7, .no] ((List.range (a + 1)).map ni) = .ok ((sdR ps (gv lk) j).map pairD) := fun x7 => hside id (gv lk) j fun k hk => ⟨_, rfl, by
        have e : decide (((gv lk k : Nat) : Int) = ((j : Nat) : Int)) = decide (gv lk k = j) := by rw [Bool.eq_iff_iff, decide_eq_true_eq, decide_eq_true_eq]; omega
        unfold c2__law_ring_net
        simp only [List.set_cons_succ, List.set_cons_zero]
        simp_arith [hlx k hk, e], by
        unfold y3__law_ring_net
        simp only [List.set_cons_succ, List.set_cons_zero]
        simp_arith [hpx k hk]
        rfl⟩
      have hz : ∀ f, ((sdR ps f j).map pairD).length ≤ 16777216 := fun f => by
        rw [List.length_map]
        unfold sdR
        rw [List.length_map]
        exact Nat.le_trans (List.length_filter_le _ _) (by rw [List.length_range]; omega)
      have hF : ((pre.map (mvR ps lk)).map mvD).length < 16777216 := by rw [List.length_map, List.length_map]; omega
      have ha := a4_at (j := j) (by omega)
      refine ⟨_, rfl, [.val (.lst (ntl L)), .val (.int ((a + 1 : Nat) : Int)), .val (.int ((b + 1 : Nat) : Int)), .val (.lst (lk.map lkD)), .val (plD ps), .own (.lst (((pre ++ [j]).map (mvR ps lk)).map mvD)), .val (ni j), .val (sdD (sdR ps (tk lk) j)), .no], ?_, _, _, rfl⟩
      unfold l1__law_ring_net
      simp only [List.set_cons_succ, List.set_cons_zero]
      simp_arith [hrN, h1, hz]
      rw [ev_sApp _ _ (ds := (pre.map (mvR ps lk)).map mvD) rfl hF]
      simp_arith [ha, hrN, h2, hz]
      rw [List.map_append, List.map_append]
      rfl)
  subst hδ
  unfold m__law_ring_net runF b__law_ring_net
  rw [hi]
  simp_arith [i0, m0, hN, i1, m1, hC, hrN, hlk, hlz, hsl, hrC, q1]
  rfl
end K53

set_option Elab.async false
set_option linter.all false
set_option maxRecDepth 100000
set_option maxHeartbeats 2000000
/-! k53: givers and takers; nets of rings are told from others. -/
namespace K53
open PySem Dl Sh
local macro_rules | `(tactic| simp_arith [$ts,*]) => `(tactic| simp only [ev_bind_ok, ev_bind_exc, ev_bindF_ok, ev_bindF_exc, ev_sNext, ev_sSeq, ev_sIf, ev_sRet, ev_sSet, ev_sOwn, ev_sDrop, ev_sRaise, ev_sFrz, ev_sUnp, ev_sFor, ev_eC, Dl.ev_e1, Dl.ev_e2, ev_eB, ev_eCall, ev_aNil, ev_aCons, ev_eIf, blR_bl, ev_tB1, ev_tAnd, ev_tOr, andK_bl, orK_bl, notK_bl, ev_eAnd, ev_eOr, ev_eNot, ev_tNot, ev_tYes, ev_oNone, ev_oSome, ev_eSl, ev_iSeq, ev_iRng, ev_eN, ev_ofO_some, ev_eV0, ev_eVs, lt_int, le_int, gt_int, ge_int, add_int, sub_int, iadd_int, len_tup, len_lst, eq_int, ne_int, itD_tup, itD_lst, put_one, fz_nil, fz_val, fz_no, fz_own, fz_succ, od_lst, od_lol, od_dk, od_dt, odict_lst, odict_dk, odict_dt, wp_nil, wp_cons, sa_nil, sa_cons, put_all, ev_eTup', ev_eLst', ev_nLst, ev_nLc, ev_eGen', ev_tBor, ev_eBor, ev_sPar, ev_eM, ev_eM0, ev_eCallM, ev_aSnoc, ok_tup, ok_lst, ok_str, ev_tIf, notB_eq, isB_eq, isN_eq, notN_eq, neg_int, tupD_lst, tupD_tup, listD_lst, listD_tup, pure_int, pure_bl, pure_str, pure_non, pureL_int, ev_eIsi, addD_lst, addD_tup, ix_t0, ix_t1, ix_t2, ix_l0, ix_l1, ix_l2, isi_tt, isi_ss, isT_tup, isS_str, List.set_cons_succ, List.set_cons_zero, List.length_cons, List.length_nil, Nat.reduceAdd, Nat.reduceLeDiff, Nat.zero_add, Nat.zero_le, if_true, if_false, Bool.false_eq_true, decide_true, decide_false, Bool.not_true, Bool.not_false, Bool.true_or, Bool.false_or, Bool.or_true, Bool.or_false, Bool.true_and, Bool.false_and, Bool.and_true, Bool.and_false, Int.cast_ofNat_Int, Int.reduceEq, Int.reduceLT, Int.reduceLE, Int.reduceNeg, reduceCtorEq, List.cons_append, List.nil_append, eq_of, ne_of, String.reduceEq, $ts,*])
def gvs (R : List Row) (a : Nat) : List Nat := (List.range R.length).filter fun j => decide (0 < (R.getD j ("", [], [])).2.2.getD a 0)
def tks (R : List Row) (a : Nat) : List Nat := (List.range R.length).filter fun j => decide (0 < (R.getD j ("", [], [])).2.1.getD a 0)
abbrev llD (p : List Nat × List Nat) : D := .tup [.lst (p.1.map ni), .lst (p.2.map ni)]
def lks (R : List Row) (n : Nat) : List (List Nat × List Nat) := (List.range n).map fun a => (gvs R a, tks R a)
section
variable {ps : List Str} {ms : List Mv}
theorem row_ix {R : List Row} {k : Nat} (h : k < R.length) : ixD (.lst (R.map rwD)) (.int ((k : Nat) : Int)) = some (rwD (R.getD k ("", [], []))) := by
  rw [ix_lst, List.getElem?_map, List.getElem?_eq_getElem h, List.getD_eq_getElem?_getD, List.getElem?_eq_getElem h]; rfl
theorem getR {R : List Row} {n : Nat} (hR : RowsOk n R) {k : Nat} (h : k < R.length) : (R.getD k ("", [], [])).2.1.length = n ∧ (R.getD k ("", [], [])).2.2.length = n := by
  rw [List.getD_eq_getElem?_getD, List.getElem?_eq_getElem h]
  exact hR.1 _ (List.getElem_mem h)
theorem links_ok (h : NetOk ps ms) : m_links_of [netD ps ms] = .ok (.lst ((lks (rowsN ps ms) ps.length).map llD)) := by
  have hi : initE 7 [netD ps ms] = [.val (netD ps ms), .no, .no, .no, .no, .no, .no] := rfl
  have hrw := rows_of_ok h
  have hR := rows_okN h
  have hf := fld_places ps ms
  have hfew := h.pl.few
  have hln : ((stl ps).length : Int) = ((ps.length : Nat) : Int) := by unfold stl; rw [List.length_map]
  have hrl : (((rowsN ps ms).map rwD).length : Int) = (((rowsN ps ms).length : Nat) : Int) := by rw [List.length_map]
  have hRf := hR.2
  have hr1 := rng_ni ps.length (by omega)
  have hr2 := rng_ni (rowsN ps ms).length (by omega)
  generalize rowsN ps ms = R at *
  obtain ⟨δ', q1, x3, x4, x5, hδ⟩ := forF_run (t := .one 3) (f := l1_links_of) (enc := ni) (fun pre δ => ∃ x3 x4 x5, δ = [.val (netD ps ms), .val (.lst (R.map rwD)), .own (.lst ((pre.map fun a => (gvs R a, tks R a)).map llD)), x3, x4, x5, .no]) (List.range ps.length)
    (δ := [.val (netD ps ms), .val (.lst (R.map rwD)), .own (.lst []), .no, .no, .no, .no]) ⟨.no, .no, .no, rfl⟩ (fun pre a δ hb ⟨x3, x4, x5, hδ⟩ => by
      obtain ⟨hb1, hb2⟩ := range_pre hb
      subst hδ
      have m1 : ∀ x4 x5, mapF (.one 6) c1_links_of y1_links_of [.val (netD ps ms), .val (.lst (R.map rwD)), .own (.lst ((pre.map fun a => (gvs R a, tks R a)).map llD)), .val (ni a), x4, x5, .no] ((List.range R.length).map ni) = .ok ((gvs R a).map ni) := fun x4 x5 => mapF_filter fun k hk => ⟨_, rfl, by
        have hk := List.mem_range.mp hk
        have i1 := row_ix hk
        have hl := getR hR hk
        have i2 : ixD (rwD (R.getD k ("", [], []))) (.int 2) = some (nt (R.getD k ("", [], [])).2.2) := rfl
        have i3 := nt_ix (m := (R.getD k ("", [], [])).2.2) (k := a) (by omega)
        have e : decide ((0 : Int) < (((R.getD k ("", [], [])).2.2.getD a 0 : Nat) : Int)) = decide (0 < (R.getD k ("", [], [])).2.2.getD a 0) := by rw [Bool.eq_iff_iff, decide_eq_true_eq, decide_eq_true_eq]; omega
        generalize rwD (R.getD k ("", [], [])) = rr at i1 i2
        unfold c1_links_of
        simp only [List.set_cons_succ, List.set_cons_zero]
        simp_arith [i1, i2, i3, e], fun _ => rfl⟩
      have m2 : ∀ x4 x5, mapF (.one 6) c2_links_of y2_links_of [.val (netD ps ms), .val (.lst (R.map rwD)), .own (.lst ((pre.map fun a => (gvs R a, tks R a)).map llD)), .val (ni a), x4, x5, .no] ((List.range R.length).map ni) = .ok ((tks R a).map ni) := fun x4 x5 => mapF_filter fun k hk => ⟨_, rfl, by
        have hk := List.mem_range.mp hk
        have i1 := row_ix hk
        have hl := getR hR hk
        have i2 : ixD (rwD (R.getD k ("", [], []))) (.int 1) = some (nt (R.getD k ("", [], [])).2.1) := rfl
        have i3 := nt_ix (m := (R.getD k ("", [], [])).2.1) (k := a) (by omega)
        have e : decide ((0 : Int) < (((R.getD k ("", [], [])).2.1.getD a 0 : Nat) : Int)) = decide (0 < (R.getD k ("", [], [])).2.1.getD a 0) := by rw [Bool.eq_iff_iff, decide_eq_true_eq, decide_eq_true_eq]; omega
        generalize rwD (R.getD k ("", [], [])) = rr at i1 i2
        unfold c2_links_of
        simp only [List.set_cons_succ, List.set_cons_zero]
        simp_arith [i1, i2, i3, e], fun _ => rfl⟩
      have z1 : ((gvs R a).map ni).length ≤ 16777216 := by
        rw [List.length_map]; unfold gvs
        exact Nat.le_trans (List.length_filter_le _ _) (by rw [List.length_range]; omega)
      have z2 : ((tks R a).map ni).length ≤ 16777216 := by
        rw [List.length_map]; unfold tks
        exact Nat.le_trans (List.length_filter_le _ _) (by rw [List.length_range]; omega)
      have hF : ((pre.map fun a => (gvs R a, tks R a)).map llD).length < 16777216 := by rw [List.length_map, List.length_map]; omega
      refine ⟨_, rfl, [.val (netD ps ms), .val (.lst (R.map rwD)), .own (.lst (((pre ++ [a]).map fun a => (gvs R a, tks R a)).map llD)), .val (ni a), .val (.lst ((gvs R a).map ni)), .val (.lst ((tks R a).map ni)), .no], ?_, _, _, _, rfl⟩
      unfold l1_links_of
      simp only [List.set_cons_succ, List.set_cons_zero]
      simp_arith [hrl, hr2, m1, z1, m2, z2]
      rw [ev_sApp _ _ (ds := (pre.map fun a => (gvs R a, tks R a)).map llD) rfl hF]
      simp_arith []
      rw [List.map_append, List.map_append]
      rfl)
  subst hδ
  unfold m_links_of runF b_links_of
  rw [hi]
  simp_arith [hrw, hf, hln, hr1, q1]
  rfl
/-! ### is it a net of rings -/
def oneB (r : Row) : Bool := (r.2.1 ++ r.2.2).all fun x => decide (x ≤ 1)
def mkdB (R : List Row) (n : Nat) : Bool := R.all oneB && (lks R n).all fun p => decide (p.1.length = 1) && decide (p.2.length = 1)
theorem max_nt {l : List Nat} (h : l ≠ []) : ∃ M, maxAD [nt l] = some (.int ((M : Nat) : Int)) ∧ (M ≤ 1 ↔ ∀ x ∈ l, x ≤ 1) := by
  have hp : 0 < l.length := List.length_pos_iff.mpr h
  obtain ⟨x, hx, hm⟩ := ex_max (fun a => l.getD a 0) l.length hp
  have e : nt l = .tup (tab l.length fun a => ni (l.getD a 0)) := by
    show D.tup (l.map ni) = _
    rw [map_tabl l ni 0]
  refine ⟨l.getD x 0, ?_, ?_⟩
  · rw [e]
    exact max_tab hx hm
  · constructor
    · intro h1 y hy
      obtain ⟨i, hi, rfl⟩ := List.getElem_of_mem hy
      have := hm i hi
      simp only [List.getD_eq_getElem?_getD, List.getElem?_eq_getElem hi] at this
      have e2 : (some l[i]).getD 0 = l[i] := rfl
      rw [e2] at this
      rw [List.getD_eq_getElem?_getD] at h1
      omega
    · intro h1
      refine h1 _ ?_
      rw [List.getD_eq_getElem?_getD, List.getElem?_eq_getElem hx]
      exact List.getElem_mem hx
theorem mk_loop {n : Nat} {x0 : S} (hn : 1 ≤ n) (hs : n ≤ 100) : ∀ (R : List Row) (x1 x2 x3 : S), (∀ r ∈ R, r.2.1.length = n ∧ r.2.2.length = n) →
    ∃ y1 y2 y3, forF (.all [1, 2, 3]) l1_is_marked (R.map rwD) [x0, x1, x2, x3, .no, .no] = if R.all oneB = true then .next [x0, y1, y2, y3, .no, .no] else .ret (.bl false)
  | [], x1, x2, x3, _ => ⟨x1, x2, x3, rfl⟩
  | r :: R, x1, x2, x3, h => by
    obtain ⟨h1, h2⟩ := h r List.mem_cons_self
    obtain ⟨M, q1, q2⟩ := max_nt (l := r.2.1 ++ r.2.2) (fun z => by
      have := congrArg List.length z
      rw [List.length_append, List.length_nil] at this
      omega)
    have ha : addD (nt r.2.1) (nt r.2.2) = some (nt (r.2.1 ++ r.2.2)) := by
      show addD (.tup (ntl r.2.1)) (.tup (ntl r.2.2)) = _
      rw [addD_tup, if_pos (by rw [ntl_len, ntl_len]; omega)]
      show some (D.tup (r.2.1.map ni ++ r.2.2.map ni)) = some (D.tup ((r.2.1 ++ r.2.2).map ni))
      rw [List.map_append]
    have ho : oneB r = decide (M ≤ 1) := by
      unfold oneB
      rw [Bool.eq_iff_iff, decide_eq_true_eq, List.all_eq_true, q2]
      exact forall_congr' fun x => imp_congr_right fun _ => decide_eq_true_iff
    have hgt : decide ((1 : Int) < ((M : Nat) : Int)) = !decide (M ≤ 1) := by
      rw [Bool.eq_iff_iff, Bool.not_eq_true', decide_eq_true_eq, decide_eq_false_iff_not]; omega
    have hput : (Tg.all [1, 2, 3]).put (rwD r) [x0, x1, x2, x3, .no, .no] = some [x0, .val (.str r.1), .val (nt r.2.1), .val (nt r.2.2), .no, .no] := rfl
    obtain ⟨y1, y2, y3, ih⟩ := mk_loop hn hs R (.val (.str r.1)) (.val (nt r.2.1)) (.val (nt r.2.2)) fun q hq => h q (List.mem_cons_of_mem _ hq)
    have hb : l1_is_marked [x0, .val (.str r.1), .val (nt r.2.1), .val (nt r.2.2), .no, .no] = if oneB r = true then .next [x0, .val (.str r.1), .val (nt r.2.1), .val (nt r.2.2), .no, .no] else .ret (.bl false) := by
      rw [ho]
      unfold l1_is_marked
      simp_arith [ha, q1, hgt]
      by_cases c : M ≤ 1 <;> simp_arith [c]
    refine ⟨y1, y2, y3, ?_⟩
    cases c : oneB r with
    | true =>
      rw [c, if_pos rfl] at hb
      simp only [List.map_cons, forF, hput, hb, List.all_cons, c, Bool.true_and]
      exact ih
    | false =>
      rw [c, if_neg Bool.false_ne_true] at hb
      simp only [List.map_cons, forF, hput, hb, List.all_cons, c, Bool.false_and, Bool.false_eq_true, if_false]
theorem marked_ok (h : NetOk ps ms) : m_is_marked [netD ps ms] = .ok (.bl (mkdB (rowsN ps ms) ps.length)) := by
  have hi : initE 6 [netD ps ms] = [.val (netD ps ms), .no, .no, .no, .no, .no] := rfl
  have hrw := rows_of_ok h
  have hR := rows_okN h
  have hfew := h.pl.few
  have hlk := links_ok h
  obtain ⟨y1, y2, y3, hl⟩ := mk_loop (x0 := .val (netD ps ms)) h.pl.pos (by omega) (rowsN ps ms) .no .no .no hR.1
  have hg : ∀ y1 y2 y3, genF false (.all [4, 5]) tYesD y1_is_marked [.val (netD ps ms), y1, y2, y3, .no, .no] ((lks (rowsN ps ms) ps.length).map llD) = .ok (.bl ((lks (rowsN ps ms) ps.length).all fun p => decide (p.1.length = 1) && decide (p.2.length = 1))) := fun y1 y2 y3 => genF_enc_all fun p hp => ⟨[.val (netD ps ms), y1, y2, y3, .val (.lst (p.1.map ni)), .val (.lst (p.2.map ni))], rfl, rfl, by
    have e1 : decide (((p.1.map ni).length : Int) = 1) = decide (p.1.length = 1) := by rw [List.length_map, Bool.eq_iff_iff, decide_eq_true_eq, decide_eq_true_eq]; omega
    have e2' : decide (((p.2.map ni).length : Int) = 1) = decide (p.2.length = 1) := by rw [List.length_map, Bool.eq_iff_iff, decide_eq_true_eq, decide_eq_true_eq]; omega
    unfold y1_is_marked
    simp_arith [e1, e2']
    cases decide (p.1.length = 1) <;> simp_arith []⟩
  unfold m_is_marked runF b_is_marked mkdB
  rw [hi]
  simp_arith [hrw, hl]
  cases (rowsN ps ms).all oneB with
  | false => simp_arith []
  | true => simp_arith [hlk, hg]
/-! ### rings -/
theorem filt_eq {c j : Nat} (h : j < c) : (List.range c).filter (fun k => decide (j = k)) = [j] := by
  induction c with
  | zero => omega
  | succ c ih =>
    rw [List.range_succ, List.filter_append]
    by_cases e : j = c
    · subst e
      have : (List.range j).filter (fun k => decide (j = k)) = [] := List.filter_eq_nil_iff.mpr fun x hx => by
        have := List.mem_range.mp hx
        simp; omega
      rw [this]
      simp
    · rw [ih (by omega)]
      simp [e]
variable {lk : List (Nat × Nat)}
theorem RN.row (h : RN ps ms lk) {j : Nat} (hj : j < ms.length) : (rowsN ps ms).getD j ("", [], []) = (A4.getD j default, rowN ps (sdR ps (tk lk) j), rowN ps (sdR ps (gv lk) j)) := by
  have hjm : ms[j] = mvR ps lk j := by
    have e := h.mv
    have e2 : ms[j]? = ((List.range ms.length).map (mvR ps lk))[j]? := congrArg (fun l => l[j]?) e
    rw [List.getElem?_eq_getElem hj, List.getElem?_map, List.getElem?_range hj] at e2
    injection e2 with e2
  unfold rowsN
  rw [List.getD_eq_getElem?_getD, List.getElem?_map, List.getElem?_eq_getElem hj, hjm]; rfl
theorem RN.rl (h : RN ps ms lk) : (rowsN ps ms).length = ms.length := by unfold rowsN; rw [List.length_map]
theorem RN.gvs (h : RN ps ms lk) {a : Nat} (ha : a < ps.length) : gvs (rowsN ps ms) a = [gv lk a] := by
  unfold K53.gvs
  rw [h.rl, ← filt_eq (h.bd a ha).1]
  refine List.filter_congr fun j hj => ?_
  rw [h.row (List.mem_range.mp hj)]
  show decide (0 < (rowN ps (sdR ps (gv lk) j)).getD a 0) = _
  rw [rowR h.net.pl _ _ ha]
  by_cases c : gv lk a = j <;> simp [c]
theorem RN.tks (h : RN ps ms lk) {a : Nat} (ha : a < ps.length) : tks (rowsN ps ms) a = [tk lk a] := by
  unfold K53.tks
  rw [h.rl, ← filt_eq (h.bd a ha).2]
  refine List.filter_congr fun j hj => ?_
  rw [h.row (List.mem_range.mp hj)]
  show decide (0 < (rowN ps (sdR ps (tk lk) j)).getD a 0) = _
  rw [rowR h.net.pl _ _ ha]
  by_cases c : tk lk a = j <;> simp [c]
theorem RN.lks (h : RN ps ms lk) : lks (rowsN ps ms) ps.length = (List.range ps.length).map fun a => ([gv lk a], [tk lk a]) := by
  unfold K53.lks
  exact List.map_congr_left fun a ha => by
    have ha := List.mem_range.mp ha
    rw [h.gvs ha, h.tks ha]
theorem RN.marked (h : RN ps ms lk) : m_is_marked [netD ps ms] = .ok (.bl true) := by
  rw [marked_ok h.net]
  have : mkdB (rowsN ps ms) ps.length = true := by
    unfold mkdB
    rw [Bool.and_eq_true, List.all_eq_true, h.lks, List.all_eq_true]
    refine ⟨fun r hr => ?_, fun p hp => ?_⟩
    · obtain ⟨j, hj, rfl⟩ := List.getElem_of_mem hr
      have hj' : j < ms.length := by rw [← h.rl]; exact hj
      have e : (rowsN ps ms)[j] = (rowsN ps ms).getD j ("", [], []) := by
        rw [List.getD_eq_getElem?_getD, List.getElem?_eq_getElem hj]; rfl
      rw [e, h.row hj']
      unfold oneB
      rw [List.all_eq_true]
      have one : ∀ f : Nat → Nat, ∀ x ∈ rowN ps (sdR ps f j), x ≤ 1 := fun f x hx => by
        obtain ⟨k, hk, rfl⟩ := List.getElem_of_mem hx
        have hk' : k < ps.length := by rw [← rowN_len ps (sdR ps f j)]; exact hk
        have := rowR h.net.pl f j hk'
        rw [List.getD_eq_getElem?_getD, List.getElem?_eq_getElem hk] at this
        have e3 : (some (rowN ps (sdR ps f j))[k]).getD 0 = (rowN ps (sdR ps f j))[k] := rfl
        rw [e3] at this
        rw [this]
        split <;> omega
      intro x hx
      rw [decide_eq_true_eq]
      rcases List.mem_append.mp hx with hx | hx
      · exact one _ x hx
      · exact one _ x hx
    · obtain ⟨a, _, rfl⟩ := List.mem_map.mp hp
      rfl
  rw [this]
end
end K53

set_option Elab.async false
set_option linter.all false
set_option maxRecDepth 100000
set_option maxHeartbeats 2000000
/-! k53: the search for rings. -/
namespace K53
open PySem Dl Sh
local macro_rules | `(tactic| simp_arith [$ts,*]) => `(tactic| simp only [ev_bind_ok, ev_bind_exc, ev_bindF_ok, ev_bindF_exc, ev_sNext, ev_sSeq, ev_sIf, ev_sRet, ev_sSet, ev_sOwn, ev_sDrop, ev_sRaise, ev_sFrz, ev_sUnp, ev_sFor, ev_eC, Dl.ev_e1, Dl.ev_e2, ev_eB, ev_eCall, ev_aNil, ev_aCons, ev_eIf, blR_bl, ev_tB1, ev_tAnd, ev_tOr, andK_bl, orK_bl, notK_bl, ev_eAnd, ev_eOr, ev_eNot, ev_tNot, ev_tYes, ev_oNone, ev_oSome, ev_eSl, ev_iSeq, ev_iRng, ev_eN, ev_ofO_some, ev_eV0, ev_eVs, lt_int, le_int, gt_int, ge_int, add_int, sub_int, iadd_int, len_tup, len_lst, eq_int, ne_int, itD_tup, itD_lst, put_one, fz_nil, fz_val, fz_no, fz_own, fz_succ, od_lst, od_lol, od_dk, od_dt, odict_lst, odict_dk, odict_dt, wp_nil, wp_cons, sa_nil, sa_cons, put_all, ev_eTup', ev_eLst', ev_nLst, ev_nLc, ev_eGen', ev_tBor, ev_eBor, ev_sPar, ev_eM, ev_eM0, ev_eCallM, ev_aSnoc, ok_tup, ok_lst, ok_str, ev_tIf, notB_eq, isB_eq, isN_eq, notN_eq, neg_int, tupD_lst, tupD_tup, listD_lst, listD_tup, pure_int, pure_bl, pure_str, pure_non, pureL_int, ev_eIsi, addD_lst, addD_tup, ix_t0, ix_t1, ix_t2, ix_l0, ix_l1, ix_l2, isi_tt, isi_ss, isT_tup, isS_str, List.set_cons_succ, List.set_cons_zero, List.length_cons, List.length_nil, Nat.reduceAdd, Nat.reduceLeDiff, Nat.zero_add, Nat.zero_le, if_true, if_false, Bool.false_eq_true, decide_true, decide_false, Bool.not_true, Bool.not_false, Bool.true_or, Bool.false_or, Bool.or_true, Bool.or_false, Bool.true_and, Bool.false_and, Bool.and_true, Bool.and_false, Int.cast_ofNat_Int, Int.reduceEq, Int.reduceLT, Int.reduceLE, Int.reduceNeg, reduceCtorEq, List.cons_append, List.nil_append, eq_of, ne_of, String.reduceEq, $ts,*])
def las (w : List Nat) : Nat := w.getLastD 0
def cyc (lk : List (Nat × Nat)) (w : List Nat) : Bool := decide (tk lk (las w) = gv lk (w.headD 0))
def exc (lk : List (Nat × Nat)) (w : List Nat) (k : Nat) : Bool := decide (tk lk (las w) = gv lk k) && (decide (k ∉ w) && decide (tk lk k ∉ w.map (tk lk)))
def ext (lk : List (Nat × Nat)) (n : Nat) (w : List Nat) : List (List Nat) := ((List.range (n - (w.headD 0 + 1))).filter fun d => exc lk w (w.headD 0 + 1 + d)).map fun d => w ++ [w.headD 0 + 1 + d]
def Wl (lk : List (Nat × Nat)) (n : Nat) : Nat → List (List Nat)
  | 0 => (List.range n).map fun k => [k]
  | i + 1 => (Wl lk n i).flatMap (ext lk n)
def Fl (lk : List (Nat × Nat)) (n : Nat) : Nat → List (List Nat)
  | 0 => []
  | i + 1 => Fl lk n i ++ (Wl lk n i).filter (cyc lk)
/-- a way: places that follow one another, the first the least -/
structure Way (lk : List (Nat × Nat)) (n : Nat) (w : List Nat) : Prop where
  ne : w ≠ []
  lt : ∀ k ∈ w, k < n
  nd : w.Nodup
  td : (w.map (tk lk)).Nodup
  lo : ∀ k ∈ w.tail, w.headD 0 < k
  ch : ∀ i, i + 1 < w.length → tk lk (w.getD i 0) = gv lk (w.getD (i + 1) 0)
theorem las_snoc (w : List Nat) (k : Nat) : las (w ++ [k]) = k := by unfold las; simp
theorem las_at {w : List Nat} (h : w ≠ []) : las w = w.getD (w.length - 1) 0 := by
  rcases List.eq_nil_or_concat w with rfl | ⟨l, x, rfl⟩
  · exact absurd rfl h
  · rw [List.concat_eq_append, las_snoc]
    simp [List.getD_eq_getElem?_getD]
theorem las_mem {w : List Nat} (h : w ≠ []) : las w ∈ w := by
  rcases List.eq_nil_or_concat w with rfl | ⟨l, x, rfl⟩
  · exact absurd rfl h
  · rw [List.concat_eq_append, las_snoc]; simp
theorem hd_mem {w : List Nat} (h : w ≠ []) : w.headD 0 ∈ w := by
  cases w with
  | nil => exact absurd rfl h
  | cons a l => simp
theorem hd_app {w v : List Nat} (h : w ≠ []) : (w ++ v).headD 0 = w.headD 0 := by
  cases w with
  | nil => exact absurd rfl h
  | cons a l => rfl
section
variable {lk : List (Nat × Nat)} {n : Nat}
theorem Way.one {k : Nat} (h : k < n) : Way lk n [k] := ⟨by simp, by simpa using h, by simp, by simp, by simp, fun i hi => by simp at hi⟩
theorem mem_ext {w v : List Nat} : v ∈ ext lk n w ↔ ∃ k, w.headD 0 < k ∧ k < n ∧ exc lk w k = true ∧ v = w ++ [k] := by
  unfold ext
  constructor
  · intro h
    obtain ⟨d, hd, rfl⟩ := List.mem_map.mp h
    obtain ⟨h1, h2⟩ := List.mem_filter.mp hd
    have h1 := List.mem_range.mp h1
    exact ⟨_, by omega, by omega, h2, rfl⟩
  · rintro ⟨k, h1, h2, h3, rfl⟩
    refine List.mem_map.mpr ⟨k - (w.headD 0 + 1), List.mem_filter.mpr ⟨List.mem_range.mpr (by omega), ?_⟩, ?_⟩
    · rw [show w.headD 0 + 1 + (k - (w.headD 0 + 1)) = k by omega]; exact h3
    · rw [show w.headD 0 + 1 + (k - (w.headD 0 + 1)) = k by omega]
theorem Way.ext {w v : List Nat} (h : Way lk n w) (hv : v ∈ ext lk n w) : Way lk n v := by
  obtain ⟨k, h1, h2, h3, rfl⟩ := mem_ext.mp hv
  unfold exc at h3
  rw [Bool.and_eq_true, Bool.and_eq_true, decide_eq_true_eq, decide_eq_true_eq, decide_eq_true_eq] at h3
  obtain ⟨e1, e2, e3⟩ := h3
  refine ⟨by simp, fun x hx => ?_, ?_, ?_, fun x hx => ?_, fun i hi => ?_⟩
  · rcases List.mem_append.mp hx with hx | hx
    · exact h.lt x hx
    · rw [List.mem_singleton.mp hx]; exact h2
  · rw [List.nodup_append]
    exact ⟨h.nd, by simp, fun x hx y hy z => by rw [List.mem_singleton.mp hy] at z; exact e2 (z ▸ hx)⟩
  · rw [List.map_append, List.nodup_append]
    exact ⟨h.td, by simp, fun x hx y hy z => by
      rw [List.map_cons, List.map_nil, List.mem_singleton] at hy
      rw [hy] at z
      exact e3 (z ▸ hx)⟩
  · rw [hd_app h.ne]
    rw [List.tail_append_of_ne_nil h.ne] at hx
    rcases List.mem_append.mp hx with hx | hx
    · exact h.lo x hx
    · rw [List.mem_singleton.mp hx]; exact h1
  · rw [List.length_append, List.length_singleton] at hi
    have hp : 0 < w.length := List.length_pos_iff.mpr h.ne
    by_cases c : i + 1 < w.length
    · have := h.ch i c
      rw [List.getD_eq_getElem?_getD, List.getD_eq_getElem?_getD] at this ⊢
      rw [List.getElem?_append_left (by omega), List.getElem?_append_left c]
      exact this
    · have hi' : i = w.length - 1 := by omega
      rw [las_at h.ne] at e1
      rw [List.getD_eq_getElem?_getD] at e1
      rw [List.getD_eq_getElem?_getD, List.getD_eq_getElem?_getD, List.getElem?_append_left (by omega), hi', e1, show w.length - 1 + 1 = w.length by omega]
      simp
theorem Wl_ok : ∀ {i : Nat} {w : List Nat}, w ∈ Wl lk n i → Way lk n w ∧ w.length = i + 1
  | 0, w, h => by
    obtain ⟨k, hk, rfl⟩ := List.mem_map.mp h
    exact ⟨.one (List.mem_range.mp hk), rfl⟩
  | i + 1, w, h => by
    obtain ⟨u, hu, hw⟩ := List.mem_flatMap.mp h
    obtain ⟨h1, h2⟩ := Wl_ok hu
    refine ⟨h1.ext hw, ?_⟩
    obtain ⟨k, _, _, _, rfl⟩ := mem_ext.mp hw
    rw [List.length_append, List.length_singleton, h2]
/-- every way is met -/
theorem Wl_all : ∀ (i : Nat) {w : List Nat}, Way lk n w → w.length = i + 1 → w ∈ Wl lk n i
  | 0, w, h, hl => by
    match w, hl with
    | [k], _ => exact List.mem_map.mpr ⟨k, List.mem_range.mpr (h.lt k (by simp)), rfl⟩
  | i + 1, w, h, hl => by
    rcases List.eq_nil_or_concat w with rfl | ⟨u, k, rfl⟩
    · simp at hl
    · rw [List.concat_eq_append] at h hl ⊢
      rw [List.length_append, List.length_singleton] at hl
      have hu : u ≠ [] := fun z => by rw [z] at hl; simp at hl
      have hup : 0 < u.length := List.length_pos_iff.mpr hu
      have nd := List.nodup_append.mp h.nd
      have td := h.td
      rw [List.map_append, List.nodup_append] at td
      have hW : Way lk n u := by
        refine ⟨hu, fun x hx => h.lt x (List.mem_append_left _ hx), nd.1, td.1, fun x hx => ?_, fun j hj => ?_⟩
        · have := h.lo x (by rw [List.tail_append_of_ne_nil hu]; exact List.mem_append_left _ hx)
          rw [hd_app hu] at this
          exact this
        · have := h.ch j (by rw [List.length_append]; omega)
          rw [List.getD_eq_getElem?_getD, List.getD_eq_getElem?_getD, List.getElem?_append_left (by omega), List.getElem?_append_left hj] at this
          rw [List.getD_eq_getElem?_getD, List.getD_eq_getElem?_getD]
          exact this
      refine List.mem_flatMap.mpr ⟨u, Wl_all i hW (by omega), mem_ext.mpr ⟨k, ?_, h.lt k (by simp), ?_, rfl⟩⟩
      · have := h.lo k (by rw [List.tail_append_of_ne_nil hu]; simp)
        rw [hd_app hu] at this
        exact this
      · unfold exc
        rw [Bool.and_eq_true, Bool.and_eq_true, decide_eq_true_eq, decide_eq_true_eq, decide_eq_true_eq]
        refine ⟨?_, fun z => nd.2.2 k z k (by simp) rfl, fun z => td.2.2 _ z _ (by simp) rfl⟩
        have := h.ch (u.length - 1) (by rw [List.length_append, List.length_singleton]; omega)
        rw [List.getD_eq_getElem?_getD, List.getD_eq_getElem?_getD, List.getElem?_append_left (by omega), show u.length - 1 + 1 = u.length by omega] at this
        rw [las_at hu, List.getD_eq_getElem?_getD, this]
        simp
theorem Way.len {w : List Nat} (h : Way lk n w) : w.length ≤ n := by
  have := nd_sub_len (m := List.range n) h.nd fun x hx => List.mem_range.mpr (h.lt x hx)
  rwa [List.length_range] at this
theorem Wl_end : Wl lk n n = [] := by
  cases h : Wl lk n n with
  | nil => rfl
  | cons w l =>
    exfalso
    obtain ⟨h1, h2⟩ := Wl_ok (lk := lk) (n := n) (i := n) (w := w) (by rw [h]; exact List.mem_cons_self)
    have := h1.len
    omega
theorem Wl_nil {i : Nat} (h : Wl lk n i = []) : ∀ d, Wl lk n (i + d) = [] ∧ Fl lk n (i + d) = Fl lk n i
  | 0 => ⟨h, rfl⟩
  | d + 1 => by
    obtain ⟨h1, h2⟩ := Wl_nil h d
    refine ⟨?_, ?_⟩
    · show (Wl lk n (i + d)).flatMap _ = []
      rw [h1]; rfl
    · show Fl lk n (i + d) ++ (Wl lk n (i + d)).filter _ = _
      rw [h1, h2]; simp
/-- the rings as they are found -/
def fnd (lk : List (Nat × Nat)) (n : Nat) : List (List Nat) := Fl lk n n
theorem Fl_stop {i : Nat} (hi : i ≤ n) (h : Wl lk n i = []) : Fl lk n i = fnd lk n := by
  have := (Wl_nil h (n - i)).2
  rw [show i + (n - i) = n by omega] at this
  exact this.symm
theorem mem_Fl {w : List Nat} : ∀ {i : Nat}, w ∈ Fl lk n i ↔ ∃ j, j < i ∧ w ∈ Wl lk n j ∧ cyc lk w = true
  | 0 => ⟨fun h => (by cases h), fun ⟨j, h, _⟩ => (by omega)⟩
  | i + 1 => by
    show w ∈ Fl lk n i ++ (Wl lk n i).filter (cyc lk) ↔ _
    rw [List.mem_append, mem_Fl, List.mem_filter]
    constructor
    · rintro (⟨j, h1, h2⟩ | h)
      · exact ⟨j, by omega, h2⟩
      · exact ⟨i, by omega, h⟩
    · rintro ⟨j, h1, h2⟩
      by_cases c : j = i
      · subst c; exact .inr h2
      · exact .inl ⟨j, by omega, h2⟩
theorem mem_fnd {w : List Nat} : w ∈ fnd lk n ↔ Way lk n w ∧ cyc lk w = true := by
  unfold fnd
  rw [mem_Fl]
  constructor
  · rintro ⟨j, _, h1, h2⟩
    exact ⟨(Wl_ok h1).1, h2⟩
  · rintro ⟨h1, h2⟩
    have hl := h1.len
    have hp : 0 < w.length := List.length_pos_iff.mpr h1.ne
    exact ⟨w.length - 1, by omega, Wl_all _ h1 (by omega), h2⟩
/-! ### how many -/
theorem flat_le {α β : Type} {f : α → List β} {c : Nat} : ∀ {l : List α}, (∀ a ∈ l, (f a).length ≤ c) → (l.flatMap f).length ≤ c * l.length
  | [], _ => Nat.zero_le _
  | a :: l, h => by
    rw [List.flatMap_cons, List.length_append, List.length_cons, Nat.mul_succ]
    have h1 := h a List.mem_cons_self
    have h2 := flat_le (l := l) fun b hb => h b (List.mem_cons_of_mem _ hb)
    omega
theorem ext_len (w : List Nat) : (ext lk n w).length ≤ n := by
  unfold ext
  rw [List.length_map]
  exact Nat.le_trans (List.length_filter_le _ _) (by rw [List.length_range]; omega)
theorem Wl_len (hn : n ≤ 6) : ∀ i, (Wl lk n i).length ≤ 6 ^ (i + 1)
  | 0 => by
    show ((List.range n).map _).length ≤ 6
    rw [List.length_map, List.length_range]; exact hn
  | i + 1 => by
    have h1 := flat_le (f := ext lk n) (c := 6) (l := Wl lk n i) fun a _ => Nat.le_trans (ext_len a) hn
    have h2 := Wl_len hn i
    show ((Wl lk n i).flatMap (ext lk n)).length ≤ _
    have : 6 ^ (i + 1 + 1) = 6 * 6 ^ (i + 1) := by rw [Nat.pow_succ]; omega
    omega
theorem Wl_sm (hn : n ≤ 6) {i : Nat} (hi : i ≤ 6) : (Wl lk n i).length ≤ 279936 := Nat.le_trans (Wl_len hn i) (by
  have : 6 ^ (i + 1) ≤ 6 ^ 7 := Nat.pow_le_pow_right (by decide) (by omega)
  exact Nat.le_trans this (by decide))
theorem Fl_sm (hn : n ≤ 6) : ∀ {i : Nat}, i ≤ 7 → (Fl lk n i).length ≤ 279936 * i
  | 0, _ => Nat.zero_le _
  | i + 1, hi => by
    have h1 := Fl_sm hn (i := i) (by omega)
    have h2 := Wl_sm (lk := lk) hn (i := i) (by omega)
    have h3 := List.length_filter_le (cyc lk) (Wl lk n i)
    show (Fl lk n i ++ (Wl lk n i).filter (cyc lk)).length ≤ _
    rw [List.length_append]
    omega
end
end K53

set_option Elab.async false
set_option linter.all false
set_option maxRecDepth 100000
set_option maxHeartbeats 2000000
/-! k53: rings, by the law and by the program. -/
namespace K53
open PySem Dl Sh
local macro_rules | `(tactic| simp_arith [$ts,*]) => `(tactic| simp only [ev_bind_ok, ev_bind_exc, ev_bindF_ok, ev_bindF_exc, ev_sNext, ev_sSeq, ev_sIf, ev_sRet, ev_sSet, ev_sOwn, ev_sDrop, ev_sRaise, ev_sFrz, ev_sUnp, ev_sFor, ev_eC, Dl.ev_e1, Dl.ev_e2, ev_eB, ev_eCall, ev_aNil, ev_aCons, ev_eIf, blR_bl, ev_tB1, ev_tAnd, ev_tOr, andK_bl, orK_bl, notK_bl, ev_eAnd, ev_eOr, ev_eNot, ev_tNot, ev_tYes, ev_oNone, ev_oSome, ev_eSl, ev_iSeq, ev_iRng, ev_eN, ev_ofO_some, ev_eV0, ev_eVs, lt_int, le_int, gt_int, ge_int, add_int, sub_int, iadd_int, len_tup, len_lst, eq_int, ne_int, itD_tup, itD_lst, put_one, fz_nil, fz_val, fz_no, fz_own, fz_succ, od_lst, od_lol, od_dk, od_dt, odict_lst, odict_dk, odict_dt, wp_nil, wp_cons, sa_nil, sa_cons, put_all, ev_eTup', ev_eLst', ev_nLst, ev_nLc, ev_eGen', ev_tBor, ev_eBor, ev_sPar, ev_eM, ev_eM0, ev_eCallM, ev_aSnoc, ok_tup, ok_lst, ok_str, ev_tIf, notB_eq, isB_eq, isN_eq, notN_eq, neg_int, tupD_lst, tupD_tup, listD_lst, listD_tup, pure_int, pure_bl, pure_str, pure_non, pureL_int, ev_eIsi, addD_lst, addD_tup, ix_t0, ix_t1, ix_t2, ix_l0, ix_l1, ix_l2, isi_tt, isi_ss, isT_tup, isS_str, List.set_cons_succ, List.set_cons_zero, List.length_cons, List.length_nil, Nat.reduceAdd, Nat.reduceLeDiff, Nat.zero_add, Nat.zero_le, if_true, if_false, Bool.false_eq_true, decide_true, decide_false, Bool.not_true, Bool.not_false, Bool.true_or, Bool.false_or, Bool.or_true, Bool.or_false, Bool.true_and, Bool.false_and, Bool.and_true, Bool.and_false, Int.cast_ofNat_Int, Int.reduceEq, Int.reduceLT, Int.reduceLE, Int.reduceNeg, reduceCtorEq, List.cons_append, List.nil_append, eq_of, ne_of, String.reduceEq, $ts,*])
theorem ix_las {w : List Nat} (h : w ≠ []) : ixD (nt w) (.int (-1)) = some (ni (las w)) := by
  have hp : 0 < w.length := List.length_pos_iff.mpr h
  have e : L2.ixN (ntl w).length (-1) = some (w.length - 1) := by
    unfold L2.ixN
    rw [ntl_len, if_neg (by omega)]
    first
    | rw [if_pos (by omega)]
      congr 1
      omega
    | (split <;> first | (congr 1; omega) | omega)
  show L2.atI (ntl w) (-1) = _
  unfold L2.atI
  rw [e]
  show (ntl w)[w.length - 1]? = _
  unfold ntl
  rw [List.getElem?_map, las_at h, List.getElem?_eq_getElem (by omega : w.length - 1 < w.length), List.getD_eq_getElem?_getD, List.getElem?_eq_getElem (by omega : w.length - 1 < w.length)]
  rfl
theorem ix_hd {w : List Nat} (h : w ≠ []) : ixD (nt w) (.int 0) = some (ni (w.headD 0)) := by
  cases w with
  | nil => exact absurd rfl h
  | cons a l =>
    show ixD (.tup (ni a :: ntl l)) (.int 0) = _
    rw [ix_t0]; rfl
theorem nin_nt (l : List Nat) (k : Nat) : ninD (.int k) (nt l) = some (.bl (!decide (k ∈ l))) := by
  unfold ninD; rw [in_nt]
section
variable {lk : List (Nat × Nat)} {n : Nat}
theorem lk_ix (hl : lk.length = n) {k : Nat} (h : k < n) : ixD (.lst (lk.map lkD)) (.int ((k : Nat) : Int)) = some (.tup [ni (gv lk k), ni (tk lk k)]) := by
  rw [ix_lst, List.getElem?_map]
  unfold gv tk
  rw [List.getD_eq_getElem?_getD, List.getElem?_eq_getElem (by omega : k < lk.length)]; rfl
/-- one place behind a way, by the law -/
theorem lw_place (hl : lk.length = n) (hn : n ≤ 6) {w : List Nat} (hw : Way lk n w) {k : Nat} (hk : k < n) {F : List D} (hF : F.length < 16777216) {x1 x2 : S} :
    l1__law_rings [.val (.lst (lk.map lkD)), x1, x2, .own (.lst F), .val (nt w), .val (ni k), .val (.lst ((w.map (tk lk)).map ni))] = .next [.val (.lst (lk.map lkD)), x1, x2, .own (.lst (if exc lk w k = true then F ++ [nt (w ++ [k])] else F)), .val (nt w), .val (ni k), .val (.lst ((w.map (tk lk)).map ni))] := by
  have hlas : las w < n := hw.lt _ (las_mem hw.ne)
  have i1 := lk_ix hl hlas
  have i2 := lk_ix hl hk
  have i3 := ix_las hw.ne
  have e : decide (((tk lk (las w) : Nat) : Int) = ((gv lk k : Nat) : Int)) = decide (tk lk (las w) = gv lk k) := by rw [Bool.eq_iff_iff, decide_eq_true_eq, decide_eq_true_eq]; omega
  have n1 := nin_ni (w.map (tk lk)) (tk lk k)
  have n2 := nin_nt w k
  have ha : addD (nt w) (.tup [ni k]) = some (nt (w ++ [k])) := by
    show addD (.tup (ntl w)) (.tup [ni k]) = _
    rw [addD_tup, if_pos (by have := hw.len; rw [ntl_len]; simp; omega)]
    show some (D.tup (w.map ni ++ [ni k])) = some (D.tup ((w ++ [k]).map ni))
    rw [List.map_append]; rfl
  unfold l1__law_rings exc
  have hwd : nt w = D.tup (ntl w) := rfl
  simp_arith [i3, i1, i2, e]
  by_cases c1 : tk lk (las w) = gv lk k
  · simp_arith [c1, n1, decide_not]
    by_cases c2 : tk lk k ∈ w.map (tk lk)
    · simp_arith [c2]
    · simp_arith [c2, n2]
      by_cases c3 : k ∈ w
      · simp_arith [c3]
      · simp_arith [c3]
        rw [ev_sApp _ _ (ds := F) rfl hF]
        simp_arith [ha]
  · simp_arith [c1]
theorem snoc_filter {p : Nat → Bool} {f : Nat → List Nat} (pre : List Nat) (k : Nat) : ((pre ++ [k]).filter p).map f = if p k = true then (pre.filter p).map f ++ [f k] else (pre.filter p).map f := by
  rw [List.filter_append, List.map_append]
  by_cases c : p k = true <;> simp [c]
/-- one way, by the law -/
theorem lw_way (hl : lk.length = n) (hn : n ≤ 6) {w : List Nat} (hw : Way lk n w) {F G : List (List Nat)} (hF : F.length ≤ 10000000) (hG : G.length ≤ 10000000) {x2 x5 x6 : S} :
    ∃ y5 y6, l2__law_rings [.val (.lst (lk.map lkD)), .own (.lst (mkL F)), x2, .own (.lst (mkL G)), .val (nt w), x5, x6] = .next [.val (.lst (lk.map lkD)), .own (.lst (mkL (if cyc lk w = true then F ++ [w] else F))), x2, .own (.lst (mkL (G ++ ext lk n w))), .val (nt w), y5, y6] := by
  have hlas : las w < n := hw.lt _ (las_mem hw.ne)
  have hhd : w.headD 0 < n := hw.lt _ (hd_mem hw.ne)
  have i1 := lk_ix hl hlas
  have i2 := lk_ix hl hhd
  have i3 := ix_las hw.ne
  have i4 := ix_hd hw.ne
  have e : decide (((tk lk (las w) : Nat) : Int) = ((gv lk (w.headD 0) : Nat) : Int)) = cyc lk w := by unfold cyc; rw [Bool.eq_iff_iff, decide_eq_true_eq, decide_eq_true_eq]; omega
  have hm : ∀ F x5 x6, mapF (.one 5) tYesD y2__law_rings [.val (.lst (lk.map lkD)), F, x2, .own (.lst (mkL G)), .val (nt w), x5, x6] (ntl w) = .ok ((w.map (tk lk)).map ni) := fun F x5 x6 => by
    have : ntl w = w.map ni := rfl
    rw [this, mapF_enc (g := fun k => ni (tk lk k)) fun k hk => ⟨_, rfl, rfl, by
      have := lk_ix hl (hw.lt k hk)
      unfold y2__law_rings
      simp only [List.set_cons_succ, List.set_cons_zero]
      simp_arith [this]⟩]
    rw [List.map_map]; rfl
  have hz : ((w.map (tk lk)).map ni).length ≤ 16777216 := by rw [List.length_map, List.length_map]; have := hw.len; omega
  have hr := rng_12 (w.headD 0 + 1) n (by omega) (by omega)
  have hr : rngD [.int (((w.headD 0 : Nat) : Int) + 1), .int ((n : Nat) : Int)] = some ((List.range (n - (w.headD 0 + 1))).map fun d => ni (w.headD 0 + 1 + d)) := by
    rw [show (((w.headD 0 : Nat) : Int) + 1) = ((w.headD 0 + 1 : Nat) : Int) by omega]; exact hr
  have hln : ((lk.map lkD).length : Int) = ((n : Nat) : Int) := by rw [List.length_map, hl]
  have inner : ∀ (F' : List (List Nat)) (x5 : S), ∃ y5, forF (.one 5) l1__law_rings ((List.range (n - (w.headD 0 + 1))).map fun d => ni (w.headD 0 + 1 + d)) [.val (.lst (lk.map lkD)), .own (.lst (mkL F')), x2, .own (.lst (mkL G)), .val (nt w), x5, .val (.lst ((w.map (tk lk)).map ni))] = .next [.val (.lst (lk.map lkD)), .own (.lst (mkL F')), x2, .own (.lst (mkL (G ++ ext lk n w))), .val (nt w), y5, .val (.lst ((w.map (tk lk)).map ni))] := fun F' x5 => by
    obtain ⟨δ', q1, y5, hδ⟩ := forF_run (t := .one 5) (f := l1__law_rings) (enc := fun d => ni (w.headD 0 + 1 + d)) (fun pre δ => ∃ y5, δ = [.val (.lst (lk.map lkD)), .own (.lst (mkL F')), x2, .own (.lst (mkL (G ++ (pre.filter fun d => exc lk w (w.headD 0 + 1 + d)).map fun d => w ++ [w.headD 0 + 1 + d]))), .val (nt w), y5, .val (.lst ((w.map (tk lk)).map ni))]) (List.range (n - (w.headD 0 + 1)))
      (δ := [.val (.lst (lk.map lkD)), .own (.lst (mkL F')), x2, .own (.lst (mkL G)), .val (nt w), x5, .val (.lst ((w.map (tk lk)).map ni))]) ⟨x5, by rw [List.filter_nil, List.map_nil, List.append_nil]⟩ (fun pre d δ hb ⟨y5, hδ⟩ => by
        obtain ⟨hb1, hb2⟩ := range_pre hb
        subst hδ
        have hFl : (mkL (G ++ (pre.filter fun d => exc lk w (w.headD 0 + 1 + d)).map fun d => w ++ [w.headD 0 + 1 + d])).length < 16777216 := by
          rw [List.length_map, List.length_append, List.length_map]
          have := List.length_filter_le (fun d => exc lk w (w.headD 0 + 1 + d)) pre
          omega
        refine ⟨_, rfl, _, lw_place hl hn hw (k := w.headD 0 + 1 + d) (by omega) hFl (x1 := .own (.lst (mkL F'))) (x2 := x2), .val (ni (w.headD 0 + 1 + d)), ?_⟩
        rw [snoc_filter]
        by_cases c : exc lk w (w.headD 0 + 1 + d) = true
        · rw [if_pos c, if_pos c, ← List.append_assoc]
          unfold mkL
          rw [List.map_append (l₂ := [w ++ [w.headD 0 + 1 + d]])]
          rfl
        · rw [if_neg c, if_neg c])
    exact ⟨y5, by rw [q1, hδ]; rfl⟩
  have hap : (mkL F).length < 16777216 := by rw [List.length_map]; omega
  have hwd : nt w = D.tup (ntl w) := rfl
  by_cases c : cyc lk w = true
  · obtain ⟨y5, q⟩ := inner (F ++ [w]) .no
    obtain ⟨y5', q'⟩ := inner (F ++ [w]) x5
    refine ⟨y5', .val (.lst ((w.map (tk lk)).map ni)), ?_⟩
    rw [if_pos c]
    unfold l2__law_rings
    have hmm : mkL F ++ [nt w] = mkL (F ++ [w]) := by simp [mkL]
    simp_arith [i3, i1, i4, i2, e, c]
    rw [ev_sApp _ _ (ds := mkL F) rfl hap]
    simp_arith [hmm, hm, hz, i4, hln, hr, q']
  · obtain ⟨y5', q'⟩ := inner F x5
    refine ⟨y5', .val (.lst ((w.map (tk lk)).map ni)), ?_⟩
    rw [if_neg c]
    unfold l2__law_rings
    have c' : cyc lk w = false := by simpa using c
    simp_arith [i3, i1, i4, i2, e, c', hm, hz, hln, hr, q']
/-- one round, by the law -/
theorem lw_ways (hl : lk.length = n) (hn : n ≤ 6) {x2 : S} : ∀ (W F G : List (List Nat)) (x4 x5 x6 : S), (∀ w ∈ W, Way lk n w) → F.length + W.length ≤ 10000000 → G.length + 6 * W.length ≤ 10000000 →
    ∃ y4 y5 y6, forF (.one 4) l2__law_rings (mkL W) [.val (.lst (lk.map lkD)), .own (.lst (mkL F)), x2, .own (.lst (mkL G)), x4, x5, x6] = .next [.val (.lst (lk.map lkD)), .own (.lst (mkL (F ++ W.filter (cyc lk)))), x2, .own (.lst (mkL (G ++ W.flatMap (ext lk n)))), y4, y5, y6]
  | [], F, G, x4, x5, x6, _, _, _ => ⟨x4, x5, x6, by simp [forF, mkL]⟩
  | w :: W, F, G, x4, x5, x6, h, hF, hG => by
    rw [List.length_cons] at hF hG
    have hel := ext_len (lk := lk) (n := n) w
    obtain ⟨y5, y6, q⟩ := lw_way hl hn (h w List.mem_cons_self) (F := F) (G := G) (by omega) (by omega) (x2 := x2) (x5 := x5) (x6 := x6)
    obtain ⟨z4, z5, z6, ih⟩ := lw_ways hl hn W (if cyc lk w = true then F ++ [w] else F) (G ++ ext lk n w) (.val (nt w)) y5 y6 (fun v hv => h v (List.mem_cons_of_mem _ hv)) (by split <;> (try rw [List.length_append, List.length_singleton]) <;> omega) (by rw [List.length_append]; omega)
    refine ⟨z4, z5, z6, ?_⟩
    show forF (.one 4) l2__law_rings (nt w :: mkL W) _ = _
    simp only [forF, put_one, List.set_cons_succ, List.set_cons_zero, q]
    rw [ih, List.filter_cons, List.flatMap_cons, List.append_assoc]
    by_cases c : cyc lk w = true
    · rw [if_pos c, if_pos c, List.append_assoc, List.singleton_append]
    · rw [if_neg c, if_neg c]
/-- rings in order -/
def sortW (l : List (List Nat)) : List (List Nat) := l.mergeSort fun a b => leqD (nt a) (nt b)
theorem sortW_eq (l : List (List Nat)) : sortD (mkL l) = mkL (sortW l) := (merge_map nt leqD l).symm
theorem sortW_mem {l : List (List Nat)} {w : List Nat} : w ∈ sortW l ↔ w ∈ l := (List.mergeSort_perm l _).mem_iff
theorem alk_ntl : ∀ a b : List Nat, PySem.W.alikeAll (D.pys (ntl a)) (D.pys (ntl b)) = true
  | [], _ => by
    show PySem.W.alikeAll (D.pys []) _ = true
    rw [D.pys, PySem.W.alikeAll]
  | x :: a, [] => by
    show PySem.W.alikeAll (D.pys (ni x :: ntl a)) (D.pys []) = true
    rw [D.pys, D.pys, PySem.W.alikeAll]
  | x :: a, y :: b => by
    show PySem.W.alikeAll (D.pys (ni x :: ntl a)) (D.pys (ni y :: ntl b)) = true
    rw [D.pys, D.pys, PySem.W.alikeAll, alk_ntl a b]
    simp [PySem.W.alike, D.py]
theorem sort_mk {l : List (List Nat)} (hne : ∀ x ∈ l, x ≠ []) : sortGD [.lst (mkL l)] = some (.lst (mkL (sortW l))) := by
  show sortGL (mkL l) = _
  unfold sortGL
  rw [if_pos, sortW_eq]
  unfold srtOk
  rw [Bool.and_eq_true, Bool.and_eq_true, Bool.or_eq_true]
  refine ⟨⟨List.all_eq_true.mpr fun d hd => ?_, List.all_eq_true.mpr fun d hd => List.all_eq_true.mpr fun e he => ?_⟩, .inl (List.all_eq_true.mpr fun d hd => ?_)⟩
  · obtain ⟨x, hx, rfl⟩ := List.mem_map.mp hd
    exact gd_sh (gd_mono (show 1 ≤ 64 by decide) (gd_nt (k := 0) x))
  · obtain ⟨x, hx, rfl⟩ := List.mem_map.mp hd
    obtain ⟨y, hy, rfl⟩ := List.mem_map.mp he
    show PySem.W.alike (.tuple (D.pys (ntl x))) (.tuple (D.pys (ntl y))) = true
    rw [PySem.W.alike, alk_ntl]
  · obtain ⟨x, hx, rfl⟩ := List.mem_map.mp hd
    have := hne x hx
    cases x with
    | nil => exact absurd rfl this
    | cons a x => rfl
theorem fnd_ne {w : List Nat} (h : w ∈ fnd lk n) : w ≠ [] := (mem_fnd.mp h).1.ne
theorem law_rings_ok (hl : lk.length = n) (hn : n ≤ 6) : m__law_rings [.lst (lk.map lkD)] = .ok (.lst (mkL (sortW (fnd lk n)))) := by
  have hi : initE 7 [.lst (lk.map lkD)] = [.val (.lst (lk.map lkD)), .no, .no, .no, .no, .no, .no] := rfl
  have hln : ((lk.map lkD).length : Int) = ((n : Nat) : Int) := by rw [List.length_map, hl]
  have hr := rng_ni n (by omega)
  have hw0 : mapF (.one 5) tYesD y1__law_rings [.val (.lst (lk.map lkD)), .own (.lst []), .no, .no, .no, .no, .no] ((List.range n).map ni) = .ok (mkL (Wl lk n 0)) := by
    have : mkL (Wl lk n 0) = (List.range n).map fun k => .tup [ni k] := by
      show ((List.range n).map fun k => [k]).map nt = _
      rw [List.map_map]; rfl
    rw [this]
    exact mapF_enc fun k _ => ⟨_, rfl, rfl, by
      unfold y1__law_rings
      simp only [List.set_cons_succ, List.set_cons_zero]
      simp_arith []⟩
  have hz0 : (mkL (Wl lk n 0)).length ≤ 16777216 := by
    rw [List.length_map]
    have := Wl_sm (lk := lk) hn (i := 0) (by omega)
    omega
  have hwh : ∃ y2 y3 y4 y5 y6, whileF 1000000 q1__law_rings w1__law_rings [.val (.lst (lk.map lkD)), .own (.lst []), .val (.lst (mkL (Wl lk n 0))), .no, .no, .no, .no] = .next [.val (.lst (lk.map lkD)), .own (.lst (mkL (fnd lk n))), y2, y3, y4, y5, y6] := by
    refine whileF_gen (P := fun f => ∃ y2 y3 y4 y5 y6, f = .next [.val (.lst (lk.map lkD)), .own (.lst (mkL (fnd lk n))), y2, y3, y4, y5, y6])
      (fun m δ => ∃ i y3 y4 y5 y6, m = n - i ∧ i ≤ n ∧ δ = [.val (.lst (lk.map lkD)), .own (.lst (mkL (Fl lk n i))), .val (.lst (mkL (Wl lk n i))), y3, y4, y5, y6])
      (fun m δ h => ?_) 1000000 n _ (by omega) ⟨0, .no, .no, .no, .no, by omega, by omega, rfl⟩
    obtain ⟨i, y3, y4, y5, y6, hm, hi, rfl⟩ := h
    have hwl : decide ((0 : Int) < ((mkL (Wl lk n i)).length : Int)) = !(Wl lk n i).isEmpty := by
      rw [List.length_map]
      cases Wl lk n i with
      | nil => rfl
      | cons a l => simp
    refine ⟨!(Wl lk n i).isEmpty, by unfold q1__law_rings; simp_arith [hwl], ?_⟩
    cases hW : Wl lk n i with
    | nil =>
      rw [show (!([] : List (List Nat)).isEmpty) = false from rfl, if_neg Bool.false_ne_true]
      exact ⟨_, _, _, _, _, by rw [Fl_stop hi hW]⟩
    | cons a l =>
      rw [show (!(a :: l).isEmpty) = true from rfl, if_pos rfl, ← hW]
      have hin : i < n := by
        rcases Nat.lt_or_ge i n with z | z
        · exact z
        · obtain rfl : i = n := by omega
          rw [Wl_end] at hW; cases hW
      have h1 := Fl_sm (lk := lk) hn (i := i) (by omega)
      have h2 := Wl_sm (lk := lk) hn (i := i) (by omega)
      have h3 := Wl_sm (lk := lk) hn (i := i + 1) (by omega)
      obtain ⟨z4, z5, z6, q⟩ := lw_ways hl hn (x2 := .val (.lst (mkL (Wl lk n i)))) (Wl lk n i) (Fl lk n i) [] y4 y5 y6 (fun w hw => (Wl_ok hw).1) (by omega) (by rw [List.length_nil]; omega)
      have hb : w1__law_rings [.val (.lst (lk.map lkD)), .own (.lst (mkL (Fl lk n i))), .val (.lst (mkL (Wl lk n i))), y3, y4, y5, y6] = .next [.val (.lst (lk.map lkD)), .own (.lst (mkL (Fl lk n (i + 1)))), .val (.lst (mkL (Wl lk n (i + 1)))), .val (.lst (mkL (Wl lk n (i + 1)))), z4, z5, z6] := by
        rw [List.nil_append] at q
        unfold w1__law_rings
        have q' : forF (.one 4) l2__law_rings (mkL (Wl lk n i)) [.val (.lst (lk.map lkD)), .own (.lst (mkL (Fl lk n i))), .val (.lst (mkL (Wl lk n i))), .own (.lst []), y4, y5, y6] = _ := q
        simp_arith [q']
        rfl
      rw [hb]
      exact ⟨n - (i + 1), by omega, i + 1, _, _, _, _, rfl, by omega, rfl⟩
  obtain ⟨y2, y3, y4, y5, y6, hwh⟩ := hwh
  have hso := sort_mk (l := fnd lk n) fun x hx => fnd_ne hx
  unfold m__law_rings runF b__law_rings
  rw [hi]
  simp_arith [hln, hr, hw0, hz0, hwh, hso]
end
end K53

set_option Elab.async false
set_option linter.all false
set_option maxRecDepth 100000
set_option maxHeartbeats 2000000
/-! k53: rings by the program. -/
namespace K53
open PySem Dl Sh
local macro_rules | `(tactic| simp_arith [$ts,*]) => `(tactic| simp only [ev_bind_ok, ev_bind_exc, ev_bindF_ok, ev_bindF_exc, ev_sNext, ev_sSeq, ev_sIf, ev_sRet, ev_sSet, ev_sOwn, ev_sDrop, ev_sRaise, ev_sFrz, ev_sUnp, ev_sFor, ev_eC, Dl.ev_e1, Dl.ev_e2, ev_eB, ev_eCall, ev_aNil, ev_aCons, ev_eIf, blR_bl, ev_tB1, ev_tAnd, ev_tOr, andK_bl, orK_bl, notK_bl, ev_eAnd, ev_eOr, ev_eNot, ev_tNot, ev_tYes, ev_oNone, ev_oSome, ev_eSl, ev_iSeq, ev_iRng, ev_eN, ev_ofO_some, ev_eV0, ev_eVs, lt_int, le_int, gt_int, ge_int, add_int, sub_int, iadd_int, len_tup, len_lst, eq_int, ne_int, itD_tup, itD_lst, put_one, fz_nil, fz_val, fz_no, fz_own, fz_succ, od_lst, od_lol, od_dk, od_dt, odict_lst, odict_dk, odict_dt, wp_nil, wp_cons, sa_nil, sa_cons, put_all, ev_eTup', ev_eLst', ev_nLst, ev_nLc, ev_eGen', ev_tBor, ev_eBor, ev_sPar, ev_eM, ev_eM0, ev_eCallM, ev_aSnoc, ok_tup, ok_lst, ok_str, ev_tIf, notB_eq, isB_eq, isN_eq, notN_eq, neg_int, tupD_lst, tupD_tup, listD_lst, listD_tup, pure_int, pure_bl, pure_str, pure_non, pureL_int, ev_eIsi, addD_lst, addD_tup, ix_t0, ix_t1, ix_t2, ix_l0, ix_l1, ix_l2, isi_tt, isi_ss, isT_tup, isS_str, List.set_cons_succ, List.set_cons_zero, List.length_cons, List.length_nil, Nat.reduceAdd, Nat.reduceLeDiff, Nat.zero_add, Nat.zero_le, if_true, if_false, Bool.false_eq_true, decide_true, decide_false, Bool.not_true, Bool.not_false, Bool.true_or, Bool.false_or, Bool.or_true, Bool.or_false, Bool.true_and, Bool.false_and, Bool.and_true, Bool.and_false, Int.cast_ofNat_Int, Int.reduceEq, Int.reduceLT, Int.reduceLE, Int.reduceNeg, reduceCtorEq, List.cons_append, List.nil_append, eq_of, ne_of, String.reduceEq, $ts,*])
abbrev lnD (lk : List (Nat × Nat)) (n : Nat) : D := .lst (tab n fun a => llD ([gv lk a], [tk lk a]))
theorem eq_one (a b : Nat) : eqD (.lst [ni a]) (.lst [ni b]) = some (.bl (decide (a = b))) := by
  have g : ∀ a : Nat, (D.lst [ni a]).gd 64 := fun a => gd_mono (show 1 ≤ 64 by decide) (gd_lst (k := 0) fun x hx => by rw [List.mem_singleton.mp hx]; exact gd_int _)
  rw [eq_gd (g a) (g b)]
  congr 2
  rw [Bool.eq_iff_iff, decide_eq_true_eq, decide_eq_true_eq]
  constructor
  · intro h
    injection h with h
    injection h with h
    injection h with h
    omega
  · intro h; rw [h]
theorem ne_one (a b : Nat) : neD (.lst [ni a]) (.lst [ni b]) = some (.bl (!decide (a = b))) := by
  have g : ∀ a : Nat, (D.lst [ni a]).gd 64 := fun a => gd_mono (show 1 ≤ 64 by decide) (gd_lst (k := 0) fun x hx => by rw [List.mem_singleton.mp hx]; exact gd_int _)
  rw [ne_gd (g a) (g b)]
  congr 3
  rw [Bool.eq_iff_iff, decide_eq_true_eq, decide_eq_true_eq]
  constructor
  · intro h
    injection h with h
    injection h with h
    injection h with h
    omega
  · intro h; rw [h]
section
variable {lk : List (Nat × Nat)} {n : Nat}
theorem ll_ix {k : Nat} (h : k < n) : ixD (lnD lk n) (.int ((k : Nat) : Int)) = some (.tup [.lst [ni (gv lk k)], .lst [ni (tk lk k)]]) := tab_ix h
theorem new_ok {w : List Nat} (hw : ∀ k ∈ w, k < n) {k : Nat} (hk : k < n) : m_is_new_move [lnD lk n, nt w, ni k] = .ok (.bl (decide (tk lk k ∉ w.map (tk lk)))) := by
  have hi : initE 4 [lnD lk n, nt w, ni k] = [.val (lnD lk n), .val (nt w), .val (ni k), .no] := rfl
  have hg : genF false (.one 3) tYesD y1_is_new_move [.val (lnD lk n), .val (nt w), .val (ni k), .no] (ntl w) = .ok (.bl (w.all fun o => !decide (tk lk k = tk lk o))) := by
    have : ntl w = w.map ni := rfl
    rw [this]
    exact genF_enc_all fun o ho => ⟨_, rfl, rfl, by
      have i1 := ll_ix (lk := lk) hk
      have i2 := ll_ix (lk := lk) (hw o ho)
      have hne := ne_one (tk lk k) (tk lk o)
      unfold y1_is_new_move
      simp only [List.set_cons_succ, List.set_cons_zero]
      simp_arith [i1, i2, hne]⟩
  have e : (w.all fun o => !decide (tk lk k = tk lk o)) = decide (tk lk k ∉ w.map (tk lk)) := by
    rw [Bool.eq_iff_iff, List.all_eq_true, decide_eq_true_eq, List.mem_map]
    simp only [Bool.not_eq_true', decide_eq_false_iff_not]
    exact ⟨fun h ⟨o, ho, z⟩ => h o ho z.symm, fun h o ho z => h ⟨o, ho, z.symm⟩⟩
  rw [e] at hg
  unfold m_is_new_move runF b_is_new_move
  rw [hi]
  simp_arith [hg]
theorem pr_place (hn : n ≤ 6) {w : List Nat} (hw : Way lk n w) {k : Nat} (hk : k < n) (hlo : w.headD 0 < k) {F : List D} (hF : F.length < 16777216) {x0 x2 x3 : S} :
    l1_rings [x0, .val (lnD lk n), x2, x3, .own (.lst F), .val (nt w), .val (ni k)] = .next [x0, .val (lnD lk n), x2, x3, .own (.lst (if exc lk w k = true then F ++ [nt (w ++ [k])] else F)), .val (nt w), .val (ni k)] := by
  have hlas : las w < n := hw.lt _ (las_mem hw.ne)
  have i1 := ll_ix (lk := lk) hlas
  have i2 := ll_ix (lk := lk) hk
  have i3 := ix_las hw.ne
  have i4 := ix_hd hw.ne
  have e1 := eq_one (tk lk (las w)) (gv lk k)
  have e2' : ¬ (((k : Nat) : Int) = ((w.headD 0 : Nat) : Int)) := by omega
  have n2 := nin_nt w k
  have hnw := new_ok (lk := lk) hw.lt hk
  have ha : addD (nt w) (.tup [ni k]) = some (nt (w ++ [k])) := by
    show addD (.tup (ntl w)) (.tup [ni k]) = _
    rw [addD_tup, if_pos (by have := hw.len; rw [ntl_len]; simp; omega)]
    show some (D.tup (w.map ni ++ [ni k])) = some (D.tup ((w ++ [k]).map ni))
    rw [List.map_append]; rfl
  unfold l1_rings exc
  generalize lnD lk n = LD at *
  simp_arith [i3, i1, i2, e1]
  by_cases c1 : tk lk (las w) = gv lk k
  · simp_arith [c1, i4, e2', n2, decide_not]
    by_cases c3 : k ∈ w
    · simp_arith [c3]
    · simp_arith [c3, hnw]
      by_cases c2 : tk lk k ∈ w.map (tk lk)
      · simp_arith [c2, decide_not]
      · simp_arith [c2, decide_not]
        rw [ev_sApp _ _ (ds := F) rfl hF]
        simp_arith [ha]
  · simp_arith [c1]
theorem pr_head {w : List Nat} (hw : Way lk n w) {F : List (List Nat)} (hF : F.length ≤ 10000000) {x0 x3 x4 : S} :
    l1_rings [x0, .val (lnD lk n), .own (.lst (mkL F)), x3, x4, .val (nt w), .val (ni (w.headD 0))] = .next [x0, .val (lnD lk n), .own (.lst (mkL (if cyc lk w = true then F ++ [w] else F))), x3, x4, .val (nt w), .val (ni (w.headD 0))] := by
  have hlas : las w < n := hw.lt _ (las_mem hw.ne)
  have hhd : w.headD 0 < n := hw.lt _ (hd_mem hw.ne)
  have i1 := ll_ix (lk := lk) hlas
  have i2 := ll_ix (lk := lk) hhd
  have i3 := ix_las hw.ne
  have i4 := ix_hd hw.ne
  have e1 : eqD (.lst [ni (tk lk (las w))]) (.lst [ni (gv lk (w.headD 0))]) = some (.bl (cyc lk w)) := eq_one _ _
  have hap : (mkL F).length < 16777216 := by rw [List.length_map]; omega
  unfold l1_rings
  generalize lnD lk n = LD at *
  by_cases c : cyc lk w = true
  · have hmm : mkL F ++ [nt w] = mkL (F ++ [w]) := by simp [mkL]
    simp_arith [i3, i1, i2, e1, c, i4]
    rw [ev_sApp _ _ (ds := mkL F) rfl hap]
    simp_arith [hmm]
  · have c' : cyc lk w = false := by simpa using c
    simp_arith [i3, i1, i2, e1, c']
theorem pr_way (hn : n ≤ 6) {ps : List Str} {ms : List Mv} (hp : ps.length = n) {w : List Nat} (hw : Way lk n w) {F G : List (List Nat)} (hF : F.length ≤ 10000000) (hG : G.length ≤ 10000000) {x3 x6 : S} :
    ∃ y6, l2_rings [.val (netD ps ms), .val (lnD lk n), .own (.lst (mkL F)), x3, .own (.lst (mkL G)), .val (nt w), x6] = .next [.val (netD ps ms), .val (lnD lk n), .own (.lst (mkL (if cyc lk w = true then F ++ [w] else F))), x3, .own (.lst (mkL (G ++ ext lk n w))), .val (nt w), y6] := by
  have hhd : w.headD 0 < n := hw.lt _ (hd_mem hw.ne)
  have i4 := ix_hd hw.ne
  have hf := fld_places ps ms
  have hln : ((stl ps).length : Int) = ((n : Nat) : Int) := by unfold stl; rw [List.length_map, hp]
  have hr := rng_12 (w.headD 0) n (by omega) (by omega)
  have hsplit : (List.range (n - w.headD 0)).map (fun d => ni (w.headD 0 + d)) = ni (w.headD 0) :: (List.range (n - (w.headD 0 + 1))).map fun d => ni (w.headD 0 + 1 + d) := by
    rw [show n - w.headD 0 = (n - (w.headD 0 + 1)) + 1 by omega, List.range_succ_eq_map, List.map_cons, List.map_map, Nat.add_zero]
    congr 1
    exact List.map_congr_left fun d _ => by
      show ni (w.headD 0 + (d + 1)) = ni (w.headD 0 + 1 + d)
      rw [show w.headD 0 + (d + 1) = w.headD 0 + 1 + d by omega]
  rw [hsplit] at hr
  have h1 := pr_head hw hF (x0 := .val (netD ps ms)) (x3 := x3) (x4 := .own (.lst (mkL G)))
  obtain ⟨δ', q1, y5, hδ⟩ := forF_run (t := .one 6) (f := l1_rings) (enc := fun d => ni (w.headD 0 + 1 + d)) (fun pre δ => ∃ y6, δ = [.val (netD ps ms), .val (lnD lk n), .own (.lst (mkL (if cyc lk w = true then F ++ [w] else F))), x3, .own (.lst (mkL (G ++ (pre.filter fun d => exc lk w (w.headD 0 + 1 + d)).map fun d => w ++ [w.headD 0 + 1 + d]))), .val (nt w), y6]) (List.range (n - (w.headD 0 + 1)))
    (δ := [.val (netD ps ms), .val (lnD lk n), .own (.lst (mkL (if cyc lk w = true then F ++ [w] else F))), x3, .own (.lst (mkL G)), .val (nt w), .val (ni (w.headD 0))]) ⟨.val (ni (w.headD 0)), by rw [List.filter_nil, List.map_nil, List.append_nil]⟩ (fun pre d δ hb ⟨y5, hδ⟩ => by
      obtain ⟨hb1, hb2⟩ := range_pre hb
      subst hδ
      have hFl : (mkL (G ++ (pre.filter fun d => exc lk w (w.headD 0 + 1 + d)).map fun d => w ++ [w.headD 0 + 1 + d])).length < 16777216 := by
        rw [List.length_map, List.length_append, List.length_map]
        have := List.length_filter_le (fun d => exc lk w (w.headD 0 + 1 + d)) pre
        omega
      refine ⟨_, rfl, _, pr_place hn hw (k := w.headD 0 + 1 + d) (by omega) (by omega) hFl (x0 := .val (netD ps ms)) (x2 := .own (.lst (mkL (if cyc lk w = true then F ++ [w] else F)))) (x3 := x3), .val (ni (w.headD 0 + 1 + d)), ?_⟩
      rw [snoc_filter]
      by_cases c : exc lk w (w.headD 0 + 1 + d) = true
      · rw [if_pos c, if_pos c, ← List.append_assoc]
        unfold mkL
        rw [List.map_append (l₂ := [w ++ [w.headD 0 + 1 + d]])]
        rfl
      · rw [if_neg c, if_neg c])
  refine ⟨y5, ?_⟩
  subst hδ
  unfold l2_rings
  simp_arith [i4, hf, hln, hr]
  simp only [forF, put_one, List.set_cons_succ, List.set_cons_zero, h1]
  exact q1
theorem pr_ways (hn : n ≤ 6) {ps : List Str} {ms : List Mv} (hp : ps.length = n) {x3 : S} : ∀ (W F G : List (List Nat)) (x5 x6 : S), (∀ w ∈ W, Way lk n w) → F.length + W.length ≤ 10000000 → G.length + 6 * W.length ≤ 10000000 →
    ∃ y5 y6, forF (.one 5) l2_rings (mkL W) [.val (netD ps ms), .val (lnD lk n), .own (.lst (mkL F)), x3, .own (.lst (mkL G)), x5, x6] = .next [.val (netD ps ms), .val (lnD lk n), .own (.lst (mkL (F ++ W.filter (cyc lk)))), x3, .own (.lst (mkL (G ++ W.flatMap (ext lk n)))), y5, y6]
  | [], F, G, x5, x6, _, _, _ => ⟨x5, x6, by simp [forF, mkL]⟩
  | w :: W, F, G, x5, x6, h, hF, hG => by
    rw [List.length_cons] at hF hG
    have hel := ext_len (lk := lk) (n := n) w
    obtain ⟨y6, q⟩ := pr_way hn (ms := ms) hp (h w List.mem_cons_self) (F := F) (G := G) (by omega) (by omega) (x3 := x3) (x6 := x6)
    obtain ⟨z5, z6, ih⟩ := pr_ways hn (ms := ms) hp W (if cyc lk w = true then F ++ [w] else F) (G ++ ext lk n w) (.val (nt w)) y6 (fun v hv => h v (List.mem_cons_of_mem _ hv)) (by split <;> (try rw [List.length_append, List.length_singleton]) <;> omega) (by rw [List.length_append]; omega)
    refine ⟨z5, z6, ?_⟩
    show forF (.one 5) l2_rings (nt w :: mkL W) _ = _
    simp only [forF, put_one, List.set_cons_succ, List.set_cons_zero, q]
    rw [ih, List.filter_cons, List.flatMap_cons, List.append_assoc]
    by_cases c : cyc lk w = true
    · rw [if_pos c, if_pos c, List.append_assoc, List.singleton_append]
    · rw [if_neg c, if_neg c]
end
section
variable {ps : List Str} {ms : List Mv} {lk : List (Nat × Nat)}
theorem RN.links (h : RN ps ms lk) : m_links_of [netD ps ms] = .ok (lnD lk ps.length) := by
  rw [links_ok h.net, h.lks, List.map_map]; rfl
def nmP (ps : List Str) (k : Nat) : Str := ps.getD k default
def wyS (ps : List Str) (w : List Nat) : List Str := w.map (nmP ps)
abbrev tsD (x : List Str) : D := .tup (stl x)
theorem RN.pix (h : RN ps ms lk) {k : Nat} (hk : k < ps.length) : ixD (plD ps) (.int ((k : Nat) : Int)) = some (.str (nmP ps k)) := by
  unfold nmP
  rw [stl_ix hk, getS hk]
theorem rings_ok (h : RN ps ms lk) : m_rings [netD ps ms] = .ok (.tup ((sortW (fnd lk ps.length)).map fun w => tsD (wyS ps w))) := by
  have hi : initE 7 [netD ps ms] = [.val (netD ps ms), .no, .no, .no, .no, .no, .no] := rfl
  have hmk := h.marked
  have hlk := h.links
  have hf := fld_places ps ms
  have hn := h.six
  have hln : ((stl ps).length : Int) = ((ps.length : Nat) : Int) := by unfold stl; rw [List.length_map]
  have hr := rng_ni ps.length (by omega)
  generalize hnn : ps.length = n at *
  have hw0 : mapF (.one 6) tYesD y1_rings [.val (netD ps ms), .val (lnD lk n), .own (.lst []), .no, .no, .no, .no] ((List.range n).map ni) = .ok (mkL (Wl lk n 0)) := by
    have : mkL (Wl lk n 0) = (List.range n).map fun k => .tup [ni k] := by
      show ((List.range n).map fun k => [k]).map nt = _
      rw [List.map_map]; rfl
    rw [this]
    exact mapF_enc fun k _ => ⟨_, rfl, rfl, by
      unfold y1_rings
      simp only [List.set_cons_succ, List.set_cons_zero]
      simp_arith []⟩
  have hz0 : (mkL (Wl lk n 0)).length ≤ 16777216 := by
    rw [List.length_map]
    have := Wl_sm (lk := lk) hn (i := 0) (by omega)
    omega
  have hwh : ∃ y3 y4 y5 y6, whileF 1000000 q1_rings w1_rings [.val (netD ps ms), .val (lnD lk n), .own (.lst []), .val (.lst (mkL (Wl lk n 0))), .no, .no, .no] = .next [.val (netD ps ms), .val (lnD lk n), .own (.lst (mkL (fnd lk n))), y3, y4, y5, y6] := by
    refine whileF_gen (P := fun f => ∃ y3 y4 y5 y6, f = .next [.val (netD ps ms), .val (lnD lk n), .own (.lst (mkL (fnd lk n))), y3, y4, y5, y6])
      (fun m δ => ∃ i y4 y5 y6, m = n - i ∧ i ≤ n ∧ δ = [.val (netD ps ms), .val (lnD lk n), .own (.lst (mkL (Fl lk n i))), .val (.lst (mkL (Wl lk n i))), y4, y5, y6])
      (fun m δ h => ?_) 1000000 n _ (by omega) ⟨0, .no, .no, .no, by omega, by omega, rfl⟩
    obtain ⟨i, y4, y5, y6, hm, hi, rfl⟩ := h
    have hwl : decide ((0 : Int) < ((mkL (Wl lk n i)).length : Int)) = !(Wl lk n i).isEmpty := by
      rw [List.length_map]
      cases Wl lk n i with
      | nil => rfl
      | cons a l => simp
    refine ⟨!(Wl lk n i).isEmpty, by unfold q1_rings; simp_arith [hwl], ?_⟩
    cases hW : Wl lk n i with
    | nil =>
      rw [show (!([] : List (List Nat)).isEmpty) = false from rfl, if_neg Bool.false_ne_true]
      exact ⟨_, _, _, _, by rw [Fl_stop hi hW]⟩
    | cons a l =>
      rw [show (!(a :: l).isEmpty) = true from rfl, if_pos rfl, ← hW]
      have hin : i < n := by
        rcases Nat.lt_or_ge i n with z | z
        · exact z
        · obtain rfl : i = n := by omega
          rw [Wl_end] at hW; cases hW
      have h1 := Fl_sm (lk := lk) hn (i := i) (by omega)
      have h2 := Wl_sm (lk := lk) hn (i := i) (by omega)
      obtain ⟨z5, z6, q⟩ := pr_ways (lk := lk) hn (ms := ms) hnn (x3 := .val (.lst (mkL (Wl lk n i)))) (Wl lk n i) (Fl lk n i) [] y5 y6 (fun w hw => (Wl_ok hw).1) (by omega) (by rw [List.length_nil]; omega)
      have hb : w1_rings [.val (netD ps ms), .val (lnD lk n), .own (.lst (mkL (Fl lk n i))), .val (.lst (mkL (Wl lk n i))), y4, y5, y6] = .next [.val (netD ps ms), .val (lnD lk n), .own (.lst (mkL (Fl lk n (i + 1)))), .val (.lst (mkL (Wl lk n (i + 1)))), .val (.lst (mkL (Wl lk n (i + 1)))), z5, z6] := by
        rw [List.nil_append] at q
        unfold w1_rings
        have q' : forF (.one 5) l2_rings (mkL (Wl lk n i)) [.val (netD ps ms), .val (lnD lk n), .own (.lst (mkL (Fl lk n i))), .val (.lst (mkL (Wl lk n i))), .own (.lst []), y5, y6] = _ := q
        simp_arith [q']
        rfl
      rw [hb]
      exact ⟨n - (i + 1), by omega, i + 1, _, _, _, rfl, by omega, rfl⟩
  obtain ⟨y3, y4, y5, y6, hwh⟩ := hwh
  have hso := sort_mk (l := fnd lk n) fun x hx => fnd_ne hx
  have hin : ∀ w ∈ sortW (fnd lk n), ∀ k ∈ w, k < n := fun w hw k hk => (mem_fnd.mp (sortW_mem.mp hw)).1.lt k hk
  have hle : ∀ w ∈ sortW (fnd lk n), w.length ≤ n := fun w hw => (mem_fnd.mp (sortW_mem.mp hw)).1.len
  have hfin : ∀ x2, mapF (.one 5) tYesD y3_rings [.val (netD ps ms), .val (lnD lk n), x2, y3, y4, .no, y6] (mkL (sortW (fnd lk n))) = .ok ((sortW (fnd lk n)).map fun w => tsD (wyS ps w)) := fun x2 => mapF_enc fun w hw => ⟨_, rfl, rfl, by
    have hm : mapF (.one 6) tYesD y2_rings [.val (netD ps ms), .val (lnD lk n), x2, y3, y4, .val (nt w), .no] (ntl w) = .ok (stl (wyS ps w)) := by
      have : ntl w = w.map ni := rfl
      rw [this, mapF_enc (g := fun k => .str (nmP ps k)) fun k hk => ⟨_, rfl, rfl, by
        have := h.pix (k := k) (by rw [hnn]; exact hin w hw k hk)
        unfold y2_rings
        simp only [List.set_cons_succ, List.set_cons_zero]
        simp_arith [hf, this]⟩]
      unfold wyS stl
      rw [List.map_map]; rfl
    have hz : (stl (wyS ps w)).length ≤ 16777216 := by
      unfold stl wyS
      rw [List.length_map, List.length_map]
      have := hle w hw
      omega
    unfold y3_rings
    simp only [List.set_cons_succ, List.set_cons_zero]
    simp_arith [hm, hz]⟩
  have hzf : ((sortW (fnd lk n)).map fun w => tsD (wyS ps w)).length ≤ 16777216 := by
    rw [List.length_map]
    unfold sortW
    rw [List.length_mergeSort]
    have := Fl_sm (lk := lk) hn (i := n) (by omega)
    have e : fnd lk n = Fl lk n n := rfl
    rw [e]
    have : 279936 * n ≤ 279936 * 6 := Nat.mul_le_mul_left _ hn
    omega
  unfold m_rings runF b_rings
  rw [hi]
  generalize lnD lk n = LD at *
  simp_arith [hmk, hlk, hf, hln, hr, hw0, hz0, hwh, hso, hfin, hzf]
end
end K53

set_option Elab.async false
set_option linter.all false
set_option maxRecDepth 100000
set_option maxHeartbeats 2000000
/-! k53: the order by the empty places. -/
namespace K53
open PySem Dl Sh
local macro_rules | `(tactic| simp_arith [$ts,*]) => `(tactic| simp only [ev_bind_ok, ev_bind_exc, ev_bindF_ok, ev_bindF_exc, ev_sNext, ev_sSeq, ev_sIf, ev_sRet, ev_sSet, ev_sOwn, ev_sDrop, ev_sRaise, ev_sFrz, ev_sUnp, ev_sFor, ev_eC, Dl.ev_e1, Dl.ev_e2, ev_eB, ev_eCall, ev_aNil, ev_aCons, ev_eIf, blR_bl, ev_tB1, ev_tAnd, ev_tOr, andK_bl, orK_bl, notK_bl, ev_eAnd, ev_eOr, ev_eNot, ev_tNot, ev_tYes, ev_oNone, ev_oSome, ev_eSl, ev_iSeq, ev_iRng, ev_eN, ev_ofO_some, ev_eV0, ev_eVs, lt_int, le_int, gt_int, ge_int, add_int, sub_int, iadd_int, len_tup, len_lst, eq_int, ne_int, itD_tup, itD_lst, put_one, fz_nil, fz_val, fz_no, fz_own, fz_succ, od_lst, od_lol, od_dk, od_dt, odict_lst, odict_dk, odict_dt, wp_nil, wp_cons, sa_nil, sa_cons, put_all, ev_eTup', ev_eLst', ev_nLst, ev_nLc, ev_eGen', ev_tBor, ev_eBor, ev_sPar, ev_eM, ev_eM0, ev_eCallM, ev_aSnoc, ok_tup, ok_lst, ok_str, ev_tIf, notB_eq, isB_eq, isN_eq, notN_eq, neg_int, tupD_lst, tupD_tup, listD_lst, listD_tup, pure_int, pure_bl, pure_str, pure_non, pureL_int, ev_eIsi, addD_lst, addD_tup, ix_t0, ix_t1, ix_t2, ix_l0, ix_l1, ix_l2, isi_tt, isi_ss, isT_tup, isS_str, List.set_cons_succ, List.set_cons_zero, List.length_cons, List.length_nil, Nat.reduceAdd, Nat.reduceLeDiff, Nat.zero_add, Nat.zero_le, if_true, if_false, Bool.false_eq_true, decide_true, decide_false, Bool.not_true, Bool.not_false, Bool.true_or, Bool.false_or, Bool.or_true, Bool.or_false, Bool.true_and, Bool.false_and, Bool.and_true, Bool.and_false, Int.cast_ofNat_Int, Int.reduceEq, Int.reduceLT, Int.reduceLE, Int.reduceNeg, reduceCtorEq, List.cons_append, List.nil_append, eq_of, ne_of, String.reduceEq, $ts,*])
def emp (m : List Nat) (n : Nat) : List Nat := (List.range n).filter fun k => decide (m.getD k 0 = 0)
def fre (lk : List (Nat × Nat)) (E L : List Nat) : List Nat := L.filter fun k => !(E.any fun p => decide (tk lk p = k) && decide (gv lk p ∈ L))
/-- no turn is free: each has an empty place before it whose giver is left too -/
structure Stk (lk : List (Nat × Nat)) (E : List Nat) (c : Nat) (L : List Nat) : Prop where
  ne : L ≠ []
  lt : ∀ k ∈ L, k < c
  nd : L.Nodup
  ex : ∀ k ∈ L, ∃ p ∈ E, tk lk p = k ∧ gv lk p ∈ L
structure Ord (lk : List (Nat × Nat)) (E : List Nat) (c : Nat) (O : List Nat) : Prop where
  nd : O.Nodup
  mem : ∀ k, k ∈ O ↔ k < c
  lt : ∀ p ∈ E, O.idxOf (gv lk p) < O.idxOf (tk lk p)
structure Mid (lk : List (Nat × Nat)) (E : List Nat) (c : Nat) (L O : List Nat) : Prop where
  nd : (O ++ L).Nodup
  mem : ∀ k, k ∈ O ++ L ↔ k < c
  lt : ∀ p ∈ E, tk lk p ∈ O → gv lk p ∈ O ∧ O.idxOf (gv lk p) < O.idxOf (tk lk p)
theorem er_map (k : Nat) : ∀ L : List Nat, (L.map fun (j : Nat) => (j : Int)).erase (k : Int) = (L.erase k).map fun (j : Nat) => (j : Int)
  | [] => rfl
  | a :: L => by
    by_cases c : a = k
    · subst c
      simp
    · have c' : ¬ ((a : Int) = (k : Int)) := by omega
      rw [List.map_cons, List.erase_cons_tail (by simpa using c'), List.erase_cons_tail (by simpa using c), List.map_cons, er_map k L]
theorem as_ints : ∀ L : List Nat, asInts (L.map ni) = some (L.map fun (j : Nat) => (j : Int))
  | [] => rfl
  | a :: L => by
    show asInts (.int a :: L.map ni) = _
    rw [asInts, as_ints L]; rfl
theorem ev_rem {δ : Dl.Env} {i k : Nat} {L : List Nat} {f : Ev} (h0 : δ[i]? = some (.own (.lst (L.map ni)))) (hf : f δ = .ok (ni k)) (hk : k ∈ L) : sRem i f δ = .next (δ.set i (.own (.lst ((L.erase k).map ni)))) := by
  have h1 : ((k : Nat) : Int) ∈ L.map fun (j : Nat) => (j : Int) := List.mem_map.mpr ⟨k, hk, rfl⟩
  unfold sRem
  rw [h0]
  simp only [hf, ev_bindF_ok, as_ints, h1, if_true, er_map, List.map_map]
  rfl
theorem nrng6 {f : Ev} {δ : Dl.Env} {n : Nat} (h : f δ = .ok (.int n)) (hn : n ≤ 100000) : nRng (eC (.int 0)) f δ = .ok ((List.range n).map ni) := by
  have h1 : lg 0 62 = true := by decide
  have h2 : lg (n : Int) 62 = true := lg_of (by rw [Int.natAbs_natCast]; omega) (by decide)
  have h3 : decide (((n : Int) - 0).toNat ≤ 16777216) = true := decide_eq_true (by omega)
  have h4 : ((n : Int) - 0).toNat = n := by omega
  unfold nRng
  simp only [ev_eC, ev_bind_ok, h, h1, h2, h3, Bool.and_self]
  show ofO (some ((List.range ((n : Int) - 0).toNat).map fun (k : Nat) => D.int (0 + k))) = _
  rw [h4]
  simp only [Int.zero_add]
  rfl
section
variable {lk : List (Nat × Nat)} {E L O : List Nat} {c : Nat}
theorem mem_fre {k : Nat} : k ∈ fre lk E L ↔ k ∈ L ∧ ∀ p ∈ E, tk lk p = k → gv lk p ∉ L := by
  unfold fre
  rw [List.mem_filter, Bool.not_eq_true', List.any_eq_false]
  simp only [Bool.and_eq_true, decide_eq_true_eq, not_and]
theorem Mid.stuck (h : Mid lk E c L O) (h0 : L ≠ []) (hf : fre lk E L = []) : Stk lk E c L := by
  refine ⟨h0, fun k hk => (h.mem k).mp (List.mem_append_right _ hk), (List.nodup_append.mp h.nd).2.1, fun k hk => ?_⟩
  have : k ∉ fre lk E L := by rw [hf]; simp
  rw [mem_fre] at this
  apply Classical.byContradiction
  intro z
  exact this ⟨hk, fun p hp e g => z ⟨p, hp, e, g⟩⟩
theorem Mid.fin (h : Mid lk E c [] O) (ht : ∀ p ∈ E, tk lk p < c) : Ord lk E c O := by
  refine ⟨by simpa using h.nd, fun k => by simpa using h.mem k, fun p hp => ?_⟩
  refine (h.lt p hp ?_).2
  have := (h.mem (tk lk p)).mpr (ht p hp)
  simpa using this
theorem Mid.next (h : Mid lk E c L O) (hg : ∀ p ∈ E, gv lk p < c) {k : Nat} (hk : k ∈ fre lk E L) : Mid lk E c (L.erase k) (O ++ [k]) := by
  obtain ⟨h1, h2⟩ := mem_fre.mp hk
  have hp : (O ++ [k] ++ L.erase k).Perm (O ++ L) := by
    rw [List.append_assoc]
    exact List.Perm.append_left _ (List.perm_cons_erase h1).symm
  have hkO : k ∉ O := fun z => (List.nodup_append.mp h.nd).2.2 k z k h1 rfl
  refine ⟨hp.nodup_iff.mpr h.nd, fun j => by rw [hp.mem_iff]; exact h.mem j, fun p hp' ht => ?_⟩
  rcases List.mem_append.mp ht with ht | ht
  · obtain ⟨q1, q2⟩ := h.lt p hp' ht
    refine ⟨List.mem_append_left _ q1, ?_⟩
    rw [List.idxOf_append, if_pos q1, List.idxOf_append, if_pos ht]
    exact q2
  · have ht := List.mem_singleton.mp ht
    have q1 : gv lk p ∈ O := by
      have := (h.mem (gv lk p)).mpr (hg p hp')
      rcases List.mem_append.mp this with z | z
      · exact z
      · exact absurd z (h2 p hp' ht)
    refine ⟨List.mem_append_left _ q1, ?_⟩
    rw [List.idxOf_append, if_pos q1, ht, List.idxOf_append, if_neg hkO]
    have := List.idxOf_lt_length_of_mem q1
    omega
end
section
variable {ps : List Str} {ms : List Mv} {lk : List (Nat × Nat)} {mk : List Nat}
abbrev lnk (lk : List (Nat × Nat)) (p : Nat) : D := .tup [.lst [ni (gv lk p)], .lst [ni (tk lk p)]]
theorem RN.emp_bd (h : RN ps ms lk) {p : Nat} (hp : p ∈ emp mk ps.length) : p < ps.length ∧ gv lk p < ms.length ∧ tk lk p < ms.length := by
  have := List.mem_range.mp (List.mem_filter.mp hp).1
  exact ⟨this, h.bd p this⟩
theorem order_ok (h : RN ps ms lk) (hm : mk.length = ps.length) :
    (∃ L, Stk lk (emp mk ps.length) ms.length L ∧ m_order_by_empty [netD ps ms, nt mk] = .ok (.tup [.non, .lst (L.map ni)])) ∨
    (∃ O, Ord lk (emp mk ps.length) ms.length O ∧ m_order_by_empty [netD ps ms, nt mk] = .ok (.tup [.lst (O.map ni), .lst []])) := by
  have hi : initE 11 [netD ps ms, nt mk] = [.val (netD ps ms), .val (nt mk), .no, .no, .no, .no, .no, .no, .no, .no, .no] := rfl
  have hlk := h.links
  have hf := fld_moves ps ms
  have hn := h.six
  have hfour := h.four
  have hbd := fun p (hp : p ∈ emp mk ps.length) => h.emp_bd hp
  have hml : lenD [msD ms] = some (.int (ms.length : Int)) := by
    show some (D.int ((ms.map mvD).length : Int)) = _
    rw [List.length_map]
  have hkl : lenD [nt mk] = some (.int (ps.length : Int)) := by
    show some (D.int ((mk.map ni).length : Int)) = _
    rw [List.length_map, hm]
  have hr := rng_ni ps.length (by omega)
  have hr2 := rng_ni ms.length (by omega)
  generalize hnn : ps.length = n at *
  generalize hcc : ms.length = cc at *
  have he : mapF (.one 7) c1_order_by_empty y1_order_by_empty [.val (netD ps ms), .val (nt mk), .val (lnD lk n), .no, .no, .no, .no, .no, .no, .no, .no] ((List.range n).map ni) = .ok ((emp mk n).map (lnk lk)) := mapF_filter fun k hk => ⟨_, rfl, by
    have hk := List.mem_range.mp hk
    have i1 := nt_ix (m := mk) (k := k) (by omega)
    have e : decide (((mk.getD k 0 : Nat) : Int) = 0) = decide (mk.getD k 0 = 0) := by rw [Bool.eq_iff_iff, decide_eq_true_eq, decide_eq_true_eq]; omega
    unfold c1_order_by_empty
    simp only [List.set_cons_succ, List.set_cons_zero]
    simp_arith [i1, e], fun _ => by
    have i2 := ll_ix (lk := lk) (List.mem_range.mp hk)
    unfold y1_order_by_empty
    simp only [List.set_cons_succ, List.set_cons_zero]
    generalize lnD lk n = LD at *
    simp_arith [i2]⟩
  generalize hE : emp mk n = E at *
  have hEl : E.length ≤ n := by
    rw [← hE]; unfold emp
    exact Nat.le_trans (List.length_filter_le _ _) (by rw [List.length_range]; omega)
  have hfr : ∀ L x5 x6, mapF (.one 8) c2_order_by_empty y3_order_by_empty [.val (netD ps ms), .val (nt mk), .val (lnD lk n), .val (.lst (E.map (lnk lk))), .val (.lst (L.map ni)), x5, x6, .no, .no, .no, .no] (L.map ni) = .ok ((fre lk E L).map ni) := fun L x5 x6 => mapF_filter fun k hk => ⟨_, rfl, by
    have hg : genF true (.all [9, 10]) tYesD y2_order_by_empty [.val (netD ps ms), .val (nt mk), .val (lnD lk n), .val (.lst (E.map (lnk lk))), .val (.lst (L.map ni)), x5, x6, .no, .val (ni k), .no, .no] (E.map (lnk lk)) = .ok (.bl (E.any fun p => decide (tk lk p = k) && decide (gv lk p ∈ L))) := genF_enc_any fun p hp => ⟨[.val (netD ps ms), .val (nt mk), .val (lnD lk n), .val (.lst (E.map (lnk lk))), .val (.lst (L.map ni)), x5, x6, .no, .val (ni k), .val (.lst [ni (gv lk p)]), .val (.lst [ni (tk lk p)])], rfl, rfl, by
      have e1 := eq_one (tk lk p) k
      have e2' := in_ni L (gv lk p)
      unfold y2_order_by_empty
      simp_arith [e1, e2']
      by_cases c : tk lk p = k <;> simp_arith [c]⟩
    unfold c2_order_by_empty
    simp only [List.set_cons_succ, List.set_cons_zero]
    simp_arith [hg], fun _ => rfl⟩
  have hwh : ∀ f, f = whileF 1000000 q1_order_by_empty w1_order_by_empty [.val (netD ps ms), .val (nt mk), .val (lnD lk n), .val (.lst (E.map (lnk lk))), .own (.lst ((List.range cc).map ni)), .own (.lst []), .no, .no, .no, .no, .no] →
      ((∃ L, Stk lk E cc L ∧ f = .ret (.tup [.non, .lst (L.map ni)])) ∨ (∃ O x6, Ord lk E cc O ∧ f = .next [.val (netD ps ms), .val (nt mk), .val (lnD lk n), .val (.lst (E.map (lnk lk))), .own (.lst []), .own (.lst (O.map ni)), x6, .no, .no, .no, .no])) := by
    rintro _ rfl
    refine whileF_gen (P := fun f => (∃ L, Stk lk E cc L ∧ f = .ret (.tup [.non, .lst (L.map ni)])) ∨ (∃ O x6, Ord lk E cc O ∧ f = .next [.val (netD ps ms), .val (nt mk), .val (lnD lk n), .val (.lst (E.map (lnk lk))), .own (.lst []), .own (.lst (O.map ni)), x6, .no, .no, .no, .no]))
      (fun m δ => ∃ L O x6, m = L.length ∧ Mid lk E cc L O ∧ δ = [.val (netD ps ms), .val (nt mk), .val (lnD lk n), .val (.lst (E.map (lnk lk))), .own (.lst (L.map ni)), .own (.lst (O.map ni)), x6, .no, .no, .no, .no])
      (fun m δ h => ?_) 1000000 cc _ (by omega) ⟨List.range cc, [], .no, by simp, ⟨by simpa using List.nodup_range, fun k => by simp, fun p _ z => by simp at z⟩, rfl⟩
    obtain ⟨L, O, x6, hm', hM, rfl⟩ := h
    have hwl : decide ((0 : Int) < ((L.map ni).length : Int)) = !L.isEmpty := by
      rw [List.length_map]
      cases L with
      | nil => rfl
      | cons a l => simp
    refine ⟨!L.isEmpty, by unfold q1_order_by_empty; simp_arith [hwl], ?_⟩
    cases hL : L with
    | nil =>
      subst hL
      rw [show (!([] : List Nat).isEmpty) = false from rfl, if_neg Bool.false_ne_true]
      exact .inr ⟨O, x6, hM.fin fun p hp => (hbd p hp).2.2, rfl⟩
    | cons a l =>
      rw [show (!(a :: l).isEmpty) = true from rfl, if_pos rfl, ← hL]
      have hne : L ≠ [] := by rw [hL]; simp
      have hfl := hfr L (.own (.lst (O.map ni))) x6
      have hsub : (fre lk E L).length ≤ L.length := List.length_filter_le _ _
      have hOL : (O ++ L).length ≤ cc := by
        have := nd_sub_len (m := List.range cc) hM.nd fun x hx => List.mem_range.mpr ((hM.mem x).mp hx)
        rwa [List.length_range] at this
      rw [List.length_append] at hOL
      have hz : ((fre lk E L).map ni).length ≤ 16777216 := by rw [List.length_map]; omega
      have hpu : D.pures ((fre lk E L).map ni) = true := pures_of fun x hx => by
        obtain ⟨k, _, rfl⟩ := List.mem_map.mp hx
        rfl
      have hb1 : (nBor 4 (nLc [8] (.one 8) (iSeq (eV 4)) c2_order_by_empty y3_order_by_empty)) [.val (netD ps ms), .val (nt mk), .val (lnD lk n), .val (.lst (E.map (lnk lk))), .own (.lst (L.map ni)), .own (.lst (O.map ni)), x6, .no, .no, .no, .no] = .ok ((fre lk E L).map ni) := by
        unfold nBor
        simp_arith [hfl, hz, hpu]
      cases hFr : fre lk E L with
      | nil =>
        have hb : w1_order_by_empty [.val (netD ps ms), .val (nt mk), .val (lnD lk n), .val (.lst (E.map (lnk lk))), .own (.lst (L.map ni)), .own (.lst (O.map ni)), x6, .no, .no, .no, .no] = .ret (.tup [.non, .lst (L.map ni)]) := by
          rw [hFr] at hb1
          unfold w1_order_by_empty
          simp_arith [hb1, List.map_nil]
        rw [hb]
        exact .inl ⟨L, hM.stuck hne hFr, rfl⟩
      | cons k Fr =>
        have hk : k ∈ fre lk E L := by rw [hFr]; exact List.mem_cons_self
        have hkL := (mem_fre.mp hk).1
        have hb : w1_order_by_empty [.val (netD ps ms), .val (nt mk), .val (lnD lk n), .val (.lst (E.map (lnk lk))), .own (.lst (L.map ni)), .own (.lst (O.map ni)), x6, .no, .no, .no, .no] = .next [.val (netD ps ms), .val (nt mk), .val (lnD lk n), .val (.lst (E.map (lnk lk))), .own (.lst ((L.erase k).map ni)), .own (.lst ((O ++ [k]).map ni)), .val (.lst ((k :: Fr).map ni)), .no, .no, .no, .no] := by
          have hln : ¬ (((k :: Fr).map ni).length : Int) = 0 := by rw [List.length_map, List.length_cons]; omega
          have hix : ixD (.lst ((k :: Fr).map ni)) (.int 0) = some (ni k) := by rw [List.map_cons, ix_l0]
          have hOz : (O.map ni).length < 16777216 := by rw [List.length_map]; omega
          rw [hFr] at hb1
          unfold w1_order_by_empty
          generalize (k :: Fr).map ni = FD at *
          simp_arith [hb1, hln]
          rw [ev_sApp _ _ (ds := O.map ni) rfl hOz]
          simp_arith [hix]
          rw [ev_rem (L := L) (k := k) rfl (by simp_arith [hix]) hkL]
          rw [List.map_append]; rfl
        rw [hb]
        refine ⟨(L.erase k).length, by rw [List.length_erase_of_mem hkL]; have := List.length_pos_iff.mpr hne; omega, L.erase k, O ++ [k], _, rfl, hM.next (fun p hp => (hbd p hp).2.1) hk, rfl⟩
  have hng : nRng (eC (.int 0)) (eB lenD (aCons (e1 (fldD "Net" "moves") (eV 0)) aNil)) [.val (netD ps ms), .val (nt mk), .val (lnD lk n), .val (.lst (E.map (lnk lk))), .no, .no, .no, .no, .no, .no, .no] = .ok ((List.range cc).map ni) := by
    exact nrng6 (by simp_arith [hf, hml]) (by omega)
  have hez : (E.map (lnk lk)).length ≤ 16777216 := by rw [List.length_map]; omega
  generalize hW : whileF 1000000 q1_order_by_empty w1_order_by_empty [.val (netD ps ms), .val (nt mk), .val (lnD lk n), .val (.lst (E.map (lnk lk))), .own (.lst ((List.range cc).map ni)), .own (.lst []), .no, .no, .no, .no, .no] = f at hwh
  generalize lnD lk n = LD at *
  rcases hwh f rfl with ⟨L, h1, rfl⟩ | ⟨O, x6, h1, rfl⟩
  · refine .inl ⟨L, h1, ?_⟩
    unfold m_order_by_empty runF b_order_by_empty
    rw [hi]
    simp_arith [hlk, hkl, hr, he, hez, hng, hW]
  · refine .inr ⟨O, h1, ?_⟩
    unfold m_order_by_empty runF b_order_by_empty
    rw [hi]
    simp_arith [hlk, hkl, hr, he, hez, hng, hW]
end
end K53

set_option Elab.async false
set_option linter.all false
set_option maxRecDepth 100000
set_option maxHeartbeats 2000000
/-! k53: an empty ring; the paper. -/
namespace K53
open PySem Dl Sh
local macro_rules | `(tactic| simp_arith [$ts,*]) => `(tactic| simp only [ev_bind_ok, ev_bind_exc, ev_bindF_ok, ev_bindF_exc, ev_sNext, ev_sSeq, ev_sIf, ev_sRet, ev_sSet, ev_sOwn, ev_sDrop, ev_sRaise, ev_sFrz, ev_sUnp, ev_sFor, ev_eC, Dl.ev_e1, Dl.ev_e2, ev_eB, ev_eCall, ev_aNil, ev_aCons, ev_eIf, blR_bl, ev_tB1, ev_tAnd, ev_tOr, andK_bl, orK_bl, notK_bl, ev_eAnd, ev_eOr, ev_eNot, ev_tNot, ev_tYes, ev_oNone, ev_oSome, ev_eSl, ev_iSeq, ev_iRng, ev_eN, ev_ofO_some, ev_eV0, ev_eVs, lt_int, le_int, gt_int, ge_int, add_int, sub_int, iadd_int, len_tup, len_lst, eq_int, ne_int, itD_tup, itD_lst, put_one, fz_nil, fz_val, fz_no, fz_own, fz_succ, od_lst, od_lol, od_dk, od_dt, odict_lst, odict_dk, odict_dt, wp_nil, wp_cons, sa_nil, sa_cons, put_all, ev_eTup', ev_eLst', ev_nLst, ev_nLc, ev_eGen', ev_tBor, ev_eBor, ev_sPar, ev_eM, ev_eM0, ev_eCallM, ev_aSnoc, ok_tup, ok_lst, ok_str, ev_tIf, notB_eq, isB_eq, isN_eq, notN_eq, neg_int, tupD_lst, tupD_tup, listD_lst, listD_tup, pure_int, pure_bl, pure_str, pure_non, pureL_int, ev_eIsi, addD_lst, addD_tup, ix_t0, ix_t1, ix_t2, ix_l0, ix_l1, ix_l2, isi_tt, isi_ss, isT_tup, isS_str, List.set_cons_succ, List.set_cons_zero, List.length_cons, List.length_nil, Nat.reduceAdd, Nat.reduceLeDiff, Nat.zero_add, Nat.zero_le, if_true, if_false, Bool.false_eq_true, decide_true, decide_false, Bool.not_true, Bool.not_false, Bool.true_or, Bool.false_or, Bool.or_true, Bool.or_false, Bool.true_and, Bool.false_and, Bool.and_true, Bool.and_false, Int.cast_ofNat_Int, Int.reduceEq, Int.reduceLT, Int.reduceLE, Int.reduceNeg, reduceCtorEq, List.cons_append, List.nil_append, eq_of, ne_of, String.reduceEq, $ts,*])
/-- a closed walk with each move once -/
structure Rg (lk : List (Nat × Nat)) (n : Nat) (w : List Nat) : Prop where
  ne : w ≠ []
  lt : ∀ k ∈ w, k < n
  td : (w.map (tk lk)).Nodup
  ch : ∀ i, i < w.length → tk lk (w.getD i 0) = gv lk (w.getD ((i + 1) % w.length) 0)
def ahd (lk : List (Nat × Nat)) (E L : List Nat) (k : Nat) : List Nat := E.filter fun p => decide (tk lk p = k) && decide (gv lk p ∈ L)
/-- the walk backwards -/
structure Bk (lk : List (Nat × Nat)) (E L : List Nat) (M W : List Nat) (mv : Nat) : Prop where
  nd : M.Nodup
  sub : ∀ x ∈ M, x ∈ L
  mvL : mv ∈ L
  len : W.length = M.length
  inE : ∀ p ∈ W, p ∈ E
  tk : W.map (tk lk) = M
  gv : ∀ i, i < W.length → gv lk (W.getD i 0) = (M ++ [mv]).getD (i + 1) 0
theorem getD_snoc_lt {l : List Nat} {x i : Nat} (h : i < l.length) : (l ++ [x]).getD i 0 = l.getD i 0 := by
  rw [List.getD_eq_getElem?_getD, List.getD_eq_getElem?_getD, List.getElem?_append_left h]
theorem getD_snoc_eq {l : List Nat} {x i : Nat} (h : i = l.length) : (l ++ [x]).getD i 0 = x := by
  subst h
  simp
theorem getD_map' {f : Nat → Nat} {l : List Nat} {i : Nat} (h : i < l.length) : (l.map f).getD i 0 = f (l.getD i 0) := by
  rw [List.getD_eq_getElem?_getD, List.getD_eq_getElem?_getD, List.getElem?_map, List.getElem?_eq_getElem h]; rfl
theorem getD_mem {l : List Nat} {i : Nat} (h : i < l.length) : l.getD i 0 ∈ l := by
  rw [List.getD_eq_getElem?_getD, List.getElem?_eq_getElem h]
  exact List.getElem_mem h
theorem nd_map {f : Nat → Nat} : ∀ {l : List Nat}, (l.map f).Nodup → l.Nodup
  | [], _ => by simp
  | a :: l, h => by
    rw [List.map_cons, List.nodup_cons] at h
    rw [List.nodup_cons]
    exact ⟨fun z => h.1 (List.mem_map_of_mem z), nd_map h.2⟩
section
variable {lk : List (Nat × Nat)} {E L M W : List Nat} {c mv : Nat}
theorem Bk.step (h : Bk lk E L M W mv) (hn : mv ∉ M) {p : Nat} (hp : p ∈ ahd lk E L mv) : Bk lk E L (M ++ [mv]) (W ++ [p]) (K53.gv lk p) := by
  obtain ⟨h1, h2⟩ := List.mem_filter.mp hp
  rw [Bool.and_eq_true, decide_eq_true_eq, decide_eq_true_eq] at h2
  refine ⟨?_, fun x hx => ?_, h2.2, by rw [List.length_append, List.length_append, h.len]; rfl, fun q hq => ?_, ?_, fun i hi => ?_⟩
  · rw [List.nodup_append]
    exact ⟨h.nd, by simp, fun x hx y hy z => by rw [List.mem_singleton.mp hy] at z; exact hn (z ▸ hx)⟩
  · rcases List.mem_append.mp hx with hx | hx
    · exact h.sub x hx
    · rw [List.mem_singleton.mp hx]; exact h.mvL
  · rcases List.mem_append.mp hq with hq | hq
    · exact h.inE q hq
    · rw [List.mem_singleton.mp hq]; exact h1
  · rw [List.map_append, h.tk, List.map_cons, List.map_nil, h2.1]
  · rw [List.length_append, List.length_singleton] at hi
    by_cases c : i < W.length
    · rw [getD_snoc_lt c, h.gv i c, getD_snoc_lt (l := M ++ [mv]) (by rw [List.length_append, List.length_singleton, ← h.len]; omega)]
    · rw [getD_snoc_eq (by omega), getD_snoc_eq (by rw [List.length_append, List.length_singleton, ← h.len]; omega)]
theorem Bk.ring (h : Bk lk E L M W mv) (hi : mv ∈ M) {n : Nat} (hE : ∀ p ∈ E, p < n) : Rg lk n (W.drop (M.idxOf mv)).reverse ∧ ∀ k ∈ (W.drop (M.idxOf mv)).reverse, k ∈ E := by
  have hlt := List.idxOf_lt_length_of_mem hi
  have hat : M.getD (M.idxOf mv) 0 = mv := by
    rw [List.getD_eq_getElem?_getD, List.getElem?_eq_getElem hlt]
    exact List.getElem_idxOf hlt
  generalize M.idxOf mv = i at *
  have hl := h.len
  have hin : ∀ k ∈ (W.drop i).reverse, k ∈ E := fun k hk => h.inE k (List.mem_of_mem_drop (List.mem_reverse.mp hk))
  have hq : (W.drop i).reverse.length = W.length - i := by rw [List.length_reverse, List.length_drop]
  have hget : ∀ j, j < W.length - i → (W.drop i).reverse.getD j 0 = W.getD (W.length - 1 - j) 0 := fun j hj => by
    rw [List.getD_eq_getElem?_getD, List.getD_eq_getElem?_getD, List.getElem?_reverse (by rw [List.length_drop]; exact hj), List.getElem?_drop, List.length_drop, show i + (W.length - i - 1 - j) = W.length - 1 - j by omega]
  have htk : ∀ j, j < W.length → K53.tk lk (W.getD j 0) = M.getD j 0 := fun j hj => by
    rw [← h.tk, getD_map' hj]
  refine ⟨⟨fun z => by rw [z] at hq; simp at hq; omega, fun k hk => hE k (hin k hk), ?_, fun j hj => ?_⟩, hin⟩
  · rw [List.map_reverse, List.map_drop, h.tk]
    exact (List.reverse_perm _).nodup_iff.mpr (h.nd.sublist (List.drop_sublist _ _))
  · rw [hq] at hj ⊢
    rw [hget j hj, htk _ (by omega)]
    by_cases c : j + 1 < W.length - i
    · rw [Nat.mod_eq_of_lt c, hget _ c, h.gv _ (by omega), getD_snoc_lt (by omega), show W.length - 1 - (j + 1) + 1 = W.length - 1 - j by omega]
    · have : j + 1 = W.length - i := by omega
      rw [this, Nat.mod_self, hget 0 (by omega), h.gv _ (by omega), getD_snoc_eq (by omega), ← hat, show W.length - 1 - j = i by omega]
end
section
variable {ps : List Str} {ms : List Mv} {lk : List (Nat × Nat)} {mk : List Nat}
theorem idx_ni {l : List Nat} {k : Nat} (h : k ∈ l) : idxD (.lst (l.map ni)) [ni k] = some (.int (l.idxOf k : Nat)) := by
  rw [idx_lst (gd_int _) fun y hy => by obtain ⟨j, _, rfl⟩ := List.mem_map.mp hy; exact gd_int _, if_pos (List.mem_map.mpr ⟨k, h, rfl⟩), idx_enc ni_inj]
theorem empty_ok (h : RN ps ms lk) (hm : mk.length = ps.length) {L : List Nat} (hs : Stk lk (emp mk ps.length) ms.length L) :
    ∃ w, Rg lk ps.length w ∧ (∀ k ∈ w, k ∈ emp mk ps.length) ∧ m_empty_ring [netD ps ms, nt mk, .lst (L.map ni)] = .ok (tsD (wyS ps w)) := by
  have hL := hs.nd
  have hi : initE 10 [netD ps ms, nt mk, .lst (L.map ni)] = [.val (netD ps ms), .val (nt mk), .val (.lst (L.map ni)), .no, .no, .no, .no, .no, .no, .no] := rfl
  have hlk := h.links
  have hf := fld_places ps ms
  have hn := h.six
  have hfour := h.four
  have hpix := fun k (hk : k < ps.length) => h.pix hk
  have hkl : lenD [nt mk] = some (.int (ps.length : Int)) := by
    show some (D.int ((mk.map ni).length : Int)) = _
    rw [List.length_map, hm]
  have hr := rng_ni ps.length (by omega)
  have hEb : ∀ p ∈ emp mk ps.length, p < ps.length := fun p hp => List.mem_range.mp (List.mem_filter.mp hp).1
  have hLl : L.length ≤ ms.length := by
    have := nd_sub_len (m := List.range ms.length) hL fun x hx => List.mem_range.mpr (hs.lt x hx)
    rwa [List.length_range] at this
  generalize hnn : ps.length = n at *
  have hL0 : ixD (.lst (L.map ni)) (.int 0) = some (ni (L.headD 0)) := by
    have := hs.ne
    cases L with
    | nil => exact absurd rfl this
    | cons a l => rw [List.map_cons, ix_l0]; rfl
  have hhd : L.headD 0 ∈ L := hd_mem hs.ne
  have hah : ∀ x4 k x6 x7 x8, mapF (.one 9) c1_empty_ring y1_empty_ring [.val (netD ps ms), .val (nt mk), .val (.lst (L.map ni)), .val (lnD lk n), x4, .val (ni k), x6, x7, x8, .no] ((List.range n).map ni) = .ok ((ahd lk (emp mk n) L k).map ni) := fun x4 k x6 x7 x8 => by
    have e0 : ahd lk (emp mk n) L k = (List.range n).filter fun p => decide (mk.getD p 0 = 0) && (decide (tk lk p = k) && decide (gv lk p ∈ L)) := by
      unfold ahd emp
      rw [List.filter_filter]
      exact List.filter_congr fun p _ => Bool.and_comm _ _
    rw [e0]
    exact mapF_filter fun p hp => ⟨_, rfl, by
      have hp := List.mem_range.mp hp
      have i1 := nt_ix (m := mk) (k := p) (by omega)
      have i2 := ll_ix (lk := lk) hp
      have e : decide (((mk.getD p 0 : Nat) : Int) = 0) = decide (mk.getD p 0 = 0) := by rw [Bool.eq_iff_iff, decide_eq_true_eq, decide_eq_true_eq]; omega
      have e1 := eq_one (tk lk p) k
      have e2' := in_ni L (gv lk p)
      unfold c1_empty_ring
      simp only [List.set_cons_succ, List.set_cons_zero]
      generalize lnD lk n = LD at *
      simp_arith [i1, e]
      by_cases c : mk.getD p 0 = 0
      · simp_arith [c, i2, e1]
        by_cases c2 : tk lk p = k
        · simp_arith [c2, e2']
        · simp_arith [c2]
      · simp_arith [c], fun _ => rfl⟩
  have hwh : ∀ f, f = whileF 1000000 q1_empty_ring w1_empty_ring [.val (netD ps ms), .val (nt mk), .val (.lst (L.map ni)), .val (lnD lk n), .own (.lst []), .val (ni (L.headD 0)), .own (.lst []), .no, .no, .no] →
      ∃ M W mv x8, Bk lk (emp mk n) L M W mv ∧ mv ∈ M ∧ f = .next [.val (netD ps ms), .val (nt mk), .val (.lst (L.map ni)), .val (lnD lk n), .own (.lst (W.map ni)), .val (ni mv), .own (.lst (M.map ni)), .no, x8, .no] := by
    rintro _ rfl
    refine whileF_gen (P := fun f => ∃ M W mv x8, Bk lk (emp mk n) L M W mv ∧ mv ∈ M ∧ f = .next [.val (netD ps ms), .val (nt mk), .val (.lst (L.map ni)), .val (lnD lk n), .own (.lst (W.map ni)), .val (ni mv), .own (.lst (M.map ni)), .no, x8, .no])
      (fun m δ => ∃ M W mv x8, m = L.length - M.length ∧ Bk lk (emp mk n) L M W mv ∧ δ = [.val (netD ps ms), .val (nt mk), .val (.lst (L.map ni)), .val (lnD lk n), .own (.lst (W.map ni)), .val (ni mv), .own (.lst (M.map ni)), .no, x8, .no])
      (fun m δ h => ?_) 1000000 L.length _ (by omega) ⟨[], [], L.headD 0, .no, rfl, ⟨by simp, fun x hx => by simp at hx, hhd, rfl, fun p hp => by simp at hp, rfl, fun i hi => by simp at hi⟩, rfl⟩
    obtain ⟨M, W, mv, x8, hm', hB, rfl⟩ := h
    have hq := nin_ni M mv
    refine ⟨decide (mv ∉ M), by unfold q1_empty_ring; simp_arith [hq], ?_⟩
    by_cases c : mv ∈ M
    · rw [decide_eq_false (fun z => z c), if_neg Bool.false_ne_true]
      exact ⟨M, W, mv, x8, hB, c, rfl⟩
    · rw [decide_eq_true c, if_pos rfl]
      obtain ⟨p0, hp0, e1, e2'⟩ := hs.ex mv hB.mvL
      have hin : p0 ∈ ahd lk (emp mk n) L mv := List.mem_filter.mpr ⟨hp0, by rw [Bool.and_eq_true, decide_eq_true_eq, decide_eq_true_eq]; exact ⟨e1, e2'⟩⟩
      have hsub : (ahd lk (emp mk n) L mv).length ≤ n := by
        unfold ahd emp
        exact Nat.le_trans (List.length_filter_le _ _) (Nat.le_trans (List.length_filter_le _ _) (by rw [List.length_range]; omega))
      cases hA : ahd lk (emp mk n) L mv with
      | nil => rw [hA] at hin; cases hin
      | cons p A =>
        have hp : p ∈ ahd lk (emp mk n) L mv := by rw [hA]; exact List.mem_cons_self
        have hB' := hB.step c hp
        have hML : (M ++ [mv]).length ≤ L.length := nd_sub_len hB'.nd hB'.sub
        rw [List.length_append, List.length_singleton] at hML
        have hpn := hEb p (List.mem_filter.mp hp).1
        have hWl := hB.len
        have z1 : (M.map ni).length < 16777216 := by rw [List.length_map]; omega
        have z2 : (W.map ni).length < 16777216 := by rw [List.length_map]; omega
        have z3 : ((p :: A).map ni).length ≤ 16777216 := by rw [List.length_map, ← hA]; omega
        have i1 : ixD (.lst ((p :: A).map ni)) (.int 0) = some (ni p) := by rw [List.map_cons, ix_l0]
        have i2 := ll_ix (lk := lk) hpn
        have hb : w1_empty_ring [.val (netD ps ms), .val (nt mk), .val (.lst (L.map ni)), .val (lnD lk n), .own (.lst (W.map ni)), .val (ni mv), .own (.lst (M.map ni)), .no, x8, .no] = .next [.val (netD ps ms), .val (nt mk), .val (.lst (L.map ni)), .val (lnD lk n), .own (.lst ((W ++ [p]).map ni)), .val (ni (gv lk p)), .own (.lst ((M ++ [mv]).map ni)), .no, .val (.lst ((p :: A).map ni)), .no] := by
          have hah' := hah (.own (.lst (W.map ni))) mv (.own (.lst ((M ++ [mv]).map ni))) .no x8
          rw [hA] at hah'
          unfold w1_empty_ring
          generalize lnD lk n = LD at *
          generalize (p :: A).map ni = AD at *
          have hsnoc : M.map ni ++ [ni mv] = (M ++ [mv]).map ni := by rw [List.map_append]; rfl
          rw [ev_sSeq, ev_sApp _ _ (ds := M.map ni) rfl z1]
          simp_arith [hkl, hr, hsnoc, hah', z3]
          rw [ev_sApp _ _ (ds := W.map ni) rfl z2]
          simp_arith [i1, i2]
          rw [List.map_append (l₁ := W)]; rfl
        rw [hb]
        exact ⟨L.length - (M ++ [mv]).length, by rw [List.length_append, List.length_singleton]; omega, M ++ [mv], W ++ [p], gv lk p, _, rfl, hB', rfl⟩
  generalize hW : whileF 1000000 q1_empty_ring w1_empty_ring [.val (netD ps ms), .val (nt mk), .val (.lst (L.map ni)), .val (lnD lk n), .own (.lst []), .val (ni (L.headD 0)), .own (.lst []), .no, .no, .no] = f at hwh
  obtain ⟨M, W, mv, x8, hB, hmv, rfl⟩ := hwh f rfl
  obtain ⟨hR, hRE⟩ := hB.ring hmv hEb
  refine ⟨_, hR, hRE, ?_⟩
  have hidx := idx_ni hmv
  have hcut := cut_lst (W.map ni) (M.idxOf mv)
  generalize M.idxOf mv = i at *
  have hrv : ((W.map ni).drop i).reverse = (W.drop i).reverse.map ni := by rw [← List.map_drop, List.map_reverse]
  have hrl : (W.drop i).reverse.length ≤ n := by
    rw [List.length_reverse, List.length_drop]
    have h1 := hB.len
    have h2 := nd_sub_len hB.nd hB.sub
    have h3 := nd_sub_len (m := List.range n) (nd_map hR.td) fun x hx => List.mem_range.mpr (hR.lt x hx)
    rw [List.length_range, List.length_reverse, List.length_drop] at h3
    exact h3
  have hfin : ∀ x4 x5 x6 x7 x8, mapF (.one 9) tYesD y2_empty_ring [.val (netD ps ms), .val (nt mk), .val (.lst (L.map ni)), .val (lnD lk n), x4, x5, x6, x7, x8, .no] ((W.drop i).reverse.map ni) = .ok (stl (wyS ps (W.drop i).reverse)) := fun x4 x5 x6 x7 x8 => by
    rw [mapF_enc (g := fun k => .str (nmP ps k)) fun k hk => ⟨_, rfl, rfl, by
      have := hpix k (hR.lt k hk)
      unfold y2_empty_ring
      simp only [List.set_cons_succ, List.set_cons_zero]
      simp_arith [hf, this]⟩]
    unfold wyS stl
    rw [List.map_map]; rfl
  have hz : (stl (wyS ps (W.drop i).reverse)).length ≤ 16777216 := by
    unfold stl wyS
    rw [List.length_map, List.length_map]; omega
  unfold m_empty_ring runF b_empty_ring
  rw [hi]
  generalize lnD lk n = LD at *
  simp_arith [hlk, hL0, hW, hidx, hcut, iRvs, hrv, hfin, hz]
end
end K53

set_option Elab.async false
set_option linter.all false
set_option maxRecDepth 100000
set_option maxHeartbeats 2000000
/-! k53: closed walks and rings; the paper. -/
namespace K53
open PySem Dl Sh
local macro_rules | `(tactic| simp_arith [$ts,*]) => `(tactic| simp only [ev_bind_ok, ev_bind_exc, ev_bindF_ok, ev_bindF_exc, ev_sNext, ev_sSeq, ev_sIf, ev_sRet, ev_sSet, ev_sOwn, ev_sDrop, ev_sRaise, ev_sFrz, ev_sUnp, ev_sFor, ev_eC, Dl.ev_e1, Dl.ev_e2, ev_eB, ev_eCall, ev_aNil, ev_aCons, ev_eIf, blR_bl, ev_tB1, ev_tAnd, ev_tOr, andK_bl, orK_bl, notK_bl, ev_eAnd, ev_eOr, ev_eNot, ev_tNot, ev_tYes, ev_oNone, ev_oSome, ev_eSl, ev_iSeq, ev_iRng, ev_eN, ev_ofO_some, ev_eV0, ev_eVs, lt_int, le_int, gt_int, ge_int, add_int, sub_int, iadd_int, len_tup, len_lst, eq_int, ne_int, itD_tup, itD_lst, put_one, fz_nil, fz_val, fz_no, fz_own, fz_succ, od_lst, od_lol, od_dk, od_dt, odict_lst, odict_dk, odict_dt, wp_nil, wp_cons, sa_nil, sa_cons, put_all, ev_eTup', ev_eLst', ev_nLst, ev_nLc, ev_eGen', ev_tBor, ev_eBor, ev_sPar, ev_eM, ev_eM0, ev_eCallM, ev_aSnoc, ok_tup, ok_lst, ok_str, ev_tIf, notB_eq, isB_eq, isN_eq, notN_eq, neg_int, tupD_lst, tupD_tup, listD_lst, listD_tup, pure_int, pure_bl, pure_str, pure_non, pureL_int, ev_eIsi, addD_lst, addD_tup, ix_t0, ix_t1, ix_t2, ix_l0, ix_l1, ix_l2, isi_tt, isi_ss, isT_tup, isS_str, List.set_cons_succ, List.set_cons_zero, List.length_cons, List.length_nil, Nat.reduceAdd, Nat.reduceLeDiff, Nat.zero_add, Nat.zero_le, if_true, if_false, Bool.false_eq_true, decide_true, decide_false, Bool.not_true, Bool.not_false, Bool.true_or, Bool.false_or, Bool.or_true, Bool.or_false, Bool.true_and, Bool.false_and, Bool.and_true, Bool.and_false, Int.cast_ofNat_Int, Int.reduceEq, Int.reduceLT, Int.reduceLE, Int.reduceNeg, reduceCtorEq, List.cons_append, List.nil_append, eq_of, ne_of, String.reduceEq, $ts,*])
/-- a closed walk -/
def Cl (lk : List (Nat × Nat)) (w : List Nat) : Prop := w ≠ [] ∧ ∀ i, i < w.length → tk lk (w.getD i 0) = gv lk (w.getD ((i + 1) % w.length) 0)
section
variable {lk : List (Nat × Nat)} {E O w : List Nat} {n c : Nat}
theorem Rg.cl (h : Rg lk n w) : Cl lk w := ⟨h.ne, h.ch⟩
/-- an order passes no closed walk of empty places -/
theorem Ord.no (h : Ord lk E c O) (hc : Cl lk w) : ¬ ∀ k ∈ w, k ∈ E := fun hE => by
  obtain ⟨hne, hch⟩ := hc
  have hp : 0 < w.length := List.length_pos_iff.mpr hne
  obtain ⟨x, hx, hm⟩ := ex_max (fun i => O.idxOf (gv lk (w.getD i 0))) w.length hp
  have h1 := h.lt _ (hE _ (getD_mem hx))
  rw [hch x hx] at h1
  have h2 := hm _ (Nat.mod_lt (x + 1) hp)
  omega
def rt (i L j : Nat) : Nat := if i + j < L then i + j else i + j - L
theorem rt_lt {i L j : Nat} (hi : i < L) (hj : j < L) : rt i L j < L := by unfold rt; split <;> omega
theorem rt_inj {i L a b : Nat} (hi : i < L) (ha : a < L) (hb : b < L) (e : rt i L a = rt i L b) : a = b := by
  unfold rt at e
  split at e <;> split at e <;> omega
theorem nx_mod {L x : Nat} (h : x < L) : (x + 1) % L = if x + 1 < L then x + 1 else 0 := by
  split
  · exact Nat.mod_eq_of_lt ‹_›
  · rw [show x + 1 = L by omega, Nat.mod_self]
theorem rt_next {i L j : Nat} (hi : i < L) (hj : j < L) : (rt i L j + 1) % L = rt i L ((j + 1) % L) := by
  rw [nx_mod (rt_lt hi hj), nx_mod hj]
  unfold rt
  split <;> split <;> (try split) <;> (try split) <;> omega
theorem getD_inj {l : List Nat} (nd : l.Nodup) {i j : Nat} (hi : i < l.length) (hj : j < l.length) (e : l.getD i 0 = l.getD j 0) : i = j := by
  rw [List.getD_eq_getElem?_getD, List.getD_eq_getElem?_getD, List.getElem?_eq_getElem hi, List.getElem?_eq_getElem hj] at e
  have e : l[i] = l[j] := e
  exact (List.getElem_inj nd).mp e
theorem getD_tab {f : Nat → Nat} {L j : Nat} (h : j < L) : ((List.range L).map f).getD j 0 = f j := by
  rw [getD_map' (by rw [List.length_range]; exact h), List.getD_eq_getElem?_getD, List.getElem?_range h]; rfl
/-- each closed walk, begun at its least place, is found -/
theorem Rg.found (h : Rg lk n w) : ∃ v ∈ fnd lk n, ∀ k, k ∈ v ↔ k ∈ w := by
  have hp : 0 < w.length := List.length_pos_iff.mpr h.ne
  obtain ⟨i, hi, hm⟩ := ex_max (fun i => n - w.getD i 0) w.length hp
  have hmin : ∀ j, j < w.length → w.getD i 0 ≤ w.getD j 0 := fun j hj => by
    have := hm j hj
    have h1 := h.lt _ (getD_mem hi)
    have h2 := h.lt _ (getD_mem hj)
    omega
  have hnd : w.Nodup := nd_map h.td
  let v := (List.range w.length).map fun j => w.getD (rt i w.length j) 0
  have hvl : v.length = w.length := by show ((List.range w.length).map _).length = _; rw [List.length_map, List.length_range]
  have hv : ∀ j, j < w.length → v.getD j 0 = w.getD (rt i w.length j) 0 := fun j hj => getD_tab hj
  have hvne : v ≠ [] := fun z => by rw [z] at hvl; simp at hvl; omega
  have hvw : ∀ k, k ∈ v → k ∈ w := fun k hk => by
    obtain ⟨j, hj, rfl⟩ := List.mem_map.mp hk
    exact getD_mem (rt_lt hi (List.mem_range.mp hj))
  have hwv : ∀ k, k ∈ w → k ∈ v := fun k hk => by
    obtain ⟨t, ht, rfl⟩ := List.getElem_of_mem hk
    refine List.mem_map.mpr ⟨if i ≤ t then t - i else t + w.length - i, List.mem_range.mpr (by split <;> omega), ?_⟩
    have e : rt i w.length (if i ≤ t then t - i else t + w.length - i) = t := by
      unfold rt
      split <;> split <;> omega
    rw [e, List.getD_eq_getElem?_getD, List.getElem?_eq_getElem ht]; rfl
  have hhd : v.headD 0 = w.getD i 0 := by
    have e1 : v.headD 0 = v.getD 0 0 := by cases v <;> rfl
    rw [e1, hv 0 hp]
    congr 1
    unfold rt
    rw [if_pos (by omega)]; rfl
  have htd : (v.map (tk lk)).Nodup := by
    show (((List.range w.length).map fun j => w.getD (rt i w.length j) 0).map (tk lk)).Nodup
    rw [List.map_map]
    refine List.pairwise_map.mpr (List.Pairwise.imp_of_mem (fun {a b} ha hb hab => ?_) List.pairwise_lt_range)
    have ha := List.mem_range.mp ha
    have hb := List.mem_range.mp hb
    intro z
    have z : tk lk (w.getD (rt i w.length a) 0) = tk lk (w.getD (rt i w.length b) 0) := z
    rw [← getD_map' (f := tk lk) (l := w) (rt_lt hi ha), ← getD_map' (f := tk lk) (l := w) (rt_lt hi hb)] at z
    have := rt_inj hi ha hb (getD_inj h.td (by rw [List.length_map]; exact rt_lt hi ha) (by rw [List.length_map]; exact rt_lt hi hb) z)
    omega
  refine ⟨v, mem_fnd.mpr ⟨⟨hvne, fun k hk => h.lt k (hvw k hk), nd_map htd, htd, fun k hk => ?_, fun j hj => ?_⟩, ?_⟩, fun k => ⟨hvw k, hwv k⟩⟩
  · have hkv := List.mem_of_mem_tail hk
    have hne : k ≠ v.headD 0 := fun z => by
      have hnv := nd_map htd
      cases hvc : v with
      | nil => exact hvne hvc
      | cons a l =>
        rw [hvc] at hnv hk z
        have z : k = a := z
        rw [z] at hk
        exact (List.nodup_cons.mp hnv).1 hk
    obtain ⟨j, hj, rfl⟩ := List.mem_map.mp hkv
    have := hmin _ (rt_lt hi (List.mem_range.mp hj))
    rw [hhd] at hne ⊢
    omega
  · rw [hvl] at hj
    rw [hv j (by omega), hv (j + 1) hj, h.ch _ (rt_lt hi (by omega)), rt_next hi (by omega), Nat.mod_eq_of_lt hj]
  · unfold cyc
    rw [decide_eq_true_eq, las_at hvne, hhd, hvl, hv _ (by omega), h.ch _ (rt_lt hi (by omega)), rt_next hi (by omega), show w.length - 1 + 1 = w.length by omega, Nat.mod_self]
    congr 2
    unfold rt
    rw [if_pos (by omega)]; rfl
/-- what is found is a closed walk -/
theorem fnd_rg (h : w ∈ fnd lk n) : Rg lk n w := by
  obtain ⟨hw, hc⟩ := mem_fnd.mp h
  refine ⟨hw.ne, hw.lt, hw.td, fun i hi => ?_⟩
  rw [nx_mod hi]
  split
  · exact hw.ch i ‹_›
  · unfold cyc at hc
    rw [decide_eq_true_eq, las_at hw.ne] at hc
    rw [show i = w.length - 1 by omega, hc]
    cases w <;> rfl
end
section
variable {ps : List Str} {ms : List Mv} {lk : List (Nat × Nat)} {mk : List Nat}
def nmM (k : Nat) : Str := A4.getD k default
theorem RN.at (h : RN ps ms lk) {j : Nat} (hj : j < ms.length) : ms[j]? = some (mvR ps lk j) := by
  have e := h.mv
  have e2 : ms[j]? = ((List.range ms.length).map (mvR ps lk))[j]? := congrArg (fun l => l[j]?) e
  rw [e2, List.getElem?_map, List.getElem?_range hj]; rfl
theorem RN.mix (h : RN ps ms lk) {j : Nat} (hj : j < ms.length) : ixD (msD ms) (.int ((j : Nat) : Int)) = some (mvD (mvR ps lk j)) := by
  rw [ix_tup, List.getElem?_map, h.at hj]; rfl
theorem check_ok (h : RN ps ms lk) (hm : mk.length = ps.length) : m_check_marked [netD ps ms, nt mk] = .ok .non := by
  have hi : initE 2 [netD ps ms, nt mk] = [.val (netD ps ms), .val (nt mk)] := rfl
  have h1 := check_nt ps ms mk hm
  have h2 := h.marked
  unfold m_check_marked runF b_check_marked
  rw [hi]
  simp_arith [h1, h2]
/-- the paper -/
theorem paper_ok (h : RN ps ms lk) (hm : mk.length = ps.length) :
    (∃ w, Rg lk ps.length w ∧ (∀ k ∈ w, k ∈ emp mk ps.length) ∧ m_paper_turns [netD ps ms, nt mk] = .ok (.tup [.str "ring", tsD (wyS ps w)])) ∨
    (∃ O, Ord lk (emp mk ps.length) ms.length O ∧ m_paper_turns [netD ps ms, nt mk] = .ok (.tup [.str "order", tsD (O.map nmM)])) := by
  have hi : initE 5 [netD ps ms, nt mk] = [.val (netD ps ms), .val (nt mk), .no, .no, .no] := rfl
  have hck := check_ok h hm
  have hf := fld_moves ps ms
  rcases order_ok h hm with ⟨L, hS, q⟩ | ⟨O, hO, q⟩
  · obtain ⟨w, h1, h2, h3⟩ := empty_ok h hm hS
    refine .inl ⟨w, h1, h2, ?_⟩
    have e : decide (D.non = D.non) = true := rfl
    unfold m_paper_turns runF b_paper_turns
    rw [hi]
    simp_arith [hck, q, e, h3]
  · refine .inr ⟨O, hO, ?_⟩
    have hl : (O.map ni).length ≤ 4 := by
      have := nd_sub_len (m := List.range ms.length) hO.nd fun x hx => List.mem_range.mpr ((hO.mem x).mp hx)
      rw [List.length_range] at this
      have := h.four
      rw [List.length_map]; omega
    have hmf : mapF (.one 4) tYesD y1_paper_turns [.val (netD ps ms), .val (nt mk), .val (.lst (O.map ni)), .val (.lst []), .no] (O.map ni) = .ok (stl (O.map nmM)) := by
      rw [mapF_enc (g := fun k => .str (nmM k)) fun k hk => ⟨_, rfl, rfl, by
        have hi2 := h.mix ((hO.mem k).mp hk)
        have e : mvD (mvR ps lk k) = .tup [.str (nmM k), sdD (mvR ps lk k).2.1, sdD (mvR ps lk k).2.2] := rfl
        unfold y1_paper_turns
        simp only [List.set_cons_succ, List.set_cons_zero]
        simp_arith [hf, hi2, e]⟩]
      unfold stl
      rw [List.map_map]; rfl
    have hz : (stl (O.map nmM)).length ≤ 16777216 := by unfold stl; rw [List.length_map, List.length_map]; rw [List.length_map] at hl; omega
    have e : decide (D.lst (O.map ni) = D.non) = false := decide_eq_false (fun z => by cases z)
    generalize O.map ni = OD at *
    unfold m_paper_turns runF b_paper_turns
    rw [hi]
    simp_arith [hck, q, e, hmf, hz]
end
end K53

set_option Elab.async false
set_option linter.all false
set_option maxRecDepth 100000
set_option maxHeartbeats 2000000
/-! k53: what is a ring; its tokens. -/
namespace K53
open PySem Dl Sh
local macro_rules | `(tactic| simp_arith [$ts,*]) => `(tactic| simp only [ev_bind_ok, ev_bind_exc, ev_bindF_ok, ev_bindF_exc, ev_sNext, ev_sSeq, ev_sIf, ev_sRet, ev_sSet, ev_sOwn, ev_sDrop, ev_sRaise, ev_sFrz, ev_sUnp, ev_sFor, ev_eC, Dl.ev_e1, Dl.ev_e2, ev_eB, ev_eCall, ev_aNil, ev_aCons, ev_eIf, blR_bl, ev_tB1, ev_tAnd, ev_tOr, andK_bl, orK_bl, notK_bl, ev_eAnd, ev_eOr, ev_eNot, ev_tNot, ev_tYes, ev_oNone, ev_oSome, ev_eSl, ev_iSeq, ev_iRng, ev_eN, ev_ofO_some, ev_eV0, ev_eVs, lt_int, le_int, gt_int, ge_int, add_int, sub_int, iadd_int, len_tup, len_lst, eq_int, ne_int, itD_tup, itD_lst, put_one, fz_nil, fz_val, fz_no, fz_own, fz_succ, od_lst, od_lol, od_dk, od_dt, odict_lst, odict_dk, odict_dt, wp_nil, wp_cons, sa_nil, sa_cons, put_all, ev_eTup', ev_eLst', ev_nLst, ev_nLc, ev_eGen', ev_tBor, ev_eBor, ev_sPar, ev_eM, ev_eM0, ev_eCallM, ev_aSnoc, ok_tup, ok_lst, ok_str, ev_tIf, notB_eq, isB_eq, isN_eq, notN_eq, neg_int, tupD_lst, tupD_tup, listD_lst, listD_tup, pure_int, pure_bl, pure_str, pure_non, pureL_int, ev_eIsi, addD_lst, addD_tup, ix_t0, ix_t1, ix_t2, ix_l0, ix_l1, ix_l2, isi_tt, isi_ss, isT_tup, isS_str, List.set_cons_succ, List.set_cons_zero, List.length_cons, List.length_nil, Nat.reduceAdd, Nat.reduceLeDiff, Nat.zero_add, Nat.zero_le, if_true, if_false, Bool.false_eq_true, decide_true, decide_false, Bool.not_true, Bool.not_false, Bool.true_or, Bool.false_or, Bool.or_true, Bool.or_false, Bool.true_and, Bool.false_and, Bool.and_true, Bool.and_false, Int.cast_ofNat_Int, Int.reduceEq, Int.reduceLT, Int.reduceLE, Int.reduceNeg, reduceCtorEq, List.cons_append, List.nil_append, eq_of, ne_of, String.reduceEq, $ts,*])
def rgB (lk : List (Nat × Nat)) (w : List Nat) : Bool := (List.range w.length).all fun k => decide (tk lk (w.getD k 0) = gv lk (w.getD ((k + 1) % w.length) 0))
def goodR (ps xs : List Str) : Bool := (xs.all fun x => decide (x ∈ ps)) && !(xs.any fun x => decide (1 < xs.count x))
def jr (ps : List Str) (lk : List (Nat × Nat)) (xs : List Str) : Bool := !xs.isEmpty && (goodR ps xs && rgB lk (xs.map ps.idxOf))
def tok (mk : List Nat) (w : List Nat) : Nat := (w.map fun k => mk.getD k 0).sum
theorem as_sum : ∀ l : List Nat, ∃ ns, asInts (l.map ni) = some ns ∧ sumL ns = (l.sum : Nat)
  | [] => ⟨[], rfl, rfl⟩
  | a :: l => by
    obtain ⟨ns, h1, h2⟩ := as_sum l
    refine ⟨(a : Int) :: ns, ?_, ?_⟩
    · show asInts (.int a :: l.map ni) = _
      rw [asInts, h1]; rfl
    · rw [sumL, h2, List.sum_cons]; omega
theorem sum_ni (l : List Nat) : sumD [.lst (l.map ni)] = some (.int (l.sum : Nat)) := by
  obtain ⟨ns, h1, h2⟩ := as_sum l
  show (asInts (l.map ni)).map (fun ns => D.int (sumL ns)) = _
  rw [h1, ← h2]; rfl
theorem sum_zero : ∀ {l : List Nat}, l.sum = 0 ↔ ∀ x ∈ l, x = 0
  | [] => by simp
  | a :: l => by
    rw [List.sum_cons, List.forall_mem_cons, ← sum_zero]; omega
theorem len_zero {α : Type} (p : α → Bool) (l : List α) : decide ((l.filter p).length = 0) = l.all fun x => !p x := by
  rw [Bool.eq_iff_iff, decide_eq_true_eq, List.length_eq_zero_iff, List.filter_eq_nil_iff, List.all_eq_true]
  simp
theorem len_pos {α : Type} (p : α → Bool) (l : List α) : decide ((0 : Nat) < (l.filter p).length) = l.any p := by
  rw [Bool.eq_iff_iff, decide_eq_true_eq, List.length_pos_iff, ne_eq, List.filter_eq_nil_iff, List.any_eq_true]
  simp
section
variable {ps : List Str} {ms : List Mv} {lk : List (Nat × Nat)} {mk : List Nat}
theorem tok_zero {w : List Nat} {n : Nat} (h : ∀ k ∈ w, k < n) : tok mk w = 0 ↔ ∀ k ∈ w, k ∈ emp mk n := by
  unfold tok emp
  rw [sum_zero]
  constructor
  · intro z k hk
    exact List.mem_filter.mpr ⟨List.mem_range.mpr (h k hk), decide_eq_true (z _ (List.mem_map_of_mem hk))⟩
  · intro z x hx
    obtain ⟨k, hk, rfl⟩ := List.mem_map.mp hx
    exact of_decide_eq_true (List.mem_filter.mp (z k hk)).2
theorem rgB_cl {w : List Nat} (hw : w ≠ []) : rgB lk w = true ↔ Cl lk w := by
  unfold rgB Cl
  rw [List.all_eq_true]
  simp only [List.mem_range, decide_eq_true_eq]
  exact ⟨fun h => ⟨hw, h⟩, fun h => h.2⟩
theorem at_pl (h : RN ps ms lk) {x : Str} (hx : x ∈ ps) : idxD (plD ps) [.str x] = some (.int (ps.idxOf x : Nat)) := at_place h.net.pl.nm hx
theorem good_pl (h : RN ps ms lk) : ∀ y ∈ ps, goodS y = true := fun y hy => nm_good (h.net.pl.nm y hy)
theorem gt_one (a : Nat) : decide ((1 : Int) < ((a : Nat) : Int)) = decide (1 < a) := by rw [Bool.eq_iff_iff, decide_eq_true_eq, decide_eq_true_eq]; omega
theorem emp_len (xs : List Str) : decide (((stl xs).length : Int) = 0) = xs.isEmpty := by
  unfold stl
  rw [List.length_map]
  cases xs with
  | nil => rfl
  | cons a l => exact decide_eq_false (by rw [List.length_cons]; omega)
theorem ownA (h : RN ps ms lk) {xs : List Str} (ha : ∀ x ∈ xs, x ∈ ps) {k : Nat} (hk : k < xs.length) : (xs.map ps.idxOf).getD k 0 < ps.length := by
  have : (xs.map ps.idxOf).getD k 0 ∈ xs.map ps.idxOf := getD_mem (by rw [List.length_map]; exact hk)
  obtain ⟨x, hx, e⟩ := List.mem_map.mp this
  rw [← e]
  exact List.idxOf_lt_length_of_mem (ha x hx)
theorem own_ix {l : List Nat} {k : Nat} (hk : k < l.length) : ixD (.lst (l.map ni)) (.int ((k : Nat) : Int)) = some (ni (l.getD k 0)) := by
  rw [ix_lst, List.getElem?_map, List.getElem?_eq_getElem hk, List.getD_eq_getElem?_getD, List.getElem?_eq_getElem hk]; rfl
theorem nx_int (k L : Nat) (h : 0 < L) : modD (.int ((k : Int) + 1)) (.int (L : Int)) = some (.int (((k + 1) % L : Nat) : Int)) := by
  have := mod_nat (k + 1) L h
  have e : ((k + 1 : Nat) : Int) = (k : Int) + 1 := by omega
  rw [e] at this
  exact this
theorem ring_of_ok (h : RN ps ms lk) {xs : List Str} (hg : ∀ x ∈ xs, goodS x = true) (hl : xs.length ≤ 1000) : m_is_ring_of [netD ps ms, tsD xs] = .ok (.bl (jr ps lk xs)) := by
  have hi : initE 6 [netD ps ms, tsD xs] = [.val (netD ps ms), .val (tsD xs), .no, .no, .no, .no] := rfl
  have hlk := h.links
  have hf := fld_places ps ms
  have hel := emp_len xs
  have hpg := good_pl h
  have hln : ((stl xs).length : Int) = ((xs.length : Nat) : Int) := by unfold stl; rw [List.length_map]
  have g1 : genF false (.one 4) tYesD y1_is_ring_of [.val (netD ps ms), .val (tsD xs), .no, .no, .no, .no] (stl xs) = .ok (.bl true) := by
    have := genF_enc_all (t := .one 4) (c := tYesD) (f := y1_is_ring_of) (δ := [.val (netD ps ms), .val (tsD xs), .no, .no, .no, .no]) (enc := D.str) (p := fun _ => true) (bs := xs) fun x hx => ⟨_, rfl, rfl, by
      unfold y1_is_ring_of
      simp only [List.set_cons_succ, List.set_cons_zero]
      simp_arith []⟩
    rw [show stl xs = xs.map D.str from rfl, this]
    simp
  have g2 : genF false (.one 4) tYesD y2_is_ring_of [.val (netD ps ms), .val (tsD xs), .no, .no, .no, .no] (stl xs) = .ok (.bl (xs.all fun x => decide (x ∈ ps))) := genF_enc_all (enc := D.str) fun x hx => ⟨_, rfl, rfl, by
      have := in_stt (hg x hx) hpg
      unfold y2_is_ring_of
      simp only [List.set_cons_succ, List.set_cons_zero]
      simp_arith [hf, this]⟩
  have g3 : genF true (.one 4) tYesD y3_is_ring_of [.val (netD ps ms), .val (tsD xs), .no, .no, .no, .no] (stl xs) = .ok (.bl (xs.any fun x => decide (1 < xs.count x))) := genF_enc_any (enc := D.str) fun x hx => ⟨_, rfl, rfl, by
      have := cnt_stl (hg x hx) hg
      have e := gt_one (xs.count x)
      unfold y3_is_ring_of
      simp only [List.set_cons_succ, List.set_cons_zero]
      simp_arith [this, e]⟩
  unfold m_is_ring_of runF b_is_ring_of jr
  rw [hi]
  generalize hLD : lnD lk ps.length = LD at *
  cases he : xs.isEmpty with
  | true =>
    rw [he] at hel
    simp_arith [hel]
  | false =>
    rw [he] at hel
    have hpos : 0 < xs.length := by cases xs with
      | nil => cases he
      | cons a l => rw [List.length_cons]; omega
    simp_arith [hel, g1, g2]
    unfold goodR
    cases ha : xs.all fun x => decide (x ∈ ps) with
    | false => simp_arith []
    | true =>
      have hin : ∀ x ∈ xs, x ∈ ps := fun x hx => of_decide_eq_true (List.all_eq_true.mp ha x hx)
      simp_arith [g3]
      cases hb : xs.any fun x => decide (1 < xs.count x) with
      | true => simp_arith []
      | false =>
        have g4 : mapF (.one 4) tYesD y4_is_ring_of [.val (netD ps ms), .val (tsD xs), .val LD, .no, .no, .no] (stl xs) = .ok ((xs.map ps.idxOf).map ni) := by
          rw [show stl xs = xs.map D.str from rfl, mapF_enc (g := fun x => ni (ps.idxOf x)) fun x hx => ⟨_, rfl, rfl, by
            have := at_pl h (hin x hx)
            unfold y4_is_ring_of
            simp only [List.set_cons_succ, List.set_cons_zero]
            simp_arith [hf, this]⟩, List.map_map]
          rfl
        have hol : (xs.map ps.idxOf).length = xs.length := by rw [List.length_map]
        have hz : ((xs.map ps.idxOf).map ni).length ≤ 16777216 := by rw [List.length_map, List.length_map]; omega
        have hzl : (((xs.map ps.idxOf).map ni).length : Int) = ((xs.length : Nat) : Int) := by rw [List.length_map, List.length_map]
        have hr := rng_ni xs.length (by omega)
        have g5 : genF false (.one 5) tYesD y5_is_ring_of [.val (netD ps ms), .val (tsD xs), .val LD, .val (.lst ((xs.map ps.idxOf).map ni)), .no, .no] ((List.range xs.length).map ni) = .ok (.bl (rgB lk (xs.map ps.idxOf))) := by
          unfold rgB
          rw [hol]
          refine genF_enc_all fun k hk => ⟨_, rfl, rfl, ?_⟩
          have hk := List.mem_range.mp hk
          have hk2 : (k + 1) % xs.length < xs.length := Nat.mod_lt _ hpos
          have i1 := own_ix (l := xs.map ps.idxOf) (k := k) (by rw [hol]; exact hk)
          have i2 := own_ix (l := xs.map ps.idxOf) (k := (k + 1) % xs.length) (by rw [hol]; exact hk2)
          have i3 := ll_ix (lk := lk) (ownA h hin hk)
          have i4 := ll_ix (lk := lk) (ownA h hin hk2)
          have i5 := nx_int k xs.length hpos
          have e := eq_one (tk lk ((xs.map ps.idxOf).getD k 0)) (gv lk ((xs.map ps.idxOf).getD ((k + 1) % xs.length) 0))
          rw [hLD] at i3 i4
          unfold y5_is_ring_of
          simp only [List.set_cons_succ, List.set_cons_zero]
          generalize (xs.map ps.idxOf) = OW at *
          generalize OW.map ni = OWD at *
          simp_arith [i1, i3, hzl, i5, i2, i4, e]
        generalize (xs.map ps.idxOf).map ni = OWD at *
        simp_arith [hlk, g4, hz, hzl, hr, g5]
theorem tokens_ok (h : RN ps ms lk) (hm : mk.length = ps.length) {xs : List Str} (hin : ∀ x ∈ xs, x ∈ ps) (hl : xs.length ≤ 1000) : m_tokens_on [netD ps ms, nt mk, tsD xs] = .ok (.int (tok mk (xs.map ps.idxOf) : Nat)) := by
  have hi : initE 4 [netD ps ms, nt mk, tsD xs] = [.val (netD ps ms), .val (nt mk), .val (tsD xs), .no] := rfl
  have hf := fld_places ps ms
  have g4 : mapF (.one 3) tYesD y1_tokens_on [.val (netD ps ms), .val (nt mk), .val (tsD xs), .no] (stl xs) = .ok (((xs.map ps.idxOf).map fun k => mk.getD k 0).map ni) := by
    rw [show stl xs = xs.map D.str from rfl, mapF_enc (g := fun x => ni (mk.getD (ps.idxOf x) 0)) fun x hx => ⟨_, rfl, rfl, by
      have i1 := at_pl h (hin x hx)
      have i2 := nt_ix (m := mk) (k := ps.idxOf x) (by rw [hm]; exact List.idxOf_lt_length_of_mem (hin x hx))
      unfold y1_tokens_on
      simp only [List.set_cons_succ, List.set_cons_zero]
      simp_arith [hf, i1, i2]⟩, List.map_map, List.map_map]
    rfl
  have hz : (((xs.map ps.idxOf).map fun k => mk.getD k 0).map ni).length ≤ 16777216 := by rw [List.length_map, List.length_map, List.length_map]; omega
  have hs := sum_ni ((xs.map ps.idxOf).map fun k => mk.getD k 0)
  unfold m_tokens_on runF b_tokens_on
  rw [hi]
  simp_arith [g4, hz, hs]
  rfl
end
end K53

set_option Elab.async false
set_option linter.all false
set_option maxRecDepth 100000
set_option maxHeartbeats 2000000
/-! Equality of a thing with itself; wrong sentences. -/
namespace Dl
open PySem
mutual
theorem eqv_self : ∀ d : D, d.dat = true → PyData.eqv d.py d.py = true
  | .non, _ => rfl
  | .bl b, _ => by cases b <;> rfl
  | .int i, _ => by simp [D.py, PyData.eqv]
  | .str x, _ => by simp [D.py, PyData.eqv]
  | .tup xs, h => by rw [D.py, PyData.eqv]; exact eqvs_self xs h
  | .lst xs, h => by rw [D.py, PyData.eqv]; exact eqvs_self xs h
  | .obj .., h => by simp [D.dat] at h
  | .dk .., h => by simp [D.dat] at h
  | .dt .., h => by simp [D.dat] at h
theorem eqvs_self : ∀ ds : List D, D.dats ds = true → PyData.eqvAll (D.pys ds) (D.pys ds) = true
  | [], _ => rfl
  | d :: ds, h => by
    rw [D.dats, Bool.and_eq_true] at h
    rw [D.pys, PyData.eqvAll, eqv_self d h.1, eqvs_self ds h.2]; rfl
end
/-- data that is equal to itself -/
def D.fit (k : Nat) (d : D) : Prop := d.dat = true ∧ d.txt = true ∧ d.dep ≤ k
theorem ne_self {d : D} (h : d.fit 64) : neD d d = some (.bl false) := by
  unfold neD eqv
  rw [sh_of h.2.1 h.2.2, eqv_self d h.1]; rfl
mutual
theorem dat_nb : ∀ d : D, d.nb = true → d.dat = true
  | .non, _ => rfl
  | .bl b, _ => rfl
  | .int i, _ => rfl
  | .str x, _ => rfl
  | .tup xs, h => by rw [D.dat]; exact dats_nb xs h
  | .lst xs, h => by rw [D.dat]; exact dats_nb xs h
  | .obj .., h => by simp [D.nb] at h
  | .dk .., h => by simp [D.nb] at h
  | .dt .., h => by simp [D.nb] at h
theorem dats_nb : ∀ ds : List D, D.nbs ds = true → D.dats ds = true
  | [], _ => rfl
  | d :: ds, h => by
    rw [D.nbs, Bool.and_eq_true] at h
    rw [D.dats, dat_nb d h.1, dats_nb ds h.2]; rfl
end
theorem fit_gd {k : Nat} {d : D} (h : d.gd k) : d.fit k := ⟨dat_nb d h.1, h.2.1, h.2.2⟩
end Dl
namespace Sh
open PySem Dl
section
variable {ps : List Str} {ms : List Mv}
end
end Sh

set_option Elab.async false
set_option linter.all false
set_option maxRecDepth 100000
set_option maxHeartbeats 2000000
/-! k53: names of moves and places; rings by their names; times. -/
namespace K53
open PySem Dl Sh
local macro_rules | `(tactic| simp_arith [$ts,*]) => `(tactic| simp only [ev_bind_ok, ev_bind_exc, ev_bindF_ok, ev_bindF_exc, ev_sNext, ev_sSeq, ev_sIf, ev_sRet, ev_sSet, ev_sOwn, ev_sDrop, ev_sRaise, ev_sFrz, ev_sUnp, ev_sFor, ev_eC, Dl.ev_e1, Dl.ev_e2, ev_eB, ev_eCall, ev_aNil, ev_aCons, ev_eIf, blR_bl, ev_tB1, ev_tAnd, ev_tOr, andK_bl, orK_bl, notK_bl, ev_eAnd, ev_eOr, ev_eNot, ev_tNot, ev_tYes, ev_oNone, ev_oSome, ev_eSl, ev_iSeq, ev_iRng, ev_eN, ev_ofO_some, ev_eV0, ev_eVs, lt_int, le_int, gt_int, ge_int, add_int, sub_int, iadd_int, len_tup, len_lst, eq_int, ne_int, itD_tup, itD_lst, put_one, fz_nil, fz_val, fz_no, fz_own, fz_succ, od_lst, od_lol, od_dk, od_dt, odict_lst, odict_dk, odict_dt, wp_nil, wp_cons, sa_nil, sa_cons, put_all, ev_eTup', ev_eLst', ev_nLst, ev_nLc, ev_eGen', ev_tBor, ev_eBor, ev_sPar, ev_eM, ev_eM0, ev_eCallM, ev_aSnoc, ok_tup, ok_lst, ok_str, ev_tIf, notB_eq, isB_eq, isN_eq, notN_eq, neg_int, tupD_lst, tupD_tup, listD_lst, listD_tup, pure_int, pure_bl, pure_str, pure_non, pureL_int, ev_eIsi, addD_lst, addD_tup, ix_t0, ix_t1, ix_t2, ix_l0, ix_l1, ix_l2, isi_tt, isi_ss, isT_tup, isS_str, List.set_cons_succ, List.set_cons_zero, List.length_cons, List.length_nil, Nat.reduceAdd, Nat.reduceLeDiff, Nat.zero_add, Nat.zero_le, if_true, if_false, Bool.false_eq_true, decide_true, decide_false, Bool.not_true, Bool.not_false, Bool.true_or, Bool.false_or, Bool.or_true, Bool.or_false, Bool.true_and, Bool.false_and, Bool.and_true, Bool.and_false, Int.cast_ofNat_Int, Int.reduceEq, Int.reduceLT, Int.reduceLE, Int.reduceNeg, reduceCtorEq, List.cons_append, List.nil_append, eq_of, ne_of, String.reduceEq, $ts,*])
theorem nmM_good : ∀ {k : Nat}, k < 4 → goodS (nmM k) = true := fun {k} hk => by
  have : nmM k ∈ A4 := by
    match k, hk with
    | 0, _ => exact .head _
    | 1, _ => exact .tail _ (.head _)
    | 2, _ => exact .tail _ (.tail _ (.head _))
    | 3, _ => exact .tail _ (.tail _ (.tail _ (.head _)))
  exact nm_good (pa_nm _ (List.mem_append_right _ this))
theorem nmM_inj : ∀ i, i < 4 → ∀ j, j < 4 → nmM i = nmM j → i = j := by decide +kernel
def nml (c : Nat) : List Str := (List.range c).map nmM
theorem nml_good {c : Nat} (hc : c ≤ 4) : ∀ x ∈ nml c, goodS x = true := fun x hx => by
  obtain ⟨k, hk, rfl⟩ := List.mem_map.mp hx
  exact nmM_good (by have := List.mem_range.mp hk; omega)
theorem idx_map {f : Nat → Str} {b : Nat} (hf : ∀ i, i < b → ∀ j, j < b → f i = f j → i = j) {k : Nat} (hk : k < b) : ∀ {l : List Nat}, (∀ x ∈ l, x < b) → (l.map f).idxOf (f k) = l.idxOf k
  | [], _ => rfl
  | a :: l, h => by
    have ih := idx_map hf hk (l := l) fun x hx => h x (List.mem_cons_of_mem _ hx)
    rw [List.map_cons, List.idxOf_cons, List.idxOf_cons, ih]
    by_cases c : a = k
    · subst c; simp
    · have c2 : ¬ f a = f k := fun z => c (hf a (h a List.mem_cons_self) k hk z)
      rw [show (a == k) = false by simpa using c, show (f a == f k) = false by simpa using c2]
theorem nd_mapS {f : Nat → Str} {b : Nat} (hf : ∀ i, i < b → ∀ j, j < b → f i = f j → i = j) {l : List Nat} (h : ∀ x ∈ l, x < b) (nd : l.Nodup) : (l.map f).Nodup := by
  unfold List.Nodup
  rw [List.pairwise_map]
  exact List.Pairwise.imp_of_mem (fun {x y} hx hy hne z => hne (hf x (h x hx) y (h y hy) z)) nd
theorem idx_stL {l : List Str} {x : Str} (hl : ∀ y ∈ l, goodS y = true) (hx : x ∈ l) : idxD (.lst (stl l)) [.str x] = some (.int (l.idxOf x : Nat)) := by
  rw [idx_lst (gd_str (hl x hx)) (gd_stl hl), if_pos (List.mem_map_of_mem hx), idx_enc str_inj]
section
variable {ps : List Str} {ms : List Mv} {lk : List (Nat × Nat)} {mk : List Nat}
theorem nmM4 {c : Nat} (h : c ≤ 4) : ∀ i, i < c → ∀ j, j < c → nmM i = nmM j → i = j := fun i hi j hj e => nmM_inj i (by omega) j (by omega) e
theorem nml_len (c : Nat) : (nml c).length = c := by unfold nml; rw [List.length_map, List.length_range]
theorem RN.nmP_idx (h : RN ps ms lk) {k : Nat} (hk : k < ps.length) : nmP ps k ∈ ps ∧ ps.idxOf (nmP ps k) = k := by
  unfold nmP
  rw [getS hk]
  exact ⟨List.getElem_mem hk, List.Nodup.idxOf_getElem h.net.pl.nd k hk⟩
theorem RN.nmP_inj (h : RN ps ms lk) : ∀ i, i < ps.length → ∀ j, j < ps.length → nmP ps i = nmP ps j → i = j := fun i hi j hj e => by
  rw [← (h.nmP_idx hi).2, ← (h.nmP_idx hj).2, e]
theorem wy_idx (h : RN ps ms lk) {w : List Nat} (hw : ∀ k ∈ w, k < ps.length) : (wyS ps w).map ps.idxOf = w := by
  unfold wyS
  rw [List.map_map]
  have : w.map (ps.idxOf ∘ nmP ps) = w.map id := List.map_congr_left fun k hk => (h.nmP_idx (hw k hk)).2
  rw [this, List.map_id]
theorem wy_good (h : RN ps ms lk) {w : List Nat} (hw : ∀ k ∈ w, k < ps.length) : (∀ x ∈ wyS ps w, x ∈ ps) ∧ ∀ x ∈ wyS ps w, goodS x = true := by
  have h1 : ∀ x ∈ wyS ps w, x ∈ ps := fun x hx => by
    obtain ⟨k, hk, rfl⟩ := List.mem_map.mp hx
    exact (h.nmP_idx (hw k hk)).1
  exact ⟨h1, fun x hx => good_pl h x (h1 x hx)⟩
theorem Rg.jr (h : RN ps ms lk) {w : List Nat} (hw : Rg lk ps.length w) : jr ps lk (wyS ps w) = true := by
  unfold K53.jr goodR
  rw [wy_idx h hw.lt, Bool.and_eq_true, Bool.and_eq_true, Bool.and_eq_true]
  refine ⟨?_, ⟨?_, ?_⟩, (rgB_cl hw.ne).mpr hw.cl⟩
  · have := hw.ne
    cases w with
    | nil => exact absurd rfl this
    | cons a l => rfl
  · exact List.all_eq_true.mpr fun x hx => decide_eq_true ((wy_good h hw.lt).1 x hx)
  · rw [Bool.not_eq_true', List.any_eq_false]
    intro x hx z
    have nd : (wyS ps w).Nodup := nd_mapS h.nmP_inj hw.lt (nd_map hw.td)
    have := List.nodup_iff_count.mp nd x
    have := of_decide_eq_true z
    omega
theorem jr_cl {xs : List Str} (h : K53.jr ps lk xs = true) : (∀ x ∈ xs, x ∈ ps) ∧ Cl lk (xs.map ps.idxOf) := by
  unfold K53.jr goodR at h
  rw [Bool.and_eq_true, Bool.and_eq_true, Bool.and_eq_true, List.all_eq_true] at h
  obtain ⟨h1, ⟨h2, _⟩, h3⟩ := h
  refine ⟨fun x hx => of_decide_eq_true (h2 x hx), (rgB_cl fun z => ?_).mp h3⟩
  rw [List.map_eq_nil_iff] at z
  rw [z] at h1
  cases h1
theorem RN.names (h : RN ps ms lk) : (ms.map mvD).length = ms.length ∧ ∀ {β : Type} (f : Mv → β), ms.map f = (List.range ms.length).map fun k => f (mvR ps lk k) := by
  refine ⟨List.length_map .., fun f => ?_⟩
  have e : ms.map f = ((List.range ms.length).map (mvR ps lk)).map f := congrArg (List.map f) h.mv
  rw [e, List.map_map]; rfl
theorem le_nat (a b : Nat) : decide (((a : Nat) : Int) ≤ ((b : Nat) : Int)) = decide (a ≤ b) := by rw [Bool.eq_iff_iff, decide_eq_true_eq, decide_eq_true_eq]; omega
theorem z_nat (a : Nat) : decide (((a : Nat) : Int) = 0) = decide (a = 0) := by rw [Bool.eq_iff_iff, decide_eq_true_eq, decide_eq_true_eq]; omega
end
end K53

set_option Elab.async false
set_option linter.all false
set_option maxRecDepth 100000
set_option maxHeartbeats 2000000
/-! k53: times; the slowest ring. -/
namespace K53
open PySem Dl Sh
local macro_rules | `(tactic| simp_arith [$ts,*]) => `(tactic| simp only [ev_bind_ok, ev_bind_exc, ev_bindF_ok, ev_bindF_exc, ev_sNext, ev_sSeq, ev_sIf, ev_sRet, ev_sSet, ev_sOwn, ev_sDrop, ev_sRaise, ev_sFrz, ev_sUnp, ev_sFor, ev_eC, Dl.ev_e1, Dl.ev_e2, ev_eB, ev_eCall, ev_aNil, ev_aCons, ev_eIf, blR_bl, ev_tB1, ev_tAnd, ev_tOr, andK_bl, orK_bl, notK_bl, ev_eAnd, ev_eOr, ev_eNot, ev_tNot, ev_tYes, ev_oNone, ev_oSome, ev_eSl, ev_iSeq, ev_iRng, ev_eN, ev_ofO_some, ev_eV0, ev_eVs, lt_int, le_int, gt_int, ge_int, add_int, sub_int, iadd_int, len_tup, len_lst, eq_int, ne_int, itD_tup, itD_lst, put_one, fz_nil, fz_val, fz_no, fz_own, fz_succ, od_lst, od_lol, od_dk, od_dt, odict_lst, odict_dk, odict_dt, wp_nil, wp_cons, sa_nil, sa_cons, put_all, ev_eTup', ev_eLst', ev_nLst, ev_nLc, ev_eGen', ev_tBor, ev_eBor, ev_sPar, ev_eM, ev_eM0, ev_eCallM, ev_aSnoc, ok_tup, ok_lst, ok_str, ev_tIf, notB_eq, isB_eq, isN_eq, notN_eq, neg_int, tupD_lst, tupD_tup, listD_lst, listD_tup, pure_int, pure_bl, pure_str, pure_non, pureL_int, ev_eIsi, addD_lst, addD_tup, ix_t0, ix_t1, ix_t2, ix_l0, ix_l1, ix_l2, isi_tt, isi_ss, isT_tup, isS_str, List.set_cons_succ, List.set_cons_zero, List.length_cons, List.length_nil, Nat.reduceAdd, Nat.reduceLeDiff, Nat.zero_add, Nat.zero_le, if_true, if_false, Bool.false_eq_true, decide_true, decide_false, Bool.not_true, Bool.not_false, Bool.true_or, Bool.false_or, Bool.or_true, Bool.or_false, Bool.true_and, Bool.false_and, Bool.and_true, Bool.and_false, Int.cast_ofNat_Int, Int.reduceEq, Int.reduceLT, Int.reduceLE, Int.reduceNeg, reduceCtorEq, List.cons_append, List.nil_append, eq_of, ne_of, String.reduceEq, $ts,*])
def tB : D → Bool
  | .int i => decide (0 ≤ i) && decide (i ≤ 999)
  | _ => false
def tim (lk : List (Nat × Nat)) (ts : List Nat) (w : List Nat) : Nat := (w.map fun k => ts.getD (gv lk k) 0).sum
section
variable {ps : List Str} {ms : List Mv} {lk : List (Nat × Nat)} {mk ts : List Nat}
theorem msl (ms : List Mv) : lenD [msD ms] = some (.int (ms.length : Int)) := by
  show some (D.int ((ms.map mvD).length : Int)) = _
  rw [List.length_map]
theorem times_gen {e0 e1 : S} {xs : List D} (h : ∀ x ∈ xs, tyOk x) : genF false (.one 2) tYesD y1_check_times [e0, e1, .no] xs = .ok (.bl (xs.all tB)) := by
  have := genF_enc_all (t := .one 2) (c := tYesD) (f := y1_check_times) (δ := [e0, e1, .no]) (enc := fun d : D => d) (p := tB) (bs := xs) fun x hx => ⟨[e0, e1, .val x], rfl, rfl, by
    obtain ⟨t, ht⟩ := h x hx
    have h1 := number_ok x 0 ht
    unfold y1_check_times
    simp_arith [h1]
    cases x with
    | int i =>
      have hn : numB 0 (.int i) = decide (0 ≤ i) := rfl
      have hb : tB (.int i) = (decide (0 ≤ i) && decide (i ≤ 999)) := rfl
      rw [hn, hb]
      cases decide (0 ≤ i) <;> simp_arith []
    | _ => rfl⟩
  rw [List.map_id'] at this
  exact this
theorem times_tup {xs : List D} (h : ∀ x ∈ xs, tyOk x) : m_check_times [netD ps ms, .tup xs] = if decide (xs.length = ms.length) && xs.all tB then .ok .non else .exc "BadNumbers" := by
  have hi : initE 3 [netD ps ms, .tup xs] = [.val (netD ps ms), .val (.tup xs), .no] := rfl
  have hf := fld_moves ps ms
  have hm := msl ms
  have hg := times_gen (e0 := .val (netD ps ms)) (e1 := .val (.tup xs)) h
  have e : decide ((xs.length : Int) = (ms.length : Int)) = decide (xs.length = ms.length) := by rw [Bool.eq_iff_iff, decide_eq_true_eq, decide_eq_true_eq]; omega
  unfold m_check_times runF b_check_times
  rw [hi]
  simp_arith [hf, hm, e]
  by_cases c : xs.length = ms.length
  · simp_arith [c, hg]
    cases xs.all tB <;> simp_arith []
  · simp_arith [c]
theorem times_no {d : D} (ht : isT d = false) (hy : tyOk d) : m_check_times [netD ps ms, d] = .exc "BadNumbers" := by
  have hi : initE 3 [netD ps ms, d] = [.val (netD ps ms), .val d, .no] := rfl
  obtain ⟨t, hy⟩ := hy
  unfold m_check_times runF b_check_times
  rw [hi]
  simp_arith [isi_tuple d hy, ht]
theorem times_ok (hl : ts.length = ms.length) (ht : ∀ x ∈ ts, x ≤ 999) : m_check_times [netD ps ms, nt ts] = .ok .non := by
  have h1 : ∀ x ∈ ntl ts, tyOk x := fun x hx => by
    obtain ⟨k, _, rfl⟩ := List.mem_map.mp hx
    exact ⟨_, rfl⟩
  have h2 : (ntl ts).all tB = true := List.all_eq_true.mpr fun x hx => by
    obtain ⟨k, hk, rfl⟩ := List.mem_map.mp hx
    have := ht k hk
    show (decide ((0 : Int) ≤ (k : Int)) && decide ((k : Int) ≤ 999)) = true
    rw [Bool.and_eq_true, decide_eq_true_eq, decide_eq_true_eq]
    omega
  rw [show nt ts = .tup (ntl ts) from rfl, times_tup h1, h2, ntl_len, hl]
  simp
/-! ### times of rings -/
theorem time_ok (h : RN ps ms lk) (hl : ts.length = ms.length) {xs : List Str} (hin : ∀ x ∈ xs, x ∈ ps) (hx : xs.length ≤ 1000) : m_time_of [netD ps ms, nt ts, tsD xs] = .ok (.int (tim lk ts (xs.map ps.idxOf) : Nat)) := by
  have hi : initE 5 [netD ps ms, nt ts, tsD xs] = [.val (netD ps ms), .val (nt ts), .val (tsD xs), .no, .no] := rfl
  have hlk := h.links
  have hf := fld_places ps ms
  have g4 : mapF (.one 4) tYesD y1_time_of [.val (netD ps ms), .val (nt ts), .val (tsD xs), .val (lnD lk ps.length), .no] (stl xs) = .ok (((xs.map ps.idxOf).map fun k => ts.getD (gv lk k) 0).map ni) := by
    rw [show stl xs = xs.map D.str from rfl, mapF_enc (g := fun x => ni (ts.getD (gv lk (ps.idxOf x)) 0)) fun x hx => ⟨_, rfl, rfl, by
      have i1 := at_pl h (hin x hx)
      have hlt := List.idxOf_lt_length_of_mem (hin x hx)
      have i2 := ll_ix (lk := lk) hlt
      have i3 := nt_ix (m := ts) (k := gv lk (ps.idxOf x)) (by rw [hl]; exact (h.bd _ hlt).1)
      unfold y1_time_of
      simp only [List.set_cons_succ, List.set_cons_zero]
      generalize lnD lk ps.length = LD at *
      simp_arith [hf, i1, i2, i3]⟩, List.map_map, List.map_map]
    rfl
  have hz : (((xs.map ps.idxOf).map fun k => ts.getD (gv lk k) 0).map ni).length ≤ 16777216 := by rw [List.length_map, List.length_map, List.length_map]; omega
  have hs := sum_ni ((xs.map ps.idxOf).map fun k => ts.getD (gv lk k) 0)
  unfold m_time_of runF b_time_of
  rw [hi]
  generalize lnD lk ps.length = LD at *
  simp_arith [hlk, g4, hz, hs]
  rfl
/-! ### the slowest -/
def bst (lk : List (Nat × Nat)) (ts mk : List Nat) (b : Option (List Nat)) (w : List Nat) : Option (List Nat) := match b with
  | none => some w
  | some b => if tim lk ts b * tok mk w < tim lk ts w * tok mk b then some w else some b
def bsD (ps : List Str) (lk : List (Nat × Nat)) (ts mk : List Nat) : Option (List Nat) → D
  | none => .non
  | some w => .tup [tsD (wyS ps w), .int (tim lk ts w : Nat), .int (tok mk w : Nat)]
theorem sum_le {c : Nat} : ∀ {l : List Nat}, (∀ x ∈ l, x ≤ c) → l.sum ≤ c * l.length
  | [], _ => Nat.zero_le _
  | a :: l, h => by
    rw [List.sum_cons, List.length_cons, Nat.mul_succ]
    have := h a List.mem_cons_self
    have := sum_le (l := l) fun x hx => h x (List.mem_cons_of_mem _ hx)
    omega
theorem getD_le {c : Nat} {l : List Nat} (h : ∀ x ∈ l, x ≤ c) (k : Nat) : l.getD k 0 ≤ c := by
  rcases Nat.lt_or_ge k l.length with z | z
  · exact h _ (getD_mem z)
  · rw [List.getD_eq_getElem?_getD, List.getElem?_eq_none z]; exact Nat.zero_le _
theorem tim_le (ht : ∀ x ∈ ts, x ≤ 999) (w : List Nat) : tim lk ts w ≤ 999 * w.length := by
  unfold tim
  have := sum_le (c := 999) (l := w.map fun k => ts.getD (gv lk k) 0) fun x hx => by
    obtain ⟨k, _, rfl⟩ := List.mem_map.mp hx
    exact getD_le ht _
  rwa [List.length_map] at this
theorem tok_le (hk : ∀ x ∈ mk, x ≤ 999) (w : List Nat) : tok mk w ≤ 999 * w.length := by
  unfold tok
  have := sum_le (c := 999) (l := w.map fun k => mk.getD k 0) fun x hx => by
    obtain ⟨k, _, rfl⟩ := List.mem_map.mp hx
    exact getD_le hk _
  rwa [List.length_map] at this
theorem mul_ni (a b : Nat) (h : b < 2 ^ 64) : mulD (.int (a : Int)) (.int (b : Int)) = some (.int ((a * b : Nat) : Int)) := by
  rw [mul_r _ _ (by rw [Int.natAbs_natCast]; exact h), Int.natCast_mul]
theorem gt_ni (a b : Nat) : decide (((a : Nat) : Int) < ((b : Nat) : Int)) = decide (a < b) := by rw [Bool.eq_iff_iff, decide_eq_true_eq, decide_eq_true_eq]; omega
theorem rg_len {n : Nat} {w : List Nat} (h : Rg lk n w) : w.length ≤ n := by
  have := nd_sub_len (m := List.range n) (nd_map h.td) fun x hx => List.mem_range.mpr (h.lt x hx)
  rwa [List.length_range] at this
theorem slow_step (h : RN ps ms lk) (hm : mk.length = ps.length) (hl : ts.length = ms.length) (ht : ∀ x ∈ ts, x ≤ 999) (hk : ∀ x ∈ mk, x ≤ 999) {w : List Nat} (hw : Rg lk ps.length w) {b : Option (List Nat)} (hb : ∀ v, b = some v → Rg lk ps.length v) {x5 x6 : S} :
    ∃ y5 y6, l1_slowest [.val (netD ps ms), .val (nt mk), .val (nt ts), .val (bsD ps lk ts mk b), .val (tsD (wyS ps w)), x5, x6] = .next [.val (netD ps ms), .val (nt mk), .val (nt ts), .val (bsD ps lk ts mk (bst lk ts mk b w)), .val (tsD (wyS ps w)), y5, y6] := by
  have h6 := h.six
  obtain ⟨g1, g2⟩ := wy_good h hw.lt
  have hwl := rg_len hw
  have hwy : (wyS ps w).length ≤ 1000 := by unfold wyS; rw [List.length_map]; omega
  have k1 := time_ok (ts := ts) h hl g1 hwy
  have k2 := tokens_ok (mk := mk) h hm g1 hwy
  rw [wy_idx h hw.lt] at k1 k2
  have t1 := tim_le (lk := lk) ht w
  have t2 := tok_le hk w
  refine ⟨.val (.int (tim lk ts w : Nat)), .val (.int (tok mk w : Nat)), ?_⟩
  cases b with
  | none =>
    have e : decide (D.non = D.non) = true := rfl
    have hb0 : bsD ps lk ts mk none = .non := rfl
    have hb1 : bsD ps lk ts mk (bst lk ts mk none w) = .tup [tsD (wyS ps w), .int (tim lk ts w : Nat), .int (tok mk w : Nat)] := rfl
    rw [hb0, hb1]
    unfold l1_slowest
    simp_arith [k1, k2, e]
  | some v =>
    have hv := hb v rfl
    have t3 := tim_le (lk := lk) ht v
    have t4 := tok_le hk v
    have hvl := rg_len hv
    have hbv : bsD ps lk ts mk (some v) = .tup [tsD (wyS ps v), .int (tim lk ts v : Nat), .int (tok mk v : Nat)] := rfl
    have e : decide (D.tup [tsD (wyS ps v), .int (tim lk ts v : Nat), .int (tok mk v : Nat)] = D.non) = false := decide_eq_false (fun z => by cases z)
    have m1 := mul_ni (tim lk ts w) (tok mk v) (by omega)
    have m2 := mul_ni (tim lk ts v) (tok mk w) (by omega)
    have e2' := gt_ni (tim lk ts v * tok mk w) (tim lk ts w * tok mk v)
    have hs : bst lk ts mk (some v) w = if tim lk ts v * tok mk w < tim lk ts w * tok mk v then some w else some v := rfl
    rw [hbv, hs]
    unfold l1_slowest
    generalize wyS ps v = WV at *
    generalize tim lk ts v * tok mk w = A at *
    generalize tim lk ts w * tok mk v = B at *
    simp_arith [k1, k2, e, m1, m2, e2']
    by_cases c : A < B
    · simp_arith [c]
      rfl
    · simp_arith [c]
      exact congrArg Fl.next (by rw [hbv])
theorem slow_loop (h : RN ps ms lk) (hm : mk.length = ps.length) (hl : ts.length = ms.length) (ht : ∀ x ∈ ts, x ≤ 999) (hk : ∀ x ∈ mk, x ≤ 999) : ∀ (l : List (List Nat)) (b : Option (List Nat)) (x4 x5 x6 : S), (∀ w ∈ l, Rg lk ps.length w) → (∀ v, b = some v → Rg lk ps.length v) →
    ∃ y4 y5 y6, forF (.one 4) l1_slowest (l.map fun w => tsD (wyS ps w)) [.val (netD ps ms), .val (nt mk), .val (nt ts), .val (bsD ps lk ts mk b), x4, x5, x6] = .next [.val (netD ps ms), .val (nt mk), .val (nt ts), .val (bsD ps lk ts mk (l.foldl (bst lk ts mk) b)), y4, y5, y6]
  | [], b, x4, x5, x6, _, _ => ⟨x4, x5, x6, rfl⟩
  | w :: l, b, x4, x5, x6, hw, hb => by
    have hw0 := hw w List.mem_cons_self
    obtain ⟨y5, y6, q⟩ := slow_step h hm hl ht hk hw0 hb (x5 := x5) (x6 := x6)
    obtain ⟨z4, z5, z6, ih⟩ := slow_loop h hm hl ht hk l (bst lk ts mk b w) (.val (tsD (wyS ps w))) y5 y6 (fun v hv => hw v (List.mem_cons_of_mem _ hv)) (fun v hv => by
      cases b with
      | none => cases hv; exact hw0
      | some u =>
        have hv : (if tim lk ts u * tok mk w < tim lk ts w * tok mk u then some w else some u) = some v := hv
        split at hv
        · cases hv; exact hw0
        · cases hv; exact hb _ rfl)
    refine ⟨z4, z5, z6, ?_⟩
    simp only [List.map_cons, forF, put_one, List.set_cons_succ, List.set_cons_zero, q, List.foldl_cons]
    exact ih
def slw (lk : List (Nat × Nat)) (ts mk : List Nat) (n : Nat) : Option (List Nat) := (sortW (fnd lk n)).foldl (bst lk ts mk) none
theorem slowest_ok (h : RN ps ms lk) (hm : mk.length = ps.length) (hl : ts.length = ms.length) (ht : ∀ x ∈ ts, x ≤ 999) (hk : ∀ x ∈ mk, x ≤ 999) : m_slowest [netD ps ms, nt mk, nt ts] = .ok (bsD ps lk ts mk (slw lk ts mk ps.length)) := by
  have hi : initE 7 [netD ps ms, nt mk, nt ts] = [.val (netD ps ms), .val (nt mk), .val (nt ts), .no, .no, .no, .no] := rfl
  have hr := rings_ok h
  obtain ⟨y4, y5, y6, q⟩ := slow_loop h hm hl ht hk (sortW (fnd lk ps.length)) none .no .no .no (fun w hw => fnd_rg (sortW_mem.mp hw)) (fun v hv => by cases hv)
  have q : forF (.one 4) l1_slowest ((sortW (fnd lk ps.length)).map fun w => tsD (wyS ps w)) [.val (netD ps ms), .val (nt mk), .val (nt ts), .val .non, .no, .no, .no] = _ := q
  unfold m_slowest runF b_slowest
  rw [hi]
  generalize ((sortW (fnd lk ps.length)).map fun w => tsD (wyS ps w)) = RD at *
  simp_arith [hr, q]
  rfl
/-- what the slowest is -/
theorem fold_best {P : List Nat → Prop} (hp : ∀ w, P w → 0 < tok mk w) : ∀ (l done : List (List Nat)) (b : Option (List Nat)), (∀ w ∈ l, P w) → (∀ w ∈ done, P w) →
    (match b with | none => done = [] | some v => v ∈ done ∧ ∀ w ∈ done, tim lk ts w * tok mk v ≤ tim lk ts v * tok mk w) →
    (match l.foldl (bst lk ts mk) b with | none => done ++ l = [] | some v => v ∈ done ++ l ∧ ∀ w ∈ done ++ l, tim lk ts w * tok mk v ≤ tim lk ts v * tok mk w)
  | [], done, b, _, _, hb => by rw [List.append_nil]; exact hb
  | w :: l, done, b, hl, hd, hb => by
    have hw := hl w List.mem_cons_self
    have := fold_best hp l (done ++ [w]) (bst lk ts mk b w) (fun v hv => hl v (List.mem_cons_of_mem _ hv)) (fun v hv => by
      rcases List.mem_append.mp hv with hv | hv
      · exact hd v hv
      · rw [List.mem_singleton.mp hv]; exact hw) (by
      cases b with
      | none =>
        have hb : done = [] := hb
        subst hb
        exact ⟨by simp, fun v hv => by
          rw [List.nil_append, List.mem_singleton] at hv
          rw [hv]; exact Nat.le_refl _⟩
      | some u =>
        obtain ⟨hu, hb⟩ := hb
        have pu := hp u (hd u hu)
        have pw := hp w hw
        show (match (if tim lk ts u * tok mk w < tim lk ts w * tok mk u then some w else some u) with | none => done ++ [w] = [] | some v => v ∈ done ++ [w] ∧ ∀ w' ∈ done ++ [w], tim lk ts w' * tok mk v ≤ tim lk ts v * tok mk w')
        split
        · rename_i v heq
          split at heq
          · cases heq
          · cases heq
        · rename_i v heq
          split at heq
          · rename_i c
            obtain rfl : w = v := by injection heq
            refine ⟨by simp, fun x hx => ?_⟩
            rcases List.mem_append.mp hx with hx | hx
            · have h1 := hb x hx
              have px := hp x (hd x hx)
              -- tim x * tok u ≤ tim u * tok x ; tim u * tok w < tim w * tok u
              have h2 : (tim lk ts x * tok mk w) * tok mk u ≤ (tim lk ts w * tok mk x) * tok mk u := by
                have a1 : (tim lk ts x * tok mk u) * tok mk w ≤ (tim lk ts u * tok mk x) * tok mk w := Nat.mul_le_mul_right _ h1
                have a2 : (tim lk ts u * tok mk w) * tok mk x ≤ (tim lk ts w * tok mk u) * tok mk x := Nat.mul_le_mul_right _ (Nat.le_of_lt c)
                have e1 : (tim lk ts x * tok mk w) * tok mk u = (tim lk ts x * tok mk u) * tok mk w := Nat.mul_right_comm _ _ _
                have e2 : (tim lk ts u * tok mk x) * tok mk w = (tim lk ts u * tok mk w) * tok mk x := Nat.mul_right_comm _ _ _
                have e3 : (tim lk ts w * tok mk u) * tok mk x = (tim lk ts w * tok mk x) * tok mk u := Nat.mul_right_comm _ _ _
                omega
              exact Nat.le_of_mul_le_mul_right h2 pu
            · rw [List.mem_singleton.mp hx]; exact Nat.le_refl _
          · rename_i c
            obtain rfl : u = v := by injection heq
            refine ⟨List.mem_append_left _ hu, fun x hx => ?_⟩
            rcases List.mem_append.mp hx with hx | hx
            · exact hb x hx
            · rw [List.mem_singleton.mp hx]; omega)
    rw [List.append_assoc, List.singleton_append] at this
    exact this
theorem slw_best (hp : ∀ w ∈ fnd lk ps.length, 0 < tok mk w) : match slw lk ts mk ps.length with
    | none => fnd lk ps.length = []
    | some v => v ∈ fnd lk ps.length ∧ ∀ w ∈ fnd lk ps.length, tim lk ts w * tok mk v ≤ tim lk ts v * tok mk w := by
  have := fold_best (lk := lk) (ts := ts) (mk := mk) (P := fun w => w ∈ fnd lk ps.length) hp (sortW (fnd lk ps.length)) [] none (fun w hw => sortW_mem.mp hw) (fun w hw => absurd hw List.not_mem_nil) rfl
  unfold slw
  cases hs : (sortW (fnd lk ps.length)).foldl (bst lk ts mk) none with
  | none =>
    rw [hs] at this
    have this : sortW (fnd lk ps.length) = [] := this
    show fnd lk ps.length = []
    have hl : (sortW (fnd lk ps.length)).length = (fnd lk ps.length).length := by unfold sortW; rw [List.length_mergeSort]
    rw [this] at hl
    exact List.length_eq_zero_iff.mp hl.symm
  | some v =>
    rw [hs] at this
    have this : v ∈ sortW (fnd lk ps.length) ∧ ∀ w ∈ sortW (fnd lk ps.length), tim lk ts w * tok mk v ≤ tim lk ts v * tok mk w := this
    exact ⟨sortW_mem.mp this.1, fun w hw => this.2 w (sortW_mem.mpr hw)⟩
end
end K53

set_option Elab.async false
set_option linter.all false
set_option maxRecDepth 100000
set_option maxHeartbeats 2000000
/-! k53: heights: what walks weigh. -/
namespace K53
open PySem Dl Sh
section
variable (lk : List (Nat × Nat)) (n : Nat) (W : Nat → Int)
/-- the most that walks of at most k steps weigh -/
def Dw : Nat → Nat → Int
  | 0, _ => 0
  | k + 1, j => (List.range n).foldl (fun x p => if tk lk p = j then max x (Dw k (gv lk p) + W p) else x) (Dw k j)
end
section
variable {lk : List (Nat × Nat)} {n c : Nat} {W : Nat → Int}
theorem fold_max {F : Nat → Int} {q : Nat → Prop} [DecidablePred q] : ∀ (l : List Nat) (x : Int),
    x ≤ l.foldl (fun x p => if q p then max x (F p) else x) x ∧ (∀ p ∈ l, q p → F p ≤ l.foldl (fun x p => if q p then max x (F p) else x) x) ∧
    (l.foldl (fun x p => if q p then max x (F p) else x) x = x ∨ ∃ p ∈ l, q p ∧ l.foldl (fun x p => if q p then max x (F p) else x) x = F p)
  | [], x => ⟨Int.le_refl _, fun p hp => absurd hp List.not_mem_nil, .inl rfl⟩
  | a :: l, x => by
    obtain ⟨h1, h2, h3⟩ := fold_max (F := F) (q := q) l (if q a then max x (F a) else x)
    rw [List.foldl_cons]
    refine ⟨?_, fun p hp hq => ?_, ?_⟩
    · refine Int.le_trans ?_ h1
      split <;> omega
    · rcases List.mem_cons.mp hp with rfl | hp
      · refine Int.le_trans ?_ h1
        rw [if_pos hq]; omega
      · exact h2 p hp hq
    · rcases h3 with h3 | ⟨p, hp, hq, h3⟩
      · by_cases ha : q a
        · rw [if_pos ha] at h3 ⊢
          rw [h3]
          by_cases c : x ≤ F a
          · exact .inr ⟨a, List.mem_cons_self, ha, by omega⟩
          · exact .inl (by omega)
        · rw [if_neg ha] at h3 ⊢
          exact .inl h3
      · exact .inr ⟨p, List.mem_cons_of_mem _ hp, hq, h3⟩
theorem Dw_up (k j : Nat) : Dw lk n W k j ≤ Dw lk n W (k + 1) j := (fold_max (F := fun p => Dw lk n W k (gv lk p) + W p) (q := fun p => tk lk p = j) (List.range n) (Dw lk n W k j)).1
theorem Dw_mono {k j : Nat} : ∀ d, Dw lk n W k j ≤ Dw lk n W (k + d) j
  | 0 => Int.le_refl _
  | d + 1 => Int.le_trans (Dw_mono d) (Dw_up (k + d) j)
theorem Dw_step {k p : Nat} (hp : p < n) : Dw lk n W k (gv lk p) + W p ≤ Dw lk n W (k + 1) (tk lk p) := (fold_max (F := fun q => Dw lk n W k (gv lk q) + W q) (q := fun q => tk lk q = tk lk p) (List.range n) (Dw lk n W k (tk lk p))).2.1 p (List.mem_range.mpr hp) rfl
theorem Dw_at {k j : Nat} : Dw lk n W (k + 1) j = Dw lk n W k j ∨ ∃ p, p < n ∧ tk lk p = j ∧ Dw lk n W (k + 1) j = Dw lk n W k (gv lk p) + W p := by
  rcases (fold_max (F := fun p => Dw lk n W k (gv lk p) + W p) (q := fun p => tk lk p = j) (List.range n) (Dw lk n W k j)).2.2 with h | ⟨p, hp, hq, h⟩
  · exact .inl h
  · exact .inr ⟨p, List.mem_range.mp hp, hq, h⟩
/-- a chain that grows at each step -/
theorem chain : ∀ (k j : Nat), Dw lk n W k j < Dw lk n W (k + 1) j → ∃ X E : Nat → Nat, X (k + 1) = j ∧ ∀ i, i ≤ k → E i < n ∧ gv lk (E i) = X i ∧ tk lk (E i) = X (i + 1) ∧ Dw lk n W (i + 1) (X (i + 1)) = Dw lk n W i (X i) + W (E i) ∧ Dw lk n W i (X (i + 1)) < Dw lk n W (i + 1) (X (i + 1))
  | 0, j, h => by
    rcases Dw_at (lk := lk) (n := n) (W := W) (k := 0) (j := j) with q | ⟨p, hp, hq, q⟩
    · rw [q] at h; omega
    · refine ⟨fun i => if i = 0 then gv lk p else j, fun _ => p, rfl, fun i hi => ?_⟩
      obtain rfl : i = 0 := by omega
      exact ⟨hp, rfl, hq, q, h⟩
  | k + 1, j, h => by
    rcases Dw_at (lk := lk) (n := n) (W := W) (k := k + 1) (j := j) with q | ⟨p, hp, hq, q⟩
    · rw [q] at h; omega
    · have h' : Dw lk n W k (gv lk p) < Dw lk n W (k + 1) (gv lk p) := by
        have h1 := Dw_up (lk := lk) (n := n) (W := W) k (gv lk p)
        have h2 := Dw_step (lk := lk) (W := W) (k := k) hp
        rw [hq] at h2
        omega
      obtain ⟨X, E, hX, hc⟩ := chain k (gv lk p) h'
      refine ⟨fun i => if i = k + 2 then j else X i, fun i => if i = k + 1 then p else E i, if_pos rfl, fun i hi => ?_⟩
      by_cases ci : i = k + 1
      · subst ci
        refine ⟨by simpa using hp, ?_, ?_, ?_, ?_⟩
        · simp [hX]
        · simp [hq]
        · simp [hX]; exact q
        · simp; exact h
      · obtain ⟨a1, a2, a3, a4, a5⟩ := hc i (by omega)
        have e1 : ¬ i + 1 = k + 2 := by omega
        have e2 : ¬ i = k + 2 := by omega
        simp only [ci, e1, e2, if_false]
        exact ⟨a1, a2, a3, a4, a5⟩
theorem least {P : Nat → Prop} : ∀ k, P k → ∃ m, m ≤ k ∧ P m ∧ ∀ i, i < m → ¬ P i := fun k => by
  induction k using Nat.strongRecOn with
  | _ k ih =>
    intro hk
    by_cases h : ∃ i, i < k ∧ P i
    · obtain ⟨i, hi, hp⟩ := h
      obtain ⟨m, h1, h2, h3⟩ := ih i hi hp
      exact ⟨m, by omega, h2, h3⟩
    · exact ⟨k, Nat.le_refl _, hk, fun i hi hp => h ⟨i, hi, hp⟩⟩
theorem pigeon {X : Nat → Nat} (h : ∀ i, i ≤ c → X i < c) : ∃ k, k ≤ c ∧ ∃ i, i < k ∧ X i = X k := by
  apply Classical.byContradiction
  intro z
  have hnd : ((List.range (c + 1)).map X).Nodup := by
    refine List.pairwise_map.mpr (List.Pairwise.imp_of_mem (fun {a b} ha hb hab e => ?_) List.pairwise_lt_range)
    have := List.mem_range.mp hb
    exact z ⟨b, by omega, a, hab, e⟩
  have := nd_sub_len (m := List.range c) hnd fun x hx => by
    obtain ⟨i, hi, rfl⟩ := List.mem_map.mp hx
    exact List.mem_range.mpr (h i (by have := List.mem_range.mp hi; omega))
  rw [List.length_map, List.length_range, List.length_range] at this
  omega
/-- where no ring weighs more than nothing, c steps win nothing over c - 1 -/
theorem Dw_stop (hc : 1 ≤ c) (hb : ∀ p, p < n → gv lk p < c ∧ tk lk p < c) (hr : ∀ w, Rg lk n w → (w.map W).sum ≤ 0) (j : Nat) : Dw lk n W c j = Dw lk n W (c - 1) j := by
  obtain ⟨d, rfl⟩ : ∃ d, c = d + 1 := ⟨c - 1, by omega⟩
  rw [Nat.add_sub_cancel]
  apply Classical.byContradiction
  intro hne
  have hup := Dw_up (lk := lk) (n := n) (W := W) d j
  obtain ⟨X, E, hX, hch⟩ := chain (lk := lk) (n := n) (W := W) d j (by omega)
  have hXc : ∀ i, i ≤ d + 1 → X i < d + 1 := fun i hi => by
    rcases Nat.lt_or_ge i (d + 1) with z | z
    · obtain ⟨a1, a2, _⟩ := hch i (by omega)
      rw [← a2]; exact (hb _ a1).1
    · obtain rfl : i = d + 1 := by omega
      obtain ⟨a1, _, a3, _⟩ := hch d (Nat.le_refl _)
      rw [← a3]; exact (hb _ a1).2
  obtain ⟨k0, hk0, hi0⟩ := pigeon hXc
  obtain ⟨k, hk, ⟨i, hik, hXe⟩, hmin⟩ := least (P := fun k => ∃ i, i < k ∧ X i = X k) k0 hi0
  have hdist : ∀ a b, a < b → b < k → X a ≠ X b := fun a b hab hbk e => hmin b hbk ⟨a, hab, e⟩
  let w := (List.range (k - i)).map fun t => E (i + t)
  have hwl : w.length = k - i := by show ((List.range (k - i)).map _).length = _; rw [List.length_map, List.length_range]
  have hwt : ∀ t, t < k - i → w.getD t 0 = E (i + t) := fun t ht => getD_tab ht
  have hR : Rg lk n w := by
    refine ⟨fun z => by rw [z] at hwl; simp at hwl; omega, fun p hp => ?_, ?_, fun t ht => ?_⟩
    · obtain ⟨t, ht, rfl⟩ := List.mem_map.mp hp
      have := List.mem_range.mp ht
      exact (hch (i + t) (by omega)).1
    · show (((List.range (k - i)).map fun t => E (i + t)).map (tk lk)).Nodup
      rw [List.map_map]
      refine List.pairwise_map.mpr (List.Pairwise.imp_of_mem (fun {a b} ha hb hab e => ?_) List.pairwise_lt_range)
      have ha := List.mem_range.mp ha
      have hb := List.mem_range.mp hb
      have e : tk lk (E (i + a)) = tk lk (E (i + b)) := e
      rw [(hch (i + a) (by omega)).2.2.1, (hch (i + b) (by omega)).2.2.1] at e
      by_cases cb : i + b + 1 = k
      · rw [cb, ← hXe] at e
        exact hdist i (i + a + 1) (by omega) (by omega) e.symm
      · exact hdist (i + a + 1) (i + b + 1) (by omega) (by omega) e
    · rw [hwl] at ht ⊢
      rw [nx_mod ht, hwt t ht, (hch (i + t) (by omega)).2.2.1]
      split
      · rename_i c1
        rw [hwt (t + 1) c1, (hch (i + (t + 1)) (by omega)).2.1]; rfl
      · rw [hwt 0 (by omega), (hch (i + 0) (by omega)).2.1, show i + t + 1 = k by omega, ← hXe]; rfl
  have hsum : ∀ q, q ≤ k - i → ((List.range q).map fun t => W (E (i + t))).sum = Dw lk n W (i + q) (X (i + q)) - Dw lk n W i (X i) := by
    intro q
    induction q with
    | zero => intro _; simp
    | succ q ih =>
      intro hq
      rw [List.range_succ, List.map_append, List.sum_append, ih (by omega)]
      have := (hch (i + q) (by omega)).2.2.2.1
      simp only [List.map_cons, List.map_nil, List.sum_cons, List.sum_nil]
      rw [show i + (q + 1) = i + q + 1 by omega]
      omega
  have h1 := hr w hR
  have e : w.map W = (List.range (k - i)).map fun t => W (E (i + t)) := by
    show ((List.range (k - i)).map fun t => E (i + t)).map W = _
    rw [List.map_map]; rfl
  rw [e, hsum (k - i) (Nat.le_refl _), show i + (k - i) = k by omega, hXe] at h1
  have h2 := (hch (k - 1) (by omega)).2.2.2.2
  rw [show k - 1 + 1 = k by omega] at h2
  have h3 := Dw_mono (lk := lk) (n := n) (W := W) (k := i) (j := X k) (k - 1 - i)
  rw [show i + (k - 1 - i) = k - 1 by omega] at h3
  omega
/-! ### passes -/
def hst (lk : List (Nat × Nat)) (W : Nat → Int) (s : List Int × Bool) (p : Nat) : List Int × Bool := if s.1.getD (tk lk p) 0 < s.1.getD (gv lk p) 0 + W p then (s.1.set (tk lk p) (s.1.getD (gv lk p) 0 + W p), true) else s
def hps (lk : List (Nat × Nat)) (W : Nat → Int) (n : Nat) (h : List Int) : List Int × Bool := (List.range n).foldl (hst lk W) (h, false)
theorem getD_set {l : List Int} {i j : Nat} {x : Int} (h : i < l.length) : (l.set i x).getD j 0 = if i = j then x else l.getD j 0 := by
  by_cases e : i = j
  · subst e
    simp [List.getD_eq_getElem?_getD, h]
  · simp [List.getD_eq_getElem?_getD, List.getElem?_set, e]
theorem hst_len (s : List Int × Bool) (p : Nat) : (hst lk W s p).1.length = s.1.length := by unfold hst; split <;> simp
theorem hst_up {s : List Int × Bool} {p : Nat} (hp : tk lk p < s.1.length) (j : Nat) : s.1.getD j 0 ≤ (hst lk W s p).1.getD j 0 := by
  unfold hst
  split
  · rename_i c1
    rw [getD_set hp]
    split
    · rename_i e; subst e; omega
    · exact Int.le_refl _
  · exact Int.le_refl _
theorem hst_at {s : List Int × Bool} {p : Nat} (hp : tk lk p < s.1.length) : s.1.getD (gv lk p) 0 + W p ≤ (hst lk W s p).1.getD (tk lk p) 0 := by
  unfold hst
  split
  · rw [getD_set hp, if_pos rfl]; exact Int.le_refl _
  · omega
theorem hst_low {s : List Int × Bool} {p : Nat} (hp : tk lk p < s.1.length) {P : Nat → Int} (h1 : ∀ j, j < s.1.length → s.1.getD j 0 ≤ P j) (hg : gv lk p < s.1.length) (h2 : P (gv lk p) + W p ≤ P (tk lk p)) : ∀ j, j < s.1.length → (hst lk W s p).1.getD j 0 ≤ P j := fun j hj => by
  unfold hst
  split
  · rw [getD_set hp]
    split
    · rename_i e; subst e
      have := h1 _ hg
      omega
    · exact h1 j hj
  · exact h1 j hj
theorem hfold : ∀ (l : List Nat) (s : List Int × Bool), (∀ p ∈ l, tk lk p < c ∧ gv lk p < c) → s.1.length = c →
    (l.foldl (hst lk W) s).1.length = c ∧ (∀ j, s.1.getD j 0 ≤ (l.foldl (hst lk W) s).1.getD j 0) ∧ (∀ p ∈ l, s.1.getD (gv lk p) 0 + W p ≤ (l.foldl (hst lk W) s).1.getD (tk lk p) 0) ∧
    (∀ P : Nat → Int, (∀ p ∈ l, P (gv lk p) + W p ≤ P (tk lk p)) → (∀ j, j < c → s.1.getD j 0 ≤ P j) → ∀ j, j < c → (l.foldl (hst lk W) s).1.getD j 0 ≤ P j) ∧
    ((l.foldl (hst lk W) s).2 = false → s.2 = false ∧ (l.foldl (hst lk W) s).1 = s.1 ∧ ∀ p ∈ l, s.1.getD (gv lk p) 0 + W p ≤ s.1.getD (tk lk p) 0)
  | [], s, _, hl => ⟨hl, fun j => Int.le_refl _, fun p hp => absurd hp List.not_mem_nil, fun P _ h => h, fun h => ⟨h, rfl, fun p hp => absurd hp List.not_mem_nil⟩⟩
  | a :: l, s, hp, hl => by
    obtain ⟨b1, b2⟩ := hp a List.mem_cons_self
    obtain ⟨i1, i2, i3, i4, i5⟩ := hfold l (hst lk W s a) (fun p h => hp p (List.mem_cons_of_mem _ h)) (by rw [hst_len]; exact hl)
    have u := hst_up (lk := lk) (W := W) (s := s) (p := a) (by omega)
    rw [List.foldl_cons]
    refine ⟨i1, fun j => Int.le_trans (u j) (i2 j), fun p hpm => ?_, fun P hP hs => ?_, fun hf => ?_⟩
    · rcases List.mem_cons.mp hpm with rfl | hpm
      · exact Int.le_trans (hst_at (by omega)) (i2 _)
      · have := i3 p hpm
        have := u (gv lk p)
        omega
    · refine i4 P (fun p h => hP p (List.mem_cons_of_mem _ h)) fun j hj => ?_
      exact hst_low (by omega) (fun j hj => hs j (by omega)) (by omega) (hP a List.mem_cons_self) j (by omega)
    · obtain ⟨f1, f2, f3⟩ := i5 hf
      have hno : ¬ s.1.getD (tk lk a) 0 < s.1.getD (gv lk a) 0 + W a := fun z => by
        unfold hst at f1
        rw [if_pos z] at f1
        cases f1
      have e : hst lk W s a = s := by unfold hst; rw [if_neg hno]
      rw [e] at f1 f2 f3 ⊢
      refine ⟨f1, f2, fun p hpm => ?_⟩
      rcases List.mem_cons.mp hpm with rfl | hpm
      · omega
      · exact f3 p hpm
theorem hfold_same : ∀ (l : List Nat) (s : List Int × Bool), (∀ p ∈ l, s.1.getD (gv lk p) 0 + W p ≤ s.1.getD (tk lk p) 0) → l.foldl (hst lk W) s = s
  | [], s, _ => rfl
  | a :: l, s, h => by
    have h0 := h a List.mem_cons_self
    have e : hst lk W s a = s := by unfold hst; rw [if_neg (by omega)]
    rw [List.foldl_cons, e]
    exact hfold_same l s fun p hp => h p (List.mem_cons_of_mem _ hp)
/-- the state behind k passes -/
structure Hk (lk : List (Nat × Nat)) (n c : Nat) (W : Nat → Int) (k : Nat) (h : List Int) : Prop where
  len : h.length = c
  lo : ∀ j, j < c → Dw lk n W k j ≤ h.getD j 0
  hi : ∀ j, j < c → h.getD j 0 ≤ Dw lk n W (c - 1) j
theorem Hk.next (hc : 1 ≤ c) (hb : ∀ p, p < n → gv lk p < c ∧ tk lk p < c) (hr : ∀ w, Rg lk n w → (w.map W).sum ≤ 0) {k : Nat} {h : List Int} (H : Hk lk n c W k h) : Hk lk n c W (k + 1) (hps lk W n h).1 := by
  obtain ⟨i1, i2, i3, i4, _⟩ := hfold (lk := lk) (W := W) (c := c) (List.range n) (h, false) (fun p hp => ⟨(hb p (List.mem_range.mp hp)).2, (hb p (List.mem_range.mp hp)).1⟩) H.len
  refine ⟨i1, fun j hj => ?_, i4 (Dw lk n W (c - 1)) (fun p hp => ?_) H.hi⟩
  · rcases Dw_at (lk := lk) (n := n) (W := W) (k := k) (j := j) with q | ⟨p, hp, hq, q⟩
    · rw [q]
      exact Int.le_trans (H.lo j hj) (i2 j)
    · rw [q, ← hq]
      have h3 : h.getD (gv lk p) 0 + W p ≤ (hps lk W n h).1.getD (tk lk p) 0 := i3 p (List.mem_range.mpr hp)
      have h4 := H.lo _ (hb p hp).1
      omega
  · have h1 := Dw_step (lk := lk) (n := n) (W := W) (k := c - 1) (List.mem_range.mp hp)
    rw [show c - 1 + 1 = c by omega, Dw_stop hc hb hr] at h1
    exact h1
theorem Hk.full (hc : 1 ≤ c) (hb : ∀ p, p < n → gv lk p < c ∧ tk lk p < c) (hr : ∀ w, Rg lk n w → (w.map W).sum ≤ 0) {k : Nat} (hk : c - 1 ≤ k) {h : List Int} (H : Hk lk n c W k h) : hps lk W n h = (h, false) := by
  refine hfold_same (List.range n) (h, false) fun p hp => ?_
  have hp := List.mem_range.mp hp
  obtain ⟨b1, b2⟩ := hb p hp
  have h1 := Dw_step (lk := lk) (n := n) (W := W) (k := c - 1) hp
  rw [show c - 1 + 1 = c by omega, Dw_stop hc hb hr] at h1
  have h2 := H.hi _ b1
  have h3 := H.lo _ b2
  have h4 := Dw_mono (lk := lk) (n := n) (W := W) (k := c - 1) (j := tk lk p) (k - (c - 1))
  rw [show c - 1 + (k - (c - 1)) = k by omega] at h4
  show h.getD (gv lk p) 0 + W p ≤ h.getD (tk lk p) 0
  omega
end
end K53

set_option Elab.async false
set_option linter.all false
set_option maxRecDepth 100000
set_option maxHeartbeats 2000000
/-! k53: heights by the program; the paper of the pace. -/
namespace K53
open PySem Dl Sh
local macro_rules | `(tactic| simp_arith [$ts,*]) => `(tactic| simp only [ev_bind_ok, ev_bind_exc, ev_bindF_ok, ev_bindF_exc, ev_sNext, ev_sSeq, ev_sIf, ev_sRet, ev_sSet, ev_sOwn, ev_sDrop, ev_sRaise, ev_sFrz, ev_sUnp, ev_sFor, ev_eC, Dl.ev_e1, Dl.ev_e2, ev_eB, ev_eCall, ev_aNil, ev_aCons, ev_eIf, blR_bl, ev_tB1, ev_tAnd, ev_tOr, andK_bl, orK_bl, notK_bl, ev_eAnd, ev_eOr, ev_eNot, ev_tNot, ev_tYes, ev_oNone, ev_oSome, ev_eSl, ev_iSeq, ev_iRng, ev_eN, ev_ofO_some, ev_eV0, ev_eVs, lt_int, le_int, gt_int, ge_int, add_int, sub_int, iadd_int, len_tup, len_lst, eq_int, ne_int, itD_tup, itD_lst, put_one, fz_nil, fz_val, fz_no, fz_own, fz_succ, od_lst, od_lol, od_dk, od_dt, odict_lst, odict_dk, odict_dt, wp_nil, wp_cons, sa_nil, sa_cons, put_all, ev_eTup', ev_eLst', ev_nLst, ev_nLc, ev_eGen', ev_tBor, ev_eBor, ev_sPar, ev_eM, ev_eM0, ev_eCallM, ev_aSnoc, ok_tup, ok_lst, ok_str, ev_tIf, notB_eq, isB_eq, isN_eq, notN_eq, neg_int, tupD_lst, tupD_tup, listD_lst, listD_tup, pure_int, pure_bl, pure_str, pure_non, pureL_int, ev_eIsi, addD_lst, addD_tup, ix_t0, ix_t1, ix_t2, ix_l0, ix_l1, ix_l2, isi_tt, isi_ss, isT_tup, isS_str, List.set_cons_succ, List.set_cons_zero, List.length_cons, List.length_nil, Nat.reduceAdd, Nat.reduceLeDiff, Nat.zero_add, Nat.zero_le, if_true, if_false, Bool.false_eq_true, decide_true, decide_false, Bool.not_true, Bool.not_false, Bool.true_or, Bool.false_or, Bool.or_true, Bool.or_false, Bool.true_and, Bool.false_and, Bool.and_true, Bool.and_false, Int.cast_ofNat_Int, Int.reduceEq, Int.reduceLT, Int.reduceLE, Int.reduceNeg, reduceCtorEq, List.cons_append, List.nil_append, eq_of, ne_of, String.reduceEq, $ts,*])
def Wt (lk : List (Nat × Nat)) (ts mk : List Nat) (K T : Nat) (p : Nat) : Int := (ts.getD (gv lk p) 0 : Int) * (K : Int) - (mk.getD p 0 : Int) * (T : Int)
theorem W_sum (lk : List (Nat × Nat)) (ts mk : List Nat) (K T : Nat) : ∀ w : List Nat, (w.map (Wt lk ts mk K T)).sum = ((tim lk ts w * K : Nat) : Int) - ((tok mk w * T : Nat) : Int)
  | [] => by simp [tim, tok]
  | p :: w => by
    have ih := W_sum lk ts mk K T w
    have e1 : tim lk ts (p :: w) = ts.getD (gv lk p) 0 + tim lk ts w := by unfold tim; rw [List.map_cons, List.sum_cons]
    have e2 : tok mk (p :: w) = mk.getD p 0 + tok mk w := by unfold tok; rw [List.map_cons, List.sum_cons]
    rw [List.map_cons, List.sum_cons, ih, e1, e2, Nat.add_mul, Nat.add_mul]
    unfold Wt
    rw [← Int.natCast_mul, ← Int.natCast_mul]
    omega
theorem tim_perm {lk : List (Nat × Nat)} {ts v w : List Nat} (h : v.Perm w) : tim lk ts v = tim lk ts w := (h.map _).sum_nat
theorem tok_perm {mk v w : List Nat} (h : v.Perm w) : tok mk v = tok mk w := (h.map _).sum_nat
theorem foundP {lk : List (Nat × Nat)} {n : Nat} {w : List Nat} (h : Rg lk n w) : ∃ v ∈ fnd lk n, v.Perm w := by
  obtain ⟨v, hv, he⟩ := h.found
  exact ⟨v, hv, perm_nd (nd_map (fnd_rg hv).td) (nd_map h.td) he⟩
section
variable {ps : List Str} {ms : List Mv} {lk : List (Nat × Nat)} {mk ts : List Nat}
theorem ints_ix {h : List Int} {k : Nat} (hk : k < h.length) : ixD (.lst (h.map D.int)) (.int ((k : Nat) : Int)) = some (.int (h.getD k 0)) := by
  rw [ix_lst, List.getElem?_map, List.getElem?_eq_getElem hk, List.getD_eq_getElem?_getD, List.getElem?_eq_getElem hk]; rfl
theorem ints_ixt {h : List Int} {k : Nat} (hk : k < h.length) : ixD (.tup (h.map D.int)) (.int ((k : Nat) : Int)) = some (.int (h.getD k 0)) := by
  rw [ix_tup, List.getElem?_map, List.getElem?_eq_getElem hk, List.getD_eq_getElem?_getD, List.getElem?_eq_getElem hk]; rfl
abbrev hE (ps : List Str) (ms : List Mv) (lk : List (Nat × Nat)) (ts mk : List Nat) (K T : Nat) (h : List Int) (x7 x8 x9 x11 x12 x13 : S) : Dl.Env := [.val (netD ps ms), .val (nt mk), .val (nt ts), .val (.int (T : Int)), .val (.int (K : Int)), .val (lnD lk ps.length), .own (.lst (h.map D.int)), x7, x8, x9, .no, x11, x12, x13]
theorem h_step (hn : RN ps ms lk) (hm : mk.length = ps.length) (hl : ts.length = ms.length) {K T : Nat} (hK : K < 2 ^ 60) (hT : T < 2 ^ 60) {s : List Int × Bool} (hs : s.1.length = ms.length) {p : Nat} (hp : p < ps.length) {x7 x11 x12 x13 : S} :
    ∃ y11 y12 y13, l1_heights_for (hE ps ms lk ts mk K T s.1 x7 (.val (.bl s.2)) (.val (ni p)) x11 x12 x13) = .next (hE ps ms lk ts mk K T (hst lk (Wt lk ts mk K T) s p).1 x7 (.val (.bl (hst lk (Wt lk ts mk K T) s p).2)) (.val (ni p)) y11 y12 y13) := by
  obtain ⟨b1, b2⟩ := hn.bd p hp
  have i1 := ll_ix (lk := lk) hp
  have i2 := ints_ix (h := s.1) (k := gv lk p) (by omega)
  have i3 := nt_ix (m := ts) (k := gv lk p) (by omega)
  have i4 := nt_ix (m := mk) (k := p) (by omega)
  have i5 := ints_ix (h := s.1) (k := tk lk p) (by omega)
  have m1 : mulD (.int ((ts.getD (gv lk p) 0 : Nat) : Int)) (.int (K : Int)) = some (.int ((ts.getD (gv lk p) 0 : Int) * (K : Int))) := mul_r _ _ (by rw [Int.natAbs_natCast]; omega)
  have m2 : mulD (.int ((mk.getD p 0 : Nat) : Int)) (.int (T : Int)) = some (.int ((mk.getD p 0 : Int) * (T : Int))) := mul_r _ _ (by rw [Int.natAbs_natCast]; omega)
  have ew : s.1.getD (gv lk p) 0 + (ts.getD (gv lk p) 0 : Int) * (K : Int) - (mk.getD p 0 : Int) * (T : Int) = s.1.getD (gv lk p) 0 + Wt lk ts mk K T p := by unfold Wt; omega
  refine ⟨.val (ni (gv lk p)), .val (ni (tk lk p)), .val (.int (s.1.getD (gv lk p) 0 + Wt lk ts mk K T p)), ?_⟩
  unfold l1_heights_for hst hE
  generalize lnD lk ps.length = LD at *
  generalize (ts.getD (gv lk p) 0 : Int) * (K : Int) = A at *
  generalize (mk.getD p 0 : Int) * (T : Int) = B at *
  simp_arith [i1, i2, i3, i4, i5, m1, m2, ew]
  by_cases c : s.1.getD (tk lk p) 0 < s.1.getD (gv lk p) 0 + Wt lk ts mk K T p
  · simp_arith [c]
    rw [sPut_at (ds := s.1.map D.int) (d := .int (s.1.getD (gv lk p) 0 + Wt lk ts mk K T p)) (j := tk lk p) rfl rfl rfl (by rw [List.length_map]; omega)]
    simp_arith []
    rw [List.map_set]
  · simp_arith [c]
theorem h_pass (hn : RN ps ms lk) (hm : mk.length = ps.length) (hl : ts.length = ms.length) {K T : Nat} (hK : K < 2 ^ 60) (hT : T < 2 ^ 60) {x7 : S} : ∀ (l : List Nat) (s : List Int × Bool) (x9 x11 x12 x13 : S), (∀ p ∈ l, p < ps.length) → s.1.length = ms.length →
    ∃ y9 y11 y12 y13, forF (.one 9) l1_heights_for (l.map ni) (hE ps ms lk ts mk K T s.1 x7 (.val (.bl s.2)) x9 x11 x12 x13) = .next (hE ps ms lk ts mk K T (l.foldl (hst lk (Wt lk ts mk K T)) s).1 x7 (.val (.bl (l.foldl (hst lk (Wt lk ts mk K T)) s).2)) y9 y11 y12 y13)
  | [], s, x9, x11, x12, x13, _, _ => ⟨x9, x11, x12, x13, rfl⟩
  | p :: l, s, x9, x11, x12, x13, hp, hs => by
    obtain ⟨y11, y12, y13, q⟩ := h_step hn hm hl hK hT hs (hp p List.mem_cons_self) (x7 := x7) (x11 := x11) (x12 := x12) (x13 := x13)
    obtain ⟨z9, z11, z12, z13, ih⟩ := h_pass hn hm hl hK hT (x7 := x7) l (hst lk (Wt lk ts mk K T) s p) (.val (ni p)) y11 y12 y13 (fun q hq => hp q (List.mem_cons_of_mem _ hq)) (by rw [hst_len]; exact hs)
    refine ⟨z9, z11, z12, z13, ?_⟩
    have e : (hE ps ms lk ts mk K T s.1 x7 (.val (.bl s.2)) x9 x11 x12 x13).set 9 (.val (ni p)) = hE ps ms lk ts mk K T s.1 x7 (.val (.bl s.2)) (.val (ni p)) x11 x12 x13 := rfl
    simp only [List.map_cons, forF, put_one, e, q, List.foldl_cons]
    exact ih
/-- heights that stand -/
def Stb (lk : List (Nat × Nat)) (n c : Nat) (W : Nat → Int) (h : List Int) : Prop := h.length = c ∧ ∀ p, p < n → h.getD (gv lk p) 0 + W p ≤ h.getD (tk lk p) 0
theorem heights_ok (hn : RN ps ms lk) (hm : mk.length = ps.length) (hl : ts.length = ms.length) {K T : Nat} (hK : K < 2 ^ 60) (hT : T < 2 ^ 60) (hr : ∀ w ∈ fnd lk ps.length, tim lk ts w * K ≤ tok mk w * T) :
    ∃ h, Stb lk ps.length ms.length (Wt lk ts mk K T) h ∧ m_heights_for [netD ps ms, nt mk, nt ts, .int (T : Int), .int (K : Int)] = .ok (.tup (h.map D.int)) := by
  have hi : initE 14 [netD ps ms, nt mk, nt ts, .int (T : Int), .int (K : Int)] = [.val (netD ps ms), .val (nt mk), .val (nt ts), .val (.int (T : Int)), .val (.int (K : Int)), .no, .no, .no, .no, .no, .no, .no, .no, .no] := rfl
  have h6 := hn.six
  have h4 := hn.four
  have h1 := hn.cone
  have hlk := hn.links
  have hf := fld_moves ps ms
  have hml := msl ms
  have hrW : ∀ w, Rg lk ps.length w → (w.map (Wt lk ts mk K T)).sum ≤ 0 := fun w hw => by
    obtain ⟨v, hv, hp⟩ := foundP hw
    have := hr v hv
    rw [W_sum, ← tim_perm hp, ← tok_perm hp]
    omega
  have hbd := fun p hp => hn.bd p hp
  have hit : itD (msD ms) = some (ms.map mvD) := rfl
  have h0 : mapF (.one 10) tYesD y1_heights_for [.val (netD ps ms), .val (nt mk), .val (nt ts), .val (.int (T : Int)), .val (.int (K : Int)), .val (lnD lk ps.length), .no, .no, .no, .no, .no, .no, .no, .no] (ms.map mvD) = .ok ((List.replicate ms.length (0 : Int)).map D.int) := by
    rw [mapF_enc (g := fun _ => D.int 0) fun m _ => ⟨_, rfl, rfl, rfl⟩, List.map_replicate, List.map_const']
  have hz0 : ((List.replicate ms.length (0 : Int)).map D.int).length ≤ 16777216 := by rw [List.length_map, List.length_replicate]; omega
  have hN : ((ms.length : Int) + 1) = ((ms.length + 1 : Nat) : Int) := by omega
  have hrc := rng_ni (ms.length + 1) (by omega)
  have hkl : lenD [nt mk] = some (.int (ps.length : Int)) := by
    show some (D.int ((mk.map ni).length : Int)) = _
    rw [List.length_map, hm]
  have hrp := rng_ni ps.length (by omega)
  have hH0 : Hk lk ps.length ms.length (Wt lk ts mk K T) 0 (List.replicate ms.length 0) := ⟨by rw [List.length_replicate], fun j hj => by
    rw [List.getD_eq_getElem?_getD, List.getElem?_replicate, if_pos hj]; exact Int.le_refl _, fun j hj => by
    rw [List.getD_eq_getElem?_getD, List.getElem?_replicate, if_pos hj]
    have := Dw_mono (lk := lk) (n := ps.length) (W := Wt lk ts mk K T) (k := 0) (j := j) (ms.length - 1)
    rw [Nat.zero_add] at this
    exact this⟩
  have hloop : ∀ f, f = forF (.one 7) l2_heights_for ((List.range (ms.length + 1)).map ni) (hE ps ms lk ts mk K T (List.replicate ms.length 0) .no .no .no .no .no .no) → ∃ h, Stb lk ps.length ms.length (Wt lk ts mk K T) h ∧ f = .ret (.tup (h.map D.int)) := by
    rintro _ rfl
    refine forF_gen (P := fun f => ∃ h, Stb lk ps.length ms.length (Wt lk ts mk K T) h ∧ f = .ret (.tup (h.map D.int)))
      (fun done δ => done.length ≤ ms.length - 1 ∧ ∃ h x7 x8 x9 x11 x12 x13, Hk lk ps.length ms.length (Wt lk ts mk K T) done.length h ∧ δ = hE ps ms lk ts mk K T h x7 x8 x9 x11 x12 x13)
      (List.range (ms.length + 1)) [] _ ⟨Nat.zero_le _, _, _, _, _, _, _, _, hH0, rfl⟩ (fun pre b δ _ _ _ hI => ?_) (fun δ hI => ?_)
    · obtain ⟨hlen, h, x7, x8, x9, x11, x12, x13, H, rfl⟩ := hI
      obtain ⟨y9, y11, y12, y13, q⟩ := h_pass hn hm hl hK hT (x7 := .val (ni b)) (List.range ps.length) (h, false) x9 x11 x12 x13 (fun p hp => List.mem_range.mp hp) H.len
      have q : forF (.one 9) l1_heights_for ((List.range ps.length).map ni) [.val (netD ps ms), .val (nt mk), .val (nt ts), .val (.int (T : Int)), .val (.int (K : Int)), .val (lnD lk ps.length), .own (.lst (h.map D.int)), .val (ni b), .val (.bl false), x9, .no, x11, x12, x13] = .next [.val (netD ps ms), .val (nt mk), .val (nt ts), .val (.int (T : Int)), .val (.int (K : Int)), .val (lnD lk ps.length), .own (.lst ((hps lk (Wt lk ts mk K T) ps.length h).1.map D.int)), .val (ni b), .val (.bl (hps lk (Wt lk ts mk K T) ps.length h).2), y9, .no, y11, y12, y13] := q
      have hnx := H.next h1 hbd hrW
      have hfold := (hfold (lk := lk) (W := Wt lk ts mk K T) (c := ms.length) (List.range ps.length) (h, false) (fun p hp => ⟨(hbd p (List.mem_range.mp hp)).2, (hbd p (List.mem_range.mp hp)).1⟩) H.len).2.2.2.2
      have hful := fun hk => H.full h1 hbd hrW (k := pre.length) hk
      have hb : l2_heights_for [.val (netD ps ms), .val (nt mk), .val (nt ts), .val (.int (T : Int)), .val (.int (K : Int)), .val (lnD lk ps.length), .own (.lst (h.map D.int)), .val (ni b), x8, x9, .no, x11, x12, x13] = if (hps lk (Wt lk ts mk K T) ps.length h).2 = true then .next [.val (netD ps ms), .val (nt mk), .val (nt ts), .val (.int (T : Int)), .val (.int (K : Int)), .val (lnD lk ps.length), .own (.lst ((hps lk (Wt lk ts mk K T) ps.length h).1.map D.int)), .val (ni b), .val (.bl (hps lk (Wt lk ts mk K T) ps.length h).2), y9, .no, y11, y12, y13] else .ret (.tup ((hps lk (Wt lk ts mk K T) ps.length h).1.map D.int)) := by
        unfold l2_heights_for
        generalize lnD lk ps.length = LD at *
        simp_arith [hkl, hrp, q]
        cases (hps lk (Wt lk ts mk K T) ps.length h).2 <;> simp_arith []
      refine ⟨_, rfl, ?_⟩
      show After _ _ (l2_heights_for [.val (netD ps ms), .val (nt mk), .val (nt ts), .val (.int (T : Int)), .val (.int (K : Int)), .val (lnD lk ps.length), .own (.lst (h.map D.int)), .val (ni b), x8, x9, .no, x11, x12, x13])
      rw [hb]
      cases hc : (hps lk (Wt lk ts mk K T) ps.length h).2 with
      | true =>
        rw [if_pos rfl]
        refine ⟨?_, _, _, _, _, _, _, _, by rw [List.length_append, List.length_singleton]; exact hnx, rfl⟩
        rw [List.length_append, List.length_singleton]
        rcases Nat.lt_or_ge pre.length (ms.length - 1) with z | z
        · omega
        · rw [hful z] at hc; cases hc
      | false =>
        rw [if_neg Bool.false_ne_true]
        obtain ⟨_, f2, f3⟩ := hfold hc
        have f2 : (hps lk (Wt lk ts mk K T) ps.length h).1 = h := f2
        exact ⟨h, ⟨H.len, fun p hp => f3 p (List.mem_range.mpr hp)⟩, by rw [f2]⟩
    · obtain ⟨hlen, _⟩ := hI
      rw [List.nil_append, List.length_range] at hlen
      omega
  obtain ⟨h, hst, hfor⟩ := hloop _ rfl
  refine ⟨h, hst, ?_⟩
  have hfor : forF (.one 7) l2_heights_for ((List.range (ms.length + 1)).map ni) [.val (netD ps ms), .val (nt mk), .val (nt ts), .val (.int (T : Int)), .val (.int (K : Int)), .val (lnD lk ps.length), .own (.lst ((List.replicate ms.length (0 : Int)).map D.int)), .no, .no, .no, .no, .no, .no, .no] = _ := hfor
  unfold m_heights_for runF b_heights_for
  rw [hi]
  generalize lnD lk ps.length = LD at *
  generalize (List.replicate ms.length (0 : Int)).map D.int = HD at *
  simp_arith [hlk, hf, hit, h0, hz0, hml, hN, hrc, hfor]
/-! ### the paper -/
theorem pace_ok (hn : RN ps ms lk) (hm : mk.length = ps.length) (hl : ts.length = ms.length) (ht : ∀ x ∈ ts, x ≤ 999) (hk : ∀ x ∈ mk, x ≤ 999) (hp : ∀ w ∈ fnd lk ps.length, 0 < tok mk w) :
    (fnd lk ps.length = [] ∧ m_paper_pace [netD ps ms, nt mk, nt ts] = .ok .non) ∨
    (∃ b h, b ∈ fnd lk ps.length ∧ (∀ w ∈ fnd lk ps.length, tim lk ts w * tok mk b ≤ tim lk ts b * tok mk w) ∧ Stb lk ps.length ms.length (Wt lk ts mk (tok mk b) (tim lk ts b)) h ∧ m_paper_pace [netD ps ms, nt mk, nt ts] = .ok (.tup [.str "pace", tsD (wyS ps b), .tup (h.map D.int)])) := by
  have hi : initE 4 [netD ps ms, nt mk, nt ts] = [.val (netD ps ms), .val (nt mk), .val (nt ts), .no] := rfl
  have h6 := hn.six
  have k1 := check_ok hn hm
  have k2 := times_ok (ps := ps) (ms := ms) hl ht
  have k4 := slowest_ok hn hm hl ht hk
  have hb := slw_best (ts := ts) hp
  obtain ⟨O, hO, k3⟩ : ∃ O, Ord lk (emp mk ps.length) ms.length O ∧ m_paper_turns [netD ps ms, nt mk] = .ok (.tup [.str "order", tsD (O.map nmM)]) := by
    rcases paper_ok hn hm with ⟨w, h1, h2, _⟩ | h
    · exfalso
      obtain ⟨v, hv, hvw⟩ := h1.found
      have := hp v hv
      have := (tok_zero (mk := mk) (fnd_rg hv).lt).mpr fun k hk => h2 k ((hvw k).mp hk)
      omega
    · exact h
  cases hs : slw lk ts mk ps.length with
  | none =>
    rw [hs] at hb k4
    have k4 : m_slowest [netD ps ms, nt mk, nt ts] = .ok .non := k4
    refine .inl ⟨hb, ?_⟩
    have e : decide (D.non = D.non) = true := rfl
    unfold m_paper_pace runF b_paper_pace
    rw [hi]
    simp_arith [k1, k2, k3, k4, e]
  | some b =>
    rw [hs] at hb k4
    obtain ⟨hb1, hb2⟩ := hb
    have k4 : m_slowest [netD ps ms, nt mk, nt ts] = .ok (.tup [tsD (wyS ps b), .int (tim lk ts b : Nat), .int (tok mk b : Nat)]) := k4
    have t1 := tim_le (lk := lk) ht b
    have t2 := tok_le hk b
    have hbl := rg_len (fnd_rg hb1)
    obtain ⟨h, hst, k5⟩ := heights_ok hn hm hl (K := tok mk b) (T := tim lk ts b) (by omega) (by omega) fun w hw => by
      have := hb2 w hw
      rw [Nat.mul_comm (tok mk w)]
      exact this
    refine .inr ⟨b, h, hb1, hb2, hst, ?_⟩
    have e : decide (D.tup [tsD (wyS ps b), .int (tim lk ts b : Nat), .int (tok mk b : Nat)] = D.non) = false := decide_eq_false (fun z => by cases z)
    unfold m_paper_pace runF b_paper_pace
    rw [hi]
    simp_arith [k1, k2, k3, k4, e, k5]
end
end K53

set_option Elab.async false
set_option linter.all false
set_option maxRecDepth 100000
set_option maxHeartbeats 2000000
/-! k53: the judge of paces; what the law says to stand. -/
namespace K53
open PySem Dl Sh
local macro_rules | `(tactic| simp_arith [$ts,*]) => `(tactic| simp only [ev_bind_ok, ev_bind_exc, ev_bindF_ok, ev_bindF_exc, ev_sNext, ev_sSeq, ev_sIf, ev_sRet, ev_sSet, ev_sOwn, ev_sDrop, ev_sRaise, ev_sFrz, ev_sUnp, ev_sFor, ev_eC, Dl.ev_e1, Dl.ev_e2, ev_eB, ev_eCall, ev_aNil, ev_aCons, ev_eIf, blR_bl, ev_tB1, ev_tAnd, ev_tOr, andK_bl, orK_bl, notK_bl, ev_eAnd, ev_eOr, ev_eNot, ev_tNot, ev_tYes, ev_oNone, ev_oSome, ev_eSl, ev_iSeq, ev_iRng, ev_eN, ev_ofO_some, ev_eV0, ev_eVs, lt_int, le_int, gt_int, ge_int, add_int, sub_int, iadd_int, len_tup, len_lst, eq_int, ne_int, itD_tup, itD_lst, put_one, fz_nil, fz_val, fz_no, fz_own, fz_succ, od_lst, od_lol, od_dk, od_dt, odict_lst, odict_dk, odict_dt, wp_nil, wp_cons, sa_nil, sa_cons, put_all, ev_eTup', ev_eLst', ev_nLst, ev_nLc, ev_eGen', ev_tBor, ev_eBor, ev_sPar, ev_eM, ev_eM0, ev_eCallM, ev_aSnoc, ok_tup, ok_lst, ok_str, ev_tIf, notB_eq, isB_eq, isN_eq, notN_eq, neg_int, tupD_lst, tupD_tup, listD_lst, listD_tup, pure_int, pure_bl, pure_str, pure_non, pureL_int, ev_eIsi, addD_lst, addD_tup, ix_t0, ix_t1, ix_t2, ix_l0, ix_l1, ix_l2, isi_tt, isi_ss, isT_tup, isS_str, List.set_cons_succ, List.set_cons_zero, List.length_cons, List.length_nil, Nat.reduceAdd, Nat.reduceLeDiff, Nat.zero_add, Nat.zero_le, if_true, if_false, Bool.false_eq_true, decide_true, decide_false, Bool.not_true, Bool.not_false, Bool.true_or, Bool.false_or, Bool.or_true, Bool.or_false, Bool.true_and, Bool.false_and, Bool.and_true, Bool.and_false, Int.cast_ofNat_Int, Int.reduceEq, Int.reduceLT, Int.reduceLE, Int.reduceNeg, reduceCtorEq, List.cons_append, List.nil_append, eq_of, ne_of, String.reduceEq, $ts,*])
theorem kit_int_bool : L2.kitB "int" "bool" = some false := by decide +kernel
theorem kit_bool_bool : L2.kitB "bool" "bool" = some true := by decide +kernel
def stB (lk : List (Nat × Nat)) (n : Nat) (W : Nat → Int) (h : List Int) : Bool := (List.range n).all fun p => !decide (h.getD (tk lk p) 0 < h.getD (gv lk p) 0 + W p)
theorem stB_of {lk : List (Nat × Nat)} {n c : Nat} {W : Nat → Int} {h : List Int} (hs : Stb lk n c W h) : stB lk n W h = true := by
  unfold stB
  rw [List.all_eq_true]
  intro p hp
  have := hs.2 p (List.mem_range.mp hp)
  rw [Bool.not_eq_true', decide_eq_false_iff_not]
  omega
section
variable {ps : List Str} {ms : List Mv} {lk : List (Nat × Nat)} {mk ts : List Nat}
abbrev jE (ps : List Str) (ms : List Mv) (lk : List (Nat × Nat)) (ts mk : List Nat) (d3 : D) (K T : Nat) (h : List Int) (x8 x9 x10 x11 : S) : Dl.Env := [.val (netD ps ms), .val (nt mk), .val (nt ts), .val d3, .val (.tup (h.map D.int)), .val (.int (K : Int)), .val (.int (T : Int)), .val (lnD lk ps.length), x8, x9, x10, x11]
theorem jp_loop (hn : RN ps ms lk) (hm : mk.length = ps.length) (hl : ts.length = ms.length) {d3 : D} {K T : Nat} (hK : K < 2 ^ 60) (hT : T < 2 ^ 60) {h : List Int} (hh : h.length = ms.length) {x11 : S} : ∀ (l : List Nat) (x8 x9 x10 : S), (∀ p ∈ l, p < ps.length) →
    ∃ y8 y9 y10, forF (.one 8) l1_judge_pace (l.map ni) (jE ps ms lk ts mk d3 K T h x8 x9 x10 x11) = if (l.all fun p => !decide (h.getD (tk lk p) 0 < h.getD (gv lk p) 0 + Wt lk ts mk K T p)) = true then .next (jE ps ms lk ts mk d3 K T h y8 y9 y10 x11) else .ret (.bl false)
  | [], x8, x9, x10, _ => ⟨x8, x9, x10, rfl⟩
  | p :: l, x8, x9, x10, hp => by
    have hp0 := hp p List.mem_cons_self
    obtain ⟨b1, b2⟩ := hn.bd p hp0
    have i1 := ll_ix (lk := lk) hp0
    have i2 := ints_ixt (h := h) (k := gv lk p) (by omega)
    have i3 := nt_ix (m := ts) (k := gv lk p) (by omega)
    have i4 := nt_ix (m := mk) (k := p) (by omega)
    have i5 := ints_ixt (h := h) (k := tk lk p) (by omega)
    have m1 : mulD (.int ((ts.getD (gv lk p) 0 : Nat) : Int)) (.int (K : Int)) = some (.int ((ts.getD (gv lk p) 0 : Int) * (K : Int))) := mul_r _ _ (by rw [Int.natAbs_natCast]; omega)
    have m2 : mulD (.int ((mk.getD p 0 : Nat) : Int)) (.int (T : Int)) = some (.int ((mk.getD p 0 : Int) * (T : Int))) := mul_r _ _ (by rw [Int.natAbs_natCast]; omega)
    have ew : h.getD (gv lk p) 0 + (ts.getD (gv lk p) 0 : Int) * (K : Int) - (mk.getD p 0 : Int) * (T : Int) = h.getD (gv lk p) 0 + Wt lk ts mk K T p := by unfold Wt; omega
    obtain ⟨y8, y9, y10, ih⟩ := jp_loop hn hm hl (d3 := d3) hK hT hh (x11 := x11) l (.val (ni p)) (.val (ni (gv lk p))) (.val (ni (tk lk p))) fun q hq => hp q (List.mem_cons_of_mem _ hq)
    have hb : l1_judge_pace (jE ps ms lk ts mk d3 K T h (.val (ni p)) x9 x10 x11) = if decide (h.getD (tk lk p) 0 < h.getD (gv lk p) 0 + Wt lk ts mk K T p) = true then .ret (.bl false) else .next (jE ps ms lk ts mk d3 K T h (.val (ni p)) (.val (ni (gv lk p))) (.val (ni (tk lk p))) x11) := by
      unfold l1_judge_pace jE
      generalize lnD lk ps.length = LD at *
      generalize (ts.getD (gv lk p) 0 : Int) * (K : Int) = A at *
      generalize (mk.getD p 0 : Int) * (T : Int) = B at *
      generalize h.map D.int = HD at *
      simp_arith [i1, i2, i3, i4, i5, m1, m2, ew]
    refine ⟨y8, y9, y10, ?_⟩
    have e : (jE ps ms lk ts mk d3 K T h x8 x9 x10 x11).set 8 (.val (ni p)) = jE ps ms lk ts mk d3 K T h (.val (ni p)) x9 x10 x11 := rfl
    rw [List.all_cons]
    cases c : decide (h.getD (tk lk p) 0 < h.getD (gv lk p) 0 + Wt lk ts mk K T p) with
    | true =>
      rw [c, if_pos rfl] at hb
      simp only [List.map_cons, forF, put_one, e, hb, Bool.not_true, Bool.false_and, Bool.false_eq_true, if_false]
    | false =>
      rw [c, if_neg Bool.false_ne_true] at hb
      simp only [List.map_cons, forF, put_one, e, hb, Bool.not_false, Bool.true_and]
      exact ih
theorem jp_ints {δ : Dl.Env} {x0 x1 x2 x3 x4 x5 x6 x7 x8 x9 x10 : S} (h : List Int) : genF false (.one 11) tYesD y1_judge_pace [x0, x1, x2, x3, x4, x5, x6, x7, x8, x9, x10, .no] (h.map D.int) = .ok (.bl true) := by
  have := genF_enc_all (t := .one 11) (c := tYesD) (f := y1_judge_pace) (δ := [x0, x1, x2, x3, x4, x5, x6, x7, x8, x9, x10, .no]) (enc := D.int) (p := fun _ => true) (bs := h) fun i _ => ⟨[x0, x1, x2, x3, x4, x5, x6, x7, x8, x9, x10, .val (.int i)], rfl, rfl, by
    have h1 := isi_int (.int i) (t := "int") rfl
    have h2 : isIB (D.int i) = true := rfl
    have h3 : ((tyN (D.int i)).bind fun t => (L2.kitB t "bool").map D.bl) = some (.bl false) := by
      show ((some "int").bind fun t => (L2.kitB t "bool").map D.bl) = _
      rw [Option.bind_some, kit_int_bool]; rfl
    unfold y1_judge_pace
    simp_arith [h1, h2, h3]⟩
  rw [this]
  simp
theorem jp_bools {x0 x1 x2 x3 x4 x5 x6 x7 x8 x9 x10 : S} {c : Nat} (hc : 0 < c) : genF false (.one 11) tYesD y1_judge_pace [x0, x1, x2, x3, x4, x5, x6, x7, x8, x9, x10, .no] (List.replicate c (.bl true)) = .ok (.bl false) := by
  have := genF_enc_all (t := .one 11) (c := tYesD) (f := y1_judge_pace) (δ := [x0, x1, x2, x3, x4, x5, x6, x7, x8, x9, x10, .no]) (enc := fun d : D => d) (p := fun _ => false) (bs := List.replicate c (.bl true)) fun d hd => ⟨[x0, x1, x2, x3, x4, x5, x6, x7, x8, x9, x10, .val (.bl true)], by rw [List.eq_of_mem_replicate hd]; rfl, rfl, by
    have h1 := isi_int (.bl true) (t := "bool") rfl
    have h2 : isIB (D.bl true) = true := rfl
    have h3 : ((tyN (D.bl true)).bind fun t => (L2.kitB t "bool").map D.bl) = some (.bl true) := by
      show ((some "bool").bind fun t => (L2.kitB t "bool").map D.bl) = _
      rw [Option.bind_some, kit_bool_bool]; rfl
    unfold y1_judge_pace
    simp_arith [h1, h2, h3]⟩
  rw [List.map_id'] at this
  rw [this]
  congr 2
  obtain ⟨k, rfl⟩ : ∃ k, c = k + 1 := ⟨c - 1, by omega⟩
  rfl
def jp (ps : List Str) (ms : List Mv) (lk : List (Nat × Nat)) (ts mk : List Nat) (xs : List Str) (h : List Int) : Bool :=
  jr ps lk xs && (!decide (tok mk (xs.map ps.idxOf) = 0) && (decide (h.length = ms.length) && stB lk ps.length (Wt lk ts mk (tok mk (xs.map ps.idxOf)) (tim lk ts (xs.map ps.idxOf))) h))
/-- the judge with a ring that is none -/
theorem jp_noring (hn : RN ps ms lk) (hm : mk.length = ps.length) (hl : ts.length = ms.length) (ht : ∀ x ∈ ts, x ≤ 999) {d e : D} (hr : m_is_ring_of [netD ps ms, d] = .ok (.bl false)) : m_judge_pace [netD ps ms, nt mk, nt ts, .tup [.str "pace", d, e]] = .ok (.bl false) := by
  have hi : initE 12 [netD ps ms, nt mk, nt ts, .tup [.str "pace", d, e]] = [.val (netD ps ms), .val (nt mk), .val (nt ts), .val (.tup [.str "pace", d, e]), .no, .no, .no, .no, .no, .no, .no, .no] := rfl
  have k1 := check_ok hn hm
  have k2 := times_ok (ps := ps) (ms := ms) hl ht
  have p1 := paper_is3 (x := d) (y := e) "pace" "pace"
  unfold m_judge_pace runF b_judge_pace
  rw [hi]
  simp_arith [k1, k2, p1, hr]
theorem jp_nopaper (hn : RN ps ms lk) (hm : mk.length = ps.length) (hl : ts.length = ms.length) (ht : ∀ x ∈ ts, x ≤ 999) {d : D} (p1 : m_is_paper [d, .str "pace", .int 3] = .ok (.bl false)) : m_judge_pace [netD ps ms, nt mk, nt ts, d] = .ok (.bl false) := by
  have hi : initE 12 [netD ps ms, nt mk, nt ts, d] = [.val (netD ps ms), .val (nt mk), .val (nt ts), .val d, .no, .no, .no, .no, .no, .no, .no, .no] := rfl
  have k1 := check_ok hn hm
  have k2 := times_ok (ps := ps) (ms := ms) hl ht
  unfold m_judge_pace runF b_judge_pace
  rw [hi]
  simp_arith [k1, k2, p1]
theorem jp_notup (hn : RN ps ms lk) (hm : mk.length = ps.length) (hl : ts.length = ms.length) (ht : ∀ x ∈ ts, x ≤ 999) {d e : D} {b : Bool} (hr : m_is_ring_of [netD ps ms, d] = .ok (.bl b)) (he : isT e = false) (hy : tyOk e) : m_judge_pace [netD ps ms, nt mk, nt ts, .tup [.str "pace", d, e]] = .ok (.bl false) := by
  cases b with
  | false => exact jp_noring hn hm hl ht hr
  | true =>
    have hi : initE 12 [netD ps ms, nt mk, nt ts, .tup [.str "pace", d, e]] = [.val (netD ps ms), .val (nt mk), .val (nt ts), .val (.tup [.str "pace", d, e]), .no, .no, .no, .no, .no, .no, .no, .no] := rfl
    have k1 := check_ok hn hm
    have k2 := times_ok (ps := ps) (ms := ms) hl ht
    have p1 := paper_is3 (x := d) (y := e) "pace" "pace"
    obtain ⟨t, hy⟩ := hy
    unfold m_judge_pace runF b_judge_pace
    rw [hi]
    simp_arith [k1, k2, p1, hr, isi_tuple e hy, he]
/-- the judge with a ring and a tuple -/
theorem jp_tup (hn : RN ps ms lk) (hm : mk.length = ps.length) (hl : ts.length = ms.length) (ht : ∀ x ∈ ts, x ≤ 999) (hk : ∀ x ∈ mk, x ≤ 999) {xs : List Str} (hg : ∀ x ∈ xs, goodS x = true) (hx : xs.length ≤ 1000) (hj : jr ps lk xs = true) (ys : List D) :
    m_judge_pace [netD ps ms, nt mk, nt ts, .tup [.str "pace", tsD xs, .tup ys]] = if (decide (tok mk (xs.map ps.idxOf) = 0) || !decide (ys.length = ms.length)) = true then .ok (.bl false) else
      match genF false (.one 11) tYesD y1_judge_pace [.val (netD ps ms), .val (nt mk), .val (nt ts), .val (.tup [.str "pace", tsD xs, .tup ys]), .val (.tup ys), .val (.int (tok mk (xs.map ps.idxOf) : Nat)), .val (.int (tim lk ts (xs.map ps.idxOf) : Nat)), .no, .no, .no, .no, .no] ys with
      | .ok (.bl false) => .ok (.bl false)
      | .ok (.bl true) => (match forF (.one 8) l1_judge_pace ((List.range ps.length).map ni) [.val (netD ps ms), .val (nt mk), .val (nt ts), .val (.tup [.str "pace", tsD xs, .tup ys]), .val (.tup ys), .val (.int (tok mk (xs.map ps.idxOf) : Nat)), .val (.int (tim lk ts (xs.map ps.idxOf) : Nat)), .val (lnD lk ps.length), .no, .no, .no, .no] with
        | .ret d => .ok d
        | .next _ => .ok (.bl true)
        | .exc c _ => .exc c
        | _ => .bad)
      | .ok _ => .bad
      | .exc c => .exc c
      | .bad => .bad := by
  have hi : initE 12 [netD ps ms, nt mk, nt ts, .tup [.str "pace", tsD xs, .tup ys]] = [.val (netD ps ms), .val (nt mk), .val (nt ts), .val (.tup [.str "pace", tsD xs, .tup ys]), .no, .no, .no, .no, .no, .no, .no, .no] := rfl
  have k1 := check_ok hn hm
  have k2 := times_ok (ps := ps) (ms := ms) hl ht
  have p1 := paper_is3 (x := tsD xs) (y := .tup ys) "pace" "pace"
  have hin := (jr_cl hj).1
  have hr := ring_of_ok hn hg hx
  rw [hj] at hr
  have t1 := tokens_ok (mk := mk) hn hm hin hx
  have t2 := time_ok (ts := ts) hn hl hin hx
  have hf := fld_moves ps ms
  have hml := msl ms
  have e0 := z_nat (tok mk (xs.map ps.idxOf))
  have e1 : decide ((ys.length : Int) = (ms.length : Int)) = decide (ys.length = ms.length) := by rw [Bool.eq_iff_iff, decide_eq_true_eq, decide_eq_true_eq]; omega
  have hlk := hn.links
  have h6 := hn.six
  have hkl : lenD [nt mk] = some (.int (ps.length : Int)) := by
    show some (D.int ((mk.map ni).length : Int)) = _
    rw [List.length_map, hm]
  have hrp := rng_ni ps.length (by omega)
  generalize tok mk (xs.map ps.idxOf) = K at *
  generalize tim lk ts (xs.map ps.idxOf) = T at *
  generalize lnD lk ps.length = LD at *
  unfold m_judge_pace runF b_judge_pace
  rw [hi]
  simp_arith [k1, k2, p1, hr, t1, t2, hf, hml, e0, e1]
  by_cases c0 : K = 0
  · simp_arith [c0]
  · simp_arith [c0]
    by_cases c1 : ys.length = ms.length
    · simp_arith [c1]
      generalize genF false (.one 11) tYesD y1_judge_pace [.val (netD ps ms), .val (nt mk), .val (nt ts), .val (.tup [.str "pace", tsD xs, .tup ys]), .val (.tup ys), .val (.int (K : Int)), .val (.int (T : Int)), .no, .no, .no, .no, .no] ys = g
      cases g with
      | bad => rfl
      | exc c => rfl
      | ok d =>
        cases d with
        | bl b =>
          cases b with
          | false => simp_arith []
          | true =>
            simp_arith [hlk, hkl, hrp]
            generalize forF (.one 8) l1_judge_pace ((List.range ps.length).map ni) [.val (netD ps ms), .val (nt mk), .val (nt ts), .val (.tup [.str "pace", tsD xs, .tup ys]), .val (.tup ys), .val (.int (K : Int)), .val (.int (T : Int)), .val LD, .no, .no, .no, .no] = fl
            cases fl <;> rfl
        | _ => rfl
    · simp_arith [c1]
theorem judge_ok (hn : RN ps ms lk) (hm : mk.length = ps.length) (hl : ts.length = ms.length) (ht : ∀ x ∈ ts, x ≤ 999) (hk : ∀ x ∈ mk, x ≤ 999) {xs : List Str} (hg : ∀ x ∈ xs, goodS x = true) (hx : xs.length ≤ 1000) (h : List Int) :
    m_judge_pace [netD ps ms, nt mk, nt ts, .tup [.str "pace", tsD xs, .tup (h.map D.int)]] = .ok (.bl (jp ps ms lk ts mk xs h)) := by
  unfold jp
  cases hj : jr ps lk xs with
  | false =>
    have hr := ring_of_ok hn hg hx
    rw [hj] at hr
    rw [jp_noring hn hm hl ht hr, Bool.false_and]
  | true =>
    have hxl : (xs.map ps.idxOf).length ≤ 1000 := by rw [List.length_map]; exact hx
    have b1 := tim_le (lk := lk) ht (xs.map ps.idxOf)
    have b2 := tok_le hk (xs.map ps.idxOf)
    rw [jp_tup hn hm hl ht hk hg hx hj, jp_ints (δ := []), List.length_map, Bool.true_and]
    cases c0 : decide (tok mk (xs.map ps.idxOf) = 0) with
    | true => rfl
    | false =>
      cases c1 : decide (h.length = ms.length) with
      | false => rfl
      | true =>
        obtain ⟨y8, y9, y10, q⟩ := jp_loop hn hm hl (d3 := .tup [.str "pace", tsD xs, .tup (h.map D.int)]) (K := tok mk (xs.map ps.idxOf)) (T := tim lk ts (xs.map ps.idxOf)) (by omega) (by omega) (of_decide_eq_true c1) (x11 := .no) (List.range ps.length) .no .no .no fun p hp => List.mem_range.mp hp
        rw [if_neg (by decide)]
        show (match forF (.one 8) l1_judge_pace ((List.range ps.length).map ni) (jE ps ms lk ts mk (.tup [.str "pace", tsD xs, .tup (h.map D.int)]) (tok mk (xs.map ps.idxOf)) (tim lk ts (xs.map ps.idxOf)) h .no .no .no .no) with
        | .ret d => R.ok d
        | .next _ => .ok (.bl true)
        | .exc c _ => .exc c
        | _ => .bad) = _
        rw [q]
        unfold stB
        cases ((List.range ps.length).all fun p => !decide (h.getD (tk lk p) 0 < h.getD (gv lk p) 0 + Wt lk ts mk (tok mk (xs.map ps.idxOf)) (tim lk ts (xs.map ps.idxOf)) p)) <;> rfl
/-! ### by the law -/
theorem law_stands_ok (hn : RN ps ms lk) (hm : mk.length = ps.length) (hl : ts.length = ms.length) (ht : ∀ x ∈ ts, x ≤ 999) (hk : ∀ x ∈ mk, x ≤ 999) {d : D} {w : List Nat} (hd : itD d = some (w.map ni)) (hw : ∀ k ∈ w, k < ps.length) (hwl : w.length ≤ 1000) {h : List Int} (hh : h.length = ms.length) :
    m__law_stands [.lst (lk.map lkD), nt mk, nt ts, d, .tup (h.map D.int)] = .ok (.bl (!decide (tok mk w = 0) && (!w.isEmpty && (rgB lk w && stB lk ps.length (Wt lk ts mk (tok mk w) (tim lk ts w)) h)))) := by
  have hi : initE 10 [.lst (lk.map lkD), nt mk, nt ts, d, .tup (h.map D.int)] = [.val (.lst (lk.map lkD)), .val (nt mk), .val (nt ts), .val d, .val (.tup (h.map D.int)), .no, .no, .no, .no, .no] := rfl
  have h6 := hn.six
  have hln := hn.len
  have hlx := fun {k : Nat} (hk : k < ps.length) => lk_ix (lk := lk) hn.len hk
  have b1 := tim_le (lk := lk) ht w
  have b2 := tok_le hk w
  have q0 : mapF (.one 8) tYesD y1__law_stands [.val (.lst (lk.map lkD)), .val (nt mk), .val (nt ts), .val d, .val (.tup (h.map D.int)), .no, .no, .no, .no, .no] (w.map ni) = .ok (w.map ni) := mapF_enc fun k _ => ⟨_, rfl, rfl, rfl⟩
  have q1 : mapF (.one 8) tYesD y2__law_stands [.val (.lst (lk.map lkD)), .val (nt mk), .val (nt ts), .val d, .val (.tup (h.map D.int)), .val (.lst (w.map ni)), .no, .no, .no, .no] (w.map ni) = .ok ((w.map fun k => ts.getD (gv lk k) 0).map ni) := by
    rw [mapF_enc (g := fun k => ni (ts.getD (gv lk k) 0)) fun k hk => ⟨_, rfl, rfl, by
      have i1 := hlx (hw k hk)
      have i2 := nt_ix (m := ts) (k := gv lk k) (by rw [hl]; exact (hn.bd k (hw k hk)).1)
      unfold y2__law_stands
      simp only [List.set_cons_succ, List.set_cons_zero]
      generalize lk.map lkD = LD at *
      generalize h.map D.int = HD at *
      generalize w.map ni = WD at *
      simp_arith [i1, i2]⟩, List.map_map]
    rfl
  have q2 : ∀ x6, mapF (.one 8) tYesD y3__law_stands [.val (.lst (lk.map lkD)), .val (nt mk), .val (nt ts), .val d, .val (.tup (h.map D.int)), .val (.lst (w.map ni)), x6, .no, .no, .no] (w.map ni) = .ok ((w.map fun k => mk.getD k 0).map ni) := fun x6 => by
    rw [mapF_enc (g := fun k => ni (mk.getD k 0)) fun k hk => ⟨_, rfl, rfl, by
      have i2 := nt_ix (m := mk) (k := k) (by rw [hm]; exact hw k hk)
      unfold y3__law_stands
      simp only [List.set_cons_succ, List.set_cons_zero]
      generalize w.map ni = WD at *
      simp_arith [i2]⟩, List.map_map]
    rfl
  have s1 : sumD [.lst ((w.map fun k => ts.getD (gv lk k) 0).map ni)] = some (.int (tim lk ts w : Nat)) := sum_ni _
  have s2 : sumD [.lst ((w.map fun k => mk.getD k 0).map ni)] = some (.int (tok mk w : Nat)) := sum_ni _
  have z0 : (w.map ni).length ≤ 16777216 := by rw [List.length_map]; omega
  have z1 : ((w.map fun k => ts.getD (gv lk k) 0).map ni).length ≤ 16777216 := by rw [List.length_map, List.length_map]; omega
  have z2 : ((w.map fun k => mk.getD k 0).map ni).length ≤ 16777216 := by rw [List.length_map, List.length_map]; omega
  have hwn : ((w.map ni).length : Int) = (w.length : Int) := by rw [List.length_map]
  have ewe : decide ((w.length : Int) = 0) = w.isEmpty := by
    cases w with
    | nil => rfl
    | cons a l => exact decide_eq_false (by rw [List.length_cons]; omega)
  have hrw := rng_ni w.length (by omega)
  have hrl := rng_ni ps.length (by omega)
  have hll : ((lk.map lkD).length : Int) = (ps.length : Int) := by rw [List.length_map, hln]
  have e0 := z_nat (tok mk w)
  have q3 : ∀ x6 x7, 0 < w.length → mapF (.one 9) c1__law_stands y4__law_stands [.val (.lst (lk.map lkD)), .val (nt mk), .val (nt ts), .val d, .val (.tup (h.map D.int)), .val (.lst (w.map ni)), x6, x7, .no, .no] ((List.range w.length).map ni) = .ok (((List.range w.length).filter fun k => !decide (tk lk (w.getD k 0) = gv lk (w.getD ((k + 1) % w.length) 0))).map ni) := fun x6 x7 hpos => by
    refine mapF_filter fun k hk => ⟨_, rfl, ?_, fun _ => rfl⟩
    have hk := List.mem_range.mp hk
    have hk2 : (k + 1) % w.length < w.length := Nat.mod_lt _ hpos
    have i1 := own_ix (l := w) hk
    have i2 := own_ix (l := w) hk2
    have i3 := hlx (hw _ (getD_mem hk))
    have i4 := hlx (hw _ (getD_mem hk2))
    have i5 := nx_int k w.length hpos
    have e : decide (((tk lk (w.getD k 0) : Nat) : Int) = ((gv lk (w.getD ((k + 1) % w.length) 0) : Nat) : Int)) = decide (tk lk (w.getD k 0) = gv lk (w.getD ((k + 1) % w.length) 0)) := by rw [Bool.eq_iff_iff, decide_eq_true_eq, decide_eq_true_eq]; omega
    unfold c1__law_stands
    simp only [List.set_cons_succ, List.set_cons_zero]
    generalize w.map ni = OWD at *
    generalize lk.map lkD = LD at *
    simp_arith [i1, i3, hwn, i5, i2, i4, e]
  have z3 : (((List.range w.length).filter fun k => !decide (tk lk (w.getD k 0) = gv lk (w.getD ((k + 1) % w.length) 0))).map ni).length ≤ 16777216 := by
    rw [List.length_map]
    exact Nat.le_trans (List.length_filter_le _ _) (by rw [List.length_range]; omega)
  have e3 : decide ((0 : Int) < ((((List.range w.length).filter fun k => !decide (tk lk (w.getD k 0) = gv lk (w.getD ((k + 1) % w.length) 0))).map ni).length : Int)) = !rgB lk w := by
    have e1 : ∀ (l : List Nat), decide ((0 : Int) < ((l.map ni).length : Int)) = decide (0 < l.length) := fun l => by rw [List.length_map, Bool.eq_iff_iff, decide_eq_true_eq, decide_eq_true_eq]; omega
    rw [e1, len_pos]
    unfold rgB
    rw [List.not_all_eq_any_not]
  have q4 : ∀ x9, mapF (.one 8) c2__law_stands y5__law_stands [.val (.lst (lk.map lkD)), .val (nt mk), .val (nt ts), .val d, .val (.tup (h.map D.int)), .val (.lst (w.map ni)), .val (.int (tim lk ts w : Nat)), .val (.int (tok mk w : Nat)), .no, x9] ((List.range ps.length).map ni) = .ok (((List.range ps.length).filter fun p => decide (h.getD (tk lk p) 0 < h.getD (gv lk p) 0 + Wt lk ts mk (tok mk w) (tim lk ts w) p)).map ni) := fun x9 => by
    refine mapF_filter fun p hp => ⟨_, rfl, ?_, fun _ => rfl⟩
    have hp := List.mem_range.mp hp
    obtain ⟨b1', b2'⟩ := hn.bd p hp
    have i1 := hlx hp
    have i2 := ints_ixt (h := h) (k := gv lk p) (by omega)
    have i3 := nt_ix (m := ts) (k := gv lk p) (by omega)
    have i4 := nt_ix (m := mk) (k := p) (by omega)
    have i5 := ints_ixt (h := h) (k := tk lk p) (by omega)
    have hts := getD_le ht (gv lk p)
    have m1 : mulD (.int ((tok mk w : Nat) : Int)) (.int ((ts.getD (gv lk p) 0 : Nat) : Int)) = some (.int ((tok mk w : Int) * (ts.getD (gv lk p) 0 : Int))) := mul_r _ _ (by rw [Int.natAbs_natCast]; omega)
    have m2 : mulD (.int ((mk.getD p 0 : Nat) : Int)) (.int ((tim lk ts w : Nat) : Int)) = some (.int ((mk.getD p 0 : Int) * (tim lk ts w : Int))) := mul_r _ _ (by rw [Int.natAbs_natCast]; omega)
    have ew : h.getD (gv lk p) 0 + (tok mk w : Int) * (ts.getD (gv lk p) 0 : Int) - (mk.getD p 0 : Int) * (tim lk ts w : Int) = h.getD (gv lk p) 0 + Wt lk ts mk (tok mk w) (tim lk ts w) p := by
      unfold Wt
      rw [Int.mul_comm (tok mk w : Int)]; omega
    unfold c2__law_stands
    simp only [List.set_cons_succ, List.set_cons_zero]
    generalize (tok mk w : Int) * (ts.getD (gv lk p) 0 : Int) = A at *
    generalize (mk.getD p 0 : Int) * (tim lk ts w : Int) = B at *
    generalize h.map D.int = HD at *
    generalize w.map ni = OWD at *
    generalize lk.map lkD = LD at *
    simp_arith [i1, i2, i3, i4, i5, m1, m2, ew]
  have z4 : (((List.range ps.length).filter fun p => decide (h.getD (tk lk p) 0 < h.getD (gv lk p) 0 + Wt lk ts mk (tok mk w) (tim lk ts w) p)).map ni).length ≤ 16777216 := by
    rw [List.length_map]
    exact Nat.le_trans (List.length_filter_le _ _) (by rw [List.length_range]; omega)
  have e4 : decide ((((List.range ps.length).filter fun p => decide (h.getD (tk lk p) 0 < h.getD (gv lk p) 0 + Wt lk ts mk (tok mk w) (tim lk ts w) p)).map ni).length = (0 : Int)) = stB lk ps.length (Wt lk ts mk (tok mk w) (tim lk ts w)) h := by
    have e1 : ∀ (l : List Nat), decide (((l.map ni).length : Int) = 0) = decide (l.length = 0) := fun l => by rw [List.length_map, Bool.eq_iff_iff, decide_eq_true_eq, decide_eq_true_eq]; omega
    rw [e1, len_zero]
    rfl
  unfold m__law_stands runF b__law_stands
  rw [hi]
  generalize ((List.range ps.length).filter fun p => decide (h.getD (tk lk p) 0 < h.getD (gv lk p) 0 + Wt lk ts mk (tok mk w) (tim lk ts w) p)).map ni = X4 at *
  generalize ((List.range w.length).filter fun k => !decide (tk lk (w.getD k 0) = gv lk (w.getD ((k + 1) % w.length) 0))).map ni = X3 at *
  generalize (w.map fun k => ts.getD (gv lk k) 0).map ni = X1 at *
  generalize (w.map fun k => mk.getD k 0).map ni = X2 at *
  generalize h.map D.int = HD at *
  generalize w.map ni = OWD at *
  generalize lk.map lkD = LD at *
  simp_arith [hd, q0, z0, q1, z1, s1, q2, z2, s2, e0, hwn, ewe]
  by_cases c0 : tok mk w = 0
  · simp_arith [c0]
  · simp_arith [c0]
    cases hw' : w.isEmpty with
    | true => simp_arith []
    | false =>
      have hpos : 0 < w.length := by cases w with
        | nil => cases hw'
        | cons a l => rw [List.length_cons]; omega
      simp_arith [hrw, q3 _ _ hpos, z3, e3]
      cases rgB lk w with
      | false => simp_arith []
      | true => simp_arith [hll, hrl, q4, z4, e4]
end
end K53

set_option Elab.async false
set_option linter.all false
set_option maxRecDepth 100000
set_option maxHeartbeats 2000000
/-! k53: when turns begin, by the program. -/
namespace K53
open PySem Dl Sh
local macro_rules | `(tactic| simp_arith [$ts,*]) => `(tactic| simp only [ev_bind_ok, ev_bind_exc, ev_bindF_ok, ev_bindF_exc, ev_sNext, ev_sSeq, ev_sIf, ev_sRet, ev_sSet, ev_sOwn, ev_sDrop, ev_sRaise, ev_sFrz, ev_sUnp, ev_sFor, ev_eC, Dl.ev_e1, Dl.ev_e2, ev_eB, ev_eCall, ev_aNil, ev_aCons, ev_eIf, blR_bl, ev_tB1, ev_tAnd, ev_tOr, andK_bl, orK_bl, notK_bl, ev_eAnd, ev_eOr, ev_eNot, ev_tNot, ev_tYes, ev_oNone, ev_oSome, ev_eSl, ev_iSeq, ev_iRng, ev_eN, ev_ofO_some, ev_eV0, ev_eVs, lt_int, le_int, gt_int, ge_int, add_int, sub_int, iadd_int, len_tup, len_lst, eq_int, ne_int, itD_tup, itD_lst, put_one, fz_nil, fz_val, fz_no, fz_own, fz_succ, od_lst, od_lol, od_dk, od_dt, odict_lst, odict_dk, odict_dt, wp_nil, wp_cons, sa_nil, sa_cons, put_all, ev_eTup', ev_eLst', ev_nLst, ev_nLc, ev_eGen', ev_tBor, ev_eBor, ev_sPar, ev_eM, ev_eM0, ev_eCallM, ev_aSnoc, ok_tup, ok_lst, ok_str, ev_tIf, notB_eq, isB_eq, isN_eq, notN_eq, neg_int, tupD_lst, tupD_tup, listD_lst, listD_tup, pure_int, pure_bl, pure_str, pure_non, pureL_int, ev_eIsi, addD_lst, addD_tup, ix_t0, ix_t1, ix_t2, ix_l0, ix_l1, ix_l2, isi_tt, isi_ss, isT_tup, isS_str, List.set_cons_succ, List.set_cons_zero, List.length_cons, List.length_nil, Nat.reduceAdd, Nat.reduceLeDiff, Nat.zero_add, Nat.zero_le, if_true, if_false, Bool.false_eq_true, decide_true, decide_false, Bool.not_true, Bool.not_false, Bool.true_or, Bool.false_or, Bool.or_true, Bool.or_false, Bool.true_and, Bool.false_and, Bool.and_true, Bool.and_false, Int.cast_ofNat_Int, Int.reduceEq, Int.reduceLT, Int.reduceLE, Int.reduceNeg, reduceCtorEq, List.cons_append, List.nil_append, eq_of, ne_of, String.reduceEq, $ts,*])
def bgF (lk : List (Nat × Nat)) (ts mk : List Nat) (n : Nat) : Nat → Nat → Nat → Nat
  | 0, _, _ => 0
  | f + 1, k, t => (List.range n).foldl (fun e p => if tk lk p = k ∧ mk.getD p 0 ≤ t then max e (bgF lk ts mk n f (gv lk p) (t - mk.getD p 0) + ts.getD (gv lk p) 0) else e) 0
def mu (O : List Nat) (c k t : Nat) : Nat := t * c + O.idxOf k
def bg (lk : List (Nat × Nat)) (ts mk : List Nat) (n : Nat) (O : List Nat) (c k t : Nat) : Nat := bgF lk ts mk n (mu O c k t + 1) k t
theorem fold_cg {α β : Type} {g g' : α → β → α} : ∀ {l : List β} (e : α), (∀ p ∈ l, ∀ e, g e p = g' e p) → l.foldl g e = l.foldl g' e
  | [], e, _ => rfl
  | a :: l, e, h => by
    rw [List.foldl_cons, List.foldl_cons, h a List.mem_cons_self]
    exact fold_cg _ fun p hp => h p (List.mem_cons_of_mem _ hp)
section
variable {lk : List (Nat × Nat)} {ts mk : List Nat} {n c : Nat} {O : List Nat}
theorem Ord.len (hO : Ord lk (emp mk n) c O) : O.length = c := by
  have := (perm_nd hO.nd List.nodup_range (fun x => by rw [hO.mem, List.mem_range] : ∀ x, x ∈ O ↔ x ∈ List.range c)).length_eq
  rwa [List.length_range] at this
theorem Ord.at (hO : Ord lk (emp mk n) c O) {k : Nat} (hk : k < c) : O.idxOf k < c := by
  have := List.idxOf_lt_length_of_mem ((hO.mem k).mpr hk)
  rwa [hO.len] at this
theorem mu_lt (hO : Ord lk (emp mk n) c O) (hb : ∀ p, p < n → gv lk p < c ∧ tk lk p < c) {p t : Nat} (hp : p < n) (ht : mk.getD p 0 ≤ t) : mu O c (gv lk p) (t - mk.getD p 0) < mu O c (tk lk p) t := by
  unfold mu
  have h1 := hO.at (hb p hp).1
  by_cases z : mk.getD p 0 = 0
  · have := hO.lt p (List.mem_filter.mpr ⟨List.mem_range.mpr hp, decide_eq_true z⟩)
    rw [z, Nat.sub_zero]
    omega
  · have h2 : (t - mk.getD p 0 + 1) * c ≤ t * c := Nat.mul_le_mul_right _ (by omega)
    rw [Nat.add_mul, Nat.one_mul] at h2
    omega
theorem bgF_eq (hO : Ord lk (emp mk n) c O) (hb : ∀ p, p < n → gv lk p < c ∧ tk lk p < c) : ∀ (f f' k t : Nat), mu O c k t < f → mu O c k t < f' → bgF lk ts mk n f k t = bgF lk ts mk n f' k t
  | 0, _, _, _, h, _ => absurd h (Nat.not_lt_zero _)
  | _ + 1, 0, _, _, _, h => absurd h (Nat.not_lt_zero _)
  | f + 1, f' + 1, k, t, h, h' => by
    rw [bgF, bgF]
    refine fold_cg _ fun p hp e => ?_
    have hp := List.mem_range.mp hp
    by_cases q : tk lk p = k ∧ mk.getD p 0 ≤ t
    · have := mu_lt hO hb hp q.2
      rw [q.1] at this
      rw [if_pos q, if_pos q, bgF_eq hO hb f f' _ _ (by omega) (by omega)]
    · rw [if_neg q, if_neg q]
theorem bg_eq (hO : Ord lk (emp mk n) c O) (hb : ∀ p, p < n → gv lk p < c ∧ tk lk p < c) (k t : Nat) : bg lk ts mk n O c k t = (List.range n).foldl (fun e p => if tk lk p = k ∧ mk.getD p 0 ≤ t then max e (bg lk ts mk n O c (gv lk p) (t - mk.getD p 0) + ts.getD (gv lk p) 0) else e) 0 := by
  unfold bg
  rw [bgF]
  refine fold_cg _ fun p hp e => ?_
  have hp := List.mem_range.mp hp
  by_cases q : tk lk p = k ∧ mk.getD p 0 ≤ t
  · have := mu_lt hO hb hp q.2
    rw [q.1] at this
    rw [if_pos q, if_pos q, bgF_eq hO hb (mu O c k t) (mu O c (gv lk p) (t - mk.getD p 0) + 1) _ _ (by omega) (by omega)]
  · rw [if_neg q, if_neg q]
/-! ### rows -/
theorem tab_cg {α : Type} {f g : Nat → α} {n : Nat} (h : ∀ j, j < n → f j = g j) : (List.range n).map f = (List.range n).map g := List.map_congr_left fun j hj => h j (List.mem_range.mp hj)
theorem tab_set {α : Type} {f : Nat → α} {n k : Nat} {v : α} : ((List.range n).map f).set k v = (List.range n).map fun j => if j = k then v else f j := by
  refine List.ext_getElem (by simp) fun i h1 h2 => ?_
  rw [List.getElem_set, List.getElem_map, List.getElem_map, List.getElem_range]
  by_cases e : k = i
  · subst e; simp
  · rw [if_neg e, if_neg fun z => e z.symm]
theorem tb_at {f : Nat → D} {n k : Nat} (h : k < n) : ixD (.lst ((List.range n).map f)) (.int ((k : Nat) : Int)) = some (f k) := by
  rw [ix_lst, List.getElem?_map, List.getElem?_range h]; rfl
def lteI (a b : Nat) : Nat := if a < b then 1 else 0
def RWd (B : Nat → Nat → Nat) (c : Nat) (len : Nat → Nat) : List (List D) := (List.range c).map fun j => (List.range (len j)).map fun t => ni (B j t)
theorem RW_d (B : Nat → Nat → Nat) (c : Nat) (len : Nat → Nat) : Dl.O.d (.lol (RWd B c len)) = .lst ((List.range c).map fun j => .lst ((List.range (len j)).map fun t => ni (B j t))) := by
  show D.lst ((RWd B c len).map D.lst) = _
  unfold RWd
  rw [List.map_map]; rfl
theorem RW_app {B : Nat → Nat → Nat} {c : Nat} {len len' : Nat → Nat} {k : Nat} (h1 : len' k = len k + 1) (h2 : ∀ j, j < c → j ≠ k → len' j = len j) : (RWd B c len).set k ((List.range (len k)).map (fun t => ni (B k t)) ++ [ni (B k (len k))]) = RWd B c len' := by
  unfold RWd
  rw [tab_set]
  refine tab_cg fun j hj => ?_
  by_cases e : j = k
  · subst e
    rw [if_pos rfl, h1, List.range_succ, List.map_append]; rfl
  · rw [if_neg e, h2 j hj e]
theorem ixN_nat {n k : Nat} (h : k < n) : L2.ixN n ((k : Nat) : Int) = some k := by
  unfold L2.ixN
  rw [if_pos (by omega), if_pos (by omega), Int.toNat_natCast]
theorem ev_lapp {δ : Dl.Env} {i k : Nat} {g f : Ev} {dss : List (List D)} {ds : List D} {d : D} (h0 : δ[i]? = some (.own (.lol dss))) (hg : g δ = .ok (.int ((k : Nat) : Int))) (hf : f δ = .ok d) (hk : dss[k]? = some ds) (hz : ds.length < 16777216) : sLApp i g f δ = .next (δ.set i (.own (.lol (dss.set k (ds ++ [d]))))) := by
  have hlt : k < dss.length := (List.getElem?_eq_some_iff.mp hk).1
  unfold sLApp
  rw [h0]
  simp only [hg, ev_bindF_ok, ixN_nat hlt, hf, hk]
  exact if_pos (show ds.length < sizeLine from hz)
end
section
variable {ps : List Str} {ms : List Mv} {lk : List (Nat × Nat)} {mk ts : List Nat}
theorem max_nn (a b : Nat) : max2D [.int (a : Int), .int (b : Int)] = some (.int ((max a b : Nat) : Int)) := by
  show some (D.int (if (b : Int) > (a : Int) then (b : Int) else (a : Int))) = _
  congr 2
  split <;> omega
theorem add_ni (a b : Nat) : addD (.int (a : Int)) (.int (b : Int)) = some (.int ((a + b : Nat) : Int)) := by
  rw [add_int]; rfl
abbrev bE (ps : List Str) (ms : List Mv) (lk : List (Nat × Nat)) (ts mk : List Nat) (x3 x4 : S) (dss : List (List D)) (x7 x8 x11 x12 x14 : S) : Dl.Env := [.val (netD ps ms), .val (nt mk), .val (nt ts), x3, x4, .val (lnD lk ps.length), .own (.lol dss), x7, x8, .no, .no, x11, x12, .no, x14]
theorem bg_step (hn : RN ps ms lk) (hm : mk.length = ps.length) (hl : ts.length = ms.length) {B : Nat → Nat → Nat} {len : Nat → Nat} {T k e p : Nat} (hp : p < ps.length) (hlen : tk lk p = k → mk.getD p 0 ≤ T → T - mk.getD p 0 < len (gv lk p)) {x3 x4 x14 : S} :
    ∃ y14, l1_begins (bE ps ms lk ts mk x3 x4 (RWd B ms.length len) (.val (ni T)) (.val (ni k)) (.val (ni e)) (.val (ni p)) x14) = .next (bE ps ms lk ts mk x3 x4 (RWd B ms.length len) (.val (ni T)) (.val (ni k)) (.val (ni (if tk lk p = k ∧ mk.getD p 0 ≤ T then max e (B (gv lk p) (T - mk.getD p 0) + ts.getD (gv lk p) 0) else e))) (.val (ni p)) y14) := by
  obtain ⟨b1, b2⟩ := hn.bd p hp
  have i1 := ll_ix (lk := lk) hp
  have i2 := eq_one (tk lk p) k
  have i3 := nt_ix (m := mk) (k := p) (by omega)
  have i4 := nt_ix (m := ts) (k := gv lk p) (by omega)
  have e1 := le_nat (mk.getD p 0) T
  have hd := RW_d B ms.length len
  unfold l1_begins bE
  generalize lnD lk ps.length = LD at *
  by_cases c1 : tk lk p = k
  · rw [decide_eq_true c1] at i2
    by_cases c2 : mk.getD p 0 ≤ T
    · have hlen := hlen c1 c2
      have i5 : ixD (Dl.O.d (.lol (RWd B ms.length len))) (.int ((gv lk p : Nat) : Int)) = some (.lst ((List.range (len (gv lk p))).map fun t => ni (B (gv lk p) t))) := by rw [hd]; exact tb_at b1
      have i6 : ixD (.lst ((List.range (len (gv lk p))).map fun t => ni (B (gv lk p) t))) (.int ((T - mk.getD p 0 : Nat) : Int)) = some (ni (B (gv lk p) (T - mk.getD p 0))) := tb_at hlen
      have e2' : (T : Int) - ((mk.getD p 0 : Nat) : Int) = ((T - mk.getD p 0 : Nat) : Int) := by omega
      have i7 := add_ni (B (gv lk p) (T - mk.getD p 0)) (ts.getD (gv lk p) 0)
      have i8 := max_nn e (B (gv lk p) (T - mk.getD p 0) + ts.getD (gv lk p) 0)
      rw [add_int] at i7
      have i7 : (B (gv lk p) (T - mk.getD p 0) : Int) + ((ts.getD (gv lk p) 0 : Nat) : Int) = ((B (gv lk p) (T - mk.getD p 0) + ts.getD (gv lk p) 0 : Nat) : Int) := rfl
      refine ⟨.val (ni (gv lk p)), ?_⟩
      have od : Dl.O.d (.lol (RWd B ms.length len)) = .lst ((RWd B ms.length len).map .lst) := rfl
      rw [od] at i5
      rw [if_pos ⟨c1, c2⟩]
      simp_arith [i1, i2, i3, e1, c2, i5, e2', i6, i4, i7, i8]
    · refine ⟨x14, ?_⟩
      rw [if_neg fun z => c2 z.2]
      simp_arith [i1, i2, i3, e1, c2]
  · refine ⟨x14, ?_⟩
    rw [if_neg fun z => c1 z.1]
    simp_arith [i1, i2, c1, i3, e1]
theorem bg_loop (hn : RN ps ms lk) (hm : mk.length = ps.length) (hl : ts.length = ms.length) {B : Nat → Nat → Nat} {len : Nat → Nat} {T k : Nat} (hlen : ∀ p, p < ps.length → tk lk p = k → mk.getD p 0 ≤ T → T - mk.getD p 0 < len (gv lk p)) {x3 x4 : S} : ∀ (l : List Nat) (e : Nat) (x12 x14 : S), (∀ p ∈ l, p < ps.length) →
    ∃ y12 y14, forF (.one 12) l1_begins (l.map ni) (bE ps ms lk ts mk x3 x4 (RWd B ms.length len) (.val (ni T)) (.val (ni k)) (.val (ni e)) x12 x14) = .next (bE ps ms lk ts mk x3 x4 (RWd B ms.length len) (.val (ni T)) (.val (ni k)) (.val (ni (l.foldl (fun e p => if tk lk p = k ∧ mk.getD p 0 ≤ T then max e (B (gv lk p) (T - mk.getD p 0) + ts.getD (gv lk p) 0) else e) e))) y12 y14)
  | [], e, x12, x14, _ => ⟨x12, x14, rfl⟩
  | p :: l, e, x12, x14, hp => by
    obtain ⟨y14, q⟩ := bg_step hn hm hl (B := B) (len := len) (T := T) (k := k) (e := e) (hp p List.mem_cons_self) (hlen p (hp p List.mem_cons_self)) (x3 := x3) (x4 := x4) (x14 := x14)
    obtain ⟨z12, z14, ih⟩ := bg_loop hn hm hl hlen (x3 := x3) (x4 := x4) l (if tk lk p = k ∧ mk.getD p 0 ≤ T then max e (B (gv lk p) (T - mk.getD p 0) + ts.getD (gv lk p) 0) else e) (.val (ni p)) y14 fun q hq => hp q (List.mem_cons_of_mem _ hq)
    refine ⟨z12, z14, ?_⟩
    have es : (bE ps ms lk ts mk x3 x4 (RWd B ms.length len) (.val (ni T)) (.val (ni k)) (.val (ni e)) x12 x14).set 12 (.val (ni p)) = bE ps ms lk ts mk x3 x4 (RWd B ms.length len) (.val (ni T)) (.val (ni k)) (.val (ni e)) (.val (ni p)) x14 := rfl
    simp only [List.map_cons, forF, put_one, es, q, List.foldl_cons]
    exact ih
/-- one move in one turn -/
theorem bg_move (hn : RN ps ms lk) (hm : mk.length = ps.length) (hl : ts.length = ms.length) {O : List Nat} (hO : Ord lk (emp mk ps.length) ms.length O) {T i k : Nat} (hT : T ≤ 1000) (hk : k < ms.length) (hi : O.idxOf k = i) {x3 x4 x11 x12 x14 : S} :
    ∃ y11 y12 y14, l2_begins (bE ps ms lk ts mk x3 x4 (RWd (bg lk ts mk ps.length O ms.length) ms.length fun j => T + lteI (O.idxOf j) i) (.val (ni T)) (.val (ni k)) x11 x12 x14) = .next (bE ps ms lk ts mk x3 x4 (RWd (bg lk ts mk ps.length O ms.length) ms.length fun j => T + lteI (O.idxOf j) (i + 1)) (.val (ni T)) (.val (ni k)) y11 y12 y14) := by
  have h6 := hn.six
  have hbd := fun p hp => hn.bd p hp
  have hkl : lenD [nt mk] = some (.int (ps.length : Int)) := by
    show some (D.int ((mk.map ni).length : Int)) = _
    rw [List.length_map, hm]
  have hrp := rng_ni ps.length (by omega)
  have hlen : ∀ p, p < ps.length → tk lk p = k → mk.getD p 0 ≤ T → T - mk.getD p 0 < (fun j => T + lteI (O.idxOf j) i) (gv lk p) := fun p hp h1 h2 => by
    show T - mk.getD p 0 < T + lteI (O.idxOf (gv lk p)) i
    by_cases z : mk.getD p 0 = 0
    · have := hO.lt p (List.mem_filter.mpr ⟨List.mem_range.mpr hp, decide_eq_true z⟩)
      rw [h1, hi] at this
      unfold lteI
      rw [if_pos this]; omega
    · omega
  obtain ⟨y12, y14, q⟩ := bg_loop hn hm hl (B := bg lk ts mk ps.length O ms.length) (len := fun j => T + lteI (O.idxOf j) i) (T := T) (k := k) hlen (x3 := x3) (x4 := x4) (List.range ps.length) 0 x12 x14 fun p hp => List.mem_range.mp hp
  rw [← bg_eq hO hbd] at q
  have hkk : (RWd (bg lk ts mk ps.length O ms.length) ms.length fun j => T + lteI (O.idxOf j) i)[k]? = some ((List.range T).map fun t => ni (bg lk ts mk ps.length O ms.length k t)) := by
    unfold RWd
    rw [List.getElem?_map, List.getElem?_range hk]
    show some ((List.range (T + lteI (O.idxOf k) i)).map _) = _
    rw [hi]
    unfold lteI
    rw [if_neg (Nat.lt_irrefl i), Nat.add_zero]
  have happ := RW_app (B := bg lk ts mk ps.length O ms.length) (c := ms.length) (len := fun j => T + lteI (O.idxOf j) i) (len' := fun j => T + lteI (O.idxOf j) (i + 1)) (k := k) (by
    show T + lteI (O.idxOf k) (i + 1) = T + lteI (O.idxOf k) i + 1
    rw [hi]; unfold lteI
    rw [if_pos (Nat.lt_succ_self i), if_neg (Nat.lt_irrefl i)]) (fun j hj hne => by
    show T + lteI (O.idxOf j) (i + 1) = T + lteI (O.idxOf j) i
    have : O.idxOf j ≠ i := fun z => hne (by
      have e1 := List.getElem_idxOf (List.idxOf_lt_length_of_mem ((hO.mem j).mpr hj))
      have e2 := List.getElem_idxOf (List.idxOf_lt_length_of_mem ((hO.mem k).mpr hk))
      rw [← e1, ← e2]
      congr 1
      omega)
    unfold lteI
    by_cases c : O.idxOf j < i
    · rw [if_pos c, if_pos (by omega)]
    · rw [if_neg c, if_neg (by omega)])
  have hTk : T + lteI (O.idxOf k) i = T := by rw [hi]; unfold lteI; rw [if_neg (Nat.lt_irrefl i), Nat.add_zero]
  have happ : (RWd (bg lk ts mk ps.length O ms.length) ms.length fun j => T + lteI (O.idxOf j) i).set k ((List.range T).map (fun t => ni (bg lk ts mk ps.length O ms.length k t)) ++ [ni (bg lk ts mk ps.length O ms.length k T)]) = RWd (bg lk ts mk ps.length O ms.length) ms.length fun j => T + lteI (O.idxOf j) (i + 1) := by
    rw [← happ]
    show _ = (RWd _ _ _).set k ((List.range (T + lteI (O.idxOf k) i)).map _ ++ [ni (bg lk ts mk ps.length O ms.length k (T + lteI (O.idxOf k) i))])
    rw [hTk]
  refine ⟨.val (ni (bg lk ts mk ps.length O ms.length k T)), y12, y14, ?_⟩
  have q : forF (.one 12) l1_begins ((List.range ps.length).map ni) [.val (netD ps ms), .val (nt mk), .val (nt ts), x3, x4, .val (lnD lk ps.length), .own (.lol (RWd (bg lk ts mk ps.length O ms.length) ms.length fun j => T + lteI (O.idxOf j) i)), .val (ni T), .val (ni k), .no, .no, .val (.int 0), x12, .no, x14] = .next [.val (netD ps ms), .val (nt mk), .val (nt ts), x3, x4, .val (lnD lk ps.length), .own (.lol (RWd (bg lk ts mk ps.length O ms.length) ms.length fun j => T + lteI (O.idxOf j) i)), .val (ni T), .val (ni k), .no, .no, .val (ni (bg lk ts mk ps.length O ms.length k T)), y12, .no, y14] := q
  unfold l2_begins bE
  generalize lnD lk ps.length = LD at *
  generalize (RWd (bg lk ts mk ps.length O ms.length) ms.length fun j => T + lteI (O.idxOf j) i) = R0 at *
  generalize (RWd (bg lk ts mk ps.length O ms.length) ms.length fun j => T + lteI (O.idxOf j) (i + 1)) = R1 at *
  simp_arith [hkl, hrp, q]
  rw [ev_lapp (dss := R0) (k := k) (ds := (List.range T).map fun t => ni (bg lk ts mk ps.length O ms.length k t)) (d := ni (bg lk ts mk ps.length O ms.length k T)) rfl rfl rfl hkk (by rw [List.length_map, List.length_range]; omega), happ]
  rfl
/-- one turn -/
theorem bg_turn (hn : RN ps ms lk) (hm : mk.length = ps.length) (hl : ts.length = ms.length) {O : List Nat} (hO : Ord lk (emp mk ps.length) ms.length O) {T : Nat} (hT : T ≤ 1000) {x3 x8 x11 x12 x14 : S} :
    ∃ y8 y11 y12 y14, l3_begins (bE ps ms lk ts mk x3 (.val (.lst (O.map ni))) (RWd (bg lk ts mk ps.length O ms.length) ms.length fun _ => T) (.val (ni T)) x8 x11 x12 x14) = .next (bE ps ms lk ts mk x3 (.val (.lst (O.map ni))) (RWd (bg lk ts mk ps.length O ms.length) ms.length fun _ => T + 1) (.val (ni T)) y8 y11 y12 y14) := by
  have hz : ∀ a, lteI a 0 = 0 := fun a => by unfold lteI; rw [if_neg (Nat.not_lt_zero _)]
  obtain ⟨δ', q, y8, y11, y12, y14, hδ⟩ := forF_run (t := .one 8) (f := l2_begins) (enc := ni) (fun pre δ => ∃ y8 y11 y12 y14, δ = bE ps ms lk ts mk x3 (.val (.lst (O.map ni))) (RWd (bg lk ts mk ps.length O ms.length) ms.length fun j => T + lteI (O.idxOf j) pre.length) (.val (ni T)) y8 y11 y12 y14) O
    (δ := bE ps ms lk ts mk x3 (.val (.lst (O.map ni))) (RWd (bg lk ts mk ps.length O ms.length) ms.length fun _ => T) (.val (ni T)) x8 x11 x12 x14) ⟨x8, x11, x12, x14, by
      simp only [List.length_nil, hz, Nat.add_zero]⟩ (fun pre k δ hpre ⟨x8, x11, x12, x14, hδ⟩ => by
      subst hδ
      have hk : k ∈ O := hpre.subset (by simp)
      have hi : O.idxOf k = pre.length := by
        obtain ⟨t, e⟩ := hpre
        have hlt : pre.length < O.length := by rw [← e]; simp
        have hat : O[pre.length] = k := by
          have : O[pre.length]? = some k := by rw [← e]; simp
          rw [List.getElem?_eq_getElem hlt] at this
          injection this
        rw [← hat]
        exact List.Nodup.idxOf_getElem hO.nd _ hlt
      obtain ⟨y11, y12, y14, q⟩ := bg_move hn hm hl hO hT ((hO.mem k).mp hk) hi (x3 := x3) (x4 := .val (.lst (O.map ni))) (x11 := x11) (x12 := x12) (x14 := x14)
      exact ⟨_, rfl, _, q, .val (ni k), y11, y12, y14, by rw [List.length_append, List.length_singleton]⟩)
  subst hδ
  have hfin : (RWd (bg lk ts mk ps.length O ms.length) ms.length fun j => T + lteI (O.idxOf j) O.length) = RWd (bg lk ts mk ps.length O ms.length) ms.length fun _ => T + 1 := by
    unfold RWd
    refine tab_cg fun j hj => ?_
    have : lteI (O.idxOf j) O.length = 1 := by
      unfold lteI
      rw [if_pos (List.idxOf_lt_length_of_mem ((hO.mem j).mpr hj))]
    show (List.range (T + lteI (O.idxOf j) O.length)).map _ = _
    rw [this]
  rw [hfin] at q
  refine ⟨y8, y11, y12, y14, ?_⟩
  have q : forF (.one 8) l2_begins (O.map ni) [.val (netD ps ms), .val (nt mk), .val (nt ts), x3, .val (.lst (O.map ni)), .val (lnD lk ps.length), .own (.lol (RWd (bg lk ts mk ps.length O ms.length) ms.length fun _ => T)), .val (ni T), x8, .no, .no, x11, x12, .no, x14] = _ := q
  unfold bE at q ⊢
  unfold l3_begins
  generalize lnD lk ps.length = LD at *
  simp_arith [q]
def bgD (lk : List (Nat × Nat)) (ts mk : List Nat) (n : Nat) (O : List Nat) (c T : Nat) : D := .tup ((List.range c).map fun j => .tup ((List.range T).map fun t => ni (bg lk ts mk n O c j t)))
theorem begins_ok (hn : RN ps ms lk) (hm : mk.length = ps.length) (hl : ts.length = ms.length) (ht : ∀ x ∈ ts, x ≤ 999) {O : List Nat} (hO : Ord lk (emp mk ps.length) ms.length O) (hpap : m_paper_turns [netD ps ms, nt mk] = .ok (.tup [.str "order", tsD (O.map nmM)])) {T : Nat} (hT : T ≤ 99) :
    m_begins [netD ps ms, nt mk, nt ts, .int (T : Int)] = .ok (bgD lk ts mk ps.length O ms.length T) := by
  have hi : initE 15 [netD ps ms, nt mk, nt ts, .int (T : Int)] = [.val (netD ps ms), .val (nt mk), .val (nt ts), .val (.int (T : Int)), .no, .no, .no, .no, .no, .no, .no, .no, .no, .no, .no] := rfl
  have h4 := hn.four
  have k1 := check_ok hn hm
  have k2 := times_ok (ps := ps) (ms := ms) hl ht
  have k3 : m_is_number [.int (T : Int), .int 0] = .ok (.bl true) := by rw [number_int, decide_eq_true (by omega)]
  have e9 : ¬ ((99 : Int) < (T : Int)) := by omega
  have hlk := hn.links
  have hf := fld_moves ps ms
  have hit : itD (msD ms) = some (ms.map mvD) := rfl
  have hol := hO.len
  have hnm : ∀ x4 x5 x6 x7 x8 x9 x11 x12 x13 x14, mapF (.one 10) tYesD y1_begins [.val (netD ps ms), .val (nt mk), .val (nt ts), .val (.int (T : Int)), x4, x5, x6, x7, x8, x9, .no, x11, x12, x13, x14] (ms.map mvD) = .ok (stl (nml ms.length)) := fun x4 x5 x6 x7 x8 x9 x11 x12 x13 x14 => by
    have e : stl (nml ms.length) = ms.map fun m => D.str m.1 := by
      rw [hn.names.2 fun m => D.str m.1]
      unfold nml stl
      rw [List.map_map]; rfl
    rw [e]
    exact mapF_enc fun m _ => ⟨_, rfl, rfl, by
      have : mvD m = .tup [.str m.1, sdD m.2.1, sdD m.2.2] := rfl
      unfold y1_begins
      simp only [List.set_cons_succ, List.set_cons_zero]
      simp_arith [this]⟩
  have hzn : (stl (nml ms.length)).length ≤ 16777216 := by unfold stl; rw [List.length_map, nml_len]; omega
  have hor : mapF (.one 9) tYesD y2_begins [.val (netD ps ms), .val (nt mk), .val (nt ts), .val (.int (T : Int)), .no, .no, .no, .no, .no, .no, .no, .no, .no, .no, .no] (stl (O.map nmM)) = .ok (O.map ni) := by
    have : stl (O.map nmM) = O.map fun k => D.str (nmM k) := by unfold stl; rw [List.map_map]; rfl
    rw [this]
    exact mapF_enc fun k hk => ⟨_, rfl, rfl, by
      have hkc := (hO.mem k).mp hk
      have hmem : nmM k ∈ nml ms.length := List.mem_map.mpr ⟨k, List.mem_range.mpr hkc, rfl⟩
      have i1 := idx_stL (nml_good h4) hmem
      have i2 : (nml ms.length).idxOf (nmM k) = k := by
        unfold nml
        rw [idx_map (nmM4 h4) hkc fun x hx => List.mem_range.mp hx]
        have hlt : k < (List.range ms.length).length := by rw [List.length_range]; exact hkc
        have := List.Nodup.idxOf_getElem (List.nodup_range (n := ms.length)) k hlt
        rw [List.getElem_range] at this
        exact this
      rw [i2] at i1
      unfold y2_begins
      simp only [List.set_cons_succ, List.set_cons_zero]
      generalize stl (nml ms.length) = ND at *
      simp_arith [hf, hit, hnm, hzn, i1]⟩
  have hzo : (O.map ni).length ≤ 16777216 := by rw [List.length_map]; omega
  have hzm : (ms.map mvD).length ≤ 16777216 := by rw [List.length_map]; omega
  have hlol : sLol 6 (iSeq (e1 (fldD "Net" "moves") (eV 0))) [.val (netD ps ms), .val (nt mk), .val (nt ts), .val (.int (T : Int)), .val (.lst (O.map ni)), .val (lnD lk ps.length), .no, .no, .no, .no, .no, .no, .no, .no, .no] = .next (bE ps ms lk ts mk (.val (.int (T : Int))) (.val (.lst (O.map ni))) (RWd (bg lk ts mk ps.length O ms.length) ms.length fun _ => 0) .no .no .no .no .no) := by
    have e : RWd (bg lk ts mk ps.length O ms.length) ms.length (fun _ => 0) = (ms.map mvD).map fun _ => [] := by
      unfold RWd
      exact List.ext_getElem (by simp) fun i h1 h2 => by simp
    rw [e]
    unfold sLol
    simp_arith [hf, hit]
    exact if_pos (show (ms.map mvD).length ≤ sizeLine from hzm)
  have hrt := rng_ni T (by omega)
  obtain ⟨δ', q, y7, y8, y11, y12, y14, hδ⟩ := forF_run (t := .one 7) (f := l3_begins) (enc := ni) (fun pre δ => ∃ y7 y8 y11 y12 y14, δ = bE ps ms lk ts mk (.val (.int (T : Int))) (.val (.lst (O.map ni))) (RWd (bg lk ts mk ps.length O ms.length) ms.length fun _ => pre.length) y7 y8 y11 y12 y14) (List.range T)
    (δ := bE ps ms lk ts mk (.val (.int (T : Int))) (.val (.lst (O.map ni))) (RWd (bg lk ts mk ps.length O ms.length) ms.length fun _ => 0) .no .no .no .no .no) ⟨_, _, _, _, _, rfl⟩ (fun pre t δ hpre ⟨x7, x8, x11, x12, x14, hδ⟩ => by
      obtain ⟨hb1, hb2⟩ := range_pre hpre
      subst hδ
      subst hb1
      obtain ⟨y8, y11, y12, y14, q⟩ := bg_turn hn hm hl hO (T := pre.length) (by omega) (x3 := .val (.int (T : Int))) (x8 := x8) (x11 := x11) (x12 := x12) (x14 := x14)
      exact ⟨_, rfl, _, q, _, y8, y11, y12, y14, by rw [List.length_append, List.length_singleton]⟩)
  subst hδ
  rw [List.length_range] at q
  have hd : (RWd (bg lk ts mk ps.length O ms.length) ms.length fun _ => T).map D.lst = (List.range ms.length).map fun j => D.lst ((List.range T).map fun t => ni (bg lk ts mk ps.length O ms.length j t)) := by
    unfold RWd
    rw [List.map_map]; rfl
  have hfin : ∀ x7 x8 x11 x12 x14, mapF (.one 13) tYesD y3_begins [.val (netD ps ms), .val (nt mk), .val (nt ts), .val (.int (T : Int)), .val (.lst (O.map ni)), .val (lnD lk ps.length), .val (.lst ((RWd (bg lk ts mk ps.length O ms.length) ms.length fun _ => T).map D.lst)), x7, x8, .no, .no, x11, x12, .no, x14] ((RWd (bg lk ts mk ps.length O ms.length) ms.length fun _ => T).map D.lst) = .ok ((List.range ms.length).map fun j => .tup ((List.range T).map fun t => ni (bg lk ts mk ps.length O ms.length j t))) := fun x7 x8 x11 x12 x14 => by
    rw [hd]
    exact mapF_enc fun j _ => ⟨_, rfl, rfl, by
      unfold y3_begins
      simp only [List.set_cons_succ, List.set_cons_zero]
      simp_arith []⟩
  have hzf : ((List.range ms.length).map fun j => D.tup ((List.range T).map fun t => ni (bg lk ts mk ps.length O ms.length j t))).length ≤ 16777216 := by rw [List.length_map, List.length_range]; omega
  unfold bE at q hlol
  unfold m_begins runF b_begins
  rw [hi]
  unfold bgD
  generalize ((List.range ms.length).map fun j => D.tup ((List.range T).map fun t => ni (bg lk ts mk ps.length O ms.length j t))) = RES at *
  generalize (RWd (bg lk ts mk ps.length O ms.length) ms.length fun _ => T) = R1 at *
  generalize (RWd (bg lk ts mk ps.length O ms.length) ms.length fun _ => 0) = R0 at *
  generalize lnD lk ps.length = LD at *
  simp_arith [k1, k2, k3, e9, hpap, hor, hzo, hlk, hlol, hrt, q, hfin, hzf]
end
end K53

set_option Elab.async false
set_option linter.all false
set_option maxRecDepth 100000
set_option maxHeartbeats 2000000
/-! k53: when turns begin, by the law. -/
namespace K53
open PySem Dl Sh
local macro_rules | `(tactic| simp_arith [$ts,*]) => `(tactic| simp only [ev_bind_ok, ev_bind_exc, ev_bindF_ok, ev_bindF_exc, ev_sNext, ev_sSeq, ev_sIf, ev_sRet, ev_sSet, ev_sOwn, ev_sDrop, ev_sRaise, ev_sFrz, ev_sUnp, ev_sFor, ev_eC, Dl.ev_e1, Dl.ev_e2, ev_eB, ev_eCall, ev_aNil, ev_aCons, ev_eIf, blR_bl, ev_tB1, ev_tAnd, ev_tOr, andK_bl, orK_bl, notK_bl, ev_eAnd, ev_eOr, ev_eNot, ev_tNot, ev_tYes, ev_oNone, ev_oSome, ev_eSl, ev_iSeq, ev_iRng, ev_eN, ev_ofO_some, ev_eV0, ev_eVs, lt_int, le_int, gt_int, ge_int, add_int, sub_int, iadd_int, len_tup, len_lst, eq_int, ne_int, itD_tup, itD_lst, put_one, fz_nil, fz_val, fz_no, fz_own, fz_succ, od_lst, od_lol, od_dk, od_dt, odict_lst, odict_dk, odict_dt, wp_nil, wp_cons, sa_nil, sa_cons, put_all, ev_eTup', ev_eLst', ev_nLst, ev_nLc, ev_eGen', ev_tBor, ev_eBor, ev_sPar, ev_eM, ev_eM0, ev_eCallM, ev_aSnoc, ok_tup, ok_lst, ok_str, ev_tIf, notB_eq, isB_eq, isN_eq, notN_eq, neg_int, tupD_lst, tupD_tup, listD_lst, listD_tup, pure_int, pure_bl, pure_str, pure_non, pureL_int, ev_eIsi, addD_lst, addD_tup, ix_t0, ix_t1, ix_t2, ix_l0, ix_l1, ix_l2, isi_tt, isi_ss, isT_tup, isS_str, List.set_cons_succ, List.set_cons_zero, List.length_cons, List.length_nil, Nat.reduceAdd, Nat.reduceLeDiff, Nat.zero_add, Nat.zero_le, if_true, if_false, Bool.false_eq_true, decide_true, decide_false, Bool.not_true, Bool.not_false, Bool.true_or, Bool.false_or, Bool.or_true, Bool.or_false, Bool.true_and, Bool.false_and, Bool.and_true, Bool.and_false, Int.cast_ofNat_Int, Int.reduceEq, Int.reduceLT, Int.reduceLE, Int.reduceNeg, reduceCtorEq, List.cons_append, List.nil_append, eq_of, ne_of, String.reduceEq, $ts,*])
theorem max_fold : ∀ (l : List Nat) (a e : Nat), max e (l.foldl max a) = l.foldl max (max e a)
  | [], _, _ => rfl
  | b :: l, a, e => by
    rw [List.foldl_cons, List.foldl_cons, max_fold l (max a b) e]
    congr 1
    omega
theorem maxL_nat : ∀ (l : List Nat) (e : Nat), maxL ((e :: l).map fun (k : Nat) => (k : Int)) = some ((l.foldl max e : Nat) : Int)
  | [], e => rfl
  | a :: l, e => by
    have ih := maxL_nat l a
    rw [List.map_cons, maxL, ih, List.foldl_cons, ← max_fold]
    show some (if (e : Int) < ((l.foldl max a : Nat) : Int) then ((l.foldl max a : Nat) : Int) else (e : Int)) = _
    congr 1
    split <;> omega
theorem max_ni (l : List Nat) : maxAD [.lst (.int 0 :: l.map ni)] = some (.int ((l.foldl max 0 : Nat) : Int)) := by
  have h1 := as_ints (0 :: l)
  have h2 := maxL_nat l 0
  show ((asInts (.int 0 :: l.map ni)).bind fun ns => Option.map D.int (maxL ns)) = _
  have h1 : asInts (.int 0 :: l.map ni) = some ((0 :: l).map fun (j : Nat) => (j : Int)) := h1
  rw [h1, Option.bind_some, h2]; rfl
theorem fold_reach {α β : Type} {le : α → α → Prop} (rf : ∀ s, le s s) (tr : ∀ a b c, le a b → le b c → le a c) {step : α → β → α} (mono : ∀ s x, le s (step s x)) {Q : α → Prop} (up : ∀ s s', le s s' → Q s → Q s') : ∀ (l : List β) (s : α), le s (l.foldl step s) ∧ ∀ x ∈ l, (∀ s', le s s' → Q (step s' x)) → Q (l.foldl step s)
  | [], s => ⟨rf s, fun x hx => absurd hx List.not_mem_nil⟩
  | a :: l, s => by
    obtain ⟨h1, h2⟩ := fold_reach rf tr mono up l (step s a)
    rw [List.foldl_cons]
    refine ⟨tr _ _ _ (mono s a) h1, fun x hx hq => ?_⟩
    rcases List.mem_cons.mp hx with rfl | hx
    · exact up _ _ h1 (hq s (rf s))
    · exact h2 x hx fun s' hs' => hq s' (tr _ _ _ (mono s a) hs')
section
variable (lk : List (Nat × Nat)) (ts mk : List Nat) (n c T : Nat)
def wts (j t : Nat) : List (Nat × Nat) := ((List.range n).filter fun p => decide (tk lk p = j) && decide (mk.getD p 0 ≤ t)).map fun p => (gv lk p, t - mk.getD p 0)
def nx (g : Nat → Nat → Bool) (j t : Nat) : Nat → Nat → Bool := if (!g j t && (wts lk mk n j t).all fun w => g w.1 w.2) = true then fun a b => g a b || (decide (a = j) && decide (b = t)) else g
def pj (g : Nat → Nat → Bool) (j : Nat) : Nat → Nat → Bool := (List.range T).foldl (fun g t => nx lk mk n g j t) g
def pp (g : Nat → Nat → Bool) : Nat → Nat → Bool := (List.range c).foldl (pj lk mk n T) g
def pN : Nat → (Nat → Nat → Bool) → Nat → Nat → Bool
  | 0, g => g
  | k + 1, g => pN k (pp lk mk n c T g)
end
def gle (g g' : Nat → Nat → Bool) : Prop := ∀ a b, g a b = true → g' a b = true
section
variable {lk : List (Nat × Nat)} {ts mk : List Nat} {n c T : Nat} {O : List Nat}
theorem nx_le (g : Nat → Nat → Bool) (j t : Nat) : gle g (nx lk mk n g j t) := fun a b h => by
  unfold nx
  split
  · show (g a b || _) = true
    rw [h]; rfl
  · exact h
theorem nx_hit {g : Nat → Nat → Bool} {j t : Nat} (h : ∀ w ∈ wts lk mk n j t, g w.1 w.2 = true) : nx lk mk n g j t j t = true := by
  unfold nx
  split
  · simp
  · rename_i z
    cases hg : g j t with
    | true => rfl
    | false =>
      exfalso
      apply z
      rw [hg]
      exact List.all_eq_true.mpr h
theorem gle_rf (g : Nat → Nat → Bool) : gle g g := fun _ _ h => h
theorem gle_tr (a b c : Nat → Nat → Bool) (h1 : gle a b) (h2 : gle b c) : gle a c := fun x y h => h2 x y (h1 x y h)
theorem pj_le (g : Nat → Nat → Bool) (j : Nat) : gle g (pj lk mk n T g j) := (fold_reach gle_rf gle_tr (fun s t => nx_le s j t) (Q := fun _ => True) (fun _ _ _ _ => trivial) (List.range T) g).1
theorem pp_hit {g : Nat → Nat → Bool} {j t : Nat} (hj : j < c) (ht : t < T) (h : ∀ w ∈ wts lk mk n j t, g w.1 w.2 = true) : pp lk mk n c T g j t = true := by
  refine (fold_reach gle_rf gle_tr (fun s j => pj_le s j) (Q := fun g => g j t = true) (fun _ _ hl hq => hl j t hq) (List.range c) g).2 j (List.mem_range.mpr hj) fun s' hs' => ?_
  refine (fold_reach gle_rf gle_tr (fun s t => nx_le s j t) (Q := fun g => g j t = true) (fun _ _ hl hq => hl j t hq) (List.range T) s').2 t (List.mem_range.mpr ht) fun s'' hs'' => ?_
  exact nx_hit fun w hw => hs'' _ _ (hs' _ _ (h w hw))
/-- behind k passes all of the first k are known -/
theorem pN_hit (hO : Ord lk (emp mk n) c O) (hb : ∀ p, p < n → gv lk p < c ∧ tk lk p < c) : ∀ (k k0 : Nat) (g : Nat → Nat → Bool), (∀ a b, a < c → b < T → mu O c a b < k0 → g a b = true) → ∀ a b, a < c → b < T → mu O c a b < k0 + k → pN lk mk n c T k g a b = true
  | 0, k0, g, h => h
  | k + 1, k0, g, h => by
    rw [pN, show k0 + (k + 1) = (k0 + 1) + k by omega]
    refine pN_hit hO hb k (k0 + 1) (pp lk mk n c T g) fun a b ha hbT hm => pp_hit ha hbT fun w hw => ?_
    obtain ⟨p, hp, rfl⟩ := List.mem_map.mp hw
    obtain ⟨h1, h2⟩ := List.mem_filter.mp hp
    rw [Bool.and_eq_true, decide_eq_true_eq, decide_eq_true_eq] at h2
    have hp := List.mem_range.mp h1
    have := mu_lt hO hb hp h2.2
    rw [h2.1] at this
    exact h _ _ (hb p hp).1 (show b - mk.getD p 0 < T by omega) (show mu O c (gv lk p) (b - mk.getD p 0) < k0 by omega)
/-- the value is the greatest of what is waited for -/
theorem bg_wts (hO : Ord lk (emp mk n) c O) (hb : ∀ p, p < n → gv lk p < c ∧ tk lk p < c) (j t : Nat) : bg lk ts mk n O c j t = ((wts lk mk n j t).map fun w => bg lk ts mk n O c w.1 w.2 + ts.getD w.1 0).foldl max 0 := by
  rw [bg_eq hO hb]
  unfold wts
  rw [List.map_map, List.foldl_map]
  have : ∀ (l : List Nat) (e : Nat), l.foldl (fun e p => if tk lk p = j ∧ mk.getD p 0 ≤ t then max e (bg lk ts mk n O c (gv lk p) (t - mk.getD p 0) + ts.getD (gv lk p) 0) else e) e = (l.filter fun p => decide (tk lk p = j) && decide (mk.getD p 0 ≤ t)).foldl (fun e p => max e (bg lk ts mk n O c (gv lk p) (t - mk.getD p 0) + ts.getD (gv lk p) 0)) e := by
    intro l
    induction l with
    | nil => intro e; rfl
    | cons a l ih =>
      intro e
      rw [List.foldl_cons, List.filter_cons]
      by_cases q : tk lk a = j ∧ mk.getD a 0 ≤ t
      · rw [if_pos q, if_pos (by rw [Bool.and_eq_true, decide_eq_true_eq, decide_eq_true_eq]; exact q), List.foldl_cons]
        exact ih _
      · rw [if_neg q, if_neg (by rw [Bool.and_eq_true, decide_eq_true_eq, decide_eq_true_eq]; exact q)]
        exact ih _
  exact this _ _
/-! ### the law's rows -/
def cel (B : Nat → Nat → Nat) (g : Nat → Nat → Bool) (j t : Nat) : D := if g j t = true then ni (B j t) else .non
def SD (B : Nat → Nat → Nat) (c T : Nat) (g : Nat → Nat → Bool) : List (List D) := (List.range c).map fun j => (List.range T).map (cel B g j)
theorem SD_set {B : Nat → Nat → Nat} {g : Nat → Nat → Bool} {j t : Nat} : (SD B c T g).set j (((List.range T).map (cel B g j)).set t (ni (B j t))) = SD B c T fun a b => g a b || (decide (a = j) && decide (b = t)) := by
  unfold SD
  rw [tab_set]
  refine tab_cg fun a ha => ?_
  by_cases e : a = j
  · subst e
    rw [if_pos rfl, tab_set]
    refine tab_cg fun b hb => ?_
    unfold cel
    by_cases e2 : b = t
    · subst e2; simp
    · simp [e2]
  · rw [if_neg e]
    refine tab_cg fun b hb => ?_
    unfold cel
    simp [e]
theorem ev_lput {δ : Dl.Env} {i j t : Nat} {gj gk f : Ev} {dss : List (List D)} {ds : List D} {d : D} (h0 : δ[i]? = some (.own (.lol dss))) (hf : f δ = .ok d) (hj : gj δ = .ok (.int ((j : Nat) : Int))) (hk : gk δ = .ok (.int ((t : Nat) : Int))) (hd : dss[j]? = some ds) (ht : t < ds.length) : sLPut i gj gk f δ = .next (δ.set i (.own (.lol (dss.set j (ds.set t d))))) := by
  have hlt : j < dss.length := (List.getElem?_eq_some_iff.mp hd).1
  unfold sLPut
  rw [h0]
  simp only [hf, ev_bindF_ok, hj, ixN_nat hlt, hk, hd, ixN_nat ht]
theorem lolF_const {n : Dl.Env → R (List D)} {δ : Dl.Env} {j : Nat} {ys : List D} : ∀ {ds : List D}, (∀ d ∈ ds, n (δ.set j (.val d)) = .ok ys) → lolF (.one j) n δ ds = .ok (ds.map fun _ => ys)
  | [], _ => rfl
  | d :: ds, h => by
    have h0 := h d List.mem_cons_self
    have ih := lolF_const (ds := ds) fun e he => h e (List.mem_cons_of_mem _ he)
    unfold lolF
    have hput : (Tg.one j).put d δ = some (δ.set j (.val d)) := rfl
    rw [hput]
    simp only [h0, ih, ev_bind_ok, List.map_cons]
end
section
variable {ps : List Str} {ms : List Mv} {lk : List (Nat × Nat)} {mk ts : List Nat} {O : List Nat} {T : Nat}
abbrev lE (lk : List (Nat × Nat)) (ts mk : List Nat) (T : Nat) (dss : List (List D)) (x5 x6 x8 x9 : S) : Dl.Env := [.val (.lst (lk.map lkD)), .val (nt mk), .val (nt ts), .val (.int (T : Int)), .own (.lol dss), x5, x6, .no, x8, x9, .no, .no, .no, .no]
abbrev wD (w : Nat × Nat) : D := .tup [ni w.1, ni w.2]
theorem lb_step (hn : RN ps ms lk) (hm : mk.length = ps.length) (hl : ts.length = ms.length) (hO : Ord lk (emp mk ps.length) ms.length O) {g : Nat → Nat → Bool} {j t : Nat} (hj : j < ms.length) (ht : t < T) {x5 x9 : S} :
    l1__law_begins (lE lk ts mk T (SD (bg lk ts mk ps.length O ms.length) ms.length T g) x5 (.val (ni j)) (.val (ni t)) x9) = .next (lE lk ts mk T (SD (bg lk ts mk ps.length O ms.length) ms.length T (nx lk mk ps.length g j t)) x5 (.val (ni j)) (.val (ni t)) (.val (.lst ((wts lk mk ps.length j t).map wD)))) := by
  have h6 := hn.six
  have hbd := fun p hp => hn.bd p hp
  have hlx := fun {k : Nat} (hk : k < ps.length) => lk_ix (lk := lk) hn.len hk
  have hll : ((lk.map lkD).length : Int) = (ps.length : Int) := by rw [List.length_map, hn.len]
  have hrp := rng_ni ps.length (by omega)
  have hwin : ∀ w ∈ wts lk mk ps.length j t, w.1 < ms.length ∧ w.2 < T := fun w hw => by
    obtain ⟨p, hp, rfl⟩ := List.mem_map.mp hw
    exact ⟨(hbd p (List.mem_range.mp (List.mem_filter.mp hp).1)).1, by show t - mk.getD p 0 < T; omega⟩
  have hwl : (wts lk mk ps.length j t).length ≤ 6 := by
    unfold wts
    rw [List.length_map]
    exact Nat.le_trans (List.length_filter_le _ _) (by rw [List.length_range]; omega)
  have hB := bg_wts (ts := ts) hO hbd j t
  generalize bg lk ts mk ps.length O ms.length = B at *
  have q1 : mapF (.one 11) c1__law_begins y2__law_begins [.val (.lst (lk.map lkD)), .val (nt mk), .val (nt ts), .val (.int (T : Int)), .own (.lol (SD B ms.length T g)), x5, .val (ni j), .no, .val (ni t), x9, .no, .no, .no, .no] ((List.range ps.length).map ni) = .ok ((wts lk mk ps.length j t).map wD) := by
    have : (wts lk mk ps.length j t).map wD = ((List.range ps.length).filter fun p => decide (tk lk p = j) && decide (mk.getD p 0 ≤ t)).map fun p => wD (gv lk p, t - mk.getD p 0) := by unfold wts; rw [List.map_map]; rfl
    rw [this]
    exact mapF_filter fun p hp => ⟨_, rfl, by
      have hp := List.mem_range.mp hp
      have i1 := hlx hp
      have i3 := nt_ix (m := mk) (k := p) (by omega)
      have e1 := le_nat (mk.getD p 0) t
      have e2' : decide (((tk lk p : Nat) : Int) = ((j : Nat) : Int)) = decide (tk lk p = j) := by rw [Bool.eq_iff_iff, decide_eq_true_eq, decide_eq_true_eq]; omega
      unfold c1__law_begins
      simp only [List.set_cons_succ, List.set_cons_zero]
      generalize lk.map lkD = LD at *
      simp_arith [i1, e2', i3, e1]
      by_cases c : tk lk p = j <;> simp_arith [c], fun hc => by
      have hp := List.mem_range.mp hp
      rw [Bool.and_eq_true, decide_eq_true_eq, decide_eq_true_eq] at hc
      have i1 := hlx hp
      have i3 := nt_ix (m := mk) (k := p) (by omega)
      have e2' : ((t : Nat) : Int) - ((mk.getD p 0 : Nat) : Int) = ((t - mk.getD p 0 : Nat) : Int) := by omega
      unfold y2__law_begins
      simp only [List.set_cons_succ, List.set_cons_zero]
      generalize lk.map lkD = LD at *
      simp_arith [i1, i3, e2']⟩
  have hz1 : ((wts lk mk ps.length j t).map wD).length ≤ 16777216 := by rw [List.length_map]; omega
  -- the rows, lent
  have hrow : ∀ a, a < ms.length → ixD (.lst ((SD B ms.length T g).map D.lst)) (.int ((a : Nat) : Int)) = some (.lst ((List.range T).map (cel B g a))) := fun a ha => by
    unfold SD
    rw [List.map_map]
    exact tb_at (f := fun j => .lst ((List.range T).map (cel B g j))) ha
  have hcel : ∀ a b, b < T → ixD (.lst ((List.range T).map (cel B g a))) (.int ((b : Nat) : Int)) = some (cel B g a b) := fun a b hb => tb_at hb
  have hnon : ∀ a b, decide (cel B g a b = D.non) = !g a b := fun a b => by
    unfold cel
    cases g a b with
    | true => exact decide_eq_false (fun z => by cases z)
    | false => rfl
  have q2 : mapF (.all [12, 13]) c2__law_begins y3__law_begins [.val (.lst (lk.map lkD)), .val (nt mk), .val (nt ts), .val (.int (T : Int)), .val (.lst ((SD B ms.length T g).map D.lst)), x5, .val (ni j), .no, .val (ni t), .val (.lst ((wts lk mk ps.length j t).map wD)), .no, .no, .no, .no] ((wts lk mk ps.length j t).map wD) = .ok (((wts lk mk ps.length j t).filter fun w => !g w.1 w.2).map fun _ => .int 1) := mapF_filter fun w hw => ⟨[.val (.lst (lk.map lkD)), .val (nt mk), .val (nt ts), .val (.int (T : Int)), .val (.lst ((SD B ms.length T g).map D.lst)), x5, .val (ni j), .no, .val (ni t), .val (.lst ((wts lk mk ps.length j t).map wD)), .no, .no, .val (ni w.1), .val (ni w.2)], rfl, by
    obtain ⟨h1, h2⟩ := hwin w hw
    have i1 := hrow w.1 h1
    have i2 := hcel w.1 w.2 h2
    have i3 := hnon w.1 w.2
    unfold c2__law_begins
    generalize (SD B ms.length T g).map D.lst = SDD at *
    simp_arith [i1, i2, i3], fun _ => rfl⟩
  have hz2 : (((wts lk mk ps.length j t).filter fun w => !g w.1 w.2).map fun _ => D.int 1).length ≤ 16777216 := by
    rw [List.length_map]
    exact Nat.le_trans (List.length_filter_le _ _) (by omega)
  have he2 : decide (((((wts lk mk ps.length j t).filter fun w => !g w.1 w.2).map fun _ => D.int 1).length : Int) = 0) = (wts lk mk ps.length j t).all fun w => g w.1 w.2 := by
    have e1 : decide (((((wts lk mk ps.length j t).filter fun w => !g w.1 w.2).map fun _ => D.int 1).length : Int) = 0) = decide (((wts lk mk ps.length j t).filter fun w => !g w.1 w.2).length = 0) := by rw [List.length_map, Bool.eq_iff_iff, decide_eq_true_eq, decide_eq_true_eq]; omega
    rw [e1, len_zero]
    simp only [Bool.not_not]
  have i0 := hrow j hj
  have i00 := hcel j t ht
  have i000 := hnon j t
  have hsd : (SD B ms.length T g)[j]? = some ((List.range T).map (cel B g j)) := by
    unfold SD
    rw [List.getElem?_map, List.getElem?_range hj]; rfl
  have hset := SD_set (c := ms.length) (T := T) (B := B) (g := g) (j := j) (t := t)
  unfold nx
  cases hg : g j t with
  | true =>
    rw [hg] at i000
    rw [Bool.not_true, Bool.false_and, if_neg Bool.false_ne_true]
    unfold l1__law_begins lE
    generalize (SD B ms.length T g) = SG at *
    generalize (wts lk mk ps.length j t).map wD = WD at *
    simp_arith [hll, hrp, q1, hz1, i0, i00, i000]
  | false =>
    rw [hg] at i000
    rw [Bool.not_false, Bool.true_and]
    cases ha : (wts lk mk ps.length j t).all fun w => g w.1 w.2 with
    | false =>
      rw [ha] at he2
      rw [if_neg Bool.false_ne_true]
      unfold l1__law_begins lE
      generalize (SD B ms.length T g) = SG at *
      generalize (wts lk mk ps.length j t).map wD = WD at *
      simp_arith [hll, hrp, q1, hz1, i0, i00, i000, q2, hz2, he2]
    | true =>
      rw [ha] at he2
      rw [if_pos rfl]
      have hk := List.all_eq_true.mp ha
      have q3 : mapF (.all [12, 13]) tYesD y4__law_begins [.val (.lst (lk.map lkD)), .val (nt mk), .val (nt ts), .val (.int (T : Int)), .val (.lst ((SD B ms.length T g).map D.lst)), x5, .val (ni j), .no, .val (ni t), .val (.lst ((wts lk mk ps.length j t).map wD)), .no, .no, .no, .no] ((wts lk mk ps.length j t).map wD) = .ok (((wts lk mk ps.length j t).map fun w => B w.1 w.2 + ts.getD w.1 0).map ni) := by
        rw [mapF_enc (g := fun w => ni (B w.1 w.2 + ts.getD w.1 0)) fun w hw => ⟨[.val (.lst (lk.map lkD)), .val (nt mk), .val (nt ts), .val (.int (T : Int)), .val (.lst ((SD B ms.length T g).map D.lst)), x5, .val (ni j), .no, .val (ni t), .val (.lst ((wts lk mk ps.length j t).map wD)), .no, .no, .val (ni w.1), .val (ni w.2)], rfl, rfl, by
          obtain ⟨h1, h2⟩ := hwin w hw
          have i1 := hrow w.1 h1
          have i2 := hcel w.1 w.2 h2
          have i3 : cel B g w.1 w.2 = ni (B w.1 w.2) := by unfold cel; rw [hk w hw]; rfl
          rw [i3] at i2
          have i4 := nt_ix (m := ts) (k := w.1) (by omega)
          have i5 := add_ni (B w.1 w.2) (ts.getD w.1 0)
          unfold y4__law_begins
          generalize (SD B ms.length T g).map D.lst = SDD at *
          simp_arith [i1, i2, i4]
          rfl⟩, List.map_map]
        rfl
      have hz3 : (((wts lk mk ps.length j t).map fun w => B w.1 w.2 + ts.getD w.1 0).map ni).length ≤ 16777216 := by rw [List.length_map, List.length_map]; omega
      have hz4 : 1 + (((wts lk mk ps.length j t).map fun w => B w.1 w.2 + ts.getD w.1 0).map ni).length ≤ 16777216 := by rw [List.length_map, List.length_map]; omega
      have hmx := max_ni ((wts lk mk ps.length j t).map fun w => B w.1 w.2 + ts.getD w.1 0)
      rw [← hB] at hmx
      have hv : eBor 4 (eB maxAD (aCons (e2 addD (eLst (aCons (eC (.int 0)) aNil)) (eN (nLc [12, 13] (.all [12, 13]) (iSeq (eV 9)) tYesD y4__law_begins))) aNil)) [.val (.lst (lk.map lkD)), .val (nt mk), .val (nt ts), .val (.int (T : Int)), .own (.lol (SD B ms.length T g)), x5, .val (ni j), .no, .val (ni t), .val (.lst ((wts lk mk ps.length j t).map wD)), .no, .no, .no, .no] = .ok (ni (B j t)) := by
        generalize ((wts lk mk ps.length j t).map fun w => B w.1 w.2 + ts.getD w.1 0).map ni = VD at *
        generalize (wts lk mk ps.length j t).map wD = WD at *
        generalize (SD B ms.length T g) = SG at *
        simp_arith [q3, hz3, hz4, hmx]
      have hp := ev_lput (δ := [.val (.lst (lk.map lkD)), .val (nt mk), .val (nt ts), .val (.int (T : Int)), .own (.lol (SD B ms.length T g)), x5, .val (ni j), .no, .val (ni t), .val (.lst ((wts lk mk ps.length j t).map wD)), .no, .no, .no, .no]) (i := 4) (j := j) (t := t) (gj := eV 6) (gk := eV 8) rfl hv rfl rfl hsd (by rw [List.length_map, List.length_range]; exact ht)
      rw [hset] at hp
      unfold l1__law_begins lE
      generalize (SD B ms.length T g) = SG at *
      generalize (wts lk mk ps.length j t).map wD = WD at *
      simp_arith [hll, hrp, q1, hz1, i0, i00, i000, q2, hz2, he2, hp]
theorem lb_turns (hn : RN ps ms lk) (hm : mk.length = ps.length) (hl : ts.length = ms.length) (hO : Ord lk (emp mk ps.length) ms.length O) {j : Nat} (hj : j < ms.length) {x5 : S} : ∀ (l : List Nat) (g : Nat → Nat → Bool) (x8 x9 : S), (∀ t ∈ l, t < T) →
    ∃ y8 y9, forF (.one 8) l1__law_begins (l.map ni) (lE lk ts mk T (SD (bg lk ts mk ps.length O ms.length) ms.length T g) x5 (.val (ni j)) x8 x9) = .next (lE lk ts mk T (SD (bg lk ts mk ps.length O ms.length) ms.length T (l.foldl (fun g t => nx lk mk ps.length g j t) g)) x5 (.val (ni j)) y8 y9)
  | [], g, x8, x9, _ => ⟨x8, x9, rfl⟩
  | t :: l, g, x8, x9, h => by
    have q := lb_step (ts := ts) hn hm hl hO (g := g) hj (h t List.mem_cons_self) (x5 := x5) (x9 := x9)
    obtain ⟨y8, y9, ih⟩ := lb_turns hn hm hl hO hj (x5 := x5) l (nx lk mk ps.length g j t) (.val (ni t)) (.val (.lst ((wts lk mk ps.length j t).map wD))) fun t' ht' => h t' (List.mem_cons_of_mem _ ht')
    refine ⟨y8, y9, ?_⟩
    have es : (lE lk ts mk T (SD (bg lk ts mk ps.length O ms.length) ms.length T g) x5 (.val (ni j)) x8 x9).set 8 (.val (ni t)) = lE lk ts mk T (SD (bg lk ts mk ps.length O ms.length) ms.length T g) x5 (.val (ni j)) (.val (ni t)) x9 := rfl
    simp only [List.map_cons, forF, put_one, es, q, List.foldl_cons]
    exact ih
theorem lb_moves (hn : RN ps ms lk) (hm : mk.length = ps.length) (hl : ts.length = ms.length) (hO : Ord lk (emp mk ps.length) ms.length O) (hT : T ≤ 100) {x5 : S} : ∀ (l : List Nat) (g : Nat → Nat → Bool) (x6 x8 x9 : S), (∀ j ∈ l, j < ms.length) →
    ∃ y6 y8 y9, forF (.one 6) l2__law_begins (l.map ni) (lE lk ts mk T (SD (bg lk ts mk ps.length O ms.length) ms.length T g) x5 x6 x8 x9) = .next (lE lk ts mk T (SD (bg lk ts mk ps.length O ms.length) ms.length T (l.foldl (pj lk mk ps.length T) g)) x5 y6 y8 y9)
  | [], g, x6, x8, x9, _ => ⟨x6, x8, x9, rfl⟩
  | j :: l, g, x6, x8, x9, h => by
    obtain ⟨z8, z9, q⟩ := lb_turns hn hm hl hO (T := T) (h j List.mem_cons_self) (x5 := x5) (List.range T) g x8 x9 fun t ht => List.mem_range.mp ht
    obtain ⟨y6, y8, y9, ih⟩ := lb_moves hn hm hl hO hT (x5 := x5) l (pj lk mk ps.length T g j) (.val (ni j)) z8 z9 fun j' hj' => h j' (List.mem_cons_of_mem _ hj')
    have hr := rng_ni T (by omega)
    have hb : l2__law_begins (lE lk ts mk T (SD (bg lk ts mk ps.length O ms.length) ms.length T g) x5 (.val (ni j)) x8 x9) = .next (lE lk ts mk T (SD (bg lk ts mk ps.length O ms.length) ms.length T (pj lk mk ps.length T g j)) x5 (.val (ni j)) z8 z9) := by
      unfold lE at q ⊢
      unfold l2__law_begins
      simp_arith [hr, q]
      rfl
    refine ⟨y6, y8, y9, ?_⟩
    have es : (lE lk ts mk T (SD (bg lk ts mk ps.length O ms.length) ms.length T g) x5 x6 x8 x9).set 6 (.val (ni j)) = lE lk ts mk T (SD (bg lk ts mk ps.length O ms.length) ms.length T g) x5 (.val (ni j)) x8 x9 := rfl
    simp only [List.map_cons, forF, put_one, es, hb, List.foldl_cons]
    exact ih
theorem lb_again (hn : RN ps ms lk) (hm : mk.length = ps.length) (hl : ts.length = ms.length) (hO : Ord lk (emp mk ps.length) ms.length O) (hT : T ≤ 100) : ∀ (l : List Nat) (g : Nat → Nat → Bool) (x5 x6 x8 x9 : S),
    ∃ y5 y6 y8 y9, forF (.one 5) l3__law_begins (l.map ni) (lE lk ts mk T (SD (bg lk ts mk ps.length O ms.length) ms.length T g) x5 x6 x8 x9) = .next (lE lk ts mk T (SD (bg lk ts mk ps.length O ms.length) ms.length T (pN lk mk ps.length ms.length T l.length g)) y5 y6 y8 y9)
  | [], g, x5, x6, x8, x9 => ⟨x5, x6, x8, x9, rfl⟩
  | a :: l, g, x5, x6, x8, x9 => by
    have h4 := hn.four
    obtain ⟨z6, z8, z9, q⟩ := lb_moves (ts := ts) hn hm hl hO hT (x5 := .val (ni a)) (List.range ms.length) g x6 x8 x9 fun j hj => List.mem_range.mp hj
    obtain ⟨y5, y6, y8, y9, ih⟩ := lb_again hn hm hl hO hT l (pp lk mk ps.length ms.length T g) (.val (ni a)) z6 z8 z9
    have hr := rng_ni ms.length (by omega)
    have htl : lenD [nt ts] = some (.int (ms.length : Int)) := by
      show some (D.int ((ts.map ni).length : Int)) = _
      rw [List.length_map, hl]
    have hb : l3__law_begins (lE lk ts mk T (SD (bg lk ts mk ps.length O ms.length) ms.length T g) (.val (ni a)) x6 x8 x9) = .next (lE lk ts mk T (SD (bg lk ts mk ps.length O ms.length) ms.length T (pp lk mk ps.length ms.length T g)) (.val (ni a)) z6 z8 z9) := by
      unfold lE at q ⊢
      unfold l3__law_begins
      simp_arith [htl, hr, q]
      rfl
    refine ⟨y5, y6, y8, y9, ?_⟩
    have es : (lE lk ts mk T (SD (bg lk ts mk ps.length O ms.length) ms.length T g) x5 x6 x8 x9).set 5 (.val (ni a)) = lE lk ts mk T (SD (bg lk ts mk ps.length O ms.length) ms.length T g) (.val (ni a)) x6 x8 x9 := rfl
    simp only [List.map_cons, forF, put_one, es, hb, List.length_cons]
    exact ih
theorem law_begins_ok (hn : RN ps ms lk) (hm : mk.length = ps.length) (hl : ts.length = ms.length) (hO : Ord lk (emp mk ps.length) ms.length O) (hT : T ≤ 100) :
    m__law_begins [.lst (lk.map lkD), nt mk, nt ts, .int (T : Int)] = .ok (bgD lk ts mk ps.length O ms.length T) := by
  have hi : initE 14 [.lst (lk.map lkD), nt mk, nt ts, .int (T : Int)] = [.val (.lst (lk.map lkD)), .val (nt mk), .val (nt ts), .val (.int (T : Int)), .no, .no, .no, .no, .no, .no, .no, .no, .no, .no] := rfl
  have h4 := hn.four
  have hr := rng_ni T (by omega)
  have hbd := fun p hp => hn.bd p hp
  have hin : ∀ d : D, (nLc [8] (.one 8) (iRng (aCons (eV 3) aNil)) tYesD y1__law_begins) ([.val (.lst (lk.map lkD)), .val (nt mk), .val (nt ts), .val (.int (T : Int)), .no, .no, .no, .val d, .no, .no, .no, .no, .no, .no] : Dl.Env) = .ok ((List.range T).map (cel (bg lk ts mk ps.length O ms.length) (fun _ _ => false) 0)) := fun d => by
    have e : (List.range T).map (cel (bg lk ts mk ps.length O ms.length) (fun _ _ => false) 0) = (List.range T).map fun _ => D.non := tab_cg fun t _ => rfl
    have q : mapF (.one 8) tYesD y1__law_begins ([.val (.lst (lk.map lkD)), .val (nt mk), .val (nt ts), .val (.int (T : Int)), .no, .no, .no, .val d, .no, .no, .no, .no, .no, .no] : Dl.Env) ((List.range T).map ni) = .ok ((List.range T).map fun _ => D.non) := mapF_enc fun t _ => ⟨_, rfl, rfl, rfl⟩
    have hz : ((List.range T).map fun _ => D.non).length ≤ 16777216 := by rw [List.length_map, List.length_range]; omega
    rw [e]
    simp_arith [hr, q, hz]
  have hlol : sLolN 4 7 [7] (iSeq (eV 2)) (nLc [8] (.one 8) (iRng (aCons (eV 3) aNil)) tYesD y1__law_begins) [.val (.lst (lk.map lkD)), .val (nt mk), .val (nt ts), .val (.int (T : Int)), .no, .no, .no, .no, .no, .no, .no, .no, .no, .no] = .next (lE lk ts mk T (SD (bg lk ts mk ps.length O ms.length) ms.length T fun _ _ => false) .no .no .no .no) := by
    have e : SD (bg lk ts mk ps.length O ms.length) ms.length T (fun _ _ => false) = (ntl ts).map fun _ => (List.range T).map (cel (bg lk ts mk ps.length O ms.length) (fun _ _ => false) 0) := by
      unfold SD
      exact List.ext_getElem (by rw [List.length_map, List.length_map, List.length_range, ntl_len, hl]) fun i h1 h2 => by
        rw [List.getElem_map, List.getElem_map]
        exact tab_cg fun t _ => rfl
    have hf : lolF (.one 7) (nLc [8] (.one 8) (iRng (aCons (eV 3) aNil)) tYesD y1__law_begins) [.val (.lst (lk.map lkD)), .val (nt mk), .val (nt ts), .val (.int (T : Int)), .no, .no, .no, .no, .no, .no, .no, .no, .no, .no] (ntl ts) = .ok ((ntl ts).map fun _ => (List.range T).map (cel (bg lk ts mk ps.length O ms.length) (fun _ _ => false) 0)) := lolF_const fun d _ => hin d
    have hz : (ntl ts).length ≤ sizeLine := by rw [ntl_len]; show _ ≤ 16777216; omega
    rw [e]
    unfold sLolN nLol
    have hw : wipeE ([.val (.lst (lk.map lkD)), .val (nt mk), .val (nt ts), .val (.int (T : Int)), .no, .no, .no, .no, .no, .no, .no, .no, .no, .no] : Dl.Env) [7] = [.val (.lst (lk.map lkD)), .val (nt mk), .val (nt ts), .val (.int (T : Int)), .no, .no, .no, .no, .no, .no, .no, .no, .no, .no] := rfl
    rw [hw]
    have hit : iSeq (eV 2) ([.val (.lst (lk.map lkD)), .val (nt mk), .val (nt ts), .val (.int (T : Int)), .no, .no, .no, .no, .no, .no, .no, .no, .no, .no] : Dl.Env) = .ok (ntl ts) := rfl
    rw [hit, ev_bind_ok, if_pos hz, hf]
    rfl
  have htl : lenD [nt ts] = some (.int (ms.length : Int)) := by
    show some (D.int ((ts.map ni).length : Int)) = _
    rw [List.length_map, hl]
  have hmul := mul_ni T ms.length (by omega)
  have hTc : T * ms.length ≤ 100 * 4 := Nat.mul_le_mul hT h4
  have hrm := rng_ni (T * ms.length) (by omega)
  obtain ⟨y5, y6, y8, y9, q⟩ := lb_again (ts := ts) hn hm hl hO hT (List.range (T * ms.length)) (fun _ _ => false) .no .no .no .no
  rw [List.length_range] at q
  have hall : SD (bg lk ts mk ps.length O ms.length) ms.length T (pN lk mk ps.length ms.length T (T * ms.length) fun _ _ => false) = (List.range ms.length).map fun j => (List.range T).map fun t => ni (bg lk ts mk ps.length O ms.length j t) := by
    unfold SD
    refine tab_cg fun j hj => tab_cg fun t ht => ?_
    have hmu : mu O ms.length j t < 0 + T * ms.length := by
      unfold mu
      have h1 := hO.at hj
      have h2 : (t + 1) * ms.length ≤ T * ms.length := Nat.mul_le_mul_right _ (by omega)
      rw [Nat.add_mul, Nat.one_mul] at h2
      omega
    unfold cel
    rw [pN_hit hO hbd (T * ms.length) 0 _ (fun a b _ _ z => absurd z (Nat.not_lt_zero _)) j t hj ht hmu]
    rfl
  rw [hall] at q
  have hd : ((List.range ms.length).map fun j => (List.range T).map fun t => ni (bg lk ts mk ps.length O ms.length j t)).map D.lst = (List.range ms.length).map fun j => D.lst ((List.range T).map fun t => ni (bg lk ts mk ps.length O ms.length j t)) := by rw [List.map_map]; rfl
  have hfin : ∀ x5 x6 x8 x9, mapF (.one 10) tYesD y5__law_begins [.val (.lst (lk.map lkD)), .val (nt mk), .val (nt ts), .val (.int (T : Int)), .val (.lst (((List.range ms.length).map fun j => (List.range T).map fun t => ni (bg lk ts mk ps.length O ms.length j t)).map D.lst)), x5, x6, .no, x8, x9, .no, .no, .no, .no] (((List.range ms.length).map fun j => (List.range T).map fun t => ni (bg lk ts mk ps.length O ms.length j t)).map D.lst) = .ok ((List.range ms.length).map fun j => .tup ((List.range T).map fun t => ni (bg lk ts mk ps.length O ms.length j t))) := fun x5 x6 x8 x9 => by
    rw [hd]
    exact mapF_enc fun j _ => ⟨_, rfl, rfl, by
      unfold y5__law_begins
      simp only [List.set_cons_succ, List.set_cons_zero]
      simp_arith []⟩
  have hzf : ((List.range ms.length).map fun j => D.tup ((List.range T).map fun t => ni (bg lk ts mk ps.length O ms.length j t))).length ≤ 16777216 := by rw [List.length_map, List.length_range]; omega
  unfold lE at q hlol
  unfold m__law_begins runF b__law_begins
  rw [hi]
  unfold bgD
  generalize ((List.range ms.length).map fun j => D.tup ((List.range T).map fun t => ni (bg lk ts mk ps.length O ms.length j t))) = RES at *
  generalize ((List.range ms.length).map fun j => (List.range T).map fun t => ni (bg lk ts mk ps.length O ms.length j t)) = R1 at *
  generalize SD (bg lk ts mk ps.length O ms.length) ms.length T (fun _ _ => false) = R0 at *
  generalize lk.map lkD = LD at *
  simp_arith [hlol, htl, hmul, hrm, q, hfin, hzf]
end
end K53

set_option Elab.async false
set_option linter.all false
set_option maxRecDepth 100000
set_option maxHeartbeats 2000000
/-! k53: refusals; things that are no papers. -/
namespace K53
open PySem Dl Sh
local macro_rules | `(tactic| simp_arith [$ts,*]) => `(tactic| simp only [ev_bind_ok, ev_bind_exc, ev_bindF_ok, ev_bindF_exc, ev_sNext, ev_sSeq, ev_sIf, ev_sRet, ev_sSet, ev_sOwn, ev_sDrop, ev_sRaise, ev_sFrz, ev_sUnp, ev_sFor, ev_eC, Dl.ev_e1, Dl.ev_e2, ev_eB, ev_eCall, ev_aNil, ev_aCons, ev_eIf, blR_bl, ev_tB1, ev_tAnd, ev_tOr, andK_bl, orK_bl, notK_bl, ev_eAnd, ev_eOr, ev_eNot, ev_tNot, ev_tYes, ev_oNone, ev_oSome, ev_eSl, ev_iSeq, ev_iRng, ev_eN, ev_ofO_some, ev_eV0, ev_eVs, lt_int, le_int, gt_int, ge_int, add_int, sub_int, iadd_int, len_tup, len_lst, eq_int, ne_int, itD_tup, itD_lst, put_one, fz_nil, fz_val, fz_no, fz_own, fz_succ, od_lst, od_lol, od_dk, od_dt, odict_lst, odict_dk, odict_dt, wp_nil, wp_cons, sa_nil, sa_cons, put_all, ev_eTup', ev_eLst', ev_nLst, ev_nLc, ev_eGen', ev_tBor, ev_eBor, ev_sPar, ev_eM, ev_eM0, ev_eCallM, ev_aSnoc, ok_tup, ok_lst, ok_str, ev_tIf, notB_eq, isB_eq, isN_eq, notN_eq, neg_int, tupD_lst, tupD_tup, listD_lst, listD_tup, pure_int, pure_bl, pure_str, pure_non, pureL_int, ev_eIsi, addD_lst, addD_tup, ix_t0, ix_t1, ix_t2, ix_l0, ix_l1, ix_l2, isi_tt, isi_ss, isT_tup, isS_str, List.set_cons_succ, List.set_cons_zero, List.length_cons, List.length_nil, Nat.reduceAdd, Nat.reduceLeDiff, Nat.zero_add, Nat.zero_le, if_true, if_false, Bool.false_eq_true, decide_true, decide_false, Bool.not_true, Bool.not_false, Bool.true_or, Bool.false_or, Bool.or_true, Bool.or_false, Bool.true_and, Bool.false_and, Bool.and_true, Bool.and_false, Int.cast_ofNat_Int, Int.reduceEq, Int.reduceLT, Int.reduceLE, Int.reduceNeg, reduceCtorEq, List.cons_append, List.nil_append, eq_of, ne_of, String.reduceEq, $ts,*])
section
variable {ps : List Str} {ms : List Mv} {lk : List (Nat × Nat)} {mk ts : List Nat}
theorem refusal_of {d0 d1 d2 d3 : D} {c w : String} (hw : (c = "BadNumbers" ∧ w = "numbers") ∨ (c = "NotPlain" ∧ w = "plain")) {k : Nat} (hk : k < 3) (h0 : k = 0 → m_paper_pace [d0, d1, d2] = .exc c) (h1 : k = 1 → m_begins [d0, d1, d2, d3] = .exc c) (h2 : k = 2 → m_judge_pace [d0, d1, d2, .non] = .exc c) :
    m__law_refusal [d0, d1, d2, d3, .int (k : Int)] = .ok (.str w) := by
  have hi : initE 5 [d0, d1, d2, d3, .int (k : Int)] = [.val d0, .val d1, .val d2, .val d3, .val (.int (k : Int))] := rfl
  unfold m__law_refusal runF b__law_refusal
  rw [hi, ev_sSeq]
  unfold sTryM
  have hb : (sIf (tB1 (e2 eqD (eV 4) (eC (.int 0))))
    (sDrop (eCall m_paper_pace (aCons (eV 0) (aCons (eV 1) (aCons (eV 2) aNil)))))
    (sIf (tB1 (e2 eqD (eV 4) (eC (.int 1))))
    (sDrop (eCall m_begins (aCons (eV 0) (aCons (eV 1) (aCons (eV 2) (aCons (eV 3) aNil))))))
    (sDrop (eCall m_judge_pace (aCons (eV 0) (aCons (eV 1) (aCons (eV 2) (aCons (eC .non) aNil)))))))) [.val d0, .val d1, .val d2, .val d3, .val (.int (k : Int))] = .exc c [.val d0, .val d1, .val d2, .val d3, .val (.int (k : Int))] := by
    match k, hk with
    | 0, _ => simp_arith [h0 rfl]
    | 1, _ => simp_arith [h1 rfl]
    | 2, _ => simp_arith [h2 rfl]
  rw [hb]
  rcases hw with ⟨rfl, rfl⟩ | ⟨rfl, rfl⟩ <;> rfl
theorem pace_exc {d : D} {c : String} (hn : RN ps ms lk) (hm : mk.length = ps.length) (h : m_check_times [netD ps ms, d] = .exc c) : m_paper_pace [netD ps ms, nt mk, d] = .exc c := by
  have hi : initE 4 [netD ps ms, nt mk, d] = [.val (netD ps ms), .val (nt mk), .val d, .no] := rfl
  have k1 := check_ok hn hm
  unfold m_paper_pace runF b_paper_pace
  rw [hi]
  simp_arith [k1, h]
theorem begins_exc {d e : D} {c : String} (hn : RN ps ms lk) (hm : mk.length = ps.length) (h : m_check_times [netD ps ms, d] = .exc c) : m_begins [netD ps ms, nt mk, d, e] = .exc c := by
  have hi : initE 15 [netD ps ms, nt mk, d, e] = [.val (netD ps ms), .val (nt mk), .val d, .val e, .no, .no, .no, .no, .no, .no, .no, .no, .no, .no, .no] := rfl
  have k1 := check_ok hn hm
  unfold m_begins runF b_begins
  rw [hi]
  simp_arith [k1, h]
theorem judge_exc {d e : D} {c : String} (hn : RN ps ms lk) (hm : mk.length = ps.length) (h : m_check_times [netD ps ms, d] = .exc c) : m_judge_pace [netD ps ms, nt mk, d, e] = .exc c := by
  have hi : initE 12 [netD ps ms, nt mk, d, e] = [.val (netD ps ms), .val (nt mk), .val d, .val e, .no, .no, .no, .no, .no, .no, .no, .no] := rfl
  have k1 := check_ok hn hm
  unfold m_judge_pace runF b_judge_pace
  rw [hi]
  simp_arith [k1, h]
/-- wrong times -/
theorem wrong_times (hn : RN ps ms lk) (hm : mk.length = ps.length) {d e : D} (h : m_check_times [netD ps ms, d] = .exc "BadNumbers") {k : Nat} (hk : k < 3) : m__law_refusal [netD ps ms, nt mk, d, e, .int (k : Int)] = .ok (.str "numbers") :=
  refusal_of (.inl ⟨rfl, rfl⟩) hk (fun _ => pace_exc hn hm h) (fun _ => begins_exc hn hm h) (fun _ => judge_exc hn hm h)
/-- wrong numbers of turns -/
theorem wrong_turns (hn : RN ps ms lk) (hm : mk.length = ps.length) (hl : ts.length = ms.length) (ht : ∀ x ∈ ts, x ≤ 999) {e : D} (he : (m_is_number [e, .int 0] = .ok (.bl false)) ∨ (m_is_number [e, .int 0] = .ok (.bl true) ∧ gtD e (.int 99) = some (.bl true))) : m__law_refusal [netD ps ms, nt mk, nt ts, e, .int 1] = .ok (.str "numbers") := by
  refine refusal_of (k := 1) (.inl ⟨rfl, rfl⟩) (by decide) (fun z => absurd z (by decide)) (fun _ => ?_) (fun z => absurd z (by decide))
  have hi : initE 15 [netD ps ms, nt mk, nt ts, e] = [.val (netD ps ms), .val (nt mk), .val (nt ts), .val e, .no, .no, .no, .no, .no, .no, .no, .no, .no, .no, .no] := rfl
  have k1 := check_ok hn hm
  have k2 := times_ok (ps := ps) (ms := ms) hl ht
  unfold m_begins runF b_begins
  rw [hi]
  rcases he with h | ⟨h, g⟩
  · simp_arith [k1, k2, h]
  · simp_arith [k1, k2, h, g]
/-- an empty ring -/
theorem refuse_ring (hn : RN ps ms lk) (hm : mk.length = ps.length) (hl : ts.length = ms.length) (ht : ∀ x ∈ ts, x ≤ 999) {x : D} (hp : m_paper_turns [netD ps ms, nt mk] = .ok (.tup [.str "ring", x])) {k : Nat} (hk : k < 2) : m__law_refusal [netD ps ms, nt mk, nt ts, .int 1, .int (k : Int)] = .ok (.str "plain") := by
  have k1 := check_ok hn hm
  have k2 := times_ok (ps := ps) (ms := ms) hl ht
  refine refusal_of (.inr ⟨rfl, rfl⟩) (by omega) (fun _ => ?_) (fun _ => ?_) (fun z => by omega)
  · have hi : initE 4 [netD ps ms, nt mk, nt ts] = [.val (netD ps ms), .val (nt mk), .val (nt ts), .no] := rfl
    unfold m_paper_pace runF b_paper_pace
    rw [hi]
    simp_arith [k1, k2, hp]
  · have hi : initE 15 [netD ps ms, nt mk, nt ts, .int 1] = [.val (netD ps ms), .val (nt mk), .val (nt ts), .val (.int 1), .no, .no, .no, .no, .no, .no, .no, .no, .no, .no, .no] := rfl
    have k3 : m_is_number [.int 1, .int 0] = .ok (.bl true) := by rw [number_int, decide_eq_true (by omega)]
    unfold m_begins runF b_begins
    rw [hi]
    simp_arith [k1, k2, k3, hp]
/-! ### the seven wrong times -/
def wrg (ts : List Nat) : List D := [.tup (ntl ts ++ [.int 1]), .tup ((ntl ts).drop 1), .lst (ntl ts), .non, .tup ((ntl ts).drop 1 ++ [.int (-1)]), .tup ((ntl ts).drop 1 ++ [.int 1000]), .tup ((ntl ts).drop 1 ++ [.bl true])]
theorem wrg_no (hl : ts.length = ms.length) (hc : 1 ≤ ms.length) : ∀ d ∈ wrg ts, m_check_times [netD ps ms, d] = .exc "BadNumbers" := by
  have hty : ∀ x ∈ ntl ts, tyOk x := fun x hx => by
    obtain ⟨k, _, rfl⟩ := List.mem_map.mp hx
    exact ⟨_, rfl⟩
  have hl' : (ntl ts).length = ms.length := by rw [ntl_len, hl]
  have tup : ∀ xs : List D, (∀ x ∈ xs, tyOk x) → (xs.length ≠ ms.length ∨ xs.all tB = false) → m_check_times [netD ps ms, .tup xs] = .exc "BadNumbers" := fun xs h1 h2 => by
    rw [times_tup h1, if_neg]
    intro z
    rw [Bool.and_eq_true, decide_eq_true_eq] at z
    rcases h2 with h2 | h2
    · exact h2 z.1
    · rw [h2] at z; exact Bool.false_ne_true z.2
  have last : ∀ d : D, tyOk d → tB d = false → m_check_times [netD ps ms, .tup ((ntl ts).drop 1 ++ [d])] = .exc "BadNumbers" := fun d h1 h2 => tup _ (fun x hx => by
      rcases List.mem_append.mp hx with hx | hx
      · exact hty x (List.mem_of_mem_drop hx)
      · rw [List.mem_singleton.mp hx]; exact h1) (.inr (by rw [List.all_append, Bool.and_eq_false_iff]; exact .inr (by rw [List.all_cons, h2]; rfl)))
  intro d hd
  unfold wrg at hd
  simp only [List.mem_cons, List.not_mem_nil, or_false] at hd
  rcases hd with rfl | rfl | rfl | rfl | rfl | rfl | rfl
  · refine tup _ (fun x hx => ?_) (.inl ?_)
    · rcases List.mem_append.mp hx with hx | hx
      · exact hty x hx
      · rw [List.mem_singleton.mp hx]; exact ⟨_, rfl⟩
    · rw [List.length_append, List.length_singleton, hl']; omega
  · refine tup _ (fun x hx => hty x (List.mem_of_mem_drop hx)) (.inl ?_)
    rw [List.length_drop, hl']; omega
  · exact times_no rfl ⟨_, rfl⟩
  · exact times_no rfl ⟨_, rfl⟩
  · exact last _ ⟨_, rfl⟩ rfl
  · exact last _ ⟨_, rfl⟩ rfl
  · exact last _ ⟨_, rfl⟩ rfl
/-! ### things -/
def thgs (xs : List Str) (h : List Int) : List D := [.non, .tup [], .tup [.str "pace", tsD xs], .tup [.str "pace", tsD xs, .lst (h.map D.int)], .tup [.str "pace", tsD xs, .tup (h.map D.int ++ [.int 0])], .tup [.str "pace", .tup [], .tup (h.map D.int)], .lst [.str "pace", tsD xs, .tup (h.map D.int)], .tup [.str "pace", .tup [.str "zz"], .tup (h.map D.int)], .tup [.str "pace", tsD xs, .non], .tup [.str "pace", tsD xs, .tup (List.replicate h.length (.bl true))], .tup [.str "slow", tsD xs, .tup (h.map D.int)]]
theorem things_no (hn : RN ps ms lk) (hm : mk.length = ps.length) (hl : ts.length = ms.length) (ht : ∀ x ∈ ts, x ≤ 999) (hk : ∀ x ∈ mk, x ≤ 999) {xs : List Str} (hg : ∀ x ∈ xs, goodS x = true) (hx : xs.length ≤ 1000) (hj : jr ps lk xs = true) {h : List Int} (hh : h.length = ms.length) : ∀ d ∈ thgs xs h, m_judge_pace [netD ps ms, nt mk, nt ts, d] = .ok (.bl false) := by
  have h1 := hn.cone
  have hr := ring_of_ok hn hg hx
  rw [hj] at hr
  have no : ∀ d : D, (isT d = false ∨ (∃ ys, d = .tup ys ∧ ys.length ≠ 3)) → tyOk d → m_judge_pace [netD ps ms, nt mk, nt ts, d] = .ok (.bl false) := fun d hd hy => jp_nopaper hn hm hl ht (paper_no3 d "pace" hd hy)
  have rng : ∀ (ys : List Str) (e : D), (∀ x ∈ ys, goodS x = true) → ys.length ≤ 1000 → jr ps lk ys = false → m_judge_pace [netD ps ms, nt mk, nt ts, .tup [.str "pace", tsD ys, e]] = .ok (.bl false) := fun ys e q1 q2 q3 => by
    have := ring_of_ok hn q1 q2
    rw [q3] at this
    exact jp_noring hn hm hl ht this
  have hzz : jr ps lk [Str.ofString "zz"] = false := by
    have hn' : Str.ofString "zz" ∉ ps := fun z => z_no.2 (List.mem_append_left _ (hn.pp _ z))
    unfold jr goodR
    rw [show ([Str.ofString "zz"].all fun x => decide (x ∈ ps)) = false by simp [hn']]
    simp
  intro d hd
  unfold thgs at hd
  simp only [List.mem_cons, List.not_mem_nil, or_false] at hd
  rcases hd with rfl | rfl | rfl | rfl | rfl | rfl | rfl | rfl | rfl | rfl | rfl
  · exact no _ (.inl rfl) ⟨_, rfl⟩
  · exact no _ (.inr ⟨_, rfl, by decide⟩) ⟨_, rfl⟩
  · exact no _ (.inr ⟨_, rfl, by show 2 ≠ 3; decide⟩) ⟨_, rfl⟩
  · exact jp_notup hn hm hl ht hr rfl ⟨_, rfl⟩
  · have e : D.tup (h.map D.int ++ [.int 0]) = .tup ((h ++ [0]).map D.int) := by rw [List.map_append]; rfl
    rw [e, judge_ok hn hm hl ht hk hg hx]
    congr 2
    have e2 : ¬ ((h ++ [0]).length = ms.length) := by rw [List.length_append, List.length_singleton]; omega
    unfold jp
    simp only [e2, decide_false, Bool.false_and, Bool.and_false]
  · exact rng [] _ (fun x hx => absurd hx List.not_mem_nil) (by simp) rfl
  · exact no _ (.inl rfl) ⟨_, rfl⟩
  · exact rng [Str.ofString "zz"] _ (fun x hx => by rw [List.mem_singleton.mp hx]; exact good_ofS "zz") (by simp) hzz
  · exact jp_notup hn hm hl ht hr rfl ⟨_, rfl⟩
  · rw [jp_tup hn hm hl ht hk hg hx hj]
    split
    · rfl
    · rw [hh, jp_bools (by omega)]
  · refine jp_nopaper hn hm hl ht ?_
    have := paper_is3 (x := tsD xs) (y := .tup (h.map D.int)) "slow" "pace"
    exact this
end
end K53

set_option Elab.async false
set_option linter.all false
set_option maxRecDepth 100000
set_option maxHeartbeats 2000000
/-! k53: the law. -/
namespace K53
open PySem Dl Sh
local macro_rules | `(tactic| simp_arith [$ts,*]) => `(tactic| simp only [ev_bind_ok, ev_bind_exc, ev_bindF_ok, ev_bindF_exc, ev_sNext, ev_sSeq, ev_sIf, ev_sRet, ev_sSet, ev_sOwn, ev_sDrop, ev_sRaise, ev_sFrz, ev_sUnp, ev_sFor, ev_eC, Dl.ev_e1, Dl.ev_e2, ev_eB, ev_eCall, ev_aNil, ev_aCons, ev_eIf, blR_bl, ev_tB1, ev_tAnd, ev_tOr, andK_bl, orK_bl, notK_bl, ev_eAnd, ev_eOr, ev_eNot, ev_tNot, ev_tYes, ev_oNone, ev_oSome, ev_eSl, ev_iSeq, ev_iRng, ev_eN, ev_ofO_some, ev_eV0, ev_eVs, lt_int, le_int, gt_int, ge_int, add_int, sub_int, iadd_int, len_tup, len_lst, eq_int, ne_int, itD_tup, itD_lst, put_one, fz_nil, fz_val, fz_no, fz_own, fz_succ, od_lst, od_lol, od_dk, od_dt, odict_lst, odict_dk, odict_dt, wp_nil, wp_cons, sa_nil, sa_cons, put_all, ev_eTup', ev_eLst', ev_nLst, ev_nLc, ev_eGen', ev_tBor, ev_eBor, ev_sPar, ev_eM, ev_eM0, ev_eCallM, ev_aSnoc, ok_tup, ok_lst, ok_str, ev_tIf, notB_eq, isB_eq, isN_eq, notN_eq, neg_int, tupD_lst, tupD_tup, listD_lst, listD_tup, pure_int, pure_bl, pure_str, pure_non, pureL_int, ev_eIsi, addD_lst, addD_tup, ix_t0, ix_t1, ix_t2, ix_l0, ix_l1, ix_l2, isi_tt, isi_ss, isT_tup, isS_str, List.set_cons_succ, List.set_cons_zero, List.length_cons, List.length_nil, Nat.reduceAdd, Nat.reduceLeDiff, Nat.zero_add, Nat.zero_le, if_true, if_false, Bool.false_eq_true, decide_true, decide_false, Bool.not_true, Bool.not_false, Bool.true_or, Bool.false_or, Bool.or_true, Bool.or_false, Bool.true_and, Bool.false_and, Bool.and_true, Bool.and_false, Int.cast_ofNat_Int, Int.reduceEq, Int.reduceLT, Int.reduceLE, Int.reduceNeg, reduceCtorEq, List.cons_append, List.nil_append, eq_of, ne_of, String.reduceEq, $ts,*])
noncomputable def rest3 : Sv :=
    (sSeq (sSet 14 (e2 ixD (eV 7) (e2 modD (e2 ixD (eV 2) (eC (.int 8))) (eB lenD (aCons (eV 7) aNil)))))
    (sSeq (sSet 15 (eIf (tB1 (e2 eqD (e2 modD (e2 ixD (eV 2) (eC (.int 13))) (eC (.int 2))) (eC (.int 0)))) (eB tupleD (aCons (eN (nLc [23] (.one 23) (iRng (aCons (eB lenD (aCons (eV 19) aNil)) aNil)) tYesD y10_law)) aNil)) (e2 ixD (eV 9) (eC (.int 2)))))
    (sSeq (sSet 16 (eB tupleD (aCons (eN (nLc [22] (.one 22) (iSeq (eV 14)) tYesD y11_law)) aNil)))
    (sSeq (sIf (tB1 (e2 neD (eCall m_judge_pace (aCons (eV 3) (aCons (eV 4) (aCons (eV 5) (aCons (eTup (aCons (eC (.str "pace")) (aCons (eV 16) (aCons (eV 15) aNil)))) aNil))))) (eCall m__law_stands (aCons (eV 20) (aCons (eV 4) (aCons (eV 5) (aCons (eV 14) (aCons (eV 15) aNil))))))))
    (sRet (eC (.bl false)))
    sNext)
    (sSeq (sSet 17 (eTup (aCons (eC .non) (aCons (eTup aNil) (aCons (eTup (aCons (eC (.str "pace")) (aCons (e2 ixD (eV 9) (eC (.int 1))) aNil))) (aCons (eTup (aCons (eC (.str "pace")) (aCons (e2 ixD (eV 9) (eC (.int 1))) (aCons (eB listD (aCons (e2 ixD (eV 9) (eC (.int 2))) aNil)) aNil)))) (aCons (eTup (aCons (eC (.str "pace")) (aCons (e2 ixD (eV 9) (eC (.int 1))) (aCons (e2 addD (e2 ixD (eV 9) (eC (.int 2))) (eTup (aCons (eC (.int 0)) aNil))) aNil)))) (aCons (eTup (aCons (eC (.str "pace")) (aCons (eTup aNil) (aCons (e2 ixD (eV 9) (eC (.int 2))) aNil)))) (aCons (eLst (aCons (eC (.str "pace")) (aCons (e2 ixD (eV 9) (eC (.int 1))) (aCons (e2 ixD (eV 9) (eC (.int 2))) aNil)))) (aCons (eTup (aCons (eC (.str "pace")) (aCons (eTup (aCons (eC (.str "zz")) aNil)) (aCons (e2 ixD (eV 9) (eC (.int 2))) aNil)))) (aCons (eTup (aCons (eC (.str "pace")) (aCons (e2 ixD (eV 9) (eC (.int 1))) (aCons (eC .non) aNil)))) (aCons (eTup (aCons (eC (.str "pace")) (aCons (e2 ixD (eV 9) (eC (.int 1))) (aCons (eB tupleD (aCons (eN (nLc [21] (.one 21) (iSeq (e2 ixD (eV 9) (eC (.int 2)))) tYesD y12_law)) aNil)) aNil)))) (aCons (eTup (aCons (eC (.str "slow")) (aCons (e2 ixD (eV 9) (eC (.int 1))) (aCons (e2 ixD (eV 9) (eC (.int 2))) aNil)))) aNil)))))))))))))
    (sRet (eNot (eCall m_judge_pace (aCons (eV 3) (aCons (eV 4) (aCons (eV 5) (aCons (e2 ixD (eV 17) (e2 modD (e2 ixD (eV 2) (eC (.int 14))) (eC (.int 11)))) aNil))))))))))))
noncomputable def rest2 : Sv :=
    (sSeq (sSet 9 (eCall m_paper_pace (aCons (eV 3) (aCons (eV 4) (aCons (eV 5) aNil)))))
    (sSeq (sIf (tOr' (tB1 (e2 isND (eV 9) (eC .non))) (tB1 (e2 eqD (eB lenD (aCons (eV 7) aNil)) (eC (.int 0)))))
    (sRet (eAnd (e2 isND (eV 9) (eC .non)) (e2 eqD (eB lenD (aCons (eV 7) aNil)) (eC (.int 0)))))
    sNext)
    (sSeq (sIf (tOr' (tB1 (e2 neD (e2 ixD (eV 9) (eC (.int 0))) (eC (.str "pace")))) (tNot' (tB1 (eCall m_judge_pace (aCons (eV 3) (aCons (eV 4) (aCons (eV 5) (aCons (eV 9) aNil))))))))
    (sRet (eC (.bl false)))
    sNext)
    (sSeq (sSet 10 (eN (nLc [21] (.one 21) (iSeq (e2 ixD (eV 9) (eC (.int 1)))) tYesD y5_law)))
    (sSeq (sIf (tNot' (tB1 (eCall m__law_stands (aCons (eV 20) (aCons (eV 4) (aCons (eV 5) (aCons (eV 10) (aCons (e2 ixD (eV 9) (eC (.int 2))) aNil))))))))
    (sRet (eC (.bl false)))
    sNext)
    (sSeq (sSet 11 (eB sumD (aCons (eN (nLc [22] (.one 22) (iSeq (eV 10)) tYesD y6_law)) aNil)))
    (sSeq (sSet 12 (eB sumD (aCons (eN (nLc [22] (.one 22) (iSeq (eV 10)) tYesD y7_law)) aNil)))
    (sSeq (sFor (.one 13) (iSeq (eV 7))
    l1_law)
    rest3))))))))
noncomputable def rest1 : Sv :=
    (sSeq (sSet 7 (eCall m__law_rings (aCons (eV 20) aNil)))
    (sSeq (sIf (tB1 (e2 gtD (eB lenD (aCons (eN (nLc [13] (.one 13) (iSeq (eV 7)) c1_law y4_law)) aNil)) (eC (.int 0))))
    (sRet (e2 eqD (eCall m__law_refusal (aCons (eV 3) (aCons (eV 4) (aCons (eV 5) (aCons (eC (.int 1)) (aCons (e2 modD (e2 ixD (eV 2) (eC (.int 5))) (eC (.int 2))) aNil)))))) (eC (.str "plain"))))
    sNext)
    (sSeq (sSet 8 (e2 modD (e2 ixD (eV 2) (eC (.int 7))) (eC (.int 7))))
    (sSeq (sIf (tB1 (e2 neD (eCall m_begins (aCons (eV 3) (aCons (eV 4) (aCons (eV 5) (aCons (eV 8) aNil))))) (eCall m__law_begins (aCons (eV 20) (aCons (eV 4) (aCons (eV 5) (aCons (eV 8) aNil)))))))
    (sRet (eC (.bl false)))
    sNext)
    rest2))))
noncomputable def headLaw : Sv :=
    (sSeq (sSet 1 (eCall m__law_draws (aCons (eCall m__law_cell (aCons (eV 0) (aCons (eC (.int 0)) aNil))) (aCons (eC (.int 30)) aNil))))
    (sSeq (sSet 2 (eCall m__law_draws (aCons (eCall m__law_cell (aCons (eV 0) (aCons (eC (.int 1)) aNil))) (aCons (eC (.int 30)) aNil))))
    (sSeq (sUnp (.all [18, 19, 20]) (eCall m__law_ring_net (aCons (eV 1) aNil)))
    (sSeq (sSet 3 (eCall m_Net (aCons (eV 18) (aCons (eV 19) aNil))))
    (sSeq (sSet 4 (eB tupleD (aCons (eN (nLc [22] (.one 22) (iRng (aCons (eB lenD (aCons (eV 18) aNil)) aNil)) tYesD y1_law)) aNil)))
    (sSeq (sSet 5 (eB tupleD (aCons (eN (nLc [22] (.one 22) (iRng (aCons (eB lenD (aCons (eV 19) aNil)) aNil)) tYesD y2_law)) aNil)))
    (sSeq (sSet 6 (e2 ixD (eTup (aCons (e2 addD (eV 5) (eTup (aCons (eC (.int 1)) aNil))) (aCons (eSl (eV 5) (oSome (eC (.int 1))) oNone) (aCons (eB listD (aCons (eV 5) aNil)) (aCons (eC .non) (aCons (e2 addD (eSl (eV 5) (oSome (eC (.int 1))) oNone) (eTup (aCons (e1 negD (eC (.int 1))) aNil))) (aCons (e2 addD (eSl (eV 5) (oSome (eC (.int 1))) oNone) (eTup (aCons (eC (.int 1000)) aNil))) (aCons (e2 addD (eSl (eV 5) (oSome (eC (.int 1))) oNone) (eTup (aCons (eC (.bl true)) aNil))) aNil)))))))) (e2 modD (e2 ixD (eV 2) (eC (.int 4))) (eC (.int 7)))))
    (sSeq (sIf (tOr' (tB1 (e2 neD (eCall m__law_refusal (aCons (eV 3) (aCons (eV 4) (aCons (eV 6) (aCons (eC (.int 1)) (aCons (e2 modD (e2 ixD (eV 2) (eC (.int 5))) (eC (.int 3))) aNil)))))) (eC (.str "numbers")))) (tB1 (e2 neD (eCall m__law_refusal (aCons (eV 3) (aCons (eV 4) (aCons (eV 5) (aCons (e2 ixD (eTup (aCons (e1 negD (eC (.int 1))) (aCons (eC (.int 100)) (aCons (eC .non) aNil)))) (e2 modD (e2 ixD (eV 2) (eC (.int 6))) (eC (.int 3)))) (aCons (eC (.int 1)) aNil)))))) (eC (.str "numbers")))))
    (sRet (eC (.bl false)))
    sNext)
    rest1))))))))

theorem law_cut (l : List D) : m_law l = runF 24 headLaw l := rfl
theorem ne_fit {d : D} (h : d.gd 64) : neD d d = some (.bl false) := ne_self (fit_gd h)
theorem ne_bl (b : Bool) : neD (.bl b) (.bl b) = some (.bl false) := by cases b <;> decide +kernel
section
variable {ps : List Str} {ms : List Mv} {lk : List (Nat × Nat)} {mk ts L M : List Nat}
theorem wy_len {w : List Nat} {n : Nat} (hn : n ≤ 6) (h : Rg lk n w) : (wyS ps w).length ≤ 1000 := by
  have := rg_len h
  unfold wyS; rw [List.length_map]; omega
theorem both (hn : RN ps ms lk) {w : List Nat} (hw : Rg lk ps.length w) {h : List Int} (hh : h.length = ms.length) :
    jp ps ms lk ts mk (wyS ps w) h = (!decide (tok mk w = 0) && (!w.isEmpty && (rgB lk w && stB lk ps.length (Wt lk ts mk (tok mk w) (tim lk ts w)) h))) := by
  have h1 := hw.jr hn
  have h2 : rgB lk w = true := (rgB_cl hw.ne).mpr hw.cl
  have h3 : w.isEmpty = false := by
    have := hw.ne
    cases w with
    | nil => exact absurd rfl this
    | cons a l => rfl
  have e := wy_idx hn hw.lt
  unfold jp
  rw [h1, e, h2, h3]
  simp only [hh, decide_true, Bool.true_and, Bool.not_false]
theorem rest3_ok (hn : RN ps ms lk) (hm : mk.length = ps.length) (hl : ts.length = ms.length) (ht : ∀ x ∈ ts, x ≤ 999) (hk : ∀ x ∈ mk, x ≤ 999) (hM : M.length = 30) {b : List Nat} (hb : b ∈ fnd lk ps.length) {h : List Int} (hh : h.length = ms.length) {x0 x1 x6 x8 x10 x11 x12 x13 x14 x15 x16 x17 x21 x22 x23 : S} :
    rest3 [x0, x1, .val (.lst (ntl M)), .val (netD ps ms), .val (nt mk), .val (nt ts), x6, .val (.lst (mkL (sortW (fnd lk ps.length)))), x8, .val (.tup [.str "pace", tsD (wyS ps b), .tup (h.map D.int)]), x10, x11, x12, x13, x14, x15, x16, x17, .val (plD ps), .val (msD ms), .val (.lst (lk.map lkD)), x21, x22, x23] = .ret (.bl true) := by
  have h1 := hn.one
  have h6 := hn.six
  have h4 := hn.four
  have hmn := msl ms
  have hrc := rng_ni ms.length (by omega)
  -- the other ring
  have hrl : 0 < (sortW (fnd lk ps.length)).length := List.length_pos_of_mem (sortW_mem.mpr hb)
  have i8 : ixD (.lst (ntl M)) (.int 8) = some (.int ((M.getD 8 0 : Nat) : Int)) := ntl_ix 8 (by omega)
  have hrll : ((mkL (sortW (fnd lk ps.length))).length : Int) = (((sortW (fnd lk ps.length)).length : Nat) : Int) := by rw [List.length_map]
  have m8 := mod_nat (M.getD 8 0) (sortW (fnd lk ps.length)).length hrl
  have l8 := Nat.mod_lt (M.getD 8 0) hrl
  generalize M.getD 8 0 % (sortW (fnd lk ps.length)).length = r8 at *
  have hom : (sortW (fnd lk ps.length)).getD r8 [] ∈ fnd lk ps.length := by
    refine sortW_mem.mp ?_
    rw [List.getD_eq_getElem?_getD, List.getElem?_eq_getElem l8]
    exact List.getElem_mem l8
  have ho8 := ix_mk (l := sortW (fnd lk ps.length)) l8
  generalize (sortW (fnd lk ps.length)).getD r8 [] = o at *
  have hoR := fnd_rg hom
  obtain ⟨g1, g2⟩ := wy_good hn hoR.lt
  have hol := wy_len (ps := ps) h6 hoR
  -- heights
  have i13 : ixD (.lst (ntl M)) (.int 13) = some (.int ((M.getD 13 0 : Nat) : Int)) := ntl_ix 13 (by omega)
  have m13 : modD (.int ((M.getD 13 0 : Nat) : Int)) (.int 2) = some (.int ((M.getD 13 0 % 2 : Nat) : Int)) := mod_nat _ 2 (by decide)
  have e13 := z_nat (M.getD 13 0 % 2)
  generalize M.getD 13 0 % 2 = r13 at *
  let h2 : List Int := (List.range ms.length).map fun j => h.getD j 0 + ((M.getD (9 + j) 0 % 3 : Nat) : Int) - 1
  have hh2 : h2.length = ms.length := by show ((List.range ms.length).map _).length = _; rw [List.length_map, List.length_range]
  have q2 : ∀ y14 y15, mapF (.one 23) tYesD y10_law [x0, x1, .val (.lst (ntl M)), .val (netD ps ms), .val (nt mk), .val (nt ts), x6, .val (.lst (mkL (sortW (fnd lk ps.length)))), x8, .val (.tup [.str "pace", tsD (wyS ps b), .tup (h.map D.int)]), x10, x11, x12, x13, y14, y15, x16, x17, .val (plD ps), .val (msD ms), .val (.lst (lk.map lkD)), x21, x22, .no] ((List.range ms.length).map ni) = .ok (h2.map D.int) := fun y14 y15 => by
    have e : h2.map D.int = (List.range ms.length).map fun j => D.int (h.getD j 0 + ((M.getD (9 + j) 0 % 3 : Nat) : Int) - 1) := by
      show ((List.range ms.length).map _).map D.int = _
      rw [List.map_map]; rfl
    rw [e]
    exact mapF_enc fun j hj => ⟨_, rfl, rfl, by
      have hj := List.mem_range.mp hj
      have j1 := ints_ixt (h := h) (k := j) (by omega)
      have j2 := ntl_ix (L := M) (9 + j) (by omega)
      have e : ((9 + j : Nat) : Int) = 9 + (j : Int) := Int.natCast_add 9 j
      rw [e] at j2
      have j3 : modD (.int ((M.getD (9 + j) 0 : Nat) : Int)) (.int 3) = some (.int ((M.getD (9 + j) 0 % 3 : Nat) : Int)) := mod_nat _ 3 (by decide)
      unfold y10_law
      simp only [List.set_cons_succ, List.set_cons_zero]
      generalize M.getD (9 + j) 0 % 3 = r at *
      generalize h.map D.int = HD at *
      generalize mkL (sortW (fnd lk ps.length)) = RLD at *
      generalize lk.map lkD = LKD at *
      simp_arith [j1, j2, j3]⟩
  have hz2 : (h2.map D.int).length ≤ 16777216 := by rw [List.length_map, hh2]; omega
  -- names
  have q3 : ∀ y14 y15 y16 y23, mapF (.one 22) tYesD y11_law [x0, x1, .val (.lst (ntl M)), .val (netD ps ms), .val (nt mk), .val (nt ts), x6, .val (.lst (mkL (sortW (fnd lk ps.length)))), x8, .val (.tup [.str "pace", tsD (wyS ps b), .tup (h.map D.int)]), x10, x11, x12, x13, y14, y15, y16, x17, .val (plD ps), .val (msD ms), .val (.lst (lk.map lkD)), x21, .no, y23] (ntl o) = .ok (stl (wyS ps o)) := fun y14 y15 y16 y23 => by
    rw [show ntl o = o.map ni from rfl, mapF_enc (g := fun k => .str (nmP ps k)) fun k hk => ⟨_, rfl, rfl, by
      have := hn.pix (hoR.lt k hk)
      unfold y11_law
      simp only [List.set_cons_succ, List.set_cons_zero]
      simp_arith [this]⟩]
    unfold wyS stl
    rw [List.map_map]; rfl
  have hz3 : (stl (wyS ps o)).length ≤ 16777216 := by unfold stl; rw [List.length_map]; omega
  have hio : itD (nt o) = some (o.map ni) := rfl
  have hor := rg_len hoR
  -- the judge and the law, with any heights
  have hjl : ∀ h' : List Int, h'.length = ms.length → ∃ b', m_judge_pace [netD ps ms, nt mk, nt ts, .tup [.str "pace", tsD (wyS ps o), .tup (h'.map D.int)]] = .ok (.bl b') ∧ m__law_stands [.lst (lk.map lkD), nt mk, nt ts, nt o, .tup (h'.map D.int)] = .ok (.bl b') := fun h' hh' => by
    refine ⟨_, judge_ok hn hm hl ht hk g2 hol h', ?_⟩
    rw [law_stands_ok hn hm hl ht hk hio hoR.lt (by omega) hh', both hn hoR hh']
  -- the things
  have i14 : ixD (.lst (ntl M)) (.int 14) = some (.int ((M.getD 14 0 : Nat) : Int)) := ntl_ix 14 (by omega)
  have m14 : modD (.int ((M.getD 14 0 : Nat) : Int)) (.int 11) = some (.int ((M.getD 14 0 % 11 : Nat) : Int)) := mod_nat _ 11 (by decide)
  have l14 := Nat.mod_lt (M.getD 14 0) (y := 11) (by decide)
  generalize M.getD 14 0 % 11 = t at m14 l14
  have hbR := fnd_rg hb
  obtain ⟨gb1, gb2⟩ := wy_good hn hbR.lt
  have hbl := wy_len (ps := ps) h6 hbR
  have hno := things_no (mk := mk) (ts := ts) hn hm hl ht hk gb2 hbl (hbR.jr hn) hh
  have hth : ∃ td, ixD (.tup (thgs (wyS ps b) h)) (.int ((t : Nat) : Int)) = some td ∧ m_judge_pace [netD ps ms, nt mk, nt ts, td] = .ok (.bl false) := by
    have hlt : t < (thgs (wyS ps b) h).length := l14
    refine ⟨(thgs (wyS ps b) h)[t], ?_, hno _ (List.getElem_mem hlt)⟩
    rw [ix_tup, List.getElem?_eq_getElem hlt]
  obtain ⟨td, t1, t2⟩ := hth
  unfold thgs at t1
  have qb : ∀ y14 y15 y16 y17 y22 y23, mapF (.one 21) tYesD y12_law [x0, x1, .val (.lst (ntl M)), .val (netD ps ms), .val (nt mk), .val (nt ts), x6, .val (.lst (mkL (sortW (fnd lk ps.length)))), x8, .val (.tup [.str "pace", tsD (wyS ps b), .tup (h.map D.int)]), x10, x11, x12, x13, y14, y15, y16, y17, .val (plD ps), .val (msD ms), .val (.lst (lk.map lkD)), .no, y22, y23] (h.map D.int) = .ok (List.replicate h.length (.bl true)) := fun y14 y15 y16 y17 y22 y23 => by
    rw [mapF_enc (g := fun _ => D.bl true) fun i _ => ⟨_, rfl, rfl, rfl⟩, List.map_const']
  have hzb : (List.replicate h.length (D.bl true)).length ≤ 16777216 := by rw [List.length_replicate]; omega
  have hz5 : (h.map D.int).length + 1 ≤ 16777216 := by rw [List.length_map]; omega
  obtain ⟨b1, j1, j2⟩ := hjl h2 hh2
  obtain ⟨b2, j3, j4⟩ := hjl h hh
  have nb1 := ne_bl b1
  have nb2 := ne_bl b2
  generalize h2 = h2' at *
  generalize h2'.map D.int = H2D at *
  generalize hHD : h.map D.int = HD at *
  generalize List.replicate h.length (D.bl true) = BD at *
  generalize lk.map lkD = LKD at *
  generalize mkL (sortW (fnd lk ps.length)) = RLD at *
  unfold rest3
  by_cases c : r13 = 0
  · simp_arith [i8, hrll, m8, ho8, i13, m13, e13, c, hmn, hrc, q2, hz2, q3, hz3, j1, j2, nb1, hz5, qb, hzb, i14, m14, t1, t2]
  · simp_arith [i8, hrll, m8, ho8, i13, m13, e13, c, q3, hz3, j3, j4, nb2, hz5, qb, hzb, i14, m14, t1, t2]
theorem rest2_ok (hn : RN ps ms lk) (hm : mk.length = ps.length) (hl : ts.length = ms.length) (ht : ∀ x ∈ ts, x ≤ 999) (hk : ∀ x ∈ mk, x ≤ 999) (hM : M.length = 30) (hp : ∀ w ∈ fnd lk ps.length, 0 < tok mk w) {x0 x1 x6 x8 x9 x10 x11 x12 x13 x14 x15 x16 x17 x21 x22 x23 : S} :
    rest2 [x0, x1, .val (.lst (ntl M)), .val (netD ps ms), .val (nt mk), .val (nt ts), x6, .val (.lst (mkL (sortW (fnd lk ps.length)))), x8, x9, x10, x11, x12, x13, x14, x15, x16, x17, .val (plD ps), .val (msD ms), .val (.lst (lk.map lkD)), x21, x22, x23] = .ret (.bl true) := by
  have h6 := hn.six
  have hln := hn.len
  have hlx := fun {k : Nat} (hk : k < ps.length) => lk_ix (lk := lk) hn.len hk
  rcases pace_ok hn hm hl ht hk hp with ⟨hnil, kp⟩ | ⟨b, h, hb, hbest, hst, kp⟩
  · have hsn : (mkL (sortW (fnd lk ps.length))).length = 0 := by
      rw [List.length_map]; unfold sortW
      rw [List.length_mergeSort, hnil]; rfl
    have e : decide (D.non = D.non) = true := rfl
    have e0 : decide (((mkL (sortW (fnd lk ps.length))).length : Int) = 0) = true := decide_eq_true (by rw [hsn]; rfl)
    generalize mkL (sortW (fnd lk ps.length)) = RLD at *
    generalize lk.map lkD = LKD at *
    unfold rest2
    simp_arith [kp, e, e0]
  · have hbR := fnd_rg hb
    obtain ⟨g1, g2⟩ := wy_good hn hbR.lt
    have hbl := wy_len (ps := ps) h6 hbR
    have hbn := rg_len hbR
    have hrl : 0 < (sortW (fnd lk ps.length)).length := List.length_pos_of_mem (sortW_mem.mpr hb)
    have e : decide (D.tup [.str "pace", tsD (wyS ps b), .tup (h.map D.int)] = D.non) = false := decide_eq_false (fun z => by cases z)
    have e0 : decide (((mkL (sortW (fnd lk ps.length))).length : Int) = 0) = false := decide_eq_false (by rw [List.length_map]; omega)
    have hjt : jp ps ms lk ts mk (wyS ps b) h = true := by
      have h1 := hbR.jr hn
      have := hp b hb
      unfold jp
      rw [h1, wy_idx hn hbR.lt, stB_of hst]
      have z : ¬ tok mk b = 0 := by omega
      simp only [z, hst.1, decide_false, decide_true, Bool.not_false, Bool.true_and]
    have kj := judge_ok hn hm hl ht hk g2 hbl h
    rw [hjt] at kj
    have kl := law_stands_ok hn hm hl ht hk (d := .lst (b.map ni)) rfl hbR.lt (by omega) hst.1
    rw [← both hn hbR hst.1, hjt] at kl
    -- own places
    have q1 : ∀ y9 y10, mapF (.one 21) tYesD y5_law [x0, x1, .val (.lst (ntl M)), .val (netD ps ms), .val (nt mk), .val (nt ts), x6, .val (.lst (mkL (sortW (fnd lk ps.length)))), x8, y9, y10, x11, x12, x13, x14, x15, x16, x17, .val (plD ps), .val (msD ms), .val (.lst (lk.map lkD)), .no, x22, x23] (stl (wyS ps b)) = .ok (b.map ni) := fun y9 y10 => by
      have ew : b.map ni = (wyS ps b).map fun x => ni (ps.idxOf x) := by
        show _ = (wyS ps b).map (ni ∘ ps.idxOf)
        rw [← List.map_map, wy_idx hn hbR.lt]
      rw [ew, show stl (wyS ps b) = (wyS ps b).map D.str from rfl]
      exact mapF_enc fun x hx => ⟨_, rfl, rfl, by
        have j1 := at_pl hn (g1 x hx)
        unfold y5_law
        simp only [List.set_cons_succ, List.set_cons_zero]
        simp_arith [j1]⟩
    have z1 : (b.map ni).length ≤ 16777216 := by rw [List.length_map]; omega
    have tims : ∀ (f : Ev) (δ : Dl.Env) (w : List Nat), (∀ k ∈ w, k < ps.length) → (∀ k, k < ps.length → f (δ.set 22 (.val (ni k))) = .ok (ni (ts.getD (gv lk k) 0))) → mapF (.one 22) tYesD f δ (w.map ni) = .ok ((w.map fun k => ts.getD (gv lk k) 0).map ni) := fun f δ w hw hf => by
      rw [mapF_enc (g := fun k => ni (ts.getD (gv lk k) 0)) fun k hk => ⟨_, rfl, rfl, hf k (hw k hk)⟩, List.map_map]; rfl
    have toks : ∀ (f : Ev) (δ : Dl.Env) (w : List Nat), (∀ k ∈ w, k < ps.length) → (∀ k, k < ps.length → f (δ.set 22 (.val (ni k))) = .ok (ni (mk.getD k 0))) → mapF (.one 22) tYesD f δ (w.map ni) = .ok ((w.map fun k => mk.getD k 0).map ni) := fun f δ w hw hf => by
      rw [mapF_enc (g := fun k => ni (mk.getD k 0)) fun k hk => ⟨_, rfl, rfl, hf k (hw k hk)⟩, List.map_map]; rfl
    have ti : ∀ k, k < ps.length → ixD (nt ts) (.int ((gv lk k : Nat) : Int)) = some (ni (ts.getD (gv lk k) 0)) := fun k hk => nt_ix (by rw [hl]; exact (hn.bd k hk).1)
    have ki : ∀ k, k < ps.length → ixD (nt mk) (.int ((k : Nat) : Int)) = some (ni (mk.getD k 0)) := fun k hk => nt_ix (by rw [hm]; exact hk)
    have q2 : ∀ y9 y10 y11 y21, mapF (.one 22) tYesD y6_law [x0, x1, .val (.lst (ntl M)), .val (netD ps ms), .val (nt mk), .val (nt ts), x6, .val (.lst (mkL (sortW (fnd lk ps.length)))), x8, y9, y10, y11, x12, x13, x14, x15, x16, x17, .val (plD ps), .val (msD ms), .val (.lst (lk.map lkD)), y21, .no, x23] (b.map ni) = .ok ((b.map fun k => ts.getD (gv lk k) 0).map ni) := fun y9 y10 y11 y21 => tims _ _ b hbR.lt fun k hk => by
      have i1 := hlx hk
      have i2 := ti k hk
      unfold y6_law
      simp only [List.set_cons_succ, List.set_cons_zero]
      generalize lk.map lkD = LKD at *
      simp_arith [i1, i2]
    have q3 : ∀ y9 y10 y11 y12 y21, mapF (.one 22) tYesD y7_law [x0, x1, .val (.lst (ntl M)), .val (netD ps ms), .val (nt mk), .val (nt ts), x6, .val (.lst (mkL (sortW (fnd lk ps.length)))), x8, y9, y10, y11, y12, x13, x14, x15, x16, x17, .val (plD ps), .val (msD ms), .val (.lst (lk.map lkD)), y21, .no, x23] (b.map ni) = .ok ((b.map fun k => mk.getD k 0).map ni) := fun y9 y10 y11 y12 y21 => toks _ _ b hbR.lt fun k hk => by
      have i2 := ki k hk
      unfold y7_law
      simp only [List.set_cons_succ, List.set_cons_zero]
      simp_arith [i2]
    have z2 : ∀ w : List Nat, w.length ≤ ps.length → ((w.map fun k => ts.getD (gv lk k) 0).map ni).length ≤ 16777216 := fun w hw => by rw [List.length_map, List.length_map]; omega
    have z3 : ∀ w : List Nat, w.length ≤ ps.length → ((w.map fun k => mk.getD k 0).map ni).length ≤ 16777216 := fun w hw => by rw [List.length_map, List.length_map]; omega
    have s2 : ∀ w : List Nat, sumD [.lst ((w.map fun k => ts.getD (gv lk k) 0).map ni)] = some (.int (tim lk ts w : Nat)) := fun w => sum_ni _
    have s3 : ∀ w : List Nat, sumD [.lst ((w.map fun k => mk.getD k 0).map ni)] = some (.int (tok mk w : Nat)) := fun w => sum_ni _
    have tb := tok_le hk b
    -- no ring is slower
    obtain ⟨δ', q4, y13, hδ⟩ := forF_run (t := .one 13) (f := l1_law) (enc := nt) (fun pre δ => ∃ y13, δ = [x0, x1, .val (.lst (ntl M)), .val (netD ps ms), .val (nt mk), .val (nt ts), x6, .val (.lst (mkL (sortW (fnd lk ps.length)))), x8, .val (.tup [.str "pace", tsD (wyS ps b), .tup (h.map D.int)]), .val (.lst (b.map ni)), .val (.int (tim lk ts b : Nat)), .val (.int (tok mk b : Nat)), y13, x14, x15, x16, x17, .val (plD ps), .val (msD ms), .val (.lst (lk.map lkD)), x21, x22, x23]) (sortW (fnd lk ps.length))
      (δ := [x0, x1, .val (.lst (ntl M)), .val (netD ps ms), .val (nt mk), .val (nt ts), x6, .val (.lst (mkL (sortW (fnd lk ps.length)))), x8, .val (.tup [.str "pace", tsD (wyS ps b), .tup (h.map D.int)]), .val (.lst (b.map ni)), .val (.int (tim lk ts b : Nat)), .val (.int (tok mk b : Nat)), x13, x14, x15, x16, x17, .val (plD ps), .val (msD ms), .val (.lst (lk.map lkD)), x21, x22, x23]) ⟨x13, rfl⟩ (fun pre w δ hpre ⟨x13, hδ⟩ => by
        subst hδ
        have hw : w ∈ fnd lk ps.length := sortW_mem.mp (hpre.subset (by simp))
        have hwR := fnd_rg hw
        have hwl := rg_len hwR
        have p1 : mapF (.one 22) tYesD y8_law [x0, x1, .val (.lst (ntl M)), .val (netD ps ms), .val (nt mk), .val (nt ts), x6, .val (.lst (mkL (sortW (fnd lk ps.length)))), x8, .val (.tup [.str "pace", tsD (wyS ps b), .tup (h.map D.int)]), .val (.lst (b.map ni)), .val (.int (tim lk ts b : Nat)), .val (.int (tok mk b : Nat)), .val (nt w), x14, x15, x16, x17, .val (plD ps), .val (msD ms), .val (.lst (lk.map lkD)), x21, .no, x23] (ntl w) = .ok ((w.map fun k => ts.getD (gv lk k) 0).map ni) := tims _ _ w hwR.lt fun k hk => by
          have i1 := hlx hk
          have i2 := ti k hk
          unfold y8_law
          simp only [List.set_cons_succ, List.set_cons_zero]
          generalize lk.map lkD = LKD at *
          simp_arith [i1, i2]
        have p2 : mapF (.one 22) tYesD y9_law [x0, x1, .val (.lst (ntl M)), .val (netD ps ms), .val (nt mk), .val (nt ts), x6, .val (.lst (mkL (sortW (fnd lk ps.length)))), x8, .val (.tup [.str "pace", tsD (wyS ps b), .tup (h.map D.int)]), .val (.lst (b.map ni)), .val (.int (tim lk ts b : Nat)), .val (.int (tok mk b : Nat)), .val (nt w), x14, x15, x16, x17, .val (plD ps), .val (msD ms), .val (.lst (lk.map lkD)), x21, .no, x23] (ntl w) = .ok ((w.map fun k => mk.getD k 0).map ni) := toks _ _ w hwR.lt fun k hk => by
          have i2 := ki k hk
          unfold y9_law
          simp only [List.set_cons_succ, List.set_cons_zero]
          simp_arith [i2]
        have tw := tok_le hk w
        have m1 := mul_ni (tim lk ts w) (tok mk b) (by omega)
        have m2 := mul_ni (tim lk ts b) (tok mk w) (by omega)
        have hle := hbest w hw
        have e1 : decide (((tim lk ts b * tok mk w : Nat) : Int) < ((tim lk ts w * tok mk b : Nat) : Int)) = false := decide_eq_false (by omega)
        refine ⟨_, rfl, [x0, x1, .val (.lst (ntl M)), .val (netD ps ms), .val (nt mk), .val (nt ts), x6, .val (.lst (mkL (sortW (fnd lk ps.length)))), x8, .val (.tup [.str "pace", tsD (wyS ps b), .tup (h.map D.int)]), .val (.lst (b.map ni)), .val (.int (tim lk ts b : Nat)), .val (.int (tok mk b : Nat)), .val (nt w), x14, x15, x16, x17, .val (plD ps), .val (msD ms), .val (.lst (lk.map lkD)), x21, x22, x23], ?_, _, rfl⟩
        have z2 := z2 w hwl
        have z3 := z3 w hwl
        have s2 := s2 w
        have s3 := s3 w
        unfold l1_law
        simp only [List.set_cons_succ, List.set_cons_zero]
        generalize (w.map fun k => ts.getD (gv lk k) 0).map ni = W1 at *
        generalize (w.map fun k => mk.getD k 0).map ni = W2 at *
        generalize tim lk ts b * tok mk w = A at *
        generalize tim lk ts w * tok mk b = B at *
        generalize mkL (sortW (fnd lk ps.length)) = RLD at *
        generalize lk.map lkD = LKD at *
        generalize b.map ni = BD at *
        generalize h.map D.int = HD at *
        simp_arith [p1, z2, s2, m1, p2, z3, s3, m2, e1])
    subst hδ
    have q4 : forF (.one 13) l1_law (mkL (sortW (fnd lk ps.length))) _ = _ := q4
    have z2 := z2 b hbn
    have z3 := z3 b hbn
    have s2 := s2 b
    have s3 := s3 b
    have r3 := fun {x10 x11 x12 x13 : S} => rest3_ok (M := M) hn hm hl ht hk hM hb hst.1 (x0 := x0) (x1 := x1) (x6 := x6) (x8 := x8) (x10 := x10) (x11 := x11) (x12 := x12) (x13 := x13) (x14 := x14) (x15 := x15) (x16 := x16) (x17 := x17) (x21 := x21) (x22 := x22) (x23 := x23)
    unfold rest2
    generalize (b.map fun k => ts.getD (gv lk k) 0).map ni = W1 at *
    generalize (b.map fun k => mk.getD k 0).map ni = W2 at *
    generalize mkL (sortW (fnd lk ps.length)) = RLD at *
    generalize lk.map lkD = LKD at *
    generalize b.map ni = BD at *
    generalize h.map D.int = HD at *
    simp_arith [kp, e, e0, kj, q1, z1, kl, q2, z2, s2, q3, z3, s3, q4, r3]
theorem rest1_ok (hn : RN ps ms lk) (hm : mk.length = ps.length) (hl : ts.length = ms.length) (ht : ∀ x ∈ ts, x ≤ 999) (hk : ∀ x ∈ mk, x ≤ 999) (hM : M.length = 30) {x0 x1 x6 x7 x8 x9 x10 x11 x12 x13 x14 x15 x16 x17 x21 x22 x23 : S} :
    rest1 [x0, x1, .val (.lst (ntl M)), .val (netD ps ms), .val (nt mk), .val (nt ts), x6, x7, x8, x9, x10, x11, x12, x13, x14, x15, x16, x17, .val (plD ps), .val (msD ms), .val (.lst (lk.map lkD)), x21, x22, x23] = .ret (.bl true) := by
  have h6 := hn.six
  have klr := law_rings_ok hn.len h6
  have hwin : ∀ w ∈ sortW (fnd lk ps.length), ∀ k ∈ w, k < ps.length := fun w hw k hk => (fnd_rg (sortW_mem.mp hw)).lt k hk
  have q1 : ∀ y7, mapF (.one 13) c1_law y4_law [x0, x1, .val (.lst (ntl M)), .val (netD ps ms), .val (nt mk), .val (nt ts), x6, y7, x8, x9, x10, x11, x12, .no, x14, x15, x16, x17, .val (plD ps), .val (msD ms), .val (.lst (lk.map lkD)), x21, x22, x23] (mkL (sortW (fnd lk ps.length))) = .ok (mkL ((sortW (fnd lk ps.length)).filter fun w => decide (tok mk w = 0))) := fun y7 => mapF_filter fun w hw => ⟨_, rfl, by
    have hwl : w.length ≤ ps.length := (mem_fnd.mp (sortW_mem.mp hw)).1.len
    have j1 : mapF (.one 22) tYesD y3_law [x0, x1, .val (.lst (ntl M)), .val (netD ps ms), .val (nt mk), .val (nt ts), x6, y7, x8, x9, x10, x11, x12, .val (nt w), x14, x15, x16, x17, .val (plD ps), .val (msD ms), .val (.lst (lk.map lkD)), x21, .no, x23] (ntl w) = .ok ((w.map fun k => mk.getD k 0).map ni) := by
      rw [show ntl w = w.map ni from rfl, mapF_enc (g := fun k => ni (mk.getD k 0)) fun k hk => ⟨_, rfl, rfl, by
        have := nt_ix (m := mk) (k := k) (by rw [hm]; exact hwin w hw k hk)
        unfold y3_law
        simp only [List.set_cons_succ, List.set_cons_zero]
        simp_arith [this]⟩, List.map_map]
      rfl
    have hz : ((w.map fun k => mk.getD k 0).map ni).length ≤ 16777216 := by rw [List.length_map, List.length_map]; omega
    have hs : sumD [.lst ((w.map fun k => mk.getD k 0).map ni)] = some (.int ((tok mk w : Nat) : Int)) := sum_ni _
    have e := z_nat (tok mk w)
    unfold c1_law
    simp only [List.set_cons_succ, List.set_cons_zero]
    simp_arith [j1, hz, hs, e], fun _ => rfl⟩
  have hz1 : (mkL ((sortW (fnd lk ps.length)).filter fun w => decide (tok mk w = 0))).length ≤ 16777216 := by
    rw [List.length_map]
    have h0 := List.length_filter_le (fun w => decide (tok mk w = 0)) (sortW (fnd lk ps.length))
    have h1 : (sortW (fnd lk ps.length)).length = (fnd lk ps.length).length := by unfold sortW; rw [List.length_mergeSort]
    have h2 : (fnd lk ps.length).length ≤ 279936 * ps.length := Fl_sm (lk := lk) h6 (i := ps.length) (by omega)
    have : 279936 * ps.length ≤ 279936 * 6 := Nat.mul_le_mul_left _ h6
    omega
  have hep : decide ((0 : Int) < ((mkL ((sortW (fnd lk ps.length)).filter fun w => decide (tok mk w = 0))).length : Int)) = (sortW (fnd lk ps.length)).any fun w => decide (tok mk w = 0) := by
    have e1 : decide ((0 : Int) < ((mkL ((sortW (fnd lk ps.length)).filter fun w => decide (tok mk w = 0))).length : Int)) = decide (0 < ((sortW (fnd lk ps.length)).filter fun w => decide (tok mk w = 0)).length) := by rw [List.length_map, Bool.eq_iff_iff, decide_eq_true_eq, decide_eq_true_eq]; omega
    rw [e1, len_pos]
  have i5 : ixD (.lst (ntl M)) (.int 5) = some (.int ((M.getD 5 0 : Nat) : Int)) := ntl_ix 5 (by omega)
  have m5 : modD (.int ((M.getD 5 0 : Nat) : Int)) (.int 2) = some (.int ((M.getD 5 0 % 2 : Nat) : Int)) := mod_nat _ 2 (by decide)
  have l5 := Nat.mod_lt (M.getD 5 0) (y := 2) (by decide)
  generalize M.getD 5 0 % 2 = r5 at m5 l5
  have i7 : ixD (.lst (ntl M)) (.int 7) = some (.int ((M.getD 7 0 : Nat) : Int)) := ntl_ix 7 (by omega)
  have m7 : modD (.int ((M.getD 7 0 : Nat) : Int)) (.int 7) = some (.int ((M.getD 7 0 % 7 : Nat) : Int)) := mod_nat _ 7 (by decide)
  have l7 := Nat.mod_lt (M.getD 7 0) (y := 7) (by decide)
  generalize M.getD 7 0 % 7 = T at m7 l7
  unfold rest1
  cases hany : (sortW (fnd lk ps.length)).any fun w => decide (tok mk w = 0) with
  | true =>
    rw [hany] at hep
    obtain ⟨w, hw, hz⟩ := List.any_eq_true.mp hany
    have hwR := fnd_rg (sortW_mem.mp hw)
    have hr : ∃ x, m_paper_turns [netD ps ms, nt mk] = .ok (.tup [.str "ring", x]) := by
      rcases paper_ok hn hm with ⟨v, _, _, q⟩ | ⟨O, hO, _⟩
      · exact ⟨_, q⟩
      · exact absurd ((tok_zero hwR.lt).mp (of_decide_eq_true hz)) (hO.no hwR.cl)
    obtain ⟨x, hr⟩ := hr
    have kr := refuse_ring hn hm hl ht hr l5
    generalize mkL ((sortW (fnd lk ps.length)).filter fun w => decide (tok mk w = 0)) = ED at *
    generalize mkL (sortW (fnd lk ps.length)) = RLD at *
    generalize lk.map lkD = LKD at *
    simp_arith [klr, q1, hz1, hep, i5, m5, kr]
  | false =>
    rw [hany] at hep
    have hp : ∀ w ∈ fnd lk ps.length, 0 < tok mk w := fun w hw => by
      have := List.any_eq_false.mp hany w (sortW_mem.mpr hw)
      rw [decide_eq_true_eq] at this
      omega
    obtain ⟨O, hO, hpap⟩ : ∃ O, Ord lk (emp mk ps.length) ms.length O ∧ m_paper_turns [netD ps ms, nt mk] = .ok (.tup [.str "order", tsD (O.map nmM)]) := by
      rcases paper_ok hn hm with ⟨w, h1, h2, _⟩ | h
      · exfalso
        obtain ⟨v, hv, hvw⟩ := h1.found
        have := hp v hv
        have := (tok_zero (mk := mk) (fnd_rg hv).lt).mpr fun k hk => h2 k ((hvw k).mp hk)
        omega
      · exact h
    have kb := begins_ok (ts := ts) hn hm hl ht hO hpap (T := T) (by omega)
    have klb := law_begins_ok (ts := ts) hn hm hl hO (T := T) (by omega)
    have hne : neD (bgD lk ts mk ps.length O ms.length T) (bgD lk ts mk ps.length O ms.length T) = some (.bl false) := ne_fit (gd_mono (show 2 ≤ 64 by decide) (gd_tup (k := 1) fun x hx => by
      obtain ⟨j, _, rfl⟩ := List.mem_map.mp hx
      refine gd_tup (k := 0) fun y hy => ?_
      obtain ⟨t, _, rfl⟩ := List.mem_map.mp hy
      exact gd_int _))
    have r2 := fun {x8 x9 x13 : S} => rest2_ok (M := M) hn hm hl ht hk hM hp (x0 := x0) (x1 := x1) (x6 := x6) (x8 := x8) (x9 := x9) (x10 := x10) (x11 := x11) (x12 := x12) (x13 := x13) (x14 := x14) (x15 := x15) (x16 := x16) (x17 := x17) (x21 := x21) (x22 := x22) (x23 := x23)
    generalize bgD lk ts mk ps.length O ms.length T = BGD at *
    generalize mkL ((sortW (fnd lk ps.length)).filter fun w => decide (tok mk w = 0)) = ED at *
    generalize mkL (sortW (fnd lk ps.length)) = RLD at *
    generalize lk.map lkD = LKD at *
    simp_arith [klr, q1, hz1, hep, i7, m7, kb, klb, hne, r2]
end
theorem plain53 (ns : List Int) : m_law [.lst (ns.map D.int)] = .ok (.bl true) := by
  obtain ⟨c0, k0⟩ := cellS_ok ns 0
  have k0' : m__law_cell [.lst (ns.map D.int), .int 0] = .ok (.int c0) := k0
  obtain ⟨c1, k1⟩ := cellS_ok ns 1
  have k1' : m__law_cell [.lst (ns.map D.int), .int 1] = .ok (.int c1) := k1
  obtain ⟨L, hL, kd⟩ := drawsS_ok c0 30 (by decide)
  have kd' : m__law_draws [.int c0, .int 30] = .ok (.lst (ntl L)) := kd
  obtain ⟨M, hM, ke⟩ := drawsS_ok c1 30 (by decide)
  have ke' : m__law_draws [.int c1, .int 30] = .ok (.lst (ntl M)) := ke
  obtain ⟨ps, ms, lk, h, kn⟩ := ring_net hL
  have h1 := h.one
  have h6 := h.six
  have h4 := h.four
  have hc1 := h.cone
  have kN := net_ok h.net
  have hln : ((stl ps).length : Int) = ((ps.length : Nat) : Int) := by unfold stl; rw [List.length_map]
  have hr := rng_ni ps.length (by omega)
  have hmn := msl ms
  have hrc := rng_ni ms.length (by omega)
  have hi : initE 24 [.lst (ns.map D.int)] = [.val (.lst (ns.map D.int)), .no, .no, .no, .no, .no, .no, .no, .no, .no, .no, .no, .no, .no, .no, .no, .no, .no, .no, .no, .no, .no, .no, .no] := rfl
  let mk : List Nat := (List.range ps.length).map fun k => L.getD (16 + k) 0 % 3
  have hm : mk.length = ps.length := by show ((List.range ps.length).map _).length = _; rw [List.length_map, List.length_range]
  have hk : ∀ x ∈ mk, x ≤ 999 := fun x hx => by
    obtain ⟨k, _, rfl⟩ := List.mem_map.mp hx
    have := Nat.mod_lt (L.getD (16 + k) 0) (y := 3) (by decide)
    omega
  have qm : mapF (.one 22) tYesD y1_law [.val (.lst (ns.map D.int)), .val (.lst (ntl L)), .val (.lst (ntl M)), .val (netD ps ms), .no, .no, .no, .no, .no, .no, .no, .no, .no, .no, .no, .no, .no, .no, .val (plD ps), .val (msD ms), .val (.lst (lk.map lkD)), .no, .no, .no] ((List.range ps.length).map ni) = .ok (ntl mk) := by
    have e : ntl mk = (List.range ps.length).map fun k => ni (L.getD (16 + k) 0 % 3) := by
      show ((List.range ps.length).map _).map ni = _
      rw [List.map_map]; rfl
    rw [e]
    exact mapF_enc fun k hk => ⟨_, rfl, rfl, by
      have hk := List.mem_range.mp hk
      have j3 := ntl_ix (L := L) (16 + k) (by omega)
      have e : ((16 + k : Nat) : Int) = 16 + (k : Int) := Int.natCast_add 16 k
      rw [e] at j3
      have j4 : modD (.int ((L.getD (16 + k) 0 : Nat) : Int)) (.int 3) = some (.int ((L.getD (16 + k) 0 % 3 : Nat) : Int)) := mod_nat _ 3 (by decide)
      unfold y1_law
      simp only [List.set_cons_succ, List.set_cons_zero]
      generalize L.getD (16 + k) 0 % 3 = b3 at *
      simp_arith [j3, j4]⟩
  have hzm : (ntl mk).length ≤ 16777216 := by rw [ntl_len]; omega
  let ts : List Nat := (List.range ms.length).map fun k => M.getD k 0 % 9
  have hl : ts.length = ms.length := by show ((List.range ms.length).map _).length = _; rw [List.length_map, List.length_range]
  have ht : ∀ x ∈ ts, x ≤ 999 := fun x hx => by
    obtain ⟨k, _, rfl⟩ := List.mem_map.mp hx
    have := Nat.mod_lt (M.getD k 0) (y := 9) (by decide)
    omega
  have qt : ∀ x4, mapF (.one 22) tYesD y2_law [.val (.lst (ns.map D.int)), .val (.lst (ntl L)), .val (.lst (ntl M)), .val (netD ps ms), x4, .no, .no, .no, .no, .no, .no, .no, .no, .no, .no, .no, .no, .no, .val (plD ps), .val (msD ms), .val (.lst (lk.map lkD)), .no, .no, .no] ((List.range ms.length).map ni) = .ok (ntl ts) := fun x4 => by
    have e : ntl ts = (List.range ms.length).map fun k => ni (M.getD k 0 % 9) := by
      show ((List.range ms.length).map _).map ni = _
      rw [List.map_map]; rfl
    rw [e]
    exact mapF_enc fun k hk => ⟨_, rfl, rfl, by
      have hk := List.mem_range.mp hk
      have j3 := ntl_ix (L := M) k (by omega)
      have j4 : modD (.int ((M.getD k 0 : Nat) : Int)) (.int 9) = some (.int ((M.getD k 0 % 9 : Nat) : Int)) := mod_nat _ 9 (by decide)
      unfold y2_law
      simp only [List.set_cons_succ, List.set_cons_zero]
      generalize M.getD k 0 % 9 = b3 at *
      simp_arith [j3, j4]⟩
  have hzt : (ntl ts).length ≤ 16777216 := by rw [ntl_len]; omega
  -- wrong times
  have i4 : ixD (.lst (ntl M)) (.int 4) = some (.int ((M.getD 4 0 : Nat) : Int)) := ntl_ix 4 (by omega)
  have m4 : modD (.int ((M.getD 4 0 : Nat) : Int)) (.int 7) = some (.int ((M.getD 4 0 % 7 : Nat) : Int)) := mod_nat _ 7 (by decide)
  have l4 := Nat.mod_lt (M.getD 4 0) (y := 7) (by decide)
  generalize M.getD 4 0 % 7 = r4 at m4 l4
  have hwr : ∃ wd, ixD (.tup (wrg ts)) (.int ((r4 : Nat) : Int)) = some wd ∧ m_check_times [netD ps ms, wd] = .exc "BadNumbers" := by
    have hlt : r4 < (wrg ts).length := l4
    refine ⟨(wrg ts)[r4], ?_, wrg_no hl hc1 _ (List.getElem_mem hlt)⟩
    rw [ix_tup, List.getElem?_eq_getElem hlt]
  obtain ⟨wd, w1, w2⟩ := hwr
  unfold wrg at w1
  have sl : slD (.tup (ntl ts)) (some 1) none = some (.tup ((ntl ts).drop 1)) := cut_tup (ntl ts) 1
  have z1 : (ntl ts).length + 1 ≤ 16777216 := by rw [ntl_len]; omega
  have z2 : ((ntl ts).drop 1).length + 1 ≤ 16777216 := by rw [List.length_drop, ntl_len]; omega
  have i5 : ixD (.lst (ntl M)) (.int 5) = some (.int ((M.getD 5 0 : Nat) : Int)) := ntl_ix 5 (by omega)
  have m5 : modD (.int ((M.getD 5 0 : Nat) : Int)) (.int 3) = some (.int ((M.getD 5 0 % 3 : Nat) : Int)) := mod_nat _ 3 (by decide)
  have l5 := Nat.mod_lt (M.getD 5 0) (y := 3) (by decide)
  generalize M.getD 5 0 % 3 = r5 at m5 l5
  have kr1 : m__law_refusal [netD ps ms, .tup (ntl mk), wd, .int 1, .int (r5 : Int)] = .ok (.str "numbers") := wrong_times (mk := mk) h hm w2 l5
  -- wrong turns
  have i6 : ixD (.lst (ntl M)) (.int 6) = some (.int ((M.getD 6 0 : Nat) : Int)) := ntl_ix 6 (by omega)
  have m6 : modD (.int ((M.getD 6 0 : Nat) : Int)) (.int 3) = some (.int ((M.getD 6 0 % 3 : Nat) : Int)) := mod_nat _ 3 (by decide)
  have l6 := Nat.mod_lt (M.getD 6 0) (y := 3) (by decide)
  generalize M.getD 6 0 % 3 = r6 at m6 l6
  have htd : ∃ td, ixD (.tup [.int (-1), .int 100, .non]) (.int ((r6 : Nat) : Int)) = some td ∧ m__law_refusal [netD ps ms, .tup (ntl mk), .tup (ntl ts), td, .int 1] = .ok (.str "numbers") := by
    have f : ∀ e : D, _ → m__law_refusal [netD ps ms, .tup (ntl mk), .tup (ntl ts), e, .int 1] = .ok (.str "numbers") := fun e he => wrong_turns (mk := mk) (ts := ts) h hm hl ht (e := e) he
    match r6, l6 with
    | 0, _ => exact ⟨.int (-1), rfl, f _ (.inl (by rw [number_int]; rfl))⟩
    | 1, _ => exact ⟨.int 100, rfl, f _ (.inr ⟨by rw [number_int]; rfl, rfl⟩)⟩
    | 2, _ => exact ⟨.non, rfl, f _ (.inl (number_ok .non 0 (t := "NoneType") rfl))⟩
  obtain ⟨td, t1, t2⟩ := htd
  have enum : neD (.str "numbers") (.str "numbers") = some (.bl false) := by rw [ne_of]; rfl
  have r1 := fun {x6 : S} => rest1_ok (M := M) h hm hl ht hk hM (x0 := .val (.lst (ns.map D.int))) (x1 := .val (.lst (ntl L))) (x6 := x6) (x7 := .no) (x8 := .no) (x9 := .no) (x10 := .no) (x11 := .no) (x12 := .no) (x13 := .no) (x14 := .no) (x15 := .no) (x16 := .no) (x17 := .no) (x21 := .no) (x22 := .no) (x23 := .no)
  have hmt : nt mk = .tup (ntl mk) := rfl
  have htt : nt ts = .tup (ntl ts) := rfl
  rw [hmt, htt] at r1
  rw [law_cut]
  unfold runF headLaw
  rw [hi]
  generalize mk = mkk at *
  generalize ts = tss at *
  generalize hLK : D.lst (lk.map lkD) = LKD at *
  have hput : ∀ x0 x1 x2, (Tg.all [18, 19, 20]).put (.tup [plD ps, msD ms, LKD]) [x0, x1, x2, .no, .no, .no, .no, .no, .no, .no, .no, .no, .no, .no, .no, .no, .no, .no, .no, .no, .no, .no, .no, .no] = some [x0, x1, x2, .no, .no, .no, .no, .no, .no, .no, .no, .no, .no, .no, .no, .no, .no, .no, .val (plD ps), .val (msD ms), .val LKD, .no, .no, .no] := fun _ _ _ => rfl
  simp_arith [k0', kd', k1', ke', kn, hput, kN, hln, hr, qm, hzm, hmn, hrc, qt, hzt, sl, z1, z2, i4, m4, w1, i5, m5, kr1, i6, m6, t1, t2, enum, r1]
theorem plain {p : Prop} (ns : List Int) (hl : ns.length ≤ 63) (hb : p) : m_law [.lst (ns.map D.int)] = .ok (.bl true) := plain53 ns
end K53

set_option Elab.async false
set_option linter.all false
set_option maxRecDepth 100000
set_option maxHeartbeats 0
namespace K53
open PySem PySem.Spec PyProof.Rows L2 Dl
theorem at_law {w : World} {mg : Str → Option Value} {a : Addr} {h : Heap} (Y : hk.says w h) (G : h.Ns mainGlobals mg) (hmg : mg ("law" : Str) = some (.ref a)) : ∃ K : PySem.W.Frag, K.In h ∧ LamX.LawAtS PySem.Challenge.rw_tokenworks_k53_paces_of_rings w K (L2.CX (PySem.Challenge.rw_tokenworks_k53_paces_of_rings).prog w) 9 63 "script" mg a h := by
  obtain ⟨K, KX, c⟩ := Y
  have gl : mg ("law" : Str) = some (.ref (He.ga K "law")) := He.glo_ok KX G (He.SaysD.facts c.t.d (f := .glo "law") (by unfold fa; simp))
  have e := hmg.symm.trans gl
  cases e
  obtain ⟨fd, F⟩ := He.SaysD.defs c.t.d (d := d_fn_law) (by unfold fn; simp)
  have b := FunD.bindsA (ps := ["script"]) F fun _ _ _ _ _ _ us hl => match us, hl with | [_], _ => rfl
  refine ⟨K, KX, fd, tf.map (He.cT K), spD ⟨K, (PySem.Challenge.rw_tokenworks_k53_paces_of_rings).prog, w⟩ (MoD K tf) 1 m_law, fun p hp => ?_, fun p hp => ?_, fun p hp => ?_, fun s u => b s [u] rfl, fun H a ns hl hb ht hS => ?_, fun base hk hg ht => ?_⟩
  · obtain ⟨q, hq, rfl⟩ := List.mem_map.mp hp
    exact c.empty q hq
  · obtain ⟨q, hq, rfl⟩ := List.mem_map.mp hp
    exact c.out q hq
  · obtain ⟨q, hq, rfl⟩ := List.mem_map.mp hp
    exact PySem.W.codeHd_of_K KX (c.hd q hq)
  · refine ent_law (plain ns hl hb) (tabs_D fun q hq => ht (He.cT K q) (List.mem_map_of_mem hq)) hS
  · exact ok_law (P := (PySem.Challenge.rw_tokenworks_k53_paces_of_rings).prog) (w := w) ⟨hk, hg, c.t.d, c.more, fun p hp => ht (He.cT K p) (List.mem_map_of_mem hp)⟩ F
end K53
open PySem PySem.W PySem.Calls PyProof.Rows
theorem PySem.Challenge.cw_tokenworks_k53_paces_of_rings_holds : PySem.Challenge.rw_tokenworks_k53_paces_of_rings.Holds := by
  w_on; o_law
  refine HandSHeadRun.head_any (r := OpenLaw.row PySem.Challenge.rw_tokenworks_k53_paces_of_rings) (q := view (OpenLaw.row PySem.Challenge.rw_tokenworks_k53_paces_of_rings).prog [48]) (H := K53.hk) (ob := K53.ob) (M := 4000) (loose := K53.loose) (d := HandSHeadRun.topDef (OpenLaw.row PySem.Challenge.rw_tokenworks_k53_paces_of_rings).prog 48) (kwd := []) K53.ob_eq
    (by kernel_rfl) (fun s => by kernel_rfl) K53.run (by kernel_rfl) (by kernel_rfl) (by kernel_rfl) (by rfl) (by first | assumption | decide +kernel) (by decide +kernel) ⟨rfl, rfl, rfl, rfl, rfl, by decide +kernel⟩ ?hw ?hc
  case hw => w_witness2
  case hc =>
    refine LamX.walk_ofTsE (l := PySem.Challenge.rw_tokenworks_k53_paces_of_rings) (n := 63) (k := 9) (x := "script") (CX := fun w => L2.CX (PySem.Challenge.rw_tokenworks_k53_paces_of_rings).prog w) rfl (by decide) (by kernel_rfl) ⟨rfl, by decide, by decide⟩ ?F ?C
    case F =>
      intro w mg fa h Y G hmg0
      have hmg : mg ("law" : PySem.Str) = some (.ref fa) := by
        have e : (HandSHeadRun.topDef (OpenLaw.row PySem.Challenge.rw_tokenworks_k53_paces_of_rings).prog 48).name = ("law" : PySem.Str) := by kernel_rfl
        rw [← e]
        exact hmg0
      exact K53.at_law Y G hmg
    case C =>
      intro w H s e s' z
      obtain ⟨_, _, _, _, _, _, _, _, _, _, _, w⟩ := z
      exact w.2

