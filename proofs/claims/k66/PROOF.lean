import PyProof.Rows.All
import Wide.All
import OpenK.AllK
import Wide.FinOn
import PyProof.EqAt
import PyProof.EqKinds
import PyProof.TupleCall
import PySem.Challenge.RW_heapeffects_k66_distances_by_search
import HandS.Base
import HandS.Call
import HandS.List
import HandS.Comp
import HandS.TupAny
import KE.KRevSl
import HandS.Ends
import HandS.Dict
import HandS.Iter
import HandS.Text
import HandS.Words
import HandS.Exc
import HandS.Strs
import HandS.SortInts
import HandS.Wide
import HandS.RaiseMore
import KE.DataEq
import KE.KFromBytes
import HandS.EndBits
import HandS.IsInst
import HandS.SetFor
import HandS.Defaults
import KE.SortData
import PyProof.ReprRoads
import HandS.More
import KE.KDictPairs
import HandS.Style
import HandS.MakeKwOnly
import KE.KDictDisplayH
set_option Elab.async false
set_option autoImplicit false
set_option linter.all false
set_option maxRecDepth 100000
set_option maxHeartbeats 4000000
/-! L3, the ground: tuples whose one object is told (its dict: none), so that dict(t) can be asked. -/
namespace L3
open PySem PySem.Spec PyProof.Rows L2
/-- the told tuple at a -/
def TupF (H : Hp) (a : Addr) (vs : List V) : Prop := ∃ o, H a = some (.frz o (.tup vs)) ∧ o.dict = none
theorem TupF.q {K : PySem.W.Frag} {H : Hp} {a : Addr} {vs : List V} (h : TupF H a vs) : SqT K H a vs := let ⟨o, e, _⟩ := h; .inl (.inr ⟨o, e⟩)
abbrev ftup (us : List Value) : Obj := { cls := .type "tuple", data := .seq us.toArray }
theorem TupF.new {H : Hp} {p : Addr} {us : List Value} {vs : List V} : TupF (upd H p (.frz (ftup us) (.tup vs))) p vs := ⟨_, upd_same, rfl⟩
section
variable {X : Cx} {pins : List (Addr × Obj)} {σ : L2.St} {H : Hp} {s : Shared}
/-- a tuple just laid, told -/
theorem laidF {h' : Heap} {p : Addr} {us : List Value} {vs : List V} {tk : Nat} (I : L2.Inv X pins σ H s) (k : ∀ b u, s.heap.get? b = some u → h'.get? b = some u) (hp : s.heap.objs.size ≤ p) (hg : h'.get? p = some (ftup us)) (r : Vals vs us) (hz : vs.length ≤ sizeLine) :
    L2.Inv X pins σ (upd H p (.frz (ftup us) (.tup vs))) { s with heap := h', toks := tk } :=
  I.laid (t' := tk) k hp ⟨hg, hz, us, r, ⟨_, hg, rfl, _, rfl⟩⟩
end
section
variable {X : Cx} {es : List Expr} {t : TA} {pos : Pos}
def tTupF (t : TA) : TE := fun σ H Q => t σ H fun xs H1 => xs.length ≤ sizeLine ∧ ∀ p us, H1 p = none → Q (.ref p) (upd H1 p (.frz (ftup us) (.tup xs)))
theorem pe_tupF {x1} (h : PA X es t) : PE X (.Tuple es x1 pos) (tTupF t) := by
  refine ⟨fun pins s σ H Q I hq => ?_⟩
  refine wpAny_Tuple_spliced (thn (h.run pos pins s σ H _ I hq) fun us s1 ⟨xs, H1, I1, r, z, q⟩ => ⟨by rw [← r.length]; exact z, ?_⟩)
  exact ⟨.ref s1.heap.objs.size, _, laidF (tk := s1.toks) I1 (fun b u e => Heap.get?_push_of_some _ e) (Nat.le_refl _) (Heap.get?_push_size _ rfl) r z, rfl, q _ us (I1.hok.fresh (Nat.le_refl _))⟩
/-- t + u -/
def rCatF (K : PySem.W.Frag) : R2 := fun x y H Q => ∃ a b xs ys, x = .ref a ∧ y = .ref b ∧ SqT K H a xs ∧ SqT K H b ys ∧ xs.length + ys.length ≤ sizeLine ∧
  (xs = [] → Q (.ref b) H) ∧ (xs ≠ [] → ys = [] → Q (.ref a) H) ∧ (xs ≠ [] → ys ≠ [] → ∀ p us, H p = none → Q (.ref p) (upd H p (.frz (ftup us) (.tup (xs ++ ys)))))
theorem op_catF : OpR X (binaryOp .Add) (rCatF X.K) := by
  intro pins s σ H x y v u Q I rx ry h
  obtain ⟨a, b, xs, ys, rfl, rfl, ha, hb, hz, q0, q1, q2⟩ := h
  cases rx
  cases ry
  obtain ⟨its, r1, p1, _⟩ := I.tuple ha
  obtain ⟨its2, r2, p2, _⟩ := I.tuple hb
  by_cases hx : xs = []
  · subst hx
    cases r1
    exact cat_tup0 p1 p2 ⟨.ref b, H, I, rfl, q0 rfl⟩
  · refine HT.cat_tup p1 p2 (fun z => hx (r1.nil_iff.mp z)) (fun z => ⟨.ref a, H, I, rfl, q1 hx (r2.nil_iff.mp z)⟩) (fun z => ?_) (by rw [← r1.length, ← r2.length]; exact hz)
    exact ⟨.ref s.heap.objs.size, _, laidF (us := its ++ its2) (tk := s.toks) I (fun b ob q => Heap.get?_push_of_some _ q) (Nat.le_refl _) (Heap.get?_push_size _ rfl) (r1.append r2) (by rw [List.length_append]; exact hz), rfl, q2 hx (fun w => z (r2.nil_iff.mpr w)) _ _ (I.hok.fresh (Nat.le_refl _))⟩
/-- t[lo:hi] -/
def rSlF (K : PySem.W.Frag) : V → Option Int → Option Int → Hp → VK → Prop := fun x lo hi H Q => ∃ a xs, x = .ref a ∧ SqT K H a xs ∧
  (HT.sIx xs.length 0 lo = 0 ∧ HT.sIx xs.length xs.length hi = xs.length → Q (.ref a) H) ∧ (¬ (HT.sIx xs.length 0 lo = 0 ∧ HT.sIx xs.length xs.length hi = xs.length) → ∀ p us, H p = none → Q (.ref p) (upd H p (.frz (ftup us) (.tup (cutV xs lo hi)))))
theorem sl_tupF : L2.SlR X (rSlF X.K) := by
  intro pins s σ H x v vl vu lo hi sl Q I rx hs pl pu h
  obtain ⟨a, xs, rfl, hx, q1, q2⟩ := h
  cases rx
  obtain ⟨its, r, ht, hz⟩ := I.tuple hx
  have hlen : its.toArray.size = xs.length := by rw [List.size_toArray]; exact r.length.symm
  refine ⟨"tuple", _, PyProof.Rows.slot_tuple_getitem.lookup, ht.typeIs, ?_⟩
  by_cases hw : HT.sIx xs.length 0 lo = 0 ∧ HT.sIx xs.length xs.length hi = xs.length
  · exact getItem_tuple_whole ht hs pl pu (by rw [hlen]; exact hw) ⟨.ref a, H, I, rfl, q1 hw⟩
  · refine HT.getItem_tuple_cut ht hs pl pu (by rw [hlen]; exact hw) ?_ (by rw [hlen]; exact hz)
    rw [hlen]
    exact ⟨.ref s.heap.objs.size, _, laidF (tk := s.toks) I (fun b ob q => Heap.get?_push_of_some _ q) (Nat.le_refl _) (Heap.get?_push_size _ rfl) ((r.drop (HT.sIx xs.length 0 lo)).take (HT.sIx xs.length xs.length hi - HT.sIx xs.length 0 lo)) (Nat.le_trans (cutV_length xs lo hi) hz), rfl, q2 hw _ _ (I.hok.fresh (Nat.le_refl _))⟩
/-- tuple(x) -/
theorem call_tupleF : CallR X (.type "tuple") (fun xs H Q => ∃ p ys, xs = [.ref p] ∧ ((SqL X.K H p ys ∧ ∀ l us, H l = none → Q (.ref l) (upd H l (.frz (ftup us) (.tup ys)))) ∨ (SqT X.K H p ys ∧ Q (.ref p) H))) := by
  intro pins s σ H xs us Q I r h
  obtain ⟨p, ys, rfl, h⟩ := h
  obtain ⟨u, rfl, rx⟩ := vals1 r
  cases rx
  rcases h with ⟨hq, q⟩ | ⟨hq, q⟩
  · obtain ⟨its, r', pl, hz⟩ := I.list hq
    have hlen := r'.length
    refine call_tuple_list pl.isList (fun h' kp => ?_) (by simp only [List.size_toArray] <;> omega)
    have I1 : L2.Inv X pins σ H { s with heap := h' } := I.kept (t' := s.toks) kp
    exact ⟨.ref h'.objs.size, _, laidF (s := { s with heap := h' }) (tk := s.toks) I1 (fun b o e => Heap.get?_push_of_some _ e) (Nat.le_refl _) (Heap.get?_push_size _ rfl) r' hz, rfl, q _ _ (I1.hok.fresh (Nat.le_refl _))⟩
  · obtain ⟨its, r', pl, hz⟩ := I.tuple hq
    exact call_tuple_same pl ⟨.ref p, H, I, rfl, q⟩
end
/-! ### t[::-1] -/
section
variable {prog : Program} {w : World} {A : Around} {E : Value → Shared → Prop} {s : Shared}
theorem adjust_rev (n : Nat) : Builtin.Slice.sliceAdjust none none (-1) (n : Int) = ((n : Int) - 1, -1) := by
  unfold Builtin.Slice.sliceAdjust
  simp
theorem places_rev (n : Nat) : Builtin.Slice.slicePlaces ((n : Int) - 1) (-1) (-1) = n := by
  unfold Builtin.Slice.slicePlaces
  have h1 : ¬ ((-1 : Int) > 0) := by omega
  simp only [h1, if_false]
  split
  · simp only [Int.neg_neg, Int.ediv_one]; omega
  · omega
theorem applied_rev {sl : Addr} {vl vu vs : Value} {n : Nat} {Q : Int × Int × Nat → Shared → Prop} (hs : s.heap.IsSliceOf sl vl vu vs) (pl : IsPart vl none) (pu : IsPart vu none) (ps : IsPart vs (some (-1)))
    (h : Q ((n : Int) - 1, -1, n) s) : wpAny (model prog w) A (Builtin.Slice.sliceApplied (.ref sl) (pure (n : Int))) Q E s := by
  obtain ⟨os, hos, hcs, hds⟩ := id hs
  unfold Builtin.Slice.sliceApplied Builtin.Slice.sliceFields
  refine wpAny_bind (wpAny_bind (wpAny_field hos hds (x := vl) rfl (wpAny_bind (wpAny_field hos hds (x := vu) rfl (wpAny_bind (wpAny_field hos hds (x := vs) rfl (wpAny_pure ?_)))))))
  refine wpAny_bind (HT.slicePart_ ps ?_)
  show wpAny _ _ (if ((-1 : Int) == 0) = true then _ else _) _ _ s
  rw [if_neg (by decide)]
  refine wpAny_bind (HT.slicePart_ pl (wpAny_bind (HT.slicePart_ pu (wpAny_bind (wpAny_pure ?_)))))
  show wpAny _ _ (match Builtin.Slice.sliceAdjust none none (-1) (n : Int) with | (lo, hi) => pure (lo, (-1 : Int), Builtin.Slice.slicePlaces lo hi (-1))) _ _ s
  rw [adjust_rev]
  show wpAny _ _ (pure ((n : Int) - 1, (-1 : Int), Builtin.Slice.slicePlaces ((n : Int) - 1) (-1) (-1))) _ _ s
  rw [places_rev]
  exact wpAny_pure h
theorem fm_congr {α β : Type} {f g : α → Option β} : ∀ {l : List α}, (∀ x ∈ l, f x = g x) → l.filterMap f = l.filterMap g
  | [], _ => rfl
  | a :: l, h => by rw [List.filterMap_cons, List.filterMap_cons, h a List.mem_cons_self, fm_congr fun x hx => h x (List.mem_cons_of_mem _ hx)]
theorem pick_rev (xs : Array Value) : ((List.range xs.size).filterMap fun (m : Nat) => xs[(((xs.size : Int) - 1) + (m : Int) * (-1)).toNat]?).toArray = xs.toList.reverse.toArray := by
  congr 1
  have e : (List.range xs.size).filterMap (fun (m : Nat) => xs[(((xs.size : Int) - 1) + (m : Int) * (-1)).toNat]?) = ((List.range xs.size).map fun k => xs.size - 1 - k).filterMap (xs[·]?) := by
    rw [List.filterMap_map]
    refine fm_congr fun k hk => ?_
    have := List.mem_range.mp hk
    show xs[(((xs.size : Int) - 1) + (k : Int) * (-1)).toNat]? = xs[xs.size - 1 - k]?
    congr 1
    omega
  rw [e, PySem.W.krv_range, List.filterMap_reverse, PySem.W.krv_all]
theorem getItem_tuple_rev {t sl : Addr} {items : Array Value} {vl vu vs : Value} {Q : Value → Shared → Prop} (ht : IsTup s.heap t items) (hs : s.heap.IsSliceOf sl vl vu vs) (pl : IsPart vl none) (pu : IsPart vu none) (ps : IsPart vs (some (-1)))
    (h : Q (.ref s.heap.objs.size) { s with heap := s.heap.push { cls := .type "tuple", data := .seq items.toList.reverse.toArray } }) (hsz : items.size ≤ sizeLine) : wpAny (model prog w) A (getItem (.ref t) (.ref sl)) Q E s := by
  have hrev : sizeOk (.seq items.toList.reverse.toArray) := by
    show items.toList.reverse.toArray.size ≤ sizeLine
    rw [List.size_toArray, List.length_reverse, Array.length_toList]; exact hsz
  obtain ⟨os, hos, hcs, hds⟩ := id hs
  have hTs : s.TypeIs (.ref sl) "slice" := ⟨os, hos, hcs⟩
  unfold getItem
  try with_reducible refine wpAny_holding ?_
  first | refine wpAny_bind (wpAny_pure ?_) | skip
  refine wpAny_bind (wpAny_sequenceKey ht.typeIs (by decide) ?_)
  refine wpAny_bind (wpAny_callSpecial?_slot (name := Str.ofString "__getitem__") ht.typeIs PyProof.Rows.slot_tuple_getitem
    (wpAny_call_entry PyProof.Rows.slot_tuple_getitem ht.typeIs entry_tuple_getitem ?_ (args_tuple_getitem _ _)))
  show wpAny _ _ (Builtin.Tuple.tupleItemsOf (.ref t) >>= _) _ _ s
  refine wpAny_bind (tupleItemsOf_ ht ?_)
  refine wpAny_bind (wpAny_typeOf hTs ?_)
  rw [if_pos (by decide)]
  refine wpAny_bind (applied_rev hs pl pu ps ?_)
  show wpAny _ _ (if ((((items.size : Int) - 1) == 0) && ((-1 : Int) == 1) && (items.size == items.size)) = true then _ else _) _ _ s
  rw [if_neg (by simp), pick_rev]
  first
    | exact wpAny_bind (m := Builtin.Tuple.tupleExact _) (wpAny_newObj_type (wpAny_pure ⟨_, rfl, wpAny_pure h⟩) hrev)
    | exact wpAny_bind (m := Builtin.Tuple.tupleExact _) (wpAny_newObj_type (wpAny_bind (wpAny_pure (wpAny_pure ⟨_, rfl, wpAny_pure h⟩))) hrev)
    | exact wpAny_bind (wpAny_bind (m := Builtin.Tuple.tupleExact _) (wpAny_newObj_type (wpAny_pure (wpAny_pure ⟨_, rfl, wpAny_pure h⟩)) hrev))
    | exact wpAny_bind (wpAny_bind (m := Builtin.Tuple.tupleExact _) (wpAny_newObj_type (wpAny_pure ⟨_, rfl, wpAny_pure h⟩) hrev))
end
section
variable {X : Cx}
def tRevT (K : PySem.W.Frag) (te : TE) : TE := fun σ H Q => te σ H fun x H1 => ∃ a xs, x = .ref a ∧ SqT K H1 a xs ∧ ∀ p us, H1 p = none → Q (.ref p) (upd H1 p (.frz (ftup us) (.tup xs.reverse)))
theorem pe_revT {e : Expr} {te : TE} {k : Nat} {p1 p2 p3 pos : Pos} (he : PE X e te) : PE X (.Subscript e (.Slice none none (some (.UnaryOp .USub (.Constant (.int 1) k p1) p2)) p3) pos) (tRevT X.K te) := by
  refine ⟨fun pins s σ H Q I h => ?_⟩
  refine Subscript_ (thn (he.run pins s σ H _ I h) fun v s1 ⟨x, H1, I1, r1, a, xs, ex, hx, q⟩ => ?_)
  subst ex
  cases r1
  have hst : PO X (some (.UnaryOp .USub (.Constant (.int 1) k p1) p2)) (tPart (tUn (rU fun i => .int (-i)) (tC (.int 1)))) := po_some (pe_un un_neg pe_int)
  refine wpAny_Slice (thn (po_none.run pins s1 σ H1 (fun o H2 => o = none ∧ H2 = H1) I1 ⟨rfl, rfl⟩) fun vl s2 ⟨l, H2, I2, pl, el, e2⟩ => ?_)
  subst el e2
  refine thn (po_none.run pins s2 σ H2 (fun o H3 => o = none ∧ H3 = H2) I2 ⟨rfl, rfl⟩) fun vu s3 ⟨u, H3, I3, pu, eu, e3⟩ => ?_
  subst eu e3
  refine thn (hst.run pins s3 σ H3 (fun o H4 => o = some (-1) ∧ H4 = H3) I3 ⟨1, rfl, -1, rfl, rfl, rfl⟩) fun vs s4 ⟨o, H4, I4, ps, eo, e4⟩ => ?_
  subst eo e4
  have I5 : L2.Inv X pins σ H4 { s4 with heap := s4.heap.push { cls := .type "slice", data := .fields #[vl, vu, vs] } } := I4.kept (t' := s4.toks) fun b ob q => Heap.get?_push_of_some _ q
  obtain ⟨its, r, ht, hz⟩ := I5.tuple hx
  have hlen := r.length
  show wpAny (model X.prog X.w) X.A (subscriptTail e (.Slice none none (some (.UnaryOp .USub (.Constant (.int 1) k p1) p2)) p3) (.ref a) (.ref s4.heap.objs.size)) (EP X pins σ Q) X.xe { s4 with heap := s4.heap.push { cls := .type "slice", data := .fields #[vl, vu, vs] } }
  refine tail_any (ops := [.ref a, .ref s4.heap.objs.size]) ht.typeIs (PyProof.Rows.slot_tuple_getitem.lookup) ?_ (by with_unfolding_all rfl)
  refine getItem_tuple_rev ht (Heap.IsSliceOf.new _ vl vu vs) pl pu ps ?_ (by rw [List.size_toArray]; omega)
  exact ⟨.ref _, _, laidF (tk := s4.toks) I5 (fun b ob q => Heap.get?_push_of_some _ q) (Nat.le_refl _) (Heap.get?_push_size _ rfl) r.reverse (by rw [List.length_reverse]; exact hz), rfl, q _ _ (I5.hok.fresh (Nat.le_refl _))⟩
end
end L3
set_option Elab.async false
set_option autoImplicit false
set_option linter.all false
set_option maxRecDepth 100000
set_option maxHeartbeats 4000000
/-! L3: the layer of data over the hand layer: tuples are values, the heap tells of lists, dicts, instances alone. -/
namespace L3
open PySem L2
/-- a value as data: tuples without addresses; frl: a list that nobody writes -/
inductive D where
  | non | bl (b : Bool) | int (i : Int) | str (x : Str) | tup (ds : List D) | utup (ds : List D) | frl (ds : List D) | ref (a : Addr) | ty (n : String)
instance : Inhabited D := ⟨.non⟩
/-- a list that stays: known to the object, or of the module -/
def SqF (K : PySem.W.Frag) (H : Hp) (a : Addr) (xs : List V) : Prop :=
  (∃ o, H a = some (.frz o (.lst xs))) ∨
    ∃ (o : Obj) (its : Array Value) (n : Nat), K.lookup a = some o ∧ o.cls = .type "list" ∧ o.dict = none ∧ o.data = .seq its n ∧ its.size ≤ sizeLine ∧ Vals xs its.toList
theorem SqF.l {K : PySem.W.Frag} {H : Hp} {a : Addr} {xs : List V} (h : SqF K H a xs) : SqL K H a xs := by
  rcases h with ⟨o, h⟩ | h
  · exact .inl (.inr ⟨o, h⟩)
  · exact .inr h
theorem uq {K : PySem.W.Frag} {H : Hp} {a : Addr} {vs : List V} (h : H a = some (.tup vs)) : SqT K H a vs := .inl (.inl h)
mutual
def Rep (K : PySem.W.Frag) (H : Hp) : D → V → Prop
  | .non, v => v = .non
  | .bl b, v => v = .bl b
  | .int i, v => v = .int i
  | .str x, v => v = .str x
  | .ty n, v => v = .ty n
  | .ref a, v => v = .ref a
  | .tup ds, v => ∃ a vs, v = .ref a ∧ TupF H a vs ∧ Reps K H ds vs
  | .utup ds, v => ∃ a vs, v = .ref a ∧ H a = some (.tup vs) ∧ Reps K H ds vs
  | .frl ds, v => ∃ a vs, v = .ref a ∧ SqF K H a vs ∧ Reps K H ds vs
def Reps (K : PySem.W.Frag) (H : Hp) : List D → List V → Prop
  | [], vs => vs = []
  | d :: ds, vs => ∃ v r, vs = v :: r ∧ Rep K H d v ∧ Reps K H ds r
end
/-- what persists -/
structure Pst (K : PySem.W.Frag) (H H' : Hp) : Prop where
  t : ∀ (a : Addr) (vs : List V), TupF H a vs → TupF H' a vs
  u : ∀ (a : Addr) (vs : List V), H a = some (.tup vs) → H' a = some (.tup vs)
  f : ∀ a vs, SqF K H a vs → SqF K H' a vs
theorem Pst.refl {K : PySem.W.Frag} {H : Hp} : Pst K H H := ⟨fun _ _ h => h, fun _ _ h => h, fun _ _ h => h⟩
theorem Pst.trans {K : PySem.W.Frag} {H H1 H2 : Hp} (a : Pst K H H1) (b : Pst K H1 H2) : Pst K H H2 := ⟨fun x vs h => b.t x vs (a.t x vs h), fun x vs h => b.u x vs (a.u x vs h), fun x vs h => b.f x vs (a.f x vs h)⟩
mutual
theorem Rep.mono {K : PySem.W.Frag} {H H' : Hp} (p : Pst K H H') : ∀ (d : D) {v : V}, Rep K H d v → Rep K H' d v
  | .non, _, h => h
  | .bl _, _, h => h
  | .int _, _, h => h
  | .str _, _, h => h
  | .ty _, _, h => h
  | .ref _, _, h => h
  | .tup ds, _, ⟨a, vs, e, s, r⟩ => ⟨a, vs, e, p.t _ _ s, Reps.mono p ds r⟩
  | .utup ds, _, ⟨a, vs, e, s, r⟩ => ⟨a, vs, e, p.u _ _ s, Reps.mono p ds r⟩
  | .frl ds, _, ⟨a, vs, e, s, r⟩ => ⟨a, vs, e, p.f _ _ s, Reps.mono p ds r⟩
theorem Reps.mono {K : PySem.W.Frag} {H H' : Hp} (p : Pst K H H') : ∀ (ds : List D) {vs : List V}, Reps K H ds vs → Reps K H' ds vs
  | [], _, h => h
  | d :: ds, _, ⟨v, r, e, h, t⟩ => ⟨v, r, e, Rep.mono p d h, Reps.mono p ds t⟩
end
section
variable {K : PySem.W.Frag} {H H' : Hp}
theorem Reps.length : ∀ {ds : List D} {vs : List V}, Reps K H ds vs → vs.length = ds.length
  | [], _, h => by cases h; rfl
  | d :: ds, _, ⟨v, r, e, _, t⟩ => by subst e; rw [List.length_cons, List.length_cons, Reps.length t]
theorem Reps.nil : Reps K H [] [] := rfl
theorem Reps.cons {d : D} {v : V} {ds : List D} {vs : List V} (a : Rep K H d v) (b : Reps K H ds vs) : Reps K H (d :: ds) (v :: vs) := ⟨v, vs, rfl, a, b⟩
theorem Reps.append : ∀ {ds es : List D} {vs ws : List V}, Reps K H ds vs → Reps K H es ws → Reps K H (ds ++ es) (vs ++ ws)
  | [], _, _, _, h, t => by cases h; exact t
  | d :: ds, _, _, _, ⟨v, r, e, a, b⟩, t => by subst e; exact ⟨v, r ++ _, rfl, a, Reps.append b t⟩
theorem Reps.get : ∀ {ds : List D} {vs : List V} {i : Nat} {d : D}, Reps K H ds vs → ds[i]? = some d → ∃ v, vs[i]? = some v ∧ Rep K H d v
  | [], _, _, _, _, e => by simp at e
  | d :: ds, _, 0, d', ⟨v, r, e, a, b⟩, q => by
    have : d = d' := by simpa using q
    subst this; subst e; exact ⟨v, rfl, a⟩
  | d :: ds, _, i + 1, d', ⟨v, r, e, a, b⟩, q => by
    subst e
    obtain ⟨v', q1, q2⟩ := Reps.get (i := i) b (by simpa using q)
    exact ⟨v', by simpa using q1, q2⟩
theorem Reps.get_r : ∀ {ds : List D} {vs : List V} {i : Nat} {v : V}, Reps K H ds vs → vs[i]? = some v → ∃ d, ds[i]? = some d ∧ Rep K H d v
  | [], _, _, _, h, e => by cases h; simp at e
  | d :: ds, _, 0, v', ⟨v, r, e, a, b⟩, q => by
    subst e
    have : v = v' := by simpa using q
    subst this; exact ⟨d, rfl, a⟩
  | d :: ds, _, i + 1, v', ⟨v, r, e, a, b⟩, q => by
    subst e
    obtain ⟨d', q1, q2⟩ := Reps.get_r (i := i) b (by simpa using q)
    exact ⟨d', by simpa using q1, q2⟩
theorem Reps.take : ∀ {ds : List D} {vs : List V} (n : Nat), Reps K H ds vs → Reps K H (ds.take n) (vs.take n)
  | _, _, 0, _ => rfl
  | [], _, n + 1, h => by cases h; rfl
  | d :: ds, _, n + 1, ⟨v, r, e, a, b⟩ => by subst e; exact ⟨v, r.take n, rfl, a, Reps.take n b⟩
theorem Reps.drop : ∀ {ds : List D} {vs : List V} (n : Nat), Reps K H ds vs → Reps K H (ds.drop n) (vs.drop n)
  | _, _, 0, h => h
  | [], _, n + 1, h => by cases h; rfl
  | d :: ds, _, n + 1, ⟨v, r, e, a, b⟩ => by subst e; exact Reps.drop n b
theorem Reps.set : ∀ {ds : List D} {vs : List V} (n : Nat) {d : D} {v : V}, Reps K H ds vs → Rep K H d v → Reps K H (ds.set n d) (vs.set n v)
  | [], _, _, _, _, h, _ => by cases h; rfl
  | d :: ds, _, 0, _, _, ⟨v, r, e, a, b⟩, q => by subst e; exact ⟨_, _, rfl, q, b⟩
  | d :: ds, _, n + 1, _, _, ⟨v, r, e, a, b⟩, q => by subst e; exact ⟨_, _, rfl, a, Reps.set n b q⟩
theorem Reps.replicate {d : D} {v : V} (h : Rep K H d v) : ∀ n, Reps K H (List.replicate n d) (List.replicate n v)
  | 0 => rfl
  | n + 1 => ⟨v, _, rfl, h, Reps.replicate h n⟩
theorem Reps.rep {ds : List D} {vs : List V} (h : Reps K H ds vs) : ∀ n, Reps K H (List.replicate n ds).flatten (List.replicate n vs).flatten
  | 0 => rfl
  | n + 1 => by
    rw [List.replicate_succ, List.replicate_succ, List.flatten_cons, List.flatten_cons]
    exact Reps.append h (Reps.rep h n)
theorem Reps.reverse : ∀ {ds : List D} {vs : List V}, Reps K H ds vs → Reps K H ds.reverse vs.reverse
  | [], _, h => by cases h; rfl
  | d :: ds, _, ⟨v, r, e, a, b⟩ => by
    subst e
    rw [List.reverse_cons, List.reverse_cons]
    exact Reps.append (Reps.reverse b) (Reps.cons a Reps.nil)
theorem Reps.ints {ns : List Int} : Reps K H (ns.map .int) (ns.map V.int) := by
  induction ns with
  | nil => rfl
  | cons n r ih => exact ⟨_, _, rfl, rfl, ih⟩
theorem Reps.ints_eq : ∀ {ns : List Int} {vs : List V}, Reps K H (ns.map .int) vs → vs = ns.map V.int
  | [], _, h => h
  | n :: r, _, ⟨v, w, e, a, b⟩ => by
    have : v = .int n := a
    rw [e, this, Reps.ints_eq b]; rfl
theorem Reps.bls_eq : ∀ {ns : List Bool} {vs : List V}, Reps K H (ns.map .bl) vs → vs = ns.map V.bl
  | [], _, h => h
  | n :: r, _, ⟨v, w, e, a, b⟩ => by
    have : v = .bl n := a
    rw [e, this, Reps.bls_eq b]; rfl
theorem Reps.strs_eq : ∀ {ns : List Str} {vs : List V}, Reps K H (ns.map .str) vs → vs = ns.map V.str
  | [], _, h => h
  | n :: r, _, ⟨v, w, e, a, b⟩ => by
    have : v = .str n := a
    rw [e, this, Reps.strs_eq b]; rfl
end
/-- what the data heap tells of an address -/
inductive MO where
  | lst (ds : List D)
  | dK (kvs : List (Key × D))
  | dT (kvs : List (List Key × D))
  | rK (o : Obj) (ws : List (Key × V)) (kvs : List (Key × D))
  | set (w : World) (ns : List Int)
  | ins (C : Addr) (fs : List (Str × D))
abbrev Mh := Addr → Option MO
def updM (M : Mh) (a : Addr) (o : MO) : Mh := fun b => if b = a then some o else M b
def delM (M : Mh) (a : Addr) : Mh := fun b => if b = a then none else M b
@[simp] theorem updM_same {M : Mh} {a : Addr} {o : MO} : updM M a o a = some o := by unfold updM; rw [if_pos rfl]
theorem updM_ne {M : Mh} {a b : Addr} {o : MO} (h : b ≠ a) : updM M a o b = M b := by unfold updM; rw [if_neg h]
@[simp] theorem updM_updM {M : Mh} {a : Addr} {o u : MO} : updM (updM M a o) a u = updM M a u := by
  funext b; unfold updM; split <;> rfl
theorem updM_comm {M : Mh} {a b : Addr} {o u : MO} (h : a ≠ b) : updM (updM M a o) b u = updM (updM M b u) a o := by
  funext c; unfold updM; by_cases h1 : c = a <;> by_cases h2 : c = b <;> simp_all
theorem updM_id {M : Mh} {a : Addr} {o : MO} (h : M a = some o) : updM M a o = M := by
  funext b; unfold updM; by_cases e : b = a
  · subst e; rw [if_pos rfl, h]
  · rw [if_neg e]
theorem neM {M : Mh} {a b : Addr} {o : MO} (h : M a = some o) (h' : M b = none) : a ≠ b := by
  intro e; subst e; rw [h] at h'; cases h'
theorem neM' {M : Mh} {a b : Addr} {o : MO} (h : M a = some o) (h' : M b = none) : b ≠ a := fun e => neM h h' e.symm
abbrev RKV (K : PySem.W.Frag) (H : Hp) {κ : Type} : List (κ × D) → List (κ × V) → Prop := Paired fun p q => p.1 = q.1 ∧ Rep K H p.2 q.2
def RepO (K : PySem.W.Frag) (H : Hp) (a : Addr) : MO → Prop
  | .lst ds => ∃ vs, H a = some (.lst vs) ∧ Reps K H ds vs
  | .dK kvs => ∃ ws, H a = some (.dK ws) ∧ RKV K H kvs ws
  | .dT kvs => ∃ ws, H a = some (.dT ws) ∧ RKV K H kvs ws
  | .rK o ws kvs => H a = some (.frz o (.dK ws)) ∧ RKV K H kvs ws
  | .set w ns => H a = some (SetO w a (fun k => decide (k ∈ ns)) ns.length)
  | .ins C fs => ∃ dx ws, H a = some (.ins C dx ws) ∧ RKV K H fs ws
def RepM (K : PySem.W.Frag) (H : Hp) (M : Mh) : Prop := ∀ a o, M a = some o → RepO K H a o
/-- from (H, M) to (H', M'): what M does not tell of stays, and M' does not tell of it -/
def Stp (H : Hp) (M : Mh) (H' : Hp) (M' : Mh) : Prop := ∀ a o, H a = some o → M a = none → H' a = some o ∧ M' a = none
section
variable {K : PySem.W.Frag} {H H1 H2 H' : Hp} {M M1 M2 M' : Mh}
theorem Stp.refl : Stp H M H M := fun a o h n => ⟨h, n⟩
theorem Stp.trans (a : Stp H M H1 M1) (b : Stp H1 M1 H2 M2) : Stp H M H2 M2 := fun x o h n => let ⟨h1, n1⟩ := a x o h n; b x o h1 n1
/-- forgetting -/
theorem Stp.less (h : ∀ a, M a = none → M' a = none) : Stp H M H M' := fun a o e n => ⟨e, h a n⟩
theorem RepM.no {a : Addr} {u : HO} (r : RepM K H M) (h : H a = some u) (hn : ∀ o, RepO K H a o → H a ≠ some u) : M a = none := by
  cases e : M a with
  | none => rfl
  | some o => exact absurd h (hn o (r a o e))
theorem RepM.tup {a : Addr} {vs : List V} (r : RepM K H M) (h : H a = some (.tup vs)) : M a = none := r.no h fun o q z => by
  cases o with
  | lst ds => obtain ⟨_, e, _⟩ := q; rw [z] at e; cases e
  | dK ds => obtain ⟨_, e, _⟩ := q; rw [z] at e; cases e
  | dT ds => obtain ⟨_, e, _⟩ := q; rw [z] at e; cases e
  | rK o ws ds => obtain ⟨e, _⟩ := q; rw [z] at e; cases e
  | set w ns => have q' : H a = some (SetO w a (fun k => decide (k ∈ ns)) ns.length) := q; rw [z] at q'; cases q'
  | ins C fs => obtain ⟨_, _, e, _⟩ := q; rw [z] at e; cases e
theorem RepM.frz {a : Addr} {ob : Obj} {u : HO} (r : RepM K H M) (h : H a = some (.frz ob u)) (hu : ∀ ws, u ≠ .dK ws) : M a = none := r.no h fun o q z => by
  cases o with
  | lst ds => obtain ⟨_, e, _⟩ := q; rw [z] at e; cases e
  | dK ds => obtain ⟨_, e, _⟩ := q; rw [z] at e; cases e
  | dT ds => obtain ⟨_, e, _⟩ := q; rw [z] at e; cases e
  | rK o ws ds => obtain ⟨e, _⟩ := q; rw [z] at e; cases e; exact hu _ rfl
  | set w ns => have q' : H a = some (SetO w a (fun k => decide (k ∈ ns)) ns.length) := q; rw [z] at q'; cases q'
  | ins C fs => obtain ⟨_, _, e, _⟩ := q; rw [z] at e; cases e
theorem Stp.pst (s : Stp H M H' M') (r : RepM K H M) : Pst K H H' := by
  refine ⟨fun a vs ⟨o, h, z⟩ => ⟨o, (s a _ h (r.frz h fun _ => nofun)).1, z⟩, fun a vs h => ?_, fun a vs h => ?_⟩
  · exact (s a _ h (r.tup h)).1
  · rcases h with ⟨o, h⟩ | h
    · exact .inl ⟨o, (s a _ h (r.frz h fun _ => nofun)).1⟩
    · exact .inr h
theorem RKV.mono {κ : Type} (p : Pst K H H') {kvs : List (κ × D)} {ws : List (κ × V)} (h : RKV K H kvs ws) : RKV K H' kvs ws := Paired.mapP h fun _ _ q => ⟨q.1, q.2.mono p⟩
theorem RepM.fresh {a : Addr} (r : RepM K H M) (h : H a = none) : M a = none := by
  cases e : M a with
  | none => rfl
  | some o =>
    have q := r a o e
    cases o with
    | lst ds => obtain ⟨_, e, _⟩ := q; rw [h] at e; cases e
    | dK ds => obtain ⟨_, e, _⟩ := q; rw [h] at e; cases e
    | dT ds => obtain ⟨_, e, _⟩ := q; rw [h] at e; cases e
    | rK o ws ds => obtain ⟨e, _⟩ := q; rw [h] at e; cases e
    | set w ns => have q' : H a = some (SetO w a (fun k => decide (k ∈ ns)) ns.length) := q; rw [h] at q'; cases q'
    | ins C fs => obtain ⟨_, _, e, _⟩ := q; rw [h] at e; cases e
/-- an object's tale carried over -/
theorem RepO.mono (p : Pst K H H') {a : Addr} {o : MO} (h : RepO K H a o) (e : H' a = H a) : RepO K H' a o := by
  cases o with
  | lst ds => obtain ⟨vs, e1, q⟩ := h; exact ⟨vs, e.trans e1, q.mono p⟩
  | dK ds => obtain ⟨vs, e1, q⟩ := h; exact ⟨vs, e.trans e1, RKV.mono p q⟩
  | dT ds => obtain ⟨vs, e1, q⟩ := h; exact ⟨vs, e.trans e1, RKV.mono p q⟩
  | rK o ws ds => obtain ⟨e1, q⟩ := h; exact ⟨e.trans e1, RKV.mono p q⟩
  | set w ns => exact e.trans (show H a = some (SetO w a (fun k => decide (k ∈ ns)) ns.length) from h)
  | ins C fs => obtain ⟨dx, vs, e1, q⟩ := h; exact ⟨dx, vs, e.trans e1, RKV.mono p q⟩
/-- a new object, told -/
theorem Pst.new {p : Addr} {o : HO} (h : H p = none) : Pst K H (upd H p o) := by
  have k : ∀ a u, H a = some u → upd H p o a = some u := fun a u e => by rw [upd_ne (ne_of_none e h)]; exact e
  refine ⟨fun a vs ⟨o, q, z⟩ => ⟨o, k _ _ q, z⟩, fun a vs q => ?_, fun a vs q => ?_⟩
  · exact k _ _ q
  · rcases q with ⟨o', q⟩ | q
    · exact .inl ⟨o', k _ _ q⟩
    · exact .inr q
theorem Stp.new {p : Addr} {o : HO} {m : MO} (h : H p = none) : Stp H M (upd H p o) (updM M p m) := fun a u e n => by
  have ne := ne_of_none e h
  rw [upd_ne ne, updM_ne ne]; exact ⟨e, n⟩
theorem Stp.newU {p : Addr} {o : HO} (h : H p = none) : Stp H M (upd H p o) M := fun a u e n => by
  have ne := ne_of_none e h
  rw [upd_ne ne]; exact ⟨e, n⟩
theorem RepM.newU {p : Addr} {o : HO} (r : RepM K H M) (h : H p = none) : RepM K (upd H p o) M := fun a u e => by
  have ne : a ≠ p := fun z => by subst z; rw [r.fresh h] at e; cases e
  exact (r a u e).mono (Pst.new h) (upd_ne ne)
theorem RepM.new {p : Addr} {o : HO} {m : MO} (r : RepM K H M) (h : H p = none) (q : RepO K (upd H p o) p m) : RepM K (upd H p o) (updM M p m) := fun a u e => by
  by_cases z : a = p
  · subst z; rw [updM_same] at e; cases e; exact q
  · rw [updM_ne z] at e
    exact (r a u e).mono (Pst.new h) (upd_ne z)
/-- an object that M tells of, written -/
theorem Stp.wr {p : Addr} {o : HO} {m u : MO} (h : M p = some u) : Stp H M (upd H p o) (updM M p m) := fun a v e n => by
  have ne : a ≠ p := fun z => by subst z; rw [h] at n; cases n
  rw [upd_ne ne, updM_ne ne]; exact ⟨e, n⟩
theorem RepM.wr {p : Addr} {o : HO} {m u : MO} (r : RepM K H M) (h : M p = some u) (q : RepO K (upd H p o) p m) : RepM K (upd H p o) (updM M p m) := fun a v e => by
  have P : Pst K H (upd H p o) := (Stp.wr (o := o) (m := m) h).pst r
  by_cases z : a = p
  · subst z; rw [updM_same] at e; cases e; exact q
  · rw [updM_ne z] at e
    exact (r a v e).mono P (upd_ne z)
theorem RepM.less (r : RepM K H M) (h : ∀ a o, M' a = some o → M a = some o) : RepM K H M' := fun a o e => r a o (h a o e)
end
/-! ### the slots -/
abbrev Sd := List (Option D)
structure RepSt (K : PySem.W.Frag) (H : Hp) (δ : Sd) (σ : St) : Prop where
  len : δ.length = σ.length
  at_ : ∀ (i : Nat) (d : D), δ[i]? = some (some d) → ∃ v, σ[i]? = some (some v) ∧ Rep K H d v
section
variable {K : PySem.W.Frag} {H H' : Hp} {δ : Sd} {σ : St}
theorem RepSt.mono (p : Pst K H H') (r : RepSt K H δ σ) : RepSt K H' δ σ := ⟨r.len, fun i d e => let ⟨v, h1, h2⟩ := r.at_ i d e; ⟨v, h1, h2.mono p⟩⟩
theorem RepSt.set {d : D} {v : V} (r : RepSt K H δ σ) (i : Nat) (h : Rep K H d v) : RepSt K H (δ.set i (some d)) (σ.set i (some v)) := by
  refine ⟨by rw [List.length_set, List.length_set, r.len], fun j d' e => ?_⟩
  by_cases z : i = j
  · subst z
    by_cases hl : i < δ.length
    · rw [List.getElem?_set_self hl] at e
      cases e
      exact ⟨v, List.getElem?_set_self (by rw [← r.len]; exact hl), h⟩
    · rw [List.getElem?_eq_none (by simpa using hl)] at e; cases e
  · rw [List.getElem?_set_ne z] at e
    obtain ⟨v', h1, h2⟩ := r.at_ j d' e
    exact ⟨v', by rw [List.getElem?_set_ne z]; exact h1, h2⟩
theorem RepSt.unset (r : RepSt K H δ σ) (i : Nat) : RepSt K H (δ.set i none) (σ.set i none) := by
  refine ⟨by rw [List.length_set, List.length_set, r.len], fun j d' e => ?_⟩
  by_cases z : i = j
  · subst z
    by_cases hl : i < δ.length
    · rw [List.getElem?_set_self hl] at e; cases e
    · rw [List.getElem?_eq_none (by simpa using hl)] at e; cases e
  · rw [List.getElem?_set_ne z] at e
    obtain ⟨v', h1, h2⟩ := r.at_ j d' e
    exact ⟨v', by rw [List.getElem?_set_ne z]; exact h1, h2⟩
/-- slots forgotten -/
theorem RepSt.unsetL (r : RepSt K H δ σ) (i : Nat) : RepSt K H (δ.set i none) σ := by
  refine ⟨by rw [List.length_set, r.len], fun j d' e => ?_⟩
  by_cases z : i = j
  · subst z
    by_cases hl : i < δ.length
    · rw [List.getElem?_set_self hl] at e; cases e
    · rw [List.getElem?_eq_none (by simpa using hl)] at e; cases e
  · rw [List.getElem?_set_ne z] at e
    exact r.at_ j d' e
end
def wipeD (δ : Sd) : List Nat → Sd
  | [] => δ
  | v :: vs => (wipeD δ vs).set v none
theorem RepSt.wipe {K : PySem.W.Frag} {H : Hp} {δ : Sd} {σ : St} (r : RepSt K H δ σ) : ∀ vs, RepSt K H (wipeD δ vs) (wipe σ vs)
  | [] => r
  | v :: vs => (r.wipe vs).unset v
theorem RepSt.start {K : PySem.W.Frag} {H : Hp} {ds : List D} {vs : List V} (N : List Str) (r : Reps K H ds vs) : RepSt K H (ds.map some ++ List.replicate (N.length - ds.length) none) (L2.start N vs) := by
  have hl := r.length
  unfold L2.start
  refine ⟨by simp [hl], fun i d e => ?_⟩
  by_cases hi : i < ds.length
  · rw [List.getElem?_append_left (by simpa using hi), List.getElem?_map] at e
    cases q : ds[i]? with
    | none => rw [q] at e; cases e
    | some d' =>
      rw [q] at e
      have : d' = d := by simpa using e
      subst this
      obtain ⟨v, h1, h2⟩ := r.get q
      exact ⟨v, by rw [List.getElem?_append_left (by rw [List.length_map, hl]; exact hi), List.getElem?_map, h1]; rfl, h2⟩
  · rw [List.getElem?_append_right (by simpa using hi), List.getElem?_replicate] at e
    split at e <;> cases e
/-! ### readings over data -/
abbrev QE := D → Mh → Prop
abbrev TEd := Sd → Mh → QE → Prop
abbrev TTd := Sd → Mh → (Bool → Mh → Prop) → Prop
abbrev TAd := Sd → Mh → (List D → Mh → Prop) → Prop
structure Endd where
  nx : Sd → Mh → Prop
  rt : D → Mh → Prop
  bk : Sd → Mh → Prop := fun _ _ => False
  ct : Sd → Mh → Prop := fun _ _ => False
abbrev TSd := Endd → Sd → Mh → Prop
abbrev TGd := D → Sd → Mh → (Sd → Mh → Prop) → Prop
abbrev TGsd := List D → Sd → Mh → (Sd → Mh → Prop) → Prop
/-- what is wanted at the data implies what is wanted at the values -/
def CqE (K : PySem.W.Frag) (H : Hp) (M : Mh) (Q0 : QE) (Q : VK) : Prop := ∀ d M' v H', Q0 d M' → Stp H M H' M' → RepM K H' M' → Rep K H' d v → Q v H'
def CqT (K : PySem.W.Frag) (H : Hp) (M : Mh) (Q0 : Bool → Mh → Prop) (Q : Bool → Hp → Prop) : Prop := ∀ b M' H', Q0 b M' → Stp H M H' M' → RepM K H' M' → Q b H'
def CqA (K : PySem.W.Frag) (H : Hp) (M : Mh) (Q0 : List D → Mh → Prop) (Q : List V → Hp → Prop) : Prop := ∀ ds M' vs H', Q0 ds M' → Stp H M H' M' → RepM K H' M' → Reps K H' ds vs → Q vs H'
def CqG (K : PySem.W.Frag) (H : Hp) (M : Mh) (vs : List Nat) (σ : St) (Q0 : Sd → Mh → Prop) (Q : St → Hp → Prop) : Prop := ∀ δ' M' σ' H', Q0 δ' M' → Stp H M H' M' → RepM K H' M' → RepSt K H' δ' σ' → L2.wipe σ' vs = L2.wipe σ vs → Q σ' H'
def CqN (K : PySem.W.Frag) (H : Hp) (M : Mh) (Q0 : Sd → Mh → Prop) (Q : St → Hp → Prop) : Prop := ∀ δ' M' σ' H', Q0 δ' M' → Stp H M H' M' → RepM K H' M' → RepSt K H' δ' σ' → Q σ' H'
structure CqS (K : PySem.W.Frag) (H : Hp) (M : Mh) (E : Endd) (Dn : Ends) : Prop where
  nx : CqN K H M E.nx Dn.nx
  rt : CqE K H M E.rt Dn.rt
  bk : CqN K H M E.bk Dn.bk
  ct : CqN K H M E.ct Dn.ct
section
variable {K : PySem.W.Frag} {H H' : Hp} {M M' : Mh}
theorem CqE.step {Q0 : QE} {Q : VK} (h : CqE K H M Q0 Q) (s : Stp H M H' M') : CqE K H' M' Q0 Q := fun d M2 v H2 q t r e => h d M2 v H2 q (s.trans t) r e
theorem CqT.step {Q0 : Bool → Mh → Prop} {Q : Bool → Hp → Prop} (h : CqT K H M Q0 Q) (s : Stp H M H' M') : CqT K H' M' Q0 Q := fun d M2 H2 q t r => h d M2 H2 q (s.trans t) r
theorem CqA.step {Q0 : List D → Mh → Prop} {Q : List V → Hp → Prop} (h : CqA K H M Q0 Q) (s : Stp H M H' M') : CqA K H' M' Q0 Q := fun d M2 v H2 q t r e => h d M2 v H2 q (s.trans t) r e
theorem CqN.step {Q0 : Sd → Mh → Prop} {Q : St → Hp → Prop} (h : CqN K H M Q0 Q) (s : Stp H M H' M') : CqN K H' M' Q0 Q := fun d M2 v H2 q t r e => h d M2 v H2 q (s.trans t) r e
theorem CqS.step {E : Endd} {Dn : Ends} (h : CqS K H M E Dn) (s : Stp H M H' M') : CqS K H' M' E Dn := ⟨h.nx.step s, h.rt.step s, h.bk.step s, h.ct.step s⟩
end
/-! ### exceptions, the state -/
abbrev XKd := Addr → List (Str × D) → Mh → Prop
abbrev XSd := Addr → List (Str × D) → Sd → Mh → Prop
/-- an exception's own dict -/
def XFld (K : PySem.W.Frag) (H : Hp) (fs : List (Str × D)) (d : Option Addr) : Prop := (∃ dd ws, d = some dd ∧ H dd = some (.xd ws) ∧ RKV K H fs ws) ∨ (d = none ∧ fs = [])
/-- what is wanted of an exception: at the data, at the values -/
structure Xw where
  W0 : XSd
  W : WX
def xw0 : Xw := ⟨fun _ _ _ _ => False, fun _ _ _ _ => False⟩
def CqW (K : PySem.W.Frag) (H : Hp) (M : Mh) (x : Xw) : Prop := ∀ C fs δ' M' σ' H' d, x.W0 C fs δ' M' → Stp H M H' M' → RepM K H' M' → RepSt K H' δ' σ' → XFld K H' fs d → x.W (.ref C) d σ' H'
/-- the state: slots, heap, what is wanted of exceptions -/
structure Rst (K : PySem.W.Frag) (x : Xw) (δ : Sd) (M : Mh) (σ : St) (H : Hp) : Prop where
  s : RepSt K H δ σ
  m : RepM K H M
  w : CqW K H M x
section
variable {K : PySem.W.Frag} {x : Xw} {δ δ' : Sd} {M M' : Mh} {σ σ' : St} {H H' : Hp}
theorem CqW.step (h : CqW K H M x) (s : Stp H M H' M') : CqW K H' M' x := fun C fs δ2 M2 σ2 H2 d q t r e f => h C fs δ2 M2 σ2 H2 d q (s.trans t) r e f
theorem CqW.zero : CqW K H M xw0 := fun _ _ _ _ _ _ _ q => q.elim
theorem Rst.step (r : Rst K x δ M σ H) (t : Stp H M H' M') (m : RepM K H' M') : Rst K x δ M' σ H' := ⟨r.s.mono (t.pst r.m), m, r.w.step t⟩
theorem Rst.to (r : Rst K x δ M σ H) (t : Stp H M H' M') (m : RepM K H' M') (s : RepSt K H' δ' σ') : Rst K x δ' M' σ' H' := ⟨s, m, r.w.step t⟩
theorem Rst.zero (r : Rst K x δ M σ H) : Rst K xw0 δ M σ H := ⟨r.s, r.m, CqW.zero⟩
theorem Stp.rep (t : Stp H M H' M') (r : Rst K x δ M σ H) {d : D} {v : V} (e : Rep K H d v) : Rep K H' d v := e.mono (t.pst r.m)
theorem Stp.reps (t : Stp H M H' M') (r : Rst K x δ M σ H) {d : List D} {v : List V} (e : Reps K H d v) : Reps K H' d v := e.mono (t.pst r.m)
end
def liE (K : PySem.W.Frag) (x : Xw) (T : TEd) : TE := fun σ H Q => ∃ δ M Q0, Rst K x δ M σ H ∧ T δ M Q0 ∧ CqE K H M Q0 Q
def liT (K : PySem.W.Frag) (x : Xw) (T : TTd) : TT := fun σ H Q => ∃ δ M Q0, Rst K x δ M σ H ∧ T δ M Q0 ∧ CqT K H M Q0 Q
def liA (K : PySem.W.Frag) (x : Xw) (T : TAd) : TA := fun σ H Q => ∃ δ M Q0, Rst K x δ M σ H ∧ T δ M Q0 ∧ CqA K H M Q0 Q
def liS (K : PySem.W.Frag) (x : Xw) (T : TSd) : TS := fun Dn σ H => ∃ δ M E, Rst K x δ M σ H ∧ T E δ M ∧ CqS K H M E Dn
def liG (K : PySem.W.Frag) (x : Xw) (vs : List Nat) (T : TGd) : TG := fun v σ H Q => ∃ d δ M Q0, Rep K H d v ∧ Rst K x δ M σ H ∧ T d δ M Q0 ∧ CqG K H M vs σ Q0 Q
def liGs (K : PySem.W.Frag) (x : Xw) (vs : List Nat) (T : TGsd) : TGs := fun xs σ H Q => ∃ ds δ M Q0, Reps K H ds xs ∧ Rst K x δ M σ H ∧ T ds δ M Q0 ∧ CqG K H M vs σ Q0 Q
abbrev DE (X : Cx) (x : Xw) (e : Expr) (T : TEd) : Prop := PE X e (liE X.K x T)
abbrev DT (X : Cx) (x : Xw) (e : Expr) (T : TTd) : Prop := PT X e (liT X.K x T)
abbrev DW (X : Cx) (x : Xw) (e : Expr) (T : TTd) : Prop := PW X e (liT X.K x T)
abbrev DA (X : Cx) (x : Xw) (es : List Expr) (T : TAd) : Prop := PA X es (liA X.K x T)
abbrev DS (X : Cx) (x : Xw) (s : Stmt) (T : TSd) : Prop := PS X s (liS X.K x T)
abbrev DSs (X : Cx) (x : Xw) (s : List Stmt) (T : TSd) : Prop := PSs X s (liS X.K x T)
abbrev DG (X : Cx) (x : Xw) (vs : List Nat) (e : Expr) (T : TGd) : Prop := PG X e (liG X.K x vs T)
abbrev DGs (X : Cx) (x : Xw) (vs : List Nat) (es : List Expr) (T : TGsd) : Prop := PGs X es (liGs X.K x vs T)
theorem PE.cv {X : Cx} {e : Expr} {t u : TE} (h : PE X e t) (c : ∀ σ H Q, u σ H Q → t σ H Q) : PE X e u := ⟨fun pins s σ H Q I q => h.run pins s σ H Q I (c σ H Q q)⟩
theorem PT.cv {X : Cx} {e : Expr} {t u : TT} (h : PT X e t) (c : ∀ σ H Q, u σ H Q → t σ H Q) : PT X e u := ⟨fun pins s σ H Q I q => h.run pins s σ H Q I (c σ H Q q)⟩
theorem PW.cv {X : Cx} {e : Expr} {t u : TT} (h : PW X e t) (c : ∀ σ H Q, u σ H Q → t σ H Q) : PW X e u := ⟨fun wh pins s σ H Q I q => h.run wh pins s σ H Q I (c σ H Q q)⟩
theorem PA.cv {X : Cx} {e : List Expr} {t u : TA} (h : PA X e t) (c : ∀ σ H Q, u σ H Q → t σ H Q) : PA X e u := ⟨fun pos pins s σ H Q I q => h.run pos pins s σ H Q I (c σ H Q q)⟩
theorem PS.cv {X : Cx} {e : Stmt} {t u : TS} (h : PS X e t) (c : ∀ D σ H, u D σ H → t D σ H) : PS X e u := ⟨fun pins s σ H D I q => h.run pins s σ H D I (c D σ H q)⟩
theorem PSs.cv {X : Cx} {e : List Stmt} {t u : TS} (h : PSs X e t) (c : ∀ D σ H, u D σ H → t D σ H) : PSs X e u := ⟨fun pins s σ H D I q => h.run pins s σ H D I (c D σ H q)⟩
theorem PG.cv {X : Cx} {e : Expr} {t u : TG} (h : PG X e t) (c : ∀ v σ H Q, u v σ H Q → t v σ H Q) : PG X e u := ⟨fun pins s σ H v w Q I r q => h.run pins s σ H v w Q I r (c v σ H Q q)⟩
theorem PGs.cv {X : Cx} {e : List Expr} {t u : TGs} (h : PGs X e t) (c : ∀ v σ H Q, u v σ H Q → t v σ H Q) : PGs X e u := ⟨fun pins s σ H v w Q I r q => h.run pins s σ H v w Q I r (c v σ H Q q)⟩
/-! ### names, constants -/
section
variable {X : Cx} {x : Xw}
def TVar (i : Nat) : TEd := fun δ M Q => match δ[i]? with | some (some d) => Q d M | _ => False
def TC (d : D) : TEd := fun _ M Q => Q d M
theorem de_var (i : Nat) {n : Str} {pos : Pos} (hN : X.N[i]? = some n := by rfl) (hv : Vis X.env.scope n := by first | exact Or.inl rfl | exact Or.inr (Or.inl rfl) | exact Or.inr (Or.inr rfl)) (hd : (n == ("__debug__" : Str)) = false := by decide)
    (hcd : (n == ("__classdict__" : Str)) = false := by decide) : DE X x (.Name n pos) (TVar i) :=
  PE.cv (L2.pe_var hN hv (hd := hd) (hcd := hcd)) fun σ H Q ⟨δ, M, Q0, r, h, c⟩ => by
    unfold TVar at h
    split at h
    · rename_i d e
      obtain ⟨v, h1, h2⟩ := r.s.at_ i d e
      exact ⟨v, h1, c d M v H h Stp.refl r.m h2⟩
    · exact h.elim
theorem de_c {e : Expr} {d : D} {v : V} (h : PE X e (tC v)) (q : ∀ H, Rep X.K H d v) : DE X x e (TC d) :=
  PE.cv h fun σ H Q ⟨δ, M, Q0, r, h, c⟩ => c d M v H h Stp.refl r.m (q H)
theorem de_int {i : Int} {j pos} : DE X x (.Constant (.int i) j pos) (TC (.int i)) := de_c pe_int fun _ => rfl
theorem de_bl {i : Bool} {j pos} : DE X x (.Constant (.bool i) j pos) (TC (.bl i)) := de_c pe_bl fun _ => rfl
theorem de_non {j pos} : DE X x (.Constant .none j pos) (TC .non) := de_c pe_non fun _ => rfl
theorem de_str {i : Str} {j pos} : DE X x (.Constant (.str i) j pos) (TC (.str i)) := de_c pe_str fun _ => rfl
theorem de_glob {n : Str} {pos : Pos} {d : D} {v : V} {u : Value} (hg : Gl X n) (hm : X.mg n = some u) (r : RelV v u) (rd : ∀ H, Rep X.K H d v) (hdb : (n == ("__debug__" : Str)) = false := by decide) : DE X x (.Name n pos) (TC d) := de_c (pe_glob hg hm r hdb) rd
/-! ### argument lists, displays -/
def TNil : TAd := fun _ M Q => Q [] M
def TCons (Ta : TEd) (Tr : TAd) : TAd := fun δ M Q => Ta δ M fun x M1 => Tr δ M1 fun xs M2 => Q (x :: xs) M2
theorem da_nil : DA X x [] TNil := PA.cv pa_nil fun σ H Q ⟨δ, M, Q0, r, h, c⟩ => c [] M [] H h Stp.refl r.m rfl
theorem da_cons {e : Expr} {es : List Expr} {Ta : TEd} {Tr : TAd} (ha : DE X x e Ta) (hr : DA X x es Tr) (hs : starEach (e :: es) X.env = (false, eval e X.env) :: starEach es X.env := by rfl) : DA X x (e :: es) (TCons Ta Tr) :=
  PA.cv (pa_cons ha hr hs) fun σ H Q ⟨δ, M, Q0, r, h, c⟩ =>
    ⟨δ, M, _, r, h, fun d M1 v H1 q s1 r1 e1 => ⟨δ, M1, _, r.step s1 r1, q, fun ds M2 vs H2 q2 s2 r2 e2 => c (d :: ds) M2 (v :: vs) H2 q2 (s1.trans s2) r2 (Reps.cons (e1.mono (s2.pst r1)) e2)⟩⟩
/-- length is at most the display's -/
def TTup (T : TAd) : TEd := fun δ M Q => T δ M fun ds M1 => ds.length ≤ 1000000 ∧ Q (.tup ds) M1
def TLst (T : TAd) : TEd := fun δ M Q => T δ M fun ds M1 => ds.length ≤ 1000000 ∧ ∀ p, M1 p = none → Q (.ref p) (updM M1 p (.lst ds))
theorem szl {n : Nat} (h : n ≤ 1000000) : n ≤ sizeLine := Nat.le_trans h (by decide)
theorem szlt {n : Nat} (h : n < 1000000) : n < sizeLine := Nat.lt_of_lt_of_le h (by decide)
theorem Rep.newtup {K : PySem.W.Frag} {H : Hp} {p : Addr} {us : List Value} {ds : List D} {vs : List V} (h : H p = none) (r : Reps K H ds vs) : Rep K (upd H p (.frz (ftup us) (.tup vs))) (.tup ds) (.ref p) := ⟨p, vs, rfl, TupF.new, r.mono (Pst.new h)⟩
theorem Rep.newutup {K : PySem.W.Frag} {H : Hp} {p : Addr} {ds : List D} {vs : List V} (h : H p = none) (r : Reps K H ds vs) : Rep K (upd H p (.tup vs)) (.utup ds) (.ref p) := ⟨p, vs, rfl, upd_same, r.mono (Pst.new h)⟩
theorem de_tup {es : List Expr} {x1} {pos : Pos} {T : TAd} (h : DA X x es T) : DE X x (.Tuple es x1 pos) (TTup T) :=
  PE.cv (pe_tupF h) fun σ H Q ⟨δ, M, Q0, r, h, c⟩ =>
    ⟨δ, M, _, r, h, fun ds M1 vs H1 ⟨z, q⟩ s1 r1 e1 => ⟨by rw [e1.length]; exact szl z, fun p us hp => c _ M1 _ _ q (s1.trans (Stp.newU hp)) (r1.newU hp) (Rep.newtup hp e1)⟩⟩
theorem de_lst {es : List Expr} {pos : Pos} {T : TAd} (h : DA X x es T) : DE X x (.List es pos) (TLst T) :=
  PE.cv (pe_lst h) fun σ H Q ⟨δ, M, Q0, r, h, c⟩ =>
    ⟨δ, M, _, r, h, fun ds M1 vs H1 ⟨z, q⟩ s1 r1 e1 => ⟨by rw [e1.length]; exact szl z, fun p hp => c _ _ _ _ (q p (r1.fresh hp)) (s1.trans (Stp.new hp)) (r1.new hp ⟨vs, upd_same, e1.mono (Pst.new hp)⟩) rfl⟩⟩
/-! ### operators by values -/
abbrev R2d := D → D → Mh → QE → Prop
abbrev R1d := D → Mh → QE → Prop
abbrev RAd := List D → Mh → QE → Prop
def TOp (R : R2d) (Ta Tb : TEd) : TEd := fun δ M Q => Ta δ M fun x M1 => Tb δ M1 fun y M2 => R x y M2 Q
def TUn (R : R1d) (Ta : TEd) : TEd := fun δ M Q => Ta δ M fun x M1 => R x M1 Q
def TCB (R : RAd) (T : TAd) : TEd := fun δ M Q => T δ M fun xs M1 => R xs M1 Q
def Imp2 (K : PySem.W.Frag) (r : R2) (R : R2d) : Prop := ∀ (H : Hp) (M : Mh) (x y : V) (d e : D) (Q0 : QE) (Q : VK), RepM K H M → Rep K H d x → Rep K H e y → R d e M Q0 → CqE K H M Q0 Q → r x y H Q
def Imp1 (K : PySem.W.Frag) (r : V → Hp → VK → Prop) (R : R1d) : Prop := ∀ (H : Hp) (M : Mh) (x : V) (d : D) (Q0 : QE) (Q : VK), RepM K H M → Rep K H d x → R d M Q0 → CqE K H M Q0 Q → r x H Q
def ImpA (K : PySem.W.Frag) (r : List V → Hp → VK → Prop) (R : RAd) : Prop := ∀ (H : Hp) (M : Mh) (xs : List V) (ds : List D) (Q0 : QE) (Q : VK), RepM K H M → Reps K H ds xs → R ds M Q0 → CqE K H M Q0 Q → r xs H Q
theorem op_conv {K : PySem.W.Frag} {r : R2} {R : R2d} {Ta Tb : TEd} (hi : Imp2 K r R) : ∀ σ H Q, liE K x (TOp R Ta Tb) σ H Q → tOp r (liE K x Ta) (liE K x Tb) σ H Q := fun σ H Q ⟨δ, M, Q0, rs, h, c⟩ =>
  ⟨δ, M, _, rs, h, fun d M1 v H1 q s1 r1 e1 => ⟨δ, M1, _, rs.step s1 r1, q, fun e M2 u H2 q2 s2 r2 e2 => hi H2 M2 v u d e Q0 Q r2 (e1.mono (s2.pst r1)) e2 q2 (c.step (s1.trans s2))⟩⟩
variable {a b : Expr} {Ta Tb : TEd} {pos : Pos} {r : R2} {R : R2d}
theorem de_op {op : Operator} (ho : OpR X (binaryOp op) r) (hi : Imp2 X.K r R) (ha : DE X x a Ta) (hb : DE X x b Tb) : DE X x (.BinOp a op b pos) (TOp R Ta Tb) := PE.cv (pe_op ho ha hb) (op_conv hi)
theorem de_cmp {op : CmpOp} (ho : OpR X (compareOp op) r) (hi : Imp2 X.K r R) (ha : DE X x a Ta) (hb : DE X x b Tb) (hm : behindInMarks op b = false) : DE X x (.Compare a [op] [b] pos) (TOp R Ta Tb) := PE.cv (pe_cmpR ho ha hb hm) (op_conv hi)
theorem de_ix (ho : IxR X r) (hi : Imp2 X.K r R) (ha : DE X x a Ta) (hb : DE X x b Tb) (hs : PlainIx b := by first | exact fun _ _ => rfl) : DE X x (.Subscript a b pos) (TOp R Ta Tb) := PE.cv (pe_ix ho ha hb hs) (op_conv hi)
theorem de_un {op : UnaryOp} {r1 : V → Hp → VK → Prop} {R1 : R1d} (ho : UnR X (unaryOp op) r1) (hi : Imp1 X.K r1 R1) (ha : DE X x a Ta) : DE X x (.UnaryOp op a pos) (TUn R1 Ta) :=
  PE.cv (pe_un ho ha) fun σ H Q ⟨δ, M, Q0, rs, h, c⟩ => ⟨δ, M, _, rs, h, fun d M1 v H1 q s1 r1 e1 => hi H1 M1 v d Q0 Q r1 e1 q (c.step s1)⟩
end
end L3
set_option Elab.async false
set_option autoImplicit false
set_option linter.all false
set_option maxRecDepth 100000
set_option maxHeartbeats 4000000
/-! L3, second part: statements, targets, tests, operators. -/
namespace L3
open PySem L2
/-! ### statements -/
section
variable {X : Cx} {x : Xw} {st : Stmt} {rest : List Stmt} {T U : TSd} {e : Expr} {Te : TEd} {pos : Pos}
def TNext : TSd := fun E δ M => E.nx δ M
def TSeq (T U : TSd) : TSd := fun E δ M => T { E with nx := U E } δ M
def TBreak : TSd := fun E δ M => E.bk δ M
def TCont : TSd := fun E δ M => E.ct δ M
def TDrop (Te : TEd) : TSd := fun E δ M => Te δ M fun _ M1 => E.nx δ M1
def TRet (Te : TEd) : TSd := fun E δ M => Te δ M E.rt
def TRetN : TSd := fun E _ M => E.rt .non M
def TIfS (Tc : TTd) (T U : TSd) : TSd := fun E δ M => Tc δ M fun b M1 => if b = true then T E δ M1 else U E δ M1
def TNever : TSd := fun _ _ _ => False
theorem dss_nil : DSs X x [] TNext := PSs.cv pss_nil fun D σ H ⟨δ, M, E, r, h, c⟩ => c.nx δ M σ H h Stp.refl r.m r.s
theorem dss_cons (h1 : DS X x st T) (h2 : DSs X x rest U) : DSs X x (st :: rest) (TSeq T U) := PSs.cv (pss_cons h1 h2) fun D σ H ⟨δ, M, E, r, h, c⟩ =>
  ⟨δ, M, _, r, h, ⟨fun δ' M' σ' H' q s1 m1 s2 => ⟨δ', M', E, r.to s1 m1 s2, q, c.step s1⟩, c.rt, c.bk, c.ct⟩⟩
theorem dss_one (h1 : DS X x st T) : DSs X x [st] T := pss_one h1
theorem ds_pass : DS X x (.Pass pos) TNext := PS.cv ps_pass fun D σ H ⟨δ, M, E, r, h, c⟩ => c.nx δ M σ H h Stp.refl r.m r.s
theorem ds_break : DS X x (.Break pos) TBreak := PS.cv ps_break fun D σ H ⟨δ, M, E, r, h, c⟩ => c.bk δ M σ H h Stp.refl r.m r.s
theorem ds_cont : DS X x (.Continue pos) TCont := PS.cv ps_continue fun D σ H ⟨δ, M, E, r, h, c⟩ => c.ct δ M σ H h Stp.refl r.m r.s
theorem ds_expr (he : DE X x e Te) (hs : swapsWith e none pos.line X.env = pure false := by rfl) : DS X x (.Expr e pos) (TDrop Te) := PS.cv (ps_expr he hs) fun D σ H ⟨δ, M, E, r, h, c⟩ =>
  ⟨δ, M, _, r, h, fun d M' v H' q s1 m1 _ => c.nx δ M' σ H' q s1 m1 (r.s.mono (s1.pst r.m))⟩
theorem ds_ret (he : DE X x e Te) : DS X x (.Return (some e) pos) (TRet Te) := PS.cv (ps_ret he) fun D σ H ⟨δ, M, E, r, h, c⟩ => ⟨δ, M, _, r, h, c.rt⟩
theorem ds_retN : DS X x (.Return none pos) TRetN := PS.cv ps_retN fun D σ H ⟨δ, M, E, r, h, c⟩ => c.rt .non M .non H h Stp.refl r.m rfl
theorem ds_if {c : Expr} {a b : List Stmt} {Tc : TTd} (hc : DT X x c Tc) (ha : DSs X x a T) (hb : DSs X x b U) : DS X x (.If c a b pos) (TIfS Tc T U) := PS.cv (ps_if hc ha hb) fun D σ H ⟨δ, M, E, r, h, c⟩ =>
  ⟨δ, M, _, r, h, fun b M' H' q s1 m1 => by
    cases b with
    | true => exact ⟨δ, M', E, r.step s1 m1, by simpa using q, c.step s1⟩
    | false => exact ⟨δ, M', E, r.step s1 m1, by simpa using q, c.step s1⟩⟩
theorem ds_never : DS X x st TNever := PS.cv ps_never fun D σ H ⟨δ, M, E, r, h, c⟩ => h.elim
theorem dss_never {sts : List Stmt} : DSs X x sts TNever := PSs.cv pss_never fun D σ H ⟨δ, M, E, r, h, c⟩ => h.elim
end
/-! ### targets -/
theorem wipe_set {σ : St} {i : Nat} {o : Option V} : ∀ {vs : List Nat}, i ∈ vs → L2.wipe (σ.set i o) vs = L2.wipe σ vs
  | [], h => by cases h
  | v :: vs, h => by
    unfold L2.wipe
    by_cases e : i ∈ vs
    · rw [wipe_set e]
    · have e1 : i = v := by
        rcases List.mem_cons.mp h with z | z
        · exact z
        · exact absurd z e
      subst e1
      have comm : ∀ (ws : List Nat), i ∉ ws → ∀ (τ : St), L2.wipe (τ.set i o) ws = (L2.wipe τ ws).set i o := by
        intro ws
        induction ws with
        | nil => intro _ τ; rfl
        | cons w ws ih =>
          intro hn τ
          unfold L2.wipe
          rw [ih (fun z => hn (List.mem_cons_of_mem _ z)), List.set_comm _ _ (fun z => hn (by rw [z]; exact List.mem_cons_self))]
      rw [comm vs e, List.set_set]
theorem wipe_wipe {σ : St} (vs : List Nat) : L2.wipe (L2.wipe σ vs) vs = L2.wipe σ vs := by
  have key : ∀ (ws : List Nat) (τ : St), (∀ i ∈ ws, i ∈ vs) → L2.wipe (L2.wipe τ ws) vs = L2.wipe τ vs := by
    intro ws
    induction ws with
    | nil => intro τ _; rfl
    | cons w ws ih =>
      intro τ h
      show L2.wipe ((L2.wipe τ ws).set w none) vs = _
      rw [wipe_set (h w List.mem_cons_self)]
      exact ih τ fun i hi => h i (List.mem_cons_of_mem _ hi)
  exact key vs σ fun _ h => h
section
variable {X : Cx} {x : Xw} {pos : Pos} {vs : List Nat}
def GName (i : Nat) : TGd := fun d δ M Q => Q (δ.set i (some d)) M
theorem dg_name {i : Nat} {n : Str} (hN : X.N.Nodup) (hv : i ∈ vs) (hi : X.N[i]? = some n := by rfl) (hx : Loc X.env.scope n := by first | exact Or.inl rfl | exact Or.inr rfl) (hf : X.fn n = true ∨ X.env.scope.names.lookup n = some .local := by first | exact .inl rfl | exact .inr rfl | assumption) :
    DG X x vs (.Name n pos) (GName i) := PG.cv (pg_name hN hi hx hf) fun v σ H Q ⟨d, δ, M, Q0, e, r, h, c⟩ => c _ M _ H h Stp.refl r.m (r.s.set i e) (wipe_set hv)
def GNil : TGsd := fun ds δ M Q => match ds with | [] => Q δ M | _ => False
def GCons (T : TGd) (U : TGsd) : TGsd := fun ds δ M Q => match ds with | d :: r => T d δ M fun δ' M' => U r δ' M' Q | [] => False
theorem dgs_nil : DGs X x vs [] GNil := PGs.cv pgs_nil fun xs σ H Q ⟨ds, δ, M, Q0, e, r, h, c⟩ => by
  cases ds with
  | nil => cases e; exact ⟨rfl, c δ M σ H h Stp.refl r.m r.s rfl⟩
  | cons _ _ => exact h.elim
theorem dgs_cons {e : Expr} {es : List Expr} {T : TGd} {U : TGsd} (h1 : DG X x vs e T) (h2 : DGs X x vs es U) (hs : (assignEach (e :: es) X.env).map (·.2) = assign e X.env :: (assignEach es X.env).map (·.2) := by rfl) :
    DGs X x vs (e :: es) (GCons T U) := PGs.cv (pgs_cons h1 h2 hs) fun xs σ H Q ⟨ds, δ, M, Q0, e, r, h, c⟩ => by
  cases ds with
  | nil => exact h.elim
  | cons d ds =>
    obtain ⟨v, w, rfl, e1, e2⟩ := e
    exact ⟨v, w, rfl, d, δ, M, _, e1, r, h, fun δ' M' σ' H' q s1 m1 s2 w1 => ⟨ds, δ', M', _, s1.reps r e2, r.to s1 m1 s2, q, fun δ2 M2 σ2 H2 q2 t1 n1 t2 w2 => c δ2 M2 σ2 H2 q2 (s1.trans t1) n1 t2 (w2.trans w1)⟩⟩
def GTup (n : Nat) (T : TGsd) : TGd := fun d δ M Q => match d with | .tup ds => ds.length = n ∧ T ds δ M Q | .utup ds => ds.length = n ∧ T ds δ M Q | _ => False
theorem dg_tup {es : List Expr} {k : Nat} {T : TGsd} {n : Nat} (hc : X.calm = true) (h : DGs X x vs es T)
    (hn : (assignEach es X.env).length = n := by rfl) (hst : (assignEach es X.env).findIdx? (·.1) = none := by rfl) : DG X x vs (.Tuple es k pos) (GTup n T) := PG.cv (pg_tup hc h hn hst) fun v σ H Q ⟨d, δ, M, Q0, e, r, h, c⟩ => by
  cases d with
  | tup ds =>
    obtain ⟨a, ws, rfl, hq, e⟩ := e
    obtain ⟨hl, h⟩ := h
    exact ⟨a, ws, rfl, hq.q, e.length.trans hl, ds, δ, M, Q0, e, r, h, c⟩
  | utup ds =>
    obtain ⟨a, ws, rfl, hq, e⟩ := e
    obtain ⟨hl, h⟩ := h
    exact ⟨a, ws, rfl, uq hq, e.length.trans hl, ds, δ, M, Q0, e, r, h, c⟩
  | _ => exact h.elim
/-- target = value -/
def TAsg (Te : TEd) (T : TGd) : TSd := fun E δ M => Te δ M fun d M1 => T d δ M1 E.nx
theorem asg_conv {K : PySem.W.Frag} {Te : TEd} {T : TGd} : ∀ D σ H, liS K x (TAsg Te T) D σ H → tAsg (liE K x Te) (liG K x vs T) D σ H := fun D σ H ⟨δ, M, E, r, h, c⟩ =>
  ⟨δ, M, _, r, h, fun d M' v H' q s1 m1 e1 => ⟨d, δ, M', E.nx, e1, r.step s1 m1, q, fun δ2 M2 σ2 H2 q2 t1 n1 t2 _ => c.nx δ2 M2 σ2 H2 q2 (s1.trans t1) n1 t2⟩⟩
theorem ds_asg {tg e : Expr} {Te : TEd} {T : TGd} (he : DE X x e Te) (hg : DG X x vs tg T) (hs : swapsWithSole [tg] e pos.line X.env = pure false := by rfl) (hw : swappedStores [tg] e X.env = pure none := by rfl)
    (h1 : (assignEach [tg] X.env).map (·.2) = [assign tg X.env] := by rfl) : DS X x (.Assign [tg] e pos) (TAsg Te T) := PS.cv (ps_asg he hg hs hw h1) asg_conv
theorem ds_set {i : Nat} {n : Str} {e : Expr} {Te : TEd} {pos' : Pos} (hN : X.N.Nodup) (he : DE X x e Te) (hi : X.N[i]? = some n := by rfl) (hx : Loc X.env.scope n := by first | exact Or.inl rfl | exact Or.inr rfl) (hs : swapsWith e (some (.Name n pos')) pos.line X.env = pure false := by rfl) (hf : X.fn n = true ∨ X.env.scope.names.lookup n = some .local := by first | exact .inl rfl | exact .inr rfl | assumption) :
    DS X x (.Assign [.Name n pos'] e pos) (TAsg Te (GName i)) := PS.cv (ps_set hN hi hx he hs hf) fun D σ H ⟨δ, M, E, r, h, c⟩ =>
  ⟨δ, M, _, r, h, fun d M' v H' q s1 m1 e1 => c.nx _ M' _ H' q s1 m1 ((r.s.mono (s1.pst r.m)).set i e1)⟩
/-- a, b = e1, e2: two local names -/
def TPar (i j : Nat) (Ta : TAd) : TSd := fun E δ M => Ta δ M fun ds M1 => match ds with | [d, e] => E.nx ((δ.set i (some d)).set j (some e)) M1 | _ => False
theorem ds_par {i j : Nat} {n m : Str} {a b : Expr} {Ta : TAd} {px py pt : Pos} {kt k2 pt2} (hc : X.calm = true) (hN : X.N.Nodup) (ha : DA X x [a, b] Ta) (hi : X.N[i]? = some n := by rfl) (hj : X.N[j]? = some m := by rfl) (hij : i ≠ j := by decide)
    (hx : X.env.scope.names.lookup n = some .local := by rfl) (hy : X.env.scope.names.lookup m = some .local := by rfl)
    (hw : swappedStores [.Tuple [.Name n px, .Name m py] kt pt] (.Tuple [a, b] k2 pt2) X.env = pure (some [n, m]) := by rfl)
    (hs : swapsWithSole [.Tuple [.Name n px, .Name m py] kt pt] (.Tuple [a, b] k2 pt2) pos.line X.env = pure false := by rfl) :
    DS X x (.Assign [.Tuple [.Name n px, .Name m py] kt pt] (.Tuple [a, b] k2 pt2) pos) (TPar i j Ta) := PS.cv (ps_par hc hN hi hj hij hx hy ha hw hs) fun D σ H ⟨δ, M, E, r, h, c⟩ =>
  ⟨δ, M, _, r, h, fun ds M' vs H' q s1 m1 e1 => by
    match ds, q with
    | [d, e], q =>
      obtain ⟨v, w', rfl, r1, v2, w2, z, r2, r3⟩ := e1
      cases r3
      subst z
      exact ⟨v, v2, rfl, c.nx _ M' _ H' q s1 m1 (((r.s.mono (s1.pst r.m)).set i r1).set j r2)⟩⟩
end
/-! ### tests -/
section
variable {X : Cx} {x : Xw} {pos : Pos} {e a b c : Expr} {rest : List Expr} {T Ta Tb Tc : TEd} {t u : TTd}
def TTest (T : TEd) : TTd := fun δ M Q => T δ M fun d M1 => match d with | .bl b => Q b M1 | _ => False
theorem test_q {K : PySem.W.Frag} {T : TEd} : ∀ σ H (Q : Bool → Hp → Prop), liT K x (TTest T) σ H Q → liE K x T σ H fun v H1 => ∃ k, v = .bl k ∧ Q k H1 := fun σ H Q ⟨δ, M, Q0, r, h, c⟩ =>
  ⟨δ, M, _, r, h, fun d M' v H' q s1 m1 e1 => by
    cases d with
    | bl b => exact ⟨b, e1, c b M' H' q s1 m1⟩
    | _ => exact q.elim⟩
theorem dt_val (h : DE X x e T) (he : ∀ whole, isTrue e X.env whole = (do let v ← whole; standAt e.pos; holding [v] (truthy v)) := by intro _; rfl) : DT X x e (TTest T) := PT.cv (pt_val h he) fun σ H Q q => test_q σ H Q q
def TAnd (t u : TTd) : TTd := fun δ M Q => t δ M fun c M1 => if c = true then u δ M1 Q else Q false M1
def TOr (t u : TTd) : TTd := fun δ M Q => t δ M fun c M1 => if c = true then Q true M1 else u δ M1 Q
def TNot (t : TTd) : TTd := fun δ M Q => t δ M fun c M1 => Q (!c) M1
theorem dw_and1 (ha : DT X x a t) : DW X x (.BoolOp .And [a] pos) t := pw_and1 ha
theorem dw_or1 (ha : DT X x a t) : DW X x (.BoolOp .Or [a] pos) t := pw_or1 ha
theorem dw_and (ha : DT X x a t) (hb : DW X x (.BoolOp .And (b :: rest) pos) u) : DW X x (.BoolOp .And (a :: b :: rest) pos) (TAnd t u) := PW.cv (pw_and ha hb) fun σ H Q ⟨δ, M, Q0, r, h, c⟩ =>
  ⟨δ, M, _, r, h, fun b M' H' q s1 m1 => by
    cases b with
    | true => exact ⟨δ, M', Q0, r.step s1 m1, by simpa using q, c.step s1⟩
    | false => exact c false M' H' (by simpa using q) s1 m1⟩
theorem dw_or (ha : DT X x a t) (hb : DW X x (.BoolOp .Or (b :: rest) pos) u) : DW X x (.BoolOp .Or (a :: b :: rest) pos) (TOr t u) := PW.cv (pw_or ha hb) fun σ H Q ⟨δ, M, Q0, r, h, c⟩ =>
  ⟨δ, M, _, r, h, fun b M' H' q s1 m1 => by
    cases b with
    | true => exact c true M' H' (by simpa using q) s1 m1
    | false => exact ⟨δ, M', Q0, r.step s1 m1, by simpa using q, c.step s1⟩⟩
theorem dt_w (h : DW X x e t) : DT X x e t := PW.pt h
theorem dt_not (ha : DT X x a t) : DT X x (.UnaryOp .Not a pos) (TNot t) := PT.cv (pt_not ha) fun σ H Q ⟨δ, M, Q0, r, h, c⟩ =>
  ⟨δ, M, _, r, h, fun b M' H' q s1 m1 => c (!b) M' H' q s1 m1⟩
/-- as values: bools -/
def TAndV (Ta Tb : TEd) : TEd := fun δ M Q => Ta δ M fun d M1 => match d with | .bl c => if c = true then Tb δ M1 Q else Q (.bl false) M1 | _ => False
def TOrV (Ta Tb : TEd) : TEd := fun δ M Q => Ta δ M fun d M1 => match d with | .bl c => if c = true then Q (.bl true) M1 else Tb δ M1 Q | _ => False
def TNotV (Ta : TEd) : TEd := fun δ M Q => Ta δ M fun d M1 => match d with | .bl c => Q (.bl (!c)) M1 | _ => False
theorem de_one {op} (h : DE X x a T) : DE X x (.BoolOp op [a] pos) T := pe_one h
theorem de_and (ha : DE X x a Ta) (hb : DE X x (.BoolOp .And (b :: rest) pos) Tb) : DE X x (.BoolOp .And (a :: b :: rest) pos) (TAndV Ta Tb) := PE.cv (pe_and ha hb) fun σ H Q ⟨δ, M, Q0, r, h, c⟩ =>
  ⟨δ, M, _, r, h, fun d M' v H' q s1 m1 e1 => by
    cases d with
    | bl b =>
      refine ⟨b, e1, ?_⟩
      cases b with
      | true => exact ⟨δ, M', Q0, r.step s1 m1, by simpa using q, c.step s1⟩
      | false => exact c (.bl false) M' _ H' (by simpa using q) s1 m1 rfl
    | _ => exact q.elim⟩
theorem de_or (ha : DE X x a Ta) (hb : DE X x (.BoolOp .Or (b :: rest) pos) Tb) : DE X x (.BoolOp .Or (a :: b :: rest) pos) (TOrV Ta Tb) := PE.cv (pe_or ha hb) fun σ H Q ⟨δ, M, Q0, r, h, c⟩ =>
  ⟨δ, M, _, r, h, fun d M' v H' q s1 m1 e1 => by
    cases d with
    | bl b =>
      refine ⟨b, e1, ?_⟩
      cases b with
      | true => exact c (.bl true) M' _ H' (by simpa using q) s1 m1 rfl
      | false => exact ⟨δ, M', Q0, r.step s1 m1, by simpa using q, c.step s1⟩
    | _ => exact q.elim⟩
theorem de_not (ha : DE X x a Ta) : DE X x (.UnaryOp .Not a pos) (TNotV Ta) := PE.cv (pe_not ha) fun σ H Q ⟨δ, M, Q0, r, h, c⟩ =>
  ⟨δ, M, _, r, h, fun d M' v H' q s1 m1 e1 => by
    cases d with
    | bl b => exact ⟨b, e1, c _ M' _ H' q s1 m1 rfl⟩
    | _ => exact q.elim⟩
def TIf (t : TTd) (Ta Tb : TEd) : TEd := fun δ M Q => t δ M fun c M1 => if c = true then Ta δ M1 Q else Tb δ M1 Q
theorem de_if (hc : DT X x c t) (ha : DE X x a Ta) (hb : DE X x b Tb) : DE X x (.IfExp c a b pos) (TIf t Ta Tb) := PE.cv (pe_ifExp hc ha hb) fun σ H Q ⟨δ, M, Q0, r, h, c⟩ =>
  ⟨δ, M, _, r, h, fun b M' H' q s1 m1 => by
    cases b with
    | true => exact ⟨δ, M', Q0, r.step s1 m1, by simpa using q, c.step s1⟩
    | false => exact ⟨δ, M', Q0, r.step s1 m1, by simpa using q, c.step s1⟩⟩
theorem dt_cmp {op : CmpOp} {r : R2} {R : R2d} (ho : OpR X (compareOp op) r) (hi : Imp2 X.K r R) (ha : DE X x a Ta) (hb : DE X x b Tb) (hm : behindInMarks op b = false) : DT X x (.Compare a [op] [b] pos) (TTest (TOp R Ta Tb)) :=
  PT.cv (pt_cmpR ho ha hb hm) fun σ H Q q => op_conv hi σ H _ (test_q σ H Q q)
/-- a op b op' c -/
def TChain (R R' : R2d) (Ta Tb Tc : TEd) : TEd := fun δ M Q => Ta δ M fun d M1 => Tb δ M1 fun e M2 => R d e M2 fun z M3 => match z with | .bl k => if k = true then Tc δ M3 fun f M4 => R' e f M4 Q else Q (.bl false) M3 | _ => False
theorem chain_conv {K : PySem.W.Frag} {r r' : R2} {R R' : R2d} (hi : Imp2 K r R) (hi' : Imp2 K r' R') : ∀ σ H Q, liE K x (TChain R R' Ta Tb Tc) σ H Q → tChain r r' (liE K x Ta) (liE K x Tb) (liE K x Tc) σ H Q := fun σ H Q ⟨δ, M, Q0, rs, h, c⟩ =>
  ⟨δ, M, _, rs, h, fun d M1 v H1 q s1 m1 e1 => ⟨δ, M1, _, rs.step s1 m1, q, fun e M2 u H2 q2 s2 m2 e2 => hi H2 M2 v u d e _ _ m2 (e1.mono (s2.pst m1)) e2 q2 fun z M3 w H3 q3 s3 m3 e3 => by
    cases z with
    | bl k =>
      refine ⟨k, e3, ?_⟩
      cases k with
      | true =>
        have t := (s1.trans s2).trans s3
        exact ⟨δ, M3, _, rs.step t m3, by simpa using q3, fun f M4 w4 H4 q4 s4 m4 e4 => hi' H4 M4 u w4 e f Q0 Q m4 ((e2.mono (s3.pst m2)).mono (s4.pst m3)) e4 q4 (c.step (t.trans s4))⟩
      | false => exact c (.bl false) M3 _ H3 (by simpa using q3) ((s1.trans s2).trans s3) m3 rfl
    | _ => exact q3.elim⟩⟩
theorem de_chain {op op' : CmpOp} {r r' : R2} {R R' : R2d} (ho : OpR X (compareOp op) r) (ho' : OpR X (compareOp op') r') (hi : Imp2 X.K r R) (hi' : Imp2 X.K r' R') (ha : DE X x a Ta) (hb : DE X x b Tb) (hc : DE X x c Tc)
    (hm : lastMarks [op, op'] [b, c] = false := by with_unfolding_all rfl) : DE X x (.Compare a [op, op'] [b, c] pos) (TChain R R' Ta Tb Tc) := PE.cv (pe_chain ho ho' ha hb hc hm) (chain_conv hi hi')
theorem dt_chain {op op' : CmpOp} {r r' : R2} {R R' : R2d} (ho : OpR X (compareOp op) r) (ho' : OpR X (compareOp op') r') (hi : Imp2 X.K r R) (hi' : Imp2 X.K r' R') (ha : DE X x a Ta) (hb : DE X x b Tb) (hc : DE X x c Tc)
    (hm : lastMarks [op, op'] [b, c] = false := by with_unfolding_all rfl) : DT X x (.Compare a [op, op'] [b, c] pos) (TTest (TChain R R' Ta Tb Tc)) :=
  PT.cv (pt_chain ho ho' ha hb hc hm) fun σ H Q q => chain_conv hi hi' σ H _ (test_q σ H Q q)
end
/-! ### operators -/
section
variable {X : Cx} {K : PySem.W.Frag}
theorem OpR.or {f : Value → Value → Sem Value} {r r' : R2} (h : OpR X f r) (h' : OpR X f r') : OpR X f (fun x y H Q => r x y H Q ∨ r' x y H Q) := fun pins s σ H x y v u Q I rx ry q => q.elim (h pins s σ H x y v u Q I rx ry) (h' pins s σ H x y v u Q I rx ry)
def RAdd : R2d := fun d e M Q => match d, e with
  | .int i, .int j => Q (.int (i + j)) M
  | .str x, .str y => x.length + y.length ≤ 1000000 ∧ Q (.str (x ++ y)) M
  | .tup a, .tup b => a.length + b.length ≤ 1000000 ∧ Q (.tup (a ++ b)) M
  | .ref a, .ref b => ∃ xs ys, M a = some (.lst xs) ∧ M b = some (.lst ys) ∧ xs.length + ys.length ≤ 1000000 ∧ ∀ p, M p = none → Q (.ref p) (updM M p (.lst (xs ++ ys)))
  | _, _ => False
def rAddU (K : PySem.W.Frag) : R2 := fun x y H Q => rI0 (fun i j => .int (i + j)) x y H Q ∨ (∃ i j, x = .str i ∧ y = .str j ∧ i.length + j.length ≤ sizeLine ∧ Q (.str (i ++ j)) H) ∨ rCatF K x y H Q ∨ rCat x y H Q
theorem op_addU : OpR X (binaryOp .Add) (rAddU X.K) := OpR.or op_add (OpR.or op_add_str (OpR.or op_catF op_cat))
theorem RepM.lst {H : Hp} {M : Mh} {a : Addr} {ds : List D} (m : RepM K H M) (h : M a = some (.lst ds)) : ∃ vs, H a = some (.lst vs) ∧ Reps K H ds vs := m a _ h
theorem imp_add : Imp2 K (rAddU K) RAdd := by
  intro H M x y d e Q0 Q m r1 r2 h c
  unfold RAdd at h
  split at h
  · exact .inl ⟨_, _, r1, r2, c _ M _ H h Stp.refl m rfl⟩
  · exact .inr (.inl ⟨_, _, r1, r2, szl h.1, c _ M _ H h.2 Stp.refl m rfl⟩)
  · obtain ⟨a, vs, rfl, t1, q1⟩ := r1
    obtain ⟨b, ws, rfl, t2, q2⟩ := r2
    refine .inr (.inr (.inl ⟨a, b, vs, ws, rfl, rfl, t1.q, t2.q, by rw [q1.length, q2.length]; exact szl h.1, fun z => ?_, fun _ z => ?_, fun _ _ p us hp => ?_⟩))
    · refine c _ M _ H h.2 Stp.refl m ⟨b, ws, rfl, t2, ?_⟩
      have l := q1.length
      rw [z] at l
      rw [List.length_eq_zero_iff.mp l.symm]; exact q2
    · refine c _ M _ H h.2 Stp.refl m ⟨a, vs, rfl, t1, ?_⟩
      have l := q2.length
      rw [z] at l
      rw [List.length_eq_zero_iff.mp l.symm, List.append_nil]; exact q1
    · exact c _ M _ _ h.2 (Stp.newU hp) (m.newU hp) (Rep.newtup hp (q1.append q2))
  · obtain ⟨xs, ys, h1, h2, h3, h4⟩ := h
    obtain ⟨vs, e1, q1⟩ := m.lst h1
    obtain ⟨ws, e2, q2⟩ := m.lst h2
    exact .inr (.inr (.inr ⟨_, _, vs, ws, r1, r2, e1, e2, by rw [q1.length, q2.length]; exact szl h3, fun p hp => c _ _ _ _ (h4 p (m.fresh hp)) (Stp.new hp) (m.new hp ⟨_, upd_same, (q1.append q2).mono (Pst.new hp)⟩) rfl⟩))
  · exact h.elim
def RInt (C : Int → Int → Prop) (g : Int → Int → D) : R2d := fun d e M Q => match d, e with | .int i, .int j => C i j ∧ Q (g i j) M | _, _ => False
def RInt0 (g : Int → Int → D) : R2d := fun d e M Q => match d, e with | .int i, .int j => Q (g i j) M | _, _ => False
theorem imp_int {C C' : Int → Int → Prop} {g : Int → Int → V} {g' : Int → Int → D} (hc : ∀ i j, C' i j → C i j) (hg : ∀ H i j, Rep K H (g' i j) (g i j)) : Imp2 K (rI C g) (RInt C' g') := by
  intro H M x y d e Q0 Q m r1 r2 h c
  unfold RInt at h
  split at h
  · exact ⟨_, _, r1, r2, hc _ _ h.1, c _ M _ H h.2 Stp.refl m (hg H _ _)⟩
  · exact h.elim
theorem imp_int0 {g : Int → Int → V} {g' : Int → Int → D} (hg : ∀ H i j, Rep K H (g' i j) (g i j)) : Imp2 K (rI0 g) (RInt0 g') := by
  intro H M x y d e Q0 Q m r1 r2 h c
  unfold RInt0 at h
  split at h
  · exact ⟨_, _, r1, r2, c _ M _ H h Stp.refl m (hg H _ _)⟩
  · exact h.elim
abbrev RSub : R2d := RInt0 fun i j => .int (i - j)
abbrev RMod : R2d := RInt (fun _ j => 0 < j) fun i j => .int (i % j)
abbrev RDiv : R2d := RInt CDivW fun i j => .int (i / j)
abbrev RPow : R2d := RInt (fun i j => 0 ≤ j ∧ j ≤ 1000000 ∧ i.natAbs < 2 ^ 64) fun i j => .int (i ^ j.toNat)
abbrev RLt : R2d := RInt0 fun i j => .bl (decide (i < j))
abbrev RLe : R2d := RInt0 fun i j => .bl (decide (i ≤ j))
abbrev RGt : R2d := RInt0 fun i j => .bl (decide (j < i))
abbrev RGe : R2d := RInt0 fun i j => .bl (decide (j ≤ i))
/-- * : ints; a list or a tuple so often -/
def RMul : R2d := fun d e M Q => match d, e with
  | .int i, .int j => CMulW i j ∧ Q (.int (i * j)) M
  | .ref a, .int k => ∃ xs, M a = some (.lst xs) ∧ -(2 ^ 62) ≤ k ∧ k < 2 ^ 62 ∧ xs.length * k.toNat ≤ 1000000 ∧ ∀ p, M p = none → Q (.ref p) (updM M p (.lst (List.replicate k.toNat xs).flatten))
  | _, _ => False
def rMulU : R2 := fun x y H Q => rI CMulW (fun i j => .int (i * j)) x y H Q ∨ rRep x y H Q
theorem op_mulU : OpR X (binaryOp .Mult) rMulU := OpR.or op_mulW op_rep
theorem imp_mul : Imp2 K rMulU RMul := by
  intro H M x y d e Q0 Q m r1 r2 h c
  unfold RMul at h
  split at h
  · exact .inl ⟨_, _, r1, r2, h.1, c _ M _ H h.2 Stp.refl m rfl⟩
  · obtain ⟨xs, h1, h2, h3, h4, h5⟩ := h
    obtain ⟨vs, e1, q1⟩ := m.lst h1
    refine .inr ⟨_, _, vs, r1, r2, e1, by omega, by omega, by rw [q1.length]; exact szl h4, fun p hp => c _ _ _ _ (h5 p (m.fresh hp)) (Stp.new hp) (m.new hp ⟨_, upd_same, ?_⟩) rfl⟩
    exact (Reps.rep q1 _).mono (Pst.new hp)
  · exact h.elim
end
end L3
set_option Elab.async false
set_option autoImplicit false
set_option linter.all false
set_option maxRecDepth 100000
set_option maxHeartbeats 4000000
/-! L3, third part: defs and their calls, with the guards of repr told. -/
namespace L3
open PySem PySem.Spec PyProof.Rows L2
/-! ### what a def promises, where no repr is under way -/
structure FnG (P : Program) (w : World) (K : PySem.W.Frag) (mg : Str → Option Value) (base : Heap) (CX : CXT) (k : Nat) (f : Addr) (fd : FuncData) (ps : List Str) (sp : Sp) : Prop where
  len : ∀ vs H Q E, sp vs H Q E → vs.length = ps.length
  run : ∀ (A : Around) (outer : List Env) (s : Shared) (H : Hp) (args : Args) (us : List Value) (vs : List V) (Q : VK) (E : XK), A.guards = some [] → Room k A → Env0 P w K mg base A outer s H → BindsTo s fd args (ps.zip us) → Vals vs us → sp vs H Q E →
    codeAny (model P w) A (.call (.ref f) args) (CR CX outer P w H s Q E) s
theorem FnG.mono {P : Program} {w : World} {K : PySem.W.Frag} {mg : Str → Option Value} {base : Heap} {CX : CXT} {j k : Nat} {f : Addr} {fd : FuncData} {ps : List Str} {sp : Sp} (F : FnG P w K mg base CX j f fd ps sp) (h : j ≤ k) :
    FnG P w K mg base CX k f fd ps sp := ⟨F.len, fun A outer s H args us vs Q E hg hr => F.run A outer s H args us vs Q E hg (hr.mono h)⟩
abbrev SpD := List D → Mh → QE → XKd → Prop
abbrev X0 : XKd := fun _ _ _ => False
def CqX (K : PySem.W.Frag) (H : Hp) (M : Mh) (E0 : XKd) (E : XK) : Prop := ∀ C fs M' H' d, E0 C fs M' → Stp H M H' M' → RepM K H' M' → XFld K H' fs d → E (.ref C) d H'
theorem CqX.zero {K : PySem.W.Frag} {H : Hp} {M : Mh} {E : XK} : CqX K H M X0 E := fun _ _ _ _ _ q => q.elim
def liSp (K : PySem.W.Frag) (S : SpD) : Sp := fun vs H Q E => ∃ ds M Q0 E0, Reps K H ds vs ∧ RepM K H M ∧ S ds M Q0 E0 ∧ CqE K H M Q0 Q ∧ CqX K H M E0 E
/-- the slots at a def's entry -/
def startD (n : Nat) (ds : List D) : Sd := ds.map some ++ List.replicate (n - ds.length) none
theorem fn_ofG0 {CX : CXT} {P : Program} {w : World} {K : PySem.W.Frag} {mg : Str → Option Value} {base : Heap} {k : Nat} {f : Addr} {name qual : Str} {params : Arguments} {body : List Stmt} {scope : Scope} {dV kV doc pm cdv ct oc : Value} {an od : Option Addr}
    {osl : Array (Option Value)} {N ps : List Str} {sp : Sp} (lk : K.lookup f = some ⟨oc, od, .func (PySem.W.fnOf name qual params body scope dV kV doc pm an cdv ct), osl⟩) (hcd : PySem.W.codeIn K cdv qual = true) (S : FnScope N ps scope)
    (len : ∀ vs H Q E, sp vs H Q E → vs.length = ps.length)
    (hbody : ∀ (A : Around) (outer : List Env) (s : Shared) (H : Hp) (vs : List V) (Q : VK) (E : XK), A.guards = some [] → Room k (A.deeper (envOfC qual scope s.heap.objs.size f cdv)) → sp vs H Q E →
      ∃ t, PSs (cxOf CX P w K mg base N qual scope f cdv A outer s H E) body t ∧ t { nx := fun _ H' => Q .non H', rt := Q } (L2.start N vs) H) :
    FnG P w K mg base CX (k + 1) f (PySem.W.fnOf name qual params body scope dV kV doc pm an cdv ct) ps sp := by
  refine ⟨len, fun A outer s H args us vs Q E hg hr e0 hb r hsp => ?_⟩
  have hl := len _ _ _ _ hsp
  have KX : K.In s.heap := e0.mod.kin.keeps fun b o e => (e0.bs b o e).1
  have lim : s.heap.NoLimit := e0.mod.nolimit.keeps fun b o e => (e0.bs b o e).1
  have hkind : ∀ y ∈ ps.zip us, scope.names.lookup y.1 = some .local ∨ (scope.names.lookup y.1 = some .cell ∧ ((cellsFrom (s.heap.objs.size + 1) scope.names []).lookup y.1).isSome = true) := fun ⟨n, v⟩ hy => by
    rcases S.par n (List.of_mem_zip hy).1 with q | q
    · exact .inl q
    · exact .inr ⟨q, PySem.W.cellsFrom_some _ _ _ (.inl q)⟩
  refine codeAny_call_function hr.depth (KX _ _ lk) rfl S.co S.gen rfl (PySem.W.codeRec_of KX hcd) (hb _ _ _ _ ?_)
  refine wpAny_newFunctionEnv_cells S.kind hkind fun env he s1 xx => ?_
  subst he
  refine ⟨lim.keeps xx.toInCall.keep, codeAny_func ?_⟩
  obtain ⟨t, ht, hq⟩ := hbody A outer s H vs Q E hg (hr.deeper _) hsp
  have I : Inv (cxOf CX P w K mg base N qual scope f cdv A outer s H E) [] (L2.start N vs) H s1 := inv_start S hr.hd e0 hl r xx
  refine wpAny_mono (ht.run [] s1 (L2.start N vs) H _ I hq) (fun fl s' hs => ?_) fun e s' hs => hs
  have fin : ∀ {σ' : L2.St} {H' : Hp} {v : V} {u : Value}, Inv (cxOf CX P w K mg base N qual scope f cdv A outer s H E) [] σ' H' s' → RelV v u → Q v H' → CE outer P w H s Q u s' :=
    fun {σ' H' v u} J rv q => ⟨v, H', J.os, J.bare, J.base, J.hok, rv, q⟩
  cases fl with
  | ret u =>
    obtain ⟨v, σ', H', J, rv, q⟩ := hs
    exact fin J rv q
  | next =>
    obtain ⟨σ', H', J, q⟩ := hs
    exact fin (v := V.non) (u := Value.none) J rfl q
  | brk =>
    obtain ⟨_, _, _, q⟩ := hs
    exact False.elim q
  | cont =>
    obtain ⟨_, _, _, q⟩ := hs
    exact False.elim q
section
variable {P : Program} {w : World} {K : PySem.W.Frag} {mg : Str → Option Value} {base : Heap} {CX : CXT}
/-- the kV and the defaults are free: a def of the text as it stands behind the top -/
structure FunK (K : PySem.W.Frag) (x qual : Str) (st : Stmt) (f : Addr) (fd : FuncData) : Prop where
  ex : ∃ (oc : Value) (od : Option Addr) (dV kV doc pm : Value) (an : Option Addr) (cdv ct : Value) (osl : Array (Option Value)),
    fd = PySem.W.fnOf x qual (defArgs st) (defBody st) (defScope st) dV kV doc pm an cdv ct ∧ K.lookup f = some ⟨oc, od, .func fd, osl⟩ ∧ PySem.W.codeIn K cdv qual = true
theorem funK_mk {x qual : Str} {st : Stmt} {f : Addr} {oc : Value} {od an : Option Addr} {osl : Array (Option Value)} {dV kV doc pm cdv ct : Value} (l : K.lookup f = some ⟨oc, od, .func (PySem.W.fnOf x qual (defArgs st) (defBody st) (defScope st) dV kV doc pm an cdv ct), osl⟩)
    (c : PySem.W.codeIn K cdv qual = true) : FunK K x qual st f (PySem.W.fnOf x qual (defArgs st) (defBody st) (defScope st) dV kV doc pm an cdv ct) := ⟨⟨oc, od, dV, kV, doc, pm, an, cdv, ct, osl, rfl, l, c⟩⟩
/-- M2 tells no more than M' -/
def SubM (M M' : Mh) : Prop := ∀ a o, M a = some o → M' a = some o
theorem SubM.refl {M : Mh} : SubM M M := fun _ _ h => h
theorem SubM.trans {M M1 M2 : Mh} (h : SubM M M1) (h1 : SubM M1 M2) : SubM M M2 := fun a o e => h1 a o (h a o e)
theorem SubM.none {M M' : Mh} {a : Addr} (h : SubM M M') (n : M' a = none) : M a = none := by
  cases e : M a with
  | none => rfl
  | some o => rw [h a o e] at n; cases n
theorem SubM.new {M M' : Mh} {a : Addr} {o : MO} (h : SubM M M') (n : M' a = Option.none) : SubM M (updM M' a o) := fun b u e => by
  rw [updM_ne (neM (h b u e) n)]; exact h b u e
theorem SubM.upd {M M' : Mh} {a : Addr} {o : MO} (h : SubM M M') : SubM (updM M a o) (updM M' a o) := fun b u e => by
  unfold updM at e ⊢
  split <;> rename_i z
  · rw [if_pos z] at e; exact e
  · rw [if_neg z] at e; exact h b u e
/-- the end may be told at a data heap that tells less -/
def rlx (Q : QE) : QE := fun d M' => ∃ M, SubM M M' ∧ Q d M
theorem rlx_up {Q : QE} {d : D} {M M' : Mh} (s : SubM M M') (h : rlx Q d M) : rlx Q d M' := let ⟨M0, s0, q⟩ := h; ⟨M0, s0.trans s, q⟩
theorem rlx_of {Q : QE} {d : D} {M : Mh} (h : Q d M) : rlx Q d M := ⟨M, .refl, h⟩
theorem rlx_at {Q : QE} {d : D} {M M' : Mh} (s : SubM M M') (h : Q d M) : rlx Q d M' := ⟨M, s, h⟩
theorem CqE.rlx {K : PySem.W.Frag} {H : Hp} {M : Mh} {Q0 : QE} {Q : VK} (c : CqE K H M Q0 Q) : CqE K H M (rlx Q0) Q := fun d M' v H' ⟨M2, s2, q⟩ s m r =>
  c d M2 v H' q (s.trans (Stp.less fun a e => s2.none e)) (m.less s2) r
/-- THE RULE for a def that raises nothing: its reading T (fixed), and the verification condition over the data -/
theorem fn_D {x qual : Str} {st : Stmt} {f : Addr} {fd : FuncData} {N ps : List Str} {k : Nat} {S : SpD} {T : TSd} (F : FunK K x qual st f fd) (Sc : FnScope N ps (defScope st)) (hl : ∀ ds M Q E, S ds M Q E → ds.length = ps.length)
    (hb : ∀ (cdv : Value) (A : Around) (outer : List Env) (s : Shared) (H : Hp) (E : XK), A.guards = some [] → Room k (A.deeper (envOfC qual (defScope st) s.heap.objs.size f cdv)) →
      DSs (cxOf CX P w K mg base N qual (defScope st) f cdv A outer s H E).nox xw0 (defBody st) T)
    (vc : ∀ ds M Q E, S ds M Q E → T { nx := fun _ M' => rlx Q .non M', rt := rlx Q } (startD N.length ds) M) : FnG P w K mg base CX (k + 1) f fd ps (liSp K S) := by
  obtain ⟨oc, od, dV, kV, doc, pm, an, cdv, ct, osl, rfl, lk, hcd⟩ := F.ex
  refine fn_ofG0 lk hcd Sc (fun vs H Q E h => ?_) fun A outer s H vs Q E hg hr hsp => ?_
  · obtain ⟨ds, M, Q0, E0, r, m, h, _⟩ := h
    rw [r.length]; exact hl _ _ _ _ h
  · obtain ⟨ds, M, Q0, E0, r, m, h, c, cx⟩ := hsp
    refine ⟨_, (hb cdv A outer s H E hg hr).nox, startD N.length ds, M, _, ⟨RepSt.start N r, m, CqW.zero⟩, vc ds M Q0 E0 h, ⟨fun δ' M' σ' H' q s1 m1 _ => c.rlx .non M' .non H' q s1 m1 rfl, c.rlx, fun _ _ _ _ q => q.elim, fun _ _ _ _ q => q.elim⟩⟩
end
/-! ### calls -/
theorem guards_make {A : Around} {C : Addr} {us : List Value} {kw : List (Str × Value)} : (A.under (.builtin "type.__call__" ⟨.ref C :: us, kw⟩)).guards = A.guards := by
  have e : (Code.builtin "type.__call__" ⟨Value.ref C :: us, kw⟩).guards = [] := by
    simp [Code.guards, Code.isGuard, guardIds]
  unfold Around.under
  rw [e]
  cases h : A.guards with
  | none => simp [pushGuards]
  | some l => simp [pushGuards]
/-- what passes: nothing -/
abbrev EF : XK := fun _ _ _ => False
theorem passCX {X : Cx} : Passes (L2.CX X.prog X.w) X EF := fun _ _ _ _ _ _ _ h => by
  obtain ⟨_, _, _, _, _, _, _, _, _, _, _, _, q⟩ := h
  exact q.elim
section
variable {X : Cx} {x : Xw} {CX : CXT} {k : Nat} {f C : Addr} {fd : FuncData} {ps : List Str} {S : SpD} {dds : List D} {dvs : List V} {ds : List Value} {n m : Str} {p pos apos : Pos} {e o : Expr} {es : List Expr} {Ta : TEd} {T : TAd}
/-- the callee runs -/
theorem run_fnG {E : XK} {sp : Sp} {pins : List (Addr × Obj)} {σ : L2.St} {H : Hp} {s : Shared} {Q : VK} {us : List Value} {vs : List V} (F : FnG X.prog X.w X.K X.mg X.base CX k f fd ps sp) (hg : X.A.guards = some []) (hr : Room k X.A) (hb : Binds X.K fd ps ds) (hd : Vals dvs ds) (hx : Passes CX X E)
    (I : Inv X pins σ H s) (r : Vals vs us) (h : sp (vs ++ dvs) H Q E) : wpAny (model X.prog X.w) X.A (call (.ref f) us) (EP X pins σ Q) X.xe s := by
  have r2 : Vals (vs ++ dvs) (us ++ ds) := r.append hd
  have hl : (us ++ ds).length = ps.length := by rw [← r2.length]; exact F.len _ _ _ _ h
  refine wpAny_call (codeAny_mono (F.run X.A X.stack s H ⟨us, []⟩ (us ++ ds) (vs ++ dvs) Q E hg hr I.env0 (hb s us I.kIn hl) r2 h) fun r s' hq => ?_)
  cases r with
  | error e => exact hx pins σ H s e s' I hq
  | ok fl =>
    cases fl with
    | ret u => exact I.after hq
    | next => exact False.elim hq
    | brk => exact False.elim hq
    | cont => exact False.elim hq
def TCall (S : SpD) (dds : List D) (T : TAd) : TEd := fun δ M Q => T δ M fun ds M1 => S (ds ++ dds) M1 Q X0
theorem call_conv {K : PySem.W.Frag} (hdd : ∀ H, Reps K H dds dvs) : ∀ σ H Q, liE K x (TCall S dds T) σ H Q → liA K x T σ H fun vs H1 => liSp K S (vs ++ dvs) H1 Q EF := fun σ H Q ⟨δ, M, Q0, r, h, c⟩ =>
  ⟨δ, M, _, r, h, fun ds M' vs H' q s1 m1 e1 => ⟨ds ++ dds, M', Q0, X0, e1.append (hdd H'), m1, q, c.step s1, CqX.zero⟩⟩
theorem de_call (F : FnG X.prog X.w X.K X.mg X.base CX k f fd ps (liSp X.K S)) (hgd : X.A.guards = some []) (hr : Room k X.A) (hm : X.mg n = some (.ref f)) (hk : PySem.W.keepIn X.K (.ref f) = true) (hb : Binds X.K fd ps ds) (hd : Vals dvs ds) (hdd : ∀ H, Reps X.K H dds dvs) (hx : Passes CX X EF)
    (ha : DA X x (e :: es) T) (hg : Gl X n := by rfl) (hdb : (n == ("__debug__" : Str)) = false := by decide) (he : starEach (e :: es) X.env = (false, eval e X.env) :: starEach es X.env := by rfl) (hpl : (backTo pos (starEach es X.env)).any (·.1) = false := by rfl) :
    DE X x (.Call (.Name n p) (e :: es) [] pos) (TCall S dds T) := by
  refine ⟨fun pins s σ H Q I h => ?_⟩
  refine wpAny_Call_Name_kw (ld_glob I hg hm ?_ hdb)
  refine PySem.W.callWith_K (h₀ := X.base) I.ok.mod.kin hk (thn (ha.run pos pins s σ H _ I (call_conv hdd σ H Q h)) fun us s1 ⟨vs, H1, I1, r, q⟩ => ⟨I1.kIn, ?_⟩) he hpl
  exact run_fnG F hgd hr hb hd hx I1 r q
end
end L3
set_option Elab.async false
set_option autoImplicit false
set_option linter.all false
set_option maxRecDepth 100000
set_option maxHeartbeats 4000000
/-! L3, fourth part: iterators, for, while, list comprehensions. -/
namespace L3
open PySem PySem.Spec PyProof.Rows L2
/-- an iterator at the values walks the data items while G holds -/
structure ItD (K : PySem.W.Frag) (H0 : Hp) (M0 : Mh) (J : It) (items : List D) (G : Mh → Prop) : Prop where
  go : ∀ i H M, i < items.length → Stp H0 M0 H M → RepM K H M → G M → J.go i H
  yld : ∀ i H M v H', i < items.length → Stp H0 M0 H M → RepM K H M → G M → J.yld i H v H' → ∃ d, items[i]? = some d ∧ Rep K H' d v ∧ Stp H M H' M ∧ RepM K H' M
  stop : ∀ i H M, items.length ≤ i → Stp H0 M0 H M → RepM K H M → G M → J.stop i H
abbrev TId := Sd → Mh → (List D → (Mh → Prop) → Mh → Prop) → Prop
def CqI (K : PySem.W.Frag) (H : Hp) (M : Mh) (R0 : List D → (Mh → Prop) → Mh → Prop) (R : It → Hp → Prop) : Prop := ∀ items G M' J H', R0 items G M' → Stp H M H' M' → RepM K H' M' → ItD K H' M' J items G → R J H'
theorem CqI.step {K : PySem.W.Frag} {H H' : Hp} {M M' : Mh} {R0 : List D → (Mh → Prop) → Mh → Prop} {R : It → Hp → Prop} (h : CqI K H M R0 R) (s : Stp H M H' M') : CqI K H' M' R0 R := fun a b c d e q t r i => h a b c d e q (s.trans t) r i
def liI (K : PySem.W.Frag) (x : Xw) (T : TId) : TI := fun σ H R => ∃ δ M R0, Rst K x δ M σ H ∧ T δ M R0 ∧ CqI K H M R0 R
abbrev DI (X : Cx) (x : Xw) (tg iter : Expr) (T : TId) : Prop := PI X tg iter (liI X.K x T)
theorem PI.cv {X : Cx} {tg iter : Expr} {t u : TI} (h : PI X tg iter t) (c : ∀ σ H R, u σ H R → t σ H R) : PI X tg iter u := ⟨fun pins s σ H R I q => h.run pins s σ H R I (c σ H R q)⟩
section
variable {K : PySem.W.Frag} {H : Hp} {M : Mh}
theorem sqT_inj {K : PySem.W.Frag} {H : Hp} {a : Addr} {xs ys : List V} (h : SqT K H a xs) (h' : SqT K H a ys) (nk : ∀ o, H a = some o → K.lookup a = none) : xs = ys := by
  rcases h with (h | ⟨o, h⟩) | h
  · rcases h' with (h' | ⟨o', h'⟩) | h'
    · rw [h] at h'; cases h'; rfl
    · rw [h] at h'; cases h'
    · obtain ⟨o, its, n, e, _⟩ := h'; rw [nk _ h] at e; cases e
  · rcases h' with (h' | ⟨o', h'⟩) | h'
    · rw [h] at h'; cases h'
    · rw [h] at h'; cases h'; rfl
    · obtain ⟨o, its, n, e, _⟩ := h'; rw [nk _ h] at e; cases e
  · rcases h' with (h' | ⟨o', h'⟩) | h'
    · obtain ⟨o, its, n, e, _⟩ := h; rw [nk _ h'] at e; cases e
    · obtain ⟨o, its, n, e, _⟩ := h; rw [nk _ h'] at e; cases e
    · obtain ⟨o, its, n, e, c, d, z, r⟩ := h
      obtain ⟨o', its', n', e', c', d', z', r'⟩ := h'
      rw [e] at e'; cases e'
      rw [d] at d'; cases d'
      exact r.inj r'
theorem itd_tup {a : Addr} {vs : List V} {ds : List D} (h : TupF H a vs) (r : Reps K H ds vs) (m : RepM K H M) : ItD K H M (Itt K a) ds fun _ => True where
  go i H' M' hi s m' _ := by
    obtain ⟨v, e, _⟩ := r.get (List.getElem?_eq_getElem hi)
    exact ⟨vs, v, ((s.pst m).t _ _ h).q, e⟩
  yld i H' M' v H2 hi s m' _ y := by
    obtain ⟨rfl, y⟩ := y
    obtain ⟨d, e1, e2⟩ := r.get_r (y vs ((s.pst m).t _ _ h).q)
    exact ⟨d, e1, e2.mono (s.pst m), Stp.refl, m'⟩
  stop i H' M' hi s m' _ := ⟨vs, ((s.pst m).t _ _ h).q, by rw [r.length]; exact hi⟩
theorem itd_utup {a : Addr} {vs : List V} {ds : List D} (h : H a = some (.tup vs)) (r : Reps K H ds vs) (m : RepM K H M) : ItD K H M (Itt K a) ds fun _ => True where
  go i H' M' hi s m' _ := by
    obtain ⟨v, e, _⟩ := r.get (List.getElem?_eq_getElem hi)
    exact ⟨vs, v, uq ((s.pst m).u _ _ h), e⟩
  yld i H' M' v H2 hi s m' _ y := by
    obtain ⟨rfl, y⟩ := y
    obtain ⟨d, e1, e2⟩ := r.get_r (y vs (uq ((s.pst m).u _ _ h)))
    exact ⟨d, e1, e2.mono (s.pst m), Stp.refl, m'⟩
  stop i H' M' hi s m' _ := ⟨vs, uq ((s.pst m).u _ _ h), by rw [r.length]; exact hi⟩
theorem itd_frl {a : Addr} {vs : List V} {ds : List D} (h : SqF K H a vs) (r : Reps K H ds vs) (m : RepM K H M) : ItD K H M (Itl K a) ds fun _ => True where
  go i H' M' hi s m' _ := by
    obtain ⟨v, e, _⟩ := r.get (List.getElem?_eq_getElem hi)
    exact ⟨vs, v, ((s.pst m).f _ _ h).l, e⟩
  yld i H' M' v H2 hi s m' _ y := by
    obtain ⟨rfl, y⟩ := y
    obtain ⟨d, e1, e2⟩ := r.get_r (y vs ((s.pst m).f _ _ h).l)
    exact ⟨d, e1, e2.mono (s.pst m), Stp.refl, m'⟩
  stop i H' M' hi s m' _ := ⟨vs, ((s.pst m).f _ _ h).l, by rw [r.length]; exact hi⟩
theorem itd_lst {a : Addr} {ds : List D} : ItD K H M (Itl K a) ds fun M' => M' a = some (.lst ds) where
  go i H' M' hi s m' g := by
    obtain ⟨vs, e, r⟩ := m'.lst g
    obtain ⟨v, e2, _⟩ := r.get (List.getElem?_eq_getElem hi)
    exact ⟨vs, v, .of e, e2⟩
  yld i H' M' v H2 hi s m' g y := by
    obtain ⟨rfl, y⟩ := y
    obtain ⟨vs, e, r⟩ := m'.lst g
    obtain ⟨d, e1, e2⟩ := r.get_r (y vs (.of e))
    exact ⟨d, e1, e2, Stp.refl, m'⟩
  stop i H' M' hi s m' g := by
    obtain ⟨vs, e, r⟩ := m'.lst g
    exact ⟨vs, .of e, by rw [r.length]; exact hi⟩
theorem itd_str {z : Str} : ItD K H M (Its z) (z.cps.toList.map fun c => .str ⟨#[c]⟩) fun _ => True where
  go i H' M' hi s m' _ := by
    have hi' : i < z.cps.size := by simpa using hi
    exact hi'
  yld i H' M' v H2 hi s m' _ y := by
    obtain ⟨rfl, c, e, rfl⟩ := y
    exact ⟨.str ⟨#[c]⟩, by rw [List.getElem?_map, Array.getElem?_toList, e]; rfl, rfl, Stp.refl, m'⟩
  stop i H' M' hi s m' _ := by
    have hi' : z.cps.size ≤ i := by simpa using hi
    exact hi'
theorem itd_rng {lo : Int} {n : Nat} : ItD K H M (Itr lo n) ((List.range n).map fun i => .int (lo + (i : Nat))) fun _ => True where
  go i H' M' hi s m' _ := by
    have hi' : i < n := by simpa using hi
    exact hi'
  yld i H' M' v H2 hi s m' _ y := by
    obtain ⟨rfl, rfl⟩ := y
    have hi' : i < n := by simpa using hi
    exact ⟨.int (lo + i), by rw [List.getElem?_map, List.getElem?_range hi']; rfl, rfl, Stp.refl, m'⟩
  stop i H' M' hi s m' _ := by
    have hi' : n ≤ i := by simpa using hi
    exact hi'
end
section
variable {X : Cx} {x : Xw} {tg : Expr} {e a b : Expr} {Te : TEd} {Ta : TAd} {p pos : Pos}
/-- over a value: a tuple, a list, a text -/
def TIt (Te : TEd) : TId := fun δ M R => Te δ M fun d M1 => match d with
  | .tup ds => R ds (fun _ => True) M1
  | .utup ds => R ds (fun _ => True) M1
  | .frl ds => R ds (fun _ => True) M1
  | .ref a => ∃ ds, M1 a = some (.lst ds) ∧ R ds (fun M' => M' a = some (.lst ds)) M1
  | .str z => R (z.cps.toList.map fun c => .str ⟨#[c]⟩) (fun _ => True) M1
  | _ => False
def iAny (K : PySem.W.Frag) (tl : TE) : TI := fun σ H R => tl σ H fun v H1 =>
  (∃ a, v = .ref a ∧ (∃ xs, SqL K H1 a xs) ∧ R (Itl K a) H1) ∨ (∃ a, v = .ref a ∧ (∃ xs, SqT K H1 a xs) ∧ R (Itt K a) H1) ∨ (∃ z, v = .str z ∧ R (Its z) H1)
theorem pi_any {tl : TE} (hl : PE X e tl) : PI X tg e (iAny X.K tl) := by
  refine ⟨fun pins s σ H R I h => ?_⟩
  refine thn (hl.run pins s σ H _ I h) fun v s1 ⟨y, H1, I1, r1, q1⟩ => ?_
  -- the value alone, walked: the rules' own ends, at a value that is a constant reading
  have one : ∀ {t : TI}, (∀ {tl' : TE}, PE X e tl' → PI X tg e t) → True := fun _ => trivial
  rcases q1 with ⟨a, rfl, ⟨xs, hq⟩, q⟩ | ⟨a, rfl, ⟨xs, hq⟩, q⟩ | ⟨z, rfl, q⟩
  · cases r1
    obtain ⟨its, rv, p, hz⟩ := I1.list hq
    refine wpAny_pyIter_list p.isList ?_
    refine ⟨s1.heap.objs.size, [s1.heap.objs.size], _, _, H1, rfl, I1.kept (t' := s1.toks) fun b o e => Heap.get?_push_of_some _ e, turn_list a _, ⟨_, Heap.get?_push_size _ rfl, rfl, rfl⟩, fun b hb => ?_, q⟩
    have e : b = s1.heap.objs.size := by simpa using hb
    subst e
    exact I1.fpOk (Nat.le_refl _) (I1.hok.fresh (Nat.le_refl _))
  · cases r1
    obtain ⟨its, rv, p, hz⟩ := I1.tuple hq
    refine wpAny_pyIter_tuple (show s1.heap.IsTuple a its.toArray from p) ?_
    refine ⟨s1.heap.objs.size, [s1.heap.objs.size], _, _, H1, rfl, I1.kept (t' := s1.toks) fun b o e => Heap.get?_push_of_some _ e, turn_tuple a _, ⟨_, Heap.get?_push_size _ rfl, rfl, rfl⟩, fun b hb => ?_, q⟩
    have e : b = s1.heap.objs.size := by simpa using hb
    subst e
    exact I1.fpOk (Nat.le_refl _) (I1.hok.fresh (Nat.le_refl _))
  · obtain ⟨t, rfl⟩ := r1
    cases ha : z.cps.all (· < 128)
    · exact wpAny_pyIter_wide ha (pi_one (tk := s1.toks) I1 _ (turn_str _ z t "str_iterator" (.inr rfl)) ⟨_, Heap.get?_push_size _ rfl, rfl, rfl⟩ q)
    · exact wpAny_pyIter_ascii ha (pi_one (tk := s1.toks) I1 _ (turn_str _ z t "str_ascii_iterator" (.inl rfl)) ⟨_, Heap.get?_push_size _ rfl, rfl, rfl⟩ q)
theorem di_it (he : DE X x e Te) : DI X x tg e (TIt Te) := PI.cv (pi_any he) fun σ H R ⟨δ, M, R0, r, h, c⟩ =>
  ⟨δ, M, _, r, h, fun d M' v H' q s1 m1 e1 => by
    cases d with
    | tup ds =>
      obtain ⟨a, vs, rfl, t, q1⟩ := e1
      exact .inr (.inl ⟨a, rfl, ⟨vs, t.q⟩, c ds _ M' _ H' q s1 m1 (itd_tup t q1 m1)⟩)
    | utup ds =>
      obtain ⟨a, vs, rfl, t, q1⟩ := e1
      exact .inr (.inl ⟨a, rfl, ⟨vs, uq t⟩, c ds _ M' _ H' q s1 m1 (itd_utup t q1 m1)⟩)
    | frl ds =>
      obtain ⟨a, vs, rfl, t, q1⟩ := e1
      exact .inl ⟨a, rfl, ⟨vs, t.l⟩, c ds _ M' _ H' q s1 m1 (itd_frl t q1 m1)⟩
    | ref a =>
      obtain ⟨ds, h1, h2⟩ := q
      obtain ⟨vs, e2, _⟩ := m1.lst h1
      exact .inl ⟨a, e1, ⟨vs, .of e2⟩, c ds _ M' _ H' h2 s1 m1 itd_lst⟩
    | str z => exact .inr (.inr ⟨z, e1, c _ _ M' _ H' q s1 m1 itd_str⟩)
    | _ => exact q.elim⟩
def TRng1 (Ta : TAd) : TId := fun δ M R => Ta δ M fun ds M1 => match ds with | [.int j] => -(2 ^ 62) ≤ j ∧ j < 2 ^ 62 ∧ R ((List.range j.toNat).map fun i => .int (0 + (i : Nat))) (fun _ => True) M1 | _ => False
theorem di_rng1 (ha : DA X x [a] Ta) (hm : X.mg "range" = none) (hg : Gl X "range" := by rfl) (hs : starEach [a] X.env = [(false, eval a X.env)] := by rfl) : DI X x tg (.Call (.Name "range" p) [a] [] pos) (TRng1 Ta) :=
  PI.cv (pi_range1 hg hm ha hs) fun σ H R ⟨δ, M, R0, r, h, c⟩ => ⟨δ, M, _, r, h, fun ds M' vs H' q s1 m1 e1 => by
    match ds, q with
    | [.int j], q =>
      obtain ⟨v, w, rfl, z, e2⟩ := e1
      cases e2
      exact ⟨j, by rw [show v = .int j from z], q.1, q.2.1, c _ _ M' _ H' q.2.2 s1 m1 itd_rng⟩⟩
def TRng2 (Ta : TAd) : TId := fun δ M R => Ta δ M fun ds M1 => match ds with | [.int i, .int j] => (-(2 ^ 62) ≤ i ∧ i < 2 ^ 62 ∧ -(2 ^ 62) ≤ j ∧ j < 2 ^ 62) ∧ R ((List.range (j - i).toNat).map fun n => .int (i + (n : Nat))) (fun _ => True) M1 | _ => False
theorem di_rng2 (ha : DA X x [a, b] Ta) (hm : X.mg "range" = none) (hg : Gl X "range" := by rfl) (hs : starEach [a, b] X.env = [(false, eval a X.env), (false, eval b X.env)] := by rfl) (hs2 : starEach [b] X.env = [(false, eval b X.env)] := by rfl) :
    DI X x tg (.Call (.Name "range" p) [a, b] [] pos) (TRng2 Ta) :=
  PI.cv (pi_range2 hg hm ha hs hs2) fun σ H R ⟨δ, M, R0, r, h, c⟩ => ⟨δ, M, _, r, h, fun ds M' vs H' q s1 m1 e1 => by
    match ds, q with
    | [.int i, .int j], q =>
      obtain ⟨v, w, rfl, z, v2, w2, z3, z2, e2⟩ := e1
      cases e2
      subst z3
      exact ⟨i, j, by rw [show v = .int i from z, show v2 = .int j from z2], q.1, c _ _ M' _ H' q.2 s1 m1 itd_rng⟩⟩
/-! ### for -/
/-- what holds between two turns: Inv -/
def TFor (Ti : TId) (Tg : TGd) (Tb : TSd) : TSd := fun E δ M => Ti δ M fun items G M1 => ∃ Iv : Nat → Sd → Mh → Prop, Iv 0 δ M1 ∧ (∀ i δ M, Iv i δ M → G M) ∧
  (∀ (i : Nat) (d : D) δ M, items[i]? = some d → Iv i δ M → Tg d δ M fun δ2 M2 => Tb { E with nx := Iv (i + 1), ct := Iv (i + 1), bk := E.nx } δ2 M2) ∧ ∀ δ M, Iv items.length δ M → E.nx δ M
theorem for_conv {K : PySem.W.Frag} {Ti : TId} {Tg : TGd} {Tb : TSd} {vs : List Nat} : ∀ D σ H, liS K x (TFor Ti Tg Tb) D σ H → tFor (liI K x Ti) (liG K x vs Tg) (liS K x Tb) D σ H := fun D σ H ⟨δ, M, E, r, h, c⟩ =>
  ⟨δ, M, _, r, h, fun items G M1 J H1 q s1 m1 it => by
    obtain ⟨Iv, h0, hG, hs, hd⟩ := q
    refine ⟨fun i m σ' H' => m = items.length - i ∧ i ≤ items.length ∧ ∃ δ' M', Iv i δ' M' ∧ RepSt K H' δ' σ' ∧ RepM K H' M' ∧ Stp H1 M1 H' M', ⟨items.length, by simp, Nat.zero_le _, δ, M1, h0, r.s.mono (s1.pst r.m), m1, Stp.refl⟩, ?_⟩
    rintro i m σ' H' ⟨rfl, hi, δ', M', iv, rs, rm, st⟩
    by_cases hlt : i < items.length
    · refine .inr ⟨it.go i H' M' hlt st rm (hG _ _ _ iv), fun σ2 H2 => ∃ δ2 M2, Iv (i + 1) δ2 M2 ∧ RepSt K H2 δ2 σ2 ∧ RepM K H2 M2 ∧ Stp H1 M1 H2 M2, fun σ2 H2 ⟨δ2, M2, a1, a2, a3, a4⟩ => ⟨items.length - (i + 1), by omega, rfl, hlt, δ2, M2, a1, a2, a3, a4⟩, fun v H2 y => ?_⟩
      obtain ⟨d, e1, e2, s2, m2⟩ := it.yld i H' M' v H2 hlt st rm (hG _ _ _ iv) y
      have st2 := (s1.trans st).trans s2
      have R2 : Rst K x δ' M' σ' H2 := r.to st2 m2 (rs.mono (s2.pst rm))
      refine ⟨d, δ', M', _, e2, R2, hs i d δ' M' e1 iv, fun δ3 M3 σ3 H3 q3 s3 m3 rs3 _ => ?_⟩
      refine ⟨δ3, M3, _, R2.to s3 m3 rs3, q3, ⟨fun δ4 M4 σ4 H4 q4 s4 m4 rs4 => ⟨δ4, M4, q4, rs4, m4, ((st.trans s2).trans s3).trans s4⟩, (c.rt.step (st2.trans s3)), (c.nx.step (st2.trans s3)), fun δ4 M4 σ4 H4 q4 s4 m4 rs4 => ⟨δ4, M4, q4, rs4, m4, ((st.trans s2).trans s3).trans s4⟩⟩⟩
    · have e : i = items.length := by omega
      subst e
      exact .inl ⟨it.stop _ H' M' (Nat.le_refl _) st rm (hG _ _ _ iv), c.nx δ' M' σ' H' (hd _ _ iv) (s1.trans st) rm rs⟩⟩
theorem ds_for {iter : Expr} {body : List Stmt} {Ti : TId} {Tg : TGd} {Tb : TSd} {vs : List Nat} (hp : PassesOwn (model X.prog X.w) X.A X.env X.xe) (hc : X.calm = true) (hi : DI X x tg iter Ti) (hg : DG X x vs tg Tg) (hb : DSs X x body Tb)
    (hs : ∀ y, foldedSetIterable iter X.env y = pure y := by intro _; rfl) : DS X x (.For tg iter body [] pos) (TFor Ti Tg Tb) := PS.cv (ps_for hp hc hi hg hb hs) for_conv
/-! ### while -/
def TWhile (Tc : TTd) (Tb : TSd) : TSd := fun E δ M => ∃ Iv : Nat → Sd → Mh → Prop, (∃ m, Iv m δ M) ∧ ∀ m δ M, Iv m δ M → Tc δ M fun b M1 => if b = true then ∃ N : Sd → Mh → Prop, (∀ δ' M', N δ' M' → ∃ m', m' < m ∧ Iv m' δ' M') ∧ Tb { E with nx := N, ct := N, bk := E.nx } δ M1 else E.nx δ M1
theorem ds_while {c : Expr} {body : List Stmt} {Tc : TTd} {Tb : TSd} (hp : PassesOwn (model X.prog X.w) X.A X.env X.xe) (hc : DT X x c Tc) (hb : DSs X x body Tb) : DS X x (.While c body [] pos) (TWhile Tc Tb) :=
  PS.cv (ps_while hp hc hb) fun D σ H ⟨δ, M, E, r, h, c⟩ => by
    obtain ⟨Iv, ⟨m0, h0⟩, hs⟩ := h
    refine ⟨fun m σ' H' => ∃ δ' M', Iv m δ' M' ∧ RepSt X.K H' δ' σ' ∧ RepM X.K H' M' ∧ Stp H M H' M', ⟨m0, δ, M, h0, r.s, r.m, Stp.refl⟩, ?_⟩
    rintro m σ' H' ⟨δ', M', iv, rs, rm, st⟩
    refine ⟨δ', M', _, r.to st rm rs, hs m δ' M' iv, fun b M1 H1 q s1 m1 => ?_⟩
    have t := st.trans s1
    have R1 : Rst X.K x δ' M1 σ' H1 := r.to t m1 (rs.mono (s1.pst rm))
    cases b with
    | true =>
      rw [if_pos rfl] at q
      obtain ⟨N, hN, q⟩ := q
      refine ⟨fun σ2 H2 => ∃ δ2 M2, N δ2 M2 ∧ RepSt X.K H2 δ2 σ2 ∧ RepM X.K H2 M2 ∧ Stp H M H2 M2, fun σ2 H2 ⟨δ2, M2, a1, a2, a3, a4⟩ => ?_, ⟨δ', M1, _, R1, q, ⟨fun δ4 M4 σ4 H4 q4 s4 m4 rs4 => ⟨δ4, M4, q4, rs4, m4, t.trans s4⟩, c.rt.step t, c.nx.step t, fun δ4 M4 σ4 H4 q4 s4 m4 rs4 => ⟨δ4, M4, q4, rs4, m4, t.trans s4⟩⟩⟩⟩
      obtain ⟨m', hm, iv'⟩ := hN δ2 M2 a1
      exact ⟨m', hm, δ2, M2, iv', a2, a3, a4⟩
    | false => exact c.nx δ' M1 σ' H1 (by simpa using q) t m1 (rs.mono (s1.pst rm))
/-! ### a list comprehension -/
/-- Iv i acc M: i items seen, acc made; own: the slots of the block's own names -/
def TLc (Ti : TId) (Tg : TGd) (Tt : TTd) (Te : TEd) (own : List Nat) : TEd := fun δ M Q => Ti δ M fun items G M1 => items.length ≤ 1000000 ∧ ∃ Iv : Nat → List D → Mh → Prop, Iv 0 [] M1 ∧ (∀ i acc M, Iv i acc M → G M) ∧
  (∀ (i : Nat) (d : D) acc M, items[i]? = some d → Iv i acc M → Tg d (wipeD δ own) M fun δ2 M2 => Tt δ2 M2 fun b M3 => if b = true then Te δ2 M3 fun y M4 => Iv (i + 1) (acc ++ [y]) M4 else Iv (i + 1) acc M3) ∧
  ∀ acc M', Iv items.length acc M' → ∀ p, M' p = none → Q (.ref p) (updM M' p (.lst acc))
theorem lc_conv {K : PySem.W.Frag} {Ti : TId} {Tg : TGd} {Tt : TTd} {Te : TEd} {own : List Nat} : ∀ σ H Q, liE K x (TLc Ti Tg Tt Te own) σ H Q → tLc (liI K x Ti) (liG K xw0 own Tg) (liT K xw0 Tt) (liE K xw0 Te) own σ H Q := fun σ H Q ⟨δ, M, Q0, r, h, c⟩ =>
  ⟨δ, M, _, r, h, fun items G M1 J H1 q s1 m1 it => by
    intro Dl hD
    obtain ⟨hz, Iv, h0, hG, hs, hd⟩ := q
    have hDM : M1 Dl = none := m1.fresh hD
    -- the list under way is not told of
    refine ⟨fun i m H' => m = items.length - i ∧ i ≤ items.length ∧ ∃ acc M' ws, Iv i acc M' ∧ acc.length ≤ i ∧ H' Dl = some (.lst ws) ∧ M' Dl = none ∧ Reps K H' acc ws ∧ RepM K H' M' ∧ Stp H1 M1 H' M', ⟨items.length, by simp, Nat.zero_le _, [], M1, [], h0, Nat.le_refl _, upd_same, hDM, rfl, m1.newU hD, Stp.newU hD⟩, ?_⟩
    rintro i m H' ⟨rfl, hi, acc, M', ws, iv, ha, eD, nD, ra, rm, st⟩
    by_cases hlt : i < items.length
    · refine .inr ⟨it.go i H' M' hlt st rm (hG _ _ _ iv), fun H2 => ∃ acc M' ws, Iv (i + 1) acc M' ∧ acc.length ≤ i + 1 ∧ H2 Dl = some (.lst ws) ∧ M' Dl = none ∧ Reps K H2 acc ws ∧ RepM K H2 M' ∧ Stp H1 M1 H2 M', fun H2 ⟨a1, a2, a3, a4, a5⟩ => ⟨items.length - (i + 1), by omega, rfl, hlt, a1, a2, a3, a4, a5⟩, fun v H2 y => ?_⟩
      obtain ⟨d, e1, e2, s2, m2⟩ := it.yld i H' M' v H2 hlt st rm (hG _ _ _ iv) y
      have rσ : RepSt K H2 (wipeD δ own) (L2.wipe σ own) := ((r.s.mono ((s1.trans st).pst r.m)).mono (s2.pst rm)).wipe own
      have eD2 := s2 Dl _ eD nD
      refine ⟨d, wipeD δ own, M', _, e2, ⟨rσ, m2, CqW.zero⟩, hs i d acc M' e1 iv, fun δ3 M3 σ3 H3 q3 s3 m3 rs3 w3 => ⟨w3.trans (wipe_wipe own), δ3, M3, _, ⟨rs3, m3, CqW.zero⟩, q3, fun b M4 H4 q4 s4 m4 => ?_⟩⟩
      have eD3 := s3 Dl _ eD2.1 nD
      have eD4 := s4 Dl _ eD3.1 eD3.2
      have stp4 := ((st.trans s2).trans s3).trans s4
      have ra4 := (((ra.mono (s2.pst rm)).mono (s3.pst m2)).mono (s4.pst m3))
      cases b with
      | true =>
        refine ⟨δ3, M4, _, ⟨rs3.mono (s4.pst m3), m4, CqW.zero⟩, by simpa using q4, fun y M5 v5 H5 q5 s5 m5 e5 => ?_⟩
        have eD5 := s5 Dl _ eD4.1 eD4.2
        have Pu : Pst K H5 (upd H5 Dl (.lst (ws ++ [v5]))) := by
          have z : Stp H5 (updM M5 Dl (.lst acc)) (upd H5 Dl (.lst (ws ++ [v5]))) (updM (updM M5 Dl (.lst acc)) Dl (.lst (acc ++ [y]))) := Stp.wr updM_same
          refine z.pst (fun a o ea => ?_)
          by_cases za : a = Dl
          · subst za; rw [updM_same] at ea; cases ea; exact ⟨ws, eD5.1, ra4.mono (s5.pst m4)⟩
          · rw [updM_ne za] at ea; exact m5 a o ea
        refine ⟨ws, eD5.1, ?_, acc ++ [y], M5, ws ++ [v5], q5, by rw [List.length_append]; show acc.length + 1 ≤ _; omega, upd_same, eD5.2, ?_, ?_, ?_⟩
        · rw [ra.length]; exact szlt (by omega)
        · exact ((ra4.mono (s5.pst m4)).append (Reps.cons e5 Reps.nil)).mono Pu
        · intro a o ea
          have na : a ≠ Dl := fun z => by rw [z, eD5.2] at ea; cases ea
          exact (m5 a o ea).mono Pu (upd_ne na)
        · intro a o ea na
          have ne : a ≠ Dl := fun z => by rw [z, hD] at ea; cases ea
          obtain ⟨k1, k2⟩ := (stp4.trans s5) a o ea na
          exact ⟨by rw [upd_ne ne]; exact k1, k2⟩
      | false => exact ⟨acc, M4, ws, by simpa using q4, by omega, eD4.1, eD4.2, ra4, m4, stp4⟩
    · have e : i = items.length := by omega
      subst e
      refine .inl ⟨it.stop _ H' M' (Nat.le_refl _) st rm (hG _ _ _ iv), c _ _ _ H' (hd acc M' iv Dl nD) ?_ ?_ rfl⟩
      · intro a o ea na
        obtain ⟨k1, k2⟩ := s1 a o ea na
        have ne : a ≠ Dl := fun z => by rw [z, hD] at k1; cases k1
        obtain ⟨k3, k4⟩ := st a o k1 k2
        exact ⟨k3, by rw [updM_ne ne]; exact k4⟩
      · intro a o ea
        by_cases za : a = Dl
        · subst za; rw [updM_same] at ea; cases ea; exact ⟨ws, eD, ra⟩
        · rw [updM_ne za] at ea; exact rm a o ea⟩
/-- the tests of a comprehension -/
def TYes : TTd := fun _ M Q => Q true M
structure DTs (X : Cx) (x : Xw) (es : List Expr) (T : TTd) : Prop where
  p : PTs X es (liT X.K x T)
theorem dts_nil : DTs X x [] TYes := ⟨⟨fun pins s σ H Q I ⟨δ, M, Q0, r, h, c⟩ => pts_nil.run pins s σ H Q I (c true M H h Stp.refl r.m)⟩⟩
theorem dts_one {c : Expr} {T : TTd} (h : DT X x c T) : DTs X x [c] T := ⟨pts_one h⟩
theorem de_lc {elt iter : Expr} {ifs : List Expr} {scope : Scope} {own : List (Str × Nat)} {Ti : TId} {Tg : TGd} {Tt : TTd} {Te : TEd} (hc : X.calm = true) (hN : X.N.Nodup) (hi : DI X x tg iter Ti) (ok : BlkOk X.N X.env.scope scope own)
    (hg : ∀ (s : Shared) (H : Hp) (C : Addr) (cl : List (Str × Addr)) (fp : List Addr), DG (X.blk s H scope (compEnvC scope cl C X.env) fp) xw0 (own.map (·.2)) tg Tg)
    (ht : ∀ (s : Shared) (H : Hp) (C : Addr) (cl : List (Str × Addr)) (fp : List Addr), DTs (X.blk s H scope (compEnvC scope cl C X.env) fp) xw0 ifs Tt)
    (he : ∀ (s : Shared) (H : Hp) (C : Addr) (cl : List (Str × Addr)) (fp : List Addr), DE (X.blk s H scope (compEnvC scope cl C X.env) fp) xw0 elt Te)
    (hs : ∀ y, foldedSetIterable iter X.env y = pure y := by intro _; rfl) : DE X x (.ListComp elt [⟨tg, iter, ifs, 0⟩] scope pos) (TLc Ti Tg Tt Te (own.map (·.2))) :=
  PE.cv (pe_lc hc hN hi ok hg (fun s H C cl fp => (ht s H C cl fp).p) he hs) lc_conv
end
end L3
set_option Elab.async false
set_option autoImplicit false
set_option linter.all false
set_option maxRecDepth 100000
set_option maxHeartbeats 4000000
/-! L3, fifth part: data as PyData; ==, repr, len, sum, sorted, isinstance, subscripts, slices, methods of lists. -/
namespace L3
open PySem PySem.Spec PyProof.Rows L2
/-! ### data as the library's PyData -/
mutual
def D.py : D → PyData
  | .non => .none
  | .bl b => .bool b
  | .int i => .int i
  | .str x => .str x
  | .tup ds => .tuple (D.pys ds)
  | .utup ds => .tuple (D.pys ds)
  | .frl ds => .list (D.pys ds)
  | .ref _ => .none
  | .ty _ => .none
def D.pys : List D → List PyData
  | [] => []
  | d :: ds => d.py :: D.pys ds
end
mutual
/-- no addresses within -/
def D.pu : D → Bool
  | .ref _ => false
  | .ty _ => false
  | .tup ds => D.pus ds
  | .utup ds => D.pus ds
  | .frl ds => D.pus ds
  | _ => true
def D.pus : List D → Bool
  | [] => true
  | d :: ds => d.pu && D.pus ds
end
mutual
theorem py_plain : ∀ d : D, d.py.plain = true
  | .non => rfl
  | .bl _ => rfl
  | .int _ => rfl
  | .str _ => rfl
  | .ref _ => rfl
  | .ty _ => rfl
  | .tup ds => by simp only [D.py, PyData.plain]; exact pys_plain ds
  | .utup ds => by simp only [D.py, PyData.plain]; exact pys_plain ds
  | .frl ds => by simp only [D.py, PyData.plain]; exact pys_plain ds
theorem pys_plain : ∀ ds : List D, PyData.plainAll (D.pys ds) = true
  | [] => rfl
  | d :: ds => by simp only [D.pys, PyData.plainAll, py_plain d, pys_plain ds, Bool.and_self]
end
theorem pys_length : ∀ ds : List D, (D.pys ds).length = ds.length
  | [] => rfl
  | d :: ds => by simp only [D.pys, List.length_cons, pys_length ds]
theorem pys_map : ∀ ds : List D, D.pys ds = ds.map D.py
  | [] => rfl
  | d :: ds => by simp only [D.pys, List.map_cons, pys_map ds]
/-- what an address tells as data: a list of data -/
def pyM (M : Mh) : D → Option PyData
  | .ref a => match M a with | some (.lst ds) => if D.pus ds then some (.list (D.pys ds)) else none | _ => none
  | d => if d.pu then some d.py else none
section
variable {X : Cx} {pins : List (Addr × Obj)} {σ : L2.St} {H : Hp} {s : Shared} {M : Mh}
mutual
theorem reads_of (I : L2.Inv X pins σ H s) : ∀ (d : D) (v : V) (u : Value), d.pu = true → Rep X.K H d v → RelV v u → ∃ as, Reads s.heap u d.py as
  | .non, v, u, _, h, r => by cases h; cases r; exact ⟨_, Reads.none⟩
  | .bl b, v, u, _, h, r => by cases h; cases r; exact ⟨_, Reads.bool b⟩
  | .int i, v, u, _, h, r => by cases h; obtain ⟨t, rfl⟩ := r; exact ⟨_, Reads.int i t⟩
  | .str z, v, u, _, h, r => by cases h; obtain ⟨t, rfl⟩ := r; exact ⟨_, Reads.str z t⟩
  | .ref _, _, _, p, _, _ => by cases p
  | .ty _, _, _, p, _, _ => by cases p
  | .tup ds, v, u, p, h, r => by
    obtain ⟨a, vs, rfl, t, q⟩ := h
    cases r
    obtain ⟨its, rv, ⟨o, ho, hc, n, hd⟩, hz⟩ := I.tuple t.q
    obtain ⟨as, hr⟩ := readsAll_of I ds vs its (by simpa [D.pu] using p) q rv
    exact ⟨_, Reads.tuple ho hc hd hr⟩
  | .utup ds, v, u, p, h, r => by
    obtain ⟨a, vs, rfl, t, q⟩ := h
    cases r
    obtain ⟨its, rv, ⟨o, ho, hc, n, hd⟩, hz⟩ := I.tuple (uq t)
    obtain ⟨as, hr⟩ := readsAll_of I ds vs its (by simpa [D.pu] using p) q rv
    exact ⟨_, Reads.tuple ho hc hd hr⟩
  | .frl ds, v, u, p, h, r => by
    obtain ⟨a, vs, rfl, t, q⟩ := h
    cases r
    obtain ⟨its, rv, ⟨o, n, ho, hc, hdn, hd⟩, hz⟩ := I.list t.l
    obtain ⟨as, hr⟩ := readsAll_of I ds vs its (by simpa [D.pu] using p) q rv
    exact ⟨_, Reads.list ho hc hd hr⟩
theorem readsAll_of (I : L2.Inv X pins σ H s) : ∀ (ds : List D) (vs : List V) (us : List Value), D.pus ds = true → Reps X.K H ds vs → Vals vs us → ∃ as, ReadsAll s.heap us (D.pys ds) as
  | [], _, _, _, h, r => by cases h; cases r; exact ⟨_, ReadsAll.nil⟩
  | d :: ds, _, _, p, h, r => by
    obtain ⟨v, w, rfl, h1, h2⟩ := h
    cases r with
    | cons r1 r2 =>
      rw [D.pus, Bool.and_eq_true] at p
      obtain ⟨as, q1⟩ := reads_of I d _ _ p.1 h1 r1
      obtain ⟨bs, q2⟩ := readsAll_of I ds _ _ p.2 h2 r2
      exact ⟨_, ReadsAll.cons q1 q2⟩
end
theorem readsM (I : L2.Inv X pins σ H s) (m : RepM X.K H M) {d : D} {v : V} {u : Value} {p : PyData} (h : pyM M d = some p) (e : Rep X.K H d v) (r : RelV v u) : (∃ as, Reads s.heap u p as) ∧ p.plain = true := by
  cases d with
  | ref a =>
    simp only [pyM] at h
    split at h
    · rename_i ds hm
      split at h
      · rename_i hp
        cases h
        obtain ⟨vs, eH, q⟩ := m.lst hm
        have e' : v = .ref a := e
        subst e'
        cases r
        obtain ⟨hz, its, n, rv, ho⟩ := I.hok a _ eH
        obtain ⟨as, hr⟩ := readsAll_of I ds vs its hp q rv
        exact ⟨⟨_, Reads.list ho rfl rfl hr⟩, by simp only [PyData.plain]; exact pys_plain ds⟩
      · cases h
    · cases h
  | ty n => simp [pyM, D.pu] at h
  | non => simp only [pyM, D.pu, if_true] at h; cases h; exact ⟨reads_of I _ v u rfl e r, py_plain _⟩
  | bl b => simp only [pyM, D.pu, if_true] at h; cases h; exact ⟨reads_of I _ v u rfl e r, py_plain _⟩
  | int b => simp only [pyM, D.pu, if_true] at h; cases h; exact ⟨reads_of I _ v u rfl e r, py_plain _⟩
  | str b => simp only [pyM, D.pu, if_true] at h; cases h; exact ⟨reads_of I _ v u rfl e r, py_plain _⟩
  | tup ds =>
    simp only [pyM] at h
    split at h
    · rename_i hp; cases h; exact ⟨reads_of I _ v u hp e r, py_plain _⟩
    · cases h
  | utup ds =>
    simp only [pyM] at h
    split at h
    · rename_i hp; cases h; exact ⟨reads_of I _ v u hp e r, py_plain _⟩
    · cases h
  | frl ds =>
    simp only [pyM] at h
    split at h
    · rename_i hp; cases h; exact ⟨reads_of I _ v u hp e r, py_plain _⟩
    · cases h
end
/-! == and != : by data -/
section
variable {X : Cx} {x : Xw}
/-- a rule whose reading speaks of the data heap itself -/
def OpD (X : Cx) (f : Value → Value → Sem Value) (R : R2d) : Prop :=
  ∀ (pins : List (Addr × Obj)) (s : Shared) (σ : L2.St) (H : Hp) (M : Mh) (y z : V) (v u : Value) (d e : D) (Q0 : QE) (Q : VK), L2.Inv X pins σ H s → RepM X.K H M → Rep X.K H d y → Rep X.K H e z → RelV y v → RelV z u → R d e M Q0 → CqE X.K H M Q0 Q →
    wpAny (model X.prog X.w) X.A (f v u) (EP X pins σ Q) X.xe s
/-- such a rule as one of the layer's -/
def rOf (K : PySem.W.Frag) (R : R2d) : R2 := fun y z H Q => ∃ M d e Q0, RepM K H M ∧ Rep K H d y ∧ Rep K H e z ∧ R d e M Q0 ∧ CqE K H M Q0 Q
theorem OpD.r {f : Value → Value → Sem Value} {R : R2d} (h : OpD X f R) : OpR X f (rOf X.K R) := fun pins s σ H y z v u Q I ry rz ⟨M, d, e, Q0, m, h1, h2, h3, c⟩ => h pins s σ H M y z v u d e Q0 Q I m h1 h2 ry rz h3 c
theorem imp_of {K : PySem.W.Frag} {R : R2d} : Imp2 K (rOf K R) R := fun H M y z d e Q0 Q m h1 h2 h3 c => ⟨M, d, e, Q0, m, h1, h2, h3, c⟩
def REq : R2d := fun d e M Q => ∃ p q, pyM M d = some p ∧ pyM M e = some q ∧ p.depth ≤ 60 ∧ Q (.bl (PyData.eqv p q)) M
def RNe : R2d := fun d e M Q => ∃ p q, pyM M d = some p ∧ pyM M e = some q ∧ p.depth ≤ 60 ∧ Q (.bl (!PyData.eqv p q)) M
theorem op_eqP (hu : X.A.units + 64 < cLine) : OpD X (compareOp .Eq) REq := by
  intro pins s σ H M y z v u d e Q0 Q I m h1 h2 ry rz ⟨p, q, e1, e2, hd, h⟩ c
  obtain ⟨⟨as, r1⟩, p1⟩ := readsM I m e1 h1 ry
  obtain ⟨⟨bs, r2⟩, p2⟩ := readsM I m e2 h2 rz
  have hl : X.A.units + min p.depth q.depth < cLine := by have := Nat.min_le_left p.depth q.depth; omega
  exact PySem.SeqAt.eq_plain r1 r2 p1 p2 hl ⟨.bl _, H, I, rfl, c (.bl _) M _ H h Stp.refl m rfl⟩
theorem op_neP (hu : X.A.units + 64 < cLine) : OpD X (compareOp .NotEq) RNe := by
  intro pins s σ H M y z v u d e Q0 Q I m h1 h2 ry rz ⟨p, q, e1, e2, hd, h⟩ c
  obtain ⟨⟨as, r1⟩, p1⟩ := readsM I m e1 h1 ry
  obtain ⟨⟨bs, r2⟩, p2⟩ := readsM I m e2 h2 rz
  have hl : X.A.units + min p.depth q.depth < cLine := by have := Nat.min_le_left p.depth q.depth; omega
  exact PySem.SeqAt.ne_plain r1 r2 p1 p2 hl ⟨.bl _, H, I, rfl, c (.bl _) M _ H h Stp.refl m rfl⟩
/-- is None, is not None -/
def D.isN : D → Bool
  | .non => true
  | _ => false
def RIsN : R2d := fun d e M Q => match e with | .non => Q (.bl d.isN) M | _ => False
def RNotN : R2d := fun d e M Q => match e with | .non => Q (.bl (!d.isN)) M | _ => False
theorem rep_isN {K : PySem.W.Frag} {H : Hp} {d : D} {v : V} (h : Rep K H d v) : decide (v = .non) = d.isN := by
  cases d with
  | non => cases h; rfl
  | bl _ => cases h; rfl
  | int _ => cases h; rfl
  | str _ => cases h; rfl
  | ty _ => cases h; rfl
  | ref _ => cases h; rfl
  | tup _ => obtain ⟨a, vs, rfl, _⟩ := h; rfl
  | utup _ => obtain ⟨a, vs, rfl, _⟩ := h; rfl
  | frl _ => obtain ⟨a, vs, rfl, _⟩ := h; rfl
theorem imp_isN {K : PySem.W.Frag} : Imp2 K (fun x y H Q => y = .non ∧ Q (.bl (decide (x = .non))) H) RIsN := by
  intro H M y z d e Q0 Q m h1 h2 h c
  unfold RIsN at h
  split at h
  · exact ⟨h2, c _ M _ H h Stp.refl m (by rw [rep_isN h1]; rfl)⟩
  · exact h.elim
theorem imp_notN {K : PySem.W.Frag} : Imp2 K (fun x y H Q => y = .non ∧ Q (.bl (!decide (x = .non))) H) RNotN := by
  intro H M y z d e Q0 Q m h1 h2 h c
  unfold RNotN at h
  split at h
  · exact ⟨h2, c _ M _ H h Stp.refl m (by rw [rep_isN h1]; rfl)⟩
  · exact h.elim
/-- unary minus -/
def RNeg : R1d := fun d M Q => match d with | .int i => Q (.int (-i)) M | _ => False
theorem imp_neg {K : PySem.W.Frag} : Imp1 K (rU fun i => .int (-i)) RNeg := by
  intro H M y d Q0 Q m h1 h c
  unfold RNeg at h
  split at h
  · exact ⟨_, h1, c _ M _ H h Stp.refl m rfl⟩
  · exact h.elim
/-! ### calls of built-ins -/
def CallD (X : Cx) (f : Value) (R : RAd) : Prop :=
  ∀ (pins : List (Addr × Obj)) (s : Shared) (σ : L2.St) (H : Hp) (M : Mh) (vs : List V) (us : List Value) (ds : List D) (Q0 : QE) (Q : VK), L2.Inv X pins σ H s → RepM X.K H M → Reps X.K H ds vs → Vals vs us → R ds M Q0 → CqE X.K H M Q0 Q →
    wpAny (model X.prog X.w) X.A (call f us) (EP X pins σ Q) X.xe s
def raOf (K : PySem.W.Frag) (R : RAd) : List V → Hp → VK → Prop := fun vs H Q => ∃ M ds Q0, RepM K H M ∧ Reps K H ds vs ∧ R ds M Q0 ∧ CqE K H M Q0 Q
theorem CallD.r {f : Value} {R : RAd} (h : CallD X f R) : CallR X f (raOf X.K R) := fun pins s σ H vs us Q I r ⟨M, ds, Q0, m, h1, h2, c⟩ => h pins s σ H M vs us ds Q0 Q I m h1 r h2 c
theorem cb_conv {K : PySem.W.Frag} {R : RAd} {T : TAd} : ∀ σ H Q, liE K x (TCB R T) σ H Q → tCB (raOf K R) (liA K x T) σ H Q := fun σ H Q ⟨δ, M, Q0, r, h, c⟩ =>
  ⟨δ, M, _, r, h, fun ds M' vs H' q s1 m1 e1 => ⟨M', ds, Q0, m1, e1, q, c.step s1⟩⟩
theorem CallD.of {f : Value} {r : List V → Hp → VK → Prop} {R : RAd} (h : CallR X f r) (hi : ImpA X.K r R) : CallD X f R := fun pins s σ H M vs us ds Q0 Q I m h1 rv h2 c => h pins s σ H vs us Q I rv (hi H M vs ds Q0 Q m h1 h2 c)
variable {n : Str} {p pos : Pos} {e : Expr} {es : List Expr} {T : TAd} {R : RAd} {id Ty : String}
theorem de_cb (hc : CallD X (.builtin id) R) (hm : X.mg n = none) (ha : DA X x (e :: es) T) (hv : bootBuiltins n = some (.builtin id) := by decide +kernel) (hg : Gl X n := by rfl) (hn : n ≠ "__name__" := by decide) (hdb : (n == ("__debug__" : Str)) = false := by decide)
    (he : starEach (e :: es) X.env = (false, eval e X.env) :: starEach es X.env := by rfl) (hpl : (backTo pos (starEach es X.env)).any (·.1) = false := by rfl) : DE X x (.Call (.Name n p) (e :: es) [] pos) (TCB R T) :=
  PE.cv (pe_callB hc.r hg hm hv ha hn hdb he hpl) cb_conv
theorem de_ct (hc : CallD X (.type Ty) R) (hm : X.mg n = none) (ha : DA X x (e :: es) T) (hv : bootBuiltins n = some (.type Ty) := by decide +kernel) (hg : Gl X n := by rfl) (hn : n ≠ "__name__" := by decide) (hdb : (n == ("__debug__" : Str)) = false := by decide)
    (he : starEach (e :: es) X.env = (false, eval e X.env) :: starEach es X.env := by rfl) (hpl : (backTo pos (starEach es X.env)).any (·.1) = false := by rfl) : DE X x (.Call (.Name n p) (e :: es) [] pos) (TCB R T) :=
  PE.cv (pe_callTy hc.r hg hm hv ha hn hdb he hpl) cb_conv
theorem reps1 {K : PySem.W.Frag} {H : Hp} {d : D} {vs : List V} (h : Reps K H [d] vs) : ∃ v, vs = [v] ∧ Rep K H d v := by
  obtain ⟨v, w, rfl, h1, h2⟩ := h
  cases h2
  exact ⟨v, rfl, h1⟩
theorem reps2 {K : PySem.W.Frag} {H : Hp} {d e : D} {vs : List V} (h : Reps K H [d, e] vs) : ∃ v w, vs = [v, w] ∧ Rep K H d v ∧ Rep K H e w := by
  obtain ⟨v, w, rfl, h1, h2⟩ := h
  obtain ⟨w', rfl, h3⟩ := reps1 h2
  exact ⟨v, w', rfl, h1, h3⟩
/-- len -/
def RLen : RAd := fun ds M Q => match ds with
  | [.tup xs] => Q (.int xs.length) M
  | [.utup xs] => Q (.int xs.length) M
  | [.frl xs] => Q (.int xs.length) M
  | [.str z] => z.length ≤ 1000000 ∧ Q (.int z.length) M
  | [.ref a] => ∃ xs, M a = some (.lst xs) ∧ Q (.int xs.length) M
  | _ => False
theorem cd_len : CallD X (.builtin "len") RLen := CallD.of call_len fun H M vs ds Q0 Q m h1 h2 c => by
  unfold RLen at h2
  split at h2
  · obtain ⟨v, rfl, a, ws, rfl, t, q⟩ := reps1 h1
    exact ⟨_, _, rfl, .inr ⟨ws, t.q, q.length.symm⟩, c _ M _ H h2 Stp.refl m rfl⟩
  · obtain ⟨v, rfl, a, ws, rfl, t, q⟩ := reps1 h1
    exact ⟨_, _, rfl, .inr ⟨ws, uq t, q.length.symm⟩, c _ M _ H h2 Stp.refl m rfl⟩
  · obtain ⟨v, rfl, a, ws, rfl, t, q⟩ := reps1 h1
    exact ⟨_, _, rfl, .inl ⟨ws, t.l, q.length.symm⟩, c _ M _ H h2 Stp.refl m rfl⟩
  · obtain ⟨v, rfl, z⟩ := reps1 h1
    rw [show v = .str _ from z]
    exact ⟨_, _, rfl, ⟨szl h2.1, rfl⟩, c _ M _ H h2.2 Stp.refl m rfl⟩
  · obtain ⟨v, rfl, z⟩ := reps1 h1
    obtain ⟨xs, h3, h4⟩ := h2
    obtain ⟨ws, eH, q⟩ := m.lst h3
    rw [show v = .ref _ from z]
    exact ⟨_, _, rfl, .inl ⟨ws, .of eH, q.length.symm⟩, c _ M _ H h4 Stp.refl m rfl⟩
  · exact h2.elim
/-- sum, any, all, min of a list -/
def RSum : RAd := fun ds M Q => match ds with | [.ref a] => ∃ ns : List Int, M a = some (.lst (ns.map .int)) ∧ Q (.int ns.sum) M | _ => False
theorem cd_sum (hc : X.calm = true) : CallD X (.builtin "sum") RSum := CallD.of (cr_sum hc) fun H M vs ds Q0 Q m h1 h2 c => by
  unfold RSum at h2
  split at h2
  · obtain ⟨v, rfl, z⟩ := reps1 h1
    obtain ⟨ns, h3, h4⟩ := h2
    obtain ⟨ws, eH, q⟩ := m.lst h3
    rw [show v = .ref _ from z]
    exact ⟨_, ns, rfl, .of (by rw [eH, q.ints_eq]), c _ M _ H h4 Stp.refl m rfl⟩
  · exact h2.elim
def RMinL : RAd := fun ds M Q => match ds with
  | [.ref a] => ∃ ns : List Int, M a = some (.lst (ns.map .int)) ∧ 0 < ns.length ∧ ∀ k, k ∈ ns → (∀ y, y ∈ ns → k ≤ y) → Q (.int k) M
  | [.int i, .int j] => Q (.int (min i j)) M
  | _ => False
def RMax2 : RAd := fun ds M Q => match ds with
  | [.int i, .int j] => Q (.int (max i j)) M
  | _ => False
theorem cd_min (hc : X.calm = true) : CallD X (.builtin "min") RMinL := CallD.of (CallR.or (cr_min hc) (call_min2 hc)) fun H M vs ds Q0 Q m h1 h2 c => by
  unfold RMinL at h2
  split at h2
  · obtain ⟨v, rfl, z⟩ := reps1 h1
    obtain ⟨ns, h3, h4, h5⟩ := h2
    obtain ⟨ws, eH, q⟩ := m.lst h3
    rw [show v = .ref _ from z]
    exact .inl ⟨_, ns, rfl, .of (by rw [eH, q.ints_eq]), h4, fun k hk hy => c _ M _ H (h5 k hk hy) Stp.refl m rfl⟩
  · obtain ⟨v, w, rfl, z1, z2⟩ := reps2 h1
    rw [show v = .int _ from z1, show w = .int _ from z2]
    refine .inr ⟨_, _, rfl, c _ M _ H h2 Stp.refl m ?_⟩
    show V.int _ = V.int _
    congr 1
    rw [Int.min_def]
    split <;> split <;> omega
  · exact h2.elim
theorem cd_max (hc : X.calm = true) : CallD X (.builtin "max") RMax2 := CallD.of (call_max2 hc) fun H M vs ds Q0 Q m h1 h2 c => by
  unfold RMax2 at h2
  split at h2
  · obtain ⟨v, w, rfl, z1, z2⟩ := reps2 h1
    rw [show v = .int _ from z1, show w = .int _ from z2]
    refine ⟨_, _, rfl, c _ M _ H h2 Stp.refl m ?_⟩
    show V.int _ = V.int _
    congr 1
    rw [Int.max_def]
    split <;> split <;> omega
  · exact h2.elim
end
end L3
set_option Elab.async false
set_option autoImplicit false
set_option linter.all false
set_option maxRecDepth 100000
set_option maxHeartbeats 4000000
/-! L3, sixth part: any, all, sorted, list, tuple, isinstance, repr; subscripts, slices; methods of lists. -/
namespace L3
open PySem PySem.Spec PyProof.Rows L2
section
variable {X : Cx} {x : Xw}
def RAny : RAd := fun ds M Q => match ds with | [.ref a] => ∃ bs : List Bool, M a = some (.lst (bs.map .bl)) ∧ Q (.bl (bs.any id)) M | _ => False
def RAll : RAd := fun ds M Q => match ds with | [.ref a] => ∃ bs : List Bool, M a = some (.lst (bs.map .bl)) ∧ Q (.bl (bs.all id)) M | _ => False
theorem cd_any (hc : X.calm = true) : CallD X (.builtin "any") RAny := CallD.of (cr_any hc) fun H M vs ds Q0 Q m h1 h2 c => by
  unfold RAny at h2
  split at h2
  · obtain ⟨v, rfl, z⟩ := reps1 h1
    obtain ⟨ns, h3, h4⟩ := h2
    obtain ⟨ws, eH, q⟩ := m.lst h3
    rw [show v = .ref _ from z]
    exact ⟨_, ns, rfl, .of (by rw [eH, q.bls_eq]), c _ M _ H h4 Stp.refl m rfl⟩
  · exact h2.elim
theorem cd_all (hc : X.calm = true) : CallD X (.builtin "all") RAll := CallD.of (cr_all hc) fun H M vs ds Q0 Q m h1 h2 c => by
  unfold RAll at h2
  split at h2
  · obtain ⟨v, rfl, z⟩ := reps1 h1
    obtain ⟨ns, h3, h4⟩ := h2
    obtain ⟨ws, eH, q⟩ := m.lst h3
    rw [show v = .ref _ from z]
    exact ⟨_, ns, rfl, .of (by rw [eH, q.bls_eq]), c _ M _ H h4 Stp.refl m rfl⟩
  · exact h2.elim
/-! sorted -/
/-- the one sorted list of ints -/
def sortI (ns : List Int) : List Int := ns.mergeSort (fun a b => decide (a ≤ b))
def leP (p q : Int × Int) : Bool := decide (p.1 < q.1 ∨ (p.1 = q.1 ∧ p.2 ≤ q.2))
def sortP (ps : List (Int × Int)) : List (Int × Int) := ps.mergeSort leP
theorem sortI_perm (ns : List Int) : (sortI ns).Perm ns := List.mergeSort_perm _ _
theorem sortI_le (ns : List Int) : (sortI ns).Pairwise (· ≤ ·) := by
  have h := List.pairwise_mergeSort (le := fun a b : Int => decide (a ≤ b)) (fun a b c h1 h2 => by simp at *; omega) (fun a b => by simp; omega) ns
  exact h.imp fun h => by simpa using h
theorem sorted_uniq : ∀ {l m : List Int}, l.Pairwise (· ≤ ·) → m.Pairwise (· ≤ ·) → l.Perm m → l = m
  | [], m, _, _, h => (List.Perm.eq_nil h.symm).symm
  | x :: l, [], _, _, h => absurd h.length_eq (by simp)
  | x :: l, y :: m, hl, hm, h => by
    have h1 : x ≤ y := by
      rcases List.mem_cons.mp (h.mem_iff.mpr (List.mem_cons_self (a := y) (l := m))) with e | hx
      · omega
      · exact (List.pairwise_cons.mp hl).1 y hx
    have h2 : y ≤ x := by
      rcases List.mem_cons.mp (h.mem_iff.mp (List.mem_cons_self (a := x) (l := l))) with e | hx
      · omega
      · exact (List.pairwise_cons.mp hm).1 x hx
    have e : x = y := by omega
    subst e
    rw [sorted_uniq (List.pairwise_cons.mp hl).2 (List.pairwise_cons.mp hm).2 h.cons_inv]
abbrev pairD (p : Int × Int) : D := .tup [.int p.1, .int p.2]
def RSorted : RAd := fun ds M Q => match ds with
  | [.ref a] => (∃ ns : List Int, M a = some (.lst (ns.map .int)) ∧ ∀ p, M p = none → Q (.ref p) (updM M p (.lst ((sortI ns).map .int)))) ∨
      (∃ ps : List (Int × Int), M a = some (.lst (ps.map pairD)) ∧ ∀ p, M p = none → Q (.ref p) (updM M p (.lst ((sortP ps).map pairD))))
  | [.frl ds] => ∃ ns : List Int, ds = ns.map .int ∧ ∀ p, M p = none → Q (.ref p) (updM M p (.lst ((sortI ns).map .int)))
  | _ => False
theorem each_of {K : PySem.W.Frag} {H : Hp} : ∀ {ps : List (Int × Int)} {vs : List V} {us : List Value}, Reps K H (ps.map pairD) vs → Vals vs us → PySem.W.EachIs (fun (u : Value) (p : Int × Int) => ∃ v, RelV v u ∧ Rep K H (pairD p) v) us ps
  | [], _, _, h, r => by cases h; cases r; exact .nil
  | p :: ps, _, _, ⟨v, w, e, h1, h2⟩, r => by
    subst e
    cases r with
    | cons r1 r2 => exact .cons ⟨v, r1, h1⟩ (each_of h2 r2)
theorem each_back {K : PySem.W.Frag} {H : Hp} : ∀ {ps : List (Int × Int)} {us : List Value}, PySem.W.EachIs (fun (u : Value) (p : Int × Int) => ∃ v, RelV v u ∧ Rep K H (pairD p) v) us ps → ∃ vs, Vals vs us ∧ Reps K H (ps.map pairD) vs
  | _, _, .nil => ⟨[], .nil, rfl⟩
  | _, _, .cons ⟨v, r, h⟩ t => by
    obtain ⟨vs, h1, h2⟩ := each_back t
    exact ⟨v :: vs, .cons r h1, Reps.cons h h2⟩
theorem cd_sorted (hu : X.A.units + 64 < cLine) : CallD X (.builtin "sorted") RSorted := by
  intro pins s σ H M vs us ds Q0 Q I m h1 rv h2 c
  unfold RSorted at h2
  split at h2
  · rename_i a
    rcases h2 with ⟨ns, h3, h4⟩ | ⟨ps, h3, h4⟩
    · obtain ⟨v, rfl, z⟩ := reps1 h1
      obtain ⟨ws, eH, q⟩ := m.lst h3
      refine cr_sortedI pins s σ H _ us Q I rv ?_
      rw [show v = .ref _ from z]
      refine ⟨a, ns, rfl, .of (by rw [eH, q.ints_eq]), fun ns' p hp hs hn => ?_⟩
      have e : ns' = sortI ns := sorted_uniq hs (sortI_le ns) (hp.trans (sortI_perm ns).symm)
      subst e
      exact c _ _ _ _ (h4 p (m.fresh hn)) (Stp.new hn) (m.new hn ⟨_, upd_same, Reps.ints⟩) rfl
    · obtain ⟨v, rfl, z⟩ := reps1 h1
      obtain ⟨ws, eH, q⟩ := m.lst h3
      have e' : v = .ref a := z
      subst e'
      obtain ⟨u, rfl, ru⟩ := vals1 rv
      obtain rfl : u = Value.ref a := ru
      obtain ⟨hz, its, n, rw', ho⟩ := I.hok a _ eH
      have hlen : ps.length = its.length := by rw [← rw'.length, q.length, List.length_map]
      refine PySem.W.sorted_data (R := fun (u : Value) (p : Int × Int) => ∃ v, RelV v u ∧ Rep X.K H (pairD p) v) (enc := fun p => .tuple [.int p.1, .int p.2]) (vs := its) (bs := ps) ⟨_, ho, rfl, n, rfl⟩ (each_of q rw') ?_ ?_ ?_ (by rw [hlen, ← rw'.length]; exact hz) (fun b _ => ?_) fun out hl ho' => ?_
      · refine (each_of q rw').mono fun u p ⟨v, r1, r2⟩ => ?_
        exact reads_of I (pairD p) v u rfl r2 r1
      · exact PySem.W.AllAlike.of fun b b' => by simp [PySem.W.alike, PySem.W.alikeAll]
      · exact PySem.W.Sortable.tuples fun b => ⟨_, _, rfl⟩
      · simp only [PyData.depth, PyData.depthAll]
        have : (max 0 (max 0 0)) + 1 ≤ 60 := by decide
        omega
      · have e : (ps.mergeSort (PySem.W.dataLe false fun p : Int × Int => .tuple [.int p.1, .int p.2])) = sortP ps := by
          rw [PySem.W.dataLe_ii]
          rfl
        rw [e] at ho'
        obtain ⟨ws', rv', rr⟩ := each_back ho'
        obtain ⟨ep, he'⟩ := PyProof.Rows.sortedAll_at s.heap its out.toArray
        have hp : H (s.heap.objs.size + 1) = none := I.hok.fresh (Nat.le_succ _)
        have hwl : ws'.length ≤ sizeLine := by
          rw [rv'.length, hl, hlen, ← rw'.length]; exact hz
        refine ⟨.ref _, upd H (s.heap.objs.size + 1) (.lst ws'), I.laid (t' := s.toks) (fun _ _ => PyProof.Rows.sortedAll_old) (Nat.le_succ _) ⟨hwl, out, ep, rv', he'⟩, rfl, ?_⟩
        exact c _ _ _ _ (h4 _ (m.fresh hp)) (Stp.new hp) (m.new hp ⟨ws', upd_same, rr.mono (Pst.new hp)⟩) rfl
  · obtain ⟨ns, rfl, h4⟩ := h2
    obtain ⟨v, rfl, a, ws, rfl, t, q⟩ := reps1 h1
    refine cr_sortedI pins s σ H _ us Q I rv ⟨a, ns, rfl, by rw [← q.ints_eq]; exact t.l, fun ns' p hp hs hn => ?_⟩
    have e : ns' = sortI ns := sorted_uniq hs (sortI_le ns) (hp.trans (sortI_perm ns).symm)
    subst e
    exact c _ _ _ _ (h4 p (m.fresh hn)) (Stp.new hn) (m.new hn ⟨_, upd_same, Reps.ints⟩) rfl
  · exact h2.elim
/-! list(..), tuple(..) -/
def RList : RAd := fun ds M Q => match ds with
  | [.tup xs] => ∀ p, M p = none → Q (.ref p) (updM M p (.lst xs))
  | [.utup xs] => ∀ p, M p = none → Q (.ref p) (updM M p (.lst xs))
  | [.frl xs] => ∀ p, M p = none → Q (.ref p) (updM M p (.lst xs))
  | [.ref a] => ∃ xs, M a = some (.lst xs) ∧ ∀ p, M p = none → Q (.ref p) (updM M p (.lst xs))
  | _ => False
theorem cd_list : CallD X (.type "list") RList := CallD.of call_list_of fun H M vs ds Q0 Q m h1 h2 c => by
  unfold RList at h2
  split at h2
  · obtain ⟨v, rfl, a, ws, rfl, t, q⟩ := reps1 h1
    exact ⟨a, ws, rfl, .inr t.q, fun p hn => c _ _ _ _ (h2 p (m.fresh hn)) (Stp.new hn) (m.new hn ⟨_, upd_same, q.mono (Pst.new hn)⟩) rfl⟩
  · obtain ⟨v, rfl, a, ws, rfl, t, q⟩ := reps1 h1
    exact ⟨a, ws, rfl, .inr (uq t), fun p hn => c _ _ _ _ (h2 p (m.fresh hn)) (Stp.new hn) (m.new hn ⟨_, upd_same, q.mono (Pst.new hn)⟩) rfl⟩
  · obtain ⟨v, rfl, a, ws, rfl, t, q⟩ := reps1 h1
    exact ⟨a, ws, rfl, .inl t.l, fun p hn => c _ _ _ _ (h2 p (m.fresh hn)) (Stp.new hn) (m.new hn ⟨_, upd_same, q.mono (Pst.new hn)⟩) rfl⟩
  · obtain ⟨v, rfl, z⟩ := reps1 h1
    obtain ⟨xs, h3, h4⟩ := h2
    obtain ⟨ws, eH, q⟩ := m.lst h3
    rw [show v = .ref _ from z]
    exact ⟨_, ws, rfl, .inl (.of eH), fun p hn => c _ _ _ _ (h4 p (m.fresh hn)) (Stp.new hn) (m.new hn ⟨_, upd_same, q.mono (Pst.new hn)⟩) rfl⟩
  · exact h2.elim
def RTuple : RAd := fun ds M Q => match ds with
  | [.tup xs] => Q (.tup xs) M
  | [.frl xs] => Q (.tup xs) M
  | [.ref a] => ∃ xs, M a = some (.lst xs) ∧ Q (.tup xs) M
  | _ => False
theorem cd_tuple : CallD X (.type "tuple") RTuple := CallD.of call_tupleF fun H M vs ds Q0 Q m h1 h2 c => by
  unfold RTuple at h2
  split at h2
  · obtain ⟨v, rfl, a, ws, rfl, t, q⟩ := reps1 h1
    exact ⟨a, ws, rfl, .inr ⟨t.q, c _ M _ H h2 Stp.refl m ⟨a, ws, rfl, t, q⟩⟩⟩
  · obtain ⟨v, rfl, a, ws, rfl, t, q⟩ := reps1 h1
    exact ⟨a, ws, rfl, .inl ⟨t.l, fun p us hn => c _ _ _ _ h2 (Stp.newU hn) (m.newU hn) (Rep.newtup hn q)⟩⟩
  · obtain ⟨v, rfl, z⟩ := reps1 h1
    obtain ⟨xs, h3, h4⟩ := h2
    obtain ⟨ws, eH, q⟩ := m.lst h3
    rw [show v = .ref _ from z]
    exact ⟨_, ws, rfl, .inl ⟨.of eH, fun p us hn => c _ _ _ _ h4 (Stp.newU hn) (m.newU hn) (Rep.newtup hn q)⟩⟩
  · exact h2.elim
/-- the same, the tuple not told (a dict's key) -/
def RTupleU : RAd := fun ds M Q => match ds with
  | [.utup xs] => Q (.utup xs) M
  | [.ref a] => ∃ xs, M a = some (.lst xs) ∧ Q (.utup xs) M
  | _ => False
theorem cd_tupleU : CallD X (.type "tuple") RTupleU := CallD.of call_tuple_of fun H M vs ds Q0 Q m h1 h2 c => by
  unfold RTupleU at h2
  split at h2
  · obtain ⟨v, rfl, a, ws, rfl, t, q⟩ := reps1 h1
    exact ⟨a, ws, rfl, .inr ⟨uq t, c _ M _ H h2 Stp.refl m ⟨a, ws, rfl, t, q⟩⟩⟩
  · obtain ⟨v, rfl, z⟩ := reps1 h1
    obtain ⟨xs, h3, h4⟩ := h2
    obtain ⟨ws, eH, q⟩ := m.lst h3
    rw [show v = .ref _ from z]
    exact ⟨_, ws, rfl, .inl ⟨.of eH, fun p hn => c _ _ _ _ h4 (Stp.newU hn) (m.newU hn) (Rep.newutup hn q)⟩⟩
  · exact h2.elim
/-! isinstance of a built-in class -/
/-- the built-in type of data -/
def tyD (M : Mh) : D → Option String
  | .non => some "NoneType"
  | .bl _ => some "bool"
  | .int _ => some "int"
  | .str _ => some "str"
  | .tup _ => some "tuple"
  | .utup _ => some "tuple"
  | .frl _ => some "list"
  | .ref a => match M a with | some (.lst _) => some "list" | some (.dK _) => some "dict" | some (.dT _) => some "dict" | _ => none
  | .ty _ => none
theorem tyX_of {K : PySem.W.Frag} {H : Hp} {M : Mh} (m : RepM K H M) {d : D} {v : V} {t : String} (h : tyD M d = some t) (r : Rep K H d v) : TyX K H v (.type t) := by
  cases d with
  | non => cases h; cases r; exact .base .non
  | bl _ => cases h; cases r; exact .base (.bl _)
  | int _ => cases h; cases r; exact .base (.int _)
  | str _ => cases h; cases r; exact .base (.str _)
  | ty _ => cases h
  | tup ds =>
    cases h
    obtain ⟨a, vs, rfl, ⟨o, t, _⟩, _⟩ := r
    exact .fTuple t
  | utup ds =>
    cases h
    obtain ⟨a, vs, rfl, t, _⟩ := r
    exact .base (.tup t)
  | frl ds =>
    cases h
    obtain ⟨a, vs, rfl, t, _⟩ := r
    rcases t with ⟨o, t⟩ | ⟨o, its, n, e, hc, _⟩
    · exact .base (.frz t)
    · exact .kList e hc
  | ref a =>
    cases r
    simp only [tyD] at h
    split at h
    · rename_i e; cases h; obtain ⟨vs, eH, _⟩ := m a _ e; exact .base (.lst eH)
    · rename_i e; cases h; obtain ⟨vs, eH, _⟩ := m a _ e; exact .base (.dK eH)
    · rename_i e; cases h; obtain ⟨vs, eH, _⟩ := m a _ e; exact .base (.dT eH)
    · cases h
/-- isinstance(x, T), T a built-in class (D.ty) -/
def RIsi : RAd := fun ds M Q => match ds with
  | [d, .ty n] => ∃ t b, tyD M d = some t ∧ kitB t n = some b ∧ Q (.bl b) M
  | _ => False
theorem cd_isi : CallD X (.builtin "isinstance") RIsi := CallD.of call_isi fun H M vs ds Q0 Q m h1 h2 c => by
  unfold RIsi at h2
  split at h2
  · obtain ⟨t, b, h3, h4, h5⟩ := h2
    obtain ⟨v, w, rfl, z1, z2⟩ := reps2 h1
    rw [show w = .ty _ from z2]
    exact ⟨v, _, _, _, b, rfl, .ty _, tyX_of m h3 z1, kit_ty h4, c _ M _ H h5 Stp.refl m rfl⟩
  · exact h2.elim
theorem de_ty {n : Str} {T : String} {pos : Pos} (hm : X.mg n = none) (hv : bootBuiltins n = some (.type T) := by decide +kernel) (hg : Gl X n := by rfl) (hn : n ≠ "__name__" := by decide) (hdb : (n == ("__debug__" : Str)) = false := by decide) : DE X x (.Name n pos) (TC (.ty T)) :=
  de_c (pe_bltn (v := .ty T) hg hm hv rfl hn hdb) fun _ => rfl
/-! repr -/
def RRepr : RAd := fun ds M Q => match ds with
  | [d] => ∃ p, pyM M d = some p ∧ p.showable = true ∧ p.depth ≤ 60 ∧ p.shown.length ≤ 1000000 ∧ Q (.str p.shown) M
  | _ => False
mutual
theorem py_nodict : ∀ d : D, d.py.hasDict = false
  | .non => rfl
  | .bl _ => rfl
  | .int _ => rfl
  | .str _ => rfl
  | .ref _ => rfl
  | .ty _ => rfl
  | .tup ds => by simp only [D.py, PyData.hasDict]; exact pys_nodict ds
  | .utup ds => by simp only [D.py, PyData.hasDict]; exact pys_nodict ds
  | .frl ds => by simp only [D.py, PyData.hasDict]; exact pys_nodict ds
theorem pys_nodict : ∀ ds : List D, PyData.hasDictAll (D.pys ds) = false
  | [] => rfl
  | d :: ds => by simp only [D.pys, PyData.hasDictAll, py_nodict d, pys_nodict ds, Bool.or_self]
end
theorem pyM_nodict {M : Mh} {d : D} {p : PyData} (h : pyM M d = some p) : p.hasDict = false := by
  unfold pyM at h
  split at h
  · split at h
    · split at h
      · cases h; simp only [PyData.hasDict]; exact pys_nodict _
      · cases h
    · cases h
  · split at h
    · cases h; exact py_nodict _
    · cases h
theorem cd_repr (hg : X.A.guards = some []) (hu : X.A.units + 64 < cLine) : CallD X (.builtin "repr") RRepr := by
  intro pins s σ H M vs us ds Q0 Q I m h1 rv h2 c
  unfold RRepr at h2
  split at h2
  · rename_i d
    obtain ⟨p, e1, e2, e3, e4, h3⟩ := h2
    obtain ⟨v, rfl, z⟩ := reps1 h1
    obtain ⟨u, rfl, ru⟩ := vals1 rv
    obtain ⟨⟨as, hr⟩, hp⟩ := readsM I m e1 z ru
    have fin : ∀ h' u' tk, (∀ b o, s.heap.get? b = some o → h'.get? b = some o) → EP X pins σ Q (.str p.shown u') { s with heap := h', toks := tk } := fun h' u' tk hk =>
      ⟨.str p.shown, H, I.kept hk, ⟨u', rfl⟩, c _ M _ H h3 Stp.refl m rfl⟩
    have byRef : ∀ a, u = .ref a → wpAny (model X.prog X.w) X.A (call (.builtin "repr") [u]) (EP X pins σ Q) X.xe s := fun a ea => by
      subst ea
      exact repr_of_reads' hr e2 (fun q => by rw [pyM_nodict e1] at q; cases q) hg (by omega) (fun _ _ q => q) (fun h' u' tk hk => fin h' u' tk hk) (szl e4)
    cases d with
    | non => cases z; cases ru; simp only [pyM, D.pu, if_true] at e1; cases e1; exact PySem.P.repr_of_none (fin s.heap _ _ fun _ _ q => q)
    | bl b => cases z; cases ru; simp only [pyM, D.pu, if_true] at e1; cases e1; exact PySem.P.repr_of_bool (fin s.heap _ _ fun _ _ q => q)
    | int i =>
      cases z; obtain ⟨t, rfl⟩ := ru; simp only [pyM, D.pu, if_true] at e1; cases e1
      exact PySem.P.repr_of_int (by simpa [D.py, PyData.showable] using e2) (fin s.heap _ _ fun _ _ q => q)
    | str y =>
      cases z; obtain ⟨t, rfl⟩ := ru; simp only [pyM, D.pu, if_true] at e1; cases e1
      exact PySem.P.repr_of_str (fin s.heap _ _ fun _ _ q => q) (szl e4)
    | ty n => simp [pyM, D.pu] at e1
    | tup ds => obtain ⟨a, ws, rfl, _⟩ := z; cases ru; exact byRef a rfl
    | utup ds => obtain ⟨a, ws, rfl, _⟩ := z; cases ru; exact byRef a rfl
    | frl ds => obtain ⟨a, ws, rfl, _⟩ := z; cases ru; exact byRef a rfl
    | ref a => cases z; cases ru; exact byRef a rfl
  · exact h2.elim
/-! subscripts -/
def RIx : R2d := fun d e M Q => match d, e with
  | .tup xs, .int i => ∃ v, atI xs i = some v ∧ Q v M
  | .utup xs, .int i => ∃ v, atI xs i = some v ∧ Q v M
  | .frl xs, .int i => ∃ v, atI xs i = some v ∧ Q v M
  | .ref a, .int i => ∃ xs v, M a = some (.lst xs) ∧ atI xs i = some v ∧ Q v M
  | .str z, .int i => z.length ≤ 1000000 ∧ ∃ c, atI z.cps.toList i = some c ∧ Q (.str ⟨#[c]⟩) M
  | _, _ => False
theorem Reps.atI {K : PySem.W.Frag} {H : Hp} {ds : List D} {vs : List V} {i : Int} {d : D} (r : Reps K H ds vs) (h : L2.atI ds i = some d) : ∃ v, L2.atI vs i = some v ∧ Rep K H d v := by
  unfold L2.atI at h ⊢
  rw [r.length]
  cases e : ixN ds.length i with
  | none => rw [e] at h; cases h
  | some j => rw [e] at h; exact r.get h
theorem imp_ix {K : PySem.W.Frag} : Imp2 K (rIx K) RIx := by
  intro H M y z d e Q0 Q m h1 h2 h c
  unfold RIx at h
  split at h
  · obtain ⟨v, h3, h4⟩ := h
    obtain ⟨a, ws, rfl, t, q⟩ := h1
    obtain ⟨w, e1, e2⟩ := q.atI h3
    exact .inr (.inl ⟨a, ws, _, w, rfl, h2, t.q, e1, c _ M _ H h4 Stp.refl m e2⟩)
  · obtain ⟨v, h3, h4⟩ := h
    obtain ⟨a, ws, rfl, t, q⟩ := h1
    obtain ⟨w, e1, e2⟩ := q.atI h3
    exact .inr (.inl ⟨a, ws, _, w, rfl, h2, uq t, e1, c _ M _ H h4 Stp.refl m e2⟩)
  · obtain ⟨v, h3, h4⟩ := h
    obtain ⟨a, ws, rfl, t, q⟩ := h1
    obtain ⟨w, e1, e2⟩ := q.atI h3
    exact .inl ⟨a, ws, _, w, rfl, h2, t.l, e1, c _ M _ H h4 Stp.refl m e2⟩
  · obtain ⟨xs, v, h3, h4, h5⟩ := h
    obtain ⟨ws, eH, q⟩ := m.lst h3
    obtain ⟨w, e1, e2⟩ := q.atI h4
    exact .inl ⟨_, ws, _, w, h1, h2, .of eH, e1, c _ M _ H h5 Stp.refl m e2⟩
  · obtain ⟨hz, k, h3, h4⟩ := h
    exact .inr (.inr ⟨_, _, k, h1, h2, szl hz, h3, c _ M _ H h4 Stp.refl m rfl⟩)
  · exact h.elim
theorem de_sub {a b : Expr} {Ta Tb : TEd} {pos : Pos} (ha : DE X x a Ta) (hb : DE X x b Tb) (hs : PlainIx b := by first | exact fun _ _ => rfl) : DE X x (.Subscript a b pos) (TOp RIx Ta Tb) := de_ix ix_seq imp_ix ha hb hs
/-! slices -/
def cutD (xs : List D) (lo hi : Option Int) : List D := (xs.drop (HT.sIx xs.length 0 lo)).take (HT.sIx xs.length xs.length hi - HT.sIx xs.length 0 lo)
abbrev TOd := Sd → Mh → (Option Int → Mh → Prop) → Prop
def TNoPart : TOd := fun _ M Q => Q none M
def TPart (T : TEd) : TOd := fun δ M Q => T δ M fun d M1 => match d with | .int i => Q (some i) M1 | _ => False
def CqO (K : PySem.W.Frag) (H : Hp) (M : Mh) (Q0 : Option Int → Mh → Prop) (Q : Option Int → Hp → Prop) : Prop := ∀ o M' H', Q0 o M' → Stp H M H' M' → RepM K H' M' → Q o H'
def liO (K : PySem.W.Frag) (x : Xw) (T : TOd) : TO := fun σ H Q => ∃ δ M Q0, Rst K x δ M σ H ∧ T δ M Q0 ∧ CqO K H M Q0 Q
abbrev DO (X : Cx) (x : Xw) (e : Option Expr) (T : TOd) : Prop := PO X e (liO X.K x T)
theorem do_none : DO X x none TNoPart := ⟨fun pins s σ H Q I ⟨δ, M, Q0, r, h, c⟩ => po_none.run pins s σ H Q I (c none M H h Stp.refl r.m)⟩
theorem do_some {e : Expr} {T : TEd} (h : DE X x e T) : DO X x (some e) (TPart T) := ⟨fun pins s σ H Q I ⟨δ, M, Q0, r, q, c⟩ => (po_some h).run pins s σ H Q I ⟨δ, M, _, r, q, fun d M' v H' q1 s1 m1 e1 => by
  cases d with
  | int i => exact ⟨i, e1, c (some i) M' H' q1 s1 m1⟩
  | _ => exact q1.elim⟩⟩
def RSl (d : D) (lo hi : Option Int) (M : Mh) (Q : QE) : Prop := match d with
  | .tup xs => Q (.tup (cutD xs lo hi)) M
  | .utup xs => Q (.utup (cutD xs lo hi)) M
  | .frl xs => ∀ p, M p = none → Q (.ref p) (updM M p (.lst (cutD xs lo hi)))
  | .ref a => ∃ xs, M a = some (.lst xs) ∧ ∀ p, M p = none → Q (.ref p) (updM M p (.lst (cutD xs lo hi)))
  | .str z => z.length ≤ 1000000 ∧ Q (.str (cutS z lo hi)) M
  | _ => False
def TSl (Ta : TEd) (Tl Th : TOd) : TEd := fun δ M Q => Ta δ M fun d M1 => Tl δ M1 fun lo M2 => Th δ M2 fun hi M3 => RSl d lo hi M3 Q
def rSlU (K : PySem.W.Frag) : V → Option Int → Option Int → Hp → VK → Prop := fun x lo hi H Q => rSlF K x lo hi H Q ∨ rSlL K x lo hi H Q ∨ rSlS x lo hi H Q ∨ rSlA K x lo hi H Q
theorem sl_U : SlR X (rSlU X.K) := SlR.or sl_tupF (SlR.or sl_list (SlR.or sl_str sl_tupA))
theorem Reps.cut {K : PySem.W.Frag} {H : Hp} {ds : List D} {vs : List V} (r : Reps K H ds vs) (lo hi : Option Int) : Reps K H (cutD ds lo hi) (cutV vs lo hi) := by
  unfold cutD cutV
  rw [r.length]
  exact (r.drop _).take _
theorem de_slice {e : Expr} {lo hi : Option Expr} {p2 pos : Pos} {Ta : TEd} {Tl Th : TOd} (he : DE X x e Ta) (hl : DO X x lo Tl) (hu : DO X x hi Th) : DE X x (.Subscript e (.Slice lo hi none p2) pos) (TSl Ta Tl Th) :=
  PE.cv (pe_slice sl_U he hl hu) fun σ H Q ⟨δ, M, Q0, r, h, c⟩ =>
    ⟨δ, M, _, r, h, fun d M1 v H1 q1 s1 m1 e1 => ⟨δ, M1, _, r.step s1 m1, q1, fun l M2 H2 q2 s2 m2 => ⟨δ, M2, _, (r.step s1 m1).step s2 m2, q2, fun u M3 H3 q3 s3 m3 => by
      have e3 := (e1.mono (s2.pst m1)).mono (s3.pst m2)
      have t := (s1.trans s2).trans s3
      cases d with
      | tup xs =>
        obtain ⟨a, ws, rfl, tt, q⟩ := e3
        refine .inl ⟨a, ws, rfl, tt.q, fun hw => c _ M3 _ H3 q3 t m3 ⟨a, ws, rfl, tt, ?_⟩, fun _ p us hn => c _ _ _ _ q3 (t.trans (Stp.newU hn)) (m3.newU hn) (Rep.newtup hn (q.cut l u))⟩
        have e := q.cut l u
        unfold cutV at e
        rw [hw.1, hw.2, List.drop_zero, Nat.sub_zero, List.take_length] at e
        exact e
      | utup xs =>
        obtain ⟨a, ws, rfl, tt, q⟩ := e3
        refine .inr (.inr (.inr ⟨a, ws, rfl, uq tt, fun hw => c _ M3 _ H3 q3 t m3 ⟨a, ws, rfl, tt, ?_⟩, fun _ p hn => c _ _ _ _ q3 (t.trans (Stp.newU hn)) (m3.newU hn) (Rep.newutup hn (q.cut l u))⟩))
        have e := q.cut l u
        unfold cutV at e
        rw [hw.1, hw.2, List.drop_zero, Nat.sub_zero, List.take_length] at e
        exact e
      | frl xs =>
        obtain ⟨a, ws, rfl, tt, q⟩ := e3
        exact .inr (.inl ⟨a, ws, rfl, tt.l, fun p hn => c _ _ _ _ (q3 p (m3.fresh hn)) (t.trans (Stp.new hn)) (m3.new hn ⟨_, upd_same, (q.cut l u).mono (Pst.new hn)⟩) rfl⟩)
      | ref a =>
        obtain ⟨xs, h3, h4⟩ := q3
        obtain ⟨ws, eH, q⟩ := m3.lst h3
        exact .inr (.inl ⟨a, ws, e3, .of eH, fun p hn => c _ _ _ _ (h4 p (m3.fresh hn)) (t.trans (Stp.new hn)) (m3.new hn ⟨_, upd_same, (q.cut l u).mono (Pst.new hn)⟩) rfl⟩)
      | str z => exact .inr (.inr (.inl ⟨z, e3, szl q3.1, c _ M3 _ H3 q3.2 t m3 rfl⟩))
      | _ => exact q3.elim⟩⟩⟩
/-! methods of lists -/
abbrev RMd := D → List D → Mh → QE → Prop
/-- o.m(..), o of the built-in type that Ty tells -/
def TBM (Ty : D → Mh → Prop) (R : RMd) (To : TEd) (Ta : TAd) : TEd := fun δ M Q => To δ M fun d M1 => Ty d M1 ∧ Ta δ M1 fun es M2 => R d es M2 Q
def ImpM (K : PySem.W.Frag) (T : String) (r : V → List V → Hp → VK → Prop) (Ty : D → Mh → Prop) (R : RMd) : Prop :=
  (∀ (H : Hp) (M : Mh) (v : V) (d : D), RepM K H M → Rep K H d v → Ty d M → tyV K T v H) ∧
  ∀ (H : Hp) (M : Mh) (v : V) (vs : List V) (d : D) (es : List D) (Q0 : QE) (Q : VK), RepM K H M → Rep K H d v → Reps K H es vs → R d es M Q0 → CqE K H M Q0 Q → r v vs H Q
variable {o e : Expr} {es : List Expr} {To : TEd} {Ta : TAd} {name : Str} {apos cpos : Pos} {T id : String} {r : V → List V → Hp → VK → Prop} {Ty : D → Mh → Prop} {R : RMd}
theorem de_bm (pa : PlainAttrs T) (slot : Slot T name id) (hty : typeOf (.builtin id) = pure (.type "method_descriptor")) (hm : MtR X id r) (hi : ImpM X.K T r Ty R) (ho : DE X x o To) (ha : DA X x (e :: es) Ta)
    (hbase : attributeBase o name X.env (eval o X.env) = eval o X.env := by rfl)
    (hfew : ((backTo cpos (starEach (e :: es) X.env)).all (fun x => !x.1) && (backToKw cpos (keywordEach [] X.env)).all (fun x => x.1.isSome)
      && decide ((e :: es).length + ([] : List Keyword).length + (if ([] : List Keyword).isEmpty then 0 else 1) < 30)) = true := by rfl)
    (hline : (apos.endLine == cpos.line) = true := by rfl) (hs : starEach (e :: es) X.env = (false, eval e X.env) :: starEach es X.env := by rfl) (hplain : (backTo cpos (starEach es X.env)).any (·.1) = false := by rfl) :
    DE X x (.Call (.Attribute o name apos) (e :: es) [] cpos) (TBM Ty R To Ta) := PE.cv (pe_bm pa slot hty hm ho ha hbase hfew hline hs hplain) fun σ H Q ⟨δ, M, Q0, rs, h, c⟩ =>
  ⟨δ, M, _, rs, h, fun d M1 v H1 ⟨q0, q⟩ s1 m1 e1 => ⟨hi.1 H1 M1 v d m1 e1 q0, δ, M1, _, rs.step s1 m1, q, fun fs M2 ws H2 q2 s2 m2 e2 => hi.2 H2 M2 v ws d fs Q0 Q m2 (e1.mono (s2.pst m1)) e2 q2 (c.step (s1.trans s2))⟩⟩
def TyL : D → Mh → Prop := fun d M => match d with | .ref a => ∃ xs, M a = some (.lst xs) | _ => False
theorem tyL {K : PySem.W.Frag} : ∀ (H : Hp) (M : Mh) (v : V) (d : D), RepM K H M → Rep K H d v → TyL d M → tyV K "list" v H := by
  intro H M v d m h ty
  cases d with
  | ref a =>
    obtain ⟨xs, e⟩ := ty
    obtain ⟨ws, eH, _⟩ := m.lst e
    cases h
    exact .inl ⟨rfl, ws, .of eH⟩
  | _ => exact ty.elim
def RAppend : RMd := fun d es M Q => match d, es with
  | .ref a, [e] => ∃ xs, M a = some (.lst xs) ∧ xs.length < 1000000 ∧ Q .non (updM M a (.lst (xs ++ [e])))
  | _, _ => False
theorem imp_append {K : PySem.W.Frag} : ImpM K "list" rAppend TyL RAppend := ⟨tyL, fun H M v vs d es Q0 Q m h1 h2 h c => by
  unfold RAppend at h
  split at h
  · rename_i a e0
    obtain ⟨xs, h3, h4, h5⟩ := h
    obtain ⟨w, rfl, e1⟩ := reps1 h2
    obtain ⟨ws, eH, q⟩ := m.lst h3
    refine ⟨_, ws, w, h1, rfl, eH, by rw [q.length]; exact szlt h4, c _ _ _ _ h5 (Stp.wr h3) (m.wr h3 ⟨_, upd_same, ?_⟩) rfl⟩
    exact (q.append (Reps.cons e1 Reps.nil)).mono ((Stp.wr (o := .lst (ws ++ [w])) (m := .lst (xs ++ [e0])) h3).pst m)
  · exact h.elim⟩
theorem de_append {o e : Expr} {To : TEd} {Ta : TAd} {apos cpos : Pos} (ho : DE X x o To) (ha : DA X x [e] Ta) (hbase : attributeBase o "append" X.env (eval o X.env) = eval o X.env := by rfl)
    (hfew : ((backTo cpos (starEach [e] X.env)).all (fun x => !x.1) && (backToKw cpos (keywordEach [] X.env)).all (fun x => x.1.isSome)
      && decide (([e] : List Expr).length + ([] : List Keyword).length + (if ([] : List Keyword).isEmpty then 0 else 1) < 30)) = true := by rfl)
    (hline : (apos.endLine == cpos.line) = true := by rfl) (hs : starEach [e] X.env = (false, eval e X.env) :: starEach [] X.env := by rfl) (hplain : (backTo cpos (starEach [] X.env)).any (·.1) = false := by rfl) :
    DE X x (.Call (.Attribute o "append" apos) [e] [] cpos) (TBM TyL RAppend To Ta) :=
  de_bm PySem.F.plainAttrs_list PySem.F.slot_list_append PySem.F.type_list_append mt_append imp_append ho ha hbase hfew hline hs hplain
/-- xs.count(k): ints -/
def RCount : RMd := fun d es M Q => match d, es with
  | .ref a, [.int k] => ∃ ns : List Int, M a = some (.lst (ns.map .int)) ∧ Q (.int (ns.count k : Nat)) M
  | _, _ => False
theorem imp_count {K : PySem.W.Frag} : ImpM K "list" (rCntI K) TyL RCount := ⟨tyL, fun H M v vs d es Q0 Q m h1 h2 h c => by
  unfold RCount at h
  split at h
  · obtain ⟨ns, h3, h5⟩ := h
    obtain ⟨w, rfl, e1⟩ := reps1 h2
    obtain ⟨ws, eH, q⟩ := m.lst h3
    rw [show w = .int _ from e1]
    exact ⟨_, ns, _, h1, rfl, .of (by rw [eH, q.ints_eq]), c _ M _ H h5 Stp.refl m rfl⟩
  · exact h.elim⟩
theorem de_count {o e : Expr} {To : TEd} {Ta : TAd} {apos cpos : Pos} (ho : DE X x o To) (ha : DA X x [e] Ta) (hbase : attributeBase o "count" X.env (eval o X.env) = eval o X.env := by rfl)
    (hfew : ((backTo cpos (starEach [e] X.env)).all (fun x => !x.1) && (backToKw cpos (keywordEach [] X.env)).all (fun x => x.1.isSome)
      && decide (([e] : List Expr).length + ([] : List Keyword).length + (if ([] : List Keyword).isEmpty then 0 else 1) < 30)) = true := by rfl)
    (hline : (apos.endLine == cpos.line) = true := by rfl) (hs : starEach [e] X.env = (false, eval e X.env) :: starEach [] X.env := by rfl) (hplain : (backTo cpos (starEach [] X.env)).any (·.1) = false := by rfl) :
    DE X x (.Call (.Attribute o "count" apos) [e] [] cpos) (TBM TyL RCount To Ta) :=
  de_bm PySem.F.plainAttrs_list PySem.F.slot_list_count PySem.F.type_list_count mt_lcount imp_count ho ha hbase hfew hline hs hplain
/-! t[::-1] -/
theorem revV_get {t sl : Addr} {items : Array Value} {vl vu vs : Value} {prog : Program} {w : World} {A : Around} {E : Value → Shared → Prop} {s : Shared} {Q : Value → Shared → Prop} : True := trivial
end
end L3
set_option Elab.async false
set_option autoImplicit false
set_option linter.all false
set_option maxRecDepth 100000
set_option maxHeartbeats 4000000
/-! L3, seventh part: dicts. -/
namespace L3
open PySem PySem.Spec PyProof.Rows L2
/-! ### keys, tables of data -/
def keyD : D → Option Key
  | .int i => some (.inl i)
  | .str s => some (.inr s)
  | _ => none
def keyDs : List D → Option (List Key)
  | [] => some []
  | d :: ds => match keyD d, keyDs ds with | some k, some ks => some (k :: ks) | _, _ => none
def keyT : D → Option (List Key)
  | .utup ds => keyDs ds
  | _ => none
def datK : Key → D
  | .inl i => .int i
  | .inr s => .str s
@[simp] theorem keyD_dat (k : Key) : keyD (datK k) = some k := by cases k <;> rfl
theorem keyD_inv {d : D} {k : Key} (h : keyD d = some k) : d = datK k := by
  cases d <;> simp [keyD] at h <;> subst h <;> rfl
section
variable {K : PySem.W.Frag} {H H' : Hp} {M M' : Mh} {κ : Type} [DecidableEq κ]
theorem rep_datK {k : Key} : Rep K H (datK k) (kV k) := by cases k <;> rfl
theorem rep_key {d : D} {k : Key} {v : V} (h : keyD d = some k) (r : Rep K H d v) : v = kV k := by
  cases d with
  | int i => cases h; exact r
  | str s => cases h; exact r
  | _ => cases h
theorem rep_keys : ∀ {ds : List D} {ks : List Key} {vs : List V}, keyDs ds = some ks → Reps K H ds vs → vs = ks.map kV
  | [], ks, vs, h, r => by cases h; cases r; rfl
  | d :: ds, ks, vs, h, ⟨v, w, e, r1, r2⟩ => by
    unfold keyDs at h
    split at h
    · rename_i k ks' e1 e2
      cases h
      rw [e, rep_key e1 r1, rep_keys e2 r2]; rfl
    · cases h
def valD : List (κ × D) → κ → Option D
  | [], _ => none
  | p :: r, k => if p.1 = k then some p.2 else valD r k
def putD (kvs : List (κ × D)) (k : κ) (x : D) : List (κ × D) := if (kvs.any fun p => decide (p.1 = k)) = true then kvs.map (fun p => if p.1 = k then (p.1, x) else p) else kvs ++ [(k, x)]
theorem putD_length (kvs : List (κ × D)) (k : κ) (x : D) : (putD kvs k x).length ≤ kvs.length + 1 := by
  unfold putD; split <;> simp
theorem valD_append (as bs : List (κ × D)) (k : κ) : valD (as ++ bs) k = (valD as k).or (valD bs k) := by
  induction as with
  | nil => rfl
  | cons p r ih => simp only [List.cons_append, valD]; split <;> simp_all
theorem valD_none {kvs : List (κ × D)} {k : κ} : valD kvs k = none ↔ ∀ p ∈ kvs, p.1 ≠ k := by
  induction kvs with
  | nil => simp [valD]
  | cons p r ih => simp only [valD]; split <;> simp_all
theorem valD_repl (kvs : List (κ × D)) (k j : κ) (x : D) : valD (kvs.map fun p => if p.1 = k then (p.1, x) else p) j = if j = k then (valD kvs j).map fun _ => x else valD kvs j := by
  induction kvs with
  | nil => simp [valD]
  | cons p r ih =>
    simp only [List.map_cons, valD, ih]
    by_cases h : p.1 = k <;> by_cases h2 : p.1 = j <;> by_cases h3 : j = k <;> simp_all
theorem valD_put (kvs : List (κ × D)) (k j : κ) (x : D) : valD (putD kvs k x) j = if j = k then some x else valD kvs j := by
  unfold putD
  split
  · rename_i h
    rw [valD_repl]
    by_cases z : j = k
    · rw [if_pos z, if_pos z, z]
      obtain ⟨p, hp, e⟩ := List.any_eq_true.mp h
      cases q : valD kvs k with
      | none => exact absurd (of_decide_eq_true e) (valD_none.mp q p hp)
      | some _ => rfl
    · rw [if_neg z, if_neg z]
  · rename_i h
    rw [valD_append]
    by_cases z : j = k
    · rw [if_pos z]
      subst z
      have q : valD kvs j = none := valD_none.mpr fun p hp e => h (List.any_eq_true.mpr ⟨p, hp, by simp [e]⟩)
      simp [q, valD]
    · rw [if_neg z]
      simp [valD, Ne.symm z]
/-- two readings of a value that may lack -/
def RelD (K : PySem.W.Frag) (H : Hp) : Option D → Option V → Prop
  | none, o => o = none
  | some d, o => ∃ v, o = some v ∧ Rep K H d v
theorem RKV.val {kvs : List (κ × D)} {ws : List (κ × V)} (r : RKV K H kvs ws) (k : κ) : RelD K H (valD kvs k) (valV ws k) := by
  induction r with
  | nil => rfl
  | cons h t ih =>
    rename_i p q r w
    unfold valD
    by_cases e : p.1 = k
    · rw [if_pos e, valV_pos (h.1 ▸ e)]; exact ⟨_, rfl, h.2⟩
    · rw [if_neg e, valV_neg (h.1 ▸ e)]; exact ih
theorem RKV.keysNe {kvs : List (κ × D)} {ws : List (κ × V)} (r : RKV K H kvs ws) : kvs.map (·.1) = ws.map (·.1) := by
  induction r with
  | nil => rfl
  | cons h t ih => rw [List.map_cons, List.map_cons, h.1, ih]
theorem RKV.any {kvs : List (κ × D)} {ws : List (κ × V)} (r : RKV K H kvs ws) (k : κ) : (kvs.any fun p => decide (p.1 = k)) = ws.any fun p => decide (p.1 = k) := by
  induction r with
  | nil => rfl
  | cons h t ih => rw [List.any_cons, List.any_cons, ih, h.1]
theorem RKV.repl {kvs : List (κ × D)} {ws : List (κ × V)} (r : RKV K H kvs ws) {k : κ} {d : D} {v : V} (e : Rep K H d v) : RKV K H (kvs.map fun p => if p.1 = k then (p.1, d) else p) (ws.map fun p => if p.1 = k then (p.1, v) else p) := by
  induction r with
  | nil => exact .nil
  | cons h t ih =>
    rename_i p q _ _
    refine .cons ?_ ih
    show (if p.1 = k then (p.1, d) else p).1 = (if q.1 = k then (q.1, v) else q).1 ∧ Rep K H (if p.1 = k then (p.1, d) else p).2 (if q.1 = k then (q.1, v) else q).2
    by_cases z : p.1 = k
    · rw [if_pos z, if_pos (h.1 ▸ z)]; exact ⟨h.1, e⟩
    · rw [if_neg z, if_neg (h.1 ▸ z)]; exact h
theorem RKV.snoc {kvs : List (κ × D)} {ws : List (κ × V)} (r : RKV K H kvs ws) {k : κ} {d : D} {v : V} (e : Rep K H d v) : RKV K H (kvs ++ [(k, d)]) (ws ++ [(k, v)]) := by
  induction r with
  | nil => exact .cons ⟨rfl, e⟩ .nil
  | cons h t ih => exact .cons h ih
theorem RKV.put {kvs : List (κ × D)} {ws : List (κ × V)} (r : RKV K H kvs ws) {k : κ} {d : D} {v : V} (e : Rep K H d v) : RKV K H (putD kvs k d) (putK ws k v) := by
  unfold putD putK
  rw [r.any]
  split
  · exact r.repl e
  · exact r.snoc e
end
/-! ### what a dict holds, data -/
/-- the item at a key, where M tells of a dict or a list; none: not told; some none: no such key -/
def getM (M : Mh) (a : Addr) (e : D) : Option (Option D) := match M a with
  | some (.dK kvs) => (keyD e).map (valD kvs)
  | some (.rK _ _ kvs) => (keyD e).map (valD kvs)
  | some (.dT kvs) => (keyT e).map (valD kvs)
  | _ => none
section
variable {K : PySem.W.Frag} {H : Hp} {M : Mh}
theorem getM_of (m : RepM K H M) {a : Addr} {e : D} {y : V} {o : Option D} (h : getM M a e = some o) (ry : Rep K H e y) : ∃ o', DGet H a y o' ∧ RelD K H o o' := by
  unfold getM at h
  split at h
  · rename_i kvs hm
    obtain ⟨ws, eH, r⟩ := m a _ hm
    obtain ⟨k, hk, rfl⟩ := Option.map_eq_some_iff.mp h
    rw [rep_key hk ry]
    exact ⟨_, .inl ⟨ws, k, .inl eH, rfl, rfl⟩, RKV.val r k⟩
  · rename_i o' ws kvs hm
    obtain ⟨eH, r⟩ := m a _ hm
    obtain ⟨k, hk, rfl⟩ := Option.map_eq_some_iff.mp h
    rw [rep_key hk ry]
    exact ⟨_, .inl ⟨ws, k, .inr ⟨_, eH⟩, rfl, rfl⟩, RKV.val r k⟩
  · rename_i kvs hm
    obtain ⟨ws, eH, r⟩ := m a _ hm
    obtain ⟨k, hk, rfl⟩ := Option.map_eq_some_iff.mp h
    cases e with
    | utup ds =>
      obtain ⟨b, vs, rfl, t, q⟩ := ry
      rw [rep_keys hk q] at t
      exact ⟨_, .inr ⟨ws, k, b, .inl eH, rfl, t, rfl⟩, RKV.val r k⟩
    | _ => cases hk
  · cases h
/-- the data heap behind a[e] = x -/
def putM (M : Mh) (a : Addr) (e x : D) : Option Mh := match M a with
  | some (.dK kvs) => (keyD e).map fun k => updM M a (.dK (putD kvs k x))
  | some (.dT kvs) => (keyT e).map fun k => updM M a (.dT (putD kvs k x))
  | _ => none
/-- how many keys -/
def sizM (M : Mh) (a : Addr) : Nat := match M a with
  | some (.dK kvs) => kvs.length
  | some (.dT kvs) => kvs.length
  | _ => 0
theorem putM_of (m : RepM K H M) {a : Addr} {e x : D} {y v : V} {M' : Mh} (h : putM M a e x = some M') (hz : sizM M a < 1000000) (ry : Rep K H e y) (rx : Rep K H x v) : ∃ H', DPut H a y v H' ∧ Stp H M H' M' ∧ RepM K H' M' := by
  unfold putM at h
  split at h
  · rename_i kvs hm
    unfold sizM at hz
    rw [hm] at hz
    obtain ⟨ws, eH, r⟩ := m a _ hm
    obtain ⟨k, hk, rfl⟩ := Option.map_eq_some_iff.mp h
    rw [rep_key hk ry]
    have s : Stp H M (upd H a (.dK (putK ws k v))) (updM M a (.dK (putD kvs k x))) := Stp.wr hm
    exact ⟨_, .inl ⟨ws, k, eH, rfl, by rw [← Paired.length r]; exact szlt hz, rfl⟩, s, m.wr hm ⟨_, upd_same, RKV.mono (s.pst m) (r.put rx)⟩⟩
  · rename_i kvs hm
    unfold sizM at hz
    rw [hm] at hz
    obtain ⟨ws, eH, r⟩ := m a _ hm
    obtain ⟨k, hk, rfl⟩ := Option.map_eq_some_iff.mp h
    cases e with
    | utup ds =>
      obtain ⟨b, vs, rfl, t, q⟩ := ry
      rw [rep_keys hk q] at t
      have s : Stp H M (upd H a (.dT (putK ws k v))) (updM M a (.dT (putD kvs k x))) := Stp.wr hm
      exact ⟨_, .inr ⟨ws, k, b, eH, rfl, t, by rw [← Paired.length r]; exact szlt hz, rfl⟩, s, m.wr hm ⟨_, upd_same, RKV.mono (s.pst m) (r.put rx)⟩⟩
    | _ => cases hk
  · cases h
end
/-! ### rules -/
section
variable {X : Cx} {x : Xw} {a b o e f value : Expr} {Ta Tb Te To Tf Tv : TEd} {pos pos' apos cpos : Pos}
/-- d[e] of a dict -/
def RGet : R2d := fun d e M Q => match d with | .ref a => ∃ v, getM M a e = some (some v) ∧ Q v M | _ => False
theorem de_dget (hu : X.A.units + 1 < cLine) (ha : DE X x a Ta) (hb : DE X x b Tb) (hs : NoSl b := by intro _ _; rfl) : DE X x (.Subscript a b pos) (TOp RGet Ta Tb) :=
  PE.cv (pe_dget hu ha hb hs) fun σ H Q ⟨δ, M, Q0, r, h, c⟩ =>
    ⟨δ, M, _, r, h, fun d M1 v H1 q1 s1 m1 e1 => ⟨δ, M1, _, r.step s1 m1, q1, fun e M2 u H2 q2 s2 m2 e2 => by
      cases d with
      | ref p =>
        obtain ⟨w, g, q⟩ := q2
        obtain ⟨o', g', rd⟩ := getM_of m2 g e2
        obtain ⟨w', rfl, rw'⟩ := rd
        exact ⟨p, w', e1, g', c w M2 w' H2 q (s1.trans s2) m2 rw'⟩
      | _ => exact q2.elim⟩⟩
/-- e in d, e not in d -/
def RDIn : R2d := fun e d M Q => match d with | .ref a => ∃ o, getM M a e = some o ∧ Q (.bl o.isSome) M | _ => False
def RDNotIn : R2d := fun e d M Q => match d with | .ref a => ∃ o, getM M a e = some o ∧ Q (.bl (!o.isSome)) M | _ => False
theorem relD_some {K : PySem.W.Frag} {H : Hp} {o : Option D} {o' : Option V} (r : RelD K H o o') : o'.isSome = o.isSome := by
  cases o with
  | none => cases r; rfl
  | some d => obtain ⟨v, rfl, _⟩ := r; rfl
def ctxIn (X : Cx) : Prop := X.A.units + 1 < cLine
theorem op_din (hu : X.A.units + 1 < cLine) : OpD X (compareOp .In) RDIn := by
  intro pins s σ H M y z v u d e Q0 Q I m h1 h2 ry rz h c
  cases e with
  | ref a =>
    obtain ⟨o, g, q⟩ := h
    obtain ⟨o', g', rd⟩ := getM_of m g h1
    cases h2; cases rz
    exact d_in hu I g' ry fun s' I' => ⟨.bl o'.isSome, H, I', rfl, c _ M _ H q Stp.refl m (by rw [relD_some rd]; rfl)⟩
  | _ => exact h.elim
theorem op_dnotin (hu : X.A.units + 1 < cLine) : OpD X (compareOp .NotIn) RDNotIn := by
  intro pins s σ H M y z v u d e Q0 Q I m h1 h2 ry rz h c
  cases e with
  | ref a =>
    obtain ⟨o, g, q⟩ := h
    obtain ⟨o', g', rd⟩ := getM_of m g h1
    cases h2; cases rz
    exact d_notIn hu I g' ry fun s' I' => ⟨.bl (!o'.isSome), H, I', rfl, c _ M _ H q Stp.refl m (by rw [relD_some rd]; rfl)⟩
  | _ => exact h.elim
/-- d.get(e), d.get(e, f) -/
def TGet1 (To Te : TEd) : TEd := fun δ M Q => To δ M fun d M1 => match d with | .ref a => (∃ kvs, M1 a = some (.dK kvs)) ∧ Te δ M1 fun e M2 => ∃ o, getM M2 a e = some o ∧ Q (o.getD .non) M2 | _ => False
def TGet2 (To Te Tf : TEd) : TEd := fun δ M Q => To δ M fun d M1 => match d with | .ref a => (∃ kvs, M1 a = some (.dK kvs)) ∧ Te δ M1 fun e M2 => Tf δ M2 fun f M3 => ∃ o, getM M3 a e = some o ∧ Q (o.getD f) M3 | _ => False
theorem relD_getD {K : PySem.W.Frag} {H : Hp} {o : Option D} {o' : Option V} (r : RelD K H o o') {d : D} {v : V} (e : Rep K H d v) : Rep K H (o.getD d) (o'.getD v) := by
  cases o with
  | none => cases r; exact e
  | some d => obtain ⟨v, rfl, q⟩ := r; exact q
theorem de_get1 (hu : X.A.units + 1 < cLine) (ho : DE X x o To) (he : DE X x e Te) (m : M1 X o "get" apos e cpos := by exact ⟨rfl, rfl, rfl, rfl⟩) : DE X x (.Call (.Attribute o "get" apos) [e] [] cpos) (TGet1 To Te) :=
  PE.cv (pe_dget1 hu ho he m) fun σ H Q ⟨δ, M, Q0, r, h, c⟩ =>
    ⟨δ, M, _, r, h, fun d M1 v H1 q1 s1 m1 e1 => by
      cases d with
      | ref p =>
        obtain ⟨⟨kvs, hk⟩, q1⟩ := q1
        obtain ⟨ws, eH, _⟩ := m1 p _ hk
        exact ⟨p, e1, .inl ⟨ws, .inl eH⟩, δ, M1, _, r.step s1 m1, q1, fun e M2 u H2 ⟨o, g, q⟩ s2 m2 e2 => by
          obtain ⟨o', g', rd⟩ := getM_of m2 g e2
          exact ⟨o', g', c _ M2 _ H2 q (s1.trans s2) m2 (relD_getD rd rfl)⟩⟩
      | _ => exact q1.elim⟩
theorem de_get2 (hu : X.A.units + 1 < cLine) (ho : DE X x o To) (he : DE X x e Te) (hf : DE X x f Tf) (m : M2 X o "get" apos e f cpos := by exact ⟨rfl, rfl, rfl, rfl⟩) : DE X x (.Call (.Attribute o "get" apos) [e, f] [] cpos) (TGet2 To Te Tf) :=
  PE.cv (pe_dget2 hu ho he hf m) fun σ H Q ⟨δ, M, Q0, r, h, c⟩ =>
    ⟨δ, M, _, r, h, fun d M1 v H1 q1 s1 m1 e1 => by
      cases d with
      | ref p =>
        obtain ⟨⟨kvs, hk⟩, q1⟩ := q1
        obtain ⟨ws, eH, _⟩ := m1 p _ hk
        exact ⟨p, e1, .inl ⟨ws, .inl eH⟩, δ, M1, _, r.step s1 m1, q1, fun e M2 u H2 q2 s2 m2 e2 => ⟨δ, M2, _, (r.step s1 m1).step s2 m2, q2, fun f M3 u3 H3 ⟨o, g, q⟩ s3 m3 e3 => by
          obtain ⟨o', g', rd⟩ := getM_of m3 g (e2.mono (s3.pst m2))
          exact ⟨o', g', c _ M3 _ H3 q ((s1.trans s2).trans s3) m3 (relD_getD rd e3)⟩⟩⟩
      | _ => exact q1.elim⟩
/-- d[e] = value -/
def TPut (To Te Tv : TEd) : TSd := fun E δ M => Tv δ M fun v M1 => To δ M1 fun d M2 => Te δ M2 fun e M3 => match d with | .ref a => sizM M3 a < 1000000 ∧ ∃ M4, putM M3 a e v = some M4 ∧ E.nx δ M4 | _ => False
theorem ds_put (hu : X.A.units + 1 < cLine) (ho : DE X x o To) (he : DE X x e Te) (hv : DE X x value Tv) (hs : swapsWith value (some (.Subscript o e pos')) pos.line X.env = pure false := by rfl) :
    DS X x (.Assign [.Subscript o e pos'] value pos) (TPut To Te Tv) := PS.cv (ps_dput hu ho he hv hs) fun D σ H ⟨δ, M, E, r, h, c⟩ =>
  ⟨δ, M, _, r, h, fun v M1 w H1 q1 s1 m1 e1 => ⟨δ, M1, _, r.step s1 m1, q1, fun d M2 u H2 q2 s2 m2 e2 => ⟨δ, M2, _, (r.step s1 m1).step s2 m2, q2, fun k M3 y H3 q3 s3 m3 e3 => by
    cases d with
    | ref p =>
      obtain ⟨hz, M4, h4, q⟩ := q3
      have t := (s1.trans s2).trans s3
      obtain ⟨H4, g, s4, m4⟩ := putM_of m3 h4 hz e3 ((e1.mono (s2.pst m1)).mono (s3.pst m2))
      exact ⟨p, H4, e2, g, c.nx δ M4 σ H4 q (t.trans s4) m4 (r.s.mono ((t.trans s4).pst r.m))⟩
    | _ => exact q3.elim⟩⟩⟩
/-- { } -/
def TNewK : TEd := fun _ M Q => ∀ p, M p = none → Q (.ref p) (updM M p (.dK []))
def TNewT : TEd := fun _ M Q => ∀ p, M p = none → Q (.ref p) (updM M p (.dT []))
theorem de_newK : DE X x (.Dict [] [] pos) TNewK := PE.cv pe_dnewK fun σ H Q ⟨δ, M, Q0, r, h, c⟩ p hp =>
  c _ _ _ _ (h p (r.m.fresh hp)) (Stp.new hp) (r.m.new hp ⟨[], upd_same, .nil⟩) rfl
theorem de_newT : DE X x (.Dict [] [] pos) TNewT := PE.cv pe_dnewT fun σ H Q ⟨δ, M, Q0, r, h, c⟩ p hp =>
  c _ _ _ _ (h p (r.m.fresh hp)) (Stp.new hp) (r.m.new hp ⟨[], upd_same, .nil⟩) rfl
/-! ### a dict walked: it is locked meanwhile -/
def TLkE (T : TEd) : TEd := fun δ M Q => ∃ a kvs, M a = some (.dK kvs) ∧ ∀ o ws, T δ (updM M a (.rK o ws kvs)) fun d M' => M' a = some (.rK o ws kvs) ∧ Q d (updM M' a (.dK kvs))
def TLkS (T : TSd) : TSd := fun E δ M => ∃ a kvs, M a = some (.dK kvs) ∧ ∀ o ws,
  T ⟨fun δ' M' => M' a = some (.rK o ws kvs) ∧ E.nx δ' (updM M' a (.dK kvs)), fun d M' => M' a = some (.rK o ws kvs) ∧ E.rt d (updM M' a (.dK kvs)), fun δ' M' => M' a = some (.rK o ws kvs) ∧ E.bk δ' (updM M' a (.dK kvs)), fun δ' M' => M' a = some (.rK o ws kvs) ∧ E.ct δ' (updM M' a (.dK kvs))⟩ δ (updM M a (.rK o ws kvs))
section
variable {K : PySem.W.Frag} {H H' : Hp} {M M' : Mh} {p : Addr} {kvs : List (Key × D)} {ws : List (Key × V)} {od : Obj}
theorem lock_in (m : RepM K H M) (h : M p = some (.dK kvs)) (eH : H p = some (.dK ws)) (r : RKV K H kvs ws) : Stp H M (upd H p (.frz od (.dK ws))) (updM M p (.rK od ws kvs)) ∧ RepM K (upd H p (.frz od (.dK ws))) (updM M p (.rK od ws kvs)) := by
  have s : Stp H M (upd H p (.frz od (.dK ws))) (updM M p (.rK od ws kvs)) := Stp.wr h
  exact ⟨s, m.wr h ⟨upd_same, RKV.mono (s.pst m) r⟩⟩
theorem lock_out (m : RepM K H' M') (h : M' p = some (.rK od ws kvs)) : H' p = some (.frz od (.dK ws)) ∧ Stp H' M' (upd H' p (.dK ws)) (updM M' p (.dK kvs)) ∧ RepM K (upd H' p (.dK ws)) (updM M' p (.dK kvs)) := by
  have s : Stp H' M' (upd H' p (.dK ws)) (updM M' p (.dK kvs)) := Stp.wr h
  obtain ⟨e, r⟩ := m p _ h
  exact ⟨e, s, m.wr h ⟨ws, upd_same, RKV.mono (s.pst m) r⟩⟩
end
theorem de_lock {T : TEd} (he : DE X x e T) : DE X x e (TLkE T) := PE.cv (pe_lock he) fun σ H Q ⟨δ, M, Q0, r, ⟨p, kvs, hp, h⟩, c⟩ => by
  obtain ⟨ws, eH, rk⟩ := r.m p _ hp
  refine ⟨p, .dK ws, eH, trivial, fun od => ?_⟩
  obtain ⟨s1, m1⟩ := lock_in (od := od) r.m hp eH rk
  refine ⟨δ, _, _, r.step s1 m1, h od ws, fun d M' v H' ⟨q1, q2⟩ s2 m2 e2 => ?_⟩
  obtain ⟨e3, s3, m3⟩ := lock_out m2 q1
  exact ⟨e3, c d _ v _ q2 ((s1.trans s2).trans s3) m3 (e2.mono (s3.pst m2))⟩
theorem ds_lock {st : Stmt} {T : TSd} (he : DS X x st T) : DS X x st (TLkS T) := PS.cv (ps_lock he) fun D σ H ⟨δ, M, E, r, ⟨p, kvs, hp, h⟩, c⟩ => by
  obtain ⟨ws, eH, rk⟩ := r.m p _ hp
  refine ⟨p, .dK ws, eH, trivial, fun od => ?_⟩
  obtain ⟨s1, m1⟩ := lock_in (od := od) r.m hp eH rk
  have key : ∀ {Q0 : Sd → Mh → Prop} {Q : L2.St → Hp → Prop}, CqN X.K H M Q0 Q → CqN X.K (upd H p (.frz od (.dK ws))) (updM M p (.rK od ws kvs)) (fun δ' M' => M' p = some (.rK od ws kvs) ∧ Q0 δ' (updM M' p (.dK kvs))) (fun σ' H' => H' p = some (.frz od (.dK ws)) ∧ Q σ' (upd H' p (.dK ws))) := by
    intro Q0 Q c δ' M' σ' H' ⟨q1, q2⟩ s2 m2 rs
    obtain ⟨e3, s3, m3⟩ := lock_out m2 q1
    exact ⟨e3, c δ' _ σ' _ q2 ((s1.trans s2).trans s3) m3 (rs.mono (s3.pst m2))⟩
  refine ⟨δ, _, _, r.step s1 m1, h od ws, ⟨key c.nx, fun d M' v H' ⟨q1, q2⟩ s2 m2 e2 => ?_, key c.bk, key c.ct⟩⟩
  obtain ⟨e3, s3, m3⟩ := lock_out m2 q1
  exact ⟨e3, c.rt d _ v _ q2 ((s1.trans s2).trans s3) m3 (e2.mono (s3.pst m2))⟩
/-- in d, d.values(), d.items() -/
def TKeys (T : TEd) : TId := fun δ M R => T δ M fun d M1 => match d with | .ref a => ∃ o ws kvs, M1 a = some (.rK o ws kvs) ∧ R (kvs.map fun p => datK p.1) (fun M' => M' a = some (.rK o ws kvs)) M1 | _ => False
def TVals (T : TEd) : TId := fun δ M R => T δ M fun d M1 => match d with | .ref a => ∃ o ws kvs, M1 a = some (.rK o ws kvs) ∧ R (kvs.map fun p => p.2) (fun M' => M' a = some (.rK o ws kvs)) M1 | _ => False
def TItems (T : TEd) : TId := fun δ M R => T δ M fun d M1 => match d with | .ref a => ∃ o ws kvs, M1 a = some (.rK o ws kvs) ∧ R (kvs.map fun p => .utup [datK p.1, p.2]) (fun M' => M' a = some (.rK o ws kvs)) M1 | _ => False
section
variable {K : PySem.W.Frag} {H : Hp} {M : Mh} {p : Addr} {kvs : List (Key × D)} {ws : List (Key × V)} {od : Obj}
theorem rkv_get (r : RKV K H kvs ws) {i : Nat} {k : Key} {v : V} (h : ws[i]? = some (k, v)) : ∃ d, kvs[i]? = some (k, d) ∧ Rep K H d v := by
  induction r generalizing i with
  | nil => simp at h
  | cons a t ih =>
    rename_i p q _ _
    cases i with
    | zero =>
      have e : q = (k, v) := by simpa using h
      obtain ⟨p1, p2⟩ := p
      subst e
      have e1 : p1 = k := a.1
      subst e1
      exact ⟨p2, rfl, a.2⟩
    | succ i => obtain ⟨d, e1, e2⟩ := ih (i := i) (by simpa using h); exact ⟨d, by simpa using e1, e2⟩
theorem itd_keys (z : kvs.length = ws.length) : ItD K H M (Itk p od ws) (kvs.map fun q => datK q.1) fun M' => M' p = some (.rK od ws kvs) where
  go i H' M' hi s m' g := ⟨(m' p _ g).1, by rw [← z]; simpa using hi⟩
  yld i H' M' v H2 hi s m' g y := by
    obtain ⟨rfl, k, u, e, rfl⟩ := y
    obtain ⟨d, e1, e2⟩ := rkv_get (m' p _ g).2 e
    exact ⟨datK k, by rw [List.getElem?_map, e1]; rfl, rep_datK, Stp.refl, m'⟩
  stop i H' M' hi s m' g := ⟨(m' p _ g).1, by rw [← z]; simpa using hi⟩
theorem itd_vals (z : kvs.length = ws.length) : ItD K H M (Itd p od ws) (kvs.map fun q => q.2) fun M' => M' p = some (.rK od ws kvs) where
  go i H' M' hi s m' g := ⟨(m' p _ g).1, by rw [← z]; simpa using hi⟩
  yld i H' M' v H2 hi s m' g y := by
    obtain ⟨rfl, k, e⟩ := y
    obtain ⟨d, e1, e2⟩ := rkv_get (m' p _ g).2 e
    exact ⟨d, by rw [List.getElem?_map, e1]; rfl, e2, Stp.refl, m'⟩
  stop i H' M' hi s m' g := ⟨(m' p _ g).1, by rw [← z]; simpa using hi⟩
theorem itd_items (z : kvs.length = ws.length) : ItD K H M (Iti p od ws) (kvs.map fun q => .utup [datK q.1, q.2]) fun M' => M' p = some (.rK od ws kvs) where
  go i H' M' hi s m' g := ⟨(m' p _ g).1, by rw [← z]; simpa using hi⟩
  yld i H' M' v H2 hi s m' g y := by
    obtain ⟨T, k, u, e, rfl, hn, rfl⟩ := y
    obtain ⟨d, e1, e2⟩ := rkv_get (m' p _ g).2 e
    exact ⟨.utup [datK k, d], by rw [List.getElem?_map, e1]; rfl, Rep.newutup hn (Reps.cons rep_datK (Reps.cons e2 Reps.nil)), Stp.newU hn, m'.newU hn⟩
  stop i H' M' hi s m' g := ⟨(m' p _ g).1, by rw [← z]; simpa using hi⟩
end
theorem di_keys {tg : Expr} (he : DE X x e Te) : DI X x tg e (TKeys Te) := PI.cv (pi_keys he) fun σ H R ⟨δ, M, R0, r, h, c⟩ => ⟨δ, M, _, r, h, fun d M1 v H1 q s1 m1 e1 => by
  cases d with
  | ref p =>
    obtain ⟨o, ws, kvs, hp, q⟩ := q
    obtain ⟨eH, rk⟩ := m1 p _ hp
    exact ⟨p, o, e1, .inl ⟨ws, eH, c _ _ _ _ _ q s1 m1 (itd_keys (Paired.length rk))⟩⟩
  | _ => exact q.elim⟩
theorem di_vals {tg : Expr} (he : DE X x e Te) (hbase : attributeBase e "values" X.env (eval e X.env) = eval e X.env := by rfl) (hline : (apos.endLine == cpos.line) = true := by rfl) : DI X x tg (.Call (.Attribute e "values" apos) [] [] cpos) (TVals Te) := PI.cv (pi_values he hbase hline) fun σ H R ⟨δ, M, R0, r, h, c⟩ => ⟨δ, M, _, r, h, fun d M1 v H1 q s1 m1 e1 => by
  cases d with
  | ref p =>
    obtain ⟨o, ws, kvs, hp, q⟩ := q
    obtain ⟨eH, rk⟩ := m1 p _ hp
    exact ⟨p, o, ws, e1, eH, c _ _ _ _ _ q s1 m1 (itd_vals (Paired.length rk))⟩
  | _ => exact q.elim⟩
theorem di_items {elts : List Expr} {kk : Nat} {tpos : Pos} (he : DE X x e Te) (hbase : attributeBase e "items" X.env (eval e X.env) = eval e X.env := by rfl) (hline : (apos.endLine == cpos.line) = true := by rfl) :
    DI X x (.Tuple elts kk tpos) (.Call (.Attribute e "items" apos) [] [] cpos) (TItems Te) := PI.cv (pi_items he hbase hline) fun σ H R ⟨δ, M, R0, r, h, c⟩ => ⟨δ, M, _, r, h, fun d M1 v H1 q s1 m1 e1 => by
  cases d with
  | ref p =>
    obtain ⟨o, ws, kvs, hp, q⟩ := q
    obtain ⟨eH, rk⟩ := m1 p _ hp
    exact ⟨p, o, ws, e1, eH, c _ _ _ _ _ q s1 m1 (itd_items (Paired.length rk))⟩
  | _ => exact q.elim⟩
end
end L3
set_option Elab.async false
set_option autoImplicit false
set_option linter.all false
set_option maxRecDepth 100000
set_option maxHeartbeats 4000000
/-! L3: set(l), l a list of ints. -/
namespace L3
open PySem PySem.Spec PyProof.Rows L2
section
variable {P : Program} {w : World} {A : Around} {E : Value → Shared → Prop} {s : Shared}
abbrev noSet (w : World) : Obj := { cls := .type "set", dict := none, data := .set #[] 0 (.fresh 0 0 (!w.params.followText "set-order")) }
/-- set(l), l a list of ints: its members, and that it is walked by its own order -/
theorem set_listI {l : Addr} {items : Array Value} (ns : List Int) {Q : Value → Shared → Prop} (hh : A.handled = none) (hl : s.heap.IsList l items) (hit : IntsAre items.toList ns) (hb : ns.length + 1 < scanBound)
    (h : ∀ (h' : Heap) (tk c : Nat), SetR w h' s.heap.objs.size (fun j => decide (j ∈ ns)) c → c ≤ ns.length → (∀ b o, s.heap.get? b = some o → h'.get? b = some o) → Q (.ref s.heap.objs.size) { s with heap := h', toks := tk }) :
    wpAny (model P w) A (call (.type "set") [.ref l]) Q E s := by
  have hisz : items.size = ns.length := by have q := IntsAre.length hit; simpa using q
  obtain ⟨c, tl, hmro⟩ := F.called_set.mro
  have hmade := F.called_set.made
  have hsub := F.called_set.sub
  refine wpAny_call (codeAny_of_tree ?_)
  show wpAny _ _ (callAny (.type "set") _) _ _ _
  refine wpAny_pure ⟨Code.quiet_builtin _ (by decide +kernel), codeAny_builtin F.entry_type_call ?_⟩
  rw [Around.under_plain (weight_type_call_type "set" [.ref l] []) rfl]
  have h1 := F.called_set.notType
  have h2 := F.called_set.canCreate
  have hct := F.typeCall_set_1 (.ref l)
  repeat (any_goals (first | assumption | wp_step))
  refine codeAny_mono (code_set_led1 (.ref l) (E := E) (Q₁ := fun obj s₁ => obj = .ref s.heap.objs.size ∧ s₁ = { s with heap := s.heap.push (noSet w) }) ⟨rfl, rfl⟩) fun r s₁ hr => ?_
  cases r with
  | error e => exact hr
  | ok fl =>
    cases fl with
    | ret obj =>
      obtain ⟨rfl, rfl⟩ := hr
      have hS : (s.heap.push (noSet w)).get? s.heap.objs.size = some (noSet w) := Heap.get?_push_size _ rfl
      have hT : Shared.TypeIs { s with heap := s.heap.push (noSet w) } (.ref s.heap.objs.size) "set" := ⟨_, hS, rfl⟩
      have hli := F.called_set.init.lookup
      have hbi := F.called_set.init.bind (.ref s.heap.objs.size)
      repeat (any_goals (first | assumption | wp_step))
      refine codeAny_mono (codeAny_call_builtin (R := wants (fun r s₂ => r = .none ∧ ∃ h' tk c, s₂ = { s with heap := h', toks := tk } ∧ SetR w h' s.heap.objs.size (fun j => decide (j ∈ ns)) c ∧ c ≤ ns.length ∧
          (∀ b o, s.heap.get? b = some o → h'.get? b = some o)) E) F.called_set.init.plain F.entry_set_init (check_set_init_1 hT ?_)) fun r₂ s₂ hr₂ => ?_
      · obtain ⟨ol, hol, hcl, nl, hdl⟩ := hl
        obtain ⟨ocls, odict, odata, oslots⟩ := ol
        simp only at hcl hdl
        subst hcl; subst hdl
        have hol' : (s.heap.push (noSet w)).get? l = some { cls := .type "list", dict := odict, data := .seq items nl, slots := oslots } := Heap.get?_push_of_some _ hol
        have hsls := F.sub_list_set
        have hslf := F.sub_list_frozenset
        have hne : (Value.type "list" == Value.type "dict") = false := by decide
        have hl1 : (s.heap.push (noSet w)).IsList l items := ⟨_, hol', rfl, nl, rfl⟩
        unfold Builtin.«set.__init__» noKeywords Builtin.Frozenset.updateFrom
        generalize hPI : pyIter = PI
        wp_walk
        subst hPI
        refine wpAny_pyIter_list hl1 ?_
        refine wpAny_bind (wpAny_runValue ?_)
        have hlS : l < s.heap.objs.size := Heap.lt_size hol
        have hh3 : A.in1.in1.in1.handled = none := by simp [hh]
        have hneI : l ≠ (s.heap.push (noSet w)).objs.size := by
          rw [Heap.size_push]; exact Nat.ne_of_lt (Nat.lt_succ_of_lt hlS)
        have hSf : s.heap.objs.size ∉ [(s.heap.push (noSet w)).objs.size, l] := by
          rw [Heap.size_push]; simp only [List.mem_cons, List.mem_singleton, List.not_mem_nil, or_false, not_or]
          exact ⟨Nat.ne_of_lt (Nat.lt_succ_self _), Nat.ne_of_gt hlS⟩
        have hval : ∀ (i : Nat) (v : Value), items[i]? = some v → ∃ k t, ns[i]? = some k ∧ v = .int k t := fun i v hv => by
          have hi : i < ns.length := by rw [← hisz]; exact (Array.getElem?_eq_some_iff.mp hv).1
          obtain ⟨t, e⟩ := PyProof.Rows.IntsAre.int_at hit i v (by rw [Array.getElem?_toList]; exact hv)
          refine ⟨ns[i], t, List.getElem?_eq_getElem hi, ?_⟩
          rw [e, List.getD_eq_getElem?_getD, List.getElem?_eq_getElem hi] <;> rfl
        refine set_update_ints ((Walks.list hh3 _ l hneI items).toS) s.heap.objs.size hSf ns hisz hb hval (items.size - 0) 0 _ (by omega) (Nat.zero_le _)
          ⟨⟨_, Heap.get?_push_size _ rfl, rfl, rfl⟩, (hl1.push _)⟩ ⟨0, Nat.le_refl 0, setR_new_at (Heap.get?_push_of_some _ hS)⟩ ?_
        intro s' c' hm hc' hS'
        obtain ⟨h', g2, d', tk', os'⟩ := s'
        have eg : g2 = s.gens := hm.gens
        have ed : d' = s.drawn := hm.drawn
        have eo : os' = s.os := hm.os
        subst eg; subst ed; subst eo
        show wpAny _ _ _ _ _ _
        refine wpAny_pure ?_
        show wpAny _ _ (ret Value.none) _ _ _
        rw [hisz] at hc'
        refine wpAny_pure ⟨rfl, h', tk', c', rfl, hS', hc', fun b o e => ?_⟩
        have hb0 : b < s.heap.objs.size := Heap.lt_size e
        refine hm.heap b o ?_ (Heap.get?_push_of_some _ (Heap.get?_push_of_some _ e))
        rw [Heap.size_push]
        simp only [List.mem_cons, List.mem_singleton, List.not_mem_nil, or_false, not_or]
        exact ⟨Nat.ne_of_lt hb0, Nat.ne_of_lt (Nat.lt_succ_of_lt hb0)⟩
      · cases r₂ with
        | error e => exact hr₂
        | ok fl₂ =>
          cases fl₂ with
          | ret r =>
            obtain ⟨rfl, h', tk, c', rfl, hS', hc', hk'⟩ := hr₂
            repeat (any_goals (first | assumption | wp_step))
            exact h _ _ _ hS' hc' hk'
          | _ => exact hr₂.elim
    | _ => exact hr.elim
end
end L3
set_option Elab.async false
set_option autoImplicit false
set_option linter.all false
set_option maxRecDepth 100000
set_option maxHeartbeats 4000000
/-! L3, eighth part: dict(..), sets, a tuple from behind, op=, calls with keywords. -/
namespace L3
open PySem PySem.Spec PyProof.Rows L2
/-! ### dict(t), t a tuple of pairs -/
def mergeD (kvs more : List (Key × D)) : List (Key × D) := more.foldl (fun acc p => putD acc p.1 p.2) kvs
/-- a pair as a key and its item -/
def keyPr : D → Option (Key × D)
  | .tup [k, v] => (keyD k).map fun q => (q, v)
  | _ => none
def keyPrs : List D → Option (List (Key × D))
  | [] => some []
  | d :: ds => match keyPr d, keyPrs ds with | some p, some ps => some (p :: ps) | _, _ => none
def RDict : RAd := fun ds M Q => match ds with
  | [.tup xs] => ∃ kvs, keyPrs xs = some kvs ∧ ∀ p, M p = none → Q (.ref p) (updM M p (.dK (mergeD [] kvs)))
  | _ => False
theorem mergeD_length (more : List (Key × D)) : ∀ kvs : List (Key × D), (mergeD kvs more).length ≤ kvs.length + more.length := by
  induction more with
  | nil => intro kvs; exact Nat.le_refl _
  | cons p r ih =>
    intro kvs
    refine Nat.le_trans (ih (putD kvs p.1 p.2)) ?_
    have := putD_length kvs p.1 p.2
    simp only [List.length_cons]; omega
section
variable {K : PySem.W.Frag} {H : Hp}
theorem RKV.merge {more : List (Key × D)} {ms : List (Key × V)} (r : RKV K H more ms) : ∀ {kvs : List (Key × D)} {ws : List (Key × V)}, RKV K H kvs ws → RKV K H (mergeD kvs more) (mergeK ws ms) := by
  induction r with
  | nil => intro _ _ q; exact q
  | cons h t ih =>
    rename_i p q _ _
    intro kvs ws k
    have e := k.put (k := p.1) h.2
    have z : RKV K H (putD kvs p.1 p.2) (putK ws q.1 q.2) := by rw [← h.1]; exact e
    exact ih z
theorem keyPr_inv {d : D} {k : Key} {x : D} (h : keyPr d = some (k, x)) : ∃ c, d = .tup [c, x] ∧ keyD c = some k := by
  unfold keyPr at h
  split at h
  · rename_i c x'
    obtain ⟨q, e1, e2⟩ := Option.map_eq_some_iff.mp h
    cases e2
    exact ⟨c, rfl, e1⟩
  · cases h
/-- the pairs, where they stand -/
theorem pairs_there : ∀ {xs : List D} {vs : List V} {kvs : List (Key × D)}, keyPrs xs = some kvs → Reps K H xs vs →
    ∃ (ps : List Addr) (ws : List (Key × V)), vs = ps.map V.ref ∧ RKV K H kvs ws ∧ Paired (fun p kv => SqT K H p [kV kv.1, kv.2]) ps ws
  | [], vs, kvs, h, r => by cases h; cases r; exact ⟨[], [], rfl, .nil, .nil⟩
  | d :: ds, vs, kvs, h, ⟨v, w, e, r1, r2⟩ => by
    unfold keyPrs at h
    split at h
    · rename_i p ps e1 e2
      cases h
      obtain ⟨k, x⟩ := p
      obtain ⟨c, rfl, hk⟩ := keyPr_inv e1
      obtain ⟨qs, ws, rfl, rk, pp⟩ := pairs_there e2 r2
      obtain ⟨a, us, rfl, t, q⟩ := r1
      obtain ⟨y, z, rfl, q1, q2⟩ := reps2 q
      obtain rfl := rep_key hk q1
      exact ⟨a :: qs, (k, z) :: ws, e, .cons ⟨rfl, q2⟩ rk, .cons t.q pp⟩
    · cases h
end
section
variable {X : Cx}
theorem prs_of {pins : List (Addr × Obj)} {σ : L2.St} {H : Hp} {s : Shared} (I : L2.Inv X pins σ H s) {ps : List Addr} {ws : List (Key × V)} (h : Paired (fun p kv => SqT X.K H p [kV kv.1, kv.2]) ps ws) :
    ∃ prs : List (Value × Value), prs.length = ps.length ∧ PySem.PairItems s.heap (ps.map Value.ref).toArray (fun j => ps.getD j 0) prs ∧ ∃ kvs : List (Key × Value), KV ws kvs ∧ PairsHave (mixKind X.prog X.w) prs.length (PairRel prs) kvs := by
  have base : ∃ (prs : List (Value × Value)) (kvs : List (Key × Value)), prs.length = ps.length ∧ KV ws kvs ∧ kvs.length = prs.length ∧ (∀ (j : Nat) (k v : Value), prs[j]? = some (k, v) → ∃ b, ps[j]? = some b ∧ PairAt s.heap b k v) ∧
      ∀ (j : Nat) (k v : Value), prs[j]? = some (k, v) → ∃ q, kvs[j]? = some (q, v) ∧ (mixKind X.prog X.w).is q k = true := by
    induction h with
    | nil => exact ⟨[], [], rfl, .nil, rfl, fun j k v e => by simp at e, fun j k v e => by simp at e⟩
    | cons hh t ih =>
      rename_i p kv _ _
      obtain ⟨prs, kvs, e1, e2, e3, e4, e5⟩ := ih
      obtain ⟨its, rv, ⟨o, ho, hc, n, hd⟩, _⟩ := I.tuple hh
      obtain ⟨u, y, ei, ru, ry⟩ := vals2 rv
      subst ei
      refine ⟨(u, y) :: prs, (kv.1, y) :: kvs, by simp [e1], .cons ⟨rfl, ry⟩ e2, by simp [e3], fun j k v e => ?_, fun j k v e => ?_⟩
      · cases j with
        | zero => cases (show (u, y) = (k, v) by simpa using e); exact ⟨p, rfl, .inl ⟨o, ho, hc, n, hd⟩⟩
        | succ j => obtain ⟨b, h1, h2⟩ := e4 j k v (by simpa using e); exact ⟨b, by simpa using h1, h2⟩
      · cases j with
        | zero => cases (show (u, y) = (k, v) by simpa using e); exact ⟨kv.1, rfl, kV_is ru⟩
        | succ j => obtain ⟨b, h1, h2⟩ := e5 j k v (by simpa using e); exact ⟨b, by simpa using h1, h2⟩
  obtain ⟨prs, kvs, e1, e2, e3, e4, e5⟩ := base
  refine ⟨prs, e1, ⟨by simp [e1], fun j k v e => ?_⟩, kvs, e2, e3, fun i key v e => e5 i key v e⟩
  obtain ⟨b, h1, h2⟩ := e4 j k v e
  have h3 : ps.getD j 0 = b := by rw [List.getD_eq_getElem?_getD, h1]; rfl
  exact ⟨by simp [h1], by show PairAt s.heap (ps.getD j 0) k v; rw [h3]; exact h2⟩
theorem cd_dict (hcalm : X.calm = true) : CallD X (.type "dict") RDict := by
  intro pins s σ H M vs us ds Q0 Q I m h1 rv h2 c
  unfold RDict at h2
  split at h2
  · rename_i xs
    obtain ⟨kvs, hk, h3⟩ := h2
    obtain ⟨v, rfl, a, ws, rfl, t, q⟩ := reps1 h1
    obtain ⟨u, rfl, ru⟩ := vals1 rv
    cases ru
    obtain ⟨ps, wk, rfl, rk, pp⟩ := pairs_there hk q
    obtain ⟨o', t', hd0⟩ := t
    obtain ⟨ho', hz, its, rv2, ⟨o, ho, hc, n, hd⟩⟩ := I.hok a _ t'
    cases ho'.symm.trans ho
    have ei := refs_at rv2
    subst ei
    obtain ⟨prs, hl, pi, kv, rel, ph⟩ := prs_of I pp
    have hlen : prs.length ≤ sizeLine := by rw [hl]; simpa using hz
    refine PySem.call_dict_pairs (PairArg.tuple a _ _ prs) (I.ok.hd hcalm) ⟨⟨_, n, ho', hc, hd0, hd⟩, pi⟩ ph hlen fun h' tk hd' k => ?_
    have hm : (s.heap.objs.size == sysModules) = false := beq_eq_false_iff_ne.mpr (Nat.ne_of_gt I.big)
    have hlw : (mergeK [] wk).length ≤ sizeLine := by
      refine Nat.le_trans (length_mergeK wk []) ?_
      rw [List.length_nil, Nat.zero_add, rel.length, ph.1]
      exact hlen
    have hn : H s.heap.objs.size = none := I.hok.fresh (Nat.le_refl _)
    exact ⟨.ref s.heap.objs.size, upd H s.heap.objs.size (.dK (mergeK [] wk)), I.laid (t' := tk) (fun b u e => k b u (by simp) e) (Nat.le_refl _) (show ObjOk X.prog X.w _ _ _ (.dK (mergeK [] wk)) from ⟨hlw, hm, merged [] kv, KV.merge rel .nil, hd'⟩), rfl,
      c _ _ _ _ (h3 _ (m.fresh hn)) (Stp.new hn) (m.new hn ⟨_, upd_same, RKV.mono (Pst.new hn) (rk.merge .nil)⟩) rfl⟩
  · exact h2.elim
end
/-! ### set(list of ints), sorted(set), sorted(dict) -/
def ded : List Int → List Int
  | [] => []
  | x :: r => if x ∈ r then ded r else x :: ded r
theorem ded_mem {k : Int} : ∀ {ns : List Int}, k ∈ ded ns ↔ k ∈ ns
  | [] => Iff.rfl
  | x :: r => by
    unfold ded
    split
    · rename_i h
      rw [ded_mem, List.mem_cons]
      exact ⟨.inr, fun q => q.elim (fun e => e ▸ h) id⟩
    · rw [List.mem_cons, List.mem_cons, ded_mem]
theorem ded_nodup : ∀ ns : List Int, (ded ns).Nodup
  | [] => List.nodup_nil
  | x :: r => by
    unfold ded
    split
    · exact ded_nodup r
    · rename_i h
      exact List.nodup_cons.mpr ⟨fun q => h (ded_mem.mp q), ded_nodup r⟩
/-- the members in order, each once -/
def uniqI (ns : List Int) : List Int := sortI (ded ns)
theorem uniqI_mem {k : Int} {ns : List Int} : k ∈ uniqI ns ↔ k ∈ ns := ((sortI_perm _).mem_iff).trans ded_mem
theorem uniqI_lt (ns : List Int) : (uniqI ns).Pairwise (· < ·) := by
  have h1 := sortI_le (ded ns)
  have h2 : (sortI (ded ns)).Nodup := (sortI_perm (ded ns)).nodup_iff.mpr (ded_nodup ns)
  exact (h1.and h2).imp fun {a b} ⟨h, n⟩ => by omega
theorem lt_uniq {l m : List Int} (hl : l.Pairwise (· < ·)) (hm : m.Pairwise (· < ·)) (h : ∀ k, k ∈ l ↔ k ∈ m) : l = m := by
  have n1 : l.Nodup := hl.imp fun h => by omega
  have n2 : m.Nodup := hm.imp fun h => by omega
  exact sorted_uniq (hl.imp fun h => by omega) (hm.imp fun h => by omega) ((List.perm_ext_iff_of_nodup n1 n2).mpr h)
theorem setR_size {w : World} {h : Heap} {a : Addr} {S : Int → Bool} {n : Nat} (R : SetR w h a S n) {ns : List Int} (nd : ns.Nodup) (hm : ∀ k, S k = true ↔ k ∈ ns) : n = ns.length := by
  obtain ⟨o, es, ep, t, _, _, _, _, nd', hm', _, _, e, _⟩ := R
  have p : (es.toList.map keyOf).Perm ns := (List.perm_ext_iff_of_nodup nd' nd).mpr fun k => (hm' k).symm.trans (hm k)
  rw [← e, ← p.length_eq]; simp
section
variable {X : Cx}
def RSetOf (w : World) : RAd := fun ds M Q => match ds with
  | [.ref a] => ∃ ns : List Int, M a = some (.lst (ns.map .int)) ∧ ns.length < 1000 ∧ ∀ p, M p = none → Q (.ref p) (updM M p (.set w (uniqI ns)))
  | _ => False
theorem intsAre_map : ∀ {ns : List Int} {us : List Value}, Vals (ns.map V.int) us → IntsAre us ns := fun r => intsAre_of r
theorem cd_setOf (hcalm : X.calm = true) : CallD X (.type "set") (RSetOf X.w) := by
  intro pins s σ H M vs us ds Q0 Q I m h1 rv h2 c
  unfold RSetOf at h2
  split at h2
  · obtain ⟨ns, h3, h4, h5⟩ := h2
    obtain ⟨v, rfl, z⟩ := reps1 h1
    obtain ⟨ws, eH, q⟩ := m.lst h3
    rw [show v = .ref _ from z] at rv
    rw [q.ints_eq] at eH
    rw [Vals.ref1 rv]
    obtain ⟨its, r, pl, hz⟩ := I.list (.of eH)
    have hb : ns.length + 1 < scanBound := Nat.lt_of_lt_of_le (Nat.succ_lt_succ h4) (by decide)
    refine set_listI ns (I.ok.hd hcalm) pl.isList (intsAre_map r) hb fun h' tk cn R hle k => ?_
    have hn : H s.heap.objs.size = none := I.hok.fresh (Nat.le_refl _)
    have e1 : cn = (uniqI ns).length := setR_size R ((uniqI_lt ns).imp fun h => by omega) fun k => by simp [uniqI_mem]
    have e2 : SetR X.w h' s.heap.objs.size (fun j => decide (j ∈ uniqI ns)) (uniqI ns).length := by
      rw [← e1]; exact R.congr fun j => by simp [uniqI_mem]
    exact ⟨.ref _, _, I.laid (t' := tk) k (Nat.le_refl _) (setO_new e2), rfl, c _ _ _ _ (h5 _ (m.fresh hn)) (Stp.new hn) (m.new hn upd_same) rfl⟩
  · exact h2.elim
def RSortS (w : World) : RAd := fun ds M Q => match ds with
  | [.ref a] => ∃ ns : List Int, M a = some (.set w ns) ∧ ns.length < 64 ∧ ns.Pairwise (· < ·) ∧ ∀ p, M p = none → Q (.ref p) (updM M p (.lst (ns.map .int)))
  | _ => False
theorem cd_sortS (hcalm : X.calm = true) : CallD X (.builtin "sorted") (RSortS X.w) := CallD.of (cr_sortedSet hcalm) fun H M vs ds Q0 Q m h1 h2 c => by
  unfold RSortS at h2
  split at h2
  · obtain ⟨ns, h3, h4, h5, h6⟩ := h2
    obtain ⟨v, rfl, z⟩ := reps1 h1
    have eH : H _ = some (SetO X.w _ _ _) := m _ _ h3
    rw [show v = .ref _ from z]
    refine ⟨_, _, _, rfl, eH, h4, fun ns' p g1 g2 g3 hn => ?_⟩
    have e : ns' = ns := lt_uniq g1 h5 fun k => by rw [g2 k]; simp
    subst e
    exact c _ _ _ _ (h6 p (m.fresh hn)) (Stp.new hn) (m.new hn ⟨_, upd_same, Reps.ints⟩) rfl
  · exact h2.elim
def RSortD : RAd := fun ds M Q => match ds with
  | [.ref a] => ∃ kvs, M a = some (.dK kvs) ∧ ∃ ks : List Int, kvs.map (·.1) = ks.map Sum.inl ∧ ks.length < 64 ∧ ∀ p, M p = none → Q (.ref p) (updM M p (.lst ((sortI ks).map .int)))
  | _ => False
theorem cd_sortD (hcalm : X.calm = true) : CallD X (.builtin "sorted") RSortD := CallD.of (call_sortedDI hcalm) fun H M vs ds Q0 Q m h1 h2 c => by
  unfold RSortD at h2
  split at h2
  · obtain ⟨kvs, h3, ks, h4, h5, h6⟩ := h2
    obtain ⟨v, rfl, z⟩ := reps1 h1
    obtain ⟨ws, eH, rk⟩ := m _ _ h3
    rw [show v = .ref _ from z]
    refine ⟨_, ws, ks, rfl, .inl eH, rk.keysNe.symm.trans h4, h5, fun ys p g1 g2 hn => ?_⟩
    have e : ys = sortI ks := sorted_uniq g2 (sortI_le ks) (g1.trans (sortI_perm ks).symm)
    subst e
    exact c _ _ _ _ (h6 p (m.fresh hn)) (Stp.new hn) (m.new hn ⟨_, upd_same, Reps.ints⟩) rfl
  · exact h2.elim
end
/-! ### t[::-1], name op= e -/
section
variable {X : Cx} {x : Xw} {e : Expr} {Te : TEd} {pos : Pos}
def TRev (Te : TEd) : TEd := fun δ M Q => Te δ M fun d M1 => match d with | .tup ds => Q (.tup ds.reverse) M1 | _ => False
theorem de_rev {k : Nat} {p1 p2 p3 : Pos} (he : DE X x e Te) : DE X x (.Subscript e (.Slice none none (some (.UnaryOp .USub (.Constant (.int 1) k p1) p2)) p3) pos) (TRev Te) :=
  PE.cv (pe_revT he) fun σ H Q ⟨δ, M, Q0, r, h, c⟩ => ⟨δ, M, _, r, h, fun d M1 v H1 q s1 m1 e1 => by
    cases d with
    | tup ds =>
      obtain ⟨a, vs, rfl, t, q1⟩ := e1
      exact ⟨a, vs, rfl, t.q, fun p us hn => c _ _ _ _ q (s1.trans (Stp.newU hn)) (m1.newU hn) (Rep.newtup hn q1.reverse)⟩
    | _ => exact q.elim⟩
def TAug (i : Nat) (f : Int → Int → Int) (Te : TEd) : TSd := fun E δ M => match δ[i]? with
  | some (some (.int k)) => Te δ M fun d M1 => match d with | .int j => E.nx (δ.set i (some (.int (f k j)))) M1 | _ => False
  | _ => False
theorem ds_aug {i : Nat} {n : Str} {op : Operator} {f : Int → Int → Int} {pos' : Pos} (hN : X.N.Nodup) (ho : PIp X op (ipI f)) (he : DE X x e Te) (hi : X.N[i]? = some n := by rfl) (hx : Loc X.env.scope n := by first | exact Or.inl rfl | exact Or.inr rfl)
    (hf : X.fn n = true ∨ X.env.scope.names.lookup n = some .local := by first | exact .inl rfl | exact .inr rfl | assumption) : DS X x (.AugAssign (.Name n pos') op e pos) (TAug i f Te) :=
  PS.cv (ps_aug hN hi hx he ho hf) fun D σ H ⟨δ, M, E, r, h, c⟩ => by
    unfold TAug at h
    split at h
    · rename_i k e0
      obtain ⟨v, e1, e2⟩ := r.s.at_ i _ e0
      refine ⟨v, e1, δ, M, _, r, h, fun d M1 u H1 q s1 m1 e3 => ?_⟩
      cases d with
      | int j => exact ⟨k, j, e2, e3, c.nx _ M1 _ H1 q s1 m1 ((r.s.mono (s1.pst r.m)).set i rfl)⟩
      | _ => exact q.elim
    · exact h.elim
end
end L3
set_option Elab.async false
set_option autoImplicit false
set_option linter.all false
set_option maxRecDepth 100000
set_option maxHeartbeats 4000000
/-! L3, ninth part: calls with keywords and defaults; a display with a tuple as the key. -/
namespace L3
open PySem PySem.Spec PyProof.Rows L2
/-! ### calls that name arguments, or leave defaults -/
abbrev DK (X : Cx) (x : Xw) (kws : List Keyword) (T : TAd) : Prop := PK X kws (liA X.K x T)
theorem PK.cv {X : Cx} {kws : List Keyword} {t u : TA} (h : PK X kws t) (c : ∀ σ H Q, u σ H Q → t σ H Q) : PK X kws u := ⟨fun pos pins s σ H Q I q => h.run pos pins s σ H Q I (c σ H Q q)⟩
section
variable {X : Cx} {x : Xw} {kpos : Pos} {nm : Option Str}
theorem dk_nil : DK X x [] TNil := PK.cv pk_nil fun σ H Q ⟨δ, M, Q0, r, h, c⟩ => c [] M [] H h Stp.refl r.m rfl
theorem dk_cons {e : Expr} {kws : List Keyword} {Ta : TEd} {Tr : TAd} (ha : DE X x e Ta) (hr : DK X x kws Tr) : DK X x (⟨nm, e, kpos⟩ :: kws) (TCons Ta Tr) :=
  PK.cv (pk_cons ha hr) fun σ H Q ⟨δ, M, Q0, r, h, c⟩ =>
    ⟨δ, M, _, r, h, fun d M1 v H1 q s1 r1 e1 => ⟨δ, M1, _, r.step s1 r1, q, fun ds M2 vs H2 q2 s2 r2 e2 => c (d :: ds) M2 (v :: vs) H2 q2 (s1.trans s2) r2 (Reps.cons (e1.mono (s2.pst r1)) e2)⟩⟩
variable {CX : CXT} {k : Nat} {f C : Addr} {fd : FuncData} {ps ks : List Str} {S : SpD} {n : Str} {m : Nat} {p pos : Pos} {e : Expr} {es : List Expr} {kws : List Keyword} {T Tk : TAd} {g : List Value → List Value → List Value} {gV : List V → List V → List V} {gD : List D → List D → List D}
/-- the data in the parameters' order goes with the values -/
def GoesG (K : PySem.W.Frag) (gD : List D → List D → List D) (gV : List V → List V → List V) : Prop := ∀ (H : Hp) (ds es : List D) (vs zs : List V), Reps K H ds vs → Reps K H es zs → Reps K H (gD ds es) (gV vs zs)
def TCallN (m j : Nat) (S : SpD) (gD : List D → List D → List D) (T Tk : TAd) : TEd := fun δ M Q => T δ M fun ds M1 => Tk δ M1 fun es M2 => ds.length = m ∧ es.length = j ∧ S (gD ds es) M2 Q X0
theorem run_fnGN {E : XK} {sp : Sp} {pins : List (Addr × Obj)} {σ : L2.St} {H : Hp} {s : Shared} {Q : VK} {us ws : List Value} {vs zs : List V} (F : FnG X.prog X.w X.K X.mg X.base CX k f fd ps sp) (hgd : X.A.guards = some []) (hr : Room k X.A) (hb : KBn X.K fd ps m ks g gV) (hx : Passes CX X E)
    (I : Inv X pins σ H s) (r : Vals vs us) (rz : Vals zs ws) (l1 : vs.length = m) (l2 : zs.length = ks.length) (h : sp (gV vs zs) H Q E) : wpAny (model X.prog X.w) X.A (call (.ref f) us (ks.zip ws)) (EP X pins σ Q) X.xe s := by
  refine wpAny_call (codeAny_mono (F.run X.A X.stack s H ⟨us, ks.zip ws⟩ (g us ws) (gV vs zs) Q E hgd hr I.env0 (hb.to s us ws I.kIn (r.length.symm.trans l1) (rz.length.symm.trans l2)) (hb.rel r rz) h) fun r s' hq => ?_)
  cases r with
  | error e => exact hx pins σ H s e s' I hq
  | ok fl =>
    cases fl with
    | ret u => exact I.after hq
    | next => exact False.elim hq
    | brk => exact False.elim hq
    | cont => exact False.elim hq
theorem de_callN (F : FnG X.prog X.w X.K X.mg X.base CX k f fd ps (liSp X.K S)) (hgd : X.A.guards = some []) (hr : Room k X.A) (hm : X.mg n = some (.ref f)) (hk : PySem.W.keepIn X.K (.ref f) = true) (hb : KBn X.K fd ps m ks g gV) (hD : GoesG X.K gD gV) (hx : Passes CX X EF)
    (ha : DA X x (e :: es) T) (hkw : DK X x kws Tk) (hg : Gl X n := by rfl) (hall : (backToKw pos (keywordEach kws X.env)).all (·.1.isSome) = true := by rfl) (hks : (backToKw pos (keywordEach kws X.env)).filterMap (·.1) = ks := by rfl)
    (hdb : (n == ("__debug__" : Str)) = false := by decide) (he : starEach (e :: es) X.env = (false, eval e X.env) :: starEach es X.env := by rfl)
    (hpl : ((backTo pos (starEach (e :: es) X.env)).any (·.1) || (backToKw pos (keywordEach kws X.env)).any (·.1.isNone)) = false := by rfl) :
    DE X x (.Call (.Name n p) (e :: es) kws pos) (TCallN m ks.length S gD T Tk) := by
  refine ⟨fun pins s σ H Q I ⟨δ, M, Q0, r, h, c⟩ => ?_⟩
  refine wpAny_Call_Name_kw (ld_glob I hg hm ?_ hdb)
  refine PySem.W.callWith_KW (h₀ := X.base) I.ok.mod.kin hk hall (thn (ha.run pos pins s σ H (fun vs H1 => ∃ M1 ds, Tk δ M1 (fun es M2 => ds.length = m ∧ es.length = ks.length ∧ S (gD ds es) M2 Q0 X0) ∧ Stp H M H1 M1 ∧ RepM X.K H1 M1 ∧ Reps X.K H1 ds vs) I ⟨δ, M, _, r, h, fun ds M1 vs H1 q s1 m1 e1 => ⟨M1, ds, q, s1, m1, e1⟩⟩) fun us s1 ⟨vs, H1, I1, rv, M1, ds, q1, t1, m1, e1⟩ => ?_) hpl he
  refine thn (hkw.run pos pins s1 σ H1 (fun zs H2 => ∃ M2 es, es.length = ks.length ∧ ds.length = m ∧ S (gD ds es) M2 Q0 X0 ∧ Stp H1 M1 H2 M2 ∧ RepM X.K H2 M2 ∧ Reps X.K H2 es zs) I1 ⟨δ, M1, _, r.step t1 m1, q1, fun es M2 zs H2 ⟨a1, a2, a3⟩ s2 m2 e2 => ⟨M2, es, a2, a1, a3, s2, m2, e2⟩⟩) fun ws s2 ⟨zs, H2, I2, rz, M2, es, l2, l1, q2, t2, m2, e2⟩ => ⟨I2.kIn, ?_⟩
  rw [hks]
  have e1' := e1.mono (t2.pst m1)
  exact run_fnGN F hgd hr hb hx I2 rv rz (e1'.length.trans l1) (e2.length.trans l2) ⟨gD ds es, M2, Q0, X0, hD H2 ds es vs zs e1' e2, m2, q2, c.step (t1.trans t2), CqX.zero⟩
end
/-! ### {t: v}, t a tuple -/
section
variable {X : Cx} {x : Xw} {e f : Expr} {Te Tf : TEd} {pos : Pos}
def tDispT (t u : TE) : TE := fun σ H Q => ∀ p, H p = none → tPairs [(t, u)] σ (upd H p (.dT [])) fun ps H2 => ∃ (b : Addr) (z : V) (k : List Key), ps = [(.ref b, z)] ∧ H2 p = some (.dT []) ∧ H2 b = some (.tup (k.map kV)) ∧ Q (.ref p) (upd H2 p (.dT [(k, z)]))
theorem pe_dispT {t u : TE} (hu : X.A.units + 2 < cLine) (he : PE X e t) (hf : PE X f u) : PE X (.Dict [some e] [f] pos) (tDispT t u) := by
  refine ⟨fun pins s σ H Q I q => ?_⟩
  have hn := I.hok.fresh (Nat.le_refl s.heap.objs.size)
  have I1 := I.laid (a := s.heap.objs.size) (o := .dT []) (h' := s.heap.push { cls := .type "dict", data := .dict #[] }) (t' := s.toks) (fun _ _ q => Heap.get?_push_of_some _ q) (Nat.le_refl _) (dt_empty s.heap I.big)
  rw [arm_eval_Dict, zip_pairTrees [some e] [f] X.env pos rfl rfl, dictDisplay_pairs _ (by intro z; cases z) (by show 1 < 17; decide)]
  refine wpAny_bind (wpAny_standAt (wpAny_bind (wpAny_subDictH (knd := tupleKind (mixKind X.prog X.w)) (Q := fun d s' => wpAny (model X.prog X.w) X.A (pure (Value.ref d)) (EP X pins σ Q) X.xe s') (show X.A.units < cLine by omega) (by show 1 ≤ 15; decide) ?_)))
  refine thn ((pps_cons (pos := pos) he hf pps_nil).run pins _ σ _ _ I1 (q _ hn)) fun ws s2 ⟨ps, H2, I2, rel, b, z, k, ep, ed, eb, q2⟩ => ?_
  subst ep
  obtain ⟨⟨u1, u2⟩, rfl, ry, rz⟩ : ∃ w2, ws = [w2] ∧ RelV (.ref b) w2.1 ∧ RelV z w2.2 := by
    cases rel with
    | cons r1 r2 => cases r2; exact ⟨_, rfl, r1⟩
  cases (show u1 = Value.ref b from ry)
  obtain ⟨z0, hd, xs0, r0, dd⟩ := dt_of I2.hok ed
  cases r0
  refine ⟨[(k, b, u2)], ⟨rfl, rfl, key_of I2.hok eb, trivial⟩, dd, fun h' tk dd' hs => wpAny_pure ?_⟩
  obtain ⟨o', es, ep, hq, h2, h3, h4, _, h5⟩ := dd'
  have hz : ([(k, z)] : List (List Key × V)).length ≤ sizeLine := by show 1 ≤ sizeLine; decide
  have hb' : b ≠ s.heap.objs.size := fun e => by rw [e, ed] at eb; cases eb
  exact ⟨.ref s.heap.objs.size, _, d_write (ob := .dT [(k, z)]) (t' := tk) I2 (by rw [ed]; exact True.intro) hs ⟨o', hq⟩ ⟨hz, hd, [(k, b, u2)], .cons ⟨rfl, by rw [upd_ne hb']; exact eb, rz⟩ .nil, o', es, ep, hq, h2, h3, h4, h5⟩, rfl, q2⟩
def TDispT (T U : TEd) : TEd := fun δ M Q => ∀ p, M p = none → T δ (updM M p (.dT [])) fun d M1 => U δ M1 fun v M2 => M2 p = some (.dT []) ∧ ∃ k, keyT d = some k ∧ Q (.ref p) (updM M2 p (.dT [(k, v)]))
theorem de_dispT (hu : X.A.units + 2 < cLine) (he : DE X x e Te) (hf : DE X x f Tf) : DE X x (.Dict [some e] [f] pos) (TDispT Te Tf) :=
  PE.cv (pe_dispT hu he hf) fun σ H Q ⟨δ, M, Q0, r, h, c⟩ p hp => by
    have s0 : Stp H M (upd H p (.dT [])) (updM M p (.dT [])) := Stp.new hp
    have m0 : RepM X.K (upd H p (.dT [])) (updM M p (.dT [])) := r.m.new hp ⟨[], upd_same, .nil⟩
    refine ⟨δ, _, _, r.step s0 m0, h p (r.m.fresh hp), fun d M1 v H1 q1 s1 m1 e1 => ⟨δ, M1, _, (r.step s0 m0).step s1 m1, q1, fun y M2 z H2 ⟨hq, k, hk, q2⟩ s2 m2 e2 => ?_⟩⟩
    obtain ⟨ws, eH, rk⟩ := m2 p _ hq
    cases rk
    cases d with
    | utup ds =>
      obtain ⟨b, vs, rfl, t, q⟩ := e1.mono (s2.pst m1)
      rw [rep_keys hk q] at t
      have s3 : Stp H2 M2 (upd H2 p (.dT [(k, z)])) (updM M2 p (.dT [(k, y)])) := Stp.wr hq
      exact ⟨b, z, k, rfl, eH, t, c _ _ _ _ q2 (((s0.trans s1).trans s2).trans s3) (m2.wr hq ⟨_, upd_same, .cons ⟨rfl, e2.mono (s3.pst m2)⟩ .nil⟩) rfl⟩
    | _ => cases hk
end
end L3
set_option Elab.async false
set_option autoImplicit false
set_option linter.all false
set_option maxRecDepth 100000
set_option maxHeartbeats 4000000
/-! L3: the law's end. -/
namespace L3
open PySem PySem.Spec PyProof.Rows L2
theorem only_none {H : Hp} {K : PySem.W.Frag} (h : Only H) : RepM K H fun _ => none := fun _ _ e => by cases e
/-- the law's promise at the heap behind the top -/
theorem law_callD {P : Program} {w : World} {K : PySem.W.Frag} {mg mb : Str → Option Value} {CX : CXT} {k : Nat} {fa a : Addr} {fd : FuncData} {x : Str} {S : SpD} {s₁ : Shared} {vs : List Value} {ns : List Int}
    (KX : K.In s₁.heap) (hns : s₁.heap.Ns mainGlobals mg) (hb : s₁.heap.Ns builtinsNs mb) (hbb : ∀ x : Str, x ≠ "__name__" → mb x = bootBuiltins x) (hlim : s₁.heap.NoLimit) (hg : s₁.gens = #[])
    (ha : s₁.heap.get? a = some { cls := .type "list", data := .seq vs.toArray }) (hi : IntsAre vs ns) (hl : ns.length ≤ sizeLine) (hr : Room k callerA)
    (F : ∀ base : Heap, K.In base → base.Ns mainGlobals mg → FnG P w K mg base CX k fa fd [x] (liSp K S)) (hbind : ∀ (s : Shared) (u : Value), BindsTo s fd ⟨[u], []⟩ [(x, u)])
    (hsp : S [.frl (ns.map .int)] (fun _ => none) (fun d _ => d = .bl true) X0)
    (hCX : ∀ H e s', CX [] H s₁ (fun _ _ _ => False) e s' → False) :
    codeAny (model P w) callerA (.call (.ref fa) ⟨[.ref a], []⟩) (fun r s' => r = .ok (.ret (.bool true)) ∧ OldK s₁.heap s'.heap ∧ s'.os = s₁.os ∧ AllBare s'.gens) s₁ := by
  have rv := vals_ints hi
  have lenV := hi.length
  have core : ∀ H : Hp, Only H → SqF K H a (ns.map V.int) → HOk P w H s₁.heap → (∀ b, H b ≠ none → b = a) → (H a ≠ none → K.lookup a = none) →
      codeAny (model P w) callerA (.call (.ref fa) ⟨[.ref a], []⟩) (fun r s' => r = .ok (.ret (.bool true)) ∧ OldK s₁.heap s'.heap ∧ s'.os = s₁.os ∧ AllBare s'.gens) s₁ := by
    intro H hO hS hok hA hK
    have isA : ∀ {b : Addr} {u : HO}, H b = some u → b = a := fun {b u} q => hA b (by rw [q]; simp)
    have noA : ∀ {b : Addr} {o : Obj} {es : Array DictEntry} {ep : Nat}, s₁.heap.get? b = some o → o.data = .dict es ep → H b = none := fun {b o es ep} e d => by
      cases q : H b with
      | none => rfl
      | some u =>
        cases isA q
        rw [ha] at e; cases e
        have d' : Data.seq vs.toArray _ = Data.dict es ep := d
        cases d'
    have nsK : ∀ {b : Addr} {m : Str → Option Value}, s₁.heap.Ns b m → (hidT s₁.heap H).Ns b m := fun {b m} ⟨o, es, ep, e, d, r⟩ => ⟨o, es, ep, hidT_get e (noA e d), d, r⟩
    have hKb : K.In (hidT s₁.heap H) := fun b o e => hidT_get (KX b o e) (by
      cases q : H b with
      | none => rfl
      | some u =>
        cases isA q
        rw [hK (by rw [q]; simp)] at e; cases e)
    have hM : Mod K mg (hidT s₁.heap H) := ⟨hKb, nsK hns, ⟨mb, nsK hb, hbb⟩, let ⟨mc, h1, h2⟩ := hlim; ⟨mc, nsK h1, h2⟩⟩
    have none_ : ∀ b : Addr, ¬ b ∈ ([] : List Addr) := fun b z => by cases z
    have e0 : Env0 P w K mg (hidT s₁.heap H) callerA [] s₁ H := ⟨rfl, hM, fun b o e => of_hidT e, Nat.le_of_eq (hidT_size _ _), trivial, fun b z => absurd z (none_ b), hok, .of_eq hg⟩
    have sp : liSp K S [.ref a] H (fun v _ => v = .bl true) fun _ _ _ => False :=
      ⟨_, fun _ => none, _, X0, Reps.cons (d := .frl (ns.map .int)) ⟨a, _, rfl, hS, Reps.ints⟩ Reps.nil, only_none hO, hsp, fun d M' v H' q _ _ e => by cases q; exact e, CqX.zero⟩
    refine codeAny_mono ((F _ hKb (nsK hns)).run callerA [] s₁ H ⟨[.ref a], []⟩ [.ref a] [.ref a] _ _ rfl hr e0 (hbind s₁ (.ref a)) (.cons rfl .nil) sp) fun r s' h => ?_
    cases r with
    | error e => exact (hCX H e s' h).elim
    | ok fl =>
      cases fl with
      | next => exact False.elim h
      | brk => exact False.elim h
      | cont => exact False.elim h
      | ret u =>
        obtain ⟨v, H', os, bare, un, hok', r', q⟩ := h
        cases (show v = .bl true from q)
        obtain rfl : u = Value.bool true := r'
        refine ⟨rfl, OldK.of_keep fun b o e => ?_, os, bare⟩
        rcases hO b with z | ⟨ob, xs, z⟩
        · exact un.keep b o e z (none_ b) (none_ b)
        · obtain ⟨e1, _⟩ := hok b _ z
          obtain ⟨e2, _⟩ := hok' b _ (un.frzs b ob _ z)
          cases e.symm.trans e1
          exact e2
  cases hk : K.lookup a with
  | some o =>
    have e := KX a o hk
    rw [ha] at e
    cases e
    exact core (fun _ => none) (fun _ => .inl rfl) (.inr ⟨_, vs.toArray, _, hk, rfl, rfl, rfl, by rw [List.size_toArray, lenV]; exact hl, by simpa using rv⟩) (fun b u z => by have z' : (none : Option HO) = some u := z; cases z') (fun b z => absurd rfl z) fun z => absurd rfl z
  | none =>
    refine core (fun b => if b = a then some (.frz { cls := .type "list", data := .seq vs.toArray } (.lst (ns.map V.int))) else none) (fun b => ?_) (.inl ⟨_, if_pos rfl⟩) (fun b u z => ?_) (fun b z => ?_) fun _ => hk
    · by_cases hb : b = a
      · exact .inr ⟨_, _, if_pos hb⟩
      · exact .inl (if_neg hb)
    · by_cases hb : b = a
      · cases (if_pos hb).symm.trans z
        subst hb
        exact ⟨ha, by rw [List.length_map]; exact hl, vs, _, rv, ha⟩
      · cases (if_neg hb).symm.trans z
    · by_cases hb : b = a
      · exact hb
      · exact absurd (if_neg hb) z
/-- what the head leaves, from the law's promise: a script of at most 63 ints, each of at most 2^20 bits -/
theorem walk_D {l : PySem.W.OpenLaw} {k : Nat} {q : Program} {loose : List Str} {XP : (Str → Option Value) → Heap → Prop} {YP : World → Heap → Prop} {d : DefRec} {K : Params → PySem.W.Frag} {S : World → SpD} {x : Str}
    (hn : l.most = some 63) (hdf : d.params.defaults = []) (hr : Room k callerA)
    (hY : ∀ (w : World) (h : Heap), YP w h → (K w.params).In h)
    (F : ∀ (w : World) (mg : Str → Option Value) (fa : Addr) (h : Heap), (K w.params).In h → h.Ns mainGlobals mg → mg d.name = some (.ref fa) →
      ∃ fd : FuncData, (∀ (s : Shared) (u : Value), BindsTo s fd ⟨[u], []⟩ [(x, u)]) ∧
        ∀ base : Heap, (K w.params).In base → base.Ns mainGlobals mg → FnG l.prog w (K w.params) mg base CX0 k fa fd [x] (liSp (K w.params) (S w)))
    (hsp : ∀ (w : World) (ns : List Int), ns.length ≤ 63 → (∀ z ∈ ns, Builtin.Int.intBits z ≤ 1048576) → S w [.frl (ns.map .int)] (fun _ => none) (fun d _ => d = .bl true) X0) :
    PySem.W.WalkO q loose XP YP l.row.toRowW d [] (fun f vs => PySem.call f vs) := by
  refine Att.attach_callB hn hdf fun w s₀ s₁ mg mb fa o pm cd doc a vs ns G Y ho hd hcd hmg hobj hints hlen hbits hg => ?_
  have KX := hY w _ Y
  obtain ⟨fd, hb, hF⟩ := F w mg fa _ KX G.T.g hmg
  exact law_callD KX G.T.g G.T.b G.T.builtins G.T.nolimit hg hobj hints (Nat.le_trans hlen (by decide)) hr hF hb (hsp w ns hlen hbits) fun H e s' z => z
end L3
set_option Elab.async false
set_option autoImplicit false
set_option linter.all false
set_option maxRecDepth 100000
set_option maxHeartbeats 4000000
/-! L3, tenth part: short forms for the printed derivations; what is known of a def. -/
namespace L3
open PySem PySem.Spec PyProof.Rows L2
theorem rm64 {k : Nat} {A : Around} (r : Room k A) : A.units + 64 < cLine := by have := r.un; omega
theorem rm1 {k : Nat} {A : Around} (r : Room k A) : A.units + 1 < cLine := by have := r.un; omega
theorem rm2 {k : Nat} {A : Around} (r : Room k A) : A.units + 2 < cLine := by have := r.un; omega
section
variable {X : Cx} {x : Xw} {a b : Expr} {Ta Tb : TEd} {pos : Pos}
theorem de_add (ha : DE X x a Ta) (hb : DE X x b Tb) : DE X x (.BinOp a .Add b pos) (TOp RAdd Ta Tb) := de_op op_addU imp_add ha hb
theorem de_subt (ha : DE X x a Ta) (hb : DE X x b Tb) : DE X x (.BinOp a .Sub b pos) (TOp RSub Ta Tb) := de_op op_sub (imp_int0 fun _ _ _ => rfl) ha hb
theorem de_mul (ha : DE X x a Ta) (hb : DE X x b Tb) : DE X x (.BinOp a .Mult b pos) (TOp RMul Ta Tb) := de_op op_mulU imp_mul ha hb
theorem de_mod (ha : DE X x a Ta) (hb : DE X x b Tb) : DE X x (.BinOp a .Mod b pos) (TOp RMod Ta Tb) := de_op op_mod (imp_int (fun _ _ h => h) fun _ _ _ => rfl) ha hb
theorem de_div (ha : DE X x a Ta) (hb : DE X x b Tb) : DE X x (.BinOp a .FloorDiv b pos) (TOp RDiv Ta Tb) := de_op op_fdivW (imp_int (fun _ _ h => h) fun _ _ _ => rfl) ha hb
theorem de_pow (ha : DE X x a Ta) (hb : DE X x b Tb) : DE X x (.BinOp a .Pow b pos) (TOp RPow Ta Tb) := de_op op_pow (imp_int (fun i j h => h) fun _ _ _ => rfl) ha hb
theorem de_neg (ha : DE X x a Ta) : DE X x (.UnaryOp .USub a pos) (TUn RNeg Ta) := de_un un_neg imp_neg ha
theorem de_lt (ha : DE X x a Ta) (hb : DE X x b Tb) : DE X x (.Compare a [.Lt] [b] pos) (TOp RLt Ta Tb) := de_cmp op_lt (imp_int0 fun _ _ _ => rfl) ha hb (nobehind _ (by decide) (by decide))
theorem de_le (ha : DE X x a Ta) (hb : DE X x b Tb) : DE X x (.Compare a [.LtE] [b] pos) (TOp RLe Ta Tb) := de_cmp op_le (imp_int0 fun _ _ _ => rfl) ha hb (nobehind _ (by decide) (by decide))
theorem de_gt (ha : DE X x a Ta) (hb : DE X x b Tb) : DE X x (.Compare a [.Gt] [b] pos) (TOp RGt Ta Tb) := de_cmp op_gt (imp_int0 fun _ _ _ => rfl) ha hb (nobehind _ (by decide) (by decide))
theorem de_ge (ha : DE X x a Ta) (hb : DE X x b Tb) : DE X x (.Compare a [.GtE] [b] pos) (TOp RGe Ta Tb) := de_cmp op_ge (imp_int0 fun _ _ _ => rfl) ha hb (nobehind _ (by decide) (by decide))
theorem de_eq (hu : X.A.units + 64 < cLine) (ha : DE X x a Ta) (hb : DE X x b Tb) : DE X x (.Compare a [.Eq] [b] pos) (TOp REq Ta Tb) := de_cmp (op_eqP hu).r imp_of ha hb (nobehind _ (by decide) (by decide))
theorem de_ne (hu : X.A.units + 64 < cLine) (ha : DE X x a Ta) (hb : DE X x b Tb) : DE X x (.Compare a [.NotEq] [b] pos) (TOp RNe Ta Tb) := de_cmp (op_neP hu).r imp_of ha hb (nobehind _ (by decide) (by decide))
theorem de_isN (ha : DE X x a Ta) (hb : DE X x b Tb) : DE X x (.Compare a [.Is] [b] pos) (TOp RIsN Ta Tb) := de_cmp op_isN imp_isN ha hb (nobehind _ (by decide) (by decide))
theorem de_notN (ha : DE X x a Ta) (hb : DE X x b Tb) : DE X x (.Compare a [.IsNot] [b] pos) (TOp RNotN Ta Tb) := de_cmp op_notN imp_notN ha hb (nobehind _ (by decide) (by decide))
theorem de_din (hu : X.A.units + 1 < cLine) (ha : DE X x a Ta) (hb : DE X x b Tb) (hm : behindInMarks .In b = false := by rfl) : DE X x (.Compare a [.In] [b] pos) (TOp RDIn Ta Tb) := de_cmp (op_din hu).r imp_of ha hb hm
theorem de_dnotin (hu : X.A.units + 1 < cLine) (ha : DE X x a Ta) (hb : DE X x b Tb) (hm : behindInMarks .NotIn b = false := by rfl) : DE X x (.Compare a [.NotIn] [b] pos) (TOp RDNotIn Ta Tb) := de_cmp (op_dnotin hu).r imp_of ha hb hm
/-- a comparison as a test -/
theorem dt_lt (ha : DE X x a Ta) (hb : DE X x b Tb) : DT X x (.Compare a [.Lt] [b] pos) (TTest (TOp RLt Ta Tb)) := dt_cmp op_lt (imp_int0 fun _ _ _ => rfl) ha hb (nobehind _ (by decide) (by decide))
theorem dt_le (ha : DE X x a Ta) (hb : DE X x b Tb) : DT X x (.Compare a [.LtE] [b] pos) (TTest (TOp RLe Ta Tb)) := dt_cmp op_le (imp_int0 fun _ _ _ => rfl) ha hb (nobehind _ (by decide) (by decide))
theorem dt_gt (ha : DE X x a Ta) (hb : DE X x b Tb) : DT X x (.Compare a [.Gt] [b] pos) (TTest (TOp RGt Ta Tb)) := dt_cmp op_gt (imp_int0 fun _ _ _ => rfl) ha hb (nobehind _ (by decide) (by decide))
theorem dt_ge (ha : DE X x a Ta) (hb : DE X x b Tb) : DT X x (.Compare a [.GtE] [b] pos) (TTest (TOp RGe Ta Tb)) := dt_cmp op_ge (imp_int0 fun _ _ _ => rfl) ha hb (nobehind _ (by decide) (by decide))
theorem dt_eq (hu : X.A.units + 64 < cLine) (ha : DE X x a Ta) (hb : DE X x b Tb) : DT X x (.Compare a [.Eq] [b] pos) (TTest (TOp REq Ta Tb)) := dt_cmp (op_eqP hu).r imp_of ha hb (nobehind _ (by decide) (by decide))
theorem dt_ne (hu : X.A.units + 64 < cLine) (ha : DE X x a Ta) (hb : DE X x b Tb) : DT X x (.Compare a [.NotEq] [b] pos) (TTest (TOp RNe Ta Tb)) := dt_cmp (op_neP hu).r imp_of ha hb (nobehind _ (by decide) (by decide))
theorem dt_isN (ha : DE X x a Ta) (hb : DE X x b Tb) : DT X x (.Compare a [.Is] [b] pos) (TTest (TOp RIsN Ta Tb)) := dt_cmp op_isN imp_isN ha hb (nobehind _ (by decide) (by decide))
theorem dt_notN (ha : DE X x a Ta) (hb : DE X x b Tb) : DT X x (.Compare a [.IsNot] [b] pos) (TTest (TOp RNotN Ta Tb)) := dt_cmp op_notN imp_notN ha hb (nobehind _ (by decide) (by decide))
theorem dt_din (hu : X.A.units + 1 < cLine) (ha : DE X x a Ta) (hb : DE X x b Tb) (hm : behindInMarks .In b = false := by rfl) : DT X x (.Compare a [.In] [b] pos) (TTest (TOp RDIn Ta Tb)) := dt_cmp (op_din hu).r imp_of ha hb hm
theorem dt_dnotin (hu : X.A.units + 1 < cLine) (ha : DE X x a Ta) (hb : DE X x b Tb) (hm : behindInMarks .NotIn b = false := by rfl) : DT X x (.Compare a [.NotIn] [b] pos) (TTest (TOp RDNotIn Ta Tb)) := dt_cmp (op_dnotin hu).r imp_of ha hb hm
/-! ### what is known of a def -/
section
variable {P : Program} {w : World} {K : PySem.W.Frag} {mg : Str → Option Value} {base : Heap}
/-- the def as it stands: its place, its object, its text, its parameters -/
structure FunAt (K : PySem.W.Frag) (mg : Str → Option Value) (n : Str) (st : Stmt) (ps : List Str) : Prop where
  ex : ∃ f fd, FunK K n n st f fd ∧ mg n = some (.ref f) ∧ PySem.W.keepIn K (.ref f) = true ∧ Binds K fd ps []
theorem funAt {h : Heap} {n : Str} {st : Stmt} {ps : List Str} {f : Addr} {od an : Option Addr} {sl : Array (Option Value)} {oc kV dc pm cd ct : Value} (X : K.In h) (G : h.Ns mainGlobals mg)
    (a : PySem.W.nsIn K mainGlobals n = some (some (.ref f))) (l : K.lookup f = some ⟨oc, od, .func (PySem.W.fnOf n n (defArgs st) (defBody st) (defScope st) .none kV dc pm an cd ct), sl⟩)
    (c : PySem.W.codeIn K cd n = true) (k : PySem.W.keepIn K (.ref f) = true)
    (b : ∀ (kV dc pm : Value) (an : Option Addr) (cd ct : Value) (us : List Value), us.length = ps.length → bindArgs (PySem.W.fnOf n n (defArgs st) (defBody st) (defScope st) .none kV dc pm an cd ct) ⟨us, []⟩ = pure (ps.zip us)) : FunAt K mg n st ps :=
  ⟨f, _, funK_mk l c, PySem.W.mg_of X G a, k, Binds.all fun us hl => b kV dc pm an cd ct us hl⟩
/-- the same, with what it is for -/
theorem funAt_then {Q : Prop} {h : Heap} {n : Str} {st : Stmt} {ps : List Str} {f : Addr} {od an : Option Addr} {sl : Array (Option Value)} {oc kV dc pm cd ct : Value} (X : K.In h) (G : h.Ns mainGlobals mg)
    (a : PySem.W.nsIn K mainGlobals n = some (some (.ref f))) (l : K.lookup f = some ⟨oc, od, .func (PySem.W.fnOf n n (defArgs st) (defBody st) (defScope st) .none kV dc pm an cd ct), sl⟩)
    (c : PySem.W.codeIn K cd n = true) (k : PySem.W.keepIn K (.ref f) = true)
    (b : ∀ (kV dc pm : Value) (an : Option Addr) (cd ct : Value) (us : List Value), us.length = ps.length → bindArgs (PySem.W.fnOf n n (defArgs st) (defBody st) (defScope st) .none kV dc pm an cd ct) ⟨us, []⟩ = pure (ps.zip us))
    (q : FunAt K mg n st ps → Q) : Q := q (funAt X G a l c k b)
theorem none_then {Q : Prop} {h : Heap} {n : Str} (X : K.In h) (G : h.Ns mainGlobals mg) (a : PySem.W.nsIn K mainGlobals n = some none) (q : mg n = none → Q) : Q := q (PySem.W.mg_none_of X G a)
/-- what a def promises, and where it stands -/
structure Cal (P : Program) (w : World) (K : PySem.W.Frag) (mg : Str → Option Value) (base : Heap) (n : Str) (k : Nat) (ps : List Str) (S : SpD) : Prop where
  ex : ∃ f fd, FnG P w K mg base (L2.CX P w) k f fd ps (liSp K S) ∧ mg n = some (.ref f) ∧ PySem.W.keepIn K (.ref f) = true ∧ Binds K fd ps []
theorem FunAt.cal {n : Str} {st : Stmt} {ps : List Str} {k : Nat} {S : SpD} (F : FunAt K mg n st ps) (h : ∀ f fd, FunK K n n st f fd → FnG P w K mg base (L2.CX P w) k f fd ps (liSp K S)) : Cal P w K mg base n k ps S :=
  let ⟨f, fd, a, b, c, d⟩ := F.ex; ⟨f, fd, h f fd a, b, c, d⟩
end
theorem de_fn {n : Str} {k : Nat} {ps : List Str} {S : SpD} {p : Pos} {e : Expr} {es : List Expr} {T : TAd} (C : Cal X.prog X.w X.K X.mg X.base n k ps S) (hgd : X.A.guards = some []) (hr : Room k X.A)
    (ha : DA X x (e :: es) T) (hg : Gl X n := by rfl) (hdb : (n == ("__debug__" : Str)) = false := by decide) (he : starEach (e :: es) X.env = (false, eval e X.env) :: starEach es X.env := by rfl) (hpl : (backTo pos (starEach es X.env)).any (·.1) = false := by rfl) :
    DE X x (.Call (.Name n p) (e :: es) [] pos) (TCall S [] T) := by
  obtain ⟨f, fd, F, hm, hk, hb⟩ := C.ex
  exact de_call F hgd hr hm hk hb .nil (fun _ => rfl) passCX ha hg hdb he hpl
/-! ### a list's item stored -/
def GSubL (To Te : TEd) : TGd := fun v δ M Q => To δ M fun d M2 => Te δ M2 fun e M3 => match d, e with
  | .ref a, .int i => ∃ xs j, M3 a = some (.lst xs) ∧ ixN xs.length i = some j ∧ Q δ (updM M3 a (.lst (xs.set j v)))
  | _, _ => False
theorem dg_sub {vs : List Nat} {To Te : TEd} (ho : DE X x a To) (he : DE X x b Te) (ha : ∀ v, assign (.Subscript a b pos) X.env v = (do
      let ov ← holding [v] (eval a X.env)
      let iv ← holding [v, ov] (eval b X.env)
      standAt pos
      holding [v, ov, iv] (setItem ov iv v)
      release [v, ov, iv] []) := by intro _; rfl) : DG X x vs (.Subscript a b pos) (GSubL To Te) := PG.cv (pg_sub ho he set_list ha) fun v σ H Q ⟨d, δ, M, Q0, ed, r, h, c⟩ =>
  ⟨δ, M, _, r, h, fun o M1 v1 H1 q1 s1 m1 e1 => ⟨δ, M1, _, r.step s1 m1, q1, fun i M2 v2 H2 q2 s2 m2 e2 => by
    split at q2
    · rename_i p k
      obtain ⟨xs, j, h1, h2, h3⟩ := q2
      obtain ⟨ws, eH, rr⟩ := m2.lst h1
      have t := s1.trans s2
      have s3 : Stp H2 M2 (upd H2 p (.lst (ws.set j v))) (updM M2 p (.lst (xs.set j d))) := Stp.wr h1
      refine ⟨p, ws, k, j, e1, e2, eH, by rw [rr.length]; exact h2, c δ _ σ _ h3 (t.trans s3) (m2.wr h1 ⟨_, upd_same, (rr.set j (ed.mono (t.pst r.m))).mono (s3.pst m2)⟩) (r.s.mono ((t.trans s3).pst r.m)) rfl⟩
    · exact q2.elim⟩⟩
/-- name = [..] on one line, the name a local -/
theorem ds_setLc {i : Nat} {y : Str} {py spos : Pos} {elt iter tg : Expr} {ifs : List Expr} {scope : Scope} {own : List (Str × Nat)} {Ti : TId} {Tg : TGd} {Tt : TTd} {Te : TEd} (hc : X.calm = true) (hN : X.N.Nodup) (hi : DI X x tg iter Ti) (ok : BlkOk X.N X.env.scope scope own)
    (hg : ∀ (s : Shared) (H : Hp) (C : Addr) (cl : List (Str × Addr)) (fp : List Addr), DG (X.blk s H scope (compEnvC scope cl C X.env) fp) xw0 (own.map (·.2)) tg Tg)
    (ht : ∀ (s : Shared) (H : Hp) (C : Addr) (cl : List (Str × Addr)) (fp : List Addr), DTs (X.blk s H scope (compEnvC scope cl C X.env) fp) xw0 ifs Tt)
    (he : ∀ (s : Shared) (H : Hp) (C : Addr) (cl : List (Str × Addr)) (fp : List Addr), DE (X.blk s H scope (compEnvC scope cl C X.env) fp) xw0 elt Te)
    (hy : X.N[i]? = some y := by rfl) (hyl : X.env.scope.names.lookup y = some .local := by rfl) (hsw : swapsWith (.ListComp elt [⟨tg, iter, ifs, 0⟩] scope pos) (some (.Name y py)) spos.line X.env = pure true := by rfl)
    (hs : ∀ y, foldedSetIterable iter X.env y = pure y := by intro _; rfl) : DS X x (.Assign [.Name y py] (.ListComp elt [⟨tg, iter, ifs, 0⟩] scope pos) spos) (TAsg (TLc Ti Tg Tt Te (own.map (·.2))) (GName i)) :=
  PS.cv (ps_setLc hc hN hy hyl hsw hi ok hg (fun s H C cl fp => (ht s H C cl fp).p) he hs) fun D σ H ⟨δ, M, E, r, h, c⟩ =>
    lc_conv σ H _ ⟨δ, M, _, r, h, fun d M' v H' q s1 m1 e1 => c.nx _ M' _ H' q s1 m1 ((r.s.mono (s1.pst r.m)).set i e1)⟩
end
end L3
set_option Elab.async false
set_option autoImplicit false
set_option linter.all false
set_option maxRecDepth 100000
set_option maxHeartbeats 4000000
/-! L3, eleventh part: blocks' names; defs with a default that is left. -/
namespace L3
open PySem PySem.Spec PyProof.Rows L2
/-- a block's names, as one closed question -/
def BlkP (N : List Str) (sc scope : Scope) (own : List (Str × Nat)) : Prop :=
  scope.kind = .function ∧ (∀ y ∈ scope.names, scope.names.lookup y.1 = some y.2) ∧ (∀ p ∈ own, N[p.2]? = some p.1) ∧
    (∀ y ∈ scope.names, y.2 = .free → sc.names.lookup y.1 = some .cell ∨ sc.names.lookup y.1 = some .free) ∧ (∀ y ∈ scope.names, y.2 = .local ∨ y.2 = .cell → y.1 ∈ own.map (·.1) ∨ y.1 ∉ N)
instance (N : List Str) (sc scope : Scope) (own : List (Str × Nat)) : Decidable (BlkP N sc scope own) := by unfold BlkP; infer_instance
theorem blk_mk {N : List Str} {sc scope : Scope} {own : List (Str × Nat)} (h : BlkP N sc scope own) : BlkOk N sc scope own := ⟨h.1, h.2.1, h.2.2.1, h.2.2.2.1, h.2.2.2.2⟩
section
variable {P : Program} {w : World} {K : PySem.W.Frag} {mg : Str → Option Value} {base : Heap}
/-- a def whose call writes m values and the keywords ks; gD: the data in the parameters' order -/
structure FunAtN (K : PySem.W.Frag) (mg : Str → Option Value) (n : Str) (st : Stmt) (ps : List Str) (m : Nat) (ks : List Str) (gD : List D → List D → List D) : Prop where
  ex : ∃ f fd g gV, FunK K n n st f fd ∧ mg n = some (.ref f) ∧ PySem.W.keepIn K (.ref f) = true ∧ KBn K fd ps m ks g gV ∧ GoesG K gD gV
structure CalN (P : Program) (w : World) (K : PySem.W.Frag) (mg : Str → Option Value) (base : Heap) (n : Str) (k : Nat) (ps : List Str) (m : Nat) (ks : List Str) (gD : List D → List D → List D) (S : SpD) : Prop where
  ex : ∃ f fd g gV, FnG P w K mg base (L2.CX P w) k f fd ps (liSp K S) ∧ mg n = some (.ref f) ∧ PySem.W.keepIn K (.ref f) = true ∧ KBn K fd ps m ks g gV ∧ GoesG K gD gV
theorem FunAtN.cal {n : Str} {st : Stmt} {ps ks : List Str} {m k : Nat} {gD : List D → List D → List D} {S : SpD} (F : FunAtN K mg n st ps m ks gD) (h : ∀ f fd, FunK K n n st f fd → FnG P w K mg base (L2.CX P w) k f fd ps (liSp K S)) : CalN P w K mg base n k ps m ks gD S :=
  let ⟨f, fd, g, gV, a, b, c, d, e⟩ := F.ex; ⟨f, fd, g, gV, h f fd a, b, c, d, e⟩
/-- one keyword-only parameter, its default None left -/
abbrev gNon : List D → List D → List D := fun ds _ => ds ++ [.non]
theorem funAtN0 {h : Heap} {n kn : Str} {st : Stmt} {ps : List Str} {m : Nat} {f dk : Addr} {od an : Option Addr} {sl : Array (Option Value)} {oc dc pm cd ct : Value} (X : K.In h) (G : h.Ns mainGlobals mg)
    (a : PySem.W.nsIn K mainGlobals n = some (some (.ref f))) (l : K.lookup f = some ⟨oc, od, .func (PySem.W.fnOf n n (defArgs st) (defBody st) (defScope st) .none (.ref dk) dc pm an cd ct), sl⟩)
    (c : PySem.W.codeIn K cd n = true) (k : PySem.W.keepIn K (.ref f) = true) (q : PySem.W.nsIn K dk kn = some (some .none))
    (b : ∀ (D : Addr) (doc pm : Value) (an : Option Addr) (cdv ct : Value) (us mv ws : List Value), us.length = m → mv.length = 1 → ws.length = 0 →
      KwChain D (([kn] : List Str).zip mv) (bindArgs (PySem.W.fnOf n n (defArgs st) (defBody st) (defScope st) .none (.ref D) doc pm an cdv ct) ⟨us, ([] : List Str).zip ws⟩) (ps.zip (us ++ mv))) : FunAtN K mg n st ps m [] gNon := by
  have FD : FunD K n n (defArgs st) (defBody st) (defScope st) [] [(kn, .non)] f (PySem.W.fnOf n n (defArgs st) (defBody st) (defScope st) .none (.ref dk) dc pm an cd ct) :=
    ⟨⟨_, _, _, _, _, _, _, _, _, _, rfl, l, c, .inl ⟨rfl, rfl⟩, .inr ⟨dk, rfl, fun p hp => by
      have e : p = (kn, .non) := by simpa using hp
      subst e
      exact ⟨_, q, rfl⟩⟩⟩, k⟩
  obtain ⟨mv, hb⟩ := FD.kbinds0 (ps := ps) m [] [(kn, .non)] (fun us mv _ => us ++ mv) (by intro z; cases z) (fun _ h => h) (fun r1 r2 _ => r1.append r2) b
  exact ⟨f, _, _, _, funK_mk l c, PySem.W.mg_of X G a, k, hb, fun H ds es vs zs r _ => r.append (Reps.cons rfl Reps.nil)⟩
theorem funAtN0_then {Q : Prop} {h : Heap} {n kn : Str} {st : Stmt} {ps : List Str} {m : Nat} {f dk : Addr} {od an : Option Addr} {sl : Array (Option Value)} {oc dc pm cd ct : Value} (X : K.In h) (G : h.Ns mainGlobals mg)
    (a : PySem.W.nsIn K mainGlobals n = some (some (.ref f))) (l : K.lookup f = some ⟨oc, od, .func (PySem.W.fnOf n n (defArgs st) (defBody st) (defScope st) .none (.ref dk) dc pm an cd ct), sl⟩)
    (c : PySem.W.codeIn K cd n = true) (k : PySem.W.keepIn K (.ref f) = true) (q : PySem.W.nsIn K dk kn = some (some .none))
    (b : ∀ (D : Addr) (doc pm : Value) (an : Option Addr) (cdv ct : Value) (us mv ws : List Value), us.length = m → mv.length = 1 → ws.length = 0 →
      KwChain D (([kn] : List Str).zip mv) (bindArgs (PySem.W.fnOf n n (defArgs st) (defBody st) (defScope st) .none (.ref D) doc pm an cdv ct) ⟨us, ([] : List Str).zip ws⟩) (ps.zip (us ++ mv)))
    (t : FunAtN K mg n st ps m [] gNon → Q) : Q := t (funAtN0 X G a l c k q b)
end
section
variable {X : Cx} {x : Xw}
theorem de_fnN {n : Str} {k m : Nat} {ps ks : List Str} {gD : List D → List D → List D} {S : SpD} {p pos : Pos} {e : Expr} {es : List Expr} {kws : List Keyword} {T Tk : TAd} (C : CalN X.prog X.w X.K X.mg X.base n k ps m ks gD S) (hgd : X.A.guards = some []) (hr : Room k X.A)
    (ha : DA X x (e :: es) T) (hkw : DK X x kws Tk) (hg : Gl X n := by rfl) (hall : (backToKw pos (keywordEach kws X.env)).all (·.1.isSome) = true := by rfl) (hks : (backToKw pos (keywordEach kws X.env)).filterMap (·.1) = ks := by rfl)
    (hdb : (n == ("__debug__" : Str)) = false := by decide) (he : starEach (e :: es) X.env = (false, eval e X.env) :: starEach es X.env := by rfl)
    (hpl : ((backTo pos (starEach (e :: es) X.env)).any (·.1) || (backToKw pos (keywordEach kws X.env)).any (·.1.isNone)) = false := by rfl) :
    DE X x (.Call (.Name n p) (e :: es) kws pos) (TCallN m ks.length S gD T Tk) := by
  obtain ⟨f, fd, g, gV, F, hm, hk, hb, hD⟩ := C.ex
  exact de_callN F hgd hr hm hk hb hD passCX ha hkw hg hall hks hdb he hpl
end
end L3
set_option Elab.async false
set_option autoImplicit false
set_option linter.all false
set_option maxRecDepth 100000
set_option maxHeartbeats 4000000
/-! What the bags' defs promise, over data. -/
namespace HB
open PySem L2 L3
abbrev Bag := List (Int × Int)
def bagD (b : Bag) : D := .tup (b.map pairD)
/-- numbers rise, counts are positive; not too long -/
structure BagOk (b : Bag) : Prop where
  asc : b.Pairwise fun p q => p.1 < q.1
  pos : ∀ p ∈ b, 1 ≤ p.2
  fit : b.length ≤ 10000
  small : ∀ p ∈ b, p.2 < 2 ^ 1000
def isIntD : D → Bool
  | .int _ => true
  | _ => false
def isUt : D → Bool
  | .utup _ => true
  | _ => false
/-- the built-in type is told -/
def Told (M : Mh) (d : D) : Prop := (∃ t, tyD M d = some t) ∧ isUt d = false
/-- all types that is_bag may ask for are told -/
structure Seen (M : Mh) (d : D) : Prop where
  t : Told M d
  e : ∀ es, d = .tup es → es.length ≤ 10000 ∧ ∀ x ∈ es, Told M x ∧ ∀ a b, x = .tup [a, b] → Told M a ∧ Told M b
def scanB : List D → Option Int → Bool
  | [], _ => true
  | .tup [.int n, .int c] :: r, prev => decide (1 ≤ c) && (prev.all fun k => decide (k < n)) && scanB r (some n)
  | _, _ => false
def isBagD : D → Bool
  | .tup es => scanB es none
  | _ => false
def S_is_integer : SpD := fun ds M Q _ => ∃ d, ds = [d] ∧ Told M d ∧ Q (.bl (isIntD d)) M
def S_is_bag : SpD := fun ds M Q _ => ∃ d, ds = [d] ∧ Seen M d ∧ Q (.bl (isBagD d)) M
/-- the good case: a bag passes -/
def S_check_bag : SpD := fun ds M Q _ => ∃ d, ds = [d] ∧ Seen M d ∧ isBagD d = true ∧ Q .non M
/-! ### bags by their counts -/
def getI : Bag → Int → Option Int
  | [], _ => none
  | p :: r, k => if p.1 = k then some p.2 else getI r k
/-- how many of k -/
def cnt (b : Bag) (k : Int) : Int := (getI b k).getD 0
def tot (b : Bag) : Int := (b.map (·.2)).sum
/-- how many up to n -/
def lev (b : Bag) (n : Int) : Int := ((b.filter fun p => decide (p.1 ≤ n)).map (·.2)).sum
def dropB : Bag → Int → Bag
  | [], _ => []
  | p :: r, k => if min k p.2 < p.2 then (p.1, p.2 - min k p.2) :: dropB r (k - min k p.2) else dropB r (k - min k p.2)
/-- over the start's rest, from behind -/
def needR (s g : Bag) : Bag → Int
  | [] => 0
  | p :: r => if cnt g p.1 < p.2 then lev s p.1 - cnt g p.1 else needR s g r
def need (s g : Bag) : Int := needR s g s.reverse
abbrev dictD (ps : Bag) : List (Key × D) := ps.map fun p => (Sum.inl p.1, D.int p.2)
def insD (p : Int × Int) : D := .tup [.str "insert", .int p.1, .int p.2]
def planD (r : Int) (ins : Bag) : D := .tup ((if 0 < r then [D.tup [.str "remove", .int r]] else []) ++ ins.map insD)
def bagL (ns : List Int) : Bag := (uniqI ns).map fun k => (k, (ns.count k : Int))
def S_from_counts : SpD := fun ds M Q _ => ∃ a ps, ds = [.ref a] ∧ M a = some (.dK (dictD ps)) ∧ ps.length ≤ 100000 ∧ Q (bagD (sortP (ps.filter fun p => decide (0 < p.2)))) M
def S_subtract : SpD := fun ds M Q _ => ∃ b c, ds = [bagD b, bagD c] ∧ BagOk b ∧ BagOk c ∧ b.length + c.length ≤ 10000 ∧
  ((∃ k, cnt b k < cnt c k) → Q .non M) ∧ ∀ r, BagOk r → (∀ k, cnt r k = cnt b k - cnt c k) → Q (bagD r) M
def S_total : SpD := fun ds M Q _ => ∃ b, ds = [bagD b] ∧ b.length ≤ 100000 ∧ Q (.int (tot b)) M
def S_level : SpD := fun ds M Q _ => ∃ b n, ds = [bagD b, .int n] ∧ b.length ≤ 100000 ∧ Q (.int (lev b n)) M
def S_drop : SpD := fun ds M Q _ => ∃ b k, ds = [bagD b, .int k] ∧ b.length ≤ 100000 ∧ Q (bagD (dropB b k)) M
def S_insert_steps : SpD := fun ds M Q _ => ∃ b : Bag, ds = [bagD b] ∧ b.length ≤ 100000 ∧ Q (.tup (b.map insD)) M
def S_removals_needed : SpD := fun ds M Q _ => ∃ s g, ds = [bagD s, bagD g] ∧ BagOk s ∧ BagOk g ∧ Q (.int (need s g)) M
def S_distance : SpD := fun ds M Q _ => ∃ s g, ds = [bagD s, bagD g] ∧ BagOk s ∧ BagOk g ∧ Q (.int (2 * need s g + tot g - tot s)) M
def S_plan : SpD := fun ds M Q _ => ∃ s g, ds = [bagD s, bagD g, .non] ∧ BagOk s ∧ BagOk g ∧ s.length + g.length ≤ 10000 ∧
  ∀ ins, BagOk ins → (∀ k, cnt ins k = cnt g k - cnt (dropB s (need s g)) k) → Q (planD (need s g) ins) M
/-! ### the law's draws -/
def PoolSt (M : Mh) (p l : Addr) : Prop := ∃ (ns : List Int) (i big seed : Int), M p = some (.lst [.ref l, .int i, .int big, .int seed]) ∧ M l = some (.lst (ns.map .int)) ∧ l ≠ p ∧ 0 ≤ i ∧ 0 ≤ seed ∧ seed < 2147483647
def S__law_draw : SpD := fun ds M Q _ => ∃ p l c, ds = [.ref p, .int c] ∧ PoolSt M p l ∧ 1 ≤ c ∧ c < 2 ^ 8000 ∧ ∀ v X, 0 ≤ v → v < c → PoolSt (updM M p X) p l → Q (.int v) (updM M p X)
def S__law_base : SpD := fun ds M Q _ => ∃ p l, ds = [.ref p] ∧ PoolSt M p l ∧ ∀ b X, b.natAbs < 2 ^ 100 → PoolSt (updM M p X) p l → Q (.int b) (updM M p X)
def S__law_bag : SpD := fun ds M Q _ => ∃ a ns, ds = [.ref a] ∧ M a = some (.lst (ns.map .int)) ∧ ns.length ≤ 60 ∧ Q (bagD (bagL ns)) M
end HB
set_option Elab.async false
set_option autoImplicit false
set_option linter.all false
/-! readings of the bags' defs, printed by gen.py -/
namespace HB
open PySem PySem.Spec PyProof.Rows L2 L3
def T_is_integer : TSd := (TRet (TAndV (TCB RIsi (TCons (TVar 0) (TCons (TC (.ty "int")) TNil))) (TNotV (TCB RIsi (TCons (TVar 0) (TCons (TC (.ty "bool")) TNil))))))
def T_is_bag : TSd := (TSeq (TIfS (TNot (TTest (TCB RIsi (TCons (TVar 0) (TCons (TC (.ty "tuple")) TNil))))) (TRet (TC (.bl false))) TNext) (TSeq (TAsg (TLst TNil) (GName 1)) (TSeq (TFor (TIt (TVar 0)) (GName 2) (TSeq (TIfS (TOr (TNot (TTest (TCB RIsi (TCons (TVar 2) (TCons (TC (.ty "tuple")) TNil))))) (TTest (TOp RNe (TCB RLen (TCons (TVar 2) TNil)) (TC (.int 2))))) (TRet (TC (.bl false))) TNext) (TSeq (TAsg (TVar 2) (GTup 2 (GCons (GName 3) (GCons (GName 4) GNil)))) (TSeq (TIfS (TOr (TNot (TTest (TCall S_is_integer [] (TCons (TVar 3) TNil)))) (TOr (TNot (TTest (TCall S_is_integer [] (TCons (TVar 4) TNil)))) (TTest (TOp RLt (TVar 4) (TC (.int 1)))))) (TRet (TC (.bl false))) TNext) (TSeq (TIfS (TAnd (TTest (TOp RNe (TVar 1) (TLst TNil))) (TTest (TOp RLe (TVar 3) (TOp RIx (TVar 1) (TUn RNeg (TC (.int 1))))))) (TRet (TC (.bl false))) TNext) (TDrop (TBM TyL RAppend (TVar 1) (TCons (TVar 3) TNil)))))))) (TRet (TC (.bl true))))))
def T_check_bag : TSd := (TIfS (TNot (TTest (TCall S_is_bag [] (TCons (TVar 0) TNil)))) TNever TNext)
def T_from_counts : TSd := (TRet (TCB RTuple (TCons (TCB RSorted (TCons (TLkE (TLc (TItems (TVar 0)) (GTup 2 (GCons (GName 1) (GCons (GName 2) GNil))) (TTest (TOp RGt (TVar 2) (TC (.int 0)))) (TTup (TCons (TVar 1) (TCons (TVar 2) TNil))) [1, 2])) TNil)) TNil)))
def T_subtract : TSd := (TSeq (TAsg (TCB RDict (TCons (TVar 0) TNil)) (GName 2)) (TSeq (TFor (TIt (TVar 1)) (GTup 2 (GCons (GName 3) (GCons (GName 4) GNil))) (TPut (TVar 2) (TVar 3) (TOp RSub (TGet2 (TVar 2) (TVar 3) (TC (.int 0))) (TVar 4)))) (TRet (TIf (TTest (TCB RAny (TCons (TLkE (TLc (TVals (TVar 2)) (GName 4) TYes (TOp RLt (TVar 4) (TC (.int 0))) [4])) TNil))) (TC .non) (TCall S_from_counts [] (TCons (TVar 2) TNil))))))
def T_total : TSd := (TRet (TCB RSum (TCons (TLc (TIt (TVar 0)) (GTup 2 (GCons (GName 1) (GCons (GName 2) GNil))) TYes (TVar 2) [1, 2]) TNil)))
def T_level : TSd := (TRet (TCB RSum (TCons (TLc (TIt (TVar 0)) (GTup 2 (GCons (GName 2) (GCons (GName 3) GNil))) (TTest (TOp RLe (TVar 2) (TVar 1))) (TVar 3) [2, 3]) TNil)))
def T_drop : TSd := (TSeq (TPar 2 3 (TCons (TVar 1) (TCons (TLst TNil) TNil))) (TSeq (TFor (TIt (TVar 0)) (GTup 2 (GCons (GName 4) (GCons (GName 5) GNil))) (TSeq (TAsg (TCB RMinL (TCons (TVar 2) (TCons (TVar 5) TNil))) (GName 6)) (TSeq (TAug 2 (fun i j => i - j) (TVar 6)) (TIfS (TTest (TOp RGt (TVar 5) (TVar 6))) (TDrop (TBM TyL RAppend (TVar 3) (TCons (TTup (TCons (TVar 4) (TCons (TOp RSub (TVar 5) (TVar 6)) TNil))) TNil))) TNext)))) (TRet (TCB RTuple (TCons (TVar 3) TNil)))))
def T_insert_steps : TSd := (TRet (TCB RTuple (TCons (TLc (TIt (TVar 0)) (GTup 2 (GCons (GName 1) (GCons (GName 2) GNil))) TYes (TTup (TCons (TC (.str "insert")) (TCons (TVar 1) (TCons (TVar 2) TNil)))) [1, 2]) TNil)))
def T_removals_needed : TSd := (TSeq (TAsg (TCB RDict (TCons (TVar 1) TNil)) (GName 2)) (TSeq (TFor (TIt (TRev (TVar 0))) (GTup 2 (GCons (GName 3) (GCons (GName 4) GNil))) (TIfS (TTest (TOp RGt (TVar 4) (TGet2 (TVar 2) (TVar 3) (TC (.int 0))))) (TRet (TOp RSub (TCall S_level [] (TCons (TVar 0) (TCons (TVar 3) TNil))) (TGet2 (TVar 2) (TVar 3) (TC (.int 0))))) TNext)) (TRet (TC (.int 0)))))
def T_distance : TSd := (TSeq (TDrop (TCall S_check_bag [] (TCons (TVar 0) TNil))) (TSeq (TDrop (TCall S_check_bag [] (TCons (TVar 1) TNil))) (TRet (TOp RSub (TOp RAdd (TOp RMul (TC (.int 2)) (TCall S_removals_needed [] (TCons (TVar 0) (TCons (TVar 1) TNil)))) (TCall S_total [] (TCons (TVar 1) TNil))) (TCall S_total [] (TCons (TVar 0) TNil))))))
def T_plan : TSd := (TSeq (TDrop (TCall S_check_bag [] (TCons (TVar 0) TNil))) (TSeq (TDrop (TCall S_check_bag [] (TCons (TVar 1) TNil))) (TSeq (TIfS (TTest (TOp RNotN (TVar 2) (TC .non))) TNever TNext) (TSeq (TAsg (TCall S_removals_needed [] (TCons (TVar 0) (TCons (TVar 1) TNil))) (GName 3)) (TSeq (TAsg (TCall S_subtract [] (TCons (TVar 1) (TCons (TCall S_drop [] (TCons (TVar 0) (TCons (TVar 3) TNil))) TNil))) (GName 4)) (TSeq (TIfS (TAnd (TTest (TOp RNotN (TVar 2) (TC .non))) (TTest (TOp RIsN (TCall S_subtract [] (TCons (TVar 2) (TCons (TVar 4) TNil))) (TC .non)))) TNever TNext) (TSeq (TAsg (TIf (TTest (TOp RGt (TVar 3) (TC (.int 0)))) (TTup (TCons (TTup (TCons (TC (.str "remove")) (TCons (TVar 3) TNil))) TNil)) (TTup TNil)) (GName 5)) (TRet (TOp RAdd (TVar 5) (TCall S_insert_steps [] (TCons (TVar 4) TNil)))))))))))
def T__law_draw : TSd := (TSeq (TIfS (TTest (TOp REq (TOp RIx (TVar 0) (TC (.int 2))) (TC (.int 0)))) (TSeq (TAsg (TIf (TTest (TOp RLt (TOp RIx (TVar 0) (TC (.int 1))) (TCB RLen (TCons (TOp RIx (TVar 0) (TC (.int 0))) TNil)))) (TOp RIx (TOp RIx (TVar 0) (TC (.int 0))) (TOp RIx (TVar 0) (TC (.int 1)))) (TC (.int 0))) (GName 2)) (TSeq (TAsg (TOp RAdd (TOp RIx (TVar 0) (TC (.int 1))) (TC (.int 1))) (GSubL (TVar 0) (TC (.int 1)))) (TSeq (TIfS (TTest (TOp RLt (TVar 2) (TOp RPow (TC (.int 10)) (TC (.int 18))))) (TSeq (TAsg (TOp RMod (TOp RAdd (TOp RAdd (TOp RMul (TOp RIx (TVar 0) (TC (.int 3))) (TC (.int 48271))) (TOp RMod (TVar 2) (TC (.int 2147483629)))) (TOp RIx (TVar 0) (TC (.int 1)))) (TC (.int 2147483647))) (GSubL (TVar 0) (TC (.int 3)))) (TRet (TOp RMod (TOp RDiv (TOp RMod (TOp RMul (TOp RIx (TVar 0) (TC (.int 3))) (TOp RIx (TVar 0) (TC (.int 3)))) (TC (.int 2147483629))) (TC (.int 7))) (TVar 1)))) TNext) (TAsg (TVar 2) (GSubL (TVar 0) (TC (.int 2))))))) TNext) (TSeq (TAsg (TOp RMod (TOp RIx (TVar 0) (TC (.int 2))) (TVar 1)) (GName 3)) (TSeq (TAsg (TOp RDiv (TOp RIx (TVar 0) (TC (.int 2))) (TVar 1)) (GSubL (TVar 0) (TC (.int 2)))) (TRet (TVar 3)))))
def T__law_base : TSd := (TRet (TOp RIx (TLst (TCons (TC (.int 0)) (TCons (TUn RNeg (TC (.int 2))) (TCons (TOp RPow (TC (.int 10)) (TC (.int 25))) (TCons (TOp RAdd (TOp RSub (TC (.int 0)) (TOp RPow (TC (.int 10)) (TC (.int 25)))) (TCall S__law_draw [] (TCons (TVar 0) (TCons (TOp RPow (TC (.int 10)) (TC (.int 6))) TNil)))) TNil))))) (TCall S__law_draw [] (TCons (TVar 0) (TCons (TC (.int 4)) TNil)))))
def T__law_bag (w : World) : TSd := (TRet (TCB RTuple (TCons (TLc (TIt (TCB (RSortS w) (TCons (TCB (RSetOf w) (TCons (TVar 0) TNil)) TNil))) (GName 1) TYes (TTup (TCons (TVar 1) (TCons (TBM TyL RCount (TVar 0) (TCons (TVar 1) TNil)) TNil))) [1]) TNil)))
end HB
set_option Elab.async false
set_option autoImplicit false
set_option linter.all false
set_option maxRecDepth 100000
set_option exponentiation.threshold 100000
set_option maxHeartbeats 4000000
namespace HB
open PySem PySem.Spec L2 L3
open PyProof.Rows hiding pairD
/-! isinstance, settled -/
def kitR (t n : String) : Bool := (kitB t n).getD false
theorem tyD_cases {M : Mh} {d : D} {t : String} (h : tyD M d = some t) : t = "NoneType" ∨ t = "bool" ∨ t = "int" ∨ t = "str" ∨ t = "tuple" ∨ t = "list" ∨ t = "dict" := by
  cases d with
  | ref a =>
    simp only [tyD] at h
    split at h <;> simp_all
  | _ => simp [tyD] at h <;> simp [← h]
theorem kit7 : ∀ t ∈ ["NoneType", "bool", "int", "str", "tuple", "list", "dict"], kitB t "int" = some (t == "int" || t == "bool") ∧ kitB t "bool" = some (t == "bool") ∧ kitB t "tuple" = some (t == "tuple") ∧ kitB t "list" = some (t == "list") ∧ kitB t "str" = some (t == "str") := by decide +kernel
theorem told_mem {M : Mh} {d : D} {t : String} (h : tyD M d = some t) : t ∈ ["NoneType", "bool", "int", "str", "tuple", "list", "dict"] := by
  rcases tyD_cases h with rfl | rfl | rfl | rfl | rfl | rfl | rfl <;> decide
def isIB : D → Bool
  | .int _ => true
  | .bl _ => true
  | _ => false
def isBl : D → Bool
  | .bl _ => true
  | _ => false
def isTup : D → Bool
  | .tup _ => true
  | .utup _ => true
  | _ => false
theorem isi_int {M : Mh} {d : D} {Q : QE} (h : Told M d) (q : Q (.bl (isIB d)) M) : RIsi [d, .ty "int"] M Q := by
  obtain ⟨⟨t, ht⟩, _⟩ := h
  refine ⟨t, _, ht, (kit7 t (told_mem ht)).1, ?_⟩
  cases d with
  | ref a => simp only [tyD] at ht; split at ht <;> first | (cases ht; exact q) | cases ht
  | _ => simp only [tyD] at ht; cases ht <;> exact q
theorem isi_bool {M : Mh} {d : D} {Q : QE} (h : Told M d) (q : Q (.bl (isBl d)) M) : RIsi [d, .ty "bool"] M Q := by
  obtain ⟨⟨t, ht⟩, _⟩ := h
  refine ⟨t, _, ht, (kit7 t (told_mem ht)).2.1, ?_⟩
  cases d with
  | ref a => simp only [tyD] at ht; split at ht <;> first | (cases ht; exact q) | cases ht
  | _ => simp only [tyD] at ht; cases ht <;> exact q
theorem isi_tuple {M : Mh} {d : D} {Q : QE} (h : Told M d) (q : Q (.bl (isTup d)) M) : RIsi [d, .ty "tuple"] M Q := by
  obtain ⟨⟨t, ht⟩, _⟩ := h
  refine ⟨t, _, ht, (kit7 t (told_mem ht)).2.2.1, ?_⟩
  cases d with
  | ref a => simp only [tyD] at ht; split at ht <;> first | (cases ht; exact q) | cases ht
  | _ => simp only [tyD] at ht; cases ht <;> exact q
theorem vc_is_integer : ∀ ds M Q E, S_is_integer ds M Q E → T_is_integer { nx := fun _ M' => rlx Q .non M', rt := rlx Q } (startD (["value"] : List Str).length ds) M := by
  rintro ds M Q E ⟨d, rfl, ht, q⟩
  change T_is_integer _ [some d] M
  dsimp only [T_is_integer, TSeq, TNext, TBreak, TCont, TDrop, TRet, TRetN, TIfS, TNever, TAsg, GName, GNil, GCons, TPar, TTest, TAnd, TOr, TNot, TAndV, TOrV, TNotV, TIf, TVar, TC, TNil, TCons, TTup, TLst, TOp, TUn, TCB, TCall, TCallN, TBM, TAug, TGet1, TGet2, TPut, TYes, GSubL, TSl, TNoPart, TPart, TRev, TIt, TRng1, TRng2, TItems, TVals, TKeys, List.getElem?_cons_zero, List.getElem?_cons_succ, List.set_cons_zero, List.set_cons_succ, List.append_nil, List.nil_append, List.cons_append]
  refine isi_int ht ?_
  cases d with
  | int i => dsimp only [isIB]; rw [if_pos rfl]; refine isi_bool (d := .int i) ht ?_; exact rlx_of q
  | bl b => dsimp only [isIB]; rw [if_pos rfl]; refine isi_bool (d := .bl b) ht ?_; exact rlx_of q
  | _ => exact rlx_of q
/-! == of data -/
theorem eqv_int {i j : Int} : PyData.eqv (.int i) (.int j) = decide (i = j) := by
  simp only [PyData.eqv]; by_cases h : i = j <;> simp [h]
theorem pus_ints (ns : List Int) : D.pus (ns.map .int) = true := by induction ns with | nil => rfl | cons n r ih => simp only [List.map_cons, D.pus, D.pu, ih, Bool.and_self]
theorem depth_ints (ns : List Int) : PyData.depthAll (D.pys (ns.map .int)) = 0 := by induction ns with | nil => rfl | cons n r ih => simp only [List.map_cons, D.pys, D.py, PyData.depthAll, PyData.depth, ih]; rfl
theorem eqvAll_ints : ∀ (ns ms : List Int), PyData.eqvAll (D.pys (ns.map .int)) (D.pys (ms.map .int)) = decide (ns = ms)
  | [], [] => rfl
  | [], _ :: _ => rfl
  | _ :: _, [] => rfl
  | n :: ns, m :: ms => by
    simp only [List.map_cons, D.pys, D.py, PyData.eqvAll, eqv_int, eqvAll_ints ns ms]
    by_cases h : n = m <;> by_cases h2 : ns = ms <;> simp [h, h2]
theorem pyM_ints {M : Mh} {a : Addr} {ns : List Int} (h : M a = some (.lst (ns.map .int))) : pyM M (.ref a) = some (.list (D.pys (ns.map .int))) := by
  simp only [pyM, h, pus_ints, if_true]
theorem eq_int {M : Mh} {i j : Int} {Q : QE} (q : Q (.bl (decide (i = j))) M) : REq (.int i) (.int j) M Q := ⟨_, _, rfl, rfl, Nat.zero_le _, by rw [show PyData.eqv (D.int i).py (D.int j).py = decide (i = j) from eqv_int]; exact q⟩
theorem ne_int {M : Mh} {i j : Int} {Q : QE} (q : Q (.bl (!decide (i = j))) M) : RNe (.int i) (.int j) M Q := ⟨_, _, rfl, rfl, Nat.zero_le _, by rw [show PyData.eqv (D.int i).py (D.int j).py = decide (i = j) from eqv_int]; exact q⟩
theorem eq_lints {M : Mh} {a b : Addr} {ns ms : List Int} {Q : QE} (ha : M a = some (.lst (ns.map .int))) (hb : M b = some (.lst (ms.map .int))) (q : Q (.bl (decide (ns = ms))) M) : REq (.ref a) (.ref b) M Q :=
  ⟨_, _, pyM_ints ha, pyM_ints hb, by simp only [PyData.depth, depth_ints]; decide, by simp only [PyData.eqv, eqvAll_ints]; exact q⟩
theorem ne_lints {M : Mh} {a b : Addr} {ns ms : List Int} {Q : QE} (ha : M a = some (.lst (ns.map .int))) (hb : M b = some (.lst (ms.map .int))) (q : Q (.bl (!decide (ns = ms))) M) : RNe (.ref a) (.ref b) M Q :=
  ⟨_, _, pyM_ints ha, pyM_ints hb, by simp only [PyData.depth, depth_ints]; decide, by simp only [PyData.eqv, eqvAll_ints]; exact q⟩
/-! subscripts -/
theorem atI_nat {α : Type} {xs : List α} {i : Nat} : atI xs (i : Int) = xs[i]? := by
  unfold atI ixN
  rw [if_pos (by omega)]
  by_cases h : i < xs.length
  · rw [if_pos (by omega)]; simp
  · rw [if_neg (by omega), List.getElem?_eq_none (by omega)]; rfl
theorem atI_last {α : Type} {xs : List α} {x : α} : atI (xs ++ [x]) (-1) = some x := by
  unfold atI ixN
  have e : (-1 + ((xs ++ [x]).length : Int)).toNat = xs.length := by simp; omega
  rw [if_neg (by omega), if_pos (by simp; omega), Option.bind_some, e]
  simp
theorem told_sub {M M' : Mh} {d : D} (s : SubM M M') (h : Told M d) : Told M' d := by
  obtain ⟨⟨t, ht⟩, hu⟩ := h
  refine ⟨⟨t, ?_⟩, hu⟩
  cases d with
  | ref a =>
    simp only [tyD] at ht ⊢
    cases e : M a with
    | none => rw [e] at ht; cases ht
    | some o => rw [e] at ht; rw [s a o e]; exact ht
  | _ => exact ht
/-! is_bag -/
/-- the numbers of a scanned front -/
def numsB : List D → List Int
  | .tup [.int n, .int _] :: r => n :: numsB r
  | _ => []
def okEnt (prev : Option Int) : D → Bool
  | .tup [.int n, .int c] => decide (1 ≤ c) && prev.all fun k => decide (k < n)
  | _ => false
def numE : D → Int
  | .tup (.int n :: _) => n
  | _ => 0
theorem scanB_cons {e : D} {r : List D} {prev : Option Int} : scanB (e :: r) prev = (okEnt prev e && scanB r (some (numE e))) := by
  cases e with
  | tup xs =>
    match xs with
    | [] => rfl
    | [a] => cases a <;> rfl
    | [a, b] => cases a <;> cases b <;> rfl
    | a :: b :: c :: t => cases a <;> cases b <;> rfl
  | _ => rfl
theorem vc_is_bag : ∀ ds M Q E, S_is_bag ds M Q E → T_is_bag { nx := fun _ M' => rlx Q .non M', rt := rlx Q } (startD (["value", "numbers", "entry", "number", "count"] : List Str).length ds) M := by
  rintro ds M Q E ⟨d, rfl, hs, q⟩
  change T_is_bag _ [some d, none, none, none, none] M
  dsimp only [T_is_bag, TSeq, TNext, TBreak, TCont, TDrop, TRet, TRetN, TIfS, TNever, TAsg, GName, GNil, GCons, TPar, TTest, TAnd, TOr, TNot, TAndV, TOrV, TNotV, TIf, TVar, TC, TNil, TCons, TTup, TLst, TOp, TUn, TCB, TCall, TCallN, TBM, TAug, TGet1, TGet2, TPut, TYes, GSubL, TSl, TNoPart, TPart, TRev, TIt, TRng1, TRng2, TItems, TVals, TKeys, List.getElem?_cons_zero, List.getElem?_cons_succ, List.set_cons_zero, List.set_cons_succ, List.append_nil, List.nil_append, List.cons_append]
  refine isi_tuple hs.t ?_
  by_cases hd : ∃ es, d = .tup es
  case neg =>
    have h1 : isTup d = false := by
      have := hs.t.2
      cases d <;> simp_all [isTup, isUt]
    have h2 : isBagD d = false := by cases d <;> simp_all [isBagD]
    rw [h1]
    rw [h2] at q
    exact rlx_of q
  obtain ⟨es, rfl⟩ := hd
  refine ⟨by decide, fun p hp => ?_⟩
  obtain ⟨hl, he⟩ := hs.e es rfl
  -- behind i entries: they are entries of a bag; their numbers stand in the list
  refine ⟨fun i δ M' => ∃ (x y z : Option D) (ns : List Int), δ = [some (.tup es), some (.ref p), x, y, z] ∧ SubM M M' ∧ M' p = some (.lst (ns.map .int)) ∧ ns.length = i ∧ scanB es none = scanB (es.drop i) ns.getLast?, ?_, ?_, ?_, ?_⟩
  · exact ⟨none, none, none, [], rfl, SubM.refl.new hp, updM_same, rfl, by simp⟩
  · exact fun _ _ _ _ => trivial
  · rintro i e δ M' hi ⟨x, y, z, ns, rfl, sub, hp', hn, hsc⟩
    dsimp only [TSeq, TNext, TBreak, TCont, TDrop, TRet, TRetN, TIfS, TNever, TAsg, GName, GNil, GCons, TPar, TTest, TAnd, TOr, TNot, TAndV, TOrV, TNotV, TIf, TVar, TC, TNil, TCons, TTup, TLst, TOp, TUn, TCB, TCall, TCallN, TBM, TAug, TGet1, TGet2, TPut, TYes, GSubL, TSl, TNoPart, TPart, TRev, TIt, TRng1, TRng2, TItems, TVals, TKeys, List.getElem?_cons_zero, List.getElem?_cons_succ, List.set_cons_zero, List.set_cons_succ, List.append_nil, List.nil_append, List.cons_append]
    have hm : e ∈ es := List.mem_of_getElem? hi
    obtain ⟨t1, t2⟩ := he e hm
    have hdr : es.drop i = e :: es.drop (i + 1) := by
      obtain ⟨h1, h2⟩ := List.getElem?_eq_some_iff.mp hi
      rw [← h2]; exact List.drop_eq_getElem_cons h1
    rw [hdr, scanB_cons] at hsc
    have bad : okEnt ns.getLast? e = false → rlx Q (.bl false) M' := fun h => by
      rw [h, Bool.false_and] at hsc
      have q' : Q (.bl (scanB es none)) M := q
      rw [hsc] at q'
      exact rlx_at sub q'
    refine isi_tuple (told_sub sub t1) ?_
    cases e with
    | utup xs => exact absurd t1.2 (by intro h; cases h)
    | tup xs =>
      simp only [RNotN, RIsN, D.isN, isTup, isIB, isBl, isIntD, RLen, Bool.not_true, Bool.not_false, Bool.false_eq_true, Bool.not_eq_true, decide_true, decide_false, if_true, if_false, reduceIte, reduceCtorEq]
      refine ne_int ?_
      match xs, hi, hsc, hm, t1, t2, hdr, bad with
      | [], _, _, _, _, _, _, bad => exact bad rfl
      | [a], _, _, _, _, _, _, bad => exact bad (by cases a <;> rfl)
      | a :: b :: c :: r, _, _, _, _, _, _, bad =>
        rw [show (!decide (((a :: b :: c :: r : List D).length : Int) = 2)) = true by simp; omega]
        exact bad (by cases a <;> cases b <;> rfl)
      | [a, b], hi, hsc, hm, t1, t2, hdr, bad =>
        obtain ⟨ta, tb⟩ := t2 a b rfl
        show (2 : Nat) = 2 ∧ _
        refine ⟨rfl, ?_⟩
        dsimp only [TSeq, TNext, TBreak, TCont, TDrop, TRet, TRetN, TIfS, TNever, TAsg, GName, GNil, GCons, TPar, TTest, TAnd, TOr, TNot, TAndV, TOrV, TNotV, TIf, TVar, TC, TNil, TCons, TTup, TLst, TOp, TUn, TCB, TCall, TCallN, TBM, TAug, TGet1, TGet2, TPut, TYes, GSubL, TSl, TNoPart, TPart, TRev, TIt, TRng1, TRng2, TItems, TVals, TKeys, List.getElem?_cons_zero, List.getElem?_cons_succ, List.set_cons_zero, List.set_cons_succ, List.append_nil, List.nil_append, List.cons_append]
        refine ⟨a, rfl, told_sub sub ta, ?_⟩
        cases a with
        | int n =>
          refine ⟨b, rfl, told_sub sub tb, ?_⟩
          cases b with
          | int c =>
            show if decide (c < 1) = true then _ else _
            by_cases hc : c < 1
            · rw [if_pos (decide_eq_true hc)]
              exact bad (by simp only [okEnt]; rw [decide_eq_false (by omega)]; rfl)
            · rw [if_neg (by simpa using hc)]
              refine ⟨by decide, fun p2 hp2 => ?_⟩
              have s2 : SubM M' (updM M' p2 (.lst [])) := SubM.refl.new hp2
              refine ne_lints (ms := []) (s2 _ _ hp') updM_same ?_
              have app : ∀ M1, SubM M' M1 → okEnt ns.getLast? (.tup [.int n, .int c]) = true → TyL (.ref p) M1 ∧ RAppend (.ref p) [.int n] M1 fun x M1 => ∃ (x y z : Option D) (ns : List Int), [some (D.tup es), some (D.ref p), some (D.tup [D.int n, D.int c]), some (D.int n), some (D.int c)] = [some (D.tup es), some (D.ref p), x, y, z] ∧ SubM M M1 ∧ M1 p = some (MO.lst (List.map D.int ns)) ∧ ns.length = i + 1 ∧ scanB es none = scanB (List.drop (i + 1) es) ns.getLast? := fun M1 s1 ok => by
                have h1 := s1 _ _ hp'
                have hi' : i < es.length := (List.getElem?_eq_some_iff.mp hi).1
                refine ⟨⟨_, h1⟩, _, h1, by rw [List.length_map, hn]; omega, _, _, _, ns ++ [n], rfl, fun a o e => ?_, by rw [updM_same, List.map_append]; rfl, by simp [hn], ?_⟩
                · rw [updM_ne (neM e hp)]; exact s1 _ _ (sub _ _ e)
                · rw [hsc, ok, Bool.true_and, List.getLast?_append]; rfl
              rcases List.eq_nil_or_concat ns with rfl | ⟨ns', k, e0⟩
              · simp only [RNotN, RIsN, D.isN, isTup, isIB, isBl, isIntD, RLen, Bool.not_true, Bool.not_false, Bool.false_eq_true, Bool.not_eq_true, decide_true, decide_false, if_true, if_false, reduceIte, reduceCtorEq]
                exact app _ s2 (by simp [okEnt]; omega)
              · rw [List.concat_eq_append] at e0
                subst e0
                rw [show (!decide (ns' ++ [k] = [])) = true by simp]
                simp only [RNotN, RIsN, D.isN, isTup, isIB, isBl, isIntD, RLen, Bool.not_true, Bool.not_false, Bool.false_eq_true, Bool.not_eq_true, decide_true, decide_false, if_true, if_false, reduceIte, reduceCtorEq]
                refine ⟨ns'.map .int ++ [.int k], .int k, by rw [s2 _ _ hp', List.map_append]; rfl, atI_last, ?_⟩
                show if decide (n ≤ k) = true then _ else _
                by_cases hk : n ≤ k
                · rw [if_pos (decide_eq_true hk)]
                  refine rlx_up s2 (bad ?_)
                  rw [List.getLast?_append]
                  simp [okEnt]; omega
                · rw [if_neg (by simpa using hk)]
                  refine app _ s2 ?_
                  rw [List.getLast?_append]
                  simp [okEnt]; omega
          | _ => exact bad rfl
        | _ => exact bad (by cases b <;> rfl)
    | _ => exact bad rfl
  · rintro δ M' ⟨x, y, z, ns, rfl, sub, hp', hn, hsc⟩
    rw [List.drop_length] at hsc
    have q' : Q (.bl (scanB es none)) M := q
    rw [hsc] at q'
    exact rlx_at sub q'
theorem vc_check_bag : ∀ ds M Q E, S_check_bag ds M Q E → T_check_bag { nx := fun _ M' => rlx Q .non M', rt := rlx Q } (startD (["value"] : List Str).length ds) M := by
  rintro ds M Q E ⟨d, rfl, hs, hb, q⟩
  change T_check_bag _ [some d] M
  dsimp only [T_check_bag, TSeq, TNext, TBreak, TCont, TDrop, TRet, TRetN, TIfS, TNever, TAsg, GName, GNil, GCons, TPar, TTest, TAnd, TOr, TNot, TAndV, TOrV, TNotV, TIf, TVar, TC, TNil, TCons, TTup, TLst, TOp, TUn, TCB, TCall, TCallN, TBM, TAug, TGet1, TGet2, TPut, TYes, GSubL, TSl, TNoPart, TPart, TRev, TIt, TRng1, TRng2, TItems, TVals, TKeys, List.getElem?_cons_zero, List.getElem?_cons_succ, List.set_cons_zero, List.set_cons_succ, List.append_nil, List.nil_append, List.cons_append]
  refine ⟨d, rfl, hs, ?_⟩
  rw [hb]
  exact rlx_of q
theorem le6 {n : Nat} (h : Nat.ble n 1000000 = true) : n ≤ 1000000 := Nat.le_of_ble_eq_true h
/-! ### comprehensions, loops -/
theorem take_get {α : Type} {l : List α} {i : Nat} {x : α} (h : l[i]? = some x) : l.take (i + 1) = l.take i ++ [x] := by rw [List.take_add_one, h]; rfl
/-- a comprehension's turns, the items given -/
def lcB (items : List D) (G : Mh → Prop) (Tg : TGd) (Tt : TTd) (Te : TEd) (own : List Nat) (δ : Sd) (M1 : Mh) (Q : QE) : Prop := items.length ≤ 1000000 ∧ ∃ Iv : Nat → List D → Mh → Prop, Iv 0 [] M1 ∧ (∀ i acc M, Iv i acc M → G M) ∧
  (∀ (i : Nat) (d : D) acc M, items[i]? = some d → Iv i acc M → Tg d (wipeD δ own) M fun δ2 M2 => Tt δ2 M2 fun b M3 => if b = true then Te δ2 M3 fun y M4 => Iv (i + 1) (acc ++ [y]) M4 else Iv (i + 1) acc M3) ∧
  ∀ acc M', Iv items.length acc M' → ∀ p, M' p = none → Q (.ref p) (updM M' p (.lst acc))
theorem tlc {Ti : TId} {Tg : TGd} {Tt : TTd} {Te : TEd} {own : List Nat} {δ : Sd} {M : Mh} {Q : QE} (h : Ti δ M fun items G M1 => lcB items G Tg Tt Te own δ M1 Q) : TLc Ti Tg Tt Te own δ M Q := h
/-- a loop's turns -/
def forB (items : List D) (G : Mh → Prop) (Tg : TGd) (Tb : TSd) (E : Endd) (δ : Sd) (M1 : Mh) : Prop := ∃ Iv : Nat → Sd → Mh → Prop, Iv 0 δ M1 ∧ (∀ i δ M, Iv i δ M → G M) ∧
  (∀ (i : Nat) (d : D) δ M, items[i]? = some d → Iv i δ M → Tg d δ M fun δ2 M2 => Tb { E with nx := Iv (i + 1), ct := Iv (i + 1), bk := E.nx } δ2 M2) ∧ ∀ δ M, Iv items.length δ M → E.nx δ M
theorem tfor {Ti : TId} {Tg : TGd} {Tb : TSd} {E : Endd} {δ : Sd} {M : Mh} (h : Ti δ M fun items G M1 => forB items G Tg Tb E δ M1) : TFor Ti Tg Tb E δ M := h
/-- a comprehension whose turns only look: f tells what a turn gives -/
theorem lc_pure {items : List D} {G : Mh → Prop} {M : Mh} {δ : Sd} {Tg : TGd} {Tt : TTd} {Te : TEd} {own : List Nat} {Q : QE} (f : D → Option D) (hl : items.length ≤ 1000000) (hG : ∀ M', SubM M M' → G M')
    (step : ∀ (i : Nat) (d : D) (M' : Mh), items[i]? = some d → SubM M M' → ∀ N : Option D → Mh → Prop, (∀ M4, SubM M' M4 → N (f d) M4) → Tg d (wipeD δ own) M' fun δ2 M2 => Tt δ2 M2 fun b M3 => if b = true then Te δ2 M3 fun y M4 => N (some y) M4 else N none M3)
    (done : ∀ M', SubM M M' → ∀ p, M' p = none → Q (.ref p) (updM M' p (.lst (items.filterMap f)))) : lcB items G Tg Tt Te own δ M Q := by
  refine ⟨hl, fun i acc M' => SubM M M' ∧ acc = (items.take i).filterMap f, ⟨.refl, by simp⟩, fun i acc M' h => hG M' h.1, ?_, ?_⟩
  · rintro i d acc M' hi ⟨s, rfl⟩
    refine step i d M' hi s (fun o M4 => match o with | some y => SubM M M4 ∧ (items.take i).filterMap f ++ [y] = (items.take (i + 1)).filterMap f | none => SubM M M4 ∧ (items.take i).filterMap f = (items.take (i + 1)).filterMap f) fun M4 s4 => ?_
    have e : (items.take (i + 1)).filterMap f = (items.take i).filterMap f ++ (f d).toList := by
      rw [take_get hi, List.filterMap_append]
      cases e : f d <;> simp [e]
    rw [e]
    cases f d with
    | none => exact ⟨s.trans s4, by simp⟩
    | some y => exact ⟨s.trans s4, by simp⟩
  · rintro acc M' ⟨s, rfl⟩
    rw [List.take_length]
    exact done M' s
/-- a loop whose turns leave the data heap's tale: st i tells the slots before the turn i -/
theorem filterMap_pure {α β : Type} (f : α → β) (l : List α) : (l.filterMap fun x => some (f x)) = l.map f := by induction l with | nil => rfl | cons a r ih => simp [ih]
theorem bag_get {b : Bag} {i : Nat} {d : D} (hi : (b.map pairD)[i]? = some d) : ∃ p, b[i]? = some p ∧ d = pairD p := by
  rw [List.getElem?_map] at hi
  cases e : b[i]? with
  | none => rw [e] at hi; cases hi
  | some p => rw [e] at hi; exact ⟨p, rfl, (Option.some.inj hi).symm⟩
theorem wipe_len {δ : Sd} : ∀ vs, (wipeD δ vs).length = δ.length
  | [] => rfl
  | v :: vs => by unfold wipeD; rw [List.length_set, wipe_len vs]
theorem vc_total : ∀ ds M Q E, S_total ds M Q E → T_total { nx := fun _ M' => rlx Q .non M', rt := rlx Q } (startD (["bag", "number", "count"] : List Str).length ds) M := by
  rintro ds M Q E ⟨b, rfl, hl, q⟩
  change T_total _ [some (bagD b), none, none] M
  dsimp only [T_total, TSeq, TNext, TBreak, TCont, TDrop, TRet, TRetN, TIfS, TNever, TAsg, GName, GNil, GCons, TPar, TTest, TAnd, TOr, TNot, TAndV, TOrV, TNotV, TIf, TVar, TC, TNil, TCons, TTup, TLst, TOp, TUn, TCB, TCall, TCallN, TBM, TAug, TGet1, TGet2, TPut, TYes, GSubL, TSl, TNoPart, TPart, TRev, TIt, TRng1, TRng2, TItems, TVals, TKeys, List.getElem?_cons_zero, List.getElem?_cons_succ, List.set_cons_zero, List.set_cons_succ, List.append_nil, List.nil_append, List.cons_append]
  refine tlc ?_
  dsimp only [TSeq, TNext, TBreak, TCont, TDrop, TRet, TRetN, TIfS, TNever, TAsg, GName, GNil, GCons, TPar, TTest, TAnd, TOr, TNot, TAndV, TOrV, TNotV, TIf, TVar, TC, TNil, TCons, TTup, TLst, TOp, TUn, TCB, TCall, TCallN, TBM, TAug, TGet1, TGet2, TPut, TYes, GSubL, TSl, TNoPart, TPart, TRev, TIt, TRng1, TRng2, TItems, TVals, TKeys, List.getElem?_cons_zero, List.getElem?_cons_succ, List.set_cons_zero, List.set_cons_succ, List.append_nil, List.nil_append, List.cons_append, bagD]
  refine lc_pure (fun d => match d with | .tup [_, c] => some c | _ => none) ?_ (fun _ _ => trivial) ?_ ?_
  · simp; omega
  · intro i d M' hi s N hN
    obtain ⟨p, hp, rfl⟩ := bag_get hi
    exact ⟨rfl, hN M' .refl⟩
  · intro M' s p hp
    have e : ((b.map pairD).filterMap fun d => match d with | .tup [_, c] => some c | _ => none) = (b.map (·.2)).map D.int := by
      rw [List.filterMap_map]
      exact (filterMap_pure (fun p : Int × Int => D.int p.2) b).trans (by rw [List.map_map]; rfl)
    rw [e]
    exact ⟨_, updM_same, rlx_at (s.new hp) q⟩
theorem fm_if {α β : Type} (p : α → Bool) (g : α → β) (l : List α) : (l.filterMap fun x => if p x = true then some (g x) else none) = (l.filter p).map g := by
  induction l with
  | nil => rfl
  | cons a r ih => cases h : p a <;> simp [h, ih]
theorem vc_level : ∀ ds M Q E, S_level ds M Q E → T_level { nx := fun _ M' => rlx Q .non M', rt := rlx Q } (startD (["bag", "number", "one", "count"] : List Str).length ds) M := by
  rintro ds M Q E ⟨b, n, rfl, hl, q⟩
  change T_level _ [some (bagD b), some (.int n), none, none] M
  dsimp only [T_level, TSeq, TNext, TBreak, TCont, TDrop, TRet, TRetN, TIfS, TNever, TAsg, GName, GNil, GCons, TPar, TTest, TAnd, TOr, TNot, TAndV, TOrV, TNotV, TIf, TVar, TC, TNil, TCons, TTup, TLst, TOp, TUn, TCB, TCall, TCallN, TBM, TAug, TGet1, TGet2, TPut, TYes, GSubL, TSl, TNoPart, TPart, TRev, TIt, TRng1, TRng2, TItems, TVals, TKeys, List.getElem?_cons_zero, List.getElem?_cons_succ, List.set_cons_zero, List.set_cons_succ, List.append_nil, List.nil_append, List.cons_append]
  refine tlc ?_
  dsimp only [TSeq, TNext, TBreak, TCont, TDrop, TRet, TRetN, TIfS, TNever, TAsg, GName, GNil, GCons, TPar, TTest, TAnd, TOr, TNot, TAndV, TOrV, TNotV, TIf, TVar, TC, TNil, TCons, TTup, TLst, TOp, TUn, TCB, TCall, TCallN, TBM, TAug, TGet1, TGet2, TPut, TYes, GSubL, TSl, TNoPart, TPart, TRev, TIt, TRng1, TRng2, TItems, TVals, TKeys, List.getElem?_cons_zero, List.getElem?_cons_succ, List.set_cons_zero, List.set_cons_succ, List.append_nil, List.nil_append, List.cons_append, bagD]
  refine lc_pure (fun d => match d with | .tup [.int k, c] => if decide (k ≤ n) = true then some c else none | _ => none) ?_ (fun _ _ => trivial) ?_ ?_
  · simp; omega
  · intro i d M' hi s N hN
    obtain ⟨p, hp, rfl⟩ := bag_get hi
    refine ⟨rfl, ?_⟩
    have h := hN M' .refl
    show if decide (p.1 ≤ n) = true then N (some (.int p.2)) M' else N none M'
    have h' : N (if decide (p.1 ≤ n) = true then some (.int p.2) else none) M' := h
    split <;> rename_i c
    · rw [if_pos c] at h'; exact h'
    · rw [if_neg c] at h'; exact h'
  · intro M' s p hp
    have e : ((b.map pairD).filterMap fun d => match d with | .tup [.int k, c] => if decide (k ≤ n) = true then some c else none | _ => none) = ((b.filter fun p => decide (p.1 ≤ n)).map (·.2)).map D.int := by
      rw [List.filterMap_map]
      exact (fm_if (fun p : Int × Int => decide (p.1 ≤ n)) (fun p : Int × Int => D.int p.2) b).trans (by rw [List.map_map]; rfl)
    rw [e]
    exact ⟨_, updM_same, rlx_at (s.new hp) q⟩
theorem vc_insert_steps : ∀ ds M Q E, S_insert_steps ds M Q E → T_insert_steps { nx := fun _ M' => rlx Q .non M', rt := rlx Q } (startD (["bag", "number", "count"] : List Str).length ds) M := by
  rintro ds M Q E ⟨b, rfl, hl, q⟩
  change T_insert_steps _ [some (bagD b), none, none] M
  dsimp only [T_insert_steps, TSeq, TNext, TBreak, TCont, TDrop, TRet, TRetN, TIfS, TNever, TAsg, GName, GNil, GCons, TPar, TTest, TAnd, TOr, TNot, TAndV, TOrV, TNotV, TIf, TVar, TC, TNil, TCons, TTup, TLst, TOp, TUn, TCB, TCall, TCallN, TBM, TAug, TGet1, TGet2, TPut, TYes, GSubL, TSl, TNoPart, TPart, TRev, TIt, TRng1, TRng2, TItems, TVals, TKeys, List.getElem?_cons_zero, List.getElem?_cons_succ, List.set_cons_zero, List.set_cons_succ, List.append_nil, List.nil_append, List.cons_append]
  refine tlc ?_
  dsimp only [TSeq, TNext, TBreak, TCont, TDrop, TRet, TRetN, TIfS, TNever, TAsg, GName, GNil, GCons, TPar, TTest, TAnd, TOr, TNot, TAndV, TOrV, TNotV, TIf, TVar, TC, TNil, TCons, TTup, TLst, TOp, TUn, TCB, TCall, TCallN, TBM, TAug, TGet1, TGet2, TPut, TYes, GSubL, TSl, TNoPart, TPart, TRev, TIt, TRng1, TRng2, TItems, TVals, TKeys, List.getElem?_cons_zero, List.getElem?_cons_succ, List.set_cons_zero, List.set_cons_succ, List.append_nil, List.nil_append, List.cons_append, bagD]
  refine lc_pure (fun d => match d with | .tup [k, c] => some (.tup [.str "insert", k, c]) | _ => none) ?_ (fun _ _ => trivial) ?_ ?_
  · simp; omega
  · intro i d M' hi s N hN
    obtain ⟨p, hp, rfl⟩ := bag_get hi
    exact ⟨rfl, le6 rfl, hN M' .refl⟩
  · intro M' s p hp
    have e : ((b.map pairD).filterMap fun d => match d with | .tup [k, c] => some (.tup [.str "insert", k, c]) | _ => none) = b.map insD := by
      rw [List.filterMap_map]
      exact filterMap_pure insD b
    rw [e]
    exact ⟨_, updM_same, rlx_at (s.new hp) q⟩
theorem vc_from_counts : ∀ ds M Q E, S_from_counts ds M Q E → T_from_counts { nx := fun _ M' => rlx Q .non M', rt := rlx Q } (startD (["counts", "number", "count"] : List Str).length ds) M := by
  rintro ds M Q E ⟨a, ps, rfl, ha, hl, q⟩
  change T_from_counts _ [some (.ref a), none, none] M
  dsimp only [T_from_counts, TSeq, TNext, TBreak, TCont, TDrop, TRet, TRetN, TIfS, TNever, TAsg, GName, GNil, GCons, TPar, TTest, TAnd, TOr, TNot, TAndV, TOrV, TNotV, TIf, TVar, TC, TNil, TCons, TTup, TLst, TOp, TUn, TCB, TCall, TCallN, TBM, TAug, TGet1, TGet2, TPut, TYes, GSubL, TSl, TNoPart, TPart, TRev, TIt, TRng1, TRng2, TItems, TVals, TKeys, List.getElem?_cons_zero, List.getElem?_cons_succ, List.set_cons_zero, List.set_cons_succ, List.append_nil, List.nil_append, List.cons_append, TLkE]
  refine ⟨a, _, ha, fun o ws => tlc ?_⟩
  dsimp only [TSeq, TNext, TBreak, TCont, TDrop, TRet, TRetN, TIfS, TNever, TAsg, GName, GNil, GCons, TPar, TTest, TAnd, TOr, TNot, TAndV, TOrV, TNotV, TIf, TVar, TC, TNil, TCons, TTup, TLst, TOp, TUn, TCB, TCall, TCallN, TBM, TAug, TGet1, TGet2, TPut, TYes, GSubL, TSl, TNoPart, TPart, TRev, TIt, TRng1, TRng2, TItems, TVals, TKeys, List.getElem?_cons_zero, List.getElem?_cons_succ, List.set_cons_zero, List.set_cons_succ, List.append_nil, List.nil_append, List.cons_append]
  refine ⟨o, ws, _, updM_same, ?_⟩
  refine lc_pure (fun d => match d with | .utup [k, .int c] => if decide (0 < c) = true then some (.tup [k, .int c]) else none | _ => none) ?_ (fun M' s => s _ _ updM_same) ?_ ?_
  · simp; omega
  · intro i d M' hi s N hN
    obtain ⟨p, hp, rfl⟩ : ∃ p, ps[i]? = some p ∧ d = .utup [.int p.1, .int p.2] := by
      rw [List.getElem?_map, List.getElem?_map] at hi
      cases e : ps[i]? with
      | none => rw [e] at hi; cases hi
      | some p => rw [e] at hi; exact ⟨p, rfl, (Option.some.inj hi).symm⟩
    refine ⟨rfl, ?_⟩
    have h' : N (if decide (0 < p.2) = true then some (.tup [.int p.1, .int p.2]) else none) M' := hN M' .refl
    show if decide (0 < p.2) = true then ([D.int p.1, D.int p.2].length ≤ 1000000 ∧ N (some (.tup [.int p.1, .int p.2])) M') else N none M'
    split <;> rename_i c
    · rw [if_pos c] at h'; exact ⟨le6 rfl, h'⟩
    · rw [if_neg c] at h'; exact h'
  · intro M' s p hp
    have e : (((dictD ps).map fun q => D.utup [datK q.1, q.2]).filterMap fun d => match d with | D.utup [k, .int c] => if decide (0 < c) = true then some (D.tup [k, .int c]) else none | _ => none) = (ps.filter fun p => decide (0 < p.2)).map pairD := by
      rw [List.map_map, List.filterMap_map]
      exact fm_if (fun p : Int × Int => decide (0 < p.2)) pairD ps
    rw [e]
    have na : a ≠ p := fun z => by rw [← z, s _ _ updM_same] at hp; cases hp
    refine ⟨by rw [updM_ne na]; exact s _ _ updM_same, ?_⟩
    refine .inr ⟨_, by rw [updM_ne na.symm]; exact updM_same, fun p2 hp2 => ⟨_, updM_same, ?_⟩⟩
    refine rlx_at (SubM.new (fun b u e => ?_) hp2) q
    by_cases hb : b = a
    · subst hb; rw [updM_same, ← ha, e]
    · rw [updM_ne hb]
      have e' := s b u (by rw [updM_ne hb]; exact e)
      rw [updM_ne (neM e' hp)]; exact e'
theorem vc__law_bag (w : World) : ∀ ds M Q E, S__law_bag ds M Q E → T__law_bag w { nx := fun _ M' => rlx Q .non M', rt := rlx Q } (startD (["numbers", "number"] : List Str).length ds) M := by
  rintro ds M Q E ⟨a, ns, rfl, ha, hl, q⟩
  change T__law_bag w _ [some (.ref a), none] M
  dsimp only [T__law_bag, TSeq, TNext, TBreak, TCont, TDrop, TRet, TRetN, TIfS, TNever, TAsg, GName, GNil, GCons, TPar, TTest, TAnd, TOr, TNot, TAndV, TOrV, TNotV, TIf, TVar, TC, TNil, TCons, TTup, TLst, TOp, TUn, TCB, TCall, TCallN, TBM, TAug, TGet1, TGet2, TPut, TYes, GSubL, TSl, TNoPart, TPart, TRev, TIt, TRng1, TRng2, TItems, TVals, TKeys, List.getElem?_cons_zero, List.getElem?_cons_succ, List.set_cons_zero, List.set_cons_succ, List.append_nil, List.nil_append, List.cons_append]
  refine tlc ?_
  dsimp only [TSeq, TNext, TBreak, TCont, TDrop, TRet, TRetN, TIfS, TNever, TAsg, GName, GNil, GCons, TPar, TTest, TAnd, TOr, TNot, TAndV, TOrV, TNotV, TIf, TVar, TC, TNil, TCons, TTup, TLst, TOp, TUn, TCB, TCall, TCallN, TBM, TAug, TGet1, TGet2, TPut, TYes, GSubL, TSl, TNoPart, TPart, TRev, TIt, TRng1, TRng2, TItems, TVals, TKeys, List.getElem?_cons_zero, List.getElem?_cons_succ, List.set_cons_zero, List.set_cons_succ, List.append_nil, List.nil_append, List.cons_append]
  refine ⟨ns, ha, by omega, fun p hp => ?_⟩
  have hu : (uniqI ns).length ≤ ns.length := by
    have h1 : ∀ l : List Int, (ded l).length ≤ l.length := fun l => by
      induction l with
      | nil => exact Nat.le_refl _
      | cons x r ih => unfold ded; split <;> simp <;> omega
    unfold uniqI
    rw [(sortI_perm _).length_eq]; exact h1 ns
  refine ⟨uniqI ns, updM_same, by omega, uniqI_lt ns, fun p1 hp1 => ?_⟩
  dsimp only
  refine ⟨_, updM_same, ?_⟩
  have ha1 : updM (updM M p (.set w (uniqI ns))) p1 (.lst ((uniqI ns).map .int)) a = some (.lst (ns.map .int)) := by
    have n1 : a ≠ p := neM ha hp
    have n2 : a ≠ p1 := fun z => by rw [← z, updM_ne n1, ha] at hp1; cases hp1
    rw [updM_ne n2, updM_ne n1]; exact ha
  refine lc_pure (fun d => match d with | .int k => some (pairD (k, (ns.count k : Int))) | _ => none) ?_ (fun M' s => s _ _ updM_same) ?_ ?_
  · simp; omega
  · intro i d M' hi s N hN
    obtain ⟨k, hk, rfl⟩ : ∃ k, (uniqI ns)[i]? = some k ∧ d = .int k := by
      rw [List.getElem?_map] at hi
      cases e : (uniqI ns)[i]? with
      | none => rw [e] at hi; cases hi
      | some p => rw [e] at hi; exact ⟨p, rfl, (Option.some.inj hi).symm⟩
    have ha2 := s _ _ ha1
    exact ⟨⟨_, ha2⟩, ns, ha2, le6 rfl, hN M' .refl⟩
  · intro M' s p2 hp2
    have e : (((uniqI ns).map D.int).filterMap fun d => match d with | .int k => some (pairD (k, (ns.count k : Int))) | _ => none) = (bagL ns).map pairD := by
      rw [List.filterMap_map]
      exact (filterMap_pure (fun k => pairD (k, (ns.count k : Int))) (uniqI ns)).trans (by unfold bagL; rw [List.map_map]; rfl)
    rw [e]
    refine ⟨_, updM_same, rlx_at (SubM.new (fun b u e => s b u ?_) hp2) q⟩
    exact (SubM.new (SubM.refl.new hp) hp1) b u e
theorem drop_get {α : Type} {l : List α} {i : Nat} {x : α} (h : l[i]? = some x) : l.drop i = x :: l.drop (i + 1) := by
  obtain ⟨h1, h2⟩ := List.getElem?_eq_some_iff.mp h
  rw [← h2]; exact List.drop_eq_getElem_cons h1
theorem get_lt {α : Type} {l : List α} {i : Nat} {x : α} (h : l[i]? = some x) : i < l.length := (List.getElem?_eq_some_iff.mp h).1
theorem vc_drop : ∀ ds M Q E, S_drop ds M Q E → T_drop { nx := fun _ M' => rlx Q .non M', rt := rlx Q } (startD (["bag", "count", "left", "kept", "number", "many", "dropped"] : List Str).length ds) M := by
  rintro ds M Q E ⟨b, k, rfl, hl, q⟩
  change T_drop _ [some (bagD b), some (.int k), none, none, none, none, none] M
  dsimp only [T_drop, TSeq, TNext, TBreak, TCont, TDrop, TRet, TRetN, TIfS, TNever, TAsg, GName, GNil, GCons, TPar, TTest, TAnd, TOr, TNot, TAndV, TOrV, TNotV, TIf, TVar, TC, TNil, TCons, TTup, TLst, TOp, TUn, TCB, TCall, TCallN, TBM, TAug, TGet1, TGet2, TPut, TYes, GSubL, TSl, TNoPart, TPart, TRev, TIt, TRng1, TRng2, TItems, TVals, TKeys, List.getElem?_cons_zero, List.getElem?_cons_succ, List.set_cons_zero, List.set_cons_succ, List.append_nil, List.nil_append, List.cons_append]
  refine ⟨le6 rfl, fun p hp => ?_⟩
  refine tfor ?_
  dsimp only [TSeq, TNext, TBreak, TCont, TDrop, TRet, TRetN, TIfS, TNever, TAsg, GName, GNil, GCons, TPar, TTest, TAnd, TOr, TNot, TAndV, TOrV, TNotV, TIf, TVar, TC, TNil, TCons, TTup, TLst, TOp, TUn, TCB, TCall, TCallN, TBM, TAug, TGet1, TGet2, TPut, TYes, GSubL, TSl, TNoPart, TPart, TRev, TIt, TRng1, TRng2, TItems, TVals, TKeys, List.getElem?_cons_zero, List.getElem?_cons_succ, List.set_cons_zero, List.set_cons_succ, List.append_nil, List.nil_append, List.cons_append, bagD]
  refine ⟨fun i δ M' => ∃ (x y z : Option D) (l : Int) (ks : Bag), δ = [some (.tup (b.map pairD)), some (.int k), some (.int l), some (.ref p), x, y, z] ∧ SubM M M' ∧ M' p = some (.lst (ks.map pairD)) ∧ ks.length ≤ i ∧ dropB b k = ks ++ dropB (b.drop i) l, ?_, fun _ _ _ _ => trivial, ?_, ?_⟩
  · exact ⟨none, none, none, k, [], rfl, SubM.refl.new hp, updM_same, Nat.le_refl _, rfl⟩
  · rintro i d δ M' hi ⟨x, y, z, l, ks, rfl, sub, hp', hn, hd⟩
    obtain ⟨⟨n, m⟩, hb, rfl⟩ := bag_get hi
    have hi' := get_lt hb
    rw [drop_get hb] at hd
    refine ⟨rfl, ?_⟩
    dsimp only [TSeq, TNext, TBreak, TCont, TDrop, TRet, TRetN, TIfS, TNever, TAsg, GName, GNil, GCons, TPar, TTest, TAnd, TOr, TNot, TAndV, TOrV, TNotV, TIf, TVar, TC, TNil, TCons, TTup, TLst, TOp, TUn, TCB, TCall, TCallN, TBM, TAug, TGet1, TGet2, TPut, TYes, GSubL, TSl, TNoPart, TPart, TRev, TIt, TRng1, TRng2, TItems, TVals, TKeys, List.getElem?_cons_zero, List.getElem?_cons_succ, List.set_cons_zero, List.set_cons_succ, List.append_nil, List.nil_append, List.cons_append]
    show if decide (min l m < m) = true then _ else _
    have hd : dropB b k = ks ++ (if min l m < m then (n, m - min l m) :: dropB (b.drop (i + 1)) (l - min l m) else dropB (b.drop (i + 1)) (l - min l m)) := hd
    by_cases c : min l m < m
    · rw [if_pos (decide_eq_true c)]
      rw [if_pos c] at hd
      refine ⟨⟨_, hp'⟩, le6 rfl, _, hp', by rw [List.length_map]; omega, ?_⟩
      exact ⟨_, _, _, l - min l m, ks ++ [(n, m - min l m)], rfl, fun a o e => by rw [updM_ne (neM e hp)]; exact sub _ _ e, by rw [updM_same, List.map_append]; rfl, by simp; omega, by rw [hd, List.append_assoc]; rfl⟩
    · rw [if_neg (by simpa using c)]
      rw [if_neg c] at hd
      exact ⟨_, _, _, l - min l m, ks, rfl, sub, hp', by omega, hd⟩
  · rintro δ M' ⟨x, y, z, l, ks, rfl, sub, hp', hn, hd⟩
    dsimp only [TSeq, TNext, TBreak, TCont, TDrop, TRet, TRetN, TIfS, TNever, TAsg, GName, GNil, GCons, TPar, TTest, TAnd, TOr, TNot, TAndV, TOrV, TNotV, TIf, TVar, TC, TNil, TCons, TTup, TLst, TOp, TUn, TCB, TCall, TCallN, TBM, TAug, TGet1, TGet2, TPut, TYes, GSubL, TSl, TNoPart, TPart, TRev, TIt, TRng1, TRng2, TItems, TVals, TKeys, List.getElem?_cons_zero, List.getElem?_cons_succ, List.set_cons_zero, List.set_cons_succ, List.append_nil, List.nil_append, List.cons_append]
    rw [List.length_map, List.drop_length] at hd
    refine ⟨_, hp', rlx_at sub ?_⟩
    rw [show ks = dropB b k by rw [hd]; simp [dropB]]
    exact q
/-! ### counts -/
theorem getI_val (b : Bag) (k : Int) : valD (dictD b) (Sum.inl k) = (getI b k).map D.int := by
  induction b with
  | nil => rfl
  | cons p r ih =>
    show (if (Sum.inl p.1 : Key) = Sum.inl k then some (D.int p.2) else valD (dictD r) (Sum.inl k)) = _
    unfold getI
    by_cases h : p.1 = k
    · rw [if_pos h, if_pos (by rw [h])]; rfl
    · rw [if_neg h, if_neg (fun z => h (Sum.inl.inj z))]; exact ih
theorem cnt_val (b : Bag) (k : Int) : (valD (dictD b) (Sum.inl k)).getD (.int 0) = .int (cnt b k) := by
  rw [getI_val]
  unfold cnt
  cases getI b k <;> rfl
theorem getI_none {b : Bag} {k : Int} : getI b k = none ↔ ∀ p ∈ b, p.1 ≠ k := by
  induction b with
  | nil => simp [getI]
  | cons p r ih => unfold getI; split <;> simp_all
theorem getI_mem {b : Bag} {k v : Int} (h : getI b k = some v) : (k, v) ∈ b := by
  induction b with
  | nil => cases h
  | cons p r ih =>
    unfold getI at h
    split at h
    · rename_i e
      cases h; subst e; exact List.mem_cons_self
    · exact List.mem_cons_of_mem _ (ih h)
theorem getI_of {b : Bag} (nd : (b.map (·.1)).Nodup) {k v : Int} (h : (k, v) ∈ b) : getI b k = some v := by
  induction b with
  | nil => cases h
  | cons p r ih =>
    unfold getI
    rcases List.mem_cons.mp h with e | e
    · subst e; rw [if_pos rfl]
    · have : p.1 ≠ k := fun z => (List.nodup_cons.mp nd).1 (List.mem_map.mpr ⟨(k, v), e, z.symm⟩)
      rw [if_neg this]
      exact ih (List.nodup_cons.mp nd).2 e
/-- the same table with another count -/
def putI (b : Bag) (k v : Int) : Bag := if (b.any fun p => decide (p.1 = k)) = true then b.map (fun p => if p.1 = k then (p.1, v) else p) else b ++ [(k, v)]
theorem putI_dict (b : Bag) (k v : Int) : putD (dictD b) (Sum.inl k) (.int v) = dictD (putI b k v) := by
  have e : ((dictD b).any fun p => decide (p.1 = (Sum.inl k : Key))) = b.any fun p => decide (p.1 = k) := by
    unfold dictD
    rw [List.any_map]
    congr 1; funext p; simp
  unfold putD putI
  rw [e]
  split
  · unfold dictD
    rw [List.map_map, List.map_map]
    congr 1; funext p
    by_cases h : p.1 = k <;> simp [h]
  · unfold dictD; rw [List.map_append]; rfl
theorem getI_append (a b : Bag) (k : Int) : getI (a ++ b) k = (getI a k).or (getI b k) := by
  induction a with
  | nil => rfl
  | cons p r ih => simp only [List.cons_append, getI]; split <;> simp_all
theorem putI_keys {b : Bag} {k v : Int} (nd : (b.map (·.1)).Nodup) : ((putI b k v).map (·.1)).Nodup := by
  unfold putI
  split
  · rw [List.map_map]
    have : (b.map ((fun p : Int × Int => p.1) ∘ fun p => if p.1 = k then (p.1, v) else p)) = b.map (·.1) := List.map_congr_left fun p _ => by show (if p.1 = k then (p.1, v) else p).1 = p.1; split <;> rfl
    rw [this]; exact nd
  · rename_i h
    rw [List.map_append]
    refine List.nodup_append.mpr ⟨nd, by simp, fun a ha c hc => ?_⟩
    have hc' : c = k := by simpa using hc
    subst hc'
    obtain ⟨p, hp, rfl⟩ := List.mem_map.mp ha
    exact fun z => h (List.any_eq_true.mpr ⟨p, hp, by simpa using z⟩)
theorem cnt_put {b : Bag} {k v j : Int} : cnt (putI b k v) j = if j = k then v else cnt b j := by
  have h := congrArg (fun o : Option D => o.getD (.int 0)) (show valD (dictD (putI b k v)) (Sum.inl j) = _ from by rw [← putI_dict, valD_put])
  rw [cnt_val] at h
  by_cases c : j = k
  · rw [if_pos (by rw [c])] at h
    rw [if_pos c]; exact D.int.inj h
  · rw [if_neg (fun z => c (Sum.inl.inj z))] at h
    rw [if_neg c]
    rw [cnt_val] at h
    exact D.int.inj h
theorem putI_len {b : Bag} {k v : Int} : (putI b k v).length ≤ b.length + 1 := by unfold putI; split <;> simp
theorem keyPrs_bag (b : Bag) : keyPrs (b.map pairD) = some (dictD b) := by
  induction b with
  | nil => rfl
  | cons p r ih => simp only [List.map_cons, keyPrs, ih]; rfl
theorem BagOk.nd {b : Bag} (h : BagOk b) : (b.map (·.1)).Nodup := by
  have := h.asc
  unfold List.Nodup
  rw [List.pairwise_map]
  exact this.imp fun h => by omega
theorem merge_new : ∀ (b a : Bag), ((a ++ b).map (·.1)).Nodup → mergeD (dictD a) (dictD b) = dictD (a ++ b)
  | [], a, _ => by rw [List.append_nil]; rfl
  | p :: r, a, nd => by
    show mergeD (putD (dictD a) (Sum.inl p.1) (.int p.2)) (dictD r) = _
    have h : ¬ (a.any fun q => decide (q.1 = p.1)) = true := by
      intro h
      obtain ⟨q, hq, e⟩ := List.any_eq_true.mp h
      rw [List.map_append, List.nodup_append] at nd
      exact nd.2.2 q.1 (List.mem_map_of_mem hq) p.1 (by simp) (of_decide_eq_true e)
    rw [putI_dict]
    unfold putI
    rw [if_neg h]
    rw [merge_new r (a ++ [(p.1, p.2)]) (by rw [List.append_assoc]; exact nd), List.append_assoc]
    rfl
theorem merge_bag {b : Bag} (nd : (b.map (·.1)).Nodup) : mergeD [] (dictD b) = dictD b := merge_new b [] nd
theorem leP_total (p q : Int × Int) : (leP p q || leP q p) = true := by
  unfold leP
  by_cases h : p.1 < q.1 ∨ (p.1 = q.1 ∧ p.2 ≤ q.2)
  · simp [h]
  · have : q.1 < p.1 ∨ (q.1 = p.1 ∧ q.2 ≤ p.2) := by omega
    simp [this]
theorem leP_trans (p q r : Int × Int) : leP p q = true → leP q r = true → leP p r = true := by
  unfold leP
  simp only [decide_eq_true_eq]
  omega
theorem sortP_perm (ps : Bag) : (sortP ps).Perm ps := List.mergeSort_perm _ _
theorem sortP_asc {ps : Bag} (nd : (ps.map (·.1)).Nodup) : (sortP ps).Pairwise fun p q => p.1 < q.1 := by
  have h := List.pairwise_mergeSort (le := leP) leP_trans leP_total ps
  have nd' : ((sortP ps).map (·.1)).Nodup := ((sortP_perm ps).map _).nodup_iff.mpr nd
  have nd2 : (sortP ps).Pairwise fun p q => p.1 ≠ q.1 := by
    have := nd'
    unfold List.Nodup at this
    rw [List.pairwise_map] at this
    exact this
  refine (h.and nd2).imp fun {a b} ⟨h1, h2⟩ => ?_
  unfold leP at h1
  simp only [decide_eq_true_eq] at h1
  omega
theorem cnt_mem {b : Bag} (nd : (b.map (·.1)).Nodup) {p : Int × Int} (h : p ∈ b) : cnt b p.1 = p.2 := by unfold cnt; rw [getI_of nd (k := p.1) (v := p.2) h]; rfl
theorem cnt_pos {b : Bag} {k : Int} (h : cnt b k ≠ 0) : (k, cnt b k) ∈ b := by
  unfold cnt at h ⊢
  cases e : getI b k with
  | none => rw [e] at h; exact absurd rfl h
  | some v => exact getI_mem e
theorem BagOk.cnt0 {b : Bag} (h : BagOk b) (k : Int) : 0 ≤ cnt b k := by
  by_cases c : cnt b k = 0
  · omega
  · have := h.pos _ (cnt_pos c); dsimp only at this; omega
/-- what is left of a table of counts -/
theorem left_cnt {ps : Bag} (nd : (ps.map (·.1)).Nodup) (h0 : ∀ p ∈ ps, 0 ≤ p.2) (k : Int) : cnt (sortP (ps.filter fun p => decide (0 < p.2))) k = cnt ps k := by
  have nf : ((ps.filter fun p => decide (0 < p.2)).map (·.1)).Nodup := (List.filter_sublist.map _).nodup nd
  have ns : ((sortP (ps.filter fun p => decide (0 < p.2))).map (·.1)).Nodup := ((sortP_perm _).map _).nodup_iff.mpr nf
  by_cases c : cnt ps k = 0
  · rw [c]
    by_cases c2 : cnt (sortP (ps.filter fun p => decide (0 < p.2))) k = 0
    · exact c2
    · have h1 := cnt_pos c2
      rw [(sortP_perm _).mem_iff, List.mem_filter] at h1
      have h2 := cnt_mem nd h1.1
      dsimp only at h2
      omega
  · have h1 := cnt_pos c
    have h2 := h0 _ h1
    dsimp only at h2
    have h3 : (k, cnt ps k) ∈ sortP (ps.filter fun p => decide (0 < p.2)) := by
      rw [(sortP_perm _).mem_iff, List.mem_filter]
      exact ⟨h1, decide_eq_true (by dsimp only; omega)⟩
    exact cnt_mem ns h3
theorem left_ok {ps : Bag} (nd : (ps.map (·.1)).Nodup) (hl : ps.length ≤ 10000) (hs : ∀ p ∈ ps, p.2 < 2 ^ 1000) : BagOk (sortP (ps.filter fun p => decide (0 < p.2))) where
  asc := sortP_asc ((List.filter_sublist.map _).nodup nd)
  pos := fun p hp => by
    rw [(sortP_perm _).mem_iff, List.mem_filter] at hp
    have := of_decide_eq_true hp.2
    omega
  fit := by rw [(sortP_perm _).length_eq]; exact Nat.le_trans (List.length_filter_le _ _) hl
  small := fun p hp => by
    rw [(sortP_perm _).mem_iff, List.mem_filter] at hp
    exact hs p hp.1
theorem cnt_snoc {a : Bag} {n m : Int} (nd : ((a ++ [(n, m)]).map (·.1)).Nodup) (j : Int) : cnt (a ++ [(n, m)]) j = cnt a j + if j = n then m else 0 := by
  unfold cnt
  rw [getI_append]
  by_cases c : j = n
  · subst c
    have e : getI a j = none := getI_none.mpr fun p hp z => by
      rw [List.map_append, List.nodup_append] at nd
      exact nd.2.2 p.1 (List.mem_map_of_mem hp) j (by simp) z
    rw [e]
    simp [getI]
  · have e : getI [(n, m)] j = none := by simp [getI, Ne.symm c]
    rw [e, if_neg c]
    cases getI a j <;> simp
theorem vc_subtract : ∀ ds M Q E, S_subtract ds M Q E → T_subtract { nx := fun _ M' => rlx Q .non M', rt := rlx Q } (startD (["bag", "other", "counts", "number", "count"] : List Str).length ds) M := by
  rintro ds M Q E ⟨b, c, rfl, hb, hc, hl, qn, qr⟩
  change T_subtract _ [some (bagD b), some (bagD c), none, none, none] M
  dsimp only [T_subtract, TSeq, TNext, TBreak, TCont, TDrop, TRet, TRetN, TIfS, TNever, TAsg, GName, GNil, GCons, TPar, TTest, TAnd, TOr, TNot, TAndV, TOrV, TNotV, TIf, TVar, TC, TNil, TCons, TTup, TLst, TOp, TUn, TCB, TCall, TCallN, TBM, TAug, TGet1, TGet2, TPut, TYes, GSubL, TSl, TNoPart, TPart, TRev, TIt, TRng1, TRng2, TItems, TVals, TKeys, List.getElem?_cons_zero, List.getElem?_cons_succ, List.set_cons_zero, List.set_cons_succ, List.append_nil, List.nil_append, List.cons_append, bagD]
  refine ⟨_, keyPrs_bag b, fun p hp => ?_⟩
  rw [merge_bag hb.nd]
  refine tfor ?_
  dsimp only [TSeq, TNext, TBreak, TCont, TDrop, TRet, TRetN, TIfS, TNever, TAsg, GName, GNil, GCons, TPar, TTest, TAnd, TOr, TNot, TAndV, TOrV, TNotV, TIf, TVar, TC, TNil, TCons, TTup, TLst, TOp, TUn, TCB, TCall, TCallN, TBM, TAug, TGet1, TGet2, TPut, TYes, GSubL, TSl, TNoPart, TPart, TRev, TIt, TRng1, TRng2, TItems, TVals, TKeys, List.getElem?_cons_zero, List.getElem?_cons_succ, List.set_cons_zero, List.set_cons_succ, List.append_nil, List.nil_append, List.cons_append]
  refine ⟨fun i δ M' => ∃ (x y : Option D) (ps : Bag), δ = [some (.tup (b.map pairD)), some (.tup (c.map pairD)), some (.ref p), x, y] ∧ SubM M M' ∧ M' p = some (.dK (dictD ps)) ∧ ps.length ≤ b.length + i ∧ (ps.map (·.1)).Nodup ∧ ∀ k, cnt ps k = cnt b k - cnt (c.take i) k, ?_, fun _ _ _ _ => trivial, ?_, ?_⟩
  · exact ⟨none, none, b, rfl, SubM.refl.new hp, updM_same, Nat.le_refl _, hb.nd, fun k => by simp [cnt, getI]⟩
  · rintro i d δ M' hi ⟨x, y, ps, rfl, sub, hp', hn, nd, hk⟩
    obtain ⟨⟨n, m⟩, he, rfl⟩ := bag_get hi
    have hi' := get_lt he
    have hfc := hc.fit
    refine ⟨rfl, ?_⟩
    dsimp only [TSeq, TNext, TBreak, TCont, TDrop, TRet, TRetN, TIfS, TNever, TAsg, GName, GNil, GCons, TPar, TTest, TAnd, TOr, TNot, TAndV, TOrV, TNotV, TIf, TVar, TC, TNil, TCons, TTup, TLst, TOp, TUn, TCB, TCall, TCallN, TBM, TAug, TGet1, TGet2, TPut, TYes, GSubL, TSl, TNoPart, TPart, TRev, TIt, TRng1, TRng2, TItems, TVals, TKeys, List.getElem?_cons_zero, List.getElem?_cons_succ, List.set_cons_zero, List.set_cons_succ, List.append_nil, List.nil_append, List.cons_append]
    refine ⟨⟨_, hp'⟩, valD (dictD ps) (Sum.inl n), by simp only [getM, hp']; rfl, ?_⟩
    rw [cnt_val]
    refine ⟨by unfold sizM; rw [hp']; show (dictD ps).length < _; rw [List.length_map]; omega, updM M' p (.dK (dictD (putI ps n (cnt ps n - m)))), ?_, ?_⟩
    · simp only [putM, hp', keyD, Option.map_some, putI_dict]
    · refine ⟨_, _, _, rfl, fun a o e => by rw [updM_ne (neM e hp)]; exact sub _ _ e, updM_same, Nat.le_trans putI_len (by omega), putI_keys nd, fun k => ?_⟩
      have nt : (((c.take i ++ [(n, m)] : Bag)).map (·.1)).Nodup := by rw [← take_get he]; exact ((List.take_sublist _ _).map _).nodup hc.nd
      rw [cnt_put, take_get he, cnt_snoc nt, hk, hk]
      by_cases z : k = n
      · subst z; simp; omega
      · simp [z]
  · rintro δ M' ⟨x, y, ps, rfl, sub, hp', hn, nd, hk⟩
    rw [List.length_map] at hn hk
    rw [List.take_length] at hk
    dsimp only [TSeq, TNext, TBreak, TCont, TDrop, TRet, TRetN, TIfS, TNever, TAsg, GName, GNil, GCons, TPar, TTest, TAnd, TOr, TNot, TAndV, TOrV, TNotV, TIf, TVar, TC, TNil, TCons, TTup, TLst, TOp, TUn, TCB, TCall, TCallN, TBM, TAug, TGet1, TGet2, TPut, TYes, GSubL, TSl, TNoPart, TPart, TRev, TIt, TRng1, TRng2, TItems, TVals, TKeys, List.getElem?_cons_zero, List.getElem?_cons_succ, List.set_cons_zero, List.set_cons_succ, List.append_nil, List.nil_append, List.cons_append, TLkE]
    refine ⟨p, _, hp', fun o ws => tlc ?_⟩
    dsimp only [TSeq, TNext, TBreak, TCont, TDrop, TRet, TRetN, TIfS, TNever, TAsg, GName, GNil, GCons, TPar, TTest, TAnd, TOr, TNot, TAndV, TOrV, TNotV, TIf, TVar, TC, TNil, TCons, TTup, TLst, TOp, TUn, TCB, TCall, TCallN, TBM, TAug, TGet1, TGet2, TPut, TYes, GSubL, TSl, TNoPart, TPart, TRev, TIt, TRng1, TRng2, TItems, TVals, TKeys, List.getElem?_cons_zero, List.getElem?_cons_succ, List.set_cons_zero, List.set_cons_succ, List.append_nil, List.nil_append, List.cons_append]
    refine ⟨o, ws, _, updM_same, ?_⟩
    have hfb := hb.fit
    refine lc_pure (fun d => match d with | .int v => some (.bl (decide (v < 0))) | _ => none) ?_ (fun M' s => s _ _ updM_same) ?_ ?_
    · simp; omega
    · intro i d M1 hi s N hN
      obtain ⟨v, rfl⟩ : ∃ v : Int, d = .int v := by
        rw [List.getElem?_map, List.getElem?_map] at hi
        cases e : ps[i]? with
        | none => rw [e] at hi; cases hi
        | some q => rw [e] at hi; exact ⟨q.2, (Option.some.inj hi).symm⟩
      exact hN M1 .refl
    · intro M1 s p1 hp1
      have e : (((dictD ps).map fun q => q.2).filterMap fun d => match d with | .int v => some (D.bl (decide (v < 0))) | _ => none) = (ps.map fun q => decide (q.2 < 0)).map D.bl := by
        rw [List.map_map, List.filterMap_map]
        exact (filterMap_pure (fun q : Int × Int => D.bl (decide (q.2 < 0))) ps).trans (by rw [List.map_map]; rfl)
      rw [e]
      have np : p ≠ p1 := fun z => by rw [← z, s _ _ updM_same] at hp1; cases hp1
      refine ⟨by rw [updM_ne np]; exact s _ _ updM_same, _, by rw [updM_ne np.symm]; exact updM_same, ?_⟩
      have s1 : SubM M (updM (updM M1 p1 (.lst ((ps.map fun q => decide (q.2 < 0)).map D.bl))) p (.dK (dictD ps))) := fun a u e => by
        have na := neM e hp
        have e1 := s a u (by rw [updM_ne na]; exact sub _ _ e)
        rw [updM_ne na, updM_ne (neM e1 hp1)]; exact e1
      by_cases neg : ∃ q ∈ ps, q.2 < 0
      · obtain ⟨q, hq, h0⟩ := neg
        have e0 : (ps.map fun q => decide (q.2 < 0)).any id = true := List.any_eq_true.mpr ⟨true, List.mem_map.mpr ⟨q, hq, decide_eq_true h0⟩, rfl⟩
        rw [e0]
        show if true = true then _ else _
        rw [if_pos rfl]
        refine rlx_at s1 (qn ⟨q.1, ?_⟩)
        have h1 := hk q.1
        rw [cnt_mem nd hq] at h1
        omega
      · have e0 : (ps.map fun q => decide (q.2 < 0)).any id = false := by
          rw [List.any_eq_false]
          intro v hv
          obtain ⟨q, hq, rfl⟩ := List.mem_map.mp hv
          simpa using fun h => neg ⟨q, hq, h⟩
        rw [e0]
        show if false = true then _ else _
        rw [if_neg (by decide)]
        have h0 : ∀ q ∈ ps, 0 ≤ q.2 := fun q hq => by
          by_cases h : q.2 < 0
          · exact absurd ⟨q, hq, h⟩ neg
          · omega
        refine ⟨p, ps, rfl, updM_same, by omega, rlx_at s1 (qr _ (left_ok nd (by omega) fun q hq => ?_) fun k => by rw [left_cnt nd h0, hk])⟩
        have h1 := hk q.1
        rw [cnt_mem nd hq] at h1
        have h2 := hc.cnt0 q.1
        by_cases z : cnt b q.1 = 0
        · have : (0 : Int) < 2 ^ 1000 := by decide
          omega
        · have := hb.small _ (cnt_pos z)
          dsimp only at this
          omega
theorem vc_removals_needed : ∀ ds M Q E, S_removals_needed ds M Q E → T_removals_needed { nx := fun _ M' => rlx Q .non M', rt := rlx Q } (startD (["start", "goal", "wanted", "number", "count"] : List Str).length ds) M := by
  rintro ds M Q E ⟨s, g, rfl, hs, hg, q⟩
  change T_removals_needed _ [some (bagD s), some (bagD g), none, none, none] M
  dsimp only [T_removals_needed, TSeq, TNext, TBreak, TCont, TDrop, TRet, TRetN, TIfS, TNever, TAsg, GName, GNil, GCons, TPar, TTest, TAnd, TOr, TNot, TAndV, TOrV, TNotV, TIf, TVar, TC, TNil, TCons, TTup, TLst, TOp, TUn, TCB, TCall, TCallN, TBM, TAug, TGet1, TGet2, TPut, TYes, GSubL, TSl, TNoPart, TPart, TRev, TIt, TRng1, TRng2, TItems, TVals, TKeys, List.getElem?_cons_zero, List.getElem?_cons_succ, List.set_cons_zero, List.set_cons_succ, List.append_nil, List.nil_append, List.cons_append, bagD]
  refine ⟨_, keyPrs_bag g, fun p hp => ?_⟩
  rw [merge_bag hg.nd]
  refine tfor ?_
  dsimp only [TSeq, TNext, TBreak, TCont, TDrop, TRet, TRetN, TIfS, TNever, TAsg, GName, GNil, GCons, TPar, TTest, TAnd, TOr, TNot, TAndV, TOrV, TNotV, TIf, TVar, TC, TNil, TCons, TTup, TLst, TOp, TUn, TCB, TCall, TCallN, TBM, TAug, TGet1, TGet2, TPut, TYes, GSubL, TSl, TNoPart, TPart, TRev, TIt, TRng1, TRng2, TItems, TVals, TKeys, List.getElem?_cons_zero, List.getElem?_cons_succ, List.set_cons_zero, List.set_cons_succ, List.append_nil, List.nil_append, List.cons_append]
  rw [← List.map_reverse]
  have hfs := hs.fit
  refine ⟨fun i δ M' => ∃ x y : Option D, δ = [some (.tup (s.map pairD)), some (.tup (g.map pairD)), some (.ref p), x, y] ∧ SubM M M' ∧ M' p = some (.dK (dictD g)) ∧ need s g = needR s g (s.reverse.drop i), ?_, fun _ _ _ _ => trivial, ?_, ?_⟩
  · exact ⟨none, none, rfl, SubM.refl.new hp, updM_same, rfl⟩
  · rintro i d δ M' hi ⟨x, y, rfl, sub, hp', hk⟩
    obtain ⟨⟨n, m⟩, he, rfl⟩ := bag_get hi
    rw [drop_get he] at hk
    have hk : need s g = if cnt g n < m then lev s n - cnt g n else needR s g (s.reverse.drop (i + 1)) := hk
    have hget : getM M' p (.int n) = some (valD (dictD g) (Sum.inl n)) := by simp only [getM, hp']; rfl
    refine ⟨rfl, ?_⟩
    dsimp only [TSeq, TNext, TBreak, TCont, TDrop, TRet, TRetN, TIfS, TNever, TAsg, GName, GNil, GCons, TPar, TTest, TAnd, TOr, TNot, TAndV, TOrV, TNotV, TIf, TVar, TC, TNil, TCons, TTup, TLst, TOp, TUn, TCB, TCall, TCallN, TBM, TAug, TGet1, TGet2, TPut, TYes, GSubL, TSl, TNoPart, TPart, TRev, TIt, TRng1, TRng2, TItems, TVals, TKeys, List.getElem?_cons_zero, List.getElem?_cons_succ, List.set_cons_zero, List.set_cons_succ, List.append_nil, List.nil_append, List.cons_append]
    refine ⟨⟨_, hp'⟩, _, hget, ?_⟩
    rw [cnt_val]
    show if decide (cnt g n < m) = true then _ else _
    by_cases c : cnt g n < m
    · rw [if_pos (decide_eq_true c)]
      rw [if_pos c] at hk
      refine ⟨s, n, rfl, by omega, ⟨_, hp'⟩, _, hget, ?_⟩
      rw [cnt_val]
      refine rlx_at sub ?_
      show Q (.int (lev s n - cnt g n)) M
      rw [← hk]; exact q
    · rw [if_neg (by simpa using c)]
      rw [if_neg c] at hk
      exact ⟨_, _, rfl, sub, hp', hk⟩
  · rintro δ M' ⟨x, y, rfl, sub, hp', hk⟩
    dsimp only [TSeq, TNext, TBreak, TCont, TDrop, TRet, TRetN, TIfS, TNever, TAsg, GName, GNil, GCons, TPar, TTest, TAnd, TOr, TNot, TAndV, TOrV, TNotV, TIf, TVar, TC, TNil, TCons, TTup, TLst, TOp, TUn, TCB, TCall, TCallN, TBM, TAug, TGet1, TGet2, TPut, TYes, GSubL, TSl, TNoPart, TPart, TRev, TIt, TRng1, TRng2, TItems, TVals, TKeys, List.getElem?_cons_zero, List.getElem?_cons_succ, List.set_cons_zero, List.set_cons_succ, List.append_nil, List.nil_append, List.cons_append]
    rw [List.length_map, List.drop_length] at hk
    refine rlx_at sub ?_
    rw [show (0 : Int) = need s g from hk.symm]; exact q
/-! ### a bag passes -/
theorem scan_bag : ∀ (b : Bag) (prev : Option Int), b.Pairwise (fun p q => p.1 < q.1) → (∀ p ∈ b, 1 ≤ p.2) → (∀ p ∈ b, ∀ k, prev = some k → k < p.1) → scanB (b.map pairD) prev = true
  | [], _, _, _, _ => rfl
  | p :: r, prev, h1, h2, h3 => by
    show (decide (1 ≤ p.2) && (prev.all fun k => decide (k < p.1)) && scanB (r.map pairD) (some p.1)) = true
    rw [scan_bag r (some p.1) (List.pairwise_cons.mp h1).2 (fun q hq => h2 q (List.mem_cons_of_mem _ hq)) fun q hq k hk => by cases hk; exact (List.pairwise_cons.mp h1).1 q hq]
    have e : (prev.all fun k => decide (k < p.1)) = true := by
      cases prev with
      | none => rfl
      | some k => exact decide_eq_true (h3 p List.mem_cons_self k rfl)
    rw [e, decide_eq_true (h2 p List.mem_cons_self)]; rfl
theorem BagOk.is {b : Bag} (h : BagOk b) : isBagD (bagD b) = true := scan_bag b none h.asc h.pos fun _ _ _ e => by cases e
theorem told_lit {M : Mh} {d : D} (h : (match d with | .int _ => true | .bl _ => true | .str _ => true | .non => true | .tup _ => true | _ => false) = true) : Told M d := by
  cases d <;> first | exact ⟨⟨_, rfl⟩, rfl⟩ | cases h
theorem BagOk.seen {b : Bag} (h : BagOk b) (M : Mh) : Seen M (bagD b) := ⟨told_lit rfl, fun es e => by
  cases e
  refine ⟨by rw [List.length_map]; exact h.fit, fun x hx => ?_⟩
  obtain ⟨p, hp, rfl⟩ := List.mem_map.mp hx
  exact ⟨told_lit rfl, fun a b e => by cases e; exact ⟨told_lit rfl, told_lit rfl⟩⟩⟩
theorem pass_bag {b : Bag} (h : BagOk b) {M : Mh} {Q : QE} {E : XKd} (q : Q .non M) : S_check_bag [bagD b] M Q E := ⟨bagD b, rfl, h.seen M, h.is, q⟩
/-! ### sums -/
theorem sum_bound {l : List Int} {B : Int} (h : ∀ x ∈ l, 0 ≤ x ∧ x ≤ B) : 0 ≤ l.sum ∧ l.sum ≤ l.length * B := by
  induction l with
  | nil => simp
  | cons x r ih =>
    have h1 := h x List.mem_cons_self
    have h2 := ih fun y hy => h y (List.mem_cons_of_mem _ hy)
    simp only [List.sum_cons, List.length_cons]
    have : ((r.length + 1 : Nat) : Int) * B = r.length * B + B := by rw [Int.natCast_add, Int.add_mul]; simp
    omega
theorem BagOk.lev0 {b : Bag} (h : BagOk b) (n : Int) : 0 ≤ lev b n ∧ lev b n ≤ 10000 * 2 ^ 1000 := by
  have h1 : 0 ≤ lev b n ∧ lev b n ≤ (((b.filter fun p => decide (p.1 ≤ n)).map (·.2)).length : Nat) * (2 ^ 1000 : Int) := sum_bound fun x hx => by
    obtain ⟨p, hp, rfl⟩ := List.mem_map.mp hx
    have hm := (List.mem_filter.mp hp).1
    have := h.pos p hm
    have := h.small p hm
    omega
  have h2 : (((b.filter fun p => decide (p.1 ≤ n)).map (·.2)).length : Int) ≤ 10000 := by
    rw [List.length_map]
    have := List.length_filter_le (fun p : Int × Int => decide (p.1 ≤ n)) b
    have := h.fit
    omega
  refine ⟨h1.1, Int.le_trans h1.2 (Int.mul_le_mul_of_nonneg_right h2 (by decide))⟩
theorem needR_bound {s g : Bag} (hs : BagOk s) (hg : BagOk g) : ∀ r : Bag, (∀ p ∈ r, p ∈ s) → 0 ≤ needR s g r ∧ needR s g r ≤ 10000 * 2 ^ 1000
  | [], _ => by show (0 : Int) ≤ 0 ∧ (0 : Int) ≤ 10000 * 2 ^ 1000; exact ⟨Int.le_refl _, by decide⟩
  | p :: r, h => by
    unfold needR
    split
    · rename_i c
      have h1 := hs.lev0 p.1
      have h2 := hg.cnt0 p.1
      have h3 : p.2 ≤ lev s p.1 := by
        have hm := h p List.mem_cons_self
        unfold lev
        have key : ∀ l : Bag, (∀ q ∈ l, 0 ≤ q.2) → p ∈ l → p.2 ≤ (l.map (·.2)).sum := by
          intro l
          induction l with
          | nil => intro _ z; cases z
          | cons a t ih =>
            intro h0 hm
            have ht : 0 ≤ (t.map (·.2)).sum := by
              have := sum_bound (l := t.map (·.2)) (B := (t.map (·.2)).sum) 
              clear this
              have : ∀ l : Bag, (∀ q ∈ l, 0 ≤ q.2) → 0 ≤ (l.map (·.2)).sum := by
                intro l
                induction l with
                | nil => intro _; exact Int.le_refl _
                | cons a t ih => intro h; simp only [List.map_cons, List.sum_cons]; have := h a List.mem_cons_self; have := ih fun q hq => h q (List.mem_cons_of_mem _ hq); omega
              exact this t fun q hq => h0 q (List.mem_cons_of_mem _ hq)
            simp only [List.map_cons, List.sum_cons]
            rcases List.mem_cons.mp hm with rfl | hm
            · omega
            · have := ih (fun q hq => h0 q (List.mem_cons_of_mem _ hq)) hm
              have := h0 a List.mem_cons_self
              omega
        refine key _ (fun q hq => ?_) (List.mem_filter.mpr ⟨hm, decide_eq_true (Int.le_refl _)⟩)
        have := hs.pos q (List.mem_filter.mp hq).1
        omega
      omega
    · exact needR_bound hs hg r fun q hq => h q (List.mem_cons_of_mem _ hq)
theorem need_bound {s g : Bag} (hs : BagOk s) (hg : BagOk g) : 0 ≤ need s g ∧ need s g ≤ 10000 * 2 ^ 1000 := needR_bound hs hg _ fun p hp => List.mem_reverse.mp hp
theorem vc_distance : ∀ ds M Q E, S_distance ds M Q E → T_distance { nx := fun _ M' => rlx Q .non M', rt := rlx Q } (startD (["start", "goal"] : List Str).length ds) M := by
  rintro ds M Q E ⟨s, g, rfl, hs, hg, q⟩
  change T_distance _ [some (bagD s), some (bagD g)] M
  dsimp only [T_distance, TSeq, TNext, TBreak, TCont, TDrop, TRet, TRetN, TIfS, TNever, TAsg, GName, GNil, GCons, TPar, TTest, TAnd, TOr, TNot, TAndV, TOrV, TNotV, TIf, TVar, TC, TNil, TCons, TTup, TLst, TOp, TUn, TCB, TCall, TCallN, TBM, TAug, TGet1, TGet2, TPut, TYes, GSubL, TSl, TNoPart, TPart, TRev, TIt, TRng1, TRng2, TItems, TVals, TKeys, List.getElem?_cons_zero, List.getElem?_cons_succ, List.set_cons_zero, List.set_cons_succ, List.append_nil, List.nil_append, List.cons_append]
  refine pass_bag hs (pass_bag hg ?_)
  refine ⟨s, g, rfl, hs, hg, ?_⟩
  have hb := need_bound hs hg
  have h1 := hs.fit
  have h2 := hg.fit
  refine ⟨?_, g, rfl, by omega, s, rfl, by omega, rlx_of q⟩
  show (2 : Nat).log2 + (need s g).natAbs.log2 < 1000000
  have h3 : (need s g).natAbs < 2 ^ 2000 := by
    have h4 : (need s g).natAbs ≤ 10000 * 2 ^ 1000 := by
      have : ((need s g).natAbs : Int) ≤ ((10000 * 2 ^ 1000 : Nat) : Int) := by
        rw [Int.natAbs_of_nonneg hb.1]; exact hb.2
      exact_mod_cast this
    exact Nat.lt_of_le_of_lt h4 (by decide)
  have h5 : (need s g).natAbs.log2 < 2000 := by
    by_cases z : (need s g).natAbs = 0
    · rw [z]; decide
    · exact (Nat.log2_lt z).mpr h3
  have h6 : Nat.log2 2 = 1 := by decide
  omega
/-! ### the law's draws -/
theorem mod_lt' {a c : Int} (h : 1 ≤ c) : 0 ≤ a % c ∧ a % c < c := ⟨Int.emod_nonneg _ (by omega), Int.emod_lt_of_pos _ (by omega)⟩
theorem log_lt {n : Int} {k : Nat} (h0 : 0 ≤ n) (h : n < 2 ^ k) (hk : 0 < k) : n.natAbs.log2 < k := by
  have h1 : n.natAbs < 2 ^ k := by
    have : (n.natAbs : Int) < ((2 ^ k : Nat) : Int) := by rw [Int.natAbs_of_nonneg h0]; exact_mod_cast h
    exact_mod_cast this
  by_cases z : n.natAbs = 0
  · rw [z]; exact hk
  · exact (Nat.log2_lt z).mpr h1
theorem vc__law_draw : ∀ ds M Q E, S__law_draw ds M Q E → T__law_draw { nx := fun _ M' => rlx Q .non M', rt := rlx Q } (startD (["pool", "count", "cell", "result"] : List Str).length ds) M := by
  rintro ds M Q E ⟨p, l, c, rfl, ⟨ns, i, big, seed, hp, hl, hne, hi, hs0, hs1⟩, hc, hc2, q⟩
  change T__law_draw _ [some (.ref p), some (.int c), none, none] M
  have st : ∀ X i' b' s', X = MO.lst [.ref l, .int i', .int b', .int s'] → 0 ≤ i' → 0 ≤ s' → s' < 2147483647 → PoolSt (updM M p X) p l := fun X i' b' s' e h1 h2 h3 =>
    ⟨ns, i', b', s', by rw [updM_same, e], by rw [updM_ne hne]; exact hl, hne, h1, h2, h3⟩
  have hlog : c.natAbs.log2 < 9000 := Nat.lt_of_lt_of_le (log_lt (by omega) hc2 (by decide)) (by decide)
  have fin : ∀ (x : Option D) (i' b' : Int) (M1 : Mh), 0 ≤ i' → (∀ X, updM M1 p X = updM M p X) → M1 p = some (.lst [.ref l, .int i', .int b', .int seed]) →
      (TSeq (TAsg (TOp RMod (TOp RIx (TVar 0) (TC (.int 2))) (TVar 1)) (GName 3)) (TSeq (TAsg (TOp RDiv (TOp RIx (TVar 0) (TC (.int 2))) (TVar 1)) (GSubL (TVar 0) (TC (.int 2)))) (TRet (TVar 3)))) { nx := fun _ M' => rlx Q .non M', rt := rlx Q } [some (.ref p), some (.int c), x, none] M1 := by
    intro x i' b' M1 h1 h2 h3
    dsimp only [TSeq, TNext, TBreak, TCont, TDrop, TRet, TRetN, TIfS, TNever, TAsg, GName, GNil, GCons, TPar, TTest, TAnd, TOr, TNot, TAndV, TOrV, TNotV, TIf, TVar, TC, TNil, TCons, TTup, TLst, TOp, TUn, TCB, TCall, TCallN, TBM, TAug, TGet1, TGet2, TPut, TYes, GSubL, TSl, TNoPart, TPart, TRev, TIt, TRng1, TRng2, TItems, TVals, TKeys, List.getElem?_cons_zero, List.getElem?_cons_succ, List.set_cons_zero, List.set_cons_succ, List.append_nil, List.nil_append, List.cons_append]
    refine ⟨_, .int b', h3, rfl, (by omega : 0 < c), ?_⟩
    refine ⟨_, .int b', h3, rfl, ⟨by omega, hlog⟩, ?_⟩
    refine ⟨_, 2, h3, rfl, ?_⟩
    rw [h2]
    have := mod_lt' (a := b') hc
    exact rlx_of (q _ _ this.1 this.2 (st _ i' (b' / c) seed rfl h1 hs0 hs1))
  dsimp only [T__law_draw, TSeq, TNext, TBreak, TCont, TDrop, TRet, TRetN, TIfS, TNever, TAsg, GName, GNil, GCons, TPar, TTest, TAnd, TOr, TNot, TAndV, TOrV, TNotV, TIf, TVar, TC, TNil, TCons, TTup, TLst, TOp, TUn, TCB, TCall, TCallN, TBM, TAug, TGet1, TGet2, TPut, TYes, GSubL, TSl, TNoPart, TPart, TRev, TIt, TRng1, TRng2, TItems, TVals, TKeys, List.getElem?_cons_zero, List.getElem?_cons_succ, List.set_cons_zero, List.set_cons_succ, List.append_nil, List.nil_append, List.cons_append]
  refine ⟨_, .int big, hp, rfl, eq_int ?_⟩
  by_cases hb : big = 0
  case neg =>
    show if decide (big = 0) = true then _ else _
    rw [if_neg (by simpa using hb)]
    exact fin none i big M hi (fun _ => rfl) hp
  show if decide (big = 0) = true then _ else _
  rw [if_pos (decide_eq_true hb)]
  refine ⟨_, .int i, hp, rfl, _, .ref l, hp, rfl, _, hl, ?_⟩
  have cell : ∃ ce : Int, (if i < ns.length then ns[i.toNat]? = some ce else ce = 0) := by
    by_cases h : i < ns.length
    · have h' : i.toNat < ns.length := by omega
      exact ⟨ns[i.toNat], by rw [if_pos h]; exact List.getElem?_eq_getElem h'⟩
    · exact ⟨0, by rw [if_neg h]⟩
  obtain ⟨ce, hce⟩ := cell
  have rest : ∀ y : D, y = .int ce → (TSeq (TAsg (TOp RAdd (TOp RIx (TVar 0) (TC (.int 1))) (TC (.int 1))) (GSubL (TVar 0) (TC (.int 1)))) (TSeq (TIfS (TTest (TOp RLt (TVar 2) (TOp RPow (TC (.int 10)) (TC (.int 18))))) (TSeq (TAsg (TOp RMod (TOp RAdd (TOp RAdd (TOp RMul (TOp RIx (TVar 0) (TC (.int 3))) (TC (.int 48271))) (TOp RMod (TVar 2) (TC (.int 2147483629)))) (TOp RIx (TVar 0) (TC (.int 1)))) (TC (.int 2147483647))) (GSubL (TVar 0) (TC (.int 3)))) (TRet (TOp RMod (TOp RDiv (TOp RMod (TOp RMul (TOp RIx (TVar 0) (TC (.int 3))) (TOp RIx (TVar 0) (TC (.int 3)))) (TC (.int 2147483629))) (TC (.int 7))) (TVar 1)))) TNext) (TAsg (TVar 2) (GSubL (TVar 0) (TC (.int 2)))))) { nx := (TSeq (TAsg (TOp RMod (TOp RIx (TVar 0) (TC (.int 2))) (TVar 1)) (GName 3)) (TSeq (TAsg (TOp RDiv (TOp RIx (TVar 0) (TC (.int 2))) (TVar 1)) (GSubL (TVar 0) (TC (.int 2)))) (TRet (TVar 3)))) { nx := fun _ M' => rlx Q .non M', rt := rlx Q }, rt := rlx Q } [some (.ref p), some (.int c), some y, none] M := by
    rintro _ rfl
    dsimp only [TSeq, TNext, TBreak, TCont, TDrop, TRet, TRetN, TIfS, TNever, TAsg, GName, GNil, GCons, TPar, TTest, TAnd, TOr, TNot, TAndV, TOrV, TNotV, TIf, TVar, TC, TNil, TCons, TTup, TLst, TOp, TUn, TCB, TCall, TCallN, TBM, TAug, TGet1, TGet2, TPut, TYes, GSubL, TSl, TNoPart, TPart, TRev, TIt, TRng1, TRng2, TItems, TVals, TKeys, List.getElem?_cons_zero, List.getElem?_cons_succ, List.set_cons_zero, List.set_cons_succ, List.append_nil, List.nil_append, List.cons_append]
    refine ⟨_, .int i, hp, rfl, ?_⟩
    refine ⟨_, 1, hp, rfl, ⟨by decide, by decide, by decide⟩, ?_⟩
    have e1 : updM M p (.lst ([D.ref l, .int i, .int big, .int seed].set 1 (.int (i + 1)))) p = some (.lst [.ref l, .int (i + 1), .int big, .int seed]) := updM_same
    show if decide (ce < 10 ^ (18 : Int).toNat) = true then _ else _
    by_cases c18 : ce < 10 ^ (18 : Int).toNat
    · rw [if_pos (decide_eq_true c18)]
      have hm := mod_lt' (a := ce) (c := 2147483629) (by decide)
      have hlm : seed.natAbs.log2 < 31 := log_lt hs0 (by omega) (by decide)
      refine ⟨_, .int seed, e1, rfl, ?_, ?_⟩
      · show _ + Nat.log2 48271 < 1000000
        have : Nat.log2 48271 = 15 := by decide
        omega
      refine ⟨(by decide : (0 : Int) < 2147483629), _, .int (i + 1), e1, rfl, (by decide : (0 : Int) < 2147483647), ?_⟩
      refine ⟨_, 3, e1, rfl, ?_⟩
      dsimp only
      generalize hs : (seed * 48271 + ce % 2147483629 + (i + 1)) % 2147483647 = s2
      have hs2 := mod_lt' (a := seed * 48271 + ce % 2147483629 + (i + 1)) (c := 2147483647) (by decide)
      rw [hs] at hs2
      rw [updM_updM]
      have e2 : updM M p (.lst (List.set ([D.ref l, .int i, .int big, .int seed].set 1 (.int (i + 1))) 3 (.int s2))) p = some (.lst [.ref l, .int (i + 1), .int big, .int s2]) := updM_same
      refine ⟨_, .int s2, e2, rfl, _, .int s2, e2, rfl, ?_, ?_⟩
      · have : s2.natAbs.log2 < 31 := log_lt hs2.1 (by omega) (by decide)
        show _ + _ < 1000000
        omega
      refine ⟨(by decide : (0 : Int) < 2147483629), ⟨(by decide : (0 : Int) < 7), (by decide : (7 : Int).natAbs.log2 < 9000)⟩, (by omega : 0 < c), ?_⟩
      have hv := mod_lt' (a := s2 * s2 % 2147483629 / 7) hc
      exact rlx_of (q _ _ hv.1 hv.2 (st _ (i + 1) big s2 rfl (by omega) hs2.1 hs2.2))
    · rw [if_neg (by simpa using c18)]
      refine ⟨_, 2, e1, rfl, ?_⟩
      rw [updM_updM]
      exact fin (some (.int ce)) (i + 1) ce _ (by omega) (fun X => updM_updM) updM_same
  show if decide (i < ((ns.map D.int).length : Nat)) = true then _ else _
  rw [List.length_map]
  by_cases h : i < ns.length
  · rw [if_pos h] at hce
    rw [if_pos (decide_eq_true h)]
    refine ⟨_, .ref l, hp, rfl, _, .int i, hp, rfl, _, .int ce, hl, ?_, rest _ rfl⟩
    rw [show i = ((i.toNat : Nat) : Int) by omega, atI_nat, List.getElem?_map, hce]; rfl
  · rw [if_neg h] at hce
    rw [if_neg (by simpa using h)]
    exact rest _ (by rw [hce])
theorem vc__law_base : ∀ ds M Q E, S__law_base ds M Q E → T__law_base { nx := fun _ M' => rlx Q .non M', rt := rlx Q } (startD (["pool"] : List Str).length ds) M := by
  rintro ds M Q E ⟨p, l, rfl, hp, q⟩
  change T__law_base _ [some (.ref p)] M
  dsimp only [T__law_base, TSeq, TNext, TBreak, TCont, TDrop, TRet, TRetN, TIfS, TNever, TAsg, GName, GNil, GCons, TPar, TTest, TAnd, TOr, TNot, TAndV, TOrV, TNotV, TIf, TVar, TC, TNil, TCons, TTup, TLst, TOp, TUn, TCB, TCall, TCallN, TBM, TAug, TGet1, TGet2, TPut, TYes, GSubL, TSl, TNoPart, TPart, TRev, TIt, TRng1, TRng2, TItems, TVals, TKeys, List.getElem?_cons_zero, List.getElem?_cons_succ, List.set_cons_zero, List.set_cons_succ, List.append_nil, List.nil_append, List.cons_append]
  refine ⟨⟨by decide, by decide, by decide⟩, ⟨by decide, by decide, by decide⟩, ⟨by decide, by decide, by decide⟩, ?_⟩
  refine ⟨p, l, _, rfl, hp, by decide, by decide, fun v X v0 v1 hp1 => ?_⟩
  refine ⟨le6 rfl, fun b hb => ?_⟩
  have np : p ≠ b := fun z => by
    obtain ⟨ns, i, big, seed, e, _⟩ := hp1
    subst z
    rw [hb] at e; cases e
  have hp2 : PoolSt (updM (updM M p X) b (.lst [.int 0, .int (-2), .int (10 ^ (25 : Int).toNat), .int (0 - 10 ^ (25 : Int).toNat + v)])) p l := by
    obtain ⟨ns, i, big, seed, e, e2, r⟩ := hp1
    exact ⟨ns, i, big, seed, by rw [updM_ne np]; exact e, by rw [updM_ne (neM e2 hb)]; exact e2, r⟩
  refine ⟨p, l, 4, rfl, hp2, by decide, by decide, fun u Y u0 u1 hp3 => ?_⟩
  have eb : updM (updM (updM M p X) b (.lst [.int 0, .int (-2), .int (10 ^ (25 : Int).toNat), .int (0 - 10 ^ (25 : Int).toNat + v)])) p Y b = some (.lst [.int 0, .int (-2), .int (10 ^ (25 : Int).toNat), .int (0 - 10 ^ (25 : Int).toNat + v)]) := by
    rw [updM_ne np.symm]; exact updM_same
  have fin : ∀ z : Int, z.natAbs < 2 ^ 100 → rlx Q (.int z) (updM (updM (updM M p X) b (.lst [.int 0, .int (-2), .int (10 ^ (25 : Int).toNat), .int (0 - 10 ^ (25 : Int).toNat + v)])) p Y) := fun z hz => by
    have hn : M b = none := by rw [← hb, updM_ne np.symm]
    have hp4 : PoolSt (updM M p Y) p l := by
      obtain ⟨ns, i, big, seed, e, e2, e3, r⟩ := hp3
      rw [updM_same] at e
      refine ⟨ns, i, big, seed, by rw [updM_same]; exact e, ?_, e3, r⟩
      have nb : l ≠ b := by
        obtain ⟨_, _, _, _, _, f2, _⟩ := hp1
        exact neM f2 hb
      rw [updM_ne e3] at e2 ⊢
      rw [updM_ne nb, updM_ne e3] at e2
      exact e2
    refine rlx_at (fun a o e => ?_) (q z Y hz hp4)
    by_cases za : a = p
    · subst za; rw [updM_same] at e ⊢; exact e
    · rw [updM_ne za] at e ⊢
      rw [updM_ne (neM e hn), updM_ne za]; exact e
  have hu : u = 0 ∨ u = 1 ∨ u = 2 ∨ u = 3 := by omega
  rcases hu with rfl | rfl | rfl | rfl
  · exact ⟨_, .int 0, eb, rfl, fin 0 (by decide)⟩
  · exact ⟨_, .int (-2), eb, rfl, fin (-2) (by decide)⟩
  · exact ⟨_, .int (10 ^ (25 : Int).toNat), eb, rfl, fin _ (by decide)⟩
  · refine ⟨_, .int (0 - 10 ^ (25 : Int).toNat + v), eb, rfl, fin _ ?_⟩
    have h1 : (10 : Int) ^ (25 : Int).toNat = 10000000000000000000000000 := by decide
    have h2 : (10 : Int) ^ (6 : Int).toNat = 1000000 := by decide
    rw [h1]
    rw [h2] at v1
    have : (0 - 10000000000000000000000000 + v).natAbs ≤ 10000000000000000000000000 := by omega
    exact Nat.lt_of_le_of_lt this (by decide)
/-! ### what a plan removes -/
theorem tot_cons (p : Int × Int) (r : Bag) : tot (p :: r) = p.2 + tot r := by simp [tot]
theorem tot_nonneg {b : Bag} (h : ∀ q ∈ b, 1 ≤ q.2) : 0 ≤ tot b := by
  induction b with
  | nil => exact Int.le_refl _
  | cons p r ih =>
    have h1 := h p List.mem_cons_self
    have h2 := ih fun q hq => h q (List.mem_cons_of_mem _ hq)
    rw [tot_cons]; omega
theorem tot_append (a b : Bag) : tot (a ++ b) = tot a + tot b := by simp [tot]
theorem drop_zero : ∀ {b : Bag}, (∀ q ∈ b, 1 ≤ q.2) → dropB b 0 = b
  | [], _ => rfl
  | p :: r, h => by
    have h1 := h p List.mem_cons_self
    unfold dropB
    have e : min 0 p.2 = 0 := by omega
    rw [e, if_pos (by omega), Int.sub_zero, Int.sub_zero, drop_zero fun q hq => h q (List.mem_cons_of_mem _ hq)]
theorem drop_cons (p : Int × Int) (r : Bag) (k : Int) : dropB (p :: r) k = if min k p.2 < p.2 then (p.1, p.2 - min k p.2) :: dropB r (k - min k p.2) else dropB r (k - min k p.2) := rfl
theorem drop_skip : ∀ {a b : Bag} {k : Int}, (∀ q ∈ a, 1 ≤ q.2) → tot a ≤ k → dropB (a ++ b) k = dropB b (k - tot a)
  | [], b, k, _, _ => by show dropB b k = dropB b (k - 0); rw [Int.sub_zero]
  | p :: r, b, k, h, hk => by
    have h2 := tot_nonneg fun q hq => h q (List.mem_cons_of_mem _ hq)
    rw [tot_cons] at hk
    show dropB (p :: (r ++ b)) k = _
    have e : min k p.2 = p.2 := by omega
    rw [drop_cons, e, if_neg (by omega), drop_skip (fun q hq => h q (List.mem_cons_of_mem _ hq)) (by omega), tot_cons, show k - p.2 - tot r = k - (p.2 + tot r) by omega]
theorem lev_at {a b : Bag} {p : Int × Int} (h : (a ++ p :: b).Pairwise fun x y => x.1 < y.1) : lev (a ++ p :: b) p.1 = tot a + p.2 := by
  have h1 := List.pairwise_append.mp h
  have e : (a ++ p :: b).filter (fun q => decide (q.1 ≤ p.1)) = a ++ [p] := by
    rw [List.filter_append, List.filter_cons_of_pos (by simp)]
    rw [List.filter_eq_self.mpr fun q hq => decide_eq_true (by have := h1.2.2 q hq p List.mem_cons_self; omega)]
    rw [List.filter_eq_nil_iff.mpr fun q hq => by have := (List.pairwise_cons.mp h1.2.1).1 q hq; simp; omega]
  unfold lev
  rw [e]
  show tot (a ++ [p]) = _
  rw [tot_append, tot_cons]
  show tot a + (p.2 + 0) = _
  omega
/-- what need finds -/
inductive NeedIs (s g : Bag) : Prop where
  | no (h : ∀ q ∈ s, q.2 ≤ cnt g q.1) (e : need s g = 0) (d : dropB s (need s g) = s)
  | at (a b : Bag) (p : Int × Int) (es : s = a ++ p :: b) (hp : cnt g p.1 < p.2) (h : ∀ q ∈ b, q.2 ≤ cnt g q.1) (e : need s g = tot a + p.2 - cnt g p.1)
      (d : dropB s (need s g) = (if 0 < cnt g p.1 then [(p.1, cnt g p.1)] else []) ++ b)
theorem need_is {s g : Bag} (hs : BagOk s) (hg : BagOk g) : NeedIs s g := by
  have key : ∀ (r b : Bag), s = r.reverse ++ b → (∀ q ∈ b, q.2 ≤ cnt g q.1) → need s g = needR s g r → NeedIs s g := by
    intro r
    induction r with
    | nil =>
      intro b es h e
      have es' : s = b := es
      subst es'
      have e' : need s g = 0 := e
      exact .no h e' (by rw [e', drop_zero hs.pos])
    | cons p r ih =>
      intro b es h e
      rw [List.reverse_cons, List.append_assoc] at es
      have es : s = r.reverse ++ p :: b := es
      unfold needR at e
      by_cases c : cnt g p.1 < p.2
      · rw [if_pos c] at e
        have hl : lev s p.1 = tot r.reverse + p.2 := by
          have := hs.asc
          rw [es] at this ⊢
          exact lev_at this
        rw [hl] at e
        refine .at r.reverse b p es c h e ?_
        rw [e]
        have hp := hs.pos
        rw [es] at hp ⊢
        have h0 := hg.cnt0 p.1
        rw [drop_skip (fun q hq => hp q (List.mem_append_left _ hq)) (by omega)]
        have e2 : tot r.reverse + p.2 - cnt g p.1 - tot r.reverse = p.2 - cnt g p.1 := by omega
        rw [e2]
        show (if min (p.2 - cnt g p.1) p.2 < p.2 then (p.1, p.2 - min (p.2 - cnt g p.1) p.2) :: dropB b (p.2 - cnt g p.1 - min (p.2 - cnt g p.1) p.2) else dropB b (p.2 - cnt g p.1 - min (p.2 - cnt g p.1) p.2)) = _
        have e3 : min (p.2 - cnt g p.1) p.2 = p.2 - cnt g p.1 := by omega
        rw [e3, Int.sub_self, drop_zero fun q hq => hp q (List.mem_append_right _ (List.mem_cons_of_mem _ hq))]
        by_cases c0 : 0 < cnt g p.1
        · rw [if_pos (by omega), if_pos c0]
          have e4 : p.2 - (p.2 - cnt g p.1) = cnt g p.1 := by omega
          rw [e4]; rfl
        · rw [if_neg (by omega), if_neg c0]; rfl
      · rw [if_neg c] at e
        refine ih (p :: b) es (fun q hq => ?_) e
        rcases List.mem_cons.mp hq with rfl | hq
        · omega
        · exact h q hq
  exact key s.reverse [] (by simp) (fun q hq => by cases hq) rfl
theorem NeedIs.le {s g : Bag} (hs : BagOk s) (hg : BagOk g) (h : NeedIs s g) : BagOk (dropB s (need s g)) ∧ (dropB s (need s g)).length ≤ s.length ∧ ∀ k, cnt (dropB s (need s g)) k ≤ cnt g k := by
  have fin : ∀ d : Bag, BagOk d → (∀ q ∈ d, q.2 ≤ cnt g q.1) → ∀ k, cnt d k ≤ cnt g k := fun d hd h k => by
    by_cases c : cnt d k = 0
    · rw [c]; exact hg.cnt0 k
    · exact h _ (cnt_pos c)
  cases h with
  | no h e d => rw [d]; exact ⟨hs, Nat.le_refl _, fin s hs h⟩
  | «at» a b p es hp h e d =>
    rw [d]
    have ha := hs.asc
    have hpos := hs.pos
    have hf := hs.fit
    have hsm := hs.small
    rw [es] at ha hpos hf hsm
    have hb := (List.pairwise_append.mp ha).2.1
    have hl : (a ++ p :: b).length = a.length + (b.length + 1) := by simp
    have hb2 : BagOk b := ⟨(List.pairwise_cons.mp hb).2, fun q hq => hpos q (by simp [hq]), by omega, fun q hq => hsm q (by simp [hq])⟩
    by_cases c : 0 < cnt g p.1
    · rw [if_pos c]
      have hd : BagOk ([(p.1, cnt g p.1)] ++ b) := ⟨List.pairwise_cons.mpr ⟨fun q hq => (List.pairwise_cons.mp hb).1 q hq, hb2.asc⟩, fun q hq => by
          rcases List.mem_cons.mp hq with rfl | hq
          · dsimp only; omega
          · exact hb2.pos q hq, by simp; omega, fun q hq => by
          rcases List.mem_cons.mp hq with rfl | hq
          · have := hsm p (by simp); dsimp only; omega
          · exact hb2.small q hq⟩
      refine ⟨hd, by rw [es]; simp only [List.length_append, List.length_cons, List.length_nil]; omega, fin _ hd fun q hq => ?_⟩
      rcases List.mem_cons.mp hq with rfl | hq
      · exact Int.le_refl _
      · exact h q hq
    · rw [if_neg c]
      exact ⟨hb2, by rw [es]; simp only [List.length_append, List.length_cons, List.length_nil]; omega, fin _ hb2 h⟩
theorem vc_plan : ∀ ds M Q E, S_plan ds M Q E → T_plan { nx := fun _ M' => rlx Q .non M', rt := rlx Q } (startD (["start", "goal", "stock", "removals", "inserted", "removal"] : List Str).length ds) M := by
  rintro ds M Q E ⟨s, g, rfl, hs, hg, hl, q⟩
  change T_plan _ [some (bagD s), some (bagD g), some .non, none, none, none] M
  dsimp only [T_plan, TSeq, TNext, TBreak, TCont, TDrop, TRet, TRetN, TIfS, TNever, TAsg, GName, GNil, GCons, TPar, TTest, TAnd, TOr, TNot, TAndV, TOrV, TNotV, TIf, TVar, TC, TNil, TCons, TTup, TLst, TOp, TUn, TCB, TCall, TCallN, TBM, TAug, TGet1, TGet2, TPut, TYes, GSubL, TSl, TNoPart, TPart, TRev, TIt, TRng1, TRng2, TItems, TVals, TKeys, List.getElem?_cons_zero, List.getElem?_cons_succ, List.set_cons_zero, List.set_cons_succ, List.append_nil, List.nil_append, List.cons_append]
  refine pass_bag hs (pass_bag hg ?_)
  simp only [RNotN, RIsN, D.isN, isTup, isIB, isBl, isIntD, RLen, Bool.not_true, Bool.not_false, Bool.false_eq_true, Bool.not_eq_true, decide_true, decide_false, if_true, if_false, reduceIte, reduceCtorEq]
  refine ⟨s, g, rfl, hs, hg, ?_⟩
  obtain ⟨hd, hdl, hle⟩ := (need_is hs hg).le hs hg
  have hfs := hs.fit
  refine ⟨s, need s g, rfl, by omega, ?_⟩
  refine ⟨g, dropB s (need s g), rfl, hg, hd, by omega, fun ⟨k, hk⟩ => absurd (hle k) (by omega), fun ins hi hc => ?_⟩
  simp only [RNotN, RIsN, D.isN, isTup, isIB, isBl, isIntD, RLen, Bool.not_true, Bool.not_false, Bool.false_eq_true, Bool.not_eq_true, decide_true, decide_false, if_true, if_false, reduceIte, reduceCtorEq]
  have hfi := hi.fit
  have fin := q ins hi hc
  unfold planD at fin
  show if decide (0 < need s g) = true then _ else _
  by_cases c : 0 < need s g
  · rw [if_pos (decide_eq_true c)]
    rw [if_pos c] at fin
    exact ⟨le6 rfl, le6 rfl, ins, rfl, by omega, by rw [List.length_map]; show 1 + ins.length ≤ _; omega, rlx_of fin⟩
  · rw [if_neg (by simpa using c)]
    rw [if_neg c] at fin
    exact ⟨le6 rfl, ins, rfl, by omega, by rw [List.length_map]; show 0 + ins.length ≤ _; omega, rlx_of fin⟩
/-! the number of arguments -/
theorem len_is_integer : ∀ ds M Q E, S_is_integer ds M Q E → ds.length = 1 := by rintro _ _ _ _ ⟨_, rfl, _⟩; rfl
theorem len_is_bag : ∀ ds M Q E, S_is_bag ds M Q E → ds.length = 1 := by rintro _ _ _ _ ⟨_, rfl, _⟩; rfl
theorem len_check_bag : ∀ ds M Q E, S_check_bag ds M Q E → ds.length = 1 := by rintro _ _ _ _ ⟨_, rfl, _⟩; rfl
theorem len_from_counts : ∀ ds M Q E, S_from_counts ds M Q E → ds.length = 1 := by rintro _ _ _ _ ⟨_, _, rfl, _⟩; rfl
theorem len_subtract : ∀ ds M Q E, S_subtract ds M Q E → ds.length = 2 := by rintro _ _ _ _ ⟨_, _, rfl, _⟩; rfl
theorem len_total : ∀ ds M Q E, S_total ds M Q E → ds.length = 1 := by rintro _ _ _ _ ⟨_, rfl, _⟩; rfl
theorem len_level : ∀ ds M Q E, S_level ds M Q E → ds.length = 2 := by rintro _ _ _ _ ⟨_, _, rfl, _⟩; rfl
theorem len_drop : ∀ ds M Q E, S_drop ds M Q E → ds.length = 2 := by rintro _ _ _ _ ⟨_, _, rfl, _⟩; rfl
theorem len_insert_steps : ∀ ds M Q E, S_insert_steps ds M Q E → ds.length = 1 := by rintro _ _ _ _ ⟨_, rfl, _⟩; rfl
theorem len_removals_needed : ∀ ds M Q E, S_removals_needed ds M Q E → ds.length = 2 := by rintro _ _ _ _ ⟨_, _, rfl, _⟩; rfl
theorem len_distance : ∀ ds M Q E, S_distance ds M Q E → ds.length = 2 := by rintro _ _ _ _ ⟨_, _, rfl, _⟩; rfl
theorem len_plan : ∀ ds M Q E, S_plan ds M Q E → ds.length = 3 := by rintro _ _ _ _ ⟨_, _, rfl, _⟩; rfl
theorem len__law_draw : ∀ ds M Q E, S__law_draw ds M Q E → ds.length = 2 := by rintro _ _ _ _ ⟨_, _, _, rfl, _⟩; rfl
theorem len__law_base : ∀ ds M Q E, S__law_base ds M Q E → ds.length = 1 := by rintro _ _ _ _ ⟨_, _, rfl, _⟩; rfl
theorem len__law_bag : ∀ ds M Q E, S__law_bag ds M Q E → ds.length = 1 := by rintro _ _ _ _ ⟨_, _, rfl, _⟩; rfl
end HB
set_option Elab.async false
set_option autoImplicit false
set_option linter.all false
set_option maxRecDepth 100000
set_option maxHeartbeats 4000000
/-! k66: the plain part: a search over small heaps, told by places. -/
namespace K66
open PySem PySem.Spec L2 L3 HB
open PyProof.Rows hiding pairD cnt
/-! ### heaps of places 0, 1, 2 -/
def insN (x : Nat) : List Nat → List Nat
  | [] => [x]
  | y :: r => bif Nat.ble x y then x :: y :: r else y :: insN x r
def isN : List Nat → List Nat
  | [] => []
  | x :: r => insN x (isN r)
def nearN (h : List Nat) : List (List Nat) := (bif Nat.blt h.length 6 then [insN 0 h, insN 1 h, insN 2 h] else []) ++ (match h with | [] => [] | _ :: t => [t])
abbrev Fnd := List (List Nat × Nat)
def leqN : List Nat → List Nat → Bool
  | [], [] => true
  | a :: r, b :: s => bif Nat.beq a b then leqN r s else false
  | _, _ => false
def valN : Fnd → List Nat → Option Nat
  | [], _ => none
  | p :: r, h => bif leqN p.1 h then some p.2 else valN r h
def visitN {α : Type} (d : Nat) : List (List Nat) → Fnd → List (List Nat) → (Fnd → List (List Nat) → α) → α
  | [], F, P, k => k F P
  | a :: r, F, P, k => match valN F a with
    | some _ => visitN d r F P k
    | none => visitN d r (F ++ [(a, d)]) (P ++ [a]) k
def bfsN : Nat → Nat → Fnd → List (List Nat) → Fnd × List (List Nat)
  | 0, _, F, P => (F, P)
  | n + 1, i, F, P => match P[i]? with
    | none => (F, P)
    | some h => visitN ((valN F h).getD 0 + 1) (nearN h) F P fun F' P' => bfsN n (i + 1) F' P'
def cntN (l : List Nat) (k : Nat) : Nat := match l with | [] => 0 | x :: r => bif Nat.beq x k then cntN r k + 1 else cntN r k
/-- the bag of places -/
def bagC (l : List Nat) : Bag := [0, 1, 2].filterMap fun k => match cntN l k with | 0 => none | n + 1 => some ((k : Int), ((n + 1 : Nat) : Int))
/-- what is inserted -/
def insC (G Dp : Bag) : Bag := [0, 1, 2].filterMap fun k : Nat => if 0 < cnt G k - cnt Dp k then some ((k : Int), cnt G k - cnt Dp k) else none
def expN (r : Int) (ins : Bag) : List (Option Nat) := List.replicate r.toNat none ++ (ins.map fun p => List.replicate p.2.toNat (some p.1.toNat)).flatten
def runN : List Nat → List (Option Nat) → Option (List Nat)
  | cur, [] => some cur
  | cur, some n :: r => runN (insN n cur) r
  | [], none :: _ => none
  | _ :: t, none :: r => runN t r
def heapsN (n : Nat) : List (List Nat) := (List.range (n + 1)).flatMap fun a => (List.range (n + 1 - a)).flatMap fun b => (List.range (n + 1 - a - b)).map fun c => List.replicate a 0 ++ List.replicate b 1 ++ List.replicate c 2
/-- a start and a goal: the search's number, the formula, the plan's length and its run -/
def okN (s g : List Nat) (v : Option Nat) : Bool := match v with
  | none => false
  | some d =>
    let S := bagC s
    let G := bagC g
    let r := need S G
    let ins := insC G (dropB S r)
    decide (2 * r + tot G - tot S = (d : Int)) && decide (0 ≤ r) && Nat.ble d 100 && Nat.beq (expN r ins).length d && (match runN s (expN r ins) with | some l => leqN l g | none => false)
def checkN (s : List Nat) : Bool :=
  let R := bfsN 90 0 [(s, 0)] [s]
  Nat.beq R.2.length 84 && (heapsN 5).all fun g => okN s g (valN R.1 g)
theorem ck0 : checkN [] = true := by decide +kernel
theorem ck1 : checkN [2] = true := by decide +kernel
theorem ck2 : checkN [2, 2] = true := by decide +kernel
theorem ck3 : checkN [2, 2, 2] = true := by decide +kernel
theorem ck4 : checkN [2, 2, 2, 2] = true := by decide +kernel
theorem ck5 : checkN [1] = true := by decide +kernel
theorem ck6 : checkN [1, 2] = true := by decide +kernel
theorem ck7 : checkN [1, 2, 2] = true := by decide +kernel
theorem ck8 : checkN [1, 2, 2, 2] = true := by decide +kernel
theorem ck9 : checkN [1, 1] = true := by decide +kernel
theorem ck10 : checkN [1, 1, 2] = true := by decide +kernel
theorem ck11 : checkN [1, 1, 2, 2] = true := by decide +kernel
theorem ck12 : checkN [1, 1, 1] = true := by decide +kernel
theorem ck13 : checkN [1, 1, 1, 2] = true := by decide +kernel
theorem ck14 : checkN [1, 1, 1, 1] = true := by decide +kernel
theorem ck15 : checkN [0] = true := by decide +kernel
theorem ck16 : checkN [0, 2] = true := by decide +kernel
theorem ck17 : checkN [0, 2, 2] = true := by decide +kernel
theorem ck18 : checkN [0, 2, 2, 2] = true := by decide +kernel
theorem ck19 : checkN [0, 1] = true := by decide +kernel
theorem ck20 : checkN [0, 1, 2] = true := by decide +kernel
theorem ck21 : checkN [0, 1, 2, 2] = true := by decide +kernel
theorem ck22 : checkN [0, 1, 1] = true := by decide +kernel
theorem ck23 : checkN [0, 1, 1, 2] = true := by decide +kernel
theorem ck24 : checkN [0, 1, 1, 1] = true := by decide +kernel
theorem ck25 : checkN [0, 0] = true := by decide +kernel
theorem ck26 : checkN [0, 0, 2] = true := by decide +kernel
theorem ck27 : checkN [0, 0, 2, 2] = true := by decide +kernel
theorem ck28 : checkN [0, 0, 1] = true := by decide +kernel
theorem ck29 : checkN [0, 0, 1, 2] = true := by decide +kernel
theorem ck30 : checkN [0, 0, 1, 1] = true := by decide +kernel
theorem ck31 : checkN [0, 0, 0] = true := by decide +kernel
theorem ck32 : checkN [0, 0, 0, 2] = true := by decide +kernel
theorem ck33 : checkN [0, 0, 0, 1] = true := by decide +kernel
theorem ck34 : checkN [0, 0, 0, 0] = true := by decide +kernel
theorem check_all : ∀ s ∈ heapsN 4, checkN s = true := by
  have e : heapsN 4 = [[], [2], [2, 2], [2, 2, 2], [2, 2, 2, 2], [1], [1, 2], [1, 2, 2], [1, 2, 2, 2], [1, 1], [1, 1, 2], [1, 1, 2, 2], [1, 1, 1], [1, 1, 1, 2], [1, 1, 1, 1], [0], [0, 2], [0, 2, 2], [0, 2, 2, 2], [0, 1], [0, 1, 2], [0, 1, 2, 2], [0, 1, 1], [0, 1, 1, 2], [0, 1, 1, 1], [0, 0], [0, 0, 2], [0, 0, 2, 2], [0, 0, 1], [0, 0, 1, 2], [0, 0, 1, 1], [0, 0, 0], [0, 0, 0, 2], [0, 0, 0, 1], [0, 0, 0, 0]] := by decide +kernel
  rw [e]
  simp only [List.forall_mem_cons, List.not_mem_nil, false_imp_iff, implies_true, and_true, forall_const]
  exact ⟨ck0, ck1, ck2, ck3, ck4, ck5, ck6, ck7, ck8, ck9, ck10, ck11, ck12, ck13, ck14, ck15, ck16, ck17, ck18, ck19, ck20, ck21, ck22, ck23, ck24, ck25, ck26, ck27, ck28, ck29, ck30, ck31, ck32, ck33, ck34⟩
end K66
set_option Elab.async false
set_option autoImplicit false
set_option linter.all false
set_option maxRecDepth 100000
set_option exponentiation.threshold 100000
set_option maxHeartbeats 4000000
/-! k66: from places to numbers. -/
namespace K66
open PySem PySem.Spec L2 L3 HB
open PyProof.Rows hiding pairD cnt
theorem leqN_iff : ∀ {a b : List Nat}, leqN a b = true ↔ a = b
  | [], [] => by simp [leqN]
  | [], _ :: _ => by simp [leqN]
  | _ :: _, [] => by simp [leqN]
  | a :: r, b :: s => by
    unfold leqN
    by_cases h : a = b
    · subst h
      rw [show Nat.beq a a = true from Nat.beq_refl a]
      simp [leqN_iff]
    · rw [show Nat.beq a b = false from Bool.eq_false_iff.mpr fun e => h (Nat.eq_of_beq_eq_true e)]
      simp [h]
/-- sorted, places below 3 -/
def Srt (l : List Nat) : Prop := l.Pairwise (· ≤ ·) ∧ ∀ x ∈ l, x < 3
theorem insN_mem {x y : Nat} : ∀ {l : List Nat}, y ∈ insN x l ↔ y = x ∨ y ∈ l
  | [] => by simp [insN]
  | z :: r => by
    unfold insN
    cases Nat.ble x z
    · simp only [cond_false, List.mem_cons, insN_mem]
      constructor
      · rintro (h | h | h) <;> simp [h]
      · rintro (h | h | h) <;> simp [h]
    · simp
theorem insN_len {x : Nat} : ∀ {l : List Nat}, (insN x l).length = l.length + 1
  | [] => rfl
  | z :: r => by unfold insN; cases Nat.ble x z <;> simp [insN_len]
theorem insN_perm {x : Nat} : ∀ {l : List Nat}, (insN x l).Perm (x :: l)
  | [] => List.Perm.refl _
  | z :: r => by
    unfold insN
    cases Nat.ble x z
    · exact (insN_perm.cons z).trans (List.Perm.swap x z r)
    · exact List.Perm.refl _
theorem insN_srt {x : Nat} : ∀ {l : List Nat}, l.Pairwise (· ≤ ·) → (insN x l).Pairwise (· ≤ ·)
  | [], _ => by simp [insN]
  | z :: r, h => by
    unfold insN
    by_cases c : x ≤ z
    · rw [show Nat.ble x z = true from Nat.ble_eq.mpr c]
      refine List.pairwise_cons.mpr ⟨fun y hy => ?_, h⟩
      rcases List.mem_cons.mp hy with rfl | hy
      · exact c
      · exact Nat.le_trans c ((List.pairwise_cons.mp h).1 y hy)
    · rw [show Nat.ble x z = false from Bool.eq_false_iff.mpr fun e => c (Nat.le_of_ble_eq_true e)]
      refine List.pairwise_cons.mpr ⟨fun y hy => ?_, insN_srt (List.pairwise_cons.mp h).2⟩
      rcases insN_mem.mp hy with rfl | hy
      · omega
      · exact (List.pairwise_cons.mp h).1 y hy
theorem Srt.ins {x : Nat} {l : List Nat} (h : Srt l) (hx : x < 3) : Srt (insN x l) := ⟨insN_srt h.1, fun y hy => (insN_mem.mp hy).elim (fun e => e ▸ hx) (h.2 y)⟩
theorem isN_perm : ∀ l : List Nat, (isN l).Perm l
  | [] => .refl _
  | x :: r => insN_perm.trans ((isN_perm r).cons x)
theorem isN_srt : ∀ {l : List Nat}, (∀ x ∈ l, x < 3) → Srt (isN l)
  | [], _ => ⟨.nil, fun _ h => by cases h⟩
  | x :: r, h => (isN_srt fun y hy => h y (List.mem_cons_of_mem _ hy)).ins (h x List.mem_cons_self)
/-- the numbers at the places -/
def at_ (b : Int) (l : List Nat) : List Int := l.map fun i : Nat => b + (i : Int)
theorem at_srt {b : Int} {l : List Nat} (h : l.Pairwise (· ≤ ·)) : (at_ b l).Pairwise (· ≤ ·) := by
  unfold at_
  rw [List.pairwise_map]
  exact h.imp fun h => by omega
theorem at_inj {b : Int} : ∀ {l m : List Nat}, at_ b l = at_ b m → l = m
  | [], [], _ => rfl
  | [], _ :: _, h => by simp [at_] at h
  | _ :: _, [], h => by simp [at_] at h
  | x :: r, y :: s, h => by
    unfold at_ at h
    rw [List.map_cons, List.map_cons] at h
    injection h with h1 h2
    have : x = y := by omega
    rw [this, at_inj h2]
theorem sort_snoc {b : Int} {l : List Nat} (h : l.Pairwise (· ≤ ·)) (x : Nat) : sortI (at_ b l ++ [b + (x : Int)]) = at_ b (insN x l) := by
  refine sorted_uniq (sortI_le _) (at_srt (insN_srt h)) ((sortI_perm _).trans ?_)
  have : (at_ b (insN x l)).Perm (at_ b (x :: l)) := insN_perm.map _
  refine List.Perm.trans ?_ this.symm
  show (at_ b l ++ [b + (x : Int)]).Perm ((b + (x : Int)) :: at_ b l)
  exact List.perm_append_comm
theorem sort_at {b : Int} {l : List Nat} : sortI (at_ b l) = at_ b (isN l) := by
  have hs : (isN l).Pairwise (· ≤ ·) := by
    induction l with
    | nil => exact .nil
    | cons x r ih => exact insN_srt ih
  exact sorted_uniq (sortI_le _) (at_srt hs) ((sortI_perm _).trans ((isN_perm l).symm.map _))
theorem sort_srt {b : Int} {l : List Nat} (h : l.Pairwise (· ≤ ·)) : sortI (at_ b l) = at_ b l := sorted_uniq (sortI_le _) (at_srt h) (sortI_perm _)
/-! a sorted list of places is one of heapsN -/
theorem canon_of {l : List Nat} (h : Srt l) : l = List.replicate (l.count 0) 0 ++ List.replicate (l.count 1) 1 ++ List.replicate (l.count 2) 2 := by
  have hp : (List.replicate (l.count 0) 0 ++ List.replicate (l.count 1) 1 ++ List.replicate (l.count 2) 2).Pairwise (· ≤ ·) := by
    rw [List.pairwise_append, List.pairwise_append]
    refine ⟨⟨List.pairwise_replicate.mpr (by simp), List.pairwise_replicate.mpr (by simp), fun a ha c hc => ?_⟩, List.pairwise_replicate.mpr (by simp), fun a ha c hc => ?_⟩
    · rw [(List.mem_replicate.mp ha).2]; omega
    · rw [(List.mem_replicate.mp hc).2]
      rcases List.mem_append.mp ha with ha | ha <;> rw [(List.mem_replicate.mp ha).2] <;> omega
  have perm : l.Perm (List.replicate (l.count 0) 0 ++ List.replicate (l.count 1) 1 ++ List.replicate (l.count 2) 2) := by
    rw [List.perm_iff_count]
    intro a
    simp only [List.count_append, List.count_replicate]
    by_cases h0 : a = 0
    · subst h0; simp
    by_cases h1 : a = 1
    · subst h1; simp
    by_cases h2 : a = 2
    · subst h2; simp
    have : l.count a = 0 := List.count_eq_zero.mpr fun hm => by have := h.2 a hm; omega
    rw [this]
    simp [Ne.symm h0, Ne.symm h1, Ne.symm h2]
  have h1 := at_srt (b := 0) h.1
  have h2 := at_srt (b := 0) hp
  exact at_inj (sorted_uniq h1 h2 (perm.map _))
theorem count3 {l : List Nat} (h : Srt l) : l.count 0 + l.count 1 + l.count 2 = l.length := by
  have e := congrArg List.length (canon_of h)
  simp at e
  omega
theorem mem_heaps {l : List Nat} {n : Nat} (h : Srt l) (hn : l.length ≤ n) : l ∈ heapsN n := by
  have h3 := count3 h
  rw [canon_of h]
  unfold heapsN
  refine List.mem_flatMap.mpr ⟨l.count 0, by rw [List.mem_range]; omega, List.mem_flatMap.mpr ⟨l.count 1, by rw [List.mem_range]; omega, List.mem_map.mpr ⟨l.count 2, by rw [List.mem_range]; omega, rfl⟩⟩⟩
/-! ### bags, moved -/
def shB (b : Int) (B : Bag) : Bag := B.map fun p => (b + p.1, p.2)
theorem getI_sh (b : Int) (B : Bag) (k : Int) : getI (shB b B) (b + k) = getI B k := by
  induction B with
  | nil => rfl
  | cons p r ih =>
    show (if b + p.1 = b + k then some p.2 else getI (shB b r) (b + k)) = (if p.1 = k then some p.2 else getI r k)
    rw [ih]
    by_cases h : p.1 = k
    · rw [if_pos h, if_pos (by omega)]
    · rw [if_neg h, if_neg (by omega)]
theorem cnt_sh (b : Int) (B : Bag) (k : Int) : cnt (shB b B) (b + k) = cnt B k := by unfold cnt; rw [getI_sh]
theorem tot_sh (b : Int) (B : Bag) : tot (shB b B) = tot B := by unfold tot shB; rw [List.map_map]; rfl
theorem lev_sh (b : Int) (B : Bag) (n : Int) : lev (shB b B) (b + n) = lev B n := by
  induction B with
  | nil => rfl
  | cons p r ih =>
    have e1 : ∀ (q : Int × Int) (t : Bag) (m : Int), lev (q :: t) m = (if q.1 ≤ m then q.2 else 0) + lev t m := fun q t m => by
      unfold lev
      by_cases h : q.1 ≤ m
      · rw [List.filter_cons_of_pos (by simpa using h), if_pos h]; simp
      · rw [List.filter_cons_of_neg (by simpa using h), if_neg h]; simp
    show lev ((b + p.1, p.2) :: shB b r) (b + n) = _
    rw [e1, e1, ih]
    by_cases h : p.1 ≤ n
    · rw [if_pos h, if_pos (by dsimp only; omega)]
    · rw [if_neg h, if_neg (by dsimp only; omega)]
theorem needR_sh (b : Int) (S G : Bag) : ∀ R : Bag, needR (shB b S) (shB b G) (shB b R) = needR S G R
  | [] => rfl
  | p :: r => by
    show (if cnt (shB b G) (b + p.1) < p.2 then lev (shB b S) (b + p.1) - cnt (shB b G) (b + p.1) else needR (shB b S) (shB b G) (shB b r)) = (if cnt G p.1 < p.2 then lev S p.1 - cnt G p.1 else needR S G r)
    rw [cnt_sh, lev_sh, needR_sh b S G r]
theorem need_sh (b : Int) (S G : Bag) : need (shB b S) (shB b G) = need S G := by
  unfold need
  have : (shB b S).reverse = shB b S.reverse := by unfold shB; rw [List.map_reverse]
  rw [this, needR_sh]
theorem drop_sh (b : Int) : ∀ (B : Bag) (k : Int), dropB (shB b B) k = shB b (dropB B k)
  | [], _ => rfl
  | p :: r, k => by
    show dropB ((b + p.1, p.2) :: shB b r) k = _
    rw [drop_cons, drop_cons, drop_sh b r]
    dsimp only
    split
    · rfl
    · rfl
theorem bag_ext : ∀ {A B : Bag}, A.Pairwise (fun p q => p.1 < q.1) → B.Pairwise (fun p q => p.1 < q.1) → (∀ p ∈ A, 1 ≤ p.2) → (∀ p ∈ B, 1 ≤ p.2) → (∀ k, cnt A k = cnt B k) → A = B := by
  intro A B hA hB pA pB h
  have nd : ∀ {C : Bag}, C.Pairwise (fun p q => p.1 < q.1) → (C.map (·.1)).Nodup := fun {C} hC => by unfold List.Nodup; rw [List.pairwise_map]; exact hC.imp fun h => by omega
  have sub : ∀ {C D : Bag}, C.Pairwise (fun p q => p.1 < q.1) → D.Pairwise (fun p q => p.1 < q.1) → (∀ p ∈ C, 1 ≤ p.2) → (∀ k, cnt C k = cnt D k) → ∀ p ∈ C, p ∈ D := fun {C D} hC hD pC h p hp => by
    have e1 := cnt_mem (nd hC) hp
    have e2 := pC p hp
    rw [h] at e1
    have := cnt_pos (b := D) (k := p.1) (by omega)
    rw [e1] at this; exact this
  have key : ∀ {C D : Bag}, C.Pairwise (fun p q => p.1 < q.1) → D.Pairwise (fun p q => p.1 < q.1) → (∀ p, p ∈ C ↔ p ∈ D) → C = D := by
    intro C
    induction C with
    | nil => intro D _ _ h; cases D with | nil => rfl | cons d r => exact absurd ((h d).mpr List.mem_cons_self) (by simp)
    | cons c r ih =>
      intro D hC hD h
      cases D with
      | nil => exact absurd ((h c).mp List.mem_cons_self) (by simp)
      | cons d t =>
        have hC' := List.pairwise_cons.mp hC
        have hD' := List.pairwise_cons.mp hD
        have e : c = d := by
          rcases List.mem_cons.mp ((h c).mp List.mem_cons_self) with e | hc
          · exact e
          · rcases List.mem_cons.mp ((h d).mpr List.mem_cons_self) with e | hd
            · exact e.symm
            · have := hC'.1 d hd; have := hD'.1 c hc; omega
        subst e
        congr 1
        refine ih hC'.2 hD'.2 fun p => ⟨fun hp => ?_, fun hp => ?_⟩
        · rcases List.mem_cons.mp ((h p).mp (List.mem_cons_of_mem _ hp)) with e | hp2
          · subst e; exact absurd (hC'.1 p hp) (by omega)
          · exact hp2
        · rcases List.mem_cons.mp ((h p).mpr (List.mem_cons_of_mem _ hp)) with e | hp2
          · subst e; exact absurd (hD'.1 p hp) (by omega)
          · exact hp2
  exact key hA hB fun p => ⟨sub hA hB pA h p, sub hB hA pB (fun k => (h k).symm) p⟩
theorem count_at {b : Int} {i : Nat} : ∀ l : List Nat, (at_ b l).count (b + (i : Int)) = l.count i
  | [] => rfl
  | x :: r => by
    show ((b + (x : Int)) :: at_ b r).count (b + (i : Int)) = (x :: r).count i
    rw [List.count_cons, List.count_cons, count_at r]
    by_cases h : x = i
    · subst h; simp
    · have : ¬ (b + (x : Int)) = b + (i : Int) := by omega
      simp [h, this]
theorem cntN_is (k : Nat) : ∀ l : List Nat, cntN l k = l.count k
  | [] => rfl
  | x :: r => by
    unfold cntN
    rw [List.count_cons]
    by_cases h : x = k
    · subst h; rw [Nat.beq_refl]; simp [cntN_is]
    · rw [show Nat.beq x k = false from Bool.eq_false_iff.mpr fun e => h (Nat.eq_of_beq_eq_true e)]
      simp [cntN_is, h]
theorem bagL_at {b : Int} {l : List Nat} (h : Srt l) : bagL (at_ b l) = shB b (bagC l) := by
  have e : uniqI (at_ b l) = at_ b ([0, 1, 2].filter fun k => decide (0 < l.count k)) := by
    refine lt_uniq (uniqI_lt _) ?_ fun k => ?_
    · unfold at_
      rw [List.pairwise_map]
      have : ([0, 1, 2] : List Nat).Pairwise (· < ·) := by decide
      exact (this.filter _).imp fun h => by omega
    · rw [uniqI_mem]
      constructor
      · intro hk
        obtain ⟨i, hi, rfl⟩ := List.mem_map.mp hk
        refine List.mem_map.mpr ⟨i, List.mem_filter.mpr ⟨?_, decide_eq_true (List.count_pos_iff.mpr hi)⟩, rfl⟩
        have := h.2 i hi
        have : i = 0 ∨ i = 1 ∨ i = 2 := by omega
        rcases this with rfl | rfl | rfl <;> simp
      · intro hk
        obtain ⟨i, hi, rfl⟩ := List.mem_map.mp hk
        exact List.mem_map.mpr ⟨i, List.count_pos_iff.mp (of_decide_eq_true (List.mem_filter.mp hi).2), rfl⟩
  unfold bagL bagC
  rw [e]
  have key : ∀ ks : List Nat, (at_ b (ks.filter fun k => decide (0 < l.count k))).map (fun k => (k, ((at_ b l).count k : Int))) = shB b (ks.filterMap fun k => match cntN l k with | 0 => none | n + 1 => some ((k : Int), ((n + 1 : Nat) : Int))) := by
    intro ks
    induction ks with
    | nil => rfl
    | cons k r ih =>
      rw [List.filter_cons, List.filterMap_cons, cntN_is]
      cases c : l.count k with
      | zero => simpa [c] using ih
      | succ n =>
        have : decide (0 < n + 1) = true := by simp
        rw [if_pos this]
        show (b + (k : Int), ((at_ b l).count (b + (k : Int)) : Int)) :: _ = (b + (k : Int), ((n + 1 : Nat) : Int)) :: _
        rw [count_at, c]
        congr 1
  exact key [0, 1, 2]
theorem bagL_ok {ns : List Int} (hl : ns.length ≤ 1000) : BagOk (bagL ns) where
  asc := by
    unfold bagL
    rw [List.pairwise_map]
    exact uniqI_lt ns
  pos := fun p hp => by
    obtain ⟨k, hk, rfl⟩ := List.mem_map.mp hp
    have := List.count_pos_iff.mpr (uniqI_mem.mp hk)
    dsimp only; omega
  fit := by
    have hu : (uniqI ns).length ≤ ns.length := by
      have h1 : ∀ l : List Int, (ded l).length ≤ l.length := fun l => by
        induction l with
        | nil => exact Nat.le_refl _
        | cons x r ih => unfold ded; split <;> simp <;> omega
      unfold uniqI
      rw [(sortI_perm _).length_eq]; exact h1 ns
    unfold bagL
    rw [List.length_map]; omega
  small := fun p hp => by
    obtain ⟨k, hk, rfl⟩ := List.mem_map.mp hp
    have h1 : ns.count k ≤ ns.length := List.count_le_length
    have h2 : (1000 : Int) < 2 ^ 1000 := by decide
    dsimp only; omega
/-! ### the plan and its run -/
def stepD : Option Int → D
  | some n => .tup [.str "insert", .int n, .int 1]
  | none => .tup [.str "remove", .int 1]
def runL : List Int → List (Option Int) → Option (List Int)
  | cur, [] => some cur
  | cur, some n :: r => runL (sortI (cur ++ [n])) r
  | [], none :: _ => none
  | _ :: t, none :: r => runL t r
def expandP (r : Int) (ins : Bag) : List (Option Int) := List.replicate r.toNat none ++ (ins.map fun p => List.replicate p.2.toNat (some p.1)).flatten
theorem run_at {b : Int} : ∀ (sts : List (Option Nat)) (cur : List Nat), cur.Pairwise (· ≤ ·) → runL (at_ b cur) (sts.map (Option.map fun i : Nat => b + (i : Int))) = (runN cur sts).map (at_ b)
  | [], cur, _ => by cases cur <;> rfl
  | some n :: r, cur, h => by
    have e : runL (at_ b cur) ((some n :: r).map (Option.map fun i : Nat => b + (i : Int))) = runL (sortI (at_ b cur ++ [b + (n : Int)])) (r.map (Option.map fun i : Nat => b + (i : Int))) := by cases cur <;> rfl
    have e2 : runN cur (some n :: r) = runN (insN n cur) r := by cases cur <;> rfl
    rw [e, e2, sort_snoc h, run_at r _ (insN_srt h)]
  | none :: r, [], _ => rfl
  | none :: r, x :: t, h => run_at r t (List.pairwise_cons.mp h).2
theorem fm_asc (F : Int → Int) : ∀ ks : List Nat, ks.Pairwise (· < ·) → ((ks.filterMap fun k : Nat => if 0 < F k then some ((k : Int), F k) else none).Pairwise fun p q => p.1 < q.1) ∧ ∀ p ∈ (ks.filterMap fun k : Nat => if 0 < F k then some ((k : Int), F k) else none), 1 ≤ p.2 ∧ ∃ k ∈ ks, p.1 = (k : Int)
  | [], _ => ⟨.nil, fun p h => by cases h⟩
  | k :: r, h => by
    have ih := fm_asc F r (List.pairwise_cons.mp h).2
    rw [List.filterMap_cons]
    by_cases c : 0 < F k
    · rw [if_pos c]
      refine ⟨List.pairwise_cons.mpr ⟨fun p hp => ?_, ih.1⟩, fun p hp => ?_⟩
      · obtain ⟨_, j, hj, e⟩ := ih.2 p hp
        have := (List.pairwise_cons.mp h).1 j hj
        rw [e]; dsimp only; omega
      · rcases List.mem_cons.mp hp with rfl | hp
        · exact ⟨by dsimp only; omega, k, List.mem_cons_self, rfl⟩
        · obtain ⟨h1, j, hj, e⟩ := ih.2 p hp
          exact ⟨h1, j, List.mem_cons_of_mem _ hj, e⟩
    · rw [if_neg c]
      refine ⟨ih.1, fun p hp => ?_⟩
      obtain ⟨h1, j, hj, e⟩ := ih.2 p hp
      exact ⟨h1, j, List.mem_cons_of_mem _ hj, e⟩
theorem fm_cnt (F : Int → Int) (j : Int) : ∀ ks : List Nat, cnt (ks.filterMap fun k : Nat => if 0 < F k then some ((k : Int), F k) else none) j = if (∃ k ∈ ks, (k : Int) = j) ∧ 0 < F j then F j else 0
  | [] => by simp [cnt, getI]
  | k :: r => by
    have ih := fm_cnt F j r
    have hc : ∀ (p : Int × Int) (t : Bag), cnt (p :: t) j = if p.1 = j then p.2 else cnt t j := fun p t => by unfold cnt; show (if p.1 = j then some p.2 else getI t j).getD 0 = _; split <;> rfl
    rw [List.filterMap_cons]
    by_cases c : 0 < F k
    · rw [if_pos c, hc]
      by_cases e : (k : Int) = j
      · dsimp only
        rw [if_pos e, if_pos ⟨⟨k, List.mem_cons_self, e⟩, by rw [← e]; exact c⟩, e]
      · dsimp only
        rw [if_neg e, ih]
        simp [e]
    · rw [if_neg c, ih]
      by_cases e : (k : Int) = j
      · have : ¬ 0 < F j := by rw [← e]; exact c
        simp [this]
      · simp [e]
theorem bagC_eq (l : List Nat) : bagC l = [0, 1, 2].filterMap fun k : Nat => if 0 < ((fun j : Int => (l.count j.toNat : Int)) k) then some ((k : Int), (fun j : Int => (l.count j.toNat : Int)) k) else none := by
  unfold bagC
  congr 1
  funext k
  rw [cntN_is]
  show _ = if 0 < (l.count k : Int) then some ((k : Int), (l.count k : Int)) else none
  cases l.count k with
  | zero => rfl
  | succ n => rw [if_pos (by omega)]
theorem cntC (l : List Nat) (j : Int) (h : ¬ ∃ k ∈ ([0, 1, 2] : List Nat), (k : Int) = j) : cnt (bagC l) j = 0 := by
  rw [bagC_eq]
  refine (fm_cnt (fun j : Int => (l.count j.toNat : Int)) j [0, 1, 2]).trans ?_
  rw [if_neg (fun z => h z.1)]
theorem main (b : Int) {s g : List Nat} (hs : Srt s) (hg : Srt g) (ls : s.length ≤ 4) (lg : g.length ≤ 5) :
    ∃ d : Nat, valN (bfsN 90 0 [(s, 0)] [s]).1 g = some d ∧ 2 * need (bagL (at_ b s)) (bagL (at_ b g)) + tot (bagL (at_ b g)) - tot (bagL (at_ b s)) = (d : Int) ∧ d ≤ 100 ∧
      ∀ ins, BagOk ins → (∀ k, cnt ins k = cnt (bagL (at_ b g)) k - cnt (dropB (bagL (at_ b s)) (need (bagL (at_ b s)) (bagL (at_ b g)))) k) →
        (expandP (need (bagL (at_ b s)) (bagL (at_ b g))) ins).length = d ∧ runL (at_ b s) (expandP (need (bagL (at_ b s)) (bagL (at_ b g))) ins) = some (at_ b g) := by
  have hc := check_all s (mem_heaps hs ls)
  unfold checkN at hc
  simp only [Bool.and_eq_true, List.all_eq_true] at hc
  have ok := hc.2 g (mem_heaps hg lg)
  cases hv : valN (bfsN 90 0 [(s, 0)] [s]).1 g with
  | none => rw [hv] at ok; cases ok
  | some d =>
    rw [hv] at ok
    simp only [okN, Bool.and_eq_true, decide_eq_true_eq] at ok
    obtain ⟨⟨⟨⟨o1, o2⟩, o5⟩, o3⟩, o4⟩ := ok
    have os : BagOk (bagL (at_ b s)) := bagL_ok (by unfold at_; rw [List.length_map]; omega)
    have og : BagOk (bagL (at_ b g)) := bagL_ok (by unfold at_; rw [List.length_map]; omega)
    have hle := ((need_is os og).le os og).2.2
    have hdn := ((need_is os og).le os og).1
    rw [bagL_at hs, bagL_at hg] at hle hdn ⊢
    rw [need_sh, drop_sh] at hle hdn
    rw [need_sh, tot_sh, tot_sh, drop_sh]
    refine ⟨d, rfl, o1, Nat.le_of_ble_eq_true o5, fun ins hi hk => ?_⟩
    have hF := fm_asc (fun j => cnt (bagC g) j - cnt (dropB (bagC s) (need (bagC s) (bagC g))) j) [0, 1, 2] (by decide)
    have ei : ins = shB b (insC (bagC g) (dropB (bagC s) (need (bagC s) (bagC g)))) := by
      refine bag_ext hi.asc ?_ hi.pos (fun p hp => ?_) fun k => ?_
      · unfold shB insC
        rw [List.pairwise_map]
        exact hF.1.imp fun h => by omega
      · obtain ⟨q, hq, rfl⟩ := List.mem_map.mp hp
        exact (hF.2 q hq).1
      · rw [hk k]
        have e : k = b + (k - b) := by omega
        have hle' := hle k
        have h0 := hdn.cnt0 k
        rw [e, cnt_sh, cnt_sh] at hle'
        rw [e, cnt_sh] at h0
        rw [e, cnt_sh, cnt_sh, cnt_sh]
        unfold insC
        refine Eq.trans ?_ (fm_cnt (fun j => cnt (bagC g) j - cnt (dropB (bagC s) (need (bagC s) (bagC g))) j) (k - b) [0, 1, 2]).symm
        by_cases c : ∃ i ∈ ([0, 1, 2] : List Nat), (i : Int) = k - b
        · split
          · rfl
          · rename_i z
            have : ¬ 0 < cnt (bagC g) (k - b) - cnt (dropB (bagC s) (need (bagC s) (bagC g))) (k - b) := fun y => z ⟨c, y⟩
            omega
        · rw [if_neg fun z => c z.1]
          have := cntC g (k - b) c
          omega
    have ex : expandP (need (bagC s) (bagC g)) ins = (expN (need (bagC s) (bagC g)) (insC (bagC g) (dropB (bagC s) (need (bagC s) (bagC g))))).map (Option.map fun i : Nat => b + (i : Int)) := by
      rw [ei]
      unfold expandP expN
      rw [List.map_append, List.map_replicate]
      congr 1
      rw [List.map_flatten, List.map_map]
      unfold shB
      rw [List.map_map]
      congr 1
      refine List.map_congr_left fun p hp => ?_
      obtain ⟨_, k, _, e⟩ := hF.2 p hp
      show List.replicate p.2.toNat (some (b + p.1)) = (List.replicate p.2.toNat (some p.1.toNat)).map _
      rw [List.map_replicate, e]; rfl
    rw [ex, List.length_map]
    refine ⟨Nat.eq_of_beq_eq_true o3, ?_⟩
    rw [run_at _ _ hs.1]
    cases hr : runN s (expN (need (bagC s) (bagC g)) (insC (bagC g) (dropB (bagC s) (need (bagC s) (bagC g))))) with
    | none => rw [hr] at o4; cases o4
    | some l => rw [hr] at o4; rw [leqN_iff.mp o4]; rfl
end K66
set_option Elab.async false
set_option autoImplicit false
set_option linter.all false
/-! k66: what the law's own defs promise. -/
namespace K66
open PySem PySem.Spec L2 L3 HB
open PyProof.Rows hiding pairD cnt
def S__law_run : SpD := fun ds M Q _ => ∃ h s hs sts r, ds = [.ref h, .ref s] ∧ M h = some (.lst (hs.map .int)) ∧ M s = some (.lst (sts.map stepD)) ∧ hs.length + sts.length ≤ 100000 ∧ runL (sortI hs) sts = some r ∧
  ∀ M' p c g, SubM M M' → M' p = some (.lst [.ref c, .ref g, .non]) → M' c = some (.lst (r.map .int)) → Q (.ref p) M'
def S__law_expand : SpD := fun ds M Q _ => ∃ r ins, ds = [planD r ins] ∧ (expandP r ins).length ≤ 100000 ∧ ins.length ≤ 10000 ∧ (∀ p ∈ ins, 0 ≤ p.2) ∧ ∀ M' p, SubM M M' → M' p = some (.lst ((expandP r ins).map stepD)) → Q (.ref p) M'
/-- the dict of what the search found -/
def keyOf (b : Int) (h : List Nat) : List Key := h.map fun i : Nat => Sum.inl (b + (i : Int))
def fndD (b : Int) (F : Fnd) : List (List Key × D) := F.map fun p => (keyOf b p.1, .int p.2)
def S__law_distances : SpD := fun ds M Q _ => ∃ a n b s, ds = [.ref a, .ref n, .int 6] ∧ M a = some (.lst ((at_ b s).map .int)) ∧ M n = some (.lst [.int b, .int (b + 1), .int (b + 2)]) ∧ Srt s ∧ s.length ≤ 4 ∧
  ∀ M' p, SubM M M' → M' p = some (.dT (fndD b (bfsN 90 0 [(s, 0)] [s]).1)) → Q (.ref p) M'
def S_law : SpD := fun ds M Q _ => ∃ ns : List Int, ds = [.frl (ns.map .int)] ∧ ns.length ≤ 63 ∧ ∀ M', Q (.bl true) M'
end K66
set_option Elab.async false
set_option autoImplicit false
set_option linter.all false
set_option maxRecDepth 100000
set_option maxHeartbeats 4000000
/-! readings, printed by gen.py -/
namespace K66
open PySem PySem.Spec L2 L3 HB
open PyProof.Rows hiding pairD cnt
def T__law_run : TSd := (TSeq (TAsg (TCB RSorted (TCons (TVar 0) TNil)) (GName 2)) (TSeq (TAsg (TLst TNil) (GName 3)) (TSeq (TFor (TRng1 (TCons (TCB RLen (TCons (TVar 1) TNil)) TNil)) (GName 4) (TIfS (TTest (TOp REq (TOp RIx (TOp RIx (TVar 1) (TVar 4)) (TC (.int 0))) (TC (.str "insert")))) (TAsg (TCB RSorted (TCons (TOp RAdd (TVar 2) (TLst (TCons (TOp RIx (TOp RIx (TVar 1) (TVar 4)) (TC (.int 1))) TNil))) TNil)) (GName 2)) (TIfS (TTest (TOp REq (TVar 2) (TLst TNil))) (TRet (TLst (TCons (TC .non) (TCons (TVar 3) (TCons (TVar 4) TNil))))) (TSeq (TDrop (TBM TyL RAppend (TVar 3) (TCons (TOp RIx (TVar 2) (TC (.int 0))) TNil))) (TAsg (TSl (TVar 2) (TPart (TC (.int 1))) TNoPart) (GName 2)))))) (TRet (TLst (TCons (TVar 2) (TCons (TVar 3) (TCons (TC .non) TNil))))))))
def T__law_expand : TSd := (TSeq (TAsg (TLst TNil) (GName 1)) (TSeq (TFor (TIt (TVar 0)) (GName 2) (TIfS (TTest (TOp REq (TOp RIx (TVar 2) (TC (.int 0))) (TC (.str "repeat")))) TNever (TAsg (TOp RAdd (TVar 1) (TOp RMul (TLst (TCons (TOp RAdd (TSl (TVar 2) TNoPart (TPart (TUn RNeg (TC (.int 1))))) (TTup (TCons (TC (.int 1)) TNil))) TNil)) (TOp RIx (TVar 2) (TUn RNeg (TC (.int 1)))))) (GName 1)))) (TRet (TVar 1))))
def T__law_distances : TSd := (TSeq (TAsg (TDispT (TCB RTupleU (TCons (TVar 0) TNil)) (TC (.int 0))) (GName 3)) (TSeq (TAsg (TLst (TCons (TCB RTupleU (TCons (TVar 0) TNil)) TNil)) (GName 4)) (TSeq (TAsg (TC (.int 0)) (GName 5)) (TSeq (TWhile (TTest (TOp RLt (TVar 5) (TCB RLen (TCons (TVar 4) TNil)))) (TSeq (TAsg (TOp RIx (TVar 4) (TVar 5)) (GName 6)) (TSeq (TAsg (TOp RAdd (TVar 5) (TC (.int 1))) (GName 5)) (TSeq (TAsg (TLc (TIt (TVar 1)) (GName 8) (TTest (TOp RLt (TCB RLen (TCons (TVar 6) TNil)) (TVar 2))) (TCB RTupleU (TCons (TCB RSorted (TCons (TOp RAdd (TCB RList (TCons (TVar 6) TNil)) (TLst (TCons (TVar 8) TNil))) TNil)) TNil)) [8]) (GName 7)) (TSeq (TIfS (TTest (TOp RNe (TVar 6) (TTup TNil))) (TDrop (TBM TyL RAppend (TVar 7) (TCons (TSl (TVar 6) (TPart (TC (.int 1))) TNoPart) TNil))) TNext) (TFor (TIt (TVar 7)) (GName 9) (TIfS (TTest (TOp RDNotIn (TVar 9) (TVar 3))) (TSeq (TPut (TVar 3) (TVar 9) (TOp RAdd (TOp RGet (TVar 3) (TVar 6)) (TC (.int 1)))) (TDrop (TBM TyL RAppend (TVar 4) (TCons (TVar 9) TNil)))) TNext))))))) (TRet (TVar 3))))))
def T_law : TSd := (TSeq (TAsg (TLst (TCons (TCB RList (TCons (TVar 0) TNil)) (TCons (TC (.int 0)) (TCons (TC (.int 0)) (TCons (TC (.int 1)) TNil))))) (GName 1)) (TSeq (TAsg (TCall S__law_base [] (TCons (TVar 1) TNil)) (GName 2)) (TSeq (TAsg (TCB RSorted (TCons (TLc (TRng1 (TCons (TCall S__law_draw [] (TCons (TVar 1) (TCons (TC (.int 5)) TNil))) TNil)) (GName 4) TYes (TOp RAdd (TVar 2) (TCall S__law_draw [] (TCons (TVar 1) (TCons (TC (.int 3)) TNil)))) [4]) TNil)) (GName 3)) (TSeq (TAsg (TCall S__law_distances [] (TCons (TVar 3) (TCons (TLst (TCons (TVar 2) (TCons (TOp RAdd (TVar 2) (TC (.int 1))) (TCons (TOp RAdd (TVar 2) (TC (.int 2))) TNil)))) (TCons (TC (.int 6)) TNil)))) (GName 5)) (TSeq (TFor (TRng1 (TCons (TC (.int 5)) TNil)) (GName 4) (TSeq (TAsg (TCB RSorted (TCons (TLc (TRng1 (TCons (TCall S__law_draw [] (TCons (TVar 1) (TCons (TC (.int 6)) TNil))) TNil)) (GName 4) TYes (TOp RAdd (TVar 2) (TCall S__law_draw [] (TCons (TVar 1) (TCons (TC (.int 3)) TNil)))) [4]) TNil)) (GName 6)) (TSeq (TAsg (TOp RGet (TVar 5) (TCB RTupleU (TCons (TVar 6) TNil))) (GName 7)) (TSeq (TIfS (TTest (TOp RNe (TCB RRepr (TCons (TCall S_distance [] (TCons (TCall S__law_bag [] (TCons (TVar 3) TNil)) (TCons (TCall S__law_bag [] (TCons (TVar 6) TNil)) TNil))) TNil)) (TCB RRepr (TCons (TVar 7) TNil)))) (TRet (TC (.bl false))) TNext) (TSeq (TAsg (TCallN 2 0 S_plan gNon (TCons (TCall S__law_bag [] (TCons (TVar 3) TNil)) (TCons (TCall S__law_bag [] (TCons (TVar 6) TNil)) TNil)) TNil) (GName 8)) (TSeq (TIfS (TOr (TNot (TTest (TCB RIsi (TCons (TVar 8) (TCons (TC (.ty "tuple")) TNil))))) (TTest (TOp RNe (TCB RLen (TCons (TCall S__law_expand [] (TCons (TVar 8) TNil)) TNil)) (TVar 7)))) (TRet (TC (.bl false))) TNext) (TIfS (TTest (TOp RNe (TOp RIx (TCall S__law_run [] (TCons (TVar 3) (TCons (TCall S__law_expand [] (TCons (TVar 8) TNil)) TNil))) (TC (.int 0))) (TVar 6))) (TRet (TC (.bl false))) TNext))))))) (TRet (TC (.bl true))))))))
end K66
set_option Elab.async false
set_option autoImplicit false
set_option linter.all false
set_option maxRecDepth 100000
set_option maxHeartbeats 4000000
set_option exponentiation.threshold 100000
/-! k66: the defs keep their promises. -/
namespace K66
open PySem PySem.Spec L2 L3 HB
open PyProof.Rows hiding pairD cnt
theorem eq_str {M : Mh} {x y : Str} {Q : QE} (q : Q (.bl (x == y)) M) : REq (.str x) (.str y) M Q := ⟨_, _, rfl, rfl, Nat.zero_le _, q⟩
theorem ne_str {M : Mh} {x y : Str} {Q : QE} (q : Q (.bl (!(x == y))) M) : RNe (.str x) (.str y) M Q := ⟨_, _, rfl, rfl, Nat.zero_le _, q⟩
theorem step_get {sts : List (Option Int)} {i : Nat} {d : D} (hi : (sts.map stepD)[i]? = some d) : ∃ o, sts[i]? = some o ∧ d = stepD o := by
  rw [List.getElem?_map] at hi
  cases e : sts[i]? with
  | none => rw [e] at hi; cases hi
  | some p => rw [e] at hi; exact ⟨p, rfl, (Option.some.inj hi).symm⟩
theorem runL_len : ∀ (sts : List (Option Int)) (cur r : List Int), runL cur sts = some r → r.length ≤ cur.length + sts.length
  | [], cur, r, h => by
    have : some cur = some r := by cases cur <;> exact h
    cases this; simp
  | some n :: t, cur, r, h => by
    have e : runL (sortI (cur ++ [n])) t = some r := by cases cur <;> exact h
    have := runL_len t _ r e
    rw [(sortI_perm _).length_eq] at this
    simp at this ⊢; omega
  | none :: t, [], r, h => by cases h
  | none :: t, x :: c, r, h => by
    have := runL_len t c r h
    simp; omega
theorem sIx_eq (n d : Nat) (v : Int) : HT.sIx n d (some v) = if v < 0 then (v + (n : Int)).toNat else min v.toNat n := rfl
theorem cut_tail {y : D} {xs : List D} : L3.cutD (y :: xs) (some 1) none = xs := by
  have e1 : HT.sIx (y :: xs).length 0 (some 1) = 1 := (HT.sIx_nat (y :: xs).length 0 1).trans (by simp)
  show ((y :: xs).drop (HT.sIx (y :: xs).length 0 (some 1))).take ((y :: xs).length - HT.sIx (y :: xs).length 0 (some 1)) = xs
  rw [e1]
  show xs.take (xs.length + 1 - 1) = xs
  exact List.take_of_length_le (by omega)
theorem cut_init {x : D} {ws : List D} : L3.cutD (ws ++ [x]) none (some (-1)) = ws := by
  have e1 : HT.sIx (ws ++ [x]).length (ws ++ [x]).length (some (-1)) = ws.length := by
    rw [sIx_eq, if_pos (by decide), List.length_append]
    simp only [List.length_cons, List.length_nil]
    omega
  show ((ws ++ [x]).drop 0).take (HT.sIx (ws ++ [x]).length (ws ++ [x]).length (some (-1)) - 0) = ws
  rw [e1]
  simp
theorem vc__law_run : ∀ ds M Q E, S__law_run ds M Q E → T__law_run { nx := fun _ M' => rlx Q .non M', rt := rlx Q } (startD (["heap", "steps", "current", "gone", "index"] : List Str).length ds) M := by
  rintro ds M Q E ⟨h, s, hs, sts, r, rfl, hh, hst, hl, hr, q⟩
  change T__law_run _ [some (.ref h), some (.ref s), none, none, none] M
  dsimp only [T__law_run, wipeD, TSeq, TNext, TBreak, TCont, TDrop, TRet, TRetN, TIfS, TNever, TAsg, GName, GNil, GCons, TPar, TTest, TAnd, TOr, TNot, TAndV, TOrV, TNotV, TIf, TVar, TC, TNil, TCons, TTup, TLst, TOp, TUn, TCB, TCall, TCallN, TBM, TAug, TGet1, TGet2, TPut, TYes, GSubL, TSl, TNoPart, TPart, TRev, TIt, TRng1, TRng2, TItems, TVals, TKeys, List.getElem?_cons_zero, List.getElem?_cons_succ, List.set_cons_zero, List.set_cons_succ, List.append_nil, List.nil_append, List.cons_append]
  refine .inl ⟨hs, hh, fun c hc => ⟨le6 rfl, fun g hg => tfor ?_⟩⟩
  dsimp only [wipeD, TSeq, TNext, TBreak, TCont, TDrop, TRet, TRetN, TIfS, TNever, TAsg, GName, GNil, GCons, TPar, TTest, TAnd, TOr, TNot, TAndV, TOrV, TNotV, TIf, TVar, TC, TNil, TCons, TTup, TLst, TOp, TUn, TCB, TCall, TCallN, TBM, TAug, TGet1, TGet2, TPut, TYes, GSubL, TSl, TNoPart, TPart, TRev, TIt, TRng1, TRng2, TItems, TVals, TKeys, List.getElem?_cons_zero, List.getElem?_cons_succ, List.set_cons_zero, List.set_cons_succ, List.append_nil, List.nil_append, List.cons_append, RLen]
  have hcg : c ≠ g := fun z => by rw [← z, updM_same] at hg; cases hg
  have hst1 : updM (updM M c (.lst ((sortI hs).map .int))) g (.lst []) s = some (.lst (sts.map stepD)) := by
    have n1 := neM hst hc
    rw [updM_ne (fun z => by rw [← z, updM_ne n1, hst] at hg; cases hg), updM_ne n1]; exact hst
  refine ⟨_, hst1, by rw [List.length_map]; omega, by rw [List.length_map]; omega, ?_⟩
  rw [List.length_map, Int.toNat_natCast]
  have sub0 : SubM M (updM (updM M c (.lst ((sortI hs).map .int))) g (.lst [])) := (SubM.refl.new hc).new hg
  refine ⟨fun i δ M' => ∃ (x : Option D) (c' : Addr) (cur gone : List Int), δ = [some (.ref h), some (.ref s), some (.ref c'), some (.ref g), x] ∧ SubM M M' ∧ M' c' = some (.lst (cur.map .int)) ∧ M' g = some (.lst (gone.map .int)) ∧ c' ≠ g ∧ gone.length ≤ i ∧ cur.length ≤ hs.length + i ∧ runL cur (sts.drop i) = some r ∧ M g = none, ?_, fun _ _ _ _ => trivial, ?_, ?_⟩
  · refine ⟨none, c, sortI hs, [], rfl, sub0, by rw [updM_ne hcg]; exact updM_same, updM_same, hcg, Nat.le_refl _, by rw [(sortI_perm _).length_eq]; omega, hr, ?_⟩
    rw [← hg, updM_ne hcg.symm]
  · rintro i d δ M' hi ⟨x, c', cur, gone, rfl, sub, hc', hg', ncg, hgl, hcl, hrn, hng⟩
    rw [List.getElem?_map] at hi
    have hi2 : i < sts.length := by
      by_cases z : i < sts.length
      · exact z
      · rw [List.getElem?_eq_none (by rw [List.length_range]; omega)] at hi; cases hi
    rw [List.getElem?_range hi2] at hi
    cases hi
    have hs' := sub _ _ hst
    dsimp only [wipeD, TSeq, TNext, TBreak, TCont, TDrop, TRet, TRetN, TIfS, TNever, TAsg, GName, GNil, GCons, TPar, TTest, TAnd, TOr, TNot, TAndV, TOrV, TNotV, TIf, TVar, TC, TNil, TCons, TTup, TLst, TOp, TUn, TCB, TCall, TCallN, TBM, TAug, TGet1, TGet2, TPut, TYes, GSubL, TSl, TNoPart, TPart, TRev, TIt, TRng1, TRng2, TItems, TVals, TKeys, List.getElem?_cons_zero, List.getElem?_cons_succ, List.set_cons_zero, List.set_cons_succ, List.append_nil, List.nil_append, List.cons_append]
    have hgt : sts[i]? = some sts[i] := List.getElem?_eq_getElem hi2
    have hat : atI (sts.map stepD) (0 + (i : Int)) = some (stepD sts[i]) := by
      rw [Int.zero_add, HB.atI_nat, List.getElem?_map, hgt]; rfl
    refine ⟨_, _, hs', hat, ?_⟩
    rw [drop_get hgt] at hrn
    cases ho : sts[i] with
    | some n =>
      rw [ho] at hrn hat
      refine ⟨_, rfl, eq_str ?_⟩
      show if true = true then _ else _
      rw [if_pos rfl]
      refine ⟨_, _, hs', hat, .int n, rfl, le6 rfl, fun p hp => ?_⟩
      have hc1 : updM M' p (.lst [.int n]) c' = some (.lst (cur.map .int)) := by rw [updM_ne (neM hc' hp)]; exact hc'
      refine ⟨_, _, hc1, updM_same, by rw [List.length_map]; show cur.length + 1 ≤ 1000000; omega, fun p2 hp2 => .inl ⟨cur ++ [n], by rw [updM_same, List.map_append]; rfl, fun p3 hp3 => ?_⟩⟩
      have hrn' : runL (sortI (cur ++ [n])) (sts.drop (i + 1)) = some r := by cases cur <;> exact hrn
      have s3 : SubM M' (updM (updM (updM M' p (.lst [.int n])) p2 (.lst (cur.map .int ++ [.int n]))) p3 (.lst ((sortI (cur ++ [n])).map .int))) := ((SubM.refl.new hp).new hp2).new hp3
      have hg3 := s3 _ _ hg'
      have hg2 := ((SubM.refl (M := M').new hp).new hp2 : SubM M' (updM (updM M' p (.lst [.int n])) p2 (.lst (cur.map .int ++ [.int n])))) _ _ hg'
      refine ⟨_, p3, sortI (cur ++ [n]), gone, rfl, sub.trans s3, updM_same, hg3, (neM hg2 hp3).symm, by omega, ?_, hrn', hng⟩
      rw [(sortI_perm _).length_eq]; simp; omega
    | none =>
      rw [ho] at hrn
      refine ⟨_, rfl, eq_str ?_⟩
      show if false = true then _ else _
      rw [if_neg (by decide)]
      refine ⟨le6 rfl, fun p hp => ?_⟩
      have s1 : SubM M' (updM M' p (.lst [])) := SubM.refl.new hp
      refine eq_lints (ms := []) (s1 _ _ hc') updM_same ?_
      cases cur with
      | nil => cases hrn
      | cons y t =>
        show if false = true then _ else _
        rw [if_neg (by decide)]
        have hg1 := s1 _ _ hg'
        refine ⟨⟨_, hg1⟩, _, .int y, s1 _ _ hc', (HB.atI_nat (i := 0)).trans rfl, _, hg1, by rw [List.length_map]; omega, ?_⟩
        have hc2 : updM (updM M' p (.lst [])) g (.lst (gone.map .int ++ [.int y])) c' = some (.lst ((y :: t).map .int)) := by rw [updM_ne ncg]; exact s1 _ _ hc'
        refine ⟨_, hc2, fun p2 hp2 => ?_⟩
        have e : L3.cutD ((y :: t).map D.int) (some 1) none = t.map D.int := cut_tail
        rw [e]
        have gp2 : g ≠ p2 := fun z => by rw [← z, updM_same] at hp2; cases hp2
        refine ⟨_, p2, t, gone ++ [y], rfl, fun a o ea => ?_, updM_same, by rw [updM_ne gp2, updM_same, List.map_append]; rfl, gp2.symm, by simp; omega, by simp at hcl; omega, hrn, hng⟩
        have ag := neM ea hng
        have e2 := s1 _ _ (sub _ _ ea)
        have e3 : updM (updM M' p (.lst [])) g (.lst (gone.map .int ++ [.int y])) a = some o := by rw [updM_ne ag]; exact e2
        rw [updM_ne (neM e3 hp2)]; exact e3
  · rintro δ M' ⟨x, c', cur, gone, rfl, sub, hc', hg', ncg, hgl, hcl, hrn, hng⟩
    rw [List.length_map, List.length_range, List.drop_length] at hrn
    have hcur : cur = r := by cases cur <;> exact Option.some.inj hrn
    subst hcur
    dsimp only [wipeD, TSeq, TNext, TBreak, TCont, TDrop, TRet, TRetN, TIfS, TNever, TAsg, GName, GNil, GCons, TPar, TTest, TAnd, TOr, TNot, TAndV, TOrV, TNotV, TIf, TVar, TC, TNil, TCons, TTup, TLst, TOp, TUn, TCB, TCall, TCallN, TBM, TAug, TGet1, TGet2, TPut, TYes, GSubL, TSl, TNoPart, TPart, TRev, TIt, TRng1, TRng2, TItems, TVals, TKeys, List.getElem?_cons_zero, List.getElem?_cons_succ, List.set_cons_zero, List.set_cons_succ, List.append_nil, List.nil_append, List.cons_append]
    refine ⟨le6 rfl, fun p hp => rlx_of (q _ p c' g (sub.new hp) updM_same ?_)⟩
    rw [updM_ne (neM hc' hp)]; exact hc'
theorem vc__law_expand : ∀ ds M Q E, S__law_expand ds M Q E → T__law_expand { nx := fun _ M' => rlx Q .non M', rt := rlx Q } (startD (["program", "steps", "step"] : List Str).length ds) M := by
  rintro ds M Q E ⟨r, ins, rfl, hl, hil, hpos, q⟩
  change T__law_expand _ [some (planD r ins), none, none] M
  dsimp only [T__law_expand, wipeD, TSeq, TNext, TBreak, TCont, TDrop, TRet, TRetN, TIfS, TNever, TAsg, GName, GNil, GCons, TPar, TTest, TAnd, TOr, TNot, TAndV, TOrV, TNotV, TIf, TVar, TC, TNil, TCons, TTup, TLst, TOp, TUn, TCB, TCall, TCallN, TBM, TAug, TGet1, TGet2, TPut, TYes, GSubL, TSl, TNoPart, TPart, TRev, TIt, TRng1, TRng2, TItems, TVals, TKeys, List.getElem?_cons_zero, List.getElem?_cons_succ, List.set_cons_zero, List.set_cons_succ, List.append_nil, List.nil_append, List.cons_append]
  refine ⟨le6 rfl, fun p hp => tfor ?_⟩
  dsimp only [wipeD, TSeq, TNext, TBreak, TCont, TDrop, TRet, TRetN, TIfS, TNever, TAsg, GName, GNil, GCons, TPar, TTest, TAnd, TOr, TNot, TAndV, TOrV, TNotV, TIf, TVar, TC, TNil, TCons, TTup, TLst, TOp, TUn, TCB, TCall, TCallN, TBM, TAug, TGet1, TGet2, TPut, TYes, GSubL, TSl, TNoPart, TPart, TRev, TIt, TRng1, TRng2, TItems, TVals, TKeys, List.getElem?_cons_zero, List.getElem?_cons_succ, List.set_cons_zero, List.set_cons_succ, List.append_nil, List.nil_append, List.cons_append, planD]
  -- the program's entries, each with what it is expanded to
  let ents : List (D × List (Option Int)) := (if 0 < r then [(D.tup [.str "remove", .int r], List.replicate r.toNat none)] else []) ++ ins.map fun q => (insD q, List.replicate q.2.toNat (some q.1))
  have e1 : ((if 0 < r then [D.tup [.str "remove", .int r]] else []) ++ ins.map insD) = ents.map (·.1) := by
    show _ = ((if 0 < r then [(D.tup [.str "remove", .int r], List.replicate r.toNat (none : Option Int))] else []) ++ ins.map fun q => (insD q, List.replicate q.2.toNat (some q.1))).map (·.1)
    rw [List.map_append, List.map_map]
    split <;> rfl
  have e2 : expandP r ins = (ents.map (·.2)).flatten := by
    show _ = (((if 0 < r then [(D.tup [.str "remove", .int r], List.replicate r.toNat (none : Option Int))] else []) ++ ins.map fun q => (insD q, List.replicate q.2.toNat (some q.1))).map (·.2)).flatten
    rw [List.map_append, List.map_map, List.flatten_append]
    unfold expandP
    congr 1
    by_cases c : 0 < r
    · rw [if_pos c]; simp
    · rw [if_neg c, show r.toNat = 0 by omega]; rfl
  rw [e1]
  have hent : ∀ x ∈ ents, ∃ (o : Option Int) (k : Int), x.2 = List.replicate k.toNat o ∧ 0 ≤ k ∧ x.1 = (match o with | some n => D.tup [.str "insert", .int n, .int k] | none => D.tup [.str "remove", .int k]) := by
    intro x hx
    rcases List.mem_append.mp hx with h | h
    · by_cases c : 0 < r
      · rw [if_pos c] at h
        have := List.mem_singleton.mp h
        subst this
        exact ⟨none, r, rfl, by omega, rfl⟩
      · rw [if_neg c] at h; cases h
    · obtain ⟨w, hw, rfl⟩ := List.mem_map.mp h
      exact ⟨some w.1, w.2, rfl, hpos w hw, rfl⟩
  have htot : ((ents.map (·.2)).flatten).length ≤ 100000 := by rw [← e2]; exact hl
  refine ⟨fun i δ M' => ∃ (x : Option D) (a : Addr), δ = [some (.tup (ents.map (·.1))), some (.ref a), x] ∧ SubM M M' ∧ M' a = some (.lst ((((ents.take i).map (·.2)).flatten).map stepD)), ?_, fun _ _ _ _ => trivial, ?_, ?_⟩
  · exact ⟨none, p, rfl, SubM.refl.new hp, updM_same⟩
  · rintro i d δ M' hi ⟨x, a, rfl, sub, ha⟩
    rw [List.getElem?_map] at hi
    cases he : ents[i]? with
    | none => rw [he] at hi; cases hi
    | some en =>
      rw [he] at hi
      cases hi
      have hm := List.mem_of_getElem? he
      obtain ⟨o, k, h1, h2, h3⟩ := hent en hm
      have hlen : (((ents.take i).map (·.2)).flatten).length + k.toNat ≤ 100000 := by
        refine Nat.le_trans ?_ htot
        have e3 : ents = ents.take i ++ en :: ents.drop (i + 1) := by rw [← drop_get he, List.take_append_drop]
        have e4 := congrArg (fun l => ((l.map (·.2)).flatten).length) e3
        have e5 : ((ents.map (·.2)).flatten).length = (((ents.take i ++ en :: ents.drop (i + 1)).map (·.2)).flatten).length := e4
        rw [e5, List.map_append, List.flatten_append, List.length_append, List.map_cons, List.flatten_cons, List.length_append, h1, List.length_replicate]
        omega
      have done : ∀ (M1 : Mh) (p2 p3 : Addr), SubM M' M1 → M1 p2 = some (.lst (List.replicate k.toNat [stepD o]).flatten) → ∃ xs ys, M1 a = some (.lst xs) ∧ M1 p2 = some (.lst ys) ∧ xs.length + ys.length ≤ 1000000 ∧ ∀ p, M1 p = none → ∃ (x : Option D) (a : Addr), [some (D.tup (ents.map (·.1))), some (D.ref p), some en.1] = [some (D.tup (ents.map (·.1))), some (D.ref a), x] ∧ SubM M (updM M1 p (.lst (xs ++ ys))) ∧ updM M1 p (.lst (xs ++ ys)) a = some (.lst ((((ents.take (i + 1)).map (·.2)).flatten).map stepD)) := by
        intro M1 p2 p3 s1 hp2
        refine ⟨_, _, s1 _ _ ha, hp2, ?_, fun p hp => ⟨_, p, rfl, (sub.trans s1).new hp, ?_⟩⟩
        · rw [List.length_map]
          have : ((List.replicate k.toNat [stepD o]).flatten).length = k.toNat := by simp
          omega
        · rw [updM_same, take_get he, List.map_append, List.flatten_append, List.map_append]
          congr 3
          show _ = (en.2 ++ []).map stepD
          rw [List.append_nil, h1, List.map_replicate]
          simp
      dsimp only [wipeD, TSeq, TNext, TBreak, TCont, TDrop, TRet, TRetN, TIfS, TNever, TAsg, GName, GNil, GCons, TPar, TTest, TAnd, TOr, TNot, TAndV, TOrV, TNotV, TIf, TVar, TC, TNil, TCons, TTup, TLst, TOp, TUn, TCB, TCall, TCallN, TBM, TAug, TGet1, TGet2, TPut, TYes, GSubL, TSl, TNoPart, TPart, TRev, TIt, TRng1, TRng2, TItems, TVals, TKeys, List.getElem?_cons_zero, List.getElem?_cons_succ, List.set_cons_zero, List.set_cons_succ, List.append_nil, List.nil_append, List.cons_append]
      have hlast : ∀ ws : List D, (ws ++ [D.int k]).length ≤ 3 → ws ≠ [] → stepD o = .tup (ws ++ [.int 1]) → en.1 = .tup (ws ++ [.int k]) → (∃ z zs, ws = .str z :: zs ∧ (z == ("repeat" : Str)) = false) →
          RIx en.1 (.int 0) M' fun x M1 => REq x (.str "repeat") M1 fun d M1 => match d with
            | .bl b => if b = true then False else RSl en.1 none (some (-1)) M1 fun x M1 => [D.int 1].length ≤ 1000000 ∧ RAdd x (.tup [.int 1]) M1 fun x M1 => [x].length ≤ 1000000 ∧ ∀ p, M1 p = none → RIx en.1 (.int (-1)) (updM M1 p (.lst [x])) fun y M2 => RMul (.ref p) y M2 fun y M2 => RAdd (.ref a) y M2 fun d M1 => ∃ (x : Option D) (a : Addr), [some (D.tup (ents.map (·.1))), some d, some en.1] = [some (D.tup (ents.map (·.1))), some (D.ref a), x] ∧ SubM M M1 ∧ M1 a = some (.lst ((((ents.take (i + 1)).map (·.2)).flatten).map stepD))
            | _ => False := by
        intro ws hw hne hst hen ⟨z, zs, hz, hzr⟩
        rw [hen]
        refine ⟨.str z, by rw [hz]; exact (HB.atI_nat (i := 0)).trans rfl, eq_str ?_⟩
        rw [hzr]
        show if false = true then _ else _
        rw [if_neg (by decide)]
        show _ ∧ _
        have ec : L3.cutD (ws ++ [D.int k]) none (some (-1)) = ws := cut_init
        rw [ec]
        have wl : ws.length ≤ 3 := by simp at hw; omega
        refine ⟨le6 rfl, by show ws.length + 1 ≤ 1000000; omega, le6 rfl, fun p hp => ⟨.int k, atI_last, ?_⟩⟩
        rw [← hst]
        refine ⟨_, updM_same, by omega, by omega, by simp; omega, fun p2 hp2 => ?_⟩
        have s1 : SubM M' (updM (updM M' p (.lst [stepD o])) p2 (.lst (List.replicate k.toNat [stepD o]).flatten)) := (SubM.refl.new hp).new hp2
        have dn := done _ p2 p s1 updM_same
        rw [hen] at dn
        exact dn
      cases o with
      | some n => exact hlast [.str "insert", .int n] (by simp) (by simp) rfl h3 ⟨_, _, rfl, by decide⟩
      | none => exact hlast [.str "remove"] (by simp) (by simp) rfl h3 ⟨_, _, rfl, by decide⟩
  · rintro δ M' ⟨x, a, rfl, sub, ha⟩
    rw [List.length_map, List.take_length, ← e2] at ha
    exact rlx_of (q _ _ sub ha)
end K66
set_option Elab.async false
set_option autoImplicit false
set_option linter.all false
set_option maxRecDepth 100000
set_option maxHeartbeats 4000000
set_option exponentiation.threshold 100000
/-! k66: the search. -/
namespace K66
open PySem PySem.Spec L2 L3 HB
open PyProof.Rows hiding pairD cnt
/-! ### the search, state by state -/
abbrev StN := Fnd × List (List Nat)
def vis1 (d : Nat) (s : StN) (a : List Nat) : StN := match valN s.1 a with
  | some _ => s
  | none => (s.1 ++ [(a, d)], s.2 ++ [a])
def vis (d : Nat) (l : List (List Nat)) (s : StN) : StN := l.foldl (vis1 d) s
theorem visitN_eq {α : Type} (d : Nat) : ∀ (l : List (List Nat)) (F : Fnd) (P : List (List Nat)) (k : Fnd → List (List Nat) → α), visitN d l F P k = k (vis d l (F, P)).1 (vis d l (F, P)).2
  | [], _, _, _ => rfl
  | a :: r, F, P, k => by
    unfold visitN
    show _ = k (vis d r (vis1 d (F, P) a)).1 (vis d r (vis1 d (F, P) a)).2
    unfold vis1
    cases h : valN F a with
    | none => exact visitN_eq d r _ _ k
    | some v => exact visitN_eq d r _ _ k
def stepN (i : Nat) (s : StN) : StN := match s.2[i]? with
  | none => s
  | some h => vis ((valN s.1 h).getD 0 + 1) (nearN h) s
def stN (s : List Nat) : Nat → StN
  | 0 => ([(s, 0)], [s])
  | i + 1 => stepN i (stN s i)
theorem st_stay {s : List Nat} {i : Nat} (h : (stN s i).2.length ≤ i) : ∀ n, stN s (i + n) = stN s i
  | 0 => rfl
  | n + 1 => by
    show stepN (i + n) (stN s (i + n)) = _
    rw [st_stay h n]
    unfold stepN
    rw [List.getElem?_eq_none (by omega)]
theorem bfs_st {s : List Nat} : ∀ (n i : Nat), bfsN n i (stN s i).1 (stN s i).2 = stN s (i + n)
  | 0, i => rfl
  | n + 1, i => by
    unfold bfsN
    cases h : (stN s i).2[i]? with
    | none =>
      have : (stN s i).2.length ≤ i := List.getElem?_eq_none_iff.mp h
      rw [st_stay this]
    | some hp =>
      dsimp only
      rw [visitN_eq]
      have e : stN s (i + 1) = vis ((valN (stN s i).1 hp).getD 0 + 1) (nearN hp) (stN s i) := by
        show stepN i (stN s i) = _
        unfold stepN
        rw [h]
      have := bfs_st (s := s) n (i + 1)
      rw [e] at this
      rw [show i + (n + 1) = i + 1 + n by omega]
      exact this
theorem vis1_len (d : Nat) (s : StN) (a : List Nat) : s.2.length ≤ (vis1 d s a).2.length := by unfold vis1; split <;> simp
theorem vis_len (d : Nat) : ∀ (l : List (List Nat)) (s : StN), s.2.length ≤ (vis d l s).2.length
  | [], _ => Nat.le_refl _
  | a :: r, s => Nat.le_trans (vis1_len d s a) (vis_len d r _)
theorem st_len {s : List Nat} (i : Nat) : ∀ n, (stN s i).2.length ≤ (stN s (i + n)).2.length
  | 0 => Nat.le_refl _
  | n + 1 => by
    refine Nat.le_trans (st_len i n) ?_
    show _ ≤ (stepN (i + n) (stN s (i + n))).2.length
    unfold stepN
    split
    · exact Nat.le_refl _
    · exact vis_len _ _ _
/-- what all found is like -/
structure Fine (s : StN) : Prop where
  ks : s.2 = s.1.map (·.1)
  ok : ∀ h ∈ s.2, Srt h ∧ h.length ≤ 6
theorem valN_append {F G : Fnd} {h : List Nat} : valN (F ++ G) h = (valN F h).or (valN G h) := by
  induction F with
  | nil => rfl
  | cons p r ih =>
    show (bif leqN p.1 h then some p.2 else valN (r ++ G) h) = (bif leqN p.1 h then some p.2 else valN r h).or _
    cases leqN p.1 h
    · exact ih
    · rfl
theorem valN_mem {F : Fnd} {h : List Nat} (hm : h ∈ F.map (·.1)) : ∃ v, valN F h = some v := by
  induction F with
  | nil => cases hm
  | cons p r ih =>
    show ∃ v, (bif leqN p.1 h then some p.2 else valN r h) = some v
    cases e : leqN p.1 h
    · rcases List.mem_cons.mp hm with z | z
      · rw [leqN_iff.mpr z.symm] at e; cases e
      · exact ih z
    · exact ⟨_, rfl⟩
theorem near_ok {h : List Nat} (hs : Srt h) (hl : h.length ≤ 6) : ∀ a ∈ nearN h, Srt a ∧ a.length ≤ 6 := by
  intro a ha
  rcases List.mem_append.mp ha with ha | ha
  · cases c : Nat.blt h.length 6
    · rw [c] at ha; cases ha
    · rw [c] at ha
      have c' : h.length < 6 := Nat.blt_eq.mp c
      have ha' : a = insN 0 h ∨ a = insN 1 h ∨ a = insN 2 h := by simpa using ha
      rcases ha' with rfl | rfl | rfl
      · exact ⟨hs.ins (by omega), by rw [insN_len]; omega⟩
      · exact ⟨hs.ins (by omega), by rw [insN_len]; omega⟩
      · exact ⟨hs.ins (by omega), by rw [insN_len]; omega⟩
  · cases h with
    | nil => cases ha
    | cons x t =>
      have : a = t := by simpa using ha
      subst this
      exact ⟨⟨(List.pairwise_cons.mp hs.1).2, fun y hy => hs.2 y (List.mem_cons_of_mem _ hy)⟩, by simp at hl; omega⟩
theorem fine_vis1 {s : StN} (f : Fine s) {d : Nat} {a : List Nat} (ha : Srt a ∧ a.length ≤ 6) : Fine (vis1 d s a) := by
  unfold vis1
  split
  · exact f
  · refine ⟨by rw [List.map_append, ← f.ks]; rfl, fun h hh => ?_⟩
    rcases List.mem_append.mp hh with hh | hh
    · exact f.ok h hh
    · rw [List.mem_singleton.mp hh]; exact ha
theorem fine_vis {d : Nat} : ∀ {l : List (List Nat)} {s : StN}, Fine s → (∀ a ∈ l, Srt a ∧ a.length ≤ 6) → Fine (vis d l s)
  | [], _, f, _ => f
  | a :: r, s, f, h => by
    show Fine (vis d r (vis1 d s a))
    exact fine_vis (fine_vis1 f (h a List.mem_cons_self)) fun b hb => h b (List.mem_cons_of_mem _ hb)
theorem st_fine {s : List Nat} (hs : Srt s) (hl : s.length ≤ 6) : ∀ i, Fine (stN s i)
  | 0 => ⟨rfl, fun h hh => by rw [List.mem_singleton.mp hh]; exact ⟨hs, hl⟩⟩
  | i + 1 => by
    have f := st_fine hs hl i
    show Fine (stepN i (stN s i))
    unfold stepN
    split
    · exact f
    · rename_i h e
      have := f.ok h (List.mem_of_getElem? e)
      exact fine_vis f (near_ok this.1 this.2)
/-! ### as data -/
def heapD (b : Int) (h : List Nat) : D := .utup ((at_ b h).map .int)
theorem keyDs_at (b : Int) (h : List Nat) : keyDs ((at_ b h).map .int) = some (keyOf b h) := by
  induction h with
  | nil => rfl
  | cons x r ih =>
    show (match keyD (.int (b + (x : Int))), keyDs ((at_ b r).map .int) with | some k, some ks => some (k :: ks) | _, _ => none) = _
    rw [ih]; rfl
theorem keyOf_inj {b : Int} {h g : List Nat} (e : keyOf b h = keyOf b g) : h = g := by
  refine at_inj (b := b) ?_
  have h1 : ∀ l : List Nat, keyOf b l = (at_ b l).map Sum.inl := fun l => by unfold keyOf at_; rw [List.map_map]; rfl
  rw [h1, h1] at e
  exact (List.map_inj_right (fun _ _ z => Sum.inl.inj z)).mp e
theorem fnd_val (b : Int) (F : Fnd) (h : List Nat) : valD (fndD b F) (keyOf b h) = (valN F h).map fun v : Nat => D.int (v : Int) := by
  induction F with
  | nil => rfl
  | cons p r ih =>
    show (if keyOf b p.1 = keyOf b h then some (D.int (p.2 : Int)) else valD (fndD b r) (keyOf b h)) = (bif leqN p.1 h then some p.2 else valN r h).map _
    cases e : leqN p.1 h
    · rw [if_neg fun z => by rw [leqN_iff.mpr (keyOf_inj z)] at e; cases e]; exact ih
    · rw [if_pos (by rw [leqN_iff.mp e])]; rfl
theorem fnd_put {b : Int} {F : Fnd} {h : List Nat} {v : Nat} (hn : valN F h = none) : putD (fndD b F) (keyOf b h) (.int (v : Int)) = fndD b (F ++ [(h, v)]) := by
  have e : valD (fndD b F) (keyOf b h) = none := by rw [fnd_val, hn]; rfl
  unfold putD
  rw [if_neg fun z => by
    obtain ⟨p, hp, q⟩ := List.any_eq_true.mp z
    exact valD_none.mp e p hp (of_decide_eq_true q)]
  unfold fndD
  rw [List.map_append]; rfl
theorem ne_tup0 {M : Mh} {ns : List Int} {Q : QE} (q : Q (.bl (!decide (ns = []))) M) : RNe (.utup (ns.map .int)) (.tup []) M Q := by
  refine ⟨.tuple (D.pys (ns.map .int)), .tuple [], by simp only [pyM, D.pu, pus_ints, if_true, D.py], rfl, by simp only [PyData.depth, depth_ints]; decide, ?_⟩
  have := eqvAll_ints ns []
  rw [show PyData.eqv (.tuple (D.pys (ns.map .int))) (.tuple []) = decide (ns = []) by simp only [PyData.eqv]; exact this]
  exact q
theorem getM_f {M : Mh} {f : Addr} {b : Int} {F : Fnd} {h : List Nat} (hf : M f = some (.dT (fndD b F))) : getM M f (heapD b h) = some ((valN F h).map fun v : Nat => D.int (v : Int)) := by
  simp only [getM, hf, heapD, keyT, keyDs_at, Option.map_some, fnd_val]
theorem val_stay {d : Nat} : ∀ {l : List (List Nat)} {s : StN} {h : List Nat} {v : Nat}, valN s.1 h = some v → valN (vis d l s).1 h = some v
  | [], _, _, _, e => e
  | a :: r, s, h, v, e => by
    refine val_stay (l := r) ?_
    unfold vis1
    split
    · exact e
    · rw [valN_append, e]; rfl
theorem vc__law_distances : ∀ ds M Q E, S__law_distances ds M Q E → T__law_distances { nx := fun _ M' => rlx Q .non M', rt := rlx Q } (startD (["start", "numbers", "most", "found", "pending", "position", "heap", "near", "number", "after"] : List Str).length ds) M := by
  rintro ds M Q E ⟨a, n, b, s, rfl, ha, hn, hs, hl, q⟩
  change T__law_distances _ [some (.ref a), some (.ref n), some (.int 6), none, none, none, none, none, none, none] M
  dsimp only [T__law_distances, wipeD, TSeq, TNext, TBreak, TCont, TDrop, TRet, TRetN, TIfS, TNever, TAsg, GName, GNil, GCons, TPar, TTest, TAnd, TOr, TNot, TAndV, TOrV, TNotV, TIf, TVar, TC, TNil, TCons, TTup, TLst, TOp, TUn, TCB, TCall, TCallN, TBM, TAug, TGet1, TGet2, TPut, TYes, GSubL, TSl, TNoPart, TPart, TRev, TIt, TRng1, TRng2, TItems, TVals, TKeys, List.getElem?_cons_zero, List.getElem?_cons_succ, List.set_cons_zero, List.set_cons_succ, List.append_nil, List.nil_append, List.cons_append, TDispT]
  intro f hf
  have ha1 : updM M f (.dT []) a = some (.lst ((at_ b s).map .int)) := by rw [updM_ne (neM ha hf)]; exact ha
  refine ⟨_, ha1, updM_same, keyOf b s, keyDs_at b s, ?_⟩
  rw [updM_updM]
  have ha2 : updM M f (.dT [(keyOf b s, .int 0)]) a = some (.lst ((at_ b s).map .int)) := by rw [updM_ne (neM ha hf)]; exact ha
  refine ⟨_, ha2, le6 rfl, fun p hp => ?_⟩
  have nfp : f ≠ p := fun z => by rw [← z, updM_same] at hp; cases hp
  have hnp : M p = none := by rw [← hp, updM_ne nfp.symm]
  have hc := check_all s (mem_heaps hs hl)
  unfold checkN at hc
  simp only [Bool.and_eq_true] at hc
  have h84 : (bfsN 90 0 [(s, 0)] [s]).2.length = 84 := Nat.eq_of_beq_eq_true hc.1
  have eb : bfsN 90 0 [(s, 0)] [s] = stN s 90 := (bfs_st (s := s) 90 0).trans (by rw [Nat.zero_add])
  rw [eb] at h84
  have bound : ∀ i, i ≤ 90 → (stN s i).2.length ≤ 84 := fun i hi => by
    have := st_len (s := s) i (90 - i)
    rw [show i + (90 - i) = 90 by omega] at this
    omega
  refine ⟨fun m δ M' => ∃ (i : Nat) (x y z w : Option D), i ≤ 84 ∧ m = 84 - i ∧ δ = [some (.ref a), some (.ref n), some (.int 6), some (.ref f), some (.ref p), some (.int i), x, y, z, w] ∧ SubM M M' ∧ M' f = some (.dT (fndD b (stN s i).1)) ∧ M' p = some (.lst ((stN s i).2.map (heapD b))), ?_, ?_⟩
  · exact ⟨84, 0, none, none, none, none, by omega, rfl, rfl, (SubM.refl.new hf).new hp, by rw [updM_ne nfp]; exact updM_same, updM_same⟩
  rintro m δ M' ⟨i, x, y, z, w, hi, rfl, rfl, sub, hf', hp'⟩
  dsimp only [wipeD, TSeq, TNext, TBreak, TCont, TDrop, TRet, TRetN, TIfS, TNever, TAsg, GName, GNil, GCons, TPar, TTest, TAnd, TOr, TNot, TAndV, TOrV, TNotV, TIf, TVar, TC, TNil, TCons, TTup, TLst, TOp, TUn, TCB, TCall, TCallN, TBM, TAug, TGet1, TGet2, TPut, TYes, GSubL, TSl, TNoPart, TPart, TRev, TIt, TRng1, TRng2, TItems, TVals, TKeys, List.getElem?_cons_zero, List.getElem?_cons_succ, List.set_cons_zero, List.set_cons_succ, List.append_nil, List.nil_append, List.cons_append, RLen]
  refine ⟨_, hp', ?_⟩
  rw [List.length_map]
  show if decide ((i : Int) < ((stN s i).2.length : Nat)) = true then _ else _
  by_cases c : i < (stN s i).2.length
  case neg =>
    rw [if_neg (by simpa using c)]
    have e : stN s 90 = stN s i := by
      have := st_stay (s := s) (i := i) (by omega) (90 - i)
      rw [show i + (90 - i) = 90 by omega] at this
      exact this
    refine rlx_of (q _ _ sub ?_)
    rw [eb, e]; exact hf'
  rw [if_pos (by simpa using c)]
  refine ⟨fun δ2 M2 => ∃ (x y z w : Option D), δ2 = [some (.ref a), some (.ref n), some (.int 6), some (.ref f), some (.ref p), some (.int ((i + 1 : Nat) : Int)), x, y, z, w] ∧ SubM M M2 ∧ M2 f = some (.dT (fndD b (stN s (i + 1)).1)) ∧ M2 p = some (.lst ((stN s (i + 1)).2.map (heapD b))), ?_, ?_⟩
  · rintro δ2 M2 ⟨x, y, z, w, rfl, h1, h2, h3⟩
    have := bound i (by omega)
    exact ⟨84 - (i + 1), by omega, i + 1, x, y, z, w, by omega, rfl, rfl, h1, h2, h3⟩
  have hget : (stN s i).2[i]? = some (stN s i).2[i] := List.getElem?_eq_getElem c
  generalize (stN s i).2[i] = h at hget
  have fine := st_fine hs (by omega : s.length ≤ 6) i
  have hm := List.mem_of_getElem? hget
  obtain ⟨srt, hlen⟩ := fine.ok h hm
  have est : stN s (i + 1) = vis ((valN (stN s i).1 h).getD 0 + 1) (nearN h) (stN s i) := by
    show stepN i (stN s i) = _
    unfold stepN
    rw [hget]
  obtain ⟨v, hv⟩ := valN_mem (F := (stN s i).1) (h := h) (by rw [← fine.ks]; exact hm)
  rw [hv] at est
  rw [est]
  refine ⟨_, heapD b h, hp', by rw [HB.atI_nat, List.getElem?_map, hget]; rfl, ?_⟩
  dsimp only [RAdd]
  refine tlc ?_
  dsimp only [wipeD, TSeq, TNext, TBreak, TCont, TDrop, TRet, TRetN, TIfS, TNever, TAsg, GName, GNil, GCons, TPar, TTest, TAnd, TOr, TNot, TAndV, TOrV, TNotV, TIf, TVar, TC, TNil, TCons, TTup, TLst, TOp, TUn, TCB, TCall, TCallN, TBM, TAug, TGet1, TGet2, TPut, TYes, GSubL, TSl, TNoPart, TPart, TRev, TIt, TRng1, TRng2, TItems, TVals, TKeys, List.getElem?_cons_zero, List.getElem?_cons_succ, List.set_cons_zero, List.set_cons_succ, List.append_nil, List.nil_append, List.cons_append]
  have hn' := sub _ _ hn
  refine ⟨_, hn', ?_⟩
  -- the neighbours by insertion
  refine lc_pure (fun d => match d with | .int k => if decide ((h.length : Int) < 6) = true then some (.utup ((sortI (at_ b h ++ [k])).map .int)) else none | _ => none) (le6 rfl) (fun M1 s1 => s1 _ _ hn') ?_ ?_
  · intro j d M1 hj s1 N hN
    obtain ⟨k, rfl⟩ : ∃ k : Int, d = .int k := by
      match j, hj with
      | 0, hj => exact ⟨_, (Option.some.inj hj).symm⟩
      | 1, hj => exact ⟨_, (Option.some.inj hj).symm⟩
      | 2, hj => exact ⟨_, (Option.some.inj hj).symm⟩
      | j + 3, hj => simp at hj
    dsimp only [wipeD, TSeq, TNext, TBreak, TCont, TDrop, TRet, TRetN, TIfS, TNever, TAsg, GName, GNil, GCons, TPar, TTest, TAnd, TOr, TNot, TAndV, TOrV, TNotV, TIf, TVar, TC, TNil, TCons, TTup, TLst, TOp, TUn, TCB, TCall, TCallN, TBM, TAug, TGet1, TGet2, TPut, TYes, GSubL, TSl, TNoPart, TPart, TRev, TIt, TRng1, TRng2, TItems, TVals, TKeys, List.getElem?_cons_zero, List.getElem?_cons_succ, List.set_cons_zero, List.set_cons_succ, List.append_nil, List.nil_append, List.cons_append, heapD, RLen]
    have hL : (((at_ b h).map D.int).length : Int) = (h.length : Int) := by unfold at_; simp
    rw [hL]
    show if decide ((h.length : Int) < 6) = true then _ else _
    dsimp only at hN
    split
    · rename_i cc
      simp only [cc, if_true] at hN
      intro p1 hp1
      refine ⟨le6 rfl, fun p2 hp2 => ?_⟩
      have n12 : p1 ≠ p2 := fun z => by rw [← z, updM_same] at hp2; cases hp2
      refine ⟨_, _, by rw [updM_ne n12]; exact updM_same, updM_same, by rw [List.length_map]; unfold at_; rw [List.length_map]; show h.length + 1 ≤ 1000000; omega, fun p3 hp3 => ?_⟩
      refine .inl ⟨at_ b h ++ [k], by rw [updM_same, List.map_append]; rfl, fun p4 hp4 => ⟨_, updM_same, hN _ ((((SubM.refl.new hp1).new hp2).new hp3).new hp4)⟩⟩
    · rename_i cc
      have cc' : decide ((h.length : Int) < 6) = false := Bool.eq_false_iff.mpr cc
      rw [cc'] at hN
      exact hN M1 .refl
  intro M1 s1 pn hpn
  have eins : ([D.int b, .int (b + 1), .int (b + 2)].filterMap fun d => match d with | .int k => if decide ((h.length : Int) < 6) = true then some (D.utup ((sortI (at_ b h ++ [k])).map .int)) else none | _ => none) = (bif Nat.blt h.length 6 then [insN 0 h, insN 1 h, insN 2 h] else []).map (heapD b) := by
    by_cases cc : h.length < 6
    · have c1 : decide ((h.length : Int) < 6) = true := by simpa using by omega
      have c2 : Nat.blt h.length 6 = true := Nat.blt_eq.mpr cc
      have h0 := sort_snoc (b := b) srt.1 0
      have h1 := sort_snoc (b := b) srt.1 1
      have h2 := sort_snoc (b := b) srt.1 2
      simp only [Int.natCast_zero, Int.add_zero, Int.cast_ofNat_Int] at h0 h1 h2
      rw [c2]
      simp only [c1, List.filterMap_cons, List.filterMap_nil, if_true, cond_true, List.map_cons, List.map_nil, heapD]
      rw [h0]
      rw [show sortI (at_ b h ++ [b + 1]) = at_ b (insN 1 h) from h1, show sortI (at_ b h ++ [b + 2]) = at_ b (insN 2 h) from h2]
    · have c1 : decide ((h.length : Int) < 6) = false := by simpa using by omega
      have c2 : Nat.blt h.length 6 = false := Bool.eq_false_iff.mpr fun z => cc (Nat.blt_eq.mp z)
      rw [c2]
      simp [c1]
  rw [eins]
  have hpnM : M pn = none := (sub.trans s1).none hpn
  have hf1 := s1 _ _ hf'
  have hp1 := s1 _ _ hp'
  have nf : f ≠ pn := neM hf1 hpn
  have np' : p ≠ pn := neM hp1 hpn
  -- the neighbours, one by one
  have key : ∀ (E : Endd) (z w : Option D) (M3 : Mh), (∀ δ2 M2, (∃ (x y z w : Option D), δ2 = [some (.ref a), some (.ref n), some (.int 6), some (.ref f), some (.ref p), some (.int ((i + 1 : Nat) : Int)), x, y, z, w] ∧ SubM M M2 ∧ M2 f = some (.dT (fndD b (vis (v + 1) (nearN h) (stN s i)).1)) ∧ M2 p = some (.lst ((vis (v + 1) (nearN h) (stN s i)).2.map (heapD b)))) → E.nx δ2 M2) →
      SubM M M3 → M3 f = some (.dT (fndD b (stN s i).1)) → M3 p = some (.lst ((stN s i).2.map (heapD b))) → M3 pn = some (.lst ((nearN h).map (heapD b))) →
      TFor (TIt (TVar 7)) (GName 9) (TIfS (TTest (TOp RDNotIn (TVar 9) (TVar 3))) (TSeq (TPut (TVar 3) (TVar 9) (TOp RAdd (TOp RGet (TVar 3) (TVar 6)) (TC (.int 1)))) (TDrop (TBM TyL RAppend (TVar 4) (TCons (TVar 9) TNil)))) TNext) E
        [some (.ref a), some (.ref n), some (.int 6), some (.ref f), some (.ref p), some (.int ((i + 1 : Nat) : Int)), some (heapD b h), some (.ref pn), z, w] M3 := by
    intro E z w M3 hE sub3 hf3 hp3 hn3
    refine tfor ?_
    dsimp only [wipeD, TSeq, TNext, TBreak, TCont, TDrop, TRet, TRetN, TIfS, TNever, TAsg, GName, GNil, GCons, TPar, TTest, TAnd, TOr, TNot, TAndV, TOrV, TNotV, TIf, TVar, TC, TNil, TCons, TTup, TLst, TOp, TUn, TCB, TCall, TCallN, TBM, TAug, TGet1, TGet2, TPut, TYes, GSubL, TSl, TNoPart, TPart, TRev, TIt, TRng1, TRng2, TItems, TVals, TKeys, List.getElem?_cons_zero, List.getElem?_cons_succ, List.set_cons_zero, List.set_cons_succ, List.append_nil, List.nil_append, List.cons_append]
    refine ⟨_, hn3, ?_⟩
    refine ⟨fun j δ M4 => ∃ z w : Option D, δ = [some (.ref a), some (.ref n), some (.int 6), some (.ref f), some (.ref p), some (.int ((i + 1 : Nat) : Int)), some (heapD b h), some (.ref pn), z, w] ∧ SubM M M4 ∧ M4 f = some (.dT (fndD b (vis (v + 1) ((nearN h).take j) (stN s i)).1)) ∧ M4 p = some (.lst ((vis (v + 1) ((nearN h).take j) (stN s i)).2.map (heapD b))) ∧ M4 pn = some (.lst ((nearN h).map (heapD b))), ?_, ?_, ?_, ?_⟩
    · exact ⟨z, w, rfl, sub3, hf3, hp3, hn3⟩
    · rintro j δ M4 ⟨_, _, _, _, _, _, e⟩; exact e
    · rintro j d δ M4 hj ⟨z, w, rfl, sub4, hf4, hp4, hn4⟩
      obtain ⟨g, hg, rfl⟩ : ∃ g, (nearN h)[j]? = some g ∧ d = heapD b g := by
        rw [List.getElem?_map] at hj
        cases e : (nearN h)[j]? with
        | none => rw [e] at hj; cases hj
        | some g => rw [e] at hj; exact ⟨g, rfl, (Option.some.inj hj).symm⟩
      dsimp only [wipeD, TSeq, TNext, TBreak, TCont, TDrop, TRet, TRetN, TIfS, TNever, TAsg, GName, GNil, GCons, TPar, TTest, TAnd, TOr, TNot, TAndV, TOrV, TNotV, TIf, TVar, TC, TNil, TCons, TTup, TLst, TOp, TUn, TCB, TCall, TCallN, TBM, TAug, TGet1, TGet2, TPut, TYes, GSubL, TSl, TNoPart, TPart, TRev, TIt, TRng1, TRng2, TItems, TVals, TKeys, List.getElem?_cons_zero, List.getElem?_cons_succ, List.set_cons_zero, List.set_cons_succ, List.append_nil, List.nil_append, List.cons_append]
      have esn : vis (v + 1) ((nearN h).take (j + 1)) (stN s i) = vis1 (v + 1) (vis (v + 1) ((nearN h).take j) (stN s i)) g := by
        unfold vis
        rw [take_get hg, List.foldl_append]; rfl
      have hlen84 : (vis (v + 1) ((nearN h).take j) (stN s i)).2.length ≤ 84 := by
        have h1 : (vis (v + 1) (nearN h) (stN s i)).2.length ≤ 84 := by
          have := bound (i + 1) (by omega)
          rw [est] at this
          exact this
        have h2 := vis_len (v + 1) ((nearN h).drop j) (vis (v + 1) ((nearN h).take j) (stN s i))
        have h3 : vis (v + 1) ((nearN h).drop j) (vis (v + 1) ((nearN h).take j) (stN s i)) = vis (v + 1) (nearN h) (stN s i) := by
          unfold vis
          rw [← List.foldl_append, List.take_append_drop]
        rw [h3] at h2
        omega
      have hv4 := val_stay (d := v + 1) (l := (nearN h).take j) hv
      have hSf : Fine (vis (v + 1) ((nearN h).take j) (stN s i)) := fine_vis fine fun c hc => near_ok srt hlen c (List.mem_of_mem_take hc)
      rw [esn]
      generalize vis (v + 1) ((nearN h).take j) (stN s i) = S at *
      refine ⟨_, getM_f hf4, ?_⟩
      unfold vis1
      cases hvg : valN S.1 g with
      | some u =>
        show if false = true then _ else _
        rw [if_neg (by decide)]
        exact ⟨_, _, rfl, sub4, hf4, hp4, hn4⟩
      | none =>
        show if true = true then _ else _
        rw [if_pos rfl]
        refine ⟨.int (v : Int), by rw [getM_f hf4, hv4]; rfl, ?_⟩
        show sizM M4 f < 1000000 ∧ _
        have hkS : (fndD b S.1).length = S.1.length := by unfold fndD; rw [List.length_map]
        have nfp4 : f ≠ p := nfp
        have hsz : S.1.length ≤ 100 := by
          have := congrArg List.length hSf.ks
          rw [List.length_map] at this
          omega
        refine ⟨by unfold sizM; rw [hf4]; show (fndD b S.1).length < _; omega, updM M4 f (.dT (fndD b (S.1 ++ [(g, v + 1)]))), ?_, ?_⟩
        · simp only [putM, hf4, heapD, keyT, keyDs_at, Option.map_some]
          rw [show ((v : Int) + 1) = ((v + 1 : Nat) : Int) from rfl, fnd_put hvg]
        · have hp5 : updM M4 f (.dT (fndD b (S.1 ++ [(g, v + 1)]))) p = some (.lst (S.2.map (heapD b))) := by rw [updM_ne nfp.symm]; exact hp4
          refine ⟨⟨_, hp5⟩, _, hp5, by rw [List.length_map]; omega, _, _, rfl, fun c o ec => ?_, ?_, ?_, ?_⟩
          · rw [updM_ne (neM ec hnp), updM_ne (neM ec hf)]; exact sub4 _ _ ec
          · rw [updM_ne nfp]; exact updM_same
          · rw [updM_same, List.map_append]; rfl
          · rw [updM_ne np'.symm, updM_ne nf.symm]; exact hn4
    · rintro δ M4 ⟨z, w, rfl, sub4, hf4, hp4, hn4⟩
      rw [List.length_map, List.take_length] at hf4 hp4
      exact hE _ _ ⟨_, _, _, _, rfl, sub4, hf4, hp4⟩
  have hf2 : updM M1 pn (.lst ((bif Nat.blt h.length 6 then [insN 0 h, insN 1 h, insN 2 h] else []).map (heapD b))) f = some (.dT (fndD b (stN s i).1)) := by rw [updM_ne nf]; exact hf1
  have hp2 : updM M1 pn (.lst ((bif Nat.blt h.length 6 then [insN 0 h, insN 1 h, insN 2 h] else []).map (heapD b))) p = some (.lst ((stN s i).2.map (heapD b))) := by rw [updM_ne np']; exact hp1
  have hs2 : SubM M (updM M1 pn (.lst ((bif Nat.blt h.length 6 then [insN 0 h, insN 1 h, insN 2 h] else []).map (heapD b)))) := (sub.trans s1).new hpn
  refine ⟨le6 rfl, ne_tup0 ?_⟩
  cases h with
  | nil =>
    show if false = true then _ else _
    rw [if_neg (by decide)]
    exact key _ _ _ _ (fun _ _ z => z) hs2 hf2 hp2 updM_same
  | cons x t =>
    show if true = true then _ else _
    rw [if_pos rfl]
    refine ⟨⟨_, updM_same⟩, ?_⟩
    dsimp only [heapD, RSl]
    rw [show L3.cutD ((at_ b (x :: t)).map D.int) (some 1) none = (at_ b t).map D.int from cut_tail]
    refine ⟨_, updM_same, by rw [List.length_map]; show (bif _ then _ else _ : List (List Nat)).length < 1000000; cases Nat.blt (x :: t).length 6 <;> simp, ?_⟩
    rw [updM_updM]
    refine key _ _ _ _ (fun _ _ z => z) (fun c o ec => ?_) (by rw [updM_ne nf]; exact hf1) (by rw [updM_ne np']; exact hp1) ?_
    · rw [updM_ne (neM ec hpnM)]; exact s1 _ _ (sub _ _ ec)
    · rw [updM_same]
      unfold nearN
      rw [List.map_append]; rfl
end K66
set_option Elab.async false
set_option autoImplicit false
set_option linter.all false
set_option maxRecDepth 100000
set_option maxHeartbeats 4000000
set_option exponentiation.threshold 100000
/-! k66: the law. -/
namespace K66
open PySem PySem.Spec L2 L3 HB
open PyProof.Rows hiding pairD cnt
theorem shown_small : ∀ d : Nat, d < 101 → (PyData.shown (.int (d : Int))).length ≤ 1000000 := by decide +kernel
theorem log_small {d : Nat} (h : d ≤ 100) : ((d : Int).natAbs).log2 < 1920 := by
  have : (d : Int).natAbs = d := Int.natAbs_natCast d
  rw [this]
  by_cases z : d = 0
  · subst z; decide
  · exact (Nat.log2_lt z).mpr (Nat.lt_of_le_of_lt h (by decide))
theorem repr_small {M : Mh} {d : Nat} {Q : QE} (h : d ≤ 100) (q : Q (.str (PyData.shown (.int (d : Int)))) M) : RRepr [.int (d : Int)] M Q :=
  ⟨.int (d : Int), rfl, decide_eq_true (log_small h), Nat.zero_le _, shown_small d (by omega), q⟩
/-- all but p stays -/
def KeepP (p : Addr) (M M' : Mh) : Prop := ∀ a o, a ≠ p → M a = some o → M' a = some o
theorem KeepP.refl {p : Addr} {M : Mh} : KeepP p M M := fun _ _ _ h => h
theorem KeepP.trans {p : Addr} {M M1 M2 : Mh} (h : KeepP p M M1) (h1 : KeepP p M1 M2) : KeepP p M M2 := fun a o n e => h1 a o n (h a o n e)
theorem KeepP.upd {p : Addr} {M : Mh} {X : MO} : KeepP p M (updM M p X) := fun a o n e => by rw [updM_ne n]; exact e
theorem KeepP.sub {p : Addr} {M M' : Mh} (h : SubM M M') : KeepP p M M' := fun a o _ e => h a o e
theorem pool_keep {M M' : Mh} {p l : Addr} (h : PoolSt M p l) (s : SubM M M') : PoolSt M' p l := by
  obtain ⟨ns, i, b, sd, e1, e2, r⟩ := h
  exact ⟨ns, i, b, sd, s _ _ e1, s _ _ e2, r⟩
theorem pool_ne {M : Mh} {p l q : Addr} (h : PoolSt M p l) (hq : M q = none) : p ≠ q ∧ l ≠ q := by
  obtain ⟨ns, i, b, sd, e1, e2, r⟩ := h
  exact ⟨neM e1 hq, neM e2 hq⟩
/-- [base + draw(3) for k in range(draw(c))] -/
theorem draws {M : Mh} {p l : Addr} {b c : Int} {x0 x3 x4 x5 x6 x7 x8 : Option D} {Q : QE} (hp : PoolSt M p l) (h1 : 1 ≤ c) (h2 : c ≤ 10)
    (done : ∀ (vs : List Nat) (M' : Mh) (q : Addr), (vs.length : Int) < c → (∀ x ∈ vs, x < 3) → PoolSt M' p l → KeepP p M M' → M' q = none → Q (.ref q) (updM M' q (.lst ((at_ b vs).map .int)))) :
    TLc (TRng1 (TCons (TCall S__law_draw [] (TCons (TVar 1) (TCons (TC (.int c)) TNil))) TNil)) (GName 4) TYes (TOp RAdd (TVar 2) (TCall S__law_draw [] (TCons (TVar 1) (TCons (TC (.int 3)) TNil)))) [4]
      [x0, some (.ref p), some (.int b), x3, x4, x5, x6, x7, x8] M Q := by
  refine tlc ?_
  dsimp only [wipeD, TSeq, TNext, TBreak, TCont, TDrop, TRet, TRetN, TIfS, TNever, TAsg, GName, GNil, GCons, TPar, TTest, TAnd, TOr, TNot, TAndV, TOrV, TNotV, TIf, TVar, TC, TNil, TCons, TTup, TLst, TOp, TUn, TCB, TCall, TCallN, TBM, TAug, TGet1, TGet2, TPut, TYes, GSubL, TSl, TNoPart, TPart, TRev, TIt, TRng1, TRng2, TItems, TVals, TKeys, List.getElem?_cons_zero, List.getElem?_cons_succ, List.set_cons_zero, List.set_cons_succ, List.append_nil, List.nil_append, List.cons_append]
  have hcb : c < 2 ^ 8000 := by
    have : (10 : Int) < 2 ^ 8000 := by decide
    omega
  refine ⟨p, l, c, rfl, hp, h1, hcb, fun v X v0 v1 hp1 => ⟨by omega, by omega, ?_⟩⟩
  have hlen : ((List.range v.toNat).map fun i : Nat => D.int (0 + (i : Int))).length = v.toNat := by simp
  refine ⟨by rw [hlen]; omega, fun i acc M' => ∃ vs : List Nat, acc = (at_ b vs).map .int ∧ vs.length = i ∧ (∀ x ∈ vs, x < 3) ∧ PoolSt M' p l ∧ KeepP p M M', ?_, fun _ _ _ _ => trivial, ?_, ?_⟩
  · exact ⟨[], rfl, rfl, fun _ h => (by cases h), hp1, KeepP.upd⟩
  · rintro i d acc M' hi ⟨vs, rfl, hl, h3, hpp, hk⟩
    dsimp only [wipeD, TSeq, TNext, TBreak, TCont, TDrop, TRet, TRetN, TIfS, TNever, TAsg, GName, GNil, GCons, TPar, TTest, TAnd, TOr, TNot, TAndV, TOrV, TNotV, TIf, TVar, TC, TNil, TCons, TTup, TLst, TOp, TUn, TCB, TCall, TCallN, TBM, TAug, TGet1, TGet2, TPut, TYes, GSubL, TSl, TNoPart, TPart, TRev, TIt, TRng1, TRng2, TItems, TVals, TKeys, List.getElem?_cons_zero, List.getElem?_cons_succ, List.set_cons_zero, List.set_cons_succ, List.append_nil, List.nil_append, List.cons_append]
    rw [if_pos rfl]
    refine ⟨p, l, 3, rfl, hpp, by decide, (by decide : (3 : Int) < 2 ^ 8000), fun u Y u0 u1 hp2 => ?_⟩
    refine ⟨vs ++ [u.toNat], ?_, by simp [hl], fun x hx => ?_, hp2, hk.trans KeepP.upd⟩
    · unfold at_
      rw [List.map_append, List.map_append]
      show _ ++ [D.int (b + u)] = _ ++ [D.int (b + (u.toNat : Int))]
      rw [Int.toNat_of_nonneg u0]
    · rcases List.mem_append.mp hx with h | h
      · exact h3 x h
      · rw [List.mem_singleton.mp h]; omega
  · rintro acc M' ⟨vs, rfl, hl, h3, hpp, hk⟩ q hq
    rw [hlen] at hl
    exact done vs M' q (by omega) h3 hpp hk hq
theorem isN_len (l : List Nat) : (isN l).length = l.length := (isN_perm l).length_eq
theorem vc_law : ∀ ds M Q E, S_law ds M Q E → T_law { nx := fun _ M' => rlx Q .non M', rt := rlx Q } (startD (["script", "pool", "base", "start", "k", "found", "goal", "steps", "program"] : List Str).length ds) M := by
  rintro ds M Q E ⟨ns, rfl, hl, q⟩
  change T_law _ [some (.frl (ns.map .int)), none, none, none, none, none, none, none, none] M
  dsimp only [T_law, wipeD, TSeq, TNext, TBreak, TCont, TDrop, TRet, TRetN, TIfS, TNever, TAsg, GName, GNil, GCons, TPar, TTest, TAnd, TOr, TNot, TAndV, TOrV, TNotV, TIf, TVar, TC, TNil, TCons, TTup, TLst, TOp, TUn, TCB, TCall, TCallN, TBM, TAug, TGet1, TGet2, TPut, TYes, GSubL, TSl, TNoPart, TPart, TRev, TIt, TRng1, TRng2, TItems, TVals, TKeys, List.getElem?_cons_zero, List.getElem?_cons_succ, List.set_cons_zero, List.set_cons_succ, List.append_nil, List.nil_append, List.cons_append]
  refine fun l hl0 => ⟨le6 rfl, fun p hp0 => ?_⟩
  have nlp : l ≠ p := fun z => by rw [← z, updM_same] at hp0; cases hp0
  have hp : PoolSt (updM (updM M l (.lst (ns.map .int))) p (.lst [.ref l, .int 0, .int 0, .int 1])) p l :=
    ⟨ns, 0, 0, 1, updM_same, by rw [updM_ne nlp]; exact updM_same, nlp, by decide, by decide, by decide⟩
  refine ⟨p, l, rfl, hp, fun b X _ hp1 => ?_⟩
  refine draws hp1 (by decide) (by decide) fun vs M1 q1 hv h3 hp2 _ hq1 => ?_
  refine .inl ⟨at_ b vs, updM_same, fun a ha => ?_⟩
  rw [sort_at]
  have hs : Srt (isN vs) := isN_srt h3
  have hsl : (isN vs).length ≤ 4 := by rw [isN_len]; omega
  generalize isN vs = s at hs hsl
  have sb1 : SubM M1 (updM (updM M1 q1 (.lst ((at_ b vs).map .int))) a (.lst ((at_ b s).map .int))) := (SubM.refl.new hq1).new ha
  have hp3 := pool_keep hp2 sb1
  generalize hM2 : updM (updM M1 q1 (.lst ((at_ b vs).map .int))) a (.lst ((at_ b s).map .int)) = M2 at hp3
  have haa : M2 a = some (.lst ((at_ b s).map .int)) := by rw [← hM2, updM_same]
  have nap : p ≠ a := by
    have := pool_ne (pool_keep hp2 (SubM.refl.new hq1 (o := .lst ((at_ b vs).map .int)))) ha
    exact this.1
  refine ⟨le6 rfl, fun nl hnl => ?_⟩
  have sb2 : SubM M2 (updM M2 nl (.lst [.int b, .int (b + 1), .int (b + 2)])) := SubM.refl.new hnl
  refine ⟨a, nl, b, s, rfl, sb2 _ _ haa, updM_same, hs, hsl, fun M3 f sb3 hf => ?_⟩
  have hp4 := pool_keep (pool_keep hp3 sb2) sb3
  have ha3 := sb3 _ _ (sb2 _ _ haa)
  have nfp : f ≠ p := fun z => by
    obtain ⟨_, _, _, _, e, _⟩ := hp4
    rw [← z, hf] at e; cases e
  refine tfor ?_
  dsimp only [wipeD, TSeq, TNext, TBreak, TCont, TDrop, TRet, TRetN, TIfS, TNever, TAsg, GName, GNil, GCons, TPar, TTest, TAnd, TOr, TNot, TAndV, TOrV, TNotV, TIf, TVar, TC, TNil, TCons, TTup, TLst, TOp, TUn, TCB, TCall, TCallN, TBM, TAug, TGet1, TGet2, TPut, TYes, GSubL, TSl, TNoPart, TPart, TRev, TIt, TRng1, TRng2, TItems, TVals, TKeys, List.getElem?_cons_zero, List.getElem?_cons_succ, List.set_cons_zero, List.set_cons_succ, List.append_nil, List.nil_append, List.cons_append]
  refine ⟨by decide, by decide, ?_⟩
  refine ⟨fun i δ M' => ∃ x4 x6 x7 x8 : Option D, δ = [some (.frl (ns.map .int)), some (.ref p), some (.int b), some (.ref a), x4, some (.ref f), x6, x7, x8] ∧ PoolSt M' p l ∧ M' a = some (.lst ((at_ b s).map .int)) ∧ M' f = some (.dT (fndD b (bfsN 90 0 [(s, 0)] [s]).1)), ?_, fun _ _ _ _ => trivial, ?_, ?_⟩
  · exact ⟨none, none, none, none, rfl, hp4, ha3, hf⟩
  · rintro i d δ M' hi ⟨x4, x6, x7, x8, rfl, hpp, haa', hff⟩
    dsimp only [wipeD, TSeq, TNext, TBreak, TCont, TDrop, TRet, TRetN, TIfS, TNever, TAsg, GName, GNil, GCons, TPar, TTest, TAnd, TOr, TNot, TAndV, TOrV, TNotV, TIf, TVar, TC, TNil, TCons, TTup, TLst, TOp, TUn, TCB, TCall, TCallN, TBM, TAug, TGet1, TGet2, TPut, TYes, GSubL, TSl, TNoPart, TPart, TRev, TIt, TRng1, TRng2, TItems, TVals, TKeys, List.getElem?_cons_zero, List.getElem?_cons_succ, List.set_cons_zero, List.set_cons_succ, List.append_nil, List.nil_append, List.cons_append]
    refine draws hpp (by decide) (by decide) fun ws M4 q2 hw hw3 hp5 hk hq2 => ?_
    have ha4 := hk _ _ nap.symm haa'
    have hf4 := hk _ _ nfp hff
    refine .inl ⟨at_ b ws, updM_same, fun gl hgl => ?_⟩
    rw [sort_at]
    have hg : Srt (isN ws) := isN_srt hw3
    have hgl5 : (isN ws).length ≤ 5 := by rw [isN_len]; omega
    generalize isN ws = g at hg hgl5
    have sb5 : SubM M4 (updM (updM M4 q2 (.lst ((at_ b ws).map .int))) gl (.lst ((at_ b g).map .int))) := (SubM.refl.new hq2).new hgl
    have hp6 := pool_keep hp5 sb5
    have ha5 := sb5 _ _ ha4
    have hf5 := sb5 _ _ hf4
    have hg5 : updM (updM M4 q2 (.lst ((at_ b ws).map .int))) gl (.lst ((at_ b g).map .int)) gl = some (.lst ((at_ b g).map .int)) := updM_same
    generalize updM (updM M4 q2 (.lst ((at_ b ws).map .int))) gl (.lst ((at_ b g).map .int)) = M5 at hp6 ha5 hf5 hg5
    obtain ⟨d, hd, hdist, hd100, hplan⟩ := main b hs hg hsl hgl5
    refine ⟨_, hg5, ?_⟩
    refine ⟨.int (d : Int), by rw [show D.utup ((at_ b g).map .int) = heapD b g from rfl, getM_f hf5, hd]; rfl, ?_⟩
    have los : (at_ b s).length ≤ 60 := by unfold at_; rw [List.length_map]; omega
    have log' : (at_ b g).length ≤ 60 := by unfold at_; rw [List.length_map]; omega
    have oks : BagOk (bagL (at_ b s)) := bagL_ok (by omega)
    have okg : BagOk (bagL (at_ b g)) := bagL_ok (by omega)
    have bl : ∀ ns : List Int, (bagL ns).length ≤ ns.length := fun ns => by
      have h1 : ∀ l : List Int, (ded l).length ≤ l.length := fun l => by
        induction l with
        | nil => exact Nat.le_refl _
        | cons x r ih => unfold ded; split <;> simp <;> omega
      unfold bagL uniqI
      rw [List.length_map, (sortI_perm _).length_eq]; exact h1 ns
    refine ⟨a, _, rfl, ha5, los, gl, _, rfl, hg5, log', _, _, rfl, oks, okg, ?_⟩
    rw [hdist]
    refine repr_small hd100 (repr_small hd100 (ne_str ?_))
    rw [show (!(PyData.shown (.int (d : Int)) == PyData.shown (.int (d : Int)))) = false by simp]
    show if false = true then _ else _
    rw [if_neg (by decide)]
    refine ⟨a, _, rfl, ha5, los, gl, _, rfl, hg5, log', rfl, rfl, _, _, rfl, oks, okg, ?_, fun ins hi hc => ?_⟩
    · have := bl (at_ b s); have := bl (at_ b g); omega
    obtain ⟨h1, h2⟩ := hplan ins hi hc
    refine isi_tuple (told_lit rfl) ?_
    show if false = true then _ else _
    rw [if_neg (by decide)]
    refine ⟨_, ins, rfl, by omega, hi.fit, fun x hx => by have := hi.pos x hx; omega, fun M6 e sb6 he => ?_⟩
    refine ⟨_, he, ne_int ?_⟩
    rw [List.length_map, h1, show (!decide ((d : Int) = (d : Int))) = false by simp]
    show if false = true then _ else _
    rw [if_neg (by decide)]
    have ha6 := sb6 _ _ ha5
    have hg6 := sb6 _ _ hg5
    refine ⟨_, ins, rfl, by omega, hi.fit, fun x hx => by have := hi.pos x hx; omega, fun M7 e2 sb7 he2 => ?_⟩
    refine ⟨a, e2, _, _, _, rfl, sb7 _ _ ha6, he2, by omega, by rw [sort_srt hs.1]; exact h2, fun M8 r c gg sb8 hr hcc => ?_⟩
    refine ⟨_, .ref c, hr, rfl, ?_⟩
    refine ne_lints hcc (sb8 _ _ (sb7 _ _ hg6)) ?_
    rw [show (!decide (at_ b g = at_ b g)) = false by simp]
    show if false = true then _ else _
    rw [if_neg (by decide)]
    exact ⟨_, _, _, _, rfl, pool_keep (pool_keep (pool_keep hp6 sb6) sb7) sb8, sb8 _ _ (sb7 _ _ ha6), sb8 _ _ (sb7 _ _ (sb6 _ _ hf5))⟩
  · rintro δ M' ⟨x4, x6, x7, x8, rfl, _⟩
    exact rlx_of (q M')
theorem len_law : ∀ ds M Q E, S_law ds M Q E → ds.length = 1 := by rintro _ _ _ _ ⟨_, rfl, _⟩; rfl
theorem len__law_run : ∀ ds M Q E, S__law_run ds M Q E → ds.length = 2 := by rintro _ _ _ _ ⟨_, _, _, _, _, rfl, _⟩; rfl
theorem len__law_expand : ∀ ds M Q E, S__law_expand ds M Q E → ds.length = 1 := by rintro _ _ _ _ ⟨_, _, rfl, _⟩; rfl
theorem len__law_distances : ∀ ds M Q E, S__law_distances ds M Q E → ds.length = 3 := by rintro _ _ _ _ ⟨_, _, _, _, rfl, _⟩; rfl
theorem law_holds (ns : List Int) (h1 : ns.length ≤ 63) (_ : ∀ z ∈ ns, Builtin.Int.intBits z ≤ 1048576) : S_law [.frl (ns.map .int)] (fun _ => none) (fun d _ => d = .bl true) X0 := ⟨ns, rfl, h1, fun _ => rfl⟩
end K66
set_option Elab.async false
set_option autoImplicit false
set_option linter.all false
set_option maxRecDepth 100000
set_option maxHeartbeats 4000000
/-! derivations, printed by gen.py -/
namespace K66
open PySem PySem.Spec L2 L3 HB
open PyProof.Rows hiding pairD cnt
def top (i : Nat) : Stmt := PySem.Challenge.pw_heapeffects_k66_distances_by_search.main.body.getD i (.Pass ⟨0, 0, 0, 0⟩)
section
variable {P : Program} {w : World} {K : PySem.W.Frag} {mg : Str → Option Value} {base : Heap}
abbrev s_is_integer : Stmt := top 4
abbrev N_is_integer : List Str := ["value"]
theorem sc_is_integer : FnScope N_is_integer ["value"] (defScope s_is_integer) := ⟨rfl, rfl, rfl, by decide +kernel, rfl, by decide +kernel, by decide +kernel⟩
theorem ok_is_integer (F : FunAt K mg "is_integer" s_is_integer ["value"]) (z_bool : mg "bool" = none) (z_int : mg "int" = none) (z_isinstance : mg "isinstance" = none) : Cal P w K mg base "is_integer" 1 ["value"] S_is_integer := F.cal fun f fd F => fn_D F sc_is_integer len_is_integer (fun cdv A outer s H E hg hr => (dss_one (ds_ret (de_and (de_cb cd_isi z_isinstance (da_cons (de_var 0) (da_cons (de_ty z_int) da_nil))) (de_one (de_not (de_cb cd_isi z_isinstance (da_cons (de_var 0) (da_cons (de_ty z_bool) da_nil))))))))) (vc_is_integer)
abbrev s_is_bag : Stmt := top 5
abbrev N_is_bag : List Str := ["value", "numbers", "entry", "number", "count"]
theorem sc_is_bag : FnScope N_is_bag ["value"] (defScope s_is_bag) := ⟨rfl, rfl, rfl, by decide +kernel, rfl, by decide +kernel, by decide +kernel⟩
theorem ok_is_bag (F : FunAt K mg "is_bag" s_is_bag ["value"]) (c_is_integer : Cal P w K mg base "is_integer" 1 ["value"] S_is_integer) (z_isinstance : mg "isinstance" = none) (z_len : mg "len" = none) (z_tuple : mg "tuple" = none) : Cal P w K mg base "is_bag" 2 ["value"] S_is_bag := F.cal fun f fd F => fn_D F sc_is_bag len_is_bag (fun cdv A outer s H E hg hr => (dss_cons (ds_if (dt_not (dt_val (de_cb cd_isi z_isinstance (da_cons (de_var 0) (da_cons (de_ty z_tuple) da_nil))))) (dss_one (ds_ret de_bl)) dss_nil) (dss_cons (ds_set (i := 1) sc_is_bag.nd (de_lst da_nil)) (dss_cons (ds_for (vs := [2]) PassesOwn.never rfl (di_it (de_var 0)) (dg_name (i := 2) sc_is_bag.nd (by decide)) (dss_cons (ds_if (dt_w (dw_or (dt_not (dt_val (de_cb cd_isi z_isinstance (da_cons (de_var 2) (da_cons (de_ty z_tuple) da_nil))))) (dw_or1 (dt_ne (rm64 hr) (de_cb cd_len z_len (da_cons (de_var 2) da_nil)) de_int)))) (dss_one (ds_ret de_bl)) dss_nil) (dss_cons (ds_asg (vs := [3, 4]) (de_var 2) (dg_tup (n := 2) rfl (dgs_cons (dg_name (i := 3) sc_is_bag.nd (by decide)) (dgs_cons (dg_name (i := 4) sc_is_bag.nd (by decide)) dgs_nil)))) (dss_cons (ds_if (dt_w (dw_or (dt_not (dt_val (de_fn c_is_integer hg (hr.mono (by decide)) (da_cons (de_var 3) da_nil)))) (dw_or (dt_not (dt_val (de_fn c_is_integer hg (hr.mono (by decide)) (da_cons (de_var 4) da_nil)))) (dw_or1 (dt_lt (de_var 4) de_int))))) (dss_one (ds_ret de_bl)) dss_nil) (dss_cons (ds_if (dt_w (dw_and (dt_ne (rm64 hr) (de_var 1) (de_lst da_nil)) (dw_and1 (dt_le (de_var 3) (de_sub (de_var 1) (de_neg de_int)))))) (dss_one (ds_ret de_bl)) dss_nil) (dss_one (ds_expr (de_append (de_var 1) (da_cons (de_var 3) da_nil))))))))) (dss_one (ds_ret de_bl)))))) (vc_is_bag)
abbrev s_check_bag : Stmt := top 6
abbrev N_check_bag : List Str := ["value"]
theorem sc_check_bag : FnScope N_check_bag ["value"] (defScope s_check_bag) := ⟨rfl, rfl, rfl, by decide +kernel, rfl, by decide +kernel, by decide +kernel⟩
theorem ok_check_bag (F : FunAt K mg "check_bag" s_check_bag ["value"]) (c_is_bag : Cal P w K mg base "is_bag" 2 ["value"] S_is_bag) : Cal P w K mg base "check_bag" 3 ["value"] S_check_bag := F.cal fun f fd F => fn_D F sc_check_bag len_check_bag (fun cdv A outer s H E hg hr => (dss_one (ds_if (dt_not (dt_val (de_fn c_is_bag hg (hr.mono (by decide)) (da_cons (de_var 0) da_nil)))) dss_never dss_nil))) (vc_check_bag)
abbrev s_from_counts : Stmt := top 7
abbrev N_from_counts : List Str := ["counts", "number", "count"]
theorem sc_from_counts : FnScope N_from_counts ["counts"] (defScope s_from_counts) := ⟨rfl, rfl, rfl, by decide +kernel, rfl, by decide +kernel, by decide +kernel⟩
theorem ok_from_counts (F : FunAt K mg "from_counts" s_from_counts ["counts"]) (z_sorted : mg "sorted" = none) (z_tuple : mg "tuple" = none) : Cal P w K mg base "from_counts" 1 ["counts"] S_from_counts := F.cal fun f fd F => fn_D F sc_from_counts len_from_counts (fun cdv A outer s H E hg hr => (dss_one (ds_ret (de_ct cd_tuple z_tuple (da_cons (de_cb (cd_sorted (rm64 hr)) z_sorted (da_cons (de_lock (de_lc rfl sc_from_counts.nd (di_items (de_var 0)) (blk_mk (N := N_from_counts) (sc := (defScope s_from_counts)) (own := [("number", 1), ("count", 2)]) (by decide +kernel)) (fun _ _ _ _ _ => (dg_tup (n := 2) rfl (dgs_cons (dg_name (i := 1) sc_from_counts.nd (by decide)) (dgs_cons (dg_name (i := 2) sc_from_counts.nd (by decide)) dgs_nil)))) (fun _ _ _ _ _ => (dts_one (dt_gt (de_var 2) de_int))) (fun _ _ _ _ _ => (de_tup (da_cons (de_var 1) (da_cons (de_var 2) da_nil)))))) da_nil)) da_nil))))) (vc_from_counts)
abbrev s_subtract : Stmt := top 8
abbrev N_subtract : List Str := ["bag", "other", "counts", "number", "count"]
theorem sc_subtract : FnScope N_subtract ["bag", "other"] (defScope s_subtract) := ⟨rfl, rfl, rfl, by decide +kernel, rfl, by decide +kernel, by decide +kernel⟩
theorem ok_subtract (F : FunAt K mg "subtract" s_subtract ["bag", "other"]) (c_from_counts : Cal P w K mg base "from_counts" 1 ["counts"] S_from_counts) (z_any : mg "any" = none) (z_dict : mg "dict" = none) : Cal P w K mg base "subtract" 2 ["bag", "other"] S_subtract := F.cal fun f fd F => fn_D F sc_subtract len_subtract (fun cdv A outer s H E hg hr => (dss_cons (ds_set (i := 2) sc_subtract.nd (de_ct (cd_dict rfl) z_dict (da_cons (de_var 0) da_nil))) (dss_cons (ds_for (vs := [3, 4]) PassesOwn.never rfl (di_it (de_var 1)) (dg_tup (n := 2) rfl (dgs_cons (dg_name (i := 3) sc_subtract.nd (by decide)) (dgs_cons (dg_name (i := 4) sc_subtract.nd (by decide)) dgs_nil))) (dss_one (ds_put (rm1 hr) (de_var 2) (de_var 3) (de_subt (de_get2 (rm1 hr) (de_var 2) (de_var 3) de_int) (de_var 4))))) (dss_one (ds_ret (de_if (dt_val (de_cb (cd_any rfl) z_any (da_cons (de_lock (de_lc rfl sc_subtract.nd (di_vals (de_var 2)) (blk_mk (N := N_subtract) (sc := (defScope s_subtract)) (own := [("count", 4)]) (by decide +kernel)) (fun _ _ _ _ _ => (dg_name (i := 4) sc_subtract.nd (by decide))) (fun _ _ _ _ _ => dts_nil) (fun _ _ _ _ _ => (de_lt (de_var 4) de_int)))) da_nil))) de_non (de_fn c_from_counts hg (hr.mono (by decide)) (da_cons (de_var 2) da_nil)))))))) (vc_subtract)
abbrev s_total : Stmt := top 9
abbrev N_total : List Str := ["bag", "number", "count"]
theorem sc_total : FnScope N_total ["bag"] (defScope s_total) := ⟨rfl, rfl, rfl, by decide +kernel, rfl, by decide +kernel, by decide +kernel⟩
theorem ok_total (F : FunAt K mg "total" s_total ["bag"]) (z_sum : mg "sum" = none) : Cal P w K mg base "total" 1 ["bag"] S_total := F.cal fun f fd F => fn_D F sc_total len_total (fun cdv A outer s H E hg hr => (dss_one (ds_ret (de_cb (cd_sum rfl) z_sum (da_cons (de_lc rfl sc_total.nd (di_it (de_var 0)) (blk_mk (N := N_total) (sc := (defScope s_total)) (own := [("number", 1), ("count", 2)]) (by decide +kernel)) (fun _ _ _ _ _ => (dg_tup (n := 2) rfl (dgs_cons (dg_name (i := 1) sc_total.nd (by decide)) (dgs_cons (dg_name (i := 2) sc_total.nd (by decide)) dgs_nil)))) (fun _ _ _ _ _ => dts_nil) (fun _ _ _ _ _ => (de_var 2))) da_nil))))) (vc_total)
abbrev s_level : Stmt := top 10
abbrev N_level : List Str := ["bag", "number", "one", "count"]
theorem sc_level : FnScope N_level ["bag", "number"] (defScope s_level) := ⟨rfl, rfl, rfl, by decide +kernel, rfl, by decide +kernel, by decide +kernel⟩
theorem ok_level (F : FunAt K mg "level" s_level ["bag", "number"]) (z_sum : mg "sum" = none) : Cal P w K mg base "level" 1 ["bag", "number"] S_level := F.cal fun f fd F => fn_D F sc_level len_level (fun cdv A outer s H E hg hr => (dss_one (ds_ret (de_cb (cd_sum rfl) z_sum (da_cons (de_lc rfl sc_level.nd (di_it (de_var 0)) (blk_mk (N := N_level) (sc := (defScope s_level)) (own := [("one", 2), ("count", 3)]) (by decide +kernel)) (fun _ _ _ _ _ => (dg_tup (n := 2) rfl (dgs_cons (dg_name (i := 2) sc_level.nd (by decide)) (dgs_cons (dg_name (i := 3) sc_level.nd (by decide)) dgs_nil)))) (fun _ _ _ _ _ => (dts_one (dt_le (de_var 2) (de_var 1)))) (fun _ _ _ _ _ => (de_var 3))) da_nil))))) (vc_level)
abbrev s_drop : Stmt := top 11
abbrev N_drop : List Str := ["bag", "count", "left", "kept", "number", "many", "dropped"]
theorem sc_drop : FnScope N_drop ["bag", "count"] (defScope s_drop) := ⟨rfl, rfl, rfl, by decide +kernel, rfl, by decide +kernel, by decide +kernel⟩
theorem ok_drop (F : FunAt K mg "drop" s_drop ["bag", "count"]) (z_min : mg "min" = none) (z_tuple : mg "tuple" = none) : Cal P w K mg base "drop" 1 ["bag", "count"] S_drop := F.cal fun f fd F => fn_D F sc_drop len_drop (fun cdv A outer s H E hg hr => (dss_cons (ds_par (i := 2) (j := 3) rfl sc_drop.nd (da_cons (de_var 1) (da_cons (de_lst da_nil) da_nil))) (dss_cons (ds_for (vs := [4, 5]) PassesOwn.never rfl (di_it (de_var 0)) (dg_tup (n := 2) rfl (dgs_cons (dg_name (i := 4) sc_drop.nd (by decide)) (dgs_cons (dg_name (i := 5) sc_drop.nd (by decide)) dgs_nil))) (dss_cons (ds_set (i := 6) sc_drop.nd (de_cb (cd_min rfl) z_min (da_cons (de_var 2) (da_cons (de_var 5) da_nil)))) (dss_cons (ds_aug (i := 2) sc_drop.nd ip_sub (de_var 6)) (dss_one (ds_if (dt_gt (de_var 5) (de_var 6)) (dss_one (ds_expr (de_append (de_var 3) (da_cons (de_tup (da_cons (de_var 4) (da_cons (de_subt (de_var 5) (de_var 6)) da_nil))) da_nil)))) dss_nil))))) (dss_one (ds_ret (de_ct cd_tuple z_tuple (da_cons (de_var 3) da_nil))))))) (vc_drop)
abbrev s_insert_steps : Stmt := top 13
abbrev N_insert_steps : List Str := ["bag", "number", "count"]
theorem sc_insert_steps : FnScope N_insert_steps ["bag"] (defScope s_insert_steps) := ⟨rfl, rfl, rfl, by decide +kernel, rfl, by decide +kernel, by decide +kernel⟩
theorem ok_insert_steps (F : FunAt K mg "insert_steps" s_insert_steps ["bag"]) (z_tuple : mg "tuple" = none) : Cal P w K mg base "insert_steps" 1 ["bag"] S_insert_steps := F.cal fun f fd F => fn_D F sc_insert_steps len_insert_steps (fun cdv A outer s H E hg hr => (dss_one (ds_ret (de_ct cd_tuple z_tuple (da_cons (de_lc rfl sc_insert_steps.nd (di_it (de_var 0)) (blk_mk (N := N_insert_steps) (sc := (defScope s_insert_steps)) (own := [("number", 1), ("count", 2)]) (by decide +kernel)) (fun _ _ _ _ _ => (dg_tup (n := 2) rfl (dgs_cons (dg_name (i := 1) sc_insert_steps.nd (by decide)) (dgs_cons (dg_name (i := 2) sc_insert_steps.nd (by decide)) dgs_nil)))) (fun _ _ _ _ _ => dts_nil) (fun _ _ _ _ _ => (de_tup (da_cons de_str (da_cons (de_var 1) (da_cons (de_var 2) da_nil)))))) da_nil))))) (vc_insert_steps)
abbrev s_removals_needed : Stmt := top 15
abbrev N_removals_needed : List Str := ["start", "goal", "wanted", "number", "count"]
theorem sc_removals_needed : FnScope N_removals_needed ["start", "goal"] (defScope s_removals_needed) := ⟨rfl, rfl, rfl, by decide +kernel, rfl, by decide +kernel, by decide +kernel⟩
theorem ok_removals_needed (F : FunAt K mg "removals_needed" s_removals_needed ["start", "goal"]) (c_level : Cal P w K mg base "level" 1 ["bag", "number"] S_level) (z_dict : mg "dict" = none) : Cal P w K mg base "removals_needed" 2 ["start", "goal"] S_removals_needed := F.cal fun f fd F => fn_D F sc_removals_needed len_removals_needed (fun cdv A outer s H E hg hr => (dss_cons (ds_set (i := 2) sc_removals_needed.nd (de_ct (cd_dict rfl) z_dict (da_cons (de_var 1) da_nil))) (dss_cons (ds_for (vs := [3, 4]) PassesOwn.never rfl (di_it (de_rev (de_var 0))) (dg_tup (n := 2) rfl (dgs_cons (dg_name (i := 3) sc_removals_needed.nd (by decide)) (dgs_cons (dg_name (i := 4) sc_removals_needed.nd (by decide)) dgs_nil))) (dss_one (ds_if (dt_gt (de_var 4) (de_get2 (rm1 hr) (de_var 2) (de_var 3) de_int)) (dss_one (ds_ret (de_subt (de_fn c_level hg (hr.mono (by decide)) (da_cons (de_var 0) (da_cons (de_var 3) da_nil))) (de_get2 (rm1 hr) (de_var 2) (de_var 3) de_int)))) dss_nil))) (dss_one (ds_ret de_int))))) (vc_removals_needed)
abbrev s_distance : Stmt := top 16
abbrev N_distance : List Str := ["start", "goal"]
theorem sc_distance : FnScope N_distance ["start", "goal"] (defScope s_distance) := ⟨rfl, rfl, rfl, by decide +kernel, rfl, by decide +kernel, by decide +kernel⟩
theorem ok_distance (F : FunAt K mg "distance" s_distance ["start", "goal"]) (c_check_bag : Cal P w K mg base "check_bag" 3 ["value"] S_check_bag) (c_removals_needed : Cal P w K mg base "removals_needed" 2 ["start", "goal"] S_removals_needed) (c_total : Cal P w K mg base "total" 1 ["bag"] S_total) : Cal P w K mg base "distance" 4 ["start", "goal"] S_distance := F.cal fun f fd F => fn_D F sc_distance len_distance (fun cdv A outer s H E hg hr => (dss_cons (ds_expr (de_fn c_check_bag hg (hr.mono (by decide)) (da_cons (de_var 0) da_nil))) (dss_cons (ds_expr (de_fn c_check_bag hg (hr.mono (by decide)) (da_cons (de_var 1) da_nil))) (dss_one (ds_ret (de_subt (de_add (de_mul de_int (de_fn c_removals_needed hg (hr.mono (by decide)) (da_cons (de_var 0) (da_cons (de_var 1) da_nil)))) (de_fn c_total hg (hr.mono (by decide)) (da_cons (de_var 1) da_nil))) (de_fn c_total hg (hr.mono (by decide)) (da_cons (de_var 0) da_nil)))))))) (vc_distance)
abbrev s_plan : Stmt := top 17
abbrev N_plan : List Str := ["start", "goal", "stock", "removals", "inserted", "removal"]
theorem sc_plan : FnScope N_plan ["start", "goal", "stock"] (defScope s_plan) := ⟨rfl, rfl, rfl, by decide +kernel, rfl, by decide +kernel, by decide +kernel⟩
theorem ok_plan (F : FunAtN K mg "plan" s_plan ["start", "goal", "stock"] 2 [] gNon) (c_check_bag : Cal P w K mg base "check_bag" 3 ["value"] S_check_bag) (c_drop : Cal P w K mg base "drop" 1 ["bag", "count"] S_drop) (c_insert_steps : Cal P w K mg base "insert_steps" 1 ["bag"] S_insert_steps) (c_removals_needed : Cal P w K mg base "removals_needed" 2 ["start", "goal"] S_removals_needed) (c_subtract : Cal P w K mg base "subtract" 2 ["bag", "other"] S_subtract) : CalN P w K mg base "plan" 4 ["start", "goal", "stock"] 2 [] gNon S_plan := F.cal fun f fd F => fn_D F sc_plan len_plan (fun cdv A outer s H E hg hr => (dss_cons (ds_expr (de_fn c_check_bag hg (hr.mono (by decide)) (da_cons (de_var 0) da_nil))) (dss_cons (ds_expr (de_fn c_check_bag hg (hr.mono (by decide)) (da_cons (de_var 1) da_nil))) (dss_cons (ds_if (dt_notN (de_var 2) de_non) dss_never dss_nil) (dss_cons (ds_set (i := 3) sc_plan.nd (de_fn c_removals_needed hg (hr.mono (by decide)) (da_cons (de_var 0) (da_cons (de_var 1) da_nil)))) (dss_cons (ds_set (i := 4) sc_plan.nd (de_fn c_subtract hg (hr.mono (by decide)) (da_cons (de_var 1) (da_cons (de_fn c_drop hg (hr.mono (by decide)) (da_cons (de_var 0) (da_cons (de_var 3) da_nil))) da_nil)))) (dss_cons (ds_if (dt_w (dw_and (dt_notN (de_var 2) de_non) (dw_and1 (dt_isN (de_fn c_subtract hg (hr.mono (by decide)) (da_cons (de_var 2) (da_cons (de_var 4) da_nil))) de_non)))) dss_never dss_nil) (dss_cons (ds_set (i := 5) sc_plan.nd (de_if (dt_gt (de_var 3) de_int) (de_tup (da_cons (de_tup (da_cons de_str (da_cons (de_var 3) da_nil))) da_nil)) (de_tup da_nil))) (dss_one (ds_ret (de_add (de_var 5) (de_fn c_insert_steps hg (hr.mono (by decide)) (da_cons (de_var 4) da_nil))))))))))))) (vc_plan)
abbrev s__law_draw : Stmt := top 19
abbrev N__law_draw : List Str := ["pool", "count", "cell", "result"]
theorem sc__law_draw : FnScope N__law_draw ["pool", "count"] (defScope s__law_draw) := ⟨rfl, rfl, rfl, by decide +kernel, rfl, by decide +kernel, by decide +kernel⟩
theorem ok__law_draw (F : FunAt K mg "_law_draw" s__law_draw ["pool", "count"]) (z_len : mg "len" = none) : Cal P w K mg base "_law_draw" 1 ["pool", "count"] S__law_draw := F.cal fun f fd F => fn_D F sc__law_draw len__law_draw (fun cdv A outer s H E hg hr => (dss_cons (ds_if (dt_eq (rm64 hr) (de_sub (de_var 0) de_int) de_int) (dss_cons (ds_set (i := 2) sc__law_draw.nd (de_if (dt_lt (de_sub (de_var 0) de_int) (de_cb cd_len z_len (da_cons (de_sub (de_var 0) de_int) da_nil))) (de_sub (de_sub (de_var 0) de_int) (de_sub (de_var 0) de_int)) de_int)) (dss_cons (ds_asg (vs := []) (de_add (de_sub (de_var 0) de_int) de_int) (dg_sub (de_var 0) de_int)) (dss_cons (ds_if (dt_lt (de_var 2) (de_pow de_int de_int)) (dss_cons (ds_asg (vs := []) (de_mod (de_add (de_add (de_mul (de_sub (de_var 0) de_int) de_int) (de_mod (de_var 2) de_int)) (de_sub (de_var 0) de_int)) de_int) (dg_sub (de_var 0) de_int)) (dss_one (ds_ret (de_mod (de_div (de_mod (de_mul (de_sub (de_var 0) de_int) (de_sub (de_var 0) de_int)) de_int) de_int) (de_var 1))))) dss_nil) (dss_one (ds_asg (vs := []) (de_var 2) (dg_sub (de_var 0) de_int)))))) dss_nil) (dss_cons (ds_set (i := 3) sc__law_draw.nd (de_mod (de_sub (de_var 0) de_int) (de_var 1))) (dss_cons (ds_asg (vs := []) (de_div (de_sub (de_var 0) de_int) (de_var 1)) (dg_sub (de_var 0) de_int)) (dss_one (ds_ret (de_var 3))))))) (vc__law_draw)
abbrev s__law_base : Stmt := top 20
abbrev N__law_base : List Str := ["pool"]
theorem sc__law_base : FnScope N__law_base ["pool"] (defScope s__law_base) := ⟨rfl, rfl, rfl, by decide +kernel, rfl, by decide +kernel, by decide +kernel⟩
theorem ok__law_base (F : FunAt K mg "_law_base" s__law_base ["pool"]) (c__law_draw : Cal P w K mg base "_law_draw" 1 ["pool", "count"] S__law_draw) : Cal P w K mg base "_law_base" 2 ["pool"] S__law_base := F.cal fun f fd F => fn_D F sc__law_base len__law_base (fun cdv A outer s H E hg hr => (dss_one (ds_ret (de_sub (de_lst (da_cons de_int (da_cons (de_neg de_int) (da_cons (de_pow de_int de_int) (da_cons (de_add (de_subt de_int (de_pow de_int de_int)) (de_fn c__law_draw hg (hr.mono (by decide)) (da_cons (de_var 0) (da_cons (de_pow de_int de_int) da_nil)))) da_nil))))) (de_fn c__law_draw hg (hr.mono (by decide)) (da_cons (de_var 0) (da_cons de_int da_nil))))))) (vc__law_base)
abbrev s__law_bag : Stmt := top 21
abbrev N__law_bag : List Str := ["numbers", "number"]
theorem sc__law_bag : FnScope N__law_bag ["numbers"] (defScope s__law_bag) := ⟨rfl, rfl, rfl, by decide +kernel, rfl, by decide +kernel, by decide +kernel⟩
theorem ok__law_bag (F : FunAt K mg "_law_bag" s__law_bag ["numbers"]) (z_set : mg "set" = none) (z_sorted : mg "sorted" = none) (z_tuple : mg "tuple" = none) : Cal P w K mg base "_law_bag" 1 ["numbers"] S__law_bag := F.cal fun f fd F => fn_D F sc__law_bag len__law_bag (fun cdv A outer s H E hg hr => (dss_one (ds_ret (de_ct cd_tuple z_tuple (da_cons (de_lc rfl sc__law_bag.nd (di_it (de_cb (cd_sortS rfl) z_sorted (da_cons (de_ct (cd_setOf rfl) z_set (da_cons (de_var 0) da_nil)) da_nil))) (blk_mk (N := N__law_bag) (sc := (defScope s__law_bag)) (own := [("number", 1)]) (by decide +kernel)) (fun _ _ _ _ _ => (dg_name (i := 1) sc__law_bag.nd (by decide))) (fun _ _ _ _ _ => dts_nil) (fun _ _ _ _ _ => (de_tup (da_cons (de_var 1) (da_cons (de_count (de_var 0) (da_cons (de_var 1) da_nil)) da_nil))))) da_nil))))) (vc__law_bag w)
abbrev s__law_run : Stmt := top 22
abbrev N__law_run : List Str := ["heap", "steps", "current", "gone", "index"]
theorem sc__law_run : FnScope N__law_run ["heap", "steps"] (defScope s__law_run) := ⟨rfl, rfl, rfl, by decide +kernel, rfl, by decide +kernel, by decide +kernel⟩
theorem ok__law_run (F : FunAt K mg "_law_run" s__law_run ["heap", "steps"]) (z_len : mg "len" = none) (z_range : mg "range" = none) (z_sorted : mg "sorted" = none) : Cal P w K mg base "_law_run" 1 ["heap", "steps"] S__law_run := F.cal fun f fd F => fn_D F sc__law_run len__law_run (fun cdv A outer s H E hg hr => (dss_cons (ds_set (i := 2) sc__law_run.nd (de_cb (cd_sorted (rm64 hr)) z_sorted (da_cons (de_var 0) da_nil))) (dss_cons (ds_set (i := 3) sc__law_run.nd (de_lst da_nil)) (dss_cons (ds_for (vs := [4]) PassesOwn.never rfl (di_rng1 (da_cons (de_cb cd_len z_len (da_cons (de_var 1) da_nil)) da_nil) z_range) (dg_name (i := 4) sc__law_run.nd (by decide)) (dss_one (ds_if (dt_eq (rm64 hr) (de_sub (de_sub (de_var 1) (de_var 4)) de_int) de_str) (dss_one (ds_set (i := 2) sc__law_run.nd (de_cb (cd_sorted (rm64 hr)) z_sorted (da_cons (de_add (de_var 2) (de_lst (da_cons (de_sub (de_sub (de_var 1) (de_var 4)) de_int) da_nil))) da_nil)))) (dss_one (ds_if (dt_eq (rm64 hr) (de_var 2) (de_lst da_nil)) (dss_one (ds_ret (de_lst (da_cons de_non (da_cons (de_var 3) (da_cons (de_var 4) da_nil)))))) (dss_cons (ds_expr (de_append (de_var 3) (da_cons (de_sub (de_var 2) de_int) da_nil))) (dss_one (ds_set (i := 2) sc__law_run.nd (de_slice (de_var 2) (do_some de_int) do_none))))))))) (dss_one (ds_ret (de_lst (da_cons (de_var 2) (da_cons (de_var 3) (da_cons de_non da_nil)))))))))) (vc__law_run)
abbrev s__law_expand : Stmt := top 23
abbrev N__law_expand : List Str := ["program", "steps", "step"]
theorem sc__law_expand : FnScope N__law_expand ["program"] (defScope s__law_expand) := ⟨rfl, rfl, rfl, by decide +kernel, rfl, by decide +kernel, by decide +kernel⟩
theorem ok__law_expand (F : FunAt K mg "_law_expand" s__law_expand ["program"]) : Cal P w K mg base "_law_expand" 1 ["program"] S__law_expand := F.cal fun f fd F => fn_D F sc__law_expand len__law_expand (fun cdv A outer s H E hg hr => (dss_cons (ds_set (i := 1) sc__law_expand.nd (de_lst da_nil)) (dss_cons (ds_for (vs := [2]) PassesOwn.never rfl (di_it (de_var 0)) (dg_name (i := 2) sc__law_expand.nd (by decide)) (dss_one (ds_if (dt_eq (rm64 hr) (de_sub (de_var 2) de_int) de_str) dss_never (dss_one (ds_set (i := 1) sc__law_expand.nd (de_add (de_var 1) (de_mul (de_lst (da_cons (de_add (de_slice (de_var 2) do_none (do_some (de_neg de_int))) (de_tup (da_cons de_int da_nil))) da_nil)) (de_sub (de_var 2) (de_neg de_int))))))))) (dss_one (ds_ret (de_var 1)))))) (vc__law_expand)
abbrev s__law_distances : Stmt := top 24
abbrev N__law_distances : List Str := ["start", "numbers", "most", "found", "pending", "position", "heap", "near", "number", "after"]
theorem sc__law_distances : FnScope N__law_distances ["start", "numbers", "most"] (defScope s__law_distances) := ⟨rfl, rfl, rfl, by decide +kernel, rfl, by decide +kernel, by decide +kernel⟩
theorem ok__law_distances (F : FunAt K mg "_law_distances" s__law_distances ["start", "numbers", "most"]) (z_len : mg "len" = none) (z_list : mg "list" = none) (z_sorted : mg "sorted" = none) (z_tuple : mg "tuple" = none) : Cal P w K mg base "_law_distances" 1 ["start", "numbers", "most"] S__law_distances := F.cal fun f fd F => fn_D F sc__law_distances len__law_distances (fun cdv A outer s H E hg hr => (dss_cons (ds_set (i := 3) sc__law_distances.nd (de_dispT (rm2 hr) (de_ct cd_tupleU z_tuple (da_cons (de_var 0) da_nil)) de_int)) (dss_cons (ds_set (i := 4) sc__law_distances.nd (de_lst (da_cons (de_ct cd_tupleU z_tuple (da_cons (de_var 0) da_nil)) da_nil))) (dss_cons (ds_set (i := 5) sc__law_distances.nd de_int) (dss_cons (ds_while PassesOwn.never (dt_lt (de_var 5) (de_cb cd_len z_len (da_cons (de_var 4) da_nil))) (dss_cons (ds_set (i := 6) sc__law_distances.nd (de_sub (de_var 4) (de_var 5))) (dss_cons (ds_set (i := 5) sc__law_distances.nd (de_add (de_var 5) de_int)) (dss_cons (ds_setLc (i := 7) rfl sc__law_distances.nd (di_it (de_var 1)) (blk_mk (N := N__law_distances) (sc := (defScope s__law_distances)) (own := [("number", 8)]) (by decide +kernel)) (fun _ _ _ _ _ => (dg_name (i := 8) sc__law_distances.nd (by decide))) (fun _ _ _ _ _ => (dts_one (dt_lt (de_cb cd_len z_len (da_cons (de_var 6) da_nil)) (de_var 2)))) (fun _ _ _ _ _ => (de_ct cd_tupleU z_tuple (da_cons (de_cb (cd_sorted (rm64 hr)) z_sorted (da_cons (de_add (de_ct cd_list z_list (da_cons (de_var 6) da_nil)) (de_lst (da_cons (de_var 8) da_nil))) da_nil)) da_nil)))) (dss_cons (ds_if (dt_ne (rm64 hr) (de_var 6) (de_tup da_nil)) (dss_one (ds_expr (de_append (de_var 7) (da_cons (de_slice (de_var 6) (do_some de_int) do_none) da_nil)))) dss_nil) (dss_one (ds_for (vs := [9]) PassesOwn.never rfl (di_it (de_var 7)) (dg_name (i := 9) sc__law_distances.nd (by decide)) (dss_one (ds_if (dt_dnotin (rm1 hr) (de_var 9) (de_var 3)) (dss_cons (ds_put (rm1 hr) (de_var 3) (de_var 9) (de_add (de_dget (rm1 hr) (de_var 3) (de_var 6)) de_int)) (dss_one (ds_expr (de_append (de_var 4) (da_cons (de_var 9) da_nil))))) dss_nil))))))))) (dss_one (ds_ret (de_var 3)))))))) (vc__law_distances)
abbrev s_law : Stmt := top 25
abbrev N_law : List Str := ["script", "pool", "base", "start", "k", "found", "goal", "steps", "program"]
theorem sc_law : FnScope N_law ["script"] (defScope s_law) := ⟨rfl, rfl, rfl, by decide +kernel, rfl, by decide +kernel, by decide +kernel⟩
theorem ok_law {f : Addr} {fd : FuncData} (F : FunK K "law" "law" s_law f fd) (c__law_bag : Cal P w K mg base "_law_bag" 1 ["numbers"] S__law_bag) (c__law_base : Cal P w K mg base "_law_base" 2 ["pool"] S__law_base) (c__law_distances : Cal P w K mg base "_law_distances" 1 ["start", "numbers", "most"] S__law_distances) (c__law_draw : Cal P w K mg base "_law_draw" 1 ["pool", "count"] S__law_draw) (c__law_expand : Cal P w K mg base "_law_expand" 1 ["program"] S__law_expand) (c__law_run : Cal P w K mg base "_law_run" 1 ["heap", "steps"] S__law_run) (c_distance : Cal P w K mg base "distance" 4 ["start", "goal"] S_distance) (c_plan : CalN P w K mg base "plan" 4 ["start", "goal", "stock"] 2 [] gNon S_plan) (z_isinstance : mg "isinstance" = none) (z_len : mg "len" = none) (z_list : mg "list" = none) (z_range : mg "range" = none) (z_repr : mg "repr" = none) (z_sorted : mg "sorted" = none) (z_tuple : mg "tuple" = none) : FnG P w K mg base CX0 5 f fd ["script"] (liSp K S_law) := fn_D F sc_law len_law (fun cdv A outer s H E hg hr => (dss_cons (ds_set (i := 1) sc_law.nd (de_lst (da_cons (de_ct cd_list z_list (da_cons (de_var 0) da_nil)) (da_cons de_int (da_cons de_int (da_cons de_int da_nil)))))) (dss_cons (ds_set (i := 2) sc_law.nd (de_fn c__law_base hg (hr.mono (by decide)) (da_cons (de_var 1) da_nil))) (dss_cons (ds_set (i := 3) sc_law.nd (de_cb (cd_sorted (rm64 hr)) z_sorted (da_cons (de_lc rfl sc_law.nd (di_rng1 (da_cons (de_fn c__law_draw hg (hr.mono (by decide)) (da_cons (de_var 1) (da_cons de_int da_nil))) da_nil) z_range) (blk_mk (N := N_law) (sc := (defScope s_law)) (own := [("k", 4)]) (by decide +kernel)) (fun _ _ _ _ _ => (dg_name (i := 4) sc_law.nd (by decide))) (fun _ _ _ _ _ => dts_nil) (fun _ _ _ _ _ => (de_add (de_var 2) (de_fn c__law_draw hg (hr.mono (by decide)) (da_cons (de_var 1) (da_cons de_int da_nil)))))) da_nil))) (dss_cons (ds_set (i := 5) sc_law.nd (de_fn c__law_distances hg (hr.mono (by decide)) (da_cons (de_var 3) (da_cons (de_lst (da_cons (de_var 2) (da_cons (de_add (de_var 2) de_int) (da_cons (de_add (de_var 2) de_int) da_nil)))) (da_cons de_int da_nil))))) (dss_cons (ds_for (vs := [4]) PassesOwn.never rfl (di_rng1 (da_cons de_int da_nil) z_range) (dg_name (i := 4) sc_law.nd (by decide)) (dss_cons (ds_set (i := 6) sc_law.nd (de_cb (cd_sorted (rm64 hr)) z_sorted (da_cons (de_lc rfl sc_law.nd (di_rng1 (da_cons (de_fn c__law_draw hg (hr.mono (by decide)) (da_cons (de_var 1) (da_cons de_int da_nil))) da_nil) z_range) (blk_mk (N := N_law) (sc := (defScope s_law)) (own := [("k", 4)]) (by decide +kernel)) (fun _ _ _ _ _ => (dg_name (i := 4) sc_law.nd (by decide))) (fun _ _ _ _ _ => dts_nil) (fun _ _ _ _ _ => (de_add (de_var 2) (de_fn c__law_draw hg (hr.mono (by decide)) (da_cons (de_var 1) (da_cons de_int da_nil)))))) da_nil))) (dss_cons (ds_set (i := 7) sc_law.nd (de_dget (rm1 hr) (de_var 5) (de_ct cd_tupleU z_tuple (da_cons (de_var 6) da_nil)))) (dss_cons (ds_if (dt_ne (rm64 hr) (de_cb (cd_repr hg (rm64 hr)) z_repr (da_cons (de_fn c_distance hg (hr.mono (by decide)) (da_cons (de_fn c__law_bag hg (hr.mono (by decide)) (da_cons (de_var 3) da_nil)) (da_cons (de_fn c__law_bag hg (hr.mono (by decide)) (da_cons (de_var 6) da_nil)) da_nil))) da_nil)) (de_cb (cd_repr hg (rm64 hr)) z_repr (da_cons (de_var 7) da_nil))) (dss_one (ds_ret de_bl)) dss_nil) (dss_cons (ds_set (i := 8) sc_law.nd (de_fnN c_plan hg (hr.mono (by decide)) (da_cons (de_fn c__law_bag hg (hr.mono (by decide)) (da_cons (de_var 3) da_nil)) (da_cons (de_fn c__law_bag hg (hr.mono (by decide)) (da_cons (de_var 6) da_nil)) da_nil)) dk_nil)) (dss_cons (ds_if (dt_w (dw_or (dt_not (dt_val (de_cb cd_isi z_isinstance (da_cons (de_var 8) (da_cons (de_ty z_tuple) da_nil))))) (dw_or1 (dt_ne (rm64 hr) (de_cb cd_len z_len (da_cons (de_fn c__law_expand hg (hr.mono (by decide)) (da_cons (de_var 8) da_nil)) da_nil)) (de_var 7))))) (dss_one (ds_ret de_bl)) dss_nil) (dss_one (ds_if (dt_ne (rm64 hr) (de_sub (de_fn c__law_run hg (hr.mono (by decide)) (da_cons (de_var 3) (da_cons (de_fn c__law_expand hg (hr.mono (by decide)) (da_cons (de_var 8) da_nil)) da_nil))) de_int) (de_var 6)) (dss_one (ds_ret de_bl)) dss_nil)))))))) (dss_one (ds_ret de_bl)))))))) (vc_law)
end
theorem all_law {P : Program} {w : World} {K : PySem.W.Frag} {h : Heap} {mg : Str → Option Value} {fa f : Addr} (X : K.In h) (G : h.Ns mainGlobals mg) (hfa : mg "law" = some (.ref fa)) (F_is_integer : FunAt K mg "is_integer" s_is_integer ["value"]) (F_is_bag : FunAt K mg "is_bag" s_is_bag ["value"]) (F_check_bag : FunAt K mg "check_bag" s_check_bag ["value"]) (F_from_counts : FunAt K mg "from_counts" s_from_counts ["counts"]) (F_subtract : FunAt K mg "subtract" s_subtract ["bag", "other"]) (F_total : FunAt K mg "total" s_total ["bag"]) (F_level : FunAt K mg "level" s_level ["bag", "number"]) (F_drop : FunAt K mg "drop" s_drop ["bag", "count"]) (F_insert_steps : FunAt K mg "insert_steps" s_insert_steps ["bag"]) (F_removals_needed : FunAt K mg "removals_needed" s_removals_needed ["start", "goal"]) (F_distance : FunAt K mg "distance" s_distance ["start", "goal"]) (F_plan : FunAtN K mg "plan" s_plan ["start", "goal", "stock"] 2 [] gNon) (F__law_draw : FunAt K mg "_law_draw" s__law_draw ["pool", "count"]) (F__law_base : FunAt K mg "_law_base" s__law_base ["pool"]) (F__law_bag : FunAt K mg "_law_bag" s__law_bag ["numbers"]) (F__law_run : FunAt K mg "_law_run" s__law_run ["heap", "steps"]) (F__law_expand : FunAt K mg "_law_expand" s__law_expand ["program"]) (F__law_distances : FunAt K mg "_law_distances" s__law_distances ["start", "numbers", "most"]) (z_any : mg "any" = none) (z_bool : mg "bool" = none) (z_dict : mg "dict" = none) (z_int : mg "int" = none) (z_isinstance : mg "isinstance" = none) (z_len : mg "len" = none) (z_list : mg "list" = none) (z_min : mg "min" = none) (z_range : mg "range" = none) (z_repr : mg "repr" = none) (z_set : mg "set" = none) (z_sorted : mg "sorted" = none) (z_sum : mg "sum" = none) (z_tuple : mg "tuple" = none) {od an : Option Addr} {sl : Array (Option Value)} {oc kV dc pm cd ct : Value} (a : PySem.W.nsIn K mainGlobals "law" = some (some (.ref f))) (l : K.lookup f = some ⟨oc, od, .func (PySem.W.fnOf "law" "law" (defArgs s_law) (defBody s_law) (defScope s_law) .none kV dc pm an cd ct), sl⟩) (c : PySem.W.codeIn K cd "law" = true) (k : PySem.W.keepIn K (.ref f) = true) : ∃ fd : FuncData, (∀ (s : Shared) (v : Value), BindsTo s fd ⟨[v], []⟩ [("script", v)]) ∧ ∀ base : Heap, K.In base → base.Ns mainGlobals mg → FnG P w K mg base CX0 5 fa fd ["script"] (liSp K S_law) := by
  have e := hfa.symm.trans (PySem.W.mg_of X G a)
  cases e
  refine ⟨PySem.W.fnOf "law" "law" (defArgs s_law) (defBody s_law) (defScope s_law) .none kV dc pm an cd ct, fun s v => .of_eq rfl, fun base _ _ => ?_⟩
  have c_is_integer := ok_is_integer (P := P) (w := w) (base := base) F_is_integer  z_bool z_int z_isinstance
  have c_is_bag := ok_is_bag (P := P) (w := w) (base := base) F_is_bag c_is_integer z_isinstance z_len z_tuple
  have c_check_bag := ok_check_bag (P := P) (w := w) (base := base) F_check_bag c_is_bag 
  have c_from_counts := ok_from_counts (P := P) (w := w) (base := base) F_from_counts  z_sorted z_tuple
  have c_subtract := ok_subtract (P := P) (w := w) (base := base) F_subtract c_from_counts z_any z_dict
  have c_total := ok_total (P := P) (w := w) (base := base) F_total  z_sum
  have c_level := ok_level (P := P) (w := w) (base := base) F_level  z_sum
  have c_drop := ok_drop (P := P) (w := w) (base := base) F_drop  z_min z_tuple
  have c_insert_steps := ok_insert_steps (P := P) (w := w) (base := base) F_insert_steps  z_tuple
  have c_removals_needed := ok_removals_needed (P := P) (w := w) (base := base) F_removals_needed c_level z_dict
  have c_distance := ok_distance (P := P) (w := w) (base := base) F_distance c_check_bag c_removals_needed c_total 
  have c_plan := ok_plan (P := P) (w := w) (base := base) F_plan c_check_bag c_drop c_insert_steps c_removals_needed c_subtract 
  have c__law_draw := ok__law_draw (P := P) (w := w) (base := base) F__law_draw  z_len
  have c__law_base := ok__law_base (P := P) (w := w) (base := base) F__law_base c__law_draw 
  have c__law_bag := ok__law_bag (P := P) (w := w) (base := base) F__law_bag  z_set z_sorted z_tuple
  have c__law_run := ok__law_run (P := P) (w := w) (base := base) F__law_run  z_len z_range z_sorted
  have c__law_expand := ok__law_expand (P := P) (w := w) (base := base) F__law_expand  
  have c__law_distances := ok__law_distances (P := P) (w := w) (base := base) F__law_distances  z_len z_list z_sorted z_tuple
  exact ok_law (funK_mk (st := s_law) l c) c__law_bag c__law_base c__law_distances c__law_draw c__law_expand c__law_run c_distance c_plan z_isinstance z_len z_list z_range z_repr z_sorted z_tuple
end K66
open PySem PySem.W PyProof.Rows in
set_option maxRecDepth 100000 in
set_option maxHeartbeats 0 in
theorem PySem.Challenge.cw_heapeffects_k66_distances_by_search_holds : PySem.Challenge.rw_heapeffects_k66_distances_by_search.Holds := by
  w_on; o_law; k_head; (case hw => w_witness2)
  k_fill
  refine L3.walk_D (l := PySem.Challenge.rw_heapeffects_k66_distances_by_search) (k := 5) (x := "script") (S := fun _ => K66.S_law) rfl rfl ⟨rfl, by decide, by decide⟩ (fun w h Y => PySem.W.kIn_of Y) ?F (fun _ ns hl hb => K66.law_holds ns hl hb)
  case F =>
    intro w mg fa h KX G hmg
    refine' L3.none_then KX G (n := "any") ?z (fun z_any => ?_)
    (case z => k_is)
    refine' L3.none_then KX G (n := "bool") ?z (fun z_bool => ?_)
    (case z => k_is)
    refine' L3.none_then KX G (n := "dict") ?z (fun z_dict => ?_)
    (case z => k_is)
    refine' L3.none_then KX G (n := "int") ?z (fun z_int => ?_)
    (case z => k_is)
    refine' L3.none_then KX G (n := "isinstance") ?z (fun z_isinstance => ?_)
    (case z => k_is)
    refine' L3.none_then KX G (n := "len") ?z (fun z_len => ?_)
    (case z => k_is)
    refine' L3.none_then KX G (n := "list") ?z (fun z_list => ?_)
    (case z => k_is)
    refine' L3.none_then KX G (n := "min") ?z (fun z_min => ?_)
    (case z => k_is)
    refine' L3.none_then KX G (n := "range") ?z (fun z_range => ?_)
    (case z => k_is)
    refine' L3.none_then KX G (n := "repr") ?z (fun z_repr => ?_)
    (case z => k_is)
    refine' L3.none_then KX G (n := "set") ?z (fun z_set => ?_)
    (case z => k_is)
    refine' L3.none_then KX G (n := "sorted") ?z (fun z_sorted => ?_)
    (case z => k_is)
    refine' L3.none_then KX G (n := "sum") ?z (fun z_sum => ?_)
    (case z => k_is)
    refine' L3.none_then KX G (n := "tuple") ?z (fun z_tuple => ?_)
    (case z => k_is)
    refine' L3.funAt_then KX G (n := "is_integer") (st := K66.s_is_integer) (ps := ["value"]) ?a ?l ?c ?k ?b (fun F_is_integer => ?_)
    (case a => k_is); (case l => k_is); (case c => k_is); (case k => k_is); (case b => exact fun _ _ _ _ _ _ us hl => match us, hl with | [_], _ => rfl)
    refine' L3.funAt_then KX G (n := "is_bag") (st := K66.s_is_bag) (ps := ["value"]) ?a ?l ?c ?k ?b (fun F_is_bag => ?_)
    (case a => k_is); (case l => k_is); (case c => k_is); (case k => k_is); (case b => exact fun _ _ _ _ _ _ us hl => match us, hl with | [_], _ => rfl)
    refine' L3.funAt_then KX G (n := "check_bag") (st := K66.s_check_bag) (ps := ["value"]) ?a ?l ?c ?k ?b (fun F_check_bag => ?_)
    (case a => k_is); (case l => k_is); (case c => k_is); (case k => k_is); (case b => exact fun _ _ _ _ _ _ us hl => match us, hl with | [_], _ => rfl)
    refine' L3.funAt_then KX G (n := "from_counts") (st := K66.s_from_counts) (ps := ["counts"]) ?a ?l ?c ?k ?b (fun F_from_counts => ?_)
    (case a => k_is); (case l => k_is); (case c => k_is); (case k => k_is); (case b => exact fun _ _ _ _ _ _ us hl => match us, hl with | [_], _ => rfl)
    refine' L3.funAt_then KX G (n := "subtract") (st := K66.s_subtract) (ps := ["bag", "other"]) ?a ?l ?c ?k ?b (fun F_subtract => ?_)
    (case a => k_is); (case l => k_is); (case c => k_is); (case k => k_is); (case b => exact fun _ _ _ _ _ _ us hl => match us, hl with | [_, _], _ => rfl)
    refine' L3.funAt_then KX G (n := "total") (st := K66.s_total) (ps := ["bag"]) ?a ?l ?c ?k ?b (fun F_total => ?_)
    (case a => k_is); (case l => k_is); (case c => k_is); (case k => k_is); (case b => exact fun _ _ _ _ _ _ us hl => match us, hl with | [_], _ => rfl)
    refine' L3.funAt_then KX G (n := "level") (st := K66.s_level) (ps := ["bag", "number"]) ?a ?l ?c ?k ?b (fun F_level => ?_)
    (case a => k_is); (case l => k_is); (case c => k_is); (case k => k_is); (case b => exact fun _ _ _ _ _ _ us hl => match us, hl with | [_, _], _ => rfl)
    refine' L3.funAt_then KX G (n := "drop") (st := K66.s_drop) (ps := ["bag", "count"]) ?a ?l ?c ?k ?b (fun F_drop => ?_)
    (case a => k_is); (case l => k_is); (case c => k_is); (case k => k_is); (case b => exact fun _ _ _ _ _ _ us hl => match us, hl with | [_, _], _ => rfl)
    refine' L3.funAt_then KX G (n := "insert_steps") (st := K66.s_insert_steps) (ps := ["bag"]) ?a ?l ?c ?k ?b (fun F_insert_steps => ?_)
    (case a => k_is); (case l => k_is); (case c => k_is); (case k => k_is); (case b => exact fun _ _ _ _ _ _ us hl => match us, hl with | [_], _ => rfl)
    refine' L3.funAt_then KX G (n := "removals_needed") (st := K66.s_removals_needed) (ps := ["start", "goal"]) ?a ?l ?c ?k ?b (fun F_removals_needed => ?_)
    (case a => k_is); (case l => k_is); (case c => k_is); (case k => k_is); (case b => exact fun _ _ _ _ _ _ us hl => match us, hl with | [_, _], _ => rfl)
    refine' L3.funAt_then KX G (n := "distance") (st := K66.s_distance) (ps := ["start", "goal"]) ?a ?l ?c ?k ?b (fun F_distance => ?_)
    (case a => k_is); (case l => k_is); (case c => k_is); (case k => k_is); (case b => exact fun _ _ _ _ _ _ us hl => match us, hl with | [_, _], _ => rfl)
    refine' L3.funAtN0_then KX G (n := "plan") (st := K66.s_plan) (ps := ["start", "goal", "stock"]) (m := 2) (kn := "stock") ?a ?l ?c ?k ?dk ?b (fun F_plan => ?_)
    (case a => k_is); (case l => k_is); (case c => k_is); (case k => k_is); (case dk => k_is); (case b => exact fun _ _ _ _ _ _ us mv ws h1 h2 h3 => match us, mv, ws with | [_, _], [_], [] => ⟨_, _, _, _, _, _, rfl, rfl, rfl⟩)
    refine' L3.funAt_then KX G (n := "_law_draw") (st := K66.s__law_draw) (ps := ["pool", "count"]) ?a ?l ?c ?k ?b (fun F__law_draw => ?_)
    (case a => k_is); (case l => k_is); (case c => k_is); (case k => k_is); (case b => exact fun _ _ _ _ _ _ us hl => match us, hl with | [_, _], _ => rfl)
    refine' L3.funAt_then KX G (n := "_law_base") (st := K66.s__law_base) (ps := ["pool"]) ?a ?l ?c ?k ?b (fun F__law_base => ?_)
    (case a => k_is); (case l => k_is); (case c => k_is); (case k => k_is); (case b => exact fun _ _ _ _ _ _ us hl => match us, hl with | [_], _ => rfl)
    refine' L3.funAt_then KX G (n := "_law_bag") (st := K66.s__law_bag) (ps := ["numbers"]) ?a ?l ?c ?k ?b (fun F__law_bag => ?_)
    (case a => k_is); (case l => k_is); (case c => k_is); (case k => k_is); (case b => exact fun _ _ _ _ _ _ us hl => match us, hl with | [_], _ => rfl)
    refine' L3.funAt_then KX G (n := "_law_run") (st := K66.s__law_run) (ps := ["heap", "steps"]) ?a ?l ?c ?k ?b (fun F__law_run => ?_)
    (case a => k_is); (case l => k_is); (case c => k_is); (case k => k_is); (case b => exact fun _ _ _ _ _ _ us hl => match us, hl with | [_, _], _ => rfl)
    refine' L3.funAt_then KX G (n := "_law_expand") (st := K66.s__law_expand) (ps := ["program"]) ?a ?l ?c ?k ?b (fun F__law_expand => ?_)
    (case a => k_is); (case l => k_is); (case c => k_is); (case k => k_is); (case b => exact fun _ _ _ _ _ _ us hl => match us, hl with | [_], _ => rfl)
    refine' L3.funAt_then KX G (n := "_law_distances") (st := K66.s__law_distances) (ps := ["start", "numbers", "most"]) ?a ?l ?c ?k ?b (fun F__law_distances => ?_)
    (case a => k_is); (case l => k_is); (case c => k_is); (case k => k_is); (case b => exact fun _ _ _ _ _ _ us hl => match us, hl with | [_, _, _], _ => rfl)
    refine' K66.all_law KX G hmg F_is_integer F_is_bag F_check_bag F_from_counts F_subtract F_total F_level F_drop F_insert_steps F_removals_needed F_distance F_plan F__law_draw F__law_base F__law_bag F__law_run F__law_expand F__law_distances z_any z_bool z_dict z_int z_isinstance z_len z_list z_min z_range z_repr z_set z_sorted z_sum z_tuple ?a ?l ?c ?k
    (case a => k_is); (case l => k_is); (case c => k_is); (case k => k_is)
#print axioms PySem.Challenge.cw_heapeffects_k66_distances_by_search_holds
